import PyProof.Rows.All
import Wide.All
import OpenK.AllK
import Wide.FinOn
import KE.IntBitsLaws
import PySem.Challenge.RW_pf0196_01
set_option Elab.async false
section
namespace Mine
theorem sub_refl {α : Type} (A : List α) : ∀ p ∈ A, p ∈ A := fun _ h => h
theorem mem_head {α : Type} (a : α) (l : List α) : a ∈ a :: l := List.Mem.head l
theorem mem_tail {α : Type} {a b : α} {l : List α} (h : a ∈ l) : a ∈ b :: l := List.Mem.tail b h
theorem sub_cons {α : Type} {A B : List α} {b : α} (h : ∀ p ∈ A, p ∈ B) : ∀ p ∈ A, p ∈ b :: B := fun p m => .tail _ (h p m)
theorem gcd_turn {f s : Int} {g : Nat} (h0 : 0 ≤ s) (h1 : s > 0) (h2 : f.gcd s = g) : 0 ≤ s ∧ 0 ≤ f.fmod s ∧ s.gcd (f.fmod s) = g := by
  refine ⟨h0, Int.fmod_nonneg_of_pos _ h1, ?_⟩
  rw [Int.fmod_eq_emod_of_nonneg _ h0, ← h2, Int.gcd_comm f s]
  have := Int.gcd_add_mul_right_right s (f % s) (f / s)
  rw [← this]
  congr 1
  have := Int.emod_add_mul_ediv f s
  rw [Int.mul_comm] at this; exact this
theorem gcd_less {f s : Int} (h1 : s > 0) : (f.fmod s).toNat < s.toNat := by
  have := Int.fmod_lt_of_pos f h1
  have := Int.fmod_nonneg_of_pos f h1
  omega
theorem gcd_start {one other : Int} (h0 : 0 ≤ other) : (0 ≤ if one < 0 then -one else one) ∧ 0 ≤ other ∧ (if one < 0 then -one else one).gcd other = (if one < 0 then -one else one).gcd other := by
  refine ⟨by split <;> omega, h0, rfl⟩
theorem gcd_end {one other f s : Int} (h0 : 0 ≤ f) (h1 : 0 ≤ s) (h2 : ¬ s > 0) (h : f.gcd s = (if one < 0 then -one else one).gcd other) : f = (one.gcd other : Int) := by
  have : s = 0 := by omega
  subst this
  have e : (if one < 0 then -one else one).gcd other = one.gcd other := by split <;> simp
  rw [e] at h
  rw [← h]; simp; omega
/-- what fraction() reckons, for a bottom that is not 0 -/
theorem frac_pos {top bottom : Int} (h : 0 < bottom) : top.fdiv (top.gcd bottom) = (Rat.divInt top bottom).num ∧ bottom.fdiv (top.gcd bottom) = ((Rat.divInt top bottom).den : Int) := by
  rw [Rat.num_divInt, Rat.den_divInt, if_neg (by omega), Int.gcd_comm bottom top]
  have hs : bottom.sign = 1 := Int.sign_eq_one_of_pos h
  rw [hs, Int.one_mul, Int.fdiv_eq_ediv_of_nonneg _ (by omega), Int.fdiv_eq_ediv_of_nonneg _ (by omega)]
  refine ⟨rfl, ?_⟩
  rw [Int.natCast_ediv]
  congr 1; omega
theorem frac_neg {top bottom : Int} (h : bottom < 0) : (-top).fdiv ((-top).gcd (-bottom)) = (Rat.divInt top bottom).num ∧ (-bottom).fdiv ((-top).gcd (-bottom)) = ((Rat.divInt top bottom).den : Int) := by
  have := frac_pos (top := -top) (bottom := -bottom) (by omega)
  rwa [Rat.neg_divInt_neg] at this
theorem den_ne (x : Rat) : (x.den : Int) ≠ 0 := by have := x.den_nz; omega
theorem den_pos (x : Rat) : 0 < (x.den : Int) := by have := x.den_nz; omega
theorem r_add (x y : Rat) : Rat.divInt (x.num * y.den + y.num * x.den) (x.den * y.den) = x + y := by
  rw [← Rat.divInt_add_divInt _ _ (den_ne x) (den_ne y), Rat.num_divInt_den, Rat.num_divInt_den]
theorem r_sub (x y : Rat) : Rat.divInt (x.num * y.den - y.num * x.den) (x.den * y.den) = x - y := by
  rw [← Rat.divInt_sub_divInt _ _ (den_ne x) (den_ne y), Rat.num_divInt_den, Rat.num_divInt_den]
theorem r_mul (x y : Rat) : Rat.divInt (x.num * y.num) (x.den * y.den) = x * y := by
  rw [← Rat.divInt_mul_divInt, Rat.num_divInt_den, Rat.num_divInt_den]
theorem r_div (x y : Rat) : Rat.divInt (x.num * y.den) (x.den * y.num) = x / y := by
  rw [Rat.div_def, ← Rat.divInt_mul_divInt, Rat.num_divInt_den, ← Rat.inv_divInt, Rat.num_divInt_den]
theorem gcd_end' {one other f s : Int} (h9 : 0 < other) (h0 : 0 ≤ f) (h1 : 0 ≤ s) (h2 : ¬ s > 0) (h : f.gcd s = (if one < 0 then -one else one).gcd other) : f = (one.gcd other : Int) ∧ 0 < f := by
  have e := gcd_end h0 h1 h2 h
  refine ⟨e, ?_⟩
  rw [e]
  have : 0 < one.gcd other := Int.gcd_pos_of_ne_zero_right _ (by omega)
  omega
end Mine
end
section
open PySem
namespace Mine
structure Bi (n : Nat) (x : Int) : Prop where
  le : Builtin.Int.intBits x ≤ n
structure Br (n : Nat) (x : Rat) : Prop where
  num : Bi n x.num
  den : Bi n x.den
theorem Bi.to {n : Nat} {x : Int} (h : Bi n x) : x.natAbs < 2 ^ n := intBits_le_iff.mp h.le
theorem Bi.of {n : Nat} {x : Int} (h : x.natAbs < 2 ^ n) : Bi n x := ⟨intBits_le_iff.mpr h⟩
theorem Bi.up {n m : Nat} {x : Int} (h : Bi n x) (k : n ≤ m) : Bi m x := ⟨Nat.le_trans h.le k⟩
theorem Br.up {n m : Nat} {x : Rat} (h : Br n x) (k : n ≤ m) : Br m x := ⟨h.num.up k, h.den.up k⟩
theorem Bi.mul {m n : Nat} {x y : Int} (hx : Bi m x) (hy : Bi n y) : Bi (m + n) (x * y) := ⟨intBits_mul_le hx.le hy.le⟩
theorem Bi.add {m : Nat} {x y : Int} (hx : Bi m x) (hy : Bi m y) : Bi (m + 1) (x + y) := ⟨by have := intBits_add_le hx.le hy.le; omega⟩
theorem Bi.sub {m : Nat} {x y : Int} (hx : Bi m x) (hy : Bi m y) : Bi (m + 1) (x - y) := ⟨by have := intBits_sub_le hx.le hy.le; omega⟩
theorem Bi.neg {m : Nat} {x : Int} (hx : Bi m x) : Bi m (-x) := ⟨intBits_neg_le hx.le⟩
theorem Bi.log {m : Nat} {x : Int} (hx : Bi m x) (h : m ≤ 8000) : x.natAbs.log2 < 9000 := by
  by_cases h0 : x.natAbs = 0
  · rw [h0]; decide +kernel
  · have := (Nat.log2_lt h0).mpr hx.to; omega
theorem Bi.gcd {m : Nat} {x y : Int} (hy : Bi m y) (h : y ≠ 0) : Bi m (x.gcd y : Int) := by
  refine Bi.of (Nat.lt_of_le_of_lt ?_ hy.to)
  show ((x.gcd y : Nat) : Int).natAbs ≤ _
  rw [Int.natAbs_natCast]
  exact Nat.le_of_dvd (by omega) (by rw [Int.gcd_eq_natAbs_gcd_natAbs]; exact Nat.gcd_dvd_right _ _)
theorem Br.divInt {m : Nat} {x y : Int} (hx : Bi m x) (hy : Bi m y) (h : y ≠ 0) : Br m (Rat.divInt x y) := by
  constructor
  · refine Bi.of (Nat.lt_of_le_of_lt ?_ hx.to)
    rw [Rat.num_divInt]
    refine Nat.le_trans (Int.natAbs_ediv_le_natAbs _ _) ?_
    rw [Int.natAbs_mul]
    have : y.sign.natAbs = 1 := by rw [Int.natAbs_sign]; simp [h]
    rw [this]; omega
  · refine Bi.of (Nat.lt_of_le_of_lt ?_ hy.to)
    rw [Rat.den_divInt, if_neg h, Int.natAbs_natCast]
    exact Nat.div_le_self _ _
theorem Br.add {m n : Nat} {x y : Rat} (hx : Br m x) (hy : Br n y) : Br (m + n + 1) (x + y) := by
  rw [← r_add]
  refine Br.divInt (Bi.add (hx.num.mul hy.den) (by have := hy.num.mul hx.den; rwa [Nat.add_comm] at this)) ((hx.den.mul hy.den).up (by omega)) (Int.mul_ne_zero (den_ne x) (den_ne y))
theorem Br.sub {m n : Nat} {x y : Rat} (hx : Br m x) (hy : Br n y) : Br (m + n + 1) (x - y) := by
  rw [← r_sub]
  refine Br.divInt (Bi.sub (hx.num.mul hy.den) (by have := hy.num.mul hx.den; rwa [Nat.add_comm] at this)) ((hx.den.mul hy.den).up (by omega)) (Int.mul_ne_zero (den_ne x) (den_ne y))
theorem Br.mul {m n : Nat} {x y : Rat} (hx : Br m x) (hy : Br n y) : Br (m + n) (x * y) := by
  rw [← r_mul]
  exact Br.divInt (hx.num.mul hy.num) (hx.den.mul hy.den) (Int.mul_ne_zero (den_ne x) (den_ne y))
theorem num_ne {x : Rat} (h : x ≠ 0) : x.num ≠ 0 := fun e => h (Rat.num_eq_zero.mp e)
theorem ne_of_num {x : Rat} (h : ¬ x.num = 0) : x ≠ 0 := fun e => h (by rw [e]; rfl)
theorem Br.div {m n : Nat} {x y : Rat} (hx : Br m x) (hy : Br n y) (h : y ≠ 0) : Br (m + n) (x / y) := by
  rw [← r_div]
  exact Br.divInt (hx.num.mul hy.den) (hx.den.mul hy.num) (Int.mul_ne_zero (den_ne x) (num_ne h))
theorem Br.neg {m : Nat} {x : Rat} (hx : Br m x) : Br m (-x) := ⟨hx.num.neg, hx.den⟩
theorem cd_out {n : Nat} {one other f s : Int} (h9 : 0 < other) (hn : Bi n other) (h0 : 0 ≤ f) (h1 : 0 ≤ s) (h2 : ¬ s > 0) (h : f.gcd s = (if one < 0 then -one else one).gcd other) : f = (one.gcd other : Int) ∧ 0 < f ∧ Bi n f :=
  have e := gcd_end' h9 h0 h1 h2 h
  ⟨e.1, e.2, e.1 ▸ Bi.gcd hn (by omega)⟩
theorem cmp_lt (x y : Rat) : x.num * y.den - y.num * x.den < 0 ↔ x < y := by rw [Rat.lt_iff]; omega
theorem cmp_gt (x y : Rat) : x.num * y.den - y.num * x.den > 0 ↔ y < x := by rw [Rat.lt_iff]; omega
theorem cmp_eq (x y : Rat) : x.num * y.den - y.num * x.den = 0 ↔ x = y := by
  have h1 := cmp_lt x y
  have h2 := cmp_gt x y
  constructor
  · intro h
    have a1 : ¬ x < y := fun q => by have := h1.mpr q; omega
    have a2 : ¬ y < x := fun q => by have := h2.mpr q; omega
    exact Rat.le_antisymm (Rat.not_lt.mp a2) (Rat.not_lt.mp a1)
  · intro h
    subst h
    omega
theorem cmp_out {x y : Rat} {k c : Int} (e : k = x.num * y.den - y.num * x.den) (h : (c < 0 ↔ (k : Rat).num < 0) ∧ (c = 0 ↔ (k : Rat).num = 0) ∧ (c > 0 ↔ (k : Rat).num > 0)) : (c < 0 ↔ x < y) ∧ (c = 0 ↔ x = y) ∧ (c > 0 ↔ y < x) := by
  have e' : (k : Rat).num = k := rfl
  rw [e', e] at h
  rw [← cmp_lt, ← cmp_eq, ← cmp_gt]
  exact h
theorem cd_out2 {n : Nat} {one other f s : Int} (h : f.gcd s = (if one < 0 then -one else one).gcd other) (h9 : 0 < other) (hn : Bi n other) (h0 : 0 ≤ f) (h1 : 0 ≤ s) (h2 : ¬ s > 0) : f = (one.gcd other : Int) ∧ 0 < f ∧ Bi n f := cd_out h9 hn h0 h1 h2 h
end Mine
end
section
open PySem PySem.W PyProof.Rows
set_option Elab.async false
set_option maxRecDepth 100000
set_option maxHeartbeats 8000000
set_option linter.all false
namespace Mine
abbrev rowP : RowW := PySem.Challenge.rw_pf0196_01.row.toRowW
noncomputable def PW : Program := PySem.Challenge.rw_pf0196_01.row.toRowW.1
noncomputable def sts0 : List Stmt := PW.main.body
noncomputable def bdy (l : List Stmt) (i : Nat) : List Stmt := match l[i]? with
  | some (.FunctionDef _ _ b _ _ _ _ _ _ _) => b
  | some (.ClassDef _ _ _ b _ _ _ _ _ _ _) => b
  | _ => []
def touch {α : Type} (_ : α) : Bool := true
noncomputable def vw : Program := view PW [0, 2, 3, 4, 5, 7, 8, 9, 10, 11, 13, 14, 15, 16, 17, 18, 19, 20, 21, 22, 23, 24, 25, 27, 28, 29, 30, 31, 32, 33, 34, 35, 36, 40, 41, 43, 44, 45, 46, 48, 50, 51, 52, 53, 54, 55, 56, 57, 58, 59, 60, 61, 62]
noncomputable def lse : List Str := [Str.ofString "fraction", Str.ofString "PI_BOTTOM", Str.ofString "MORE", Str.ofString "turn_of", Str.ofString "tangent_of", Str.ofString "fitted"]
noncomputable def lvs : List (Str × WData) := [(Str.ofString "PI_BOTTOM", WData.int 100000000000000000000000000000000000000000000000000), (Str.ofString "MORE", WData.int 65536)]
noncomputable def xtt (s : Shared) : Bool := xlAt vw lvs s && recOk (RowW.records PySem.Challenge.rw_pf0196_01.row.toRowW) s
noncomputable def EV : Env := { scope := PW.main.scope, locals := mainNs, globals := mainNs, cells := [], code := .ref 13, frame := some 14 }
noncomputable def BO : List Stmt := behindTheImports PW
noncomputable def cE : Code := .body BO EV

noncomputable def o43 (P : Params) : Obj := ⟨(.«type» "tuple"), none, (.seq #[] 0), #[]⟩
noncomputable def o44 (P : Params) : Obj := ⟨.none, none, (.fields #[]), #[]⟩
noncomputable def o45 (P : Params) : Obj := ⟨(.«type» "code"), none, (.fields #[(.str (.ofString "<module>") 182), (.str (.ofString "<module>") 183), (.str (.ofString "/claim/cut.py") 184), (.int 1 0), (.int 0 0), (.int 0 0), (.int 0 0), (.int 0 0), (.ref 11), (.bool false), (.int 181 0), (.ref 12), .none, .none, .none, .none, (.int 185 0), (.int 1 0), (.str (.ofString "/claim/cut.py") 186)]), #[]⟩
noncomputable def o46 (P : Params) : Obj := ⟨(.«type» "frame"), none, .plain, #[(some (.ref 13)), (some (.ref 3)), (some (.ref 3)), none, (some (.str (.ofString "__main__") 164)), none, (some (.ref 0))]⟩
noncomputable def o49 (P : Params) : Obj := ⟨.none, none, (.dict #[⟨(PySem.PyData.keyHash P (.ofString "type.__subclasses__.Exception.0")), (.str (.ofString "type.__subclasses__.Exception.0") 221), (.int 38 0)⟩, ⟨(PySem.PyData.keyHash P (.ofString "type.__subclasses__.Exception.n")), (.str (.ofString "type.__subclasses__.Exception.n") 222), (.int 1 0)⟩] 2), #[]⟩
noncomputable def o52 (P : Params) : Obj := ⟨(.«type» "tuple"), none, (.seq #[] 0), #[]⟩
noncomputable def o53 (P : Params) : Obj := ⟨.none, none, (.fields #[]), #[]⟩
noncomputable def o54 (P : Params) : Obj := ⟨(.«type» "tuple"), none, (.seq #[(.str (.ofString "k") 190)] 0), #[]⟩
noncomputable def o55 (P : Params) : Obj := ⟨(.«type» "tuple"), none, (.seq #[] 0), #[]⟩
noncomputable def o56 (P : Params) : Obj := ⟨.none, none, (.func ⟨(.ofString "_wall"), (.ofString "_wall"), ⟨[], [⟨(.ofString "k"), none, ⟨1, 10, 1, 11⟩⟩], none, [], [], none, []⟩, (.stmts (bdy (sts0) 0)), ⟨.function, [((.ofString "k"), .local)], false, false, []⟩, 0, [], .none, .none, .none, .none, none, .none, .none, 0⟩), #[]⟩
noncomputable def o57 (P : Params) : Obj := ⟨(.«type» "code"), none, (.fields #[(.str (.ofString "_wall") 187), (.str (.ofString "_wall") 188), (.str (.ofString "/claim/cut.py") 189), (.int 1 0), (.int 1 0), (.int 0 0), (.int 0 0), (.int 3 0), (.ref 15), (.bool true), (.int 181 0), (.ref 16), .none, (.ref 17), (.ref 18), (.ref 19), (.int 191 0), (.int 1 0), (.str (.ofString "/claim/cut.py") 192)]), #[]⟩
noncomputable def o58 (P : Params) : Obj := ⟨(.«type» "function"), none, (.func ⟨(.ofString "_wall"), (.ofString "_wall"), ⟨[], [⟨(.ofString "k"), none, ⟨1, 10, 1, 11⟩⟩], none, [], [], none, []⟩, (.stmts (bdy (sts0) 0)), ⟨.function, [((.ofString "k"), .local)], false, false, []⟩, 3, [], .none, .none, .none, (.str (.ofString "__main__") 164), none, (.ref 20), .none, 0⟩), #[]⟩
noncomputable def o59 (P : Params) : Obj := ⟨(.«type» "tuple"), none, (.seq #[(.«type» "Exception")] 0), #[]⟩
noncomputable def o60 (P : Params) : Obj := ⟨(.«type» "builtin_function_or_method"), none, (.fields #[(.builtin "type.__prepare__"), (.«type» "type")]), #[]⟩
noncomputable def o61 (P : Params) : Obj := ⟨(.«type» "dict"), none, (.dict #[⟨(PySem.PyData.keyHash P (.ofString "__module__")), (.str (.ofString "__module__") 203), (.str (.ofString "outlinemill.errors") 194)⟩, ⟨(PySem.PyData.keyHash P (.ofString "__qualname__")), (.str (.ofString "__qualname__") 205), (.str (.ofString "MillError") 204)⟩, ⟨(PySem.PyData.keyHash P (.ofString "__firstlineno__")), (.str (.ofString "__firstlineno__") 207), (.int 5 206)⟩, ⟨(PySem.PyData.keyHash P (.ofString "__init__")), (.str (.ofString "__init__") 215), (.ref 35)⟩, ⟨(PySem.PyData.keyHash P (.ofString "__static_attributes__")), (.str (.ofString "__static_attributes__") 217), (.ref 36)⟩] 5), #[]⟩
noncomputable def o62 (P : Params) : Obj := ⟨(.«type» "tuple"), none, (.seq #[] 0), #[]⟩
noncomputable def o63 (P : Params) : Obj := ⟨.none, none, (.fields #[(.int 7 0), (.int 4 0), (.ref 34)]), #[]⟩
noncomputable def o64 (P : Params) : Obj := ⟨(.«type» "code"), none, (.fields #[(.str (.ofString "MillError") 198), (.str (.ofString "MillError") 199), (.str (.ofString "/claim/cut.py") 200), (.int 5 0), (.int 0 0), (.int 0 0), (.int 0 0), (.int 0 0), (.ref 25), (.bool false), (.int 181 0), (.ref 26), .none, .none, .none, .none, (.int 201 0), (.int 5 0), (.str (.ofString "/claim/cut.py") 202)]), #[]⟩
noncomputable def o65 (P : Params) : Obj := ⟨(.«type» "frame"), none, .plain, #[(some (.ref 27)), (some (.ref 3)), (some (.ref 24)), none, (some (.str (.ofString "outlinemill.errors") 194)), none, (some (.ref 0))]⟩
noncomputable def o66 (P : Params) : Obj := ⟨(.«type» "tuple"), none, (.seq #[] 0), #[]⟩
noncomputable def o67 (P : Params) : Obj := ⟨.none, none, (.fields #[]), #[]⟩
noncomputable def o68 (P : Params) : Obj := ⟨(.«type» "tuple"), none, (.seq #[(.str (.ofString "self") 211), (.str (.ofString "message") 212)] 0), #[]⟩
noncomputable def o69 (P : Params) : Obj := ⟨(.«type» "tuple"), none, (.seq #[] 0), #[]⟩
noncomputable def o70 (P : Params) : Obj := ⟨.none, none, (.func ⟨(.ofString "__init__"), (.ofString "MillError.__init__"), ⟨[], [⟨(.ofString "self"), none, ⟨7, 17, 7, 21⟩⟩, ⟨(.ofString "message"), none, ⟨7, 23, 7, 30⟩⟩], none, [], [], none, []⟩, (.stmts (bdy (bdy (sts0) 2) 0)), ⟨.function, [((.ofString "self"), .local), ((.ofString "message"), .local)], false, false, []⟩, 0, [], .none, .none, .none, .none, none, .none, .none, 0⟩), #[]⟩
noncomputable def o71 (P : Params) : Obj := ⟨(.«type» "code"), none, (.fields #[(.str (.ofString "__init__") 208), (.str (.ofString "MillError.__init__") 209), (.str (.ofString "/claim/cut.py") 210), (.int 7 0), (.int 2 0), (.int 0 0), (.int 0 0), (.int 3 0), (.ref 29), (.bool true), (.int 181 0), (.ref 30), .none, (.ref 31), (.ref 32), (.ref 33), (.int 213 0), (.int 7 0), (.str (.ofString "/claim/cut.py") 214)]), #[]⟩
noncomputable def o72 (P : Params) : Obj := ⟨(.«type» "function"), none, (.func ⟨(.ofString "__init__"), (.ofString "MillError.__init__"), ⟨[], [⟨(.ofString "self"), none, ⟨7, 17, 7, 21⟩⟩, ⟨(.ofString "message"), none, ⟨7, 23, 7, 30⟩⟩], none, [], [], none, []⟩, (.stmts (bdy (bdy (sts0) 2) 0)), ⟨.function, [((.ofString "self"), .local), ((.ofString "message"), .local)], false, false, []⟩, 3, [], .none, .none, .none, (.str (.ofString "outlinemill.errors") 194), none, (.ref 34), .none, 0⟩), #[]⟩
noncomputable def o73 (P : Params) : Obj := ⟨(.«type» "tuple"), none, (.seq #[(.str (.ofString "message") 216)] 0), #[]⟩
noncomputable def o74 (P : Params) : Obj := ⟨(.«type» "dict"), none, (.dict #[⟨(PySem.PyData.keyHash P (.ofString "__module__")), (.str (.ofString "__module__") 203), (.str (.ofString "outlinemill.errors") 194)⟩, ⟨(PySem.PyData.keyHash P (.ofString "__firstlineno__")), (.str (.ofString "__firstlineno__") 207), (.int 5 206)⟩, ⟨(PySem.PyData.keyHash P (.ofString "__init__")), (.str (.ofString "__init__") 215), (.ref 35)⟩, ⟨(PySem.PyData.keyHash P (.ofString "__static_attributes__")), (.str (.ofString "__static_attributes__") 217), (.ref 36)⟩, ⟨(PySem.PyData.keyHash P (.ofString "__weakref__")), (.str (.ofString "__weakref__") 219), (.ref 39)⟩, ⟨(PySem.PyData.keyHash P (.ofString "__doc__")), (.str (.ofString "__doc__") 220), .none⟩] 3), #[]⟩
noncomputable def o76 (P : Params) : Obj := ⟨(.«type» "getset_descriptor"), none, (.fields #[(.str (.ofString "__weakref__") 218), (.ref 38), (.builtin "ExceptionGroup.__weakref__"), .none]), #[]⟩
noncomputable def o77 (P : Params) : Obj := ⟨(.«type» "super"), none, (.fields #[(.ref 38), (.ref 38), (.ref 38)]), #[]⟩
noncomputable def o78 (P : Params) : Obj := ⟨(.«type» "builtin_function_or_method"), none, (.fields #[(.builtin "object.__init_subclass__"), (.ref 38)]), #[]⟩
noncomputable def o82 (P : Params) : Obj := ⟨(.«type» "tuple"), none, (.seq #[(.ref 38)] 0), #[]⟩
noncomputable def o83 (P : Params) : Obj := ⟨(.«type» "builtin_function_or_method"), none, (.fields #[(.builtin "type.__prepare__"), (.«type» "type")]), #[]⟩
noncomputable def o84 (P : Params) : Obj := ⟨(.«type» "dict"), none, (.dict #[⟨(PySem.PyData.keyHash P (.ofString "__module__")), (.str (.ofString "__module__") 232), (.str (.ofString "outlinemill.errors") 194)⟩, ⟨(PySem.PyData.keyHash P (.ofString "__qualname__")), (.str (.ofString "__qualname__") 234), (.str (.ofString "NumberFault") 233)⟩, ⟨(PySem.PyData.keyHash P (.ofString "__firstlineno__")), (.str (.ofString "__firstlineno__") 236), (.int 9 235)⟩, ⟨(PySem.PyData.keyHash P (.ofString "__static_attributes__")), (.str (.ofString "__static_attributes__") 237), (.ref 49)⟩] 4), #[]⟩
noncomputable def o85 (P : Params) : Obj := ⟨(.«type» "tuple"), none, (.seq #[] 0), #[]⟩
noncomputable def o86 (P : Params) : Obj := ⟨.none, none, (.fields #[]), #[]⟩
noncomputable def o87 (P : Params) : Obj := ⟨(.«type» "code"), none, (.fields #[(.str (.ofString "NumberFault") 227), (.str (.ofString "NumberFault") 228), (.str (.ofString "/claim/cut.py") 229), (.int 9 0), (.int 0 0), (.int 0 0), (.int 0 0), (.int 0 0), (.ref 45), (.bool false), (.int 181 0), (.ref 46), .none, .none, .none, .none, (.int 230 0), (.int 9 0), (.str (.ofString "/claim/cut.py") 231)]), #[]⟩
noncomputable def o88 (P : Params) : Obj := ⟨(.«type» "frame"), none, .plain, #[(some (.ref 47)), (some (.ref 3)), (some (.ref 44)), none, (some (.str (.ofString "outlinemill.errors") 194)), none, (some (.ref 0))]⟩
noncomputable def o89 (P : Params) : Obj := ⟨(.«type» "tuple"), none, (.seq #[] 0), #[]⟩
noncomputable def o90 (P : Params) : Obj := ⟨(.«type» "dict"), none, (.dict #[⟨(PySem.PyData.keyHash P (.ofString "__module__")), (.str (.ofString "__module__") 232), (.str (.ofString "outlinemill.errors") 194)⟩, ⟨(PySem.PyData.keyHash P (.ofString "__firstlineno__")), (.str (.ofString "__firstlineno__") 236), (.int 9 235)⟩, ⟨(PySem.PyData.keyHash P (.ofString "__static_attributes__")), (.str (.ofString "__static_attributes__") 237), (.ref 49)⟩, ⟨(PySem.PyData.keyHash P (.ofString "__doc__")), (.str (.ofString "__doc__") 238), .none⟩] 2), #[]⟩
noncomputable def o91 (P : Params) : Obj := ⟨(.«type» "type"), none, (.cls ⟨(.ofString "NumberFault"), [(.ref 38)], [(.ref 51), (.ref 38), (.«type» "Exception"), (.«type» "BaseException"), (.«type» "object")], 50, (.ofString "NumberFault"), true, [], [], false, none, false⟩), #[(some (.ref 42)), none, (some (.str (.ofString "NumberFault") 225)), (some (.str (.ofString "NumberFault") 233)), (some (.builtin "Exception.__new__")), (some (.bool true))]⟩
noncomputable def o92 (P : Params) : Obj := ⟨(.«type» "super"), none, (.fields #[(.ref 51), (.ref 51), (.ref 51)]), #[]⟩
noncomputable def o93 (P : Params) : Obj := ⟨(.«type» "builtin_function_or_method"), none, (.fields #[(.builtin "object.__init_subclass__"), (.ref 51)]), #[]⟩
noncomputable def o97 (P : Params) : Obj := ⟨(.«type» "tuple"), none, (.seq #[(.ref 38)] 0), #[]⟩
noncomputable def o98 (P : Params) : Obj := ⟨(.«type» "builtin_function_or_method"), none, (.fields #[(.builtin "type.__prepare__"), (.«type» "type")]), #[]⟩
noncomputable def o99 (P : Params) : Obj := ⟨(.«type» "dict"), none, (.dict #[⟨(PySem.PyData.keyHash P (.ofString "__module__")), (.str (.ofString "__module__") 248), (.str (.ofString "outlinemill.errors") 194)⟩, ⟨(PySem.PyData.keyHash P (.ofString "__qualname__")), (.str (.ofString "__qualname__") 250), (.str (.ofString "MatrixFault") 249)⟩, ⟨(PySem.PyData.keyHash P (.ofString "__firstlineno__")), (.str (.ofString "__firstlineno__") 252), (.int 11 251)⟩, ⟨(PySem.PyData.keyHash P (.ofString "__static_attributes__")), (.str (.ofString "__static_attributes__") 253), (.ref 61)⟩] 4), #[]⟩
noncomputable def o100 (P : Params) : Obj := ⟨(.«type» "tuple"), none, (.seq #[] 0), #[]⟩
noncomputable def o101 (P : Params) : Obj := ⟨.none, none, (.fields #[]), #[]⟩
noncomputable def o102 (P : Params) : Obj := ⟨(.«type» "code"), none, (.fields #[(.str (.ofString "MatrixFault") 243), (.str (.ofString "MatrixFault") 244), (.str (.ofString "/claim/cut.py") 245), (.int 11 0), (.int 0 0), (.int 0 0), (.int 0 0), (.int 0 0), (.ref 57), (.bool false), (.int 181 0), (.ref 58), .none, .none, .none, .none, (.int 246 0), (.int 11 0), (.str (.ofString "/claim/cut.py") 247)]), #[]⟩
noncomputable def o103 (P : Params) : Obj := ⟨(.«type» "frame"), none, .plain, #[(some (.ref 59)), (some (.ref 3)), (some (.ref 56)), none, (some (.str (.ofString "outlinemill.errors") 194)), none, (some (.ref 0))]⟩
noncomputable def o104 (P : Params) : Obj := ⟨(.«type» "tuple"), none, (.seq #[] 0), #[]⟩
noncomputable def o105 (P : Params) : Obj := ⟨(.«type» "dict"), none, (.dict #[⟨(PySem.PyData.keyHash P (.ofString "__module__")), (.str (.ofString "__module__") 248), (.str (.ofString "outlinemill.errors") 194)⟩, ⟨(PySem.PyData.keyHash P (.ofString "__firstlineno__")), (.str (.ofString "__firstlineno__") 252), (.int 11 251)⟩, ⟨(PySem.PyData.keyHash P (.ofString "__static_attributes__")), (.str (.ofString "__static_attributes__") 253), (.ref 61)⟩, ⟨(PySem.PyData.keyHash P (.ofString "__doc__")), (.str (.ofString "__doc__") 254), .none⟩] 2), #[]⟩
noncomputable def o106 (P : Params) : Obj := ⟨(.«type» "type"), none, (.cls ⟨(.ofString "MatrixFault"), [(.ref 38)], [(.ref 63), (.ref 38), (.«type» "Exception"), (.«type» "BaseException"), (.«type» "object")], 62, (.ofString "MatrixFault"), true, [], [], false, none, false⟩), #[(some (.ref 54)), none, (some (.str (.ofString "MatrixFault") 241)), (some (.str (.ofString "MatrixFault") 249)), (some (.builtin "Exception.__new__")), (some (.bool true))]⟩
noncomputable def o107 (P : Params) : Obj := ⟨(.«type» "super"), none, (.fields #[(.ref 63), (.ref 63), (.ref 63)]), #[]⟩
noncomputable def o108 (P : Params) : Obj := ⟨(.«type» "builtin_function_or_method"), none, (.fields #[(.builtin "object.__init_subclass__"), (.ref 63)]), #[]⟩
noncomputable def o109 (P : Params) : Obj := ⟨(.«type» "dict"), none, (.dict #[⟨(PySem.PyData.keyHash P (.ofString "__name__")), (.str (.ofString "__name__") 165), (.str (.ofString "outlinemill.exact") 273)⟩, ⟨(PySem.PyData.keyHash P (.ofString "__doc__")), (.str (.ofString "__doc__") 166), .none⟩, ⟨(PySem.PyData.keyHash P (.ofString "__package__")), (.str (.ofString "__package__") 167), .none⟩, ⟨(PySem.PyData.keyHash P (.ofString "__loader__")), (.str (.ofString "__loader__") 168), (.builtin "__main__.__loader__#opaque")⟩, ⟨(PySem.PyData.keyHash P (.ofString "__spec__")), (.str (.ofString "__spec__") 169), .none⟩, ⟨(PySem.PyData.keyHash P (.ofString "__annotations__")), (.str (.ofString "__annotations__") 170), (.ref 6)⟩, ⟨(PySem.PyData.keyHash P (.ofString "__builtins__")), (.str (.ofString "__builtins__") 171), (.ref 4)⟩, ⟨(PySem.PyData.keyHash P (.ofString "__file__")), (.str (.ofString "__file__") 173), (.str (.ofString "/claim/cut.py") 172)⟩, ⟨(PySem.PyData.keyHash P (.ofString "__cached__")), (.str (.ofString "__cached__") 174), .none⟩, ⟨(PySem.PyData.keyHash P (.ofString "_wall")), (.str (.ofString "_wall") 193), (.ref 21)⟩, ⟨(PySem.PyData.keyHash P (.ofString "MillError")), (.str (.ofString "MillError") 224), (.ref 38)⟩, ⟨(PySem.PyData.keyHash P (.ofString "NumberFault")), (.str (.ofString "NumberFault") 240), (.ref 51)⟩, ⟨(PySem.PyData.keyHash P (.ofString "MatrixFault")), (.str (.ofString "MatrixFault") 256), (.ref 63)⟩, ⟨(PySem.PyData.keyHash P (.ofString "SheetFault")), (.str (.ofString "SheetFault") 272), (.ref 75)⟩, ⟨(PySem.PyData.keyHash P (.ofString "ZERO")), (.str (.ofString "ZERO") 277), (.ref 78)⟩, ⟨(PySem.PyData.keyHash P (.ofString "ONE")), (.str (.ofString "ONE") 280), (.ref 79)⟩, ⟨(PySem.PyData.keyHash P (.ofString "DIGITS")), (.str (.ofString "DIGITS") 282), (.str (.ofString "0123456789") 281)⟩, ⟨(PySem.PyData.keyHash P (.ofString "MOST_EXPONENT")), (.str (.ofString "MOST_EXPONENT") 284), (.int 300 283)⟩, ⟨(PySem.PyData.keyHash P (.ofString "common_divisor")), (.str (.ofString "common_divisor") 294), (.ref 86)⟩, ⟨(PySem.PyData.keyHash P (.ofString "fraction")), (.str (.ofString "fraction") 304), (.ref 94)⟩, ⟨(PySem.PyData.keyHash P (.ofString "plus")), (.str (.ofString "plus") 312), (.ref 101)⟩, ⟨(PySem.PyData.keyHash P (.ofString "minus")), (.str (.ofString "minus") 320), (.ref 108)⟩] 22), #[]⟩
noncomputable def o110 (P : Params) : Obj := ⟨.none, none, (.fields #[(.int 1 0), (.int 0 0), (.ref 20), (.int 5 0), (.int 0 0), (.ref 27), (.int 9 0), (.int 0 0), (.ref 47), (.int 11 0), (.int 0 0), (.ref 59), (.int 13 0), (.int 0 0), (.ref 71), (.int 20 0), (.int 0 0), (.ref 85), (.int 25 0), (.int 0 0), (.ref 93), (.int 32 0), (.int 0 0), (.ref 100), (.int 34 0), (.int 0 0), (.ref 107)]), #[]⟩
noncomputable def o111 (P : Params) : Obj := ⟨(.«type» "type"), none, (.cls ⟨(.ofString "MillError"), [(.«type» "Exception")], [(.ref 38), (.«type» "Exception"), (.«type» "BaseException"), (.«type» "object")], 37, (.ofString "MillError"), true, [], [(.ref 51), (.ref 63), (.ref 75)], false, none, false⟩), #[(some (.ref 22)), none, (some (.str (.ofString "MillError") 196)), (some (.str (.ofString "MillError") 204)), (some (.builtin "Exception.__new__")), (some (.bool true))]⟩
noncomputable def o112 (P : Params) : Obj := ⟨(.«type» "tuple"), none, (.seq #[(.ref 38)] 0), #[]⟩
noncomputable def o113 (P : Params) : Obj := ⟨(.«type» "builtin_function_or_method"), none, (.fields #[(.builtin "type.__prepare__"), (.«type» "type")]), #[]⟩
noncomputable def o114 (P : Params) : Obj := ⟨(.«type» "dict"), none, (.dict #[⟨(PySem.PyData.keyHash P (.ofString "__module__")), (.str (.ofString "__module__") 264), (.str (.ofString "outlinemill.errors") 194)⟩, ⟨(PySem.PyData.keyHash P (.ofString "__qualname__")), (.str (.ofString "__qualname__") 266), (.str (.ofString "SheetFault") 265)⟩, ⟨(PySem.PyData.keyHash P (.ofString "__firstlineno__")), (.str (.ofString "__firstlineno__") 268), (.int 13 267)⟩, ⟨(PySem.PyData.keyHash P (.ofString "__static_attributes__")), (.str (.ofString "__static_attributes__") 269), (.ref 73)⟩] 4), #[]⟩
noncomputable def o115 (P : Params) : Obj := ⟨(.«type» "tuple"), none, (.seq #[] 0), #[]⟩
noncomputable def o116 (P : Params) : Obj := ⟨.none, none, (.fields #[]), #[]⟩
noncomputable def o117 (P : Params) : Obj := ⟨(.«type» "code"), none, (.fields #[(.str (.ofString "SheetFault") 259), (.str (.ofString "SheetFault") 260), (.str (.ofString "/claim/cut.py") 261), (.int 13 0), (.int 0 0), (.int 0 0), (.int 0 0), (.int 0 0), (.ref 69), (.bool false), (.int 181 0), (.ref 70), .none, .none, .none, .none, (.int 262 0), (.int 13 0), (.str (.ofString "/claim/cut.py") 263)]), #[]⟩
noncomputable def o118 (P : Params) : Obj := ⟨(.«type» "frame"), none, .plain, #[(some (.ref 71)), (some (.ref 3)), (some (.ref 68)), none, (some (.str (.ofString "outlinemill.errors") 194)), none, (some (.ref 0))]⟩
noncomputable def o119 (P : Params) : Obj := ⟨(.«type» "tuple"), none, (.seq #[] 0), #[]⟩
noncomputable def o120 (P : Params) : Obj := ⟨(.«type» "dict"), none, (.dict #[⟨(PySem.PyData.keyHash P (.ofString "__module__")), (.str (.ofString "__module__") 264), (.str (.ofString "outlinemill.errors") 194)⟩, ⟨(PySem.PyData.keyHash P (.ofString "__firstlineno__")), (.str (.ofString "__firstlineno__") 268), (.int 13 267)⟩, ⟨(PySem.PyData.keyHash P (.ofString "__static_attributes__")), (.str (.ofString "__static_attributes__") 269), (.ref 73)⟩, ⟨(PySem.PyData.keyHash P (.ofString "__doc__")), (.str (.ofString "__doc__") 270), .none⟩] 2), #[]⟩
noncomputable def o121 (P : Params) : Obj := ⟨(.«type» "type"), none, (.cls ⟨(.ofString "SheetFault"), [(.ref 38)], [(.ref 75), (.ref 38), (.«type» "Exception"), (.«type» "BaseException"), (.«type» "object")], 74, (.ofString "SheetFault"), true, [], [], false, none, false⟩), #[(some (.ref 66)), none, (some (.str (.ofString "SheetFault") 257)), (some (.str (.ofString "SheetFault") 265)), (some (.builtin "Exception.__new__")), (some (.bool true))]⟩
noncomputable def o122 (P : Params) : Obj := ⟨(.«type» "super"), none, (.fields #[(.ref 75), (.ref 75), (.ref 75)]), #[]⟩
noncomputable def o123 (P : Params) : Obj := ⟨(.«type» "builtin_function_or_method"), none, (.fields #[(.builtin "object.__init_subclass__"), (.ref 75)]), #[]⟩
noncomputable def o124 (P : Params) : Obj := ⟨(.«type» "tuple"), none, (.seq #[(.int 0 275), (.int 1 276)] 0), #[]⟩
noncomputable def o125 (P : Params) : Obj := ⟨(.«type» "tuple"), none, (.seq #[(.int 1 278), (.int 1 279)] 0), #[]⟩
noncomputable def o126 (P : Params) : Obj := ⟨(.«type» "tuple"), none, (.seq #[] 0), #[]⟩
noncomputable def o127 (P : Params) : Obj := ⟨.none, none, (.fields #[]), #[]⟩
noncomputable def o128 (P : Params) : Obj := ⟨(.«type» "tuple"), none, (.seq #[(.str (.ofString "one") 288), (.str (.ofString "other") 289), (.str (.ofString "first") 290), (.str (.ofString "second") 291)] 0), #[]⟩
noncomputable def o129 (P : Params) : Obj := ⟨(.«type» "tuple"), none, (.seq #[] 0), #[]⟩
noncomputable def o130 (P : Params) : Obj := ⟨.none, none, (.func ⟨(.ofString "common_divisor"), (.ofString "common_divisor"), ⟨[], [⟨(.ofString "one"), none, ⟨20, 19, 20, 22⟩⟩, ⟨(.ofString "other"), none, ⟨20, 24, 20, 29⟩⟩], none, [], [], none, []⟩, (.stmts (bdy (sts0) 11)), ⟨.function, [((.ofString "one"), .local), ((.ofString "other"), .local), ((.ofString "first"), .local), ((.ofString "second"), .local), ((.ofString "abs"), .globalImplicit)], false, false, []⟩, 0, [], .none, .none, .none, .none, none, .none, .none, 0⟩), #[]⟩
noncomputable def o131 (P : Params) : Obj := ⟨(.«type» "code"), none, (.fields #[(.str (.ofString "common_divisor") 285), (.str (.ofString "common_divisor") 286), (.str (.ofString "/claim/cut.py") 287), (.int 20 0), (.int 2 0), (.int 0 0), (.int 0 0), (.int 3 0), (.ref 80), (.bool true), (.int 181 0), (.ref 81), .none, (.ref 82), (.ref 83), (.ref 84), (.int 292 0), (.int 20 0), (.str (.ofString "/claim/cut.py") 293)]), #[]⟩
noncomputable def o132 (P : Params) : Obj := ⟨(.«type» "function"), none, (.func ⟨(.ofString "common_divisor"), (.ofString "common_divisor"), ⟨[], [⟨(.ofString "one"), none, ⟨20, 19, 20, 22⟩⟩, ⟨(.ofString "other"), none, ⟨20, 24, 20, 29⟩⟩], none, [], [], none, []⟩, (.stmts (bdy (sts0) 11)), ⟨.function, [((.ofString "one"), .local), ((.ofString "other"), .local), ((.ofString "first"), .local), ((.ofString "second"), .local), ((.ofString "abs"), .globalImplicit)], false, false, []⟩, 3, [], .none, .none, .none, (.str (.ofString "outlinemill.exact") 273), none, (.ref 85), .none, 0⟩), #[]⟩
noncomputable def o133 (P : Params) : Obj := ⟨(.«type» "tuple"), none, (.seq #[(.int 1 295)] 0), #[]⟩
noncomputable def o134 (P : Params) : Obj := ⟨(.«type» "tuple"), none, (.seq #[] 0), #[]⟩
noncomputable def o135 (P : Params) : Obj := ⟨.none, none, (.fields #[]), #[]⟩
noncomputable def o136 (P : Params) : Obj := ⟨(.«type» "tuple"), none, (.seq #[(.str (.ofString "top") 299), (.str (.ofString "bottom") 300), (.str (.ofString "common") 301)] 0), #[]⟩
noncomputable def o137 (P : Params) : Obj := ⟨(.«type» "tuple"), none, (.seq #[] 0), #[]⟩
noncomputable def o138 (P : Params) : Obj := ⟨.none, none, (.func ⟨(.ofString "fraction"), (.ofString "fraction"), ⟨[], [⟨(.ofString "top"), none, ⟨25, 13, 25, 16⟩⟩, ⟨(.ofString "bottom"), none, ⟨25, 18, 25, 24⟩⟩], none, [], [], none, [(.Constant (.int 1) 0 ⟨25, 25, 25, 26⟩)]⟩, (.stmts (bdy (sts0) 12)), ⟨.function, [((.ofString "top"), .local), ((.ofString "bottom"), .local), ((.ofString "common"), .local), ((.ofString "NumberFault"), .globalImplicit), ((.ofString "common_divisor"), .globalImplicit)], false, false, []⟩, 0, [], .none, .none, .none, .none, none, .none, .none, 0⟩), #[]⟩
noncomputable def o139 (P : Params) : Obj := ⟨(.«type» "code"), none, (.fields #[(.str (.ofString "fraction") 296), (.str (.ofString "fraction") 297), (.str (.ofString "/claim/cut.py") 298), (.int 25 0), (.int 2 0), (.int 0 0), (.int 0 0), (.int 3 0), (.ref 88), (.bool true), (.int 181 0), (.ref 89), .none, (.ref 90), (.ref 91), (.ref 92), (.int 302 0), (.int 25 0), (.str (.ofString "/claim/cut.py") 303)]), #[]⟩
noncomputable def o140 (P : Params) : Obj := ⟨(.«type» "function"), none, (.func ⟨(.ofString "fraction"), (.ofString "fraction"), ⟨[], [⟨(.ofString "top"), none, ⟨25, 13, 25, 16⟩⟩, ⟨(.ofString "bottom"), none, ⟨25, 18, 25, 24⟩⟩], none, [], [], none, [(.Constant (.int 1) 0 ⟨25, 25, 25, 26⟩)]⟩, (.stmts (bdy (sts0) 12)), ⟨.function, [((.ofString "top"), .local), ((.ofString "bottom"), .local), ((.ofString "common"), .local), ((.ofString "NumberFault"), .globalImplicit), ((.ofString "common_divisor"), .globalImplicit)], false, false, []⟩, 3, [], (.ref 87), .none, .none, (.str (.ofString "outlinemill.exact") 273), none, (.ref 93), .none, 0⟩), #[]⟩
noncomputable def o141 (P : Params) : Obj := ⟨(.«type» "tuple"), none, (.seq #[] 0), #[]⟩
noncomputable def o142 (P : Params) : Obj := ⟨.none, none, (.fields #[]), #[]⟩
noncomputable def o143 (P : Params) : Obj := ⟨(.«type» "tuple"), none, (.seq #[(.str (.ofString "a") 308), (.str (.ofString "b") 309)] 0), #[]⟩
noncomputable def o144 (P : Params) : Obj := ⟨(.«type» "tuple"), none, (.seq #[] 0), #[]⟩
noncomputable def o145 (P : Params) : Obj := ⟨.none, none, (.func ⟨(.ofString "plus"), (.ofString "plus"), ⟨[], [⟨(.ofString "a"), none, ⟨32, 9, 32, 10⟩⟩, ⟨(.ofString "b"), none, ⟨32, 12, 32, 13⟩⟩], none, [], [], none, []⟩, (.stmts (bdy (sts0) 13)), ⟨.function, [((.ofString "a"), .local), ((.ofString "b"), .local), ((.ofString "fraction"), .globalImplicit)], false, false, []⟩, 0, [], .none, .none, .none, .none, none, .none, .none, 0⟩), #[]⟩
noncomputable def o146 (P : Params) : Obj := ⟨(.«type» "code"), none, (.fields #[(.str (.ofString "plus") 305), (.str (.ofString "plus") 306), (.str (.ofString "/claim/cut.py") 307), (.int 32 0), (.int 2 0), (.int 0 0), (.int 0 0), (.int 3 0), (.ref 95), (.bool true), (.int 181 0), (.ref 96), .none, (.ref 97), (.ref 98), (.ref 99), (.int 310 0), (.int 32 0), (.str (.ofString "/claim/cut.py") 311)]), #[]⟩
noncomputable def o147 (P : Params) : Obj := ⟨(.«type» "function"), none, (.func ⟨(.ofString "plus"), (.ofString "plus"), ⟨[], [⟨(.ofString "a"), none, ⟨32, 9, 32, 10⟩⟩, ⟨(.ofString "b"), none, ⟨32, 12, 32, 13⟩⟩], none, [], [], none, []⟩, (.stmts (bdy (sts0) 13)), ⟨.function, [((.ofString "a"), .local), ((.ofString "b"), .local), ((.ofString "fraction"), .globalImplicit)], false, false, []⟩, 3, [], .none, .none, .none, (.str (.ofString "outlinemill.exact") 273), none, (.ref 100), .none, 0⟩), #[]⟩
noncomputable def o148 (P : Params) : Obj := ⟨(.«type» "tuple"), none, (.seq #[] 0), #[]⟩
noncomputable def o149 (P : Params) : Obj := ⟨.none, none, (.fields #[]), #[]⟩
noncomputable def o150 (P : Params) : Obj := ⟨(.«type» "tuple"), none, (.seq #[(.str (.ofString "a") 316), (.str (.ofString "b") 317)] 0), #[]⟩
noncomputable def o151 (P : Params) : Obj := ⟨(.«type» "tuple"), none, (.seq #[] 0), #[]⟩
noncomputable def o152 (P : Params) : Obj := ⟨.none, none, (.func ⟨(.ofString "minus"), (.ofString "minus"), ⟨[], [⟨(.ofString "a"), none, ⟨34, 10, 34, 11⟩⟩, ⟨(.ofString "b"), none, ⟨34, 13, 34, 14⟩⟩], none, [], [], none, []⟩, (.stmts (bdy (sts0) 14)), ⟨.function, [((.ofString "a"), .local), ((.ofString "b"), .local), ((.ofString "fraction"), .globalImplicit)], false, false, []⟩, 0, [], .none, .none, .none, .none, none, .none, .none, 0⟩), #[]⟩
noncomputable def o153 (P : Params) : Obj := ⟨(.«type» "code"), none, (.fields #[(.str (.ofString "minus") 313), (.str (.ofString "minus") 314), (.str (.ofString "/claim/cut.py") 315), (.int 34 0), (.int 2 0), (.int 0 0), (.int 0 0), (.int 3 0), (.ref 102), (.bool true), (.int 181 0), (.ref 103), .none, (.ref 104), (.ref 105), (.ref 106), (.int 318 0), (.int 34 0), (.str (.ofString "/claim/cut.py") 319)]), #[]⟩
noncomputable def o154 (P : Params) : Obj := ⟨(.«type» "function"), none, (.func ⟨(.ofString "minus"), (.ofString "minus"), ⟨[], [⟨(.ofString "a"), none, ⟨34, 10, 34, 11⟩⟩, ⟨(.ofString "b"), none, ⟨34, 13, 34, 14⟩⟩], none, [], [], none, []⟩, (.stmts (bdy (sts0) 14)), ⟨.function, [((.ofString "a"), .local), ((.ofString "b"), .local), ((.ofString "fraction"), .globalImplicit)], false, false, []⟩, 3, [], .none, .none, .none, (.str (.ofString "outlinemill.exact") 273), none, (.ref 107), .none, 0⟩), #[]⟩
noncomputable def o157 (P : Params) : Obj := ⟨(.«type» "tuple"), none, (.seq #[] 0), #[]⟩
noncomputable def o158 (P : Params) : Obj := ⟨.none, none, (.fields #[]), #[]⟩
noncomputable def o159 (P : Params) : Obj := ⟨(.«type» "tuple"), none, (.seq #[(.str (.ofString "a") 324), (.str (.ofString "b") 325)] 0), #[]⟩
noncomputable def o160 (P : Params) : Obj := ⟨(.«type» "tuple"), none, (.seq #[] 0), #[]⟩
noncomputable def o161 (P : Params) : Obj := ⟨.none, none, (.func ⟨(.ofString "times"), (.ofString "times"), ⟨[], [⟨(.ofString "a"), none, ⟨36, 10, 36, 11⟩⟩, ⟨(.ofString "b"), none, ⟨36, 13, 36, 14⟩⟩], none, [], [], none, []⟩, (.stmts (bdy (sts0) 15)), ⟨.function, [((.ofString "a"), .local), ((.ofString "b"), .local), ((.ofString "fraction"), .globalImplicit)], false, false, []⟩, 0, [], .none, .none, .none, .none, none, .none, .none, 0⟩), #[]⟩
noncomputable def o162 (P : Params) : Obj := ⟨(.«type» "code"), none, (.fields #[(.str (.ofString "times") 321), (.str (.ofString "times") 322), (.str (.ofString "/claim/cut.py") 323), (.int 36 0), (.int 2 0), (.int 0 0), (.int 0 0), (.int 3 0), (.ref 109), (.bool true), (.int 181 0), (.ref 110), .none, (.ref 111), (.ref 112), (.ref 113), (.int 326 0), (.int 36 0), (.str (.ofString "/claim/cut.py") 327)]), #[]⟩
noncomputable def o163 (P : Params) : Obj := ⟨(.«type» "function"), none, (.func ⟨(.ofString "times"), (.ofString "times"), ⟨[], [⟨(.ofString "a"), none, ⟨36, 10, 36, 11⟩⟩, ⟨(.ofString "b"), none, ⟨36, 13, 36, 14⟩⟩], none, [], [], none, []⟩, (.stmts (bdy (sts0) 15)), ⟨.function, [((.ofString "a"), .local), ((.ofString "b"), .local), ((.ofString "fraction"), .globalImplicit)], false, false, []⟩, 3, [], .none, .none, .none, (.str (.ofString "outlinemill.exact") 273), none, (.ref 114), .none, 0⟩), #[]⟩
noncomputable def o164 (P : Params) : Obj := ⟨(.«type» "tuple"), none, (.seq #[] 0), #[]⟩
noncomputable def o165 (P : Params) : Obj := ⟨.none, none, (.fields #[]), #[]⟩
noncomputable def o166 (P : Params) : Obj := ⟨(.«type» "tuple"), none, (.seq #[(.str (.ofString "a") 332), (.str (.ofString "b") 333)] 0), #[]⟩
noncomputable def o167 (P : Params) : Obj := ⟨(.«type» "tuple"), none, (.seq #[] 0), #[]⟩
noncomputable def o168 (P : Params) : Obj := ⟨.none, none, (.func ⟨(.ofString "divided"), (.ofString "divided"), ⟨[], [⟨(.ofString "a"), none, ⟨38, 12, 38, 13⟩⟩, ⟨(.ofString "b"), none, ⟨38, 15, 38, 16⟩⟩], none, [], [], none, []⟩, (.stmts (bdy (sts0) 16)), ⟨.function, [((.ofString "a"), .local), ((.ofString "b"), .local), ((.ofString "NumberFault"), .globalImplicit), ((.ofString "fraction"), .globalImplicit)], false, false, []⟩, 0, [], .none, .none, .none, .none, none, .none, .none, 0⟩), #[]⟩
noncomputable def o169 (P : Params) : Obj := ⟨(.«type» "code"), none, (.fields #[(.str (.ofString "divided") 329), (.str (.ofString "divided") 330), (.str (.ofString "/claim/cut.py") 331), (.int 38 0), (.int 2 0), (.int 0 0), (.int 0 0), (.int 3 0), (.ref 116), (.bool true), (.int 181 0), (.ref 117), .none, (.ref 118), (.ref 119), (.ref 120), (.int 334 0), (.int 38 0), (.str (.ofString "/claim/cut.py") 335)]), #[]⟩
noncomputable def o170 (P : Params) : Obj := ⟨(.«type» "function"), none, (.func ⟨(.ofString "divided"), (.ofString "divided"), ⟨[], [⟨(.ofString "a"), none, ⟨38, 12, 38, 13⟩⟩, ⟨(.ofString "b"), none, ⟨38, 15, 38, 16⟩⟩], none, [], [], none, []⟩, (.stmts (bdy (sts0) 16)), ⟨.function, [((.ofString "a"), .local), ((.ofString "b"), .local), ((.ofString "NumberFault"), .globalImplicit), ((.ofString "fraction"), .globalImplicit)], false, false, []⟩, 3, [], .none, .none, .none, (.str (.ofString "outlinemill.exact") 273), none, (.ref 121), .none, 0⟩), #[]⟩
noncomputable def o171 (P : Params) : Obj := ⟨(.«type» "tuple"), none, (.seq #[] 0), #[]⟩
noncomputable def o172 (P : Params) : Obj := ⟨.none, none, (.fields #[]), #[]⟩
noncomputable def o173 (P : Params) : Obj := ⟨(.«type» "tuple"), none, (.seq #[(.str (.ofString "a") 340)] 0), #[]⟩
noncomputable def o174 (P : Params) : Obj := ⟨(.«type» "tuple"), none, (.seq #[] 0), #[]⟩
noncomputable def o175 (P : Params) : Obj := ⟨.none, none, (.func ⟨(.ofString "negated"), (.ofString "negated"), ⟨[], [⟨(.ofString "a"), none, ⟨42, 12, 42, 13⟩⟩], none, [], [], none, []⟩, (.stmts (bdy (sts0) 17)), ⟨.function, [((.ofString "a"), .local)], false, false, []⟩, 0, [], .none, .none, .none, .none, none, .none, .none, 0⟩), #[]⟩
noncomputable def o176 (P : Params) : Obj := ⟨(.«type» "code"), none, (.fields #[(.str (.ofString "negated") 337), (.str (.ofString "negated") 338), (.str (.ofString "/claim/cut.py") 339), (.int 42 0), (.int 1 0), (.int 0 0), (.int 0 0), (.int 3 0), (.ref 123), (.bool true), (.int 181 0), (.ref 124), .none, (.ref 125), (.ref 126), (.ref 127), (.int 341 0), (.int 42 0), (.str (.ofString "/claim/cut.py") 342)]), #[]⟩
noncomputable def o177 (P : Params) : Obj := ⟨(.«type» "function"), none, (.func ⟨(.ofString "negated"), (.ofString "negated"), ⟨[], [⟨(.ofString "a"), none, ⟨42, 12, 42, 13⟩⟩], none, [], [], none, []⟩, (.stmts (bdy (sts0) 17)), ⟨.function, [((.ofString "a"), .local)], false, false, []⟩, 3, [], .none, .none, .none, (.str (.ofString "outlinemill.exact") 273), none, (.ref 128), .none, 0⟩), #[]⟩
noncomputable def o178 (P : Params) : Obj := ⟨(.«type» "tuple"), none, (.seq #[] 0), #[]⟩
noncomputable def o179 (P : Params) : Obj := ⟨.none, none, (.fields #[]), #[]⟩
noncomputable def o180 (P : Params) : Obj := ⟨(.«type» "tuple"), none, (.seq #[(.str (.ofString "a") 347)] 0), #[]⟩
noncomputable def o181 (P : Params) : Obj := ⟨(.«type» "tuple"), none, (.seq #[] 0), #[]⟩
noncomputable def o182 (P : Params) : Obj := ⟨.none, none, (.func ⟨(.ofString "sign_of"), (.ofString "sign_of"), ⟨[], [⟨(.ofString "a"), none, ⟨44, 12, 44, 13⟩⟩], none, [], [], none, []⟩, (.stmts (bdy (sts0) 18)), ⟨.function, [((.ofString "a"), .local)], false, false, []⟩, 0, [], .none, .none, .none, .none, none, .none, .none, 0⟩), #[]⟩
noncomputable def o183 (P : Params) : Obj := ⟨(.«type» "code"), none, (.fields #[(.str (.ofString "sign_of") 344), (.str (.ofString "sign_of") 345), (.str (.ofString "/claim/cut.py") 346), (.int 44 0), (.int 1 0), (.int 0 0), (.int 0 0), (.int 3 0), (.ref 130), (.bool true), (.int 181 0), (.ref 131), .none, (.ref 132), (.ref 133), (.ref 134), (.int 348 0), (.int 44 0), (.str (.ofString "/claim/cut.py") 349)]), #[]⟩
noncomputable def o184 (P : Params) : Obj := ⟨(.«type» "function"), none, (.func ⟨(.ofString "sign_of"), (.ofString "sign_of"), ⟨[], [⟨(.ofString "a"), none, ⟨44, 12, 44, 13⟩⟩], none, [], [], none, []⟩, (.stmts (bdy (sts0) 18)), ⟨.function, [((.ofString "a"), .local)], false, false, []⟩, 3, [], .none, .none, .none, (.str (.ofString "outlinemill.exact") 273), none, (.ref 135), .none, 0⟩), #[]⟩
noncomputable def o185 (P : Params) : Obj := ⟨(.«type» "tuple"), none, (.seq #[] 0), #[]⟩
noncomputable def o186 (P : Params) : Obj := ⟨.none, none, (.fields #[]), #[]⟩
noncomputable def o187 (P : Params) : Obj := ⟨(.«type» "tuple"), none, (.seq #[(.str (.ofString "a") 354), (.str (.ofString "b") 355)] 0), #[]⟩
noncomputable def o188 (P : Params) : Obj := ⟨(.«type» "tuple"), none, (.seq #[] 0), #[]⟩
noncomputable def o189 (P : Params) : Obj := ⟨.none, none, (.func ⟨(.ofString "compare"), (.ofString "compare"), ⟨[], [⟨(.ofString "a"), none, ⟨50, 12, 50, 13⟩⟩, ⟨(.ofString "b"), none, ⟨50, 15, 50, 16⟩⟩], none, [], [], none, []⟩, (.stmts (bdy (sts0) 19)), ⟨.function, [((.ofString "a"), .local), ((.ofString "b"), .local), ((.ofString "sign_of"), .globalImplicit)], false, false, []⟩, 0, [], .none, .none, .none, .none, none, .none, .none, 0⟩), #[]⟩
noncomputable def o190 (P : Params) : Obj := ⟨(.«type» "code"), none, (.fields #[(.str (.ofString "compare") 351), (.str (.ofString "compare") 352), (.str (.ofString "/claim/cut.py") 353), (.int 50 0), (.int 2 0), (.int 0 0), (.int 0 0), (.int 3 0), (.ref 137), (.bool true), (.int 181 0), (.ref 138), .none, (.ref 139), (.ref 140), (.ref 141), (.int 356 0), (.int 50 0), (.str (.ofString "/claim/cut.py") 357)]), #[]⟩
noncomputable def o191 (P : Params) : Obj := ⟨(.«type» "function"), none, (.func ⟨(.ofString "compare"), (.ofString "compare"), ⟨[], [⟨(.ofString "a"), none, ⟨50, 12, 50, 13⟩⟩, ⟨(.ofString "b"), none, ⟨50, 15, 50, 16⟩⟩], none, [], [], none, []⟩, (.stmts (bdy (sts0) 19)), ⟨.function, [((.ofString "a"), .local), ((.ofString "b"), .local), ((.ofString "sign_of"), .globalImplicit)], false, false, []⟩, 3, [], .none, .none, .none, (.str (.ofString "outlinemill.exact") 273), none, (.ref 142), .none, 0⟩), #[]⟩
noncomputable def o192 (P : Params) : Obj := ⟨(.«type» "tuple"), none, (.seq #[] 0), #[]⟩
noncomputable def o193 (P : Params) : Obj := ⟨.none, none, (.fields #[]), #[]⟩
noncomputable def o194 (P : Params) : Obj := ⟨(.«type» "tuple"), none, (.seq #[(.str (.ofString "a") 362)] 0), #[]⟩
noncomputable def o195 (P : Params) : Obj := ⟨(.«type» "tuple"), none, (.seq #[] 0), #[]⟩
noncomputable def o196 (P : Params) : Obj := ⟨.none, none, (.func ⟨(.ofString "floor_of"), (.ofString "floor_of"), ⟨[], [⟨(.ofString "a"), none, ⟨52, 13, 52, 14⟩⟩], none, [], [], none, []⟩, (.stmts (bdy (sts0) 20)), ⟨.function, [((.ofString "a"), .local)], false, false, []⟩, 0, [], .none, .none, .none, .none, none, .none, .none, 0⟩), #[]⟩
noncomputable def o197 (P : Params) : Obj := ⟨(.«type» "code"), none, (.fields #[(.str (.ofString "floor_of") 359), (.str (.ofString "floor_of") 360), (.str (.ofString "/claim/cut.py") 361), (.int 52 0), (.int 1 0), (.int 0 0), (.int 0 0), (.int 3 0), (.ref 144), (.bool true), (.int 181 0), (.ref 145), .none, (.ref 146), (.ref 147), (.ref 148), (.int 363 0), (.int 52 0), (.str (.ofString "/claim/cut.py") 364)]), #[]⟩
noncomputable def o198 (P : Params) : Obj := ⟨(.«type» "function"), none, (.func ⟨(.ofString "floor_of"), (.ofString "floor_of"), ⟨[], [⟨(.ofString "a"), none, ⟨52, 13, 52, 14⟩⟩], none, [], [], none, []⟩, (.stmts (bdy (sts0) 20)), ⟨.function, [((.ofString "a"), .local)], false, false, []⟩, 3, [], .none, .none, .none, (.str (.ofString "outlinemill.exact") 273), none, (.ref 149), .none, 0⟩), #[]⟩
noncomputable def o199 (P : Params) : Obj := ⟨(.«type» "tuple"), none, (.seq #[] 0), #[]⟩
noncomputable def o200 (P : Params) : Obj := ⟨.none, none, (.fields #[]), #[]⟩
noncomputable def o201 (P : Params) : Obj := ⟨(.«type» "tuple"), none, (.seq #[(.str (.ofString "a") 369)] 0), #[]⟩
noncomputable def o202 (P : Params) : Obj := ⟨(.«type» "tuple"), none, (.seq #[] 0), #[]⟩
noncomputable def o203 (P : Params) : Obj := ⟨.none, none, (.func ⟨(.ofString "rounded"), (.ofString "rounded"), ⟨[], [⟨(.ofString "a"), none, ⟨54, 12, 54, 13⟩⟩], none, [], [], none, []⟩, (.stmts (bdy (sts0) 21)), ⟨.function, [((.ofString "a"), .local)], false, false, []⟩, 0, [], .none, .none, .none, .none, none, .none, .none, 0⟩), #[]⟩
noncomputable def o204 (P : Params) : Obj := ⟨(.«type» "code"), none, (.fields #[(.str (.ofString "rounded") 366), (.str (.ofString "rounded") 367), (.str (.ofString "/claim/cut.py") 368), (.int 54 0), (.int 1 0), (.int 0 0), (.int 0 0), (.int 3 0), (.ref 151), (.bool true), (.int 181 0), (.ref 152), .none, (.ref 153), (.ref 154), (.ref 155), (.int 370 0), (.int 54 0), (.str (.ofString "/claim/cut.py") 371)]), #[]⟩
noncomputable def o205 (P : Params) : Obj := ⟨(.«type» "function"), none, (.func ⟨(.ofString "rounded"), (.ofString "rounded"), ⟨[], [⟨(.ofString "a"), none, ⟨54, 12, 54, 13⟩⟩], none, [], [], none, []⟩, (.stmts (bdy (sts0) 21)), ⟨.function, [((.ofString "a"), .local)], false, false, []⟩, 3, [], .none, .none, .none, (.str (.ofString "outlinemill.exact") 273), none, (.ref 156), .none, 0⟩), #[]⟩
noncomputable def o208 (P : Params) : Obj := ⟨(.«type» "tuple"), none, (.seq #[] 0), #[]⟩
noncomputable def o209 (P : Params) : Obj := ⟨(.«type» "builtin_function_or_method"), none, (.fields #[(.builtin "type.__prepare__"), (.«type» "type")]), #[]⟩
noncomputable def o210 (P : Params) : Obj := ⟨(.«type» "dict"), none, (.dict #[⟨(PySem.PyData.keyHash P (.ofString "__module__")), (.str (.ofString "__module__") 380), (.str (.ofString "outlinemill.exact") 273)⟩, ⟨(PySem.PyData.keyHash P (.ofString "__qualname__")), (.str (.ofString "__qualname__") 382), (.str (.ofString "NumberText") 381)⟩, ⟨(PySem.PyData.keyHash P (.ofString "__firstlineno__")), (.str (.ofString "__firstlineno__") 384), (.int 56 383)⟩, ⟨(PySem.PyData.keyHash P (.ofString "__init__")), (.str (.ofString "__init__") 392), (.ref 171)⟩, ⟨(PySem.PyData.keyHash P (.ofString "is_one_of")), (.str (.ofString "is_one_of") 400), (.ref 178)⟩, ⟨(PySem.PyData.keyHash P (.ofString "skip")), (.str (.ofString "skip") 408), (.ref 185)⟩, ⟨(PySem.PyData.keyHash P (.ofString "digits")), (.str (.ofString "digits") 416), (.ref 192)⟩, ⟨(PySem.PyData.keyHash P (.ofString "__static_attributes__")), (.str (.ofString "__static_attributes__") 419), (.ref 193)⟩] 8), #[]⟩
noncomputable def o211 (P : Params) : Obj := ⟨(.«type» "tuple"), none, (.seq #[] 0), #[]⟩
noncomputable def o212 (P : Params) : Obj := ⟨.none, none, (.fields #[(.int 58 0), (.int 4 0), (.ref 170), (.int 62 0), (.int 4 0), (.ref 177), (.int 65 0), (.int 4 0), (.ref 184), (.int 71 0), (.int 4 0), (.ref 191)]), #[]⟩
noncomputable def o213 (P : Params) : Obj := ⟨(.«type» "code"), none, (.fields #[(.str (.ofString "NumberText") 375), (.str (.ofString "NumberText") 376), (.str (.ofString "/claim/cut.py") 377), (.int 56 0), (.int 0 0), (.int 0 0), (.int 0 0), (.int 0 0), (.ref 161), (.bool false), (.int 181 0), (.ref 162), .none, .none, .none, .none, (.int 378 0), (.int 56 0), (.str (.ofString "/claim/cut.py") 379)]), #[]⟩
noncomputable def o214 (P : Params) : Obj := ⟨(.«type» "frame"), none, .plain, #[(some (.ref 163)), (some (.ref 3)), (some (.ref 160)), none, (some (.str (.ofString "outlinemill.exact") 273)), none, (some (.ref 0))]⟩
noncomputable def o215 (P : Params) : Obj := ⟨(.«type» "tuple"), none, (.seq #[] 0), #[]⟩
noncomputable def o216 (P : Params) : Obj := ⟨.none, none, (.fields #[]), #[]⟩
noncomputable def o217 (P : Params) : Obj := ⟨(.«type» "tuple"), none, (.seq #[(.str (.ofString "self") 388), (.str (.ofString "text") 389)] 0), #[]⟩
noncomputable def o218 (P : Params) : Obj := ⟨(.«type» "tuple"), none, (.seq #[] 0), #[]⟩
noncomputable def o219 (P : Params) : Obj := ⟨.none, none, (.func ⟨(.ofString "__init__"), (.ofString "NumberText.__init__"), ⟨[], [⟨(.ofString "self"), none, ⟨58, 17, 58, 21⟩⟩, ⟨(.ofString "text"), none, ⟨58, 23, 58, 27⟩⟩], none, [], [], none, []⟩, (.stmts (bdy (bdy (sts0) 22) 0)), ⟨.function, [((.ofString "self"), .local), ((.ofString "text"), .local)], false, false, []⟩, 0, [], .none, .none, .none, .none, none, .none, .none, 0⟩), #[]⟩
noncomputable def o220 (P : Params) : Obj := ⟨(.«type» "code"), none, (.fields #[(.str (.ofString "__init__") 385), (.str (.ofString "NumberText.__init__") 386), (.str (.ofString "/claim/cut.py") 387), (.int 58 0), (.int 2 0), (.int 0 0), (.int 0 0), (.int 3 0), (.ref 165), (.bool true), (.int 181 0), (.ref 166), .none, (.ref 167), (.ref 168), (.ref 169), (.int 390 0), (.int 58 0), (.str (.ofString "/claim/cut.py") 391)]), #[]⟩
noncomputable def o221 (P : Params) : Obj := ⟨(.«type» "function"), none, (.func ⟨(.ofString "__init__"), (.ofString "NumberText.__init__"), ⟨[], [⟨(.ofString "self"), none, ⟨58, 17, 58, 21⟩⟩, ⟨(.ofString "text"), none, ⟨58, 23, 58, 27⟩⟩], none, [], [], none, []⟩, (.stmts (bdy (bdy (sts0) 22) 0)), ⟨.function, [((.ofString "self"), .local), ((.ofString "text"), .local)], false, false, []⟩, 3, [], .none, .none, .none, (.str (.ofString "outlinemill.exact") 273), none, (.ref 170), .none, 0⟩), #[]⟩
noncomputable def o222 (P : Params) : Obj := ⟨(.«type» "tuple"), none, (.seq #[] 0), #[]⟩
noncomputable def o223 (P : Params) : Obj := ⟨.none, none, (.fields #[]), #[]⟩
noncomputable def o224 (P : Params) : Obj := ⟨(.«type» "tuple"), none, (.seq #[(.str (.ofString "self") 396), (.str (.ofString "signs") 397)] 0), #[]⟩
noncomputable def o225 (P : Params) : Obj := ⟨(.«type» "tuple"), none, (.seq #[] 0), #[]⟩
noncomputable def o226 (P : Params) : Obj := ⟨.none, none, (.func ⟨(.ofString "is_one_of"), (.ofString "NumberText.is_one_of"), ⟨[], [⟨(.ofString "self"), none, ⟨62, 18, 62, 22⟩⟩, ⟨(.ofString "signs"), none, ⟨62, 24, 62, 29⟩⟩], none, [], [], none, []⟩, (.stmts (bdy (bdy (sts0) 22) 1)), ⟨.function, [((.ofString "self"), .local), ((.ofString "signs"), .local), ((.ofString "len"), .globalImplicit)], false, false, []⟩, 0, [], .none, .none, .none, .none, none, .none, .none, 0⟩), #[]⟩
noncomputable def o227 (P : Params) : Obj := ⟨(.«type» "code"), none, (.fields #[(.str (.ofString "is_one_of") 393), (.str (.ofString "NumberText.is_one_of") 394), (.str (.ofString "/claim/cut.py") 395), (.int 62 0), (.int 2 0), (.int 0 0), (.int 0 0), (.int 3 0), (.ref 172), (.bool true), (.int 181 0), (.ref 173), .none, (.ref 174), (.ref 175), (.ref 176), (.int 398 0), (.int 62 0), (.str (.ofString "/claim/cut.py") 399)]), #[]⟩
noncomputable def o228 (P : Params) : Obj := ⟨(.«type» "function"), none, (.func ⟨(.ofString "is_one_of"), (.ofString "NumberText.is_one_of"), ⟨[], [⟨(.ofString "self"), none, ⟨62, 18, 62, 22⟩⟩, ⟨(.ofString "signs"), none, ⟨62, 24, 62, 29⟩⟩], none, [], [], none, []⟩, (.stmts (bdy (bdy (sts0) 22) 1)), ⟨.function, [((.ofString "self"), .local), ((.ofString "signs"), .local), ((.ofString "len"), .globalImplicit)], false, false, []⟩, 3, [], .none, .none, .none, (.str (.ofString "outlinemill.exact") 273), none, (.ref 177), .none, 0⟩), #[]⟩
noncomputable def o229 (P : Params) : Obj := ⟨(.«type» "tuple"), none, (.seq #[] 0), #[]⟩
noncomputable def o230 (P : Params) : Obj := ⟨.none, none, (.fields #[]), #[]⟩
noncomputable def o231 (P : Params) : Obj := ⟨(.«type» "tuple"), none, (.seq #[(.str (.ofString "self") 404), (.str (.ofString "signs") 405)] 0), #[]⟩
noncomputable def o232 (P : Params) : Obj := ⟨(.«type» "tuple"), none, (.seq #[] 0), #[]⟩
noncomputable def o233 (P : Params) : Obj := ⟨.none, none, (.func ⟨(.ofString "skip"), (.ofString "NumberText.skip"), ⟨[], [⟨(.ofString "self"), none, ⟨65, 13, 65, 17⟩⟩, ⟨(.ofString "signs"), none, ⟨65, 19, 65, 24⟩⟩], none, [], [], none, []⟩, (.stmts (bdy (bdy (sts0) 22) 2)), ⟨.function, [((.ofString "self"), .local), ((.ofString "signs"), .local)], false, false, []⟩, 0, [], .none, .none, .none, .none, none, .none, .none, 0⟩), #[]⟩
noncomputable def o234 (P : Params) : Obj := ⟨(.«type» "code"), none, (.fields #[(.str (.ofString "skip") 401), (.str (.ofString "NumberText.skip") 402), (.str (.ofString "/claim/cut.py") 403), (.int 65 0), (.int 2 0), (.int 0 0), (.int 0 0), (.int 3 0), (.ref 179), (.bool true), (.int 181 0), (.ref 180), .none, (.ref 181), (.ref 182), (.ref 183), (.int 406 0), (.int 65 0), (.str (.ofString "/claim/cut.py") 407)]), #[]⟩
noncomputable def o235 (P : Params) : Obj := ⟨(.«type» "function"), none, (.func ⟨(.ofString "skip"), (.ofString "NumberText.skip"), ⟨[], [⟨(.ofString "self"), none, ⟨65, 13, 65, 17⟩⟩, ⟨(.ofString "signs"), none, ⟨65, 19, 65, 24⟩⟩], none, [], [], none, []⟩, (.stmts (bdy (bdy (sts0) 22) 2)), ⟨.function, [((.ofString "self"), .local), ((.ofString "signs"), .local)], false, false, []⟩, 3, [], .none, .none, .none, (.str (.ofString "outlinemill.exact") 273), none, (.ref 184), .none, 0⟩), #[]⟩
noncomputable def o236 (P : Params) : Obj := ⟨(.«type» "tuple"), none, (.seq #[] 0), #[]⟩
noncomputable def o237 (P : Params) : Obj := ⟨.none, none, (.fields #[]), #[]⟩
noncomputable def o238 (P : Params) : Obj := ⟨(.«type» "tuple"), none, (.seq #[(.str (.ofString "self") 412), (.str (.ofString "begin") 413)] 0), #[]⟩
noncomputable def o239 (P : Params) : Obj := ⟨(.«type» "tuple"), none, (.seq #[] 0), #[]⟩
noncomputable def o240 (P : Params) : Obj := ⟨.none, none, (.func ⟨(.ofString "digits"), (.ofString "NumberText.digits"), ⟨[], [⟨(.ofString "self"), none, ⟨71, 15, 71, 19⟩⟩], none, [], [], none, []⟩, (.stmts (bdy (bdy (sts0) 22) 3)), ⟨.function, [((.ofString "self"), .local), ((.ofString "begin"), .local), ((.ofString "DIGITS"), .globalImplicit)], false, false, []⟩, 0, [], .none, .none, .none, .none, none, .none, .none, 0⟩), #[]⟩
noncomputable def o241 (P : Params) : Obj := ⟨(.«type» "code"), none, (.fields #[(.str (.ofString "digits") 409), (.str (.ofString "NumberText.digits") 410), (.str (.ofString "/claim/cut.py") 411), (.int 71 0), (.int 1 0), (.int 0 0), (.int 0 0), (.int 3 0), (.ref 186), (.bool true), (.int 181 0), (.ref 187), .none, (.ref 188), (.ref 189), (.ref 190), (.int 414 0), (.int 71 0), (.str (.ofString "/claim/cut.py") 415)]), #[]⟩
noncomputable def o242 (P : Params) : Obj := ⟨(.«type» "function"), none, (.func ⟨(.ofString "digits"), (.ofString "NumberText.digits"), ⟨[], [⟨(.ofString "self"), none, ⟨71, 15, 71, 19⟩⟩], none, [], [], none, []⟩, (.stmts (bdy (bdy (sts0) 22) 3)), ⟨.function, [((.ofString "self"), .local), ((.ofString "begin"), .local), ((.ofString "DIGITS"), .globalImplicit)], false, false, []⟩, 3, [], .none, .none, .none, (.str (.ofString "outlinemill.exact") 273), none, (.ref 191), .none, 0⟩), #[]⟩
noncomputable def o243 (P : Params) : Obj := ⟨(.«type» "tuple"), none, (.seq #[(.str (.ofString "at") 417), (.str (.ofString "text") 418)] 0), #[]⟩
noncomputable def o244 (P : Params) : Obj := ⟨(.«type» "dict"), none, (.dict #[⟨(PySem.PyData.keyHash P (.ofString "__module__")), (.str (.ofString "__module__") 380), (.str (.ofString "outlinemill.exact") 273)⟩, ⟨(PySem.PyData.keyHash P (.ofString "__firstlineno__")), (.str (.ofString "__firstlineno__") 384), (.int 56 383)⟩, ⟨(PySem.PyData.keyHash P (.ofString "__init__")), (.str (.ofString "__init__") 392), (.ref 171)⟩, ⟨(PySem.PyData.keyHash P (.ofString "is_one_of")), (.str (.ofString "is_one_of") 400), (.ref 178)⟩, ⟨(PySem.PyData.keyHash P (.ofString "skip")), (.str (.ofString "skip") 408), (.ref 185)⟩, ⟨(PySem.PyData.keyHash P (.ofString "digits")), (.str (.ofString "digits") 416), (.ref 192)⟩, ⟨(PySem.PyData.keyHash P (.ofString "__static_attributes__")), (.str (.ofString "__static_attributes__") 419), (.ref 193)⟩, ⟨(PySem.PyData.keyHash P (.ofString "__dict__")), (.str (.ofString "__dict__") 421), (.ref 196)⟩, ⟨(PySem.PyData.keyHash P (.ofString "__weakref__")), (.str (.ofString "__weakref__") 423), (.ref 197)⟩, ⟨(PySem.PyData.keyHash P (.ofString "__doc__")), (.str (.ofString "__doc__") 424), .none⟩] 4), #[]⟩
noncomputable def o245 (P : Params) : Obj := ⟨(.«type» "type"), none, (.cls ⟨(.ofString "NumberText"), [(.«type» "object")], [(.ref 195), (.«type» "object")], 194, (.ofString "NumberText"), true, [], [], false, none, false⟩), #[none, none, (some (.str (.ofString "NumberText") 373)), (some (.str (.ofString "NumberText") 381)), (some (.builtin "object.__new__")), (some (.bool true))]⟩
noncomputable def o246 (P : Params) : Obj := ⟨(.«type» "getset_descriptor"), none, (.fields #[(.str (.ofString "__dict__") 420), (.ref 195), (.builtin "function.__dict__"), (.builtin "function.__dict__#set")]), #[]⟩
noncomputable def o247 (P : Params) : Obj := ⟨(.«type» "getset_descriptor"), none, (.fields #[(.str (.ofString "__weakref__") 422), (.ref 195), (.builtin "ExceptionGroup.__weakref__"), .none]), #[]⟩
noncomputable def o248 (P : Params) : Obj := ⟨(.«type» "super"), none, (.fields #[(.ref 195), (.ref 195), (.ref 195)]), #[]⟩
noncomputable def o249 (P : Params) : Obj := ⟨(.«type» "builtin_function_or_method"), none, (.fields #[(.builtin "object.__init_subclass__"), (.ref 195)]), #[]⟩
noncomputable def o250 (P : Params) : Obj := ⟨(.«type» "tuple"), none, (.seq #[] 0), #[]⟩
noncomputable def o251 (P : Params) : Obj := ⟨.none, none, (.fields #[]), #[]⟩
noncomputable def o252 (P : Params) : Obj := ⟨(.«type» "tuple"), none, (.seq #[(.str (.ofString "digits") 430), (.str (.ofString "number") 431), (.str (.ofString "digit") 432)] 0), #[]⟩
noncomputable def o253 (P : Params) : Obj := ⟨(.«type» "tuple"), none, (.seq #[] 0), #[]⟩
noncomputable def o254 (P : Params) : Obj := ⟨.none, none, (.func ⟨(.ofString "whole_of"), (.ofString "whole_of"), ⟨[], [⟨(.ofString "digits"), none, ⟨76, 13, 76, 19⟩⟩], none, [], [], none, []⟩, (.stmts (bdy (sts0) 23)), ⟨.function, [((.ofString "digits"), .local), ((.ofString "number"), .local), ((.ofString "digit"), .local), ((.ofString "DIGITS"), .globalImplicit)], false, false, []⟩, 0, [], .none, .none, .none, .none, none, .none, .none, 0⟩), #[]⟩
noncomputable def o255 (P : Params) : Obj := ⟨(.«type» "code"), none, (.fields #[(.str (.ofString "whole_of") 427), (.str (.ofString "whole_of") 428), (.str (.ofString "/claim/cut.py") 429), (.int 76 0), (.int 1 0), (.int 0 0), (.int 0 0), (.int 3 0), (.ref 200), (.bool true), (.int 181 0), (.ref 201), .none, (.ref 202), (.ref 203), (.ref 204), (.int 433 0), (.int 76 0), (.str (.ofString "/claim/cut.py") 434)]), #[]⟩
noncomputable def o256 (P : Params) : Obj := ⟨(.«type» "function"), none, (.func ⟨(.ofString "whole_of"), (.ofString "whole_of"), ⟨[], [⟨(.ofString "digits"), none, ⟨76, 13, 76, 19⟩⟩], none, [], [], none, []⟩, (.stmts (bdy (sts0) 23)), ⟨.function, [((.ofString "digits"), .local), ((.ofString "number"), .local), ((.ofString "digit"), .local), ((.ofString "DIGITS"), .globalImplicit)], false, false, []⟩, 3, [], .none, .none, .none, (.str (.ofString "outlinemill.exact") 273), none, (.ref 205), .none, 0⟩), #[]⟩
noncomputable def o257 (P : Params) : Obj := ⟨(.«type» "tuple"), none, (.seq #[] 0), #[]⟩
noncomputable def o258 (P : Params) : Obj := ⟨.none, none, (.fields #[]), #[]⟩
noncomputable def o259 (P : Params) : Obj := ⟨(.«type» "tuple"), none, (.seq #[(.str (.ofString "reader") 439), (.str (.ofString "sign") 440), (.str (.ofString "digits") 441)] 0), #[]⟩
noncomputable def o260 (P : Params) : Obj := ⟨(.«type» "tuple"), none, (.seq #[] 0), #[]⟩
noncomputable def o261 (P : Params) : Obj := ⟨.none, none, (.func ⟨(.ofString "read_exponent"), (.ofString "read_exponent"), ⟨[], [⟨(.ofString "reader"), none, ⟨81, 18, 81, 24⟩⟩], none, [], [], none, []⟩, (.stmts (bdy (sts0) 24)), ⟨.function, [((.ofString "reader"), .local), ((.ofString "sign"), .local), ((.ofString "digits"), .local), ((.ofString "len"), .globalImplicit), ((.ofString "whole_of"), .globalImplicit), ((.ofString "MOST_EXPONENT"), .globalImplicit), ((.ofString "NumberFault"), .globalImplicit)], false, false, []⟩, 0, [], .none, .none, .none, .none, none, .none, .none, 0⟩), #[]⟩
noncomputable def o262 (P : Params) : Obj := ⟨(.«type» "code"), none, (.fields #[(.str (.ofString "read_exponent") 436), (.str (.ofString "read_exponent") 437), (.str (.ofString "/claim/cut.py") 438), (.int 81 0), (.int 1 0), (.int 0 0), (.int 0 0), (.int 3 0), (.ref 207), (.bool true), (.int 181 0), (.ref 208), .none, (.ref 209), (.ref 210), (.ref 211), (.int 442 0), (.int 81 0), (.str (.ofString "/claim/cut.py") 443)]), #[]⟩
noncomputable def o263 (P : Params) : Obj := ⟨(.«type» "function"), none, (.func ⟨(.ofString "read_exponent"), (.ofString "read_exponent"), ⟨[], [⟨(.ofString "reader"), none, ⟨81, 18, 81, 24⟩⟩], none, [], [], none, []⟩, (.stmts (bdy (sts0) 24)), ⟨.function, [((.ofString "reader"), .local), ((.ofString "sign"), .local), ((.ofString "digits"), .local), ((.ofString "len"), .globalImplicit), ((.ofString "whole_of"), .globalImplicit), ((.ofString "MOST_EXPONENT"), .globalImplicit), ((.ofString "NumberFault"), .globalImplicit)], false, false, []⟩, 3, [], .none, .none, .none, (.str (.ofString "outlinemill.exact") 273), none, (.ref 212), .none, 0⟩), #[]⟩
noncomputable def o264 (P : Params) : Obj := ⟨(.«type» "dict"), none, (.dict #[⟨(PySem.PyData.keyHash P (.ofString "__name__")), (.str (.ofString "__name__") 165), (.str (.ofString "outlinemill.matrix") 556)⟩, ⟨(PySem.PyData.keyHash P (.ofString "__doc__")), (.str (.ofString "__doc__") 166), .none⟩, ⟨(PySem.PyData.keyHash P (.ofString "__package__")), (.str (.ofString "__package__") 167), .none⟩, ⟨(PySem.PyData.keyHash P (.ofString "__loader__")), (.str (.ofString "__loader__") 168), (.builtin "__main__.__loader__#opaque")⟩, ⟨(PySem.PyData.keyHash P (.ofString "__spec__")), (.str (.ofString "__spec__") 169), .none⟩, ⟨(PySem.PyData.keyHash P (.ofString "__annotations__")), (.str (.ofString "__annotations__") 170), (.ref 6)⟩, ⟨(PySem.PyData.keyHash P (.ofString "__builtins__")), (.str (.ofString "__builtins__") 171), (.ref 4)⟩, ⟨(PySem.PyData.keyHash P (.ofString "__file__")), (.str (.ofString "__file__") 173), (.str (.ofString "/claim/cut.py") 172)⟩, ⟨(PySem.PyData.keyHash P (.ofString "__cached__")), (.str (.ofString "__cached__") 174), .none⟩, ⟨(PySem.PyData.keyHash P (.ofString "_wall")), (.str (.ofString "_wall") 193), (.ref 21)⟩, ⟨(PySem.PyData.keyHash P (.ofString "MillError")), (.str (.ofString "MillError") 224), (.ref 38)⟩, ⟨(PySem.PyData.keyHash P (.ofString "NumberFault")), (.str (.ofString "NumberFault") 240), (.ref 51)⟩, ⟨(PySem.PyData.keyHash P (.ofString "MatrixFault")), (.str (.ofString "MatrixFault") 256), (.ref 63)⟩, ⟨(PySem.PyData.keyHash P (.ofString "SheetFault")), (.str (.ofString "SheetFault") 272), (.ref 75)⟩, ⟨(PySem.PyData.keyHash P (.ofString "ZERO")), (.str (.ofString "ZERO") 277), (.ref 78)⟩, ⟨(PySem.PyData.keyHash P (.ofString "ONE")), (.str (.ofString "ONE") 280), (.ref 79)⟩, ⟨(PySem.PyData.keyHash P (.ofString "DIGITS")), (.str (.ofString "DIGITS") 282), (.str (.ofString "0123456789") 281)⟩, ⟨(PySem.PyData.keyHash P (.ofString "MOST_EXPONENT")), (.str (.ofString "MOST_EXPONENT") 284), (.int 300 283)⟩, ⟨(PySem.PyData.keyHash P (.ofString "common_divisor")), (.str (.ofString "common_divisor") 294), (.ref 86)⟩, ⟨(PySem.PyData.keyHash P (.ofString "fraction")), (.str (.ofString "fraction") 304), (.ref 94)⟩, ⟨(PySem.PyData.keyHash P (.ofString "plus")), (.str (.ofString "plus") 312), (.ref 101)⟩, ⟨(PySem.PyData.keyHash P (.ofString "minus")), (.str (.ofString "minus") 320), (.ref 108)⟩, ⟨(PySem.PyData.keyHash P (.ofString "times")), (.str (.ofString "times") 328), (.ref 115)⟩, ⟨(PySem.PyData.keyHash P (.ofString "divided")), (.str (.ofString "divided") 336), (.ref 122)⟩, ⟨(PySem.PyData.keyHash P (.ofString "negated")), (.str (.ofString "negated") 343), (.ref 129)⟩, ⟨(PySem.PyData.keyHash P (.ofString "sign_of")), (.str (.ofString "sign_of") 350), (.ref 136)⟩, ⟨(PySem.PyData.keyHash P (.ofString "compare")), (.str (.ofString "compare") 358), (.ref 143)⟩, ⟨(PySem.PyData.keyHash P (.ofString "floor_of")), (.str (.ofString "floor_of") 365), (.ref 150)⟩, ⟨(PySem.PyData.keyHash P (.ofString "rounded")), (.str (.ofString "rounded") 372), (.ref 157)⟩, ⟨(PySem.PyData.keyHash P (.ofString "NumberText")), (.str (.ofString "NumberText") 426), (.ref 195)⟩, ⟨(PySem.PyData.keyHash P (.ofString "whole_of")), (.str (.ofString "whole_of") 435), (.ref 206)⟩, ⟨(PySem.PyData.keyHash P (.ofString "read_exponent")), (.str (.ofString "read_exponent") 444), (.ref 213)⟩, ⟨(PySem.PyData.keyHash P (.ofString "read_decimal")), (.str (.ofString "read_decimal") 457), (.ref 220)⟩, ⟨(PySem.PyData.keyHash P (.ofString "PI_TOP")), (.str (.ofString "PI_TOP") 461), (.int 314159265358979323846264338327950288419716939937510 460)⟩, ⟨(PySem.PyData.keyHash P (.ofString "PI_BOTTOM")), (.str (.ofString "PI_BOTTOM") 465), (.int 100000000000000000000000000000000000000000000000000 464)⟩, ⟨(PySem.PyData.keyHash P (.ofString "MORE")), (.str (.ofString "MORE") 469), (.int 65536 468)⟩, ⟨(PySem.PyData.keyHash P (.ofString "RIGHT")), (.str (.ofString "RIGHT") 472), (.ref 221)⟩, ⟨(PySem.PyData.keyHash P (.ofString "HALF_RIGHT")), (.str (.ofString "HALF_RIGHT") 475), (.ref 222)⟩, ⟨(PySem.PyData.keyHash P (.ofString "scaled_radians")), (.str (.ofString "scaled_radians") 483), (.ref 229)⟩, ⟨(PySem.PyData.keyHash P (.ofString "series")), (.str (.ofString "series") 496), (.ref 236)⟩, ⟨(PySem.PyData.keyHash P (.ofString "small_turn")), (.str (.ofString "small_turn") 509), (.ref 243)⟩, ⟨(PySem.PyData.keyHash P (.ofString "near")), (.str (.ofString "near") 518), (.ref 250)⟩, ⟨(PySem.PyData.keyHash P (.ofString "quarter_turn")), (.str (.ofString "quarter_turn") 529), (.ref 257)⟩, ⟨(PySem.PyData.keyHash P (.ofString "turn_of")), (.str (.ofString "turn_of") 543), (.ref 265)⟩, ⟨(PySem.PyData.keyHash P (.ofString "tangent_of")), (.str (.ofString "tangent_of") 555), (.ref 273)⟩] 45), #[]⟩
noncomputable def o265 (P : Params) : Obj := ⟨.none, none, (.fields #[(.int 1 0), (.int 0 0), (.ref 20), (.int 5 0), (.int 0 0), (.ref 27), (.int 9 0), (.int 0 0), (.ref 47), (.int 11 0), (.int 0 0), (.ref 59), (.int 13 0), (.int 0 0), (.ref 71), (.int 20 0), (.int 0 0), (.ref 85), (.int 25 0), (.int 0 0), (.ref 93), (.int 32 0), (.int 0 0), (.ref 100), (.int 34 0), (.int 0 0), (.ref 107), (.int 36 0), (.int 0 0), (.ref 114), (.int 38 0), (.int 0 0), (.ref 121), (.int 42 0), (.int 0 0), (.ref 128), (.int 44 0), (.int 0 0), (.ref 135), (.int 50 0), (.int 0 0), (.ref 142), (.int 52 0), (.int 0 0), (.ref 149), (.int 54 0), (.int 0 0), (.ref 156), (.int 56 0), (.int 0 0), (.ref 163), (.int 76 0), (.int 0 0), (.ref 205), (.int 81 0), (.int 0 0), (.ref 212), (.int 88 0), (.int 0 0), (.ref 219), (.int 110 0), (.int 0 0), (.ref 228), (.int 112 0), (.int 0 0), (.ref 235), (.int 119 0), (.int 0 0), (.ref 242), (.int 125 0), (.int 0 0), (.ref 249), (.int 127 0), (.int 0 0), (.ref 256), (.int 136 0), (.int 0 0), (.ref 264), (.int 145 0), (.int 0 0), (.ref 272)]), #[]⟩
noncomputable def o266 (P : Params) : Obj := ⟨(.«type» "tuple"), none, (.seq #[] 0), #[]⟩
noncomputable def o267 (P : Params) : Obj := ⟨.none, none, (.fields #[]), #[]⟩
noncomputable def o268 (P : Params) : Obj := ⟨(.«type» "tuple"), none, (.seq #[(.str (.ofString "text") 448), (.str (.ofString "reader") 449), (.str (.ofString "sign") 450), (.str (.ofString "whole") 451), (.str (.ofString "parts") 452), (.str (.ofString "exponent") 453), (.str (.ofString "number") 454)] 0), #[]⟩
noncomputable def o269 (P : Params) : Obj := ⟨(.«type» "tuple"), none, (.seq #[] 0), #[]⟩
noncomputable def o270 (P : Params) : Obj := ⟨.none, none, (.func ⟨(.ofString "read_decimal"), (.ofString "read_decimal"), ⟨[], [⟨(.ofString "text"), none, ⟨88, 17, 88, 21⟩⟩], none, [], [], none, []⟩, (.stmts (bdy (sts0) 25)), ⟨.function, [((.ofString "text"), .local), ((.ofString "reader"), .local), ((.ofString "sign"), .local), ((.ofString "whole"), .local), ((.ofString "parts"), .local), ((.ofString "exponent"), .local), ((.ofString "number"), .local), ((.ofString "NumberText"), .globalImplicit), ((.ofString "NumberFault"), .globalImplicit), ((.ofString "read_exponent"), .globalImplicit), ((.ofString "len"), .globalImplicit), ((.ofString "whole_of"), .globalImplicit), ((.ofString "fraction"), .globalImplicit)], false, false, []⟩, 0, [], .none, .none, .none, .none, none, .none, .none, 0⟩), #[]⟩
noncomputable def o271 (P : Params) : Obj := ⟨(.«type» "code"), none, (.fields #[(.str (.ofString "read_decimal") 445), (.str (.ofString "read_decimal") 446), (.str (.ofString "/claim/cut.py") 447), (.int 88 0), (.int 1 0), (.int 0 0), (.int 0 0), (.int 3 0), (.ref 214), (.bool true), (.int 181 0), (.ref 215), .none, (.ref 216), (.ref 217), (.ref 218), (.int 455 0), (.int 88 0), (.str (.ofString "/claim/cut.py") 456)]), #[]⟩
noncomputable def o272 (P : Params) : Obj := ⟨(.«type» "function"), none, (.func ⟨(.ofString "read_decimal"), (.ofString "read_decimal"), ⟨[], [⟨(.ofString "text"), none, ⟨88, 17, 88, 21⟩⟩], none, [], [], none, []⟩, (.stmts (bdy (sts0) 25)), ⟨.function, [((.ofString "text"), .local), ((.ofString "reader"), .local), ((.ofString "sign"), .local), ((.ofString "whole"), .local), ((.ofString "parts"), .local), ((.ofString "exponent"), .local), ((.ofString "number"), .local), ((.ofString "NumberText"), .globalImplicit), ((.ofString "NumberFault"), .globalImplicit), ((.ofString "read_exponent"), .globalImplicit), ((.ofString "len"), .globalImplicit), ((.ofString "whole_of"), .globalImplicit), ((.ofString "fraction"), .globalImplicit)], false, false, []⟩, 3, [], .none, .none, .none, (.str (.ofString "outlinemill.exact") 273), none, (.ref 219), .none, 0⟩), #[]⟩
noncomputable def o273 (P : Params) : Obj := ⟨(.«type» "tuple"), none, (.seq #[(.int 90 470), (.int 1 471)] 0), #[]⟩
noncomputable def o274 (P : Params) : Obj := ⟨(.«type» "tuple"), none, (.seq #[(.int 45 473), (.int 1 474)] 0), #[]⟩
noncomputable def o275 (P : Params) : Obj := ⟨(.«type» "tuple"), none, (.seq #[] 0), #[]⟩
noncomputable def o276 (P : Params) : Obj := ⟨.none, none, (.fields #[]), #[]⟩
noncomputable def o277 (P : Params) : Obj := ⟨(.«type» "tuple"), none, (.seq #[(.str (.ofString "degrees") 479), (.str (.ofString "scale") 480)] 0), #[]⟩
noncomputable def o278 (P : Params) : Obj := ⟨(.«type» "tuple"), none, (.seq #[] 0), #[]⟩
noncomputable def o279 (P : Params) : Obj := ⟨.none, none, (.func ⟨(.ofString "scaled_radians"), (.ofString "scaled_radians"), ⟨[], [⟨(.ofString "degrees"), none, ⟨110, 19, 110, 26⟩⟩, ⟨(.ofString "scale"), none, ⟨110, 28, 110, 33⟩⟩], none, [], [], none, []⟩, (.stmts (bdy (sts0) 32)), ⟨.function, [((.ofString "degrees"), .local), ((.ofString "scale"), .local), ((.ofString "PI_TOP"), .globalImplicit), ((.ofString "PI_BOTTOM"), .globalImplicit)], false, false, []⟩, 0, [], .none, .none, .none, .none, none, .none, .none, 0⟩), #[]⟩
noncomputable def o280 (P : Params) : Obj := ⟨(.«type» "code"), none, (.fields #[(.str (.ofString "scaled_radians") 476), (.str (.ofString "scaled_radians") 477), (.str (.ofString "/claim/cut.py") 478), (.int 110 0), (.int 2 0), (.int 0 0), (.int 0 0), (.int 3 0), (.ref 223), (.bool true), (.int 181 0), (.ref 224), .none, (.ref 225), (.ref 226), (.ref 227), (.int 481 0), (.int 110 0), (.str (.ofString "/claim/cut.py") 482)]), #[]⟩
noncomputable def o281 (P : Params) : Obj := ⟨(.«type» "function"), none, (.func ⟨(.ofString "scaled_radians"), (.ofString "scaled_radians"), ⟨[], [⟨(.ofString "degrees"), none, ⟨110, 19, 110, 26⟩⟩, ⟨(.ofString "scale"), none, ⟨110, 28, 110, 33⟩⟩], none, [], [], none, []⟩, (.stmts (bdy (sts0) 32)), ⟨.function, [((.ofString "degrees"), .local), ((.ofString "scale"), .local), ((.ofString "PI_TOP"), .globalImplicit), ((.ofString "PI_BOTTOM"), .globalImplicit)], false, false, []⟩, 3, [], .none, .none, .none, (.str (.ofString "outlinemill.angles") 458), none, (.ref 228), .none, 0⟩), #[]⟩
noncomputable def o282 (P : Params) : Obj := ⟨(.«type» "tuple"), none, (.seq #[] 0), #[]⟩
noncomputable def o283 (P : Params) : Obj := ⟨.none, none, (.fields #[]), #[]⟩
noncomputable def o284 (P : Params) : Obj := ⟨(.«type» "tuple"), none, (.seq #[(.str (.ofString "first") 487), (.str (.ofString "square") 488), (.str (.ofString "scale") 489), (.str (.ofString "begin") 490), (.str (.ofString "total") 491), (.str (.ofString "term") 492), (.str (.ofString "step") 493)] 0), #[]⟩
noncomputable def o285 (P : Params) : Obj := ⟨(.«type» "tuple"), none, (.seq #[] 0), #[]⟩
noncomputable def o286 (P : Params) : Obj := ⟨.none, none, (.func ⟨(.ofString "series"), (.ofString "series"), ⟨[], [⟨(.ofString "first"), none, ⟨112, 11, 112, 16⟩⟩, ⟨(.ofString "square"), none, ⟨112, 18, 112, 24⟩⟩, ⟨(.ofString "scale"), none, ⟨112, 26, 112, 31⟩⟩, ⟨(.ofString "begin"), none, ⟨112, 33, 112, 38⟩⟩], none, [], [], none, []⟩, (.stmts (bdy (sts0) 33)), ⟨.function, [((.ofString "first"), .local), ((.ofString "square"), .local), ((.ofString "scale"), .local), ((.ofString "begin"), .local), ((.ofString "total"), .local), ((.ofString "term"), .local), ((.ofString "step"), .local)], false, false, []⟩, 0, [], .none, .none, .none, .none, none, .none, .none, 0⟩), #[]⟩
noncomputable def o287 (P : Params) : Obj := ⟨(.«type» "code"), none, (.fields #[(.str (.ofString "series") 484), (.str (.ofString "series") 485), (.str (.ofString "/claim/cut.py") 486), (.int 112 0), (.int 4 0), (.int 0 0), (.int 0 0), (.int 3 0), (.ref 230), (.bool true), (.int 181 0), (.ref 231), .none, (.ref 232), (.ref 233), (.ref 234), (.int 494 0), (.int 112 0), (.str (.ofString "/claim/cut.py") 495)]), #[]⟩
noncomputable def o288 (P : Params) : Obj := ⟨(.«type» "function"), none, (.func ⟨(.ofString "series"), (.ofString "series"), ⟨[], [⟨(.ofString "first"), none, ⟨112, 11, 112, 16⟩⟩, ⟨(.ofString "square"), none, ⟨112, 18, 112, 24⟩⟩, ⟨(.ofString "scale"), none, ⟨112, 26, 112, 31⟩⟩, ⟨(.ofString "begin"), none, ⟨112, 33, 112, 38⟩⟩], none, [], [], none, []⟩, (.stmts (bdy (sts0) 33)), ⟨.function, [((.ofString "first"), .local), ((.ofString "square"), .local), ((.ofString "scale"), .local), ((.ofString "begin"), .local), ((.ofString "total"), .local), ((.ofString "term"), .local), ((.ofString "step"), .local)], false, false, []⟩, 3, [], .none, .none, .none, (.str (.ofString "outlinemill.angles") 458), none, (.ref 235), .none, 0⟩), #[]⟩
noncomputable def o289 (P : Params) : Obj := ⟨(.«type» "tuple"), none, (.seq #[] 0), #[]⟩
noncomputable def o290 (P : Params) : Obj := ⟨.none, none, (.fields #[]), #[]⟩
noncomputable def o291 (P : Params) : Obj := ⟨(.«type» "tuple"), none, (.seq #[(.str (.ofString "degrees") 500), (.str (.ofString "bottom") 501), (.str (.ofString "scale") 502), (.str (.ofString "radians") 503), (.str (.ofString "square") 504), (.str (.ofString "cosine") 505), (.str (.ofString "sine") 506)] 0), #[]⟩
noncomputable def o292 (P : Params) : Obj := ⟨(.«type» "tuple"), none, (.seq #[] 0), #[]⟩
noncomputable def o293 (P : Params) : Obj := ⟨.none, none, (.func ⟨(.ofString "small_turn"), (.ofString "small_turn"), ⟨[], [⟨(.ofString "degrees"), none, ⟨119, 15, 119, 22⟩⟩, ⟨(.ofString "bottom"), none, ⟨119, 24, 119, 30⟩⟩], none, [], [], none, []⟩, (.stmts (bdy (sts0) 34)), ⟨.function, [((.ofString "degrees"), .local), ((.ofString "bottom"), .local), ((.ofString "scale"), .local), ((.ofString "radians"), .local), ((.ofString "square"), .local), ((.ofString "cosine"), .local), ((.ofString "sine"), .local), ((.ofString "MORE"), .globalImplicit), ((.ofString "scaled_radians"), .globalImplicit), ((.ofString "series"), .globalImplicit), ((.ofString "near"), .globalImplicit)], false, false, []⟩, 0, [], .none, .none, .none, .none, none, .none, .none, 0⟩), #[]⟩
noncomputable def o294 (P : Params) : Obj := ⟨(.«type» "code"), none, (.fields #[(.str (.ofString "small_turn") 497), (.str (.ofString "small_turn") 498), (.str (.ofString "/claim/cut.py") 499), (.int 119 0), (.int 2 0), (.int 0 0), (.int 0 0), (.int 3 0), (.ref 237), (.bool true), (.int 181 0), (.ref 238), .none, (.ref 239), (.ref 240), (.ref 241), (.int 507 0), (.int 119 0), (.str (.ofString "/claim/cut.py") 508)]), #[]⟩
noncomputable def o295 (P : Params) : Obj := ⟨(.«type» "function"), none, (.func ⟨(.ofString "small_turn"), (.ofString "small_turn"), ⟨[], [⟨(.ofString "degrees"), none, ⟨119, 15, 119, 22⟩⟩, ⟨(.ofString "bottom"), none, ⟨119, 24, 119, 30⟩⟩], none, [], [], none, []⟩, (.stmts (bdy (sts0) 34)), ⟨.function, [((.ofString "degrees"), .local), ((.ofString "bottom"), .local), ((.ofString "scale"), .local), ((.ofString "radians"), .local), ((.ofString "square"), .local), ((.ofString "cosine"), .local), ((.ofString "sine"), .local), ((.ofString "MORE"), .globalImplicit), ((.ofString "scaled_radians"), .globalImplicit), ((.ofString "series"), .globalImplicit), ((.ofString "near"), .globalImplicit)], false, false, []⟩, 3, [], .none, .none, .none, (.str (.ofString "outlinemill.angles") 458), none, (.ref 242), .none, 0⟩), #[]⟩
noncomputable def o296 (P : Params) : Obj := ⟨(.«type» "tuple"), none, (.seq #[] 0), #[]⟩
noncomputable def o297 (P : Params) : Obj := ⟨.none, none, (.fields #[]), #[]⟩
noncomputable def o298 (P : Params) : Obj := ⟨(.«type» "tuple"), none, (.seq #[(.str (.ofString "number") 513), (.str (.ofString "scale") 514), (.str (.ofString "bottom") 515)] 0), #[]⟩
noncomputable def o299 (P : Params) : Obj := ⟨(.«type» "tuple"), none, (.seq #[] 0), #[]⟩
noncomputable def o300 (P : Params) : Obj := ⟨.none, none, (.func ⟨(.ofString "near"), (.ofString "near"), ⟨[], [⟨(.ofString "number"), none, ⟨125, 9, 125, 15⟩⟩, ⟨(.ofString "scale"), none, ⟨125, 17, 125, 22⟩⟩, ⟨(.ofString "bottom"), none, ⟨125, 24, 125, 30⟩⟩], none, [], [], none, []⟩, (.stmts (bdy (sts0) 35)), ⟨.function, [((.ofString "number"), .local), ((.ofString "scale"), .local), ((.ofString "bottom"), .local), ((.ofString "fraction"), .globalImplicit), ((.ofString "rounded"), .globalImplicit)], false, false, []⟩, 0, [], .none, .none, .none, .none, none, .none, .none, 0⟩), #[]⟩
noncomputable def o301 (P : Params) : Obj := ⟨(.«type» "code"), none, (.fields #[(.str (.ofString "near") 510), (.str (.ofString "near") 511), (.str (.ofString "/claim/cut.py") 512), (.int 125 0), (.int 3 0), (.int 0 0), (.int 0 0), (.int 3 0), (.ref 244), (.bool true), (.int 181 0), (.ref 245), .none, (.ref 246), (.ref 247), (.ref 248), (.int 516 0), (.int 125 0), (.str (.ofString "/claim/cut.py") 517)]), #[]⟩
noncomputable def o302 (P : Params) : Obj := ⟨(.«type» "function"), none, (.func ⟨(.ofString "near"), (.ofString "near"), ⟨[], [⟨(.ofString "number"), none, ⟨125, 9, 125, 15⟩⟩, ⟨(.ofString "scale"), none, ⟨125, 17, 125, 22⟩⟩, ⟨(.ofString "bottom"), none, ⟨125, 24, 125, 30⟩⟩], none, [], [], none, []⟩, (.stmts (bdy (sts0) 35)), ⟨.function, [((.ofString "number"), .local), ((.ofString "scale"), .local), ((.ofString "bottom"), .local), ((.ofString "fraction"), .globalImplicit), ((.ofString "rounded"), .globalImplicit)], false, false, []⟩, 3, [], .none, .none, .none, (.str (.ofString "outlinemill.angles") 458), none, (.ref 249), .none, 0⟩), #[]⟩
noncomputable def o303 (P : Params) : Obj := ⟨(.«type» "tuple"), none, (.seq #[] 0), #[]⟩
noncomputable def o304 (P : Params) : Obj := ⟨.none, none, (.fields #[]), #[]⟩
noncomputable def o305 (P : Params) : Obj := ⟨(.«type» "tuple"), none, (.seq #[(.str (.ofString "degrees") 522), (.str (.ofString "bottom") 523), (.str (.ofString "side") 524), (.str (.ofString "cosine") 525), (.str (.ofString "sine") 526)] 0), #[]⟩
noncomputable def o306 (P : Params) : Obj := ⟨(.«type» "tuple"), none, (.seq #[] 0), #[]⟩
noncomputable def o307 (P : Params) : Obj := ⟨.none, none, (.func ⟨(.ofString "quarter_turn"), (.ofString "quarter_turn"), ⟨[], [⟨(.ofString "degrees"), none, ⟨127, 17, 127, 24⟩⟩, ⟨(.ofString "bottom"), none, ⟨127, 26, 127, 32⟩⟩], none, [], [], none, []⟩, (.stmts (bdy (sts0) 36)), ⟨.function, [((.ofString "degrees"), .local), ((.ofString "bottom"), .local), ((.ofString "side"), .local), ((.ofString "cosine"), .local), ((.ofString "sine"), .local), ((.ofString "compare"), .globalImplicit), ((.ofString "HALF_RIGHT"), .globalImplicit), ((.ofString "small_turn"), .globalImplicit), ((.ofString "minus"), .globalImplicit), ((.ofString "RIGHT"), .globalImplicit)], false, false, []⟩, 0, [], .none, .none, .none, .none, none, .none, .none, 0⟩), #[]⟩
noncomputable def o308 (P : Params) : Obj := ⟨(.«type» "code"), none, (.fields #[(.str (.ofString "quarter_turn") 519), (.str (.ofString "quarter_turn") 520), (.str (.ofString "/claim/cut.py") 521), (.int 127 0), (.int 2 0), (.int 0 0), (.int 0 0), (.int 3 0), (.ref 251), (.bool true), (.int 181 0), (.ref 252), .none, (.ref 253), (.ref 254), (.ref 255), (.int 527 0), (.int 127 0), (.str (.ofString "/claim/cut.py") 528)]), #[]⟩
noncomputable def o309 (P : Params) : Obj := ⟨(.«type» "function"), none, (.func ⟨(.ofString "quarter_turn"), (.ofString "quarter_turn"), ⟨[], [⟨(.ofString "degrees"), none, ⟨127, 17, 127, 24⟩⟩, ⟨(.ofString "bottom"), none, ⟨127, 26, 127, 32⟩⟩], none, [], [], none, []⟩, (.stmts (bdy (sts0) 36)), ⟨.function, [((.ofString "degrees"), .local), ((.ofString "bottom"), .local), ((.ofString "side"), .local), ((.ofString "cosine"), .local), ((.ofString "sine"), .local), ((.ofString "compare"), .globalImplicit), ((.ofString "HALF_RIGHT"), .globalImplicit), ((.ofString "small_turn"), .globalImplicit), ((.ofString "minus"), .globalImplicit), ((.ofString "RIGHT"), .globalImplicit)], false, false, []⟩, 3, [], .none, .none, .none, (.str (.ofString "outlinemill.angles") 458), none, (.ref 256), .none, 0⟩), #[]⟩
noncomputable def o310 (P : Params) : Obj := ⟨(.«type» "tuple"), none, (.seq #[(.int 65536 530)] 0), #[]⟩
noncomputable def o311 (P : Params) : Obj := ⟨(.«type» "tuple"), none, (.seq #[] 0), #[]⟩
noncomputable def o312 (P : Params) : Obj := ⟨.none, none, (.fields #[]), #[]⟩
noncomputable def o313 (P : Params) : Obj := ⟨(.«type» "tuple"), none, (.seq #[(.str (.ofString "degrees") 534), (.str (.ofString "bottom") 535), (.str (.ofString "quarters") 536), (.str (.ofString "rest") 537), (.str (.ofString "cosine") 538), (.str (.ofString "sine") 539), (.str (.ofString "turn") 540)] 0), #[]⟩
noncomputable def o314 (P : Params) : Obj := ⟨(.«type» "tuple"), none, (.seq #[] 0), #[]⟩
noncomputable def o315 (P : Params) : Obj := ⟨.none, none, (.func ⟨(.ofString "turn_of"), (.ofString "turn_of"), ⟨[], [⟨(.ofString "degrees"), none, ⟨136, 12, 136, 19⟩⟩, ⟨(.ofString "bottom"), none, ⟨136, 21, 136, 27⟩⟩], none, [], [], none, [(.Constant (.int 65536) 0 ⟨136, 28, 136, 33⟩)]⟩, (.stmts (bdy (sts0) 37)), ⟨.function, [((.ofString "degrees"), .local), ((.ofString "bottom"), .local), ((.ofString "quarters"), .local), ((.ofString "rest"), .local), ((.ofString "cosine"), .local), ((.ofString "sine"), .local), ((.ofString "turn"), .local), ((.ofString "floor_of"), .globalImplicit), ((.ofString "divided"), .globalImplicit), ((.ofString "RIGHT"), .globalImplicit), ((.ofString "minus"), .globalImplicit), ((.ofString "quarter_turn"), .globalImplicit), ((.ofString "range"), .globalImplicit), ((.ofString "negated"), .globalImplicit)], false, false, []⟩, 0, [], .none, .none, .none, .none, none, .none, .none, 0⟩), #[]⟩
noncomputable def o316 (P : Params) : Obj := ⟨(.«type» "code"), none, (.fields #[(.str (.ofString "turn_of") 531), (.str (.ofString "turn_of") 532), (.str (.ofString "/claim/cut.py") 533), (.int 136 0), (.int 2 0), (.int 0 0), (.int 0 0), (.int 3 0), (.ref 259), (.bool true), (.int 181 0), (.ref 260), .none, (.ref 261), (.ref 262), (.ref 263), (.int 541 0), (.int 136 0), (.str (.ofString "/claim/cut.py") 542)]), #[]⟩
noncomputable def o317 (P : Params) : Obj := ⟨(.«type» "function"), none, (.func ⟨(.ofString "turn_of"), (.ofString "turn_of"), ⟨[], [⟨(.ofString "degrees"), none, ⟨136, 12, 136, 19⟩⟩, ⟨(.ofString "bottom"), none, ⟨136, 21, 136, 27⟩⟩], none, [], [], none, [(.Constant (.int 65536) 0 ⟨136, 28, 136, 33⟩)]⟩, (.stmts (bdy (sts0) 37)), ⟨.function, [((.ofString "degrees"), .local), ((.ofString "bottom"), .local), ((.ofString "quarters"), .local), ((.ofString "rest"), .local), ((.ofString "cosine"), .local), ((.ofString "sine"), .local), ((.ofString "turn"), .local), ((.ofString "floor_of"), .globalImplicit), ((.ofString "divided"), .globalImplicit), ((.ofString "RIGHT"), .globalImplicit), ((.ofString "minus"), .globalImplicit), ((.ofString "quarter_turn"), .globalImplicit), ((.ofString "range"), .globalImplicit), ((.ofString "negated"), .globalImplicit)], false, false, []⟩, 3, [], (.ref 258), .none, .none, (.str (.ofString "outlinemill.angles") 458), none, (.ref 264), .none, 0⟩), #[]⟩
noncomputable def o318 (P : Params) : Obj := ⟨(.«type» "tuple"), none, (.seq #[(.int 65536 544)] 0), #[]⟩
noncomputable def o319 (P : Params) : Obj := ⟨(.«type» "tuple"), none, (.seq #[] 0), #[]⟩
noncomputable def o320 (P : Params) : Obj := ⟨.none, none, (.fields #[]), #[]⟩
noncomputable def o321 (P : Params) : Obj := ⟨(.«type» "tuple"), none, (.seq #[(.str (.ofString "degrees") 548), (.str (.ofString "bottom") 549), (.str (.ofString "cosine") 550), (.str (.ofString "sine") 551), (.str (.ofString "told") 552)] 0), #[]⟩
noncomputable def o322 (P : Params) : Obj := ⟨(.«type» "tuple"), none, (.seq #[] 0), #[]⟩
noncomputable def o323 (P : Params) : Obj := ⟨.none, none, (.func ⟨(.ofString "tangent_of"), (.ofString "tangent_of"), ⟨[], [⟨(.ofString "degrees"), none, ⟨145, 15, 145, 22⟩⟩, ⟨(.ofString "bottom"), none, ⟨145, 24, 145, 30⟩⟩], none, [], [], none, [(.Constant (.int 65536) 0 ⟨145, 31, 145, 36⟩)]⟩, (.stmts (bdy (sts0) 38)), ⟨.function, [((.ofString "degrees"), .local), ((.ofString "bottom"), .local), ((.ofString "cosine"), .local), ((.ofString "sine"), .local), ((.ofString "told"), .local), ((.ofString "turn_of"), .globalImplicit), ((.ofString "MORE"), .globalImplicit), ((.ofString "NumberFault"), .globalImplicit), ((.ofString "divided"), .globalImplicit), ((.ofString "fraction"), .globalImplicit), ((.ofString "rounded"), .globalImplicit), ((.ofString "times"), .globalImplicit)], false, false, []⟩, 0, [], .none, .none, .none, .none, none, .none, .none, 0⟩), #[]⟩
noncomputable def o324 (P : Params) : Obj := ⟨(.«type» "code"), none, (.fields #[(.str (.ofString "tangent_of") 545), (.str (.ofString "tangent_of") 546), (.str (.ofString "/claim/cut.py") 547), (.int 145 0), (.int 2 0), (.int 0 0), (.int 0 0), (.int 3 0), (.ref 267), (.bool true), (.int 181 0), (.ref 268), .none, (.ref 269), (.ref 270), (.ref 271), (.int 553 0), (.int 145 0), (.str (.ofString "/claim/cut.py") 554)]), #[]⟩
noncomputable def o325 (P : Params) : Obj := ⟨(.«type» "function"), none, (.func ⟨(.ofString "tangent_of"), (.ofString "tangent_of"), ⟨[], [⟨(.ofString "degrees"), none, ⟨145, 15, 145, 22⟩⟩, ⟨(.ofString "bottom"), none, ⟨145, 24, 145, 30⟩⟩], none, [], [], none, [(.Constant (.int 65536) 0 ⟨145, 31, 145, 36⟩)]⟩, (.stmts (bdy (sts0) 38)), ⟨.function, [((.ofString "degrees"), .local), ((.ofString "bottom"), .local), ((.ofString "cosine"), .local), ((.ofString "sine"), .local), ((.ofString "told"), .local), ((.ofString "turn_of"), .globalImplicit), ((.ofString "MORE"), .globalImplicit), ((.ofString "NumberFault"), .globalImplicit), ((.ofString "divided"), .globalImplicit), ((.ofString "fraction"), .globalImplicit), ((.ofString "rounded"), .globalImplicit), ((.ofString "times"), .globalImplicit)], false, false, []⟩, 3, [], (.ref 266), .none, .none, (.str (.ofString "outlinemill.angles") 458), none, (.ref 272), .none, 0⟩), #[]⟩
noncomputable def o328 (P : Params) : Obj := ⟨(.«type» "tuple"), none, (.seq #[] 0), #[]⟩
noncomputable def o329 (P : Params) : Obj := ⟨(.«type» "builtin_function_or_method"), none, (.fields #[(.builtin "type.__prepare__"), (.«type» "type")]), #[]⟩
noncomputable def o330 (P : Params) : Obj := ⟨(.«type» "dict"), none, (.dict #[⟨(PySem.PyData.keyHash P (.ofString "__module__")), (.str (.ofString "__module__") 565), (.str (.ofString "outlinemill.matrix") 556)⟩, ⟨(PySem.PyData.keyHash P (.ofString "__qualname__")), (.str (.ofString "__qualname__") 567), (.str (.ofString "Matrix") 566)⟩, ⟨(PySem.PyData.keyHash P (.ofString "__firstlineno__")), (.str (.ofString "__firstlineno__") 569), (.int 152 568)⟩, ⟨(PySem.PyData.keyHash P (.ofString "__init__")), (.str (.ofString "__init__") 582), (.ref 287)⟩, ⟨(PySem.PyData.keyHash P (.ofString "row")), (.str (.ofString "row") 589), (.ref 294)⟩, ⟨(PySem.PyData.keyHash P (.ofString "vector")), (.str (.ofString "vector") 599), (.ref 301)⟩, ⟨(PySem.PyData.keyHash P (.ofString "point")), (.str (.ofString "point") 609), (.ref 308)⟩, ⟨(PySem.PyData.keyHash P (.ofString "then")), (.str (.ofString "then") 617), (.ref 315)⟩, ⟨(PySem.PyData.keyHash P (.ofString "determinant")), (.str (.ofString "determinant") 624), (.ref 322)⟩, ⟨(PySem.PyData.keyHash P (.ofString "inverse")), (.str (.ofString "inverse") 635), (.ref 329)⟩, ⟨(PySem.PyData.keyHash P (.ofString "__static_attributes__")), (.str (.ofString "__static_attributes__") 642), (.ref 330)⟩] 11), #[]⟩
noncomputable def o331 (P : Params) : Obj := ⟨(.«type» "tuple"), none, (.seq #[] 0), #[]⟩
noncomputable def o332 (P : Params) : Obj := ⟨.none, none, (.fields #[(.int 154 0), (.int 4 0), (.ref 286), (.int 162 0), (.int 4 0), (.ref 293), (.int 165 0), (.int 4 0), (.ref 300), (.int 169 0), (.int 4 0), (.ref 307), (.int 173 0), (.int 4 0), (.ref 314), (.int 176 0), (.int 4 0), (.ref 321), (.int 179 0), (.int 4 0), (.ref 328)]), #[]⟩
noncomputable def o333 (P : Params) : Obj := ⟨(.«type» "code"), none, (.fields #[(.str (.ofString "Matrix") 560), (.str (.ofString "Matrix") 561), (.str (.ofString "/claim/cut.py") 562), (.int 152 0), (.int 0 0), (.int 0 0), (.int 0 0), (.int 0 0), (.ref 277), (.bool false), (.int 181 0), (.ref 278), .none, .none, .none, .none, (.int 563 0), (.int 152 0), (.str (.ofString "/claim/cut.py") 564)]), #[]⟩
noncomputable def o334 (P : Params) : Obj := ⟨(.«type» "frame"), none, .plain, #[(some (.ref 279)), (some (.ref 3)), (some (.ref 276)), none, (some (.str (.ofString "outlinemill.matrix") 556)), none, (some (.ref 0))]⟩
noncomputable def o335 (P : Params) : Obj := ⟨(.«type» "tuple"), none, (.seq #[] 0), #[]⟩
noncomputable def o336 (P : Params) : Obj := ⟨.none, none, (.fields #[]), #[]⟩
noncomputable def o337 (P : Params) : Obj := ⟨(.«type» "tuple"), none, (.seq #[(.str (.ofString "self") 573), (.str (.ofString "a") 574), (.str (.ofString "b") 575), (.str (.ofString "c") 576), (.str (.ofString "d") 577), (.str (.ofString "e") 578), (.str (.ofString "f") 579)] 0), #[]⟩
noncomputable def o338 (P : Params) : Obj := ⟨(.«type» "tuple"), none, (.seq #[] 0), #[]⟩
noncomputable def o339 (P : Params) : Obj := ⟨.none, none, (.func ⟨(.ofString "__init__"), (.ofString "Matrix.__init__"), ⟨[], [⟨(.ofString "self"), none, ⟨154, 17, 154, 21⟩⟩, ⟨(.ofString "a"), none, ⟨154, 23, 154, 24⟩⟩, ⟨(.ofString "b"), none, ⟨154, 26, 154, 27⟩⟩, ⟨(.ofString "c"), none, ⟨154, 29, 154, 30⟩⟩, ⟨(.ofString "d"), none, ⟨154, 32, 154, 33⟩⟩, ⟨(.ofString "e"), none, ⟨154, 35, 154, 36⟩⟩, ⟨(.ofString "f"), none, ⟨154, 38, 154, 39⟩⟩], none, [], [], none, []⟩, (.stmts (bdy (bdy (sts0) 40) 0)), ⟨.function, [((.ofString "self"), .local), ((.ofString "a"), .local), ((.ofString "b"), .local), ((.ofString "c"), .local), ((.ofString "d"), .local), ((.ofString "e"), .local), ((.ofString "f"), .local)], false, false, []⟩, 0, [], .none, .none, .none, .none, none, .none, .none, 0⟩), #[]⟩
noncomputable def o340 (P : Params) : Obj := ⟨(.«type» "code"), none, (.fields #[(.str (.ofString "__init__") 570), (.str (.ofString "Matrix.__init__") 571), (.str (.ofString "/claim/cut.py") 572), (.int 154 0), (.int 7 0), (.int 0 0), (.int 0 0), (.int 3 0), (.ref 281), (.bool true), (.int 181 0), (.ref 282), .none, (.ref 283), (.ref 284), (.ref 285), (.int 580 0), (.int 154 0), (.str (.ofString "/claim/cut.py") 581)]), #[]⟩
noncomputable def o341 (P : Params) : Obj := ⟨(.«type» "function"), none, (.func ⟨(.ofString "__init__"), (.ofString "Matrix.__init__"), ⟨[], [⟨(.ofString "self"), none, ⟨154, 17, 154, 21⟩⟩, ⟨(.ofString "a"), none, ⟨154, 23, 154, 24⟩⟩, ⟨(.ofString "b"), none, ⟨154, 26, 154, 27⟩⟩, ⟨(.ofString "c"), none, ⟨154, 29, 154, 30⟩⟩, ⟨(.ofString "d"), none, ⟨154, 32, 154, 33⟩⟩, ⟨(.ofString "e"), none, ⟨154, 35, 154, 36⟩⟩, ⟨(.ofString "f"), none, ⟨154, 38, 154, 39⟩⟩], none, [], [], none, []⟩, (.stmts (bdy (bdy (sts0) 40) 0)), ⟨.function, [((.ofString "self"), .local), ((.ofString "a"), .local), ((.ofString "b"), .local), ((.ofString "c"), .local), ((.ofString "d"), .local), ((.ofString "e"), .local), ((.ofString "f"), .local)], false, false, []⟩, 3, [], .none, .none, .none, (.str (.ofString "outlinemill.matrix") 556), none, (.ref 286), .none, 0⟩), #[]⟩
noncomputable def o342 (P : Params) : Obj := ⟨(.«type» "tuple"), none, (.seq #[] 0), #[]⟩
noncomputable def o343 (P : Params) : Obj := ⟨.none, none, (.fields #[]), #[]⟩
noncomputable def o344 (P : Params) : Obj := ⟨(.«type» "tuple"), none, (.seq #[(.str (.ofString "self") 586)] 0), #[]⟩
noncomputable def o345 (P : Params) : Obj := ⟨(.«type» "tuple"), none, (.seq #[] 0), #[]⟩
noncomputable def o346 (P : Params) : Obj := ⟨.none, none, (.func ⟨(.ofString "row"), (.ofString "Matrix.row"), ⟨[], [⟨(.ofString "self"), none, ⟨162, 12, 162, 16⟩⟩], none, [], [], none, []⟩, (.stmts (bdy (bdy (sts0) 40) 1)), ⟨.function, [((.ofString "self"), .local), ((.ofString "_wall"), .globalImplicit)], false, false, []⟩, 0, [], .none, .none, .none, .none, none, .none, .none, 0⟩), #[]⟩
noncomputable def o347 (P : Params) : Obj := ⟨(.«type» "code"), none, (.fields #[(.str (.ofString "row") 583), (.str (.ofString "Matrix.row") 584), (.str (.ofString "/claim/cut.py") 585), (.int 162 0), (.int 1 0), (.int 0 0), (.int 0 0), (.int 3 0), (.ref 288), (.bool true), (.int 181 0), (.ref 289), .none, (.ref 290), (.ref 291), (.ref 292), (.int 587 0), (.int 162 0), (.str (.ofString "/claim/cut.py") 588)]), #[]⟩
noncomputable def o348 (P : Params) : Obj := ⟨(.«type» "function"), none, (.func ⟨(.ofString "row"), (.ofString "Matrix.row"), ⟨[], [⟨(.ofString "self"), none, ⟨162, 12, 162, 16⟩⟩], none, [], [], none, []⟩, (.stmts (bdy (bdy (sts0) 40) 1)), ⟨.function, [((.ofString "self"), .local), ((.ofString "_wall"), .globalImplicit)], false, false, []⟩, 3, [], .none, .none, .none, (.str (.ofString "outlinemill.matrix") 556), none, (.ref 293), .none, 0⟩), #[]⟩
noncomputable def o349 (P : Params) : Obj := ⟨(.«type» "tuple"), none, (.seq #[] 0), #[]⟩
noncomputable def o350 (P : Params) : Obj := ⟨.none, none, (.fields #[]), #[]⟩
noncomputable def o351 (P : Params) : Obj := ⟨(.«type» "tuple"), none, (.seq #[(.str (.ofString "self") 593), (.str (.ofString "p") 594), (.str (.ofString "x") 595), (.str (.ofString "y") 596)] 0), #[]⟩
noncomputable def o352 (P : Params) : Obj := ⟨(.«type» "tuple"), none, (.seq #[] 0), #[]⟩
noncomputable def o353 (P : Params) : Obj := ⟨.none, none, (.func ⟨(.ofString "vector"), (.ofString "Matrix.vector"), ⟨[], [⟨(.ofString "self"), none, ⟨165, 15, 165, 19⟩⟩, ⟨(.ofString "p"), none, ⟨165, 21, 165, 22⟩⟩], none, [], [], none, []⟩, (.stmts (bdy (bdy (sts0) 40) 2)), ⟨.function, [((.ofString "self"), .local), ((.ofString "p"), .local), ((.ofString "x"), .local), ((.ofString "y"), .local), ((.ofString "plus"), .globalImplicit), ((.ofString "times"), .globalImplicit)], false, false, []⟩, 0, [], .none, .none, .none, .none, none, .none, .none, 0⟩), #[]⟩
noncomputable def o354 (P : Params) : Obj := ⟨(.«type» "code"), none, (.fields #[(.str (.ofString "vector") 590), (.str (.ofString "Matrix.vector") 591), (.str (.ofString "/claim/cut.py") 592), (.int 165 0), (.int 2 0), (.int 0 0), (.int 0 0), (.int 3 0), (.ref 295), (.bool true), (.int 181 0), (.ref 296), .none, (.ref 297), (.ref 298), (.ref 299), (.int 597 0), (.int 165 0), (.str (.ofString "/claim/cut.py") 598)]), #[]⟩
noncomputable def o355 (P : Params) : Obj := ⟨(.«type» "function"), none, (.func ⟨(.ofString "vector"), (.ofString "Matrix.vector"), ⟨[], [⟨(.ofString "self"), none, ⟨165, 15, 165, 19⟩⟩, ⟨(.ofString "p"), none, ⟨165, 21, 165, 22⟩⟩], none, [], [], none, []⟩, (.stmts (bdy (bdy (sts0) 40) 2)), ⟨.function, [((.ofString "self"), .local), ((.ofString "p"), .local), ((.ofString "x"), .local), ((.ofString "y"), .local), ((.ofString "plus"), .globalImplicit), ((.ofString "times"), .globalImplicit)], false, false, []⟩, 3, [], .none, .none, .none, (.str (.ofString "outlinemill.matrix") 556), none, (.ref 300), .none, 0⟩), #[]⟩
noncomputable def o356 (P : Params) : Obj := ⟨(.«type» "tuple"), none, (.seq #[] 0), #[]⟩
noncomputable def o357 (P : Params) : Obj := ⟨.none, none, (.fields #[]), #[]⟩
noncomputable def o358 (P : Params) : Obj := ⟨(.«type» "tuple"), none, (.seq #[(.str (.ofString "self") 603), (.str (.ofString "p") 604), (.str (.ofString "x") 605), (.str (.ofString "y") 606)] 0), #[]⟩
noncomputable def o359 (P : Params) : Obj := ⟨(.«type» "tuple"), none, (.seq #[] 0), #[]⟩
noncomputable def o360 (P : Params) : Obj := ⟨.none, none, (.func ⟨(.ofString "point"), (.ofString "Matrix.point"), ⟨[], [⟨(.ofString "self"), none, ⟨169, 14, 169, 18⟩⟩, ⟨(.ofString "p"), none, ⟨169, 20, 169, 21⟩⟩], none, [], [], none, []⟩, (.stmts (bdy (bdy (sts0) 40) 3)), ⟨.function, [((.ofString "self"), .local), ((.ofString "p"), .local), ((.ofString "x"), .local), ((.ofString "y"), .local), ((.ofString "plus"), .globalImplicit)], false, false, []⟩, 0, [], .none, .none, .none, .none, none, .none, .none, 0⟩), #[]⟩
noncomputable def o361 (P : Params) : Obj := ⟨(.«type» "code"), none, (.fields #[(.str (.ofString "point") 600), (.str (.ofString "Matrix.point") 601), (.str (.ofString "/claim/cut.py") 602), (.int 169 0), (.int 2 0), (.int 0 0), (.int 0 0), (.int 3 0), (.ref 302), (.bool true), (.int 181 0), (.ref 303), .none, (.ref 304), (.ref 305), (.ref 306), (.int 607 0), (.int 169 0), (.str (.ofString "/claim/cut.py") 608)]), #[]⟩
noncomputable def o362 (P : Params) : Obj := ⟨(.«type» "function"), none, (.func ⟨(.ofString "point"), (.ofString "Matrix.point"), ⟨[], [⟨(.ofString "self"), none, ⟨169, 14, 169, 18⟩⟩, ⟨(.ofString "p"), none, ⟨169, 20, 169, 21⟩⟩], none, [], [], none, []⟩, (.stmts (bdy (bdy (sts0) 40) 3)), ⟨.function, [((.ofString "self"), .local), ((.ofString "p"), .local), ((.ofString "x"), .local), ((.ofString "y"), .local), ((.ofString "plus"), .globalImplicit)], false, false, []⟩, 3, [], .none, .none, .none, (.str (.ofString "outlinemill.matrix") 556), none, (.ref 307), .none, 0⟩), #[]⟩
noncomputable def o363 (P : Params) : Obj := ⟨(.«type» "tuple"), none, (.seq #[] 0), #[]⟩
noncomputable def o364 (P : Params) : Obj := ⟨.none, none, (.fields #[]), #[]⟩
noncomputable def o365 (P : Params) : Obj := ⟨(.«type» "tuple"), none, (.seq #[(.str (.ofString "self") 613), (.str (.ofString "other") 614)] 0), #[]⟩
noncomputable def o366 (P : Params) : Obj := ⟨(.«type» "tuple"), none, (.seq #[] 0), #[]⟩
noncomputable def o367 (P : Params) : Obj := ⟨.none, none, (.func ⟨(.ofString "then"), (.ofString "Matrix.then"), ⟨[], [⟨(.ofString "self"), none, ⟨173, 13, 173, 17⟩⟩, ⟨(.ofString "other"), none, ⟨173, 19, 173, 24⟩⟩], none, [], [], none, []⟩, (.stmts (bdy (bdy (sts0) 40) 4)), ⟨.function, [((.ofString "self"), .local), ((.ofString "other"), .local), ((.ofString "_wall"), .globalImplicit)], false, false, []⟩, 0, [], .none, .none, .none, .none, none, .none, .none, 0⟩), #[]⟩
noncomputable def o368 (P : Params) : Obj := ⟨(.«type» "code"), none, (.fields #[(.str (.ofString "then") 610), (.str (.ofString "Matrix.then") 611), (.str (.ofString "/claim/cut.py") 612), (.int 173 0), (.int 2 0), (.int 0 0), (.int 0 0), (.int 3 0), (.ref 309), (.bool true), (.int 181 0), (.ref 310), .none, (.ref 311), (.ref 312), (.ref 313), (.int 615 0), (.int 173 0), (.str (.ofString "/claim/cut.py") 616)]), #[]⟩
noncomputable def o369 (P : Params) : Obj := ⟨(.«type» "function"), none, (.func ⟨(.ofString "then"), (.ofString "Matrix.then"), ⟨[], [⟨(.ofString "self"), none, ⟨173, 13, 173, 17⟩⟩, ⟨(.ofString "other"), none, ⟨173, 19, 173, 24⟩⟩], none, [], [], none, []⟩, (.stmts (bdy (bdy (sts0) 40) 4)), ⟨.function, [((.ofString "self"), .local), ((.ofString "other"), .local), ((.ofString "_wall"), .globalImplicit)], false, false, []⟩, 3, [], .none, .none, .none, (.str (.ofString "outlinemill.matrix") 556), none, (.ref 314), .none, 0⟩), #[]⟩
noncomputable def o370 (P : Params) : Obj := ⟨(.«type» "tuple"), none, (.seq #[] 0), #[]⟩
noncomputable def o371 (P : Params) : Obj := ⟨.none, none, (.fields #[]), #[]⟩
noncomputable def o372 (P : Params) : Obj := ⟨(.«type» "tuple"), none, (.seq #[(.str (.ofString "self") 621)] 0), #[]⟩
noncomputable def o373 (P : Params) : Obj := ⟨(.«type» "tuple"), none, (.seq #[] 0), #[]⟩
noncomputable def o374 (P : Params) : Obj := ⟨.none, none, (.func ⟨(.ofString "determinant"), (.ofString "Matrix.determinant"), ⟨[], [⟨(.ofString "self"), none, ⟨176, 20, 176, 24⟩⟩], none, [], [], none, []⟩, (.stmts (bdy (bdy (sts0) 40) 5)), ⟨.function, [((.ofString "self"), .local), ((.ofString "minus"), .globalImplicit), ((.ofString "times"), .globalImplicit)], false, false, []⟩, 0, [], .none, .none, .none, .none, none, .none, .none, 0⟩), #[]⟩
noncomputable def o375 (P : Params) : Obj := ⟨(.«type» "code"), none, (.fields #[(.str (.ofString "determinant") 618), (.str (.ofString "Matrix.determinant") 619), (.str (.ofString "/claim/cut.py") 620), (.int 176 0), (.int 1 0), (.int 0 0), (.int 0 0), (.int 3 0), (.ref 316), (.bool true), (.int 181 0), (.ref 317), .none, (.ref 318), (.ref 319), (.ref 320), (.int 622 0), (.int 176 0), (.str (.ofString "/claim/cut.py") 623)]), #[]⟩
noncomputable def o376 (P : Params) : Obj := ⟨(.«type» "function"), none, (.func ⟨(.ofString "determinant"), (.ofString "Matrix.determinant"), ⟨[], [⟨(.ofString "self"), none, ⟨176, 20, 176, 24⟩⟩], none, [], [], none, []⟩, (.stmts (bdy (bdy (sts0) 40) 5)), ⟨.function, [((.ofString "self"), .local), ((.ofString "minus"), .globalImplicit), ((.ofString "times"), .globalImplicit)], false, false, []⟩, 3, [], .none, .none, .none, (.str (.ofString "outlinemill.matrix") 556), none, (.ref 321), .none, 0⟩), #[]⟩
noncomputable def o377 (P : Params) : Obj := ⟨(.«type» "tuple"), none, (.seq #[] 0), #[]⟩
noncomputable def o378 (P : Params) : Obj := ⟨.none, none, (.fields #[]), #[]⟩
noncomputable def o379 (P : Params) : Obj := ⟨(.«type» "tuple"), none, (.seq #[(.str (.ofString "self") 628), (.str (.ofString "whole") 629), (.str (.ofString "turned") 630), (.str (.ofString "e") 631), (.str (.ofString "f") 632)] 0), #[]⟩
noncomputable def o380 (P : Params) : Obj := ⟨(.«type» "tuple"), none, (.seq #[] 0), #[]⟩
noncomputable def o381 (P : Params) : Obj := ⟨.none, none, (.func ⟨(.ofString "inverse"), (.ofString "Matrix.inverse"), ⟨[], [⟨(.ofString "self"), none, ⟨179, 16, 179, 20⟩⟩], none, [], [], none, []⟩, (.stmts (bdy (bdy (sts0) 40) 6)), ⟨.function, [((.ofString "self"), .local), ((.ofString "whole"), .local), ((.ofString "turned"), .local), ((.ofString "e"), .local), ((.ofString "f"), .local), ((.ofString "MatrixFault"), .globalImplicit), ((.ofString "Matrix"), .globalImplicit), ((.ofString "divided"), .globalImplicit), ((.ofString "negated"), .globalImplicit), ((.ofString "ZERO"), .globalImplicit)], false, false, []⟩, 0, [], .none, .none, .none, .none, none, .none, .none, 0⟩), #[]⟩
noncomputable def o382 (P : Params) : Obj := ⟨(.«type» "code"), none, (.fields #[(.str (.ofString "inverse") 625), (.str (.ofString "Matrix.inverse") 626), (.str (.ofString "/claim/cut.py") 627), (.int 179 0), (.int 1 0), (.int 0 0), (.int 0 0), (.int 3 0), (.ref 323), (.bool true), (.int 181 0), (.ref 324), .none, (.ref 325), (.ref 326), (.ref 327), (.int 633 0), (.int 179 0), (.str (.ofString "/claim/cut.py") 634)]), #[]⟩
noncomputable def o383 (P : Params) : Obj := ⟨(.«type» "function"), none, (.func ⟨(.ofString "inverse"), (.ofString "Matrix.inverse"), ⟨[], [⟨(.ofString "self"), none, ⟨179, 16, 179, 20⟩⟩], none, [], [], none, []⟩, (.stmts (bdy (bdy (sts0) 40) 6)), ⟨.function, [((.ofString "self"), .local), ((.ofString "whole"), .local), ((.ofString "turned"), .local), ((.ofString "e"), .local), ((.ofString "f"), .local), ((.ofString "MatrixFault"), .globalImplicit), ((.ofString "Matrix"), .globalImplicit), ((.ofString "divided"), .globalImplicit), ((.ofString "negated"), .globalImplicit), ((.ofString "ZERO"), .globalImplicit)], false, false, []⟩, 3, [], .none, .none, .none, (.str (.ofString "outlinemill.matrix") 556), none, (.ref 328), .none, 0⟩), #[]⟩
noncomputable def o384 (P : Params) : Obj := ⟨(.«type» "tuple"), none, (.seq #[(.str (.ofString "a") 636), (.str (.ofString "b") 637), (.str (.ofString "c") 638), (.str (.ofString "d") 639), (.str (.ofString "e") 640), (.str (.ofString "f") 641)] 0), #[]⟩
noncomputable def o385 (P : Params) : Obj := ⟨(.«type» "dict"), none, (.dict #[⟨(PySem.PyData.keyHash P (.ofString "__module__")), (.str (.ofString "__module__") 565), (.str (.ofString "outlinemill.matrix") 556)⟩, ⟨(PySem.PyData.keyHash P (.ofString "__firstlineno__")), (.str (.ofString "__firstlineno__") 569), (.int 152 568)⟩, ⟨(PySem.PyData.keyHash P (.ofString "__init__")), (.str (.ofString "__init__") 582), (.ref 287)⟩, ⟨(PySem.PyData.keyHash P (.ofString "row")), (.str (.ofString "row") 589), (.ref 294)⟩, ⟨(PySem.PyData.keyHash P (.ofString "vector")), (.str (.ofString "vector") 599), (.ref 301)⟩, ⟨(PySem.PyData.keyHash P (.ofString "point")), (.str (.ofString "point") 609), (.ref 308)⟩, ⟨(PySem.PyData.keyHash P (.ofString "then")), (.str (.ofString "then") 617), (.ref 315)⟩, ⟨(PySem.PyData.keyHash P (.ofString "determinant")), (.str (.ofString "determinant") 624), (.ref 322)⟩, ⟨(PySem.PyData.keyHash P (.ofString "inverse")), (.str (.ofString "inverse") 635), (.ref 329)⟩, ⟨(PySem.PyData.keyHash P (.ofString "__static_attributes__")), (.str (.ofString "__static_attributes__") 642), (.ref 330)⟩, ⟨(PySem.PyData.keyHash P (.ofString "__dict__")), (.str (.ofString "__dict__") 644), (.ref 333)⟩, ⟨(PySem.PyData.keyHash P (.ofString "__weakref__")), (.str (.ofString "__weakref__") 646), (.ref 334)⟩, ⟨(PySem.PyData.keyHash P (.ofString "__doc__")), (.str (.ofString "__doc__") 647), .none⟩] 4), #[]⟩
noncomputable def o386 (P : Params) : Obj := ⟨(.«type» "type"), none, (.cls ⟨(.ofString "Matrix"), [(.«type» "object")], [(.ref 332), (.«type» "object")], 331, (.ofString "Matrix"), true, [], [], false, none, false⟩), #[none, none, (some (.str (.ofString "Matrix") 558)), (some (.str (.ofString "Matrix") 566)), (some (.builtin "object.__new__")), (some (.bool true))]⟩
noncomputable def o387 (P : Params) : Obj := ⟨(.«type» "getset_descriptor"), none, (.fields #[(.str (.ofString "__dict__") 643), (.ref 332), (.builtin "function.__dict__"), (.builtin "function.__dict__#set")]), #[]⟩
noncomputable def o388 (P : Params) : Obj := ⟨(.«type» "getset_descriptor"), none, (.fields #[(.str (.ofString "__weakref__") 645), (.ref 332), (.builtin "ExceptionGroup.__weakref__"), .none]), #[]⟩
noncomputable def o389 (P : Params) : Obj := ⟨(.«type» "super"), none, (.fields #[(.ref 332), (.ref 332), (.ref 332)]), #[]⟩
noncomputable def o390 (P : Params) : Obj := ⟨(.«type» "builtin_function_or_method"), none, (.fields #[(.builtin "object.__init_subclass__"), (.ref 332)]), #[]⟩
noncomputable def o393 (P : Params) : Obj := ⟨(.«type» "tuple"), none, (.seq #[] 0), #[]⟩
noncomputable def o394 (P : Params) : Obj := ⟨.none, none, (.fields #[]), #[]⟩
noncomputable def o395 (P : Params) : Obj := ⟨(.«type» "tuple"), none, (.seq #[(.str (.ofString "x_degrees") 653), (.str (.ofString "y_degrees") 654)] 0), #[]⟩
noncomputable def o396 (P : Params) : Obj := ⟨(.«type» "tuple"), none, (.seq #[] 0), #[]⟩
noncomputable def o397 (P : Params) : Obj := ⟨.none, none, (.func ⟨(.ofString "skewing"), (.ofString "skewing"), ⟨[], [⟨(.ofString "x_degrees"), none, ⟨186, 12, 186, 21⟩⟩, ⟨(.ofString "y_degrees"), none, ⟨186, 23, 186, 32⟩⟩], none, [], [], none, []⟩, (.stmts (bdy (sts0) 41)), ⟨.function, [((.ofString "x_degrees"), .local), ((.ofString "y_degrees"), .local), ((.ofString "Matrix"), .globalImplicit), ((.ofString "ONE"), .globalImplicit), ((.ofString "tangent_of"), .globalImplicit), ((.ofString "ZERO"), .globalImplicit)], false, false, []⟩, 0, [], .none, .none, .none, .none, none, .none, .none, 0⟩), #[]⟩
noncomputable def o398 (P : Params) : Obj := ⟨(.«type» "code"), none, (.fields #[(.str (.ofString "skewing") 650), (.str (.ofString "skewing") 651), (.str (.ofString "/claim/cut.py") 652), (.int 186 0), (.int 2 0), (.int 0 0), (.int 0 0), (.int 3 0), (.ref 337), (.bool true), (.int 181 0), (.ref 338), .none, (.ref 339), (.ref 340), (.ref 341), (.int 655 0), (.int 186 0), (.str (.ofString "/claim/cut.py") 656)]), #[]⟩
noncomputable def o399 (P : Params) : Obj := ⟨(.«type» "function"), none, (.func ⟨(.ofString "skewing"), (.ofString "skewing"), ⟨[], [⟨(.ofString "x_degrees"), none, ⟨186, 12, 186, 21⟩⟩, ⟨(.ofString "y_degrees"), none, ⟨186, 23, 186, 32⟩⟩], none, [], [], none, []⟩, (.stmts (bdy (sts0) 41)), ⟨.function, [((.ofString "x_degrees"), .local), ((.ofString "y_degrees"), .local), ((.ofString "Matrix"), .globalImplicit), ((.ofString "ONE"), .globalImplicit), ((.ofString "tangent_of"), .globalImplicit), ((.ofString "ZERO"), .globalImplicit)], false, false, []⟩, 3, [], .none, .none, .none, (.str (.ofString "outlinemill.matrix") 556), none, (.ref 342), .none, 0⟩), #[]⟩
noncomputable def o400 (P : Params) : Obj := ⟨(.«type» "tuple"), none, (.seq #[(.int 1 660), (.int 2 661)] 0), #[]⟩
noncomputable def o401 (P : Params) : Obj := ⟨(.«type» "tuple"), none, (.seq #[] 0), #[]⟩
noncomputable def o402 (P : Params) : Obj := ⟨.none, none, (.fields #[]), #[]⟩
noncomputable def o403 (P : Params) : Obj := ⟨(.«type» "tuple"), none, (.seq #[(.str (.ofString "text") 666), (.str (.ofString "found") 667), (.str (.ofString "word") 668)] 0), #[]⟩
noncomputable def o404 (P : Params) : Obj := ⟨(.«type» "tuple"), none, (.seq #[] 0), #[]⟩
noncomputable def o405 (P : Params) : Obj := ⟨.none, none, (.func ⟨(.ofString "read_numbers"), (.ofString "read_numbers"), ⟨[], [⟨(.ofString "text"), none, ⟨190, 17, 190, 21⟩⟩], none, [], [], none, []⟩, (.stmts (bdy (sts0) 44)), ⟨.function, [((.ofString "text"), .local), ((.ofString "found"), .local), ((.ofString "word"), .local), ((.ofString "read_decimal"), .globalImplicit), ((.ofString "NumberFault"), .globalImplicit), ((.ofString "SheetFault"), .globalImplicit)], false, false, []⟩, 0, [], .none, .none, .none, .none, none, .none, .none, 0⟩), #[]⟩
noncomputable def o406 (P : Params) : Obj := ⟨(.«type» "code"), none, (.fields #[(.str (.ofString "read_numbers") 663), (.str (.ofString "read_numbers") 664), (.str (.ofString "/claim/cut.py") 665), (.int 190 0), (.int 1 0), (.int 0 0), (.int 0 0), (.int 3 0), (.ref 345), (.bool true), (.int 181 0), (.ref 346), .none, (.ref 347), (.ref 348), (.ref 349), (.int 669 0), (.int 190 0), (.str (.ofString "/claim/cut.py") 670)]), #[]⟩
noncomputable def o407 (P : Params) : Obj := ⟨(.«type» "function"), none, (.func ⟨(.ofString "read_numbers"), (.ofString "read_numbers"), ⟨[], [⟨(.ofString "text"), none, ⟨190, 17, 190, 21⟩⟩], none, [], [], none, []⟩, (.stmts (bdy (sts0) 44)), ⟨.function, [((.ofString "text"), .local), ((.ofString "found"), .local), ((.ofString "word"), .local), ((.ofString "read_decimal"), .globalImplicit), ((.ofString "NumberFault"), .globalImplicit), ((.ofString "SheetFault"), .globalImplicit)], false, false, []⟩, 3, [], .none, .none, .none, (.str (.ofString "outlinemill.viewbox") 658), none, (.ref 350), .none, 0⟩), #[]⟩
noncomputable def o408 (P : Params) : Obj := ⟨(.«type» "tuple"), none, (.seq #[] 0), #[]⟩
noncomputable def o409 (P : Params) : Obj := ⟨.none, none, (.fields #[]), #[]⟩
noncomputable def o410 (P : Params) : Obj := ⟨(.«type» "tuple"), none, (.seq #[(.str (.ofString "text") 675), (.str (.ofString "found") 676)] 0), #[]⟩
noncomputable def o411 (P : Params) : Obj := ⟨(.«type» "tuple"), none, (.seq #[] 0), #[]⟩
noncomputable def o412 (P : Params) : Obj := ⟨.none, none, (.func ⟨(.ofString "read_box"), (.ofString "read_box"), ⟨[], [⟨(.ofString "text"), none, ⟨198, 13, 198, 17⟩⟩], none, [], [], none, []⟩, (.stmts (bdy (sts0) 45)), ⟨.function, [((.ofString "text"), .local), ((.ofString "found"), .local), ((.ofString "read_numbers"), .globalImplicit), ((.ofString "len"), .globalImplicit), ((.ofString "compare"), .globalImplicit), ((.ofString "ZERO"), .globalImplicit), ((.ofString "SheetFault"), .globalImplicit), ((.ofString "tuple"), .globalImplicit)], false, false, []⟩, 0, [], .none, .none, .none, .none, none, .none, .none, 0⟩), #[]⟩
noncomputable def o413 (P : Params) : Obj := ⟨(.«type» "code"), none, (.fields #[(.str (.ofString "read_box") 672), (.str (.ofString "read_box") 673), (.str (.ofString "/claim/cut.py") 674), (.int 198 0), (.int 1 0), (.int 0 0), (.int 0 0), (.int 3 0), (.ref 352), (.bool true), (.int 181 0), (.ref 353), .none, (.ref 354), (.ref 355), (.ref 356), (.int 677 0), (.int 198 0), (.str (.ofString "/claim/cut.py") 678)]), #[]⟩
noncomputable def o414 (P : Params) : Obj := ⟨(.«type» "function"), none, (.func ⟨(.ofString "read_box"), (.ofString "read_box"), ⟨[], [⟨(.ofString "text"), none, ⟨198, 13, 198, 17⟩⟩], none, [], [], none, []⟩, (.stmts (bdy (sts0) 45)), ⟨.function, [((.ofString "text"), .local), ((.ofString "found"), .local), ((.ofString "read_numbers"), .globalImplicit), ((.ofString "len"), .globalImplicit), ((.ofString "compare"), .globalImplicit), ((.ofString "ZERO"), .globalImplicit), ((.ofString "SheetFault"), .globalImplicit), ((.ofString "tuple"), .globalImplicit)], false, false, []⟩, 3, [], .none, .none, .none, (.str (.ofString "outlinemill.viewbox") 658), none, (.ref 357), .none, 0⟩), #[]⟩
noncomputable def o415 (P : Params) : Obj := ⟨(.«type» "tuple"), none, (.seq #[] 0), #[]⟩
noncomputable def o416 (P : Params) : Obj := ⟨.none, none, (.fields #[]), #[]⟩
noncomputable def o417 (P : Params) : Obj := ⟨(.«type» "tuple"), none, (.seq #[(.str (.ofString "word") 683)] 0), #[]⟩
noncomputable def o418 (P : Params) : Obj := ⟨(.«type» "tuple"), none, (.seq #[] 0), #[]⟩
noncomputable def o419 (P : Params) : Obj := ⟨.none, none, (.func ⟨(.ofString "part_of"), (.ofString "part_of"), ⟨[], [⟨(.ofString "word"), none, ⟨203, 12, 203, 16⟩⟩], none, [], [], none, []⟩, (.stmts (bdy (sts0) 46)), ⟨.function, [((.ofString "word"), .local), ((.ofString "ZERO"), .globalImplicit), ((.ofString "HALF"), .globalImplicit)], false, false, []⟩, 0, [], .none, .none, .none, .none, none, .none, .none, 0⟩), #[]⟩
noncomputable def o420 (P : Params) : Obj := ⟨(.«type» "code"), none, (.fields #[(.str (.ofString "part_of") 680), (.str (.ofString "part_of") 681), (.str (.ofString "/claim/cut.py") 682), (.int 203 0), (.int 1 0), (.int 0 0), (.int 0 0), (.int 3 0), (.ref 359), (.bool true), (.int 181 0), (.ref 360), .none, (.ref 361), (.ref 362), (.ref 363), (.int 684 0), (.int 203 0), (.str (.ofString "/claim/cut.py") 685)]), #[]⟩
noncomputable def o421 (P : Params) : Obj := ⟨(.«type» "function"), none, (.func ⟨(.ofString "part_of"), (.ofString "part_of"), ⟨[], [⟨(.ofString "word"), none, ⟨203, 12, 203, 16⟩⟩], none, [], [], none, []⟩, (.stmts (bdy (sts0) 46)), ⟨.function, [((.ofString "word"), .local), ((.ofString "ZERO"), .globalImplicit), ((.ofString "HALF"), .globalImplicit)], false, false, []⟩, 3, [], .none, .none, .none, (.str (.ofString "outlinemill.viewbox") 658), none, (.ref 364), .none, 0⟩), #[]⟩
noncomputable def o422 (P : Params) : Obj := ⟨(.«type» "tuple"), none, (.seq #[(.str (.ofString "xMidYMid") 687), (.bool false)] 0), #[]⟩
noncomputable def o423 (P : Params) : Obj := ⟨(.«type» "tuple"), none, (.seq #[] 0), #[]⟩
noncomputable def o424 (P : Params) : Obj := ⟨.none, none, (.fields #[]), #[]⟩
noncomputable def o425 (P : Params) : Obj := ⟨(.«type» "tuple"), none, (.seq #[(.str (.ofString "box") 691), (.str (.ofString "width") 692), (.str (.ofString "height") 693), (.str (.ofString "align") 694), (.str (.ofString "is_slice") 695), (.str (.ofString "x") 696), (.str (.ofString "y") 697), (.str (.ofString "box_width") 698), (.str (.ofString "box_height") 699), (.str (.ofString "across") 700), (.str (.ofString "down") 701), (.str (.ofString "ahead") 702), (.str (.ofString "above") 703), (.str (.ofString "is_less") 704), (.str (.ofString "scale") 705)] 0), #[]⟩
noncomputable def o426 (P : Params) : Obj := ⟨(.«type» "tuple"), none, (.seq #[] 0), #[]⟩
noncomputable def o427 (P : Params) : Obj := ⟨.none, none, (.func ⟨(.ofString "fitted"), (.ofString "fitted"), ⟨[], [⟨(.ofString "box"), none, ⟨205, 11, 205, 14⟩⟩, ⟨(.ofString "width"), none, ⟨205, 16, 205, 21⟩⟩, ⟨(.ofString "height"), none, ⟨205, 23, 205, 29⟩⟩, ⟨(.ofString "align"), none, ⟨205, 31, 205, 36⟩⟩, ⟨(.ofString "is_slice"), none, ⟨205, 49, 205, 57⟩⟩], none, [], [], none, [(.Constant (.str (.ofString "xMidYMid")) 0 ⟨205, 37, 205, 47⟩), (.Constant (.bool false) 0 ⟨205, 58, 205, 63⟩)]⟩, (.stmts (bdy (sts0) 47)), ⟨.function, [((.ofString "box"), .local), ((.ofString "width"), .local), ((.ofString "height"), .local), ((.ofString "align"), .local), ((.ofString "is_slice"), .local), ((.ofString "x"), .local), ((.ofString "y"), .local), ((.ofString "box_width"), .local), ((.ofString "box_height"), .local), ((.ofString "across"), .local), ((.ofString "down"), .local), ((.ofString "ahead"), .local), ((.ofString "above"), .local), ((.ofString "is_less"), .local), ((.ofString "scale"), .local), ((.ofString "divided"), .globalImplicit), ((.ofString "ZERO"), .globalImplicit), ((.ofString "compare"), .globalImplicit), ((.ofString "times"), .globalImplicit), ((.ofString "part_of"), .globalImplicit), ((.ofString "minus"), .globalImplicit), ((.ofString "Matrix"), .globalImplicit)], false, false, []⟩, 0, [], .none, .none, .none, .none, none, .none, .none, 0⟩), #[]⟩
noncomputable def o428 (P : Params) : Obj := ⟨(.«type» "code"), none, (.fields #[(.str (.ofString "fitted") 688), (.str (.ofString "fitted") 689), (.str (.ofString "/claim/cut.py") 690), (.int 205 0), (.int 5 0), (.int 0 0), (.int 0 0), (.int 3 0), (.ref 367), (.bool true), (.int 181 0), (.ref 368), .none, (.ref 369), (.ref 370), (.ref 371), (.int 706 0), (.int 205 0), (.str (.ofString "/claim/cut.py") 707)]), #[]⟩
noncomputable def o429 (P : Params) : Obj := ⟨(.«type» "function"), none, (.func ⟨(.ofString "fitted"), (.ofString "fitted"), ⟨[], [⟨(.ofString "box"), none, ⟨205, 11, 205, 14⟩⟩, ⟨(.ofString "width"), none, ⟨205, 16, 205, 21⟩⟩, ⟨(.ofString "height"), none, ⟨205, 23, 205, 29⟩⟩, ⟨(.ofString "align"), none, ⟨205, 31, 205, 36⟩⟩, ⟨(.ofString "is_slice"), none, ⟨205, 49, 205, 57⟩⟩], none, [], [], none, [(.Constant (.str (.ofString "xMidYMid")) 0 ⟨205, 37, 205, 47⟩), (.Constant (.bool false) 0 ⟨205, 58, 205, 63⟩)]⟩, (.stmts (bdy (sts0) 47)), ⟨.function, [((.ofString "box"), .local), ((.ofString "width"), .local), ((.ofString "height"), .local), ((.ofString "align"), .local), ((.ofString "is_slice"), .local), ((.ofString "x"), .local), ((.ofString "y"), .local), ((.ofString "box_width"), .local), ((.ofString "box_height"), .local), ((.ofString "across"), .local), ((.ofString "down"), .local), ((.ofString "ahead"), .local), ((.ofString "above"), .local), ((.ofString "is_less"), .local), ((.ofString "scale"), .local), ((.ofString "divided"), .globalImplicit), ((.ofString "ZERO"), .globalImplicit), ((.ofString "compare"), .globalImplicit), ((.ofString "times"), .globalImplicit), ((.ofString "part_of"), .globalImplicit), ((.ofString "minus"), .globalImplicit), ((.ofString "Matrix"), .globalImplicit)], false, false, []⟩, 3, [], (.ref 366), .none, .none, (.str (.ofString "outlinemill.viewbox") 658), none, (.ref 372), .none, 0⟩), #[]⟩
noncomputable def o430 (P : Params) : Obj := ⟨(.«type» "tuple"), none, (.seq #[] 0), #[]⟩
noncomputable def o431 (P : Params) : Obj := ⟨.none, none, (.fields #[]), #[]⟩
noncomputable def o432 (P : Params) : Obj := ⟨(.«type» "tuple"), none, (.seq #[(.str (.ofString "box") 712), (.str (.ofString "x") 713), (.str (.ofString "y") 714)] 0), #[]⟩
noncomputable def o433 (P : Params) : Obj := ⟨(.«type» "tuple"), none, (.seq #[] 0), #[]⟩
noncomputable def o434 (P : Params) : Obj := ⟨.none, none, (.func ⟨(.ofString "moved_box"), (.ofString "moved_box"), ⟨[], [⟨(.ofString "box"), none, ⟨216, 14, 216, 17⟩⟩, ⟨(.ofString "x"), none, ⟨216, 19, 216, 20⟩⟩, ⟨(.ofString "y"), none, ⟨216, 22, 216, 23⟩⟩], none, [], [], none, []⟩, (.stmts (bdy (sts0) 48)), ⟨.function, [((.ofString "box"), .local), ((.ofString "x"), .local), ((.ofString "y"), .local), ((.ofString "plus"), .globalImplicit)], false, false, []⟩, 0, [], .none, .none, .none, .none, none, .none, .none, 0⟩), #[]⟩
noncomputable def o435 (P : Params) : Obj := ⟨(.«type» "code"), none, (.fields #[(.str (.ofString "moved_box") 709), (.str (.ofString "moved_box") 710), (.str (.ofString "/claim/cut.py") 711), (.int 216 0), (.int 3 0), (.int 0 0), (.int 0 0), (.int 3 0), (.ref 374), (.bool true), (.int 181 0), (.ref 375), .none, (.ref 376), (.ref 377), (.ref 378), (.int 715 0), (.int 216 0), (.str (.ofString "/claim/cut.py") 716)]), #[]⟩
noncomputable def o436 (P : Params) : Obj := ⟨(.«type» "function"), none, (.func ⟨(.ofString "moved_box"), (.ofString "moved_box"), ⟨[], [⟨(.ofString "box"), none, ⟨216, 14, 216, 17⟩⟩, ⟨(.ofString "x"), none, ⟨216, 19, 216, 20⟩⟩, ⟨(.ofString "y"), none, ⟨216, 22, 216, 23⟩⟩], none, [], [], none, []⟩, (.stmts (bdy (sts0) 48)), ⟨.function, [((.ofString "box"), .local), ((.ofString "x"), .local), ((.ofString "y"), .local), ((.ofString "plus"), .globalImplicit)], false, false, []⟩, 3, [], .none, .none, .none, (.str (.ofString "outlinemill.viewbox") 658), none, (.ref 379), .none, 0⟩), #[]⟩
noncomputable def o437 (P : Params) : Obj := ⟨(.«type» "tuple"), none, (.seq #[] 0), #[]⟩
noncomputable def o438 (P : Params) : Obj := ⟨.none, none, (.fields #[]), #[]⟩
noncomputable def o439 (P : Params) : Obj := ⟨(.«type» "tuple"), none, (.seq #[(.str (.ofString "script") 723), (.str (.ofString "k") 724), (.str (.ofString "cell") 725), (.str (.ofString "big") 726), (.str (.ofString "stirred") 727)] 0), #[]⟩
noncomputable def o440 (P : Params) : Obj := ⟨(.«type» "tuple"), none, (.seq #[] 0), #[]⟩
noncomputable def o441 (P : Params) : Obj := ⟨.none, none, (.func ⟨(.ofString "_law_pool"), (.ofString "_law_pool"), ⟨[], [⟨(.ofString "script"), none, ⟨219, 14, 219, 20⟩⟩, ⟨(.ofString "k"), none, ⟨219, 22, 219, 23⟩⟩], none, [], [], none, []⟩, (.stmts (bdy (sts0) 50)), ⟨.function, [((.ofString "script"), .local), ((.ofString "k"), .local), ((.ofString "cell"), .local), ((.ofString "big"), .local), ((.ofString "stirred"), .local), ((.ofString "len"), .globalImplicit), ((.ofString "max"), .globalImplicit)], false, false, []⟩, 0, [], .none, .none, .none, .none, none, .none, .none, 0⟩), #[]⟩
noncomputable def o442 (P : Params) : Obj := ⟨(.«type» "code"), none, (.fields #[(.str (.ofString "_law_pool") 720), (.str (.ofString "_law_pool") 721), (.str (.ofString "/claim/cut.py") 722), (.int 219 0), (.int 2 0), (.int 0 0), (.int 0 0), (.int 3 0), (.ref 381), (.bool true), (.int 181 0), (.ref 382), .none, (.ref 383), (.ref 384), (.ref 385), (.int 728 0), (.int 219 0), (.str (.ofString "/claim/cut.py") 729)]), #[]⟩
noncomputable def o443 (P : Params) : Obj := ⟨(.«type» "function"), none, (.func ⟨(.ofString "_law_pool"), (.ofString "_law_pool"), ⟨[], [⟨(.ofString "script"), none, ⟨219, 14, 219, 20⟩⟩, ⟨(.ofString "k"), none, ⟨219, 22, 219, 23⟩⟩], none, [], [], none, []⟩, (.stmts (bdy (sts0) 50)), ⟨.function, [((.ofString "script"), .local), ((.ofString "k"), .local), ((.ofString "cell"), .local), ((.ofString "big"), .local), ((.ofString "stirred"), .local), ((.ofString "len"), .globalImplicit), ((.ofString "max"), .globalImplicit)], false, false, []⟩, 3, [], .none, .none, .none, (.str (.ofString "law_pf0196_01") 718), none, (.ref 386), .none, 0⟩), #[]⟩
noncomputable def o444 (P : Params) : Obj := ⟨(.«type» "tuple"), none, (.seq #[] 0), #[]⟩
noncomputable def o445 (P : Params) : Obj := ⟨.none, none, (.fields #[]), #[]⟩
noncomputable def o446 (P : Params) : Obj := ⟨(.«type» "tuple"), none, (.seq #[(.str (.ofString "source") 734), (.str (.ofString "top") 735), (.str (.ofString "figured") 736)] 0), #[]⟩
noncomputable def o447 (P : Params) : Obj := ⟨(.«type» "tuple"), none, (.seq #[] 0), #[]⟩
noncomputable def o448 (P : Params) : Obj := ⟨.none, none, (.func ⟨(.ofString "_law_take"), (.ofString "_law_take"), ⟨[], [⟨(.ofString "source"), none, ⟨224, 14, 224, 20⟩⟩, ⟨(.ofString "top"), none, ⟨224, 22, 224, 25⟩⟩], none, [], [], none, []⟩, (.stmts (bdy (sts0) 51)), ⟨.function, [((.ofString "source"), .local), ((.ofString "top"), .local), ((.ofString "figured"), .local)], false, false, []⟩, 0, [], .none, .none, .none, .none, none, .none, .none, 0⟩), #[]⟩
noncomputable def o449 (P : Params) : Obj := ⟨(.«type» "code"), none, (.fields #[(.str (.ofString "_law_take") 731), (.str (.ofString "_law_take") 732), (.str (.ofString "/claim/cut.py") 733), (.int 224 0), (.int 2 0), (.int 0 0), (.int 0 0), (.int 3 0), (.ref 388), (.bool true), (.int 181 0), (.ref 389), .none, (.ref 390), (.ref 391), (.ref 392), (.int 737 0), (.int 224 0), (.str (.ofString "/claim/cut.py") 738)]), #[]⟩
noncomputable def o450 (P : Params) : Obj := ⟨(.«type» "function"), none, (.func ⟨(.ofString "_law_take"), (.ofString "_law_take"), ⟨[], [⟨(.ofString "source"), none, ⟨224, 14, 224, 20⟩⟩, ⟨(.ofString "top"), none, ⟨224, 22, 224, 25⟩⟩], none, [], [], none, []⟩, (.stmts (bdy (sts0) 51)), ⟨.function, [((.ofString "source"), .local), ((.ofString "top"), .local), ((.ofString "figured"), .local)], false, false, []⟩, 3, [], .none, .none, .none, (.str (.ofString "law_pf0196_01") 718), none, (.ref 393), .none, 0⟩), #[]⟩
noncomputable def o451 (P : Params) : Obj := ⟨(.«type» "tuple"), none, (.seq #[] 0), #[]⟩
noncomputable def o452 (P : Params) : Obj := ⟨.none, none, (.fields #[]), #[]⟩
noncomputable def o453 (P : Params) : Obj := ⟨(.«type» "tuple"), none, (.seq #[(.str (.ofString "source") 743), (.str (.ofString "things") 744)] 0), #[]⟩
noncomputable def o454 (P : Params) : Obj := ⟨(.«type» "tuple"), none, (.seq #[] 0), #[]⟩
noncomputable def o455 (P : Params) : Obj := ⟨.none, none, (.func ⟨(.ofString "_law_one"), (.ofString "_law_one"), ⟨[], [⟨(.ofString "source"), none, ⟨231, 13, 231, 19⟩⟩, ⟨(.ofString "things"), none, ⟨231, 21, 231, 27⟩⟩], none, [], [], none, []⟩, (.stmts (bdy (sts0) 52)), ⟨.function, [((.ofString "source"), .local), ((.ofString "things"), .local), ((.ofString "_law_take"), .globalImplicit), ((.ofString "len"), .globalImplicit)], false, false, []⟩, 0, [], .none, .none, .none, .none, none, .none, .none, 0⟩), #[]⟩
noncomputable def o456 (P : Params) : Obj := ⟨(.«type» "code"), none, (.fields #[(.str (.ofString "_law_one") 740), (.str (.ofString "_law_one") 741), (.str (.ofString "/claim/cut.py") 742), (.int 231 0), (.int 2 0), (.int 0 0), (.int 0 0), (.int 3 0), (.ref 395), (.bool true), (.int 181 0), (.ref 396), .none, (.ref 397), (.ref 398), (.ref 399), (.int 745 0), (.int 231 0), (.str (.ofString "/claim/cut.py") 746)]), #[]⟩
noncomputable def o457 (P : Params) : Obj := ⟨(.«type» "function"), none, (.func ⟨(.ofString "_law_one"), (.ofString "_law_one"), ⟨[], [⟨(.ofString "source"), none, ⟨231, 13, 231, 19⟩⟩, ⟨(.ofString "things"), none, ⟨231, 21, 231, 27⟩⟩], none, [], [], none, []⟩, (.stmts (bdy (sts0) 52)), ⟨.function, [((.ofString "source"), .local), ((.ofString "things"), .local), ((.ofString "_law_take"), .globalImplicit), ((.ofString "len"), .globalImplicit)], false, false, []⟩, 3, [], .none, .none, .none, (.str (.ofString "law_pf0196_01") 718), none, (.ref 400), .none, 0⟩), #[]⟩
noncomputable def o458 (P : Params) : Obj := ⟨(.«type» "tuple"), none, (.seq #[] 0), #[]⟩
noncomputable def o459 (P : Params) : Obj := ⟨.none, none, (.fields #[]), #[]⟩
noncomputable def o460 (P : Params) : Obj := ⟨(.«type» "tuple"), none, (.seq #[(.str (.ofString "top") 751), (.str (.ofString "bottom") 752), (.str (.ofString "one") 753), (.str (.ofString "other") 754)] 0), #[]⟩
noncomputable def o461 (P : Params) : Obj := ⟨(.«type» "tuple"), none, (.seq #[] 0), #[]⟩
noncomputable def o462 (P : Params) : Obj := ⟨.none, none, (.func ⟨(.ofString "_law_part"), (.ofString "_law_part"), ⟨[], [⟨(.ofString "top"), none, ⟨233, 14, 233, 17⟩⟩, ⟨(.ofString "bottom"), none, ⟨233, 19, 233, 25⟩⟩], none, [], [], none, []⟩, (.stmts (bdy (sts0) 53)), ⟨.function, [((.ofString "top"), .local), ((.ofString "bottom"), .local), ((.ofString "one"), .local), ((.ofString "other"), .local), ((.ofString "abs"), .globalImplicit)], false, false, []⟩, 0, [], .none, .none, .none, .none, none, .none, .none, 0⟩), #[]⟩
noncomputable def o463 (P : Params) : Obj := ⟨(.«type» "code"), none, (.fields #[(.str (.ofString "_law_part") 748), (.str (.ofString "_law_part") 749), (.str (.ofString "/claim/cut.py") 750), (.int 233 0), (.int 2 0), (.int 0 0), (.int 0 0), (.int 3 0), (.ref 402), (.bool true), (.int 181 0), (.ref 403), .none, (.ref 404), (.ref 405), (.ref 406), (.int 755 0), (.int 233 0), (.str (.ofString "/claim/cut.py") 756)]), #[]⟩
noncomputable def o464 (P : Params) : Obj := ⟨(.«type» "function"), none, (.func ⟨(.ofString "_law_part"), (.ofString "_law_part"), ⟨[], [⟨(.ofString "top"), none, ⟨233, 14, 233, 17⟩⟩, ⟨(.ofString "bottom"), none, ⟨233, 19, 233, 25⟩⟩], none, [], [], none, []⟩, (.stmts (bdy (sts0) 53)), ⟨.function, [((.ofString "top"), .local), ((.ofString "bottom"), .local), ((.ofString "one"), .local), ((.ofString "other"), .local), ((.ofString "abs"), .globalImplicit)], false, false, []⟩, 3, [], .none, .none, .none, (.str (.ofString "law_pf0196_01") 718), none, (.ref 407), .none, 0⟩), #[]⟩
noncomputable def o465 (P : Params) : Obj := ⟨(.«type» "tuple"), none, (.seq #[] 0), #[]⟩
noncomputable def o466 (P : Params) : Obj := ⟨.none, none, (.fields #[]), #[]⟩
noncomputable def o467 (P : Params) : Obj := ⟨(.«type» "tuple"), none, (.seq #[(.str (.ofString "one") 761), (.str (.ofString "other") 762)] 0), #[]⟩
noncomputable def o468 (P : Params) : Obj := ⟨(.«type» "tuple"), none, (.seq #[] 0), #[]⟩
noncomputable def o469 (P : Params) : Obj := ⟨.none, none, (.func ⟨(.ofString "_law_sum"), (.ofString "_law_sum"), ⟨[], [⟨(.ofString "one"), none, ⟨238, 13, 238, 16⟩⟩, ⟨(.ofString "other"), none, ⟨238, 18, 238, 23⟩⟩], none, [], [], none, []⟩, (.stmts (bdy (sts0) 54)), ⟨.function, [((.ofString "one"), .local), ((.ofString "other"), .local), ((.ofString "_law_part"), .globalImplicit)], false, false, []⟩, 0, [], .none, .none, .none, .none, none, .none, .none, 0⟩), #[]⟩
noncomputable def o470 (P : Params) : Obj := ⟨(.«type» "code"), none, (.fields #[(.str (.ofString "_law_sum") 758), (.str (.ofString "_law_sum") 759), (.str (.ofString "/claim/cut.py") 760), (.int 238 0), (.int 2 0), (.int 0 0), (.int 0 0), (.int 3 0), (.ref 409), (.bool true), (.int 181 0), (.ref 410), .none, (.ref 411), (.ref 412), (.ref 413), (.int 763 0), (.int 238 0), (.str (.ofString "/claim/cut.py") 764)]), #[]⟩
noncomputable def o471 (P : Params) : Obj := ⟨(.«type» "function"), none, (.func ⟨(.ofString "_law_sum"), (.ofString "_law_sum"), ⟨[], [⟨(.ofString "one"), none, ⟨238, 13, 238, 16⟩⟩, ⟨(.ofString "other"), none, ⟨238, 18, 238, 23⟩⟩], none, [], [], none, []⟩, (.stmts (bdy (sts0) 54)), ⟨.function, [((.ofString "one"), .local), ((.ofString "other"), .local), ((.ofString "_law_part"), .globalImplicit)], false, false, []⟩, 3, [], .none, .none, .none, (.str (.ofString "law_pf0196_01") 718), none, (.ref 414), .none, 0⟩), #[]⟩
noncomputable def o472 (P : Params) : Obj := ⟨(.«type» "dict"), none, (.dict #[⟨(PySem.PyData.keyHash P (.ofString "__name__")), (.str (.ofString "__name__") 165), (.str (.ofString "law_pf0196_01") 718)⟩, ⟨(PySem.PyData.keyHash P (.ofString "__doc__")), (.str (.ofString "__doc__") 166), .none⟩, ⟨(PySem.PyData.keyHash P (.ofString "__package__")), (.str (.ofString "__package__") 167), .none⟩, ⟨(PySem.PyData.keyHash P (.ofString "__loader__")), (.str (.ofString "__loader__") 168), (.builtin "__main__.__loader__#opaque")⟩, ⟨(PySem.PyData.keyHash P (.ofString "__spec__")), (.str (.ofString "__spec__") 169), .none⟩, ⟨(PySem.PyData.keyHash P (.ofString "__annotations__")), (.str (.ofString "__annotations__") 170), (.ref 6)⟩, ⟨(PySem.PyData.keyHash P (.ofString "__builtins__")), (.str (.ofString "__builtins__") 171), (.ref 4)⟩, ⟨(PySem.PyData.keyHash P (.ofString "__file__")), (.str (.ofString "__file__") 173), (.str (.ofString "/claim/cut.py") 172)⟩, ⟨(PySem.PyData.keyHash P (.ofString "__cached__")), (.str (.ofString "__cached__") 174), .none⟩, ⟨(PySem.PyData.keyHash P (.ofString "_wall")), (.str (.ofString "_wall") 193), (.ref 21)⟩, ⟨(PySem.PyData.keyHash P (.ofString "MillError")), (.str (.ofString "MillError") 224), (.ref 38)⟩, ⟨(PySem.PyData.keyHash P (.ofString "NumberFault")), (.str (.ofString "NumberFault") 240), (.ref 51)⟩, ⟨(PySem.PyData.keyHash P (.ofString "MatrixFault")), (.str (.ofString "MatrixFault") 256), (.ref 63)⟩, ⟨(PySem.PyData.keyHash P (.ofString "SheetFault")), (.str (.ofString "SheetFault") 272), (.ref 75)⟩, ⟨(PySem.PyData.keyHash P (.ofString "ZERO")), (.str (.ofString "ZERO") 277), (.ref 78)⟩, ⟨(PySem.PyData.keyHash P (.ofString "ONE")), (.str (.ofString "ONE") 280), (.ref 79)⟩, ⟨(PySem.PyData.keyHash P (.ofString "DIGITS")), (.str (.ofString "DIGITS") 282), (.str (.ofString "0123456789") 281)⟩, ⟨(PySem.PyData.keyHash P (.ofString "MOST_EXPONENT")), (.str (.ofString "MOST_EXPONENT") 284), (.int 300 283)⟩, ⟨(PySem.PyData.keyHash P (.ofString "common_divisor")), (.str (.ofString "common_divisor") 294), (.ref 86)⟩, ⟨(PySem.PyData.keyHash P (.ofString "fraction")), (.str (.ofString "fraction") 304), (.ref 94)⟩, ⟨(PySem.PyData.keyHash P (.ofString "plus")), (.str (.ofString "plus") 312), (.ref 101)⟩, ⟨(PySem.PyData.keyHash P (.ofString "minus")), (.str (.ofString "minus") 320), (.ref 108)⟩, ⟨(PySem.PyData.keyHash P (.ofString "times")), (.str (.ofString "times") 328), (.ref 115)⟩, ⟨(PySem.PyData.keyHash P (.ofString "divided")), (.str (.ofString "divided") 336), (.ref 122)⟩, ⟨(PySem.PyData.keyHash P (.ofString "negated")), (.str (.ofString "negated") 343), (.ref 129)⟩, ⟨(PySem.PyData.keyHash P (.ofString "sign_of")), (.str (.ofString "sign_of") 350), (.ref 136)⟩, ⟨(PySem.PyData.keyHash P (.ofString "compare")), (.str (.ofString "compare") 358), (.ref 143)⟩, ⟨(PySem.PyData.keyHash P (.ofString "floor_of")), (.str (.ofString "floor_of") 365), (.ref 150)⟩, ⟨(PySem.PyData.keyHash P (.ofString "rounded")), (.str (.ofString "rounded") 372), (.ref 157)⟩, ⟨(PySem.PyData.keyHash P (.ofString "NumberText")), (.str (.ofString "NumberText") 426), (.ref 195)⟩, ⟨(PySem.PyData.keyHash P (.ofString "whole_of")), (.str (.ofString "whole_of") 435), (.ref 206)⟩, ⟨(PySem.PyData.keyHash P (.ofString "read_exponent")), (.str (.ofString "read_exponent") 444), (.ref 213)⟩, ⟨(PySem.PyData.keyHash P (.ofString "read_decimal")), (.str (.ofString "read_decimal") 457), (.ref 220)⟩, ⟨(PySem.PyData.keyHash P (.ofString "PI_TOP")), (.str (.ofString "PI_TOP") 461), (.int 314159265358979323846264338327950288419716939937510 460)⟩, ⟨(PySem.PyData.keyHash P (.ofString "PI_BOTTOM")), (.str (.ofString "PI_BOTTOM") 465), (.int 100000000000000000000000000000000000000000000000000 464)⟩, ⟨(PySem.PyData.keyHash P (.ofString "MORE")), (.str (.ofString "MORE") 469), (.int 65536 468)⟩, ⟨(PySem.PyData.keyHash P (.ofString "RIGHT")), (.str (.ofString "RIGHT") 472), (.ref 221)⟩, ⟨(PySem.PyData.keyHash P (.ofString "HALF_RIGHT")), (.str (.ofString "HALF_RIGHT") 475), (.ref 222)⟩, ⟨(PySem.PyData.keyHash P (.ofString "scaled_radians")), (.str (.ofString "scaled_radians") 483), (.ref 229)⟩, ⟨(PySem.PyData.keyHash P (.ofString "series")), (.str (.ofString "series") 496), (.ref 236)⟩, ⟨(PySem.PyData.keyHash P (.ofString "small_turn")), (.str (.ofString "small_turn") 509), (.ref 243)⟩, ⟨(PySem.PyData.keyHash P (.ofString "near")), (.str (.ofString "near") 518), (.ref 250)⟩, ⟨(PySem.PyData.keyHash P (.ofString "quarter_turn")), (.str (.ofString "quarter_turn") 529), (.ref 257)⟩, ⟨(PySem.PyData.keyHash P (.ofString "turn_of")), (.str (.ofString "turn_of") 543), (.ref 265)⟩, ⟨(PySem.PyData.keyHash P (.ofString "tangent_of")), (.str (.ofString "tangent_of") 555), (.ref 273)⟩, ⟨(PySem.PyData.keyHash P (.ofString "Matrix")), (.str (.ofString "Matrix") 649), (.ref 332)⟩, ⟨(PySem.PyData.keyHash P (.ofString "skewing")), (.str (.ofString "skewing") 657), (.ref 343)⟩, ⟨(PySem.PyData.keyHash P (.ofString "HALF")), (.str (.ofString "HALF") 662), (.ref 344)⟩, ⟨(PySem.PyData.keyHash P (.ofString "read_numbers")), (.str (.ofString "read_numbers") 671), (.ref 351)⟩, ⟨(PySem.PyData.keyHash P (.ofString "read_box")), (.str (.ofString "read_box") 679), (.ref 358)⟩, ⟨(PySem.PyData.keyHash P (.ofString "part_of")), (.str (.ofString "part_of") 686), (.ref 365)⟩, ⟨(PySem.PyData.keyHash P (.ofString "fitted")), (.str (.ofString "fitted") 708), (.ref 373)⟩, ⟨(PySem.PyData.keyHash P (.ofString "moved_box")), (.str (.ofString "moved_box") 717), (.ref 380)⟩, ⟨(PySem.PyData.keyHash P (.ofString "_law_pool")), (.str (.ofString "_law_pool") 730), (.ref 387)⟩, ⟨(PySem.PyData.keyHash P (.ofString "_law_take")), (.str (.ofString "_law_take") 739), (.ref 394)⟩, ⟨(PySem.PyData.keyHash P (.ofString "_law_one")), (.str (.ofString "_law_one") 747), (.ref 401)⟩, ⟨(PySem.PyData.keyHash P (.ofString "_law_part")), (.str (.ofString "_law_part") 757), (.ref 408)⟩, ⟨(PySem.PyData.keyHash P (.ofString "_law_sum")), (.str (.ofString "_law_sum") 765), (.ref 415)⟩, ⟨(PySem.PyData.keyHash P (.ofString "_law_product")), (.str (.ofString "_law_product") 773), (.ref 422)⟩, ⟨(PySem.PyData.keyHash P (.ofString "_law_less")), (.str (.ofString "_law_less") 781), (.ref 429)⟩, ⟨(PySem.PyData.keyHash P (.ofString "_law_number")), (.str (.ofString "_law_number") 795), (.ref 436)⟩, ⟨(PySem.PyData.keyHash P (.ofString "_law_scales")), (.str (.ofString "_law_scales") 812), (.ref 443)⟩, ⟨(PySem.PyData.keyHash P (.ofString "_law_led")), (.str (.ofString "_law_led") 826), (.ref 450)⟩, ⟨(PySem.PyData.keyHash P (.ofString "_law_box_right")), (.str (.ofString "_law_box_right") 832), (.ref 455)⟩, ⟨(PySem.PyData.keyHash P (.ofString "_law_slant_right")), (.str (.ofString "_law_slant_right") 845), (.ref 462)⟩, ⟨(PySem.PyData.keyHash P (.ofString "law")), (.str (.ofString "law") 851), (.ref 467)⟩] 66), #[]⟩
noncomputable def o473 (P : Params) : Obj := ⟨.none, none, (.fields #[(.int 1 0), (.int 0 0), (.ref 20), (.int 5 0), (.int 0 0), (.ref 27), (.int 9 0), (.int 0 0), (.ref 47), (.int 11 0), (.int 0 0), (.ref 59), (.int 13 0), (.int 0 0), (.ref 71), (.int 20 0), (.int 0 0), (.ref 85), (.int 25 0), (.int 0 0), (.ref 93), (.int 32 0), (.int 0 0), (.ref 100), (.int 34 0), (.int 0 0), (.ref 107), (.int 36 0), (.int 0 0), (.ref 114), (.int 38 0), (.int 0 0), (.ref 121), (.int 42 0), (.int 0 0), (.ref 128), (.int 44 0), (.int 0 0), (.ref 135), (.int 50 0), (.int 0 0), (.ref 142), (.int 52 0), (.int 0 0), (.ref 149), (.int 54 0), (.int 0 0), (.ref 156), (.int 56 0), (.int 0 0), (.ref 163), (.int 76 0), (.int 0 0), (.ref 205), (.int 81 0), (.int 0 0), (.ref 212), (.int 88 0), (.int 0 0), (.ref 219), (.int 110 0), (.int 0 0), (.ref 228), (.int 112 0), (.int 0 0), (.ref 235), (.int 119 0), (.int 0 0), (.ref 242), (.int 125 0), (.int 0 0), (.ref 249), (.int 127 0), (.int 0 0), (.ref 256), (.int 136 0), (.int 0 0), (.ref 264), (.int 145 0), (.int 0 0), (.ref 272), (.int 152 0), (.int 0 0), (.ref 279), (.int 186 0), (.int 0 0), (.ref 342), (.int 190 0), (.int 0 0), (.ref 350), (.int 198 0), (.int 0 0), (.ref 357), (.int 203 0), (.int 0 0), (.ref 364), (.int 205 0), (.int 0 0), (.ref 372), (.int 216 0), (.int 0 0), (.ref 379), (.int 219 0), (.int 0 0), (.ref 386), (.int 224 0), (.int 0 0), (.ref 393), (.int 231 0), (.int 0 0), (.ref 400), (.int 233 0), (.int 0 0), (.ref 407), (.int 238 0), (.int 0 0), (.ref 414), (.int 240 0), (.int 0 0), (.ref 421), (.int 242 0), (.int 0 0), (.ref 428), (.int 244 0), (.int 0 0), (.ref 435), (.int 253 0), (.int 0 0), (.ref 442), (.int 262 0), (.int 0 0), (.ref 449), (.int 266 0), (.int 0 0), (.ref 454), (.int 282 0), (.int 0 0), (.ref 461), (.int 294 0), (.int 0 0), (.ref 466)]), #[]⟩
noncomputable def o474 (P : Params) : Obj := ⟨(.«type» "tuple"), none, (.seq #[] 0), #[]⟩
noncomputable def o475 (P : Params) : Obj := ⟨.none, none, (.fields #[]), #[]⟩
noncomputable def o476 (P : Params) : Obj := ⟨(.«type» "tuple"), none, (.seq #[(.str (.ofString "one") 769), (.str (.ofString "other") 770)] 0), #[]⟩
noncomputable def o477 (P : Params) : Obj := ⟨(.«type» "tuple"), none, (.seq #[] 0), #[]⟩
noncomputable def o478 (P : Params) : Obj := ⟨.none, none, (.func ⟨(.ofString "_law_product"), (.ofString "_law_product"), ⟨[], [⟨(.ofString "one"), none, ⟨240, 17, 240, 20⟩⟩, ⟨(.ofString "other"), none, ⟨240, 22, 240, 27⟩⟩], none, [], [], none, []⟩, (.stmts (bdy (sts0) 55)), ⟨.function, [((.ofString "one"), .local), ((.ofString "other"), .local), ((.ofString "_law_part"), .globalImplicit)], false, false, []⟩, 0, [], .none, .none, .none, .none, none, .none, .none, 0⟩), #[]⟩
noncomputable def o479 (P : Params) : Obj := ⟨(.«type» "code"), none, (.fields #[(.str (.ofString "_law_product") 766), (.str (.ofString "_law_product") 767), (.str (.ofString "/claim/cut.py") 768), (.int 240 0), (.int 2 0), (.int 0 0), (.int 0 0), (.int 3 0), (.ref 416), (.bool true), (.int 181 0), (.ref 417), .none, (.ref 418), (.ref 419), (.ref 420), (.int 771 0), (.int 240 0), (.str (.ofString "/claim/cut.py") 772)]), #[]⟩
noncomputable def o480 (P : Params) : Obj := ⟨(.«type» "function"), none, (.func ⟨(.ofString "_law_product"), (.ofString "_law_product"), ⟨[], [⟨(.ofString "one"), none, ⟨240, 17, 240, 20⟩⟩, ⟨(.ofString "other"), none, ⟨240, 22, 240, 27⟩⟩], none, [], [], none, []⟩, (.stmts (bdy (sts0) 55)), ⟨.function, [((.ofString "one"), .local), ((.ofString "other"), .local), ((.ofString "_law_part"), .globalImplicit)], false, false, []⟩, 3, [], .none, .none, .none, (.str (.ofString "law_pf0196_01") 718), none, (.ref 421), .none, 0⟩), #[]⟩
noncomputable def o481 (P : Params) : Obj := ⟨(.«type» "tuple"), none, (.seq #[] 0), #[]⟩
noncomputable def o482 (P : Params) : Obj := ⟨.none, none, (.fields #[]), #[]⟩
noncomputable def o483 (P : Params) : Obj := ⟨(.«type» "tuple"), none, (.seq #[(.str (.ofString "one") 777), (.str (.ofString "other") 778)] 0), #[]⟩
noncomputable def o484 (P : Params) : Obj := ⟨(.«type» "tuple"), none, (.seq #[] 0), #[]⟩
noncomputable def o485 (P : Params) : Obj := ⟨.none, none, (.func ⟨(.ofString "_law_less"), (.ofString "_law_less"), ⟨[], [⟨(.ofString "one"), none, ⟨242, 14, 242, 17⟩⟩, ⟨(.ofString "other"), none, ⟨242, 19, 242, 24⟩⟩], none, [], [], none, []⟩, (.stmts (bdy (sts0) 56)), ⟨.function, [((.ofString "one"), .local), ((.ofString "other"), .local), ((.ofString "_law_sum"), .globalImplicit)], false, false, []⟩, 0, [], .none, .none, .none, .none, none, .none, .none, 0⟩), #[]⟩
noncomputable def o486 (P : Params) : Obj := ⟨(.«type» "code"), none, (.fields #[(.str (.ofString "_law_less") 774), (.str (.ofString "_law_less") 775), (.str (.ofString "/claim/cut.py") 776), (.int 242 0), (.int 2 0), (.int 0 0), (.int 0 0), (.int 3 0), (.ref 423), (.bool true), (.int 181 0), (.ref 424), .none, (.ref 425), (.ref 426), (.ref 427), (.int 779 0), (.int 242 0), (.str (.ofString "/claim/cut.py") 780)]), #[]⟩
noncomputable def o487 (P : Params) : Obj := ⟨(.«type» "function"), none, (.func ⟨(.ofString "_law_less"), (.ofString "_law_less"), ⟨[], [⟨(.ofString "one"), none, ⟨242, 14, 242, 17⟩⟩, ⟨(.ofString "other"), none, ⟨242, 19, 242, 24⟩⟩], none, [], [], none, []⟩, (.stmts (bdy (sts0) 56)), ⟨.function, [((.ofString "one"), .local), ((.ofString "other"), .local), ((.ofString "_law_sum"), .globalImplicit)], false, false, []⟩, 3, [], .none, .none, .none, (.str (.ofString "law_pf0196_01") 718), none, (.ref 428), .none, 0⟩), #[]⟩
noncomputable def o488 (P : Params) : Obj := ⟨(.«type» "tuple"), none, (.seq #[] 0), #[]⟩
noncomputable def o489 (P : Params) : Obj := ⟨.none, none, (.fields #[]), #[]⟩
noncomputable def o490 (P : Params) : Obj := ⟨(.«type» "tuple"), none, (.seq #[(.str (.ofString "source") 785), (.str (.ofString "is_size") 786), (.str (.ofString "top") 787), (.str (.ofString "places") 788), (.str (.ofString "sign") 789), (.str (.ofString "figures") 790), (.str (.ofString "plain") 791), (.str (.ofString "told") 792)] 0), #[]⟩
noncomputable def o491 (P : Params) : Obj := ⟨(.«type» "tuple"), none, (.seq #[] 0), #[]⟩
noncomputable def o492 (P : Params) : Obj := ⟨.none, none, (.func ⟨(.ofString "_law_number"), (.ofString "_law_number"), ⟨[], [⟨(.ofString "source"), none, ⟨244, 16, 244, 22⟩⟩, ⟨(.ofString "is_size"), none, ⟨244, 24, 244, 31⟩⟩], none, [], [], none, []⟩, (.stmts (bdy (sts0) 57)), ⟨.function, [((.ofString "source"), .local), ((.ofString "is_size"), .local), ((.ofString "top"), .local), ((.ofString "places"), .local), ((.ofString "sign"), .local), ((.ofString "figures"), .local), ((.ofString "plain"), .local), ((.ofString "told"), .local), ((.ofString "_law_take"), .globalImplicit), ((.ofString "int"), .globalImplicit), ((.ofString "str"), .globalImplicit), ((.ofString "len"), .globalImplicit), ((.ofString "_law_one"), .globalImplicit), ((.ofString "_law_part"), .globalImplicit)], false, false, []⟩, 0, [], .none, .none, .none, .none, none, .none, .none, 0⟩), #[]⟩
noncomputable def o493 (P : Params) : Obj := ⟨(.«type» "code"), none, (.fields #[(.str (.ofString "_law_number") 782), (.str (.ofString "_law_number") 783), (.str (.ofString "/claim/cut.py") 784), (.int 244 0), (.int 2 0), (.int 0 0), (.int 0 0), (.int 3 0), (.ref 430), (.bool true), (.int 181 0), (.ref 431), .none, (.ref 432), (.ref 433), (.ref 434), (.int 793 0), (.int 244 0), (.str (.ofString "/claim/cut.py") 794)]), #[]⟩
noncomputable def o494 (P : Params) : Obj := ⟨(.«type» "function"), none, (.func ⟨(.ofString "_law_number"), (.ofString "_law_number"), ⟨[], [⟨(.ofString "source"), none, ⟨244, 16, 244, 22⟩⟩, ⟨(.ofString "is_size"), none, ⟨244, 24, 244, 31⟩⟩], none, [], [], none, []⟩, (.stmts (bdy (sts0) 57)), ⟨.function, [((.ofString "source"), .local), ((.ofString "is_size"), .local), ((.ofString "top"), .local), ((.ofString "places"), .local), ((.ofString "sign"), .local), ((.ofString "figures"), .local), ((.ofString "plain"), .local), ((.ofString "told"), .local), ((.ofString "_law_take"), .globalImplicit), ((.ofString "int"), .globalImplicit), ((.ofString "str"), .globalImplicit), ((.ofString "len"), .globalImplicit), ((.ofString "_law_one"), .globalImplicit), ((.ofString "_law_part"), .globalImplicit)], false, false, []⟩, 3, [], .none, .none, .none, (.str (.ofString "law_pf0196_01") 718), none, (.ref 435), .none, 0⟩), #[]⟩
noncomputable def o495 (P : Params) : Obj := ⟨(.«type» "tuple"), none, (.seq #[] 0), #[]⟩
noncomputable def o496 (P : Params) : Obj := ⟨.none, none, (.fields #[]), #[]⟩
noncomputable def o497 (P : Params) : Obj := ⟨(.«type» "tuple"), none, (.seq #[(.str (.ofString "box") 799), (.str (.ofString "wide") 800), (.str (.ofString "high") 801), (.str (.ofString "align") 802), (.str (.ofString "is_slice") 803), (.str (.ofString "across") 804), (.str (.ofString "down") 805), (.str (.ofString "is_first") 806), (.str (.ofString "scale") 807), (.str (.ofString "parts") 808), (.str (.ofString "left") 809)] 0), #[]⟩
noncomputable def o498 (P : Params) : Obj := ⟨(.«type» "tuple"), none, (.seq #[] 0), #[]⟩
noncomputable def o499 (P : Params) : Obj := ⟨.none, none, (.func ⟨(.ofString "_law_scales"), (.ofString "_law_scales"), ⟨[], [⟨(.ofString "box"), none, ⟨253, 16, 253, 19⟩⟩, ⟨(.ofString "wide"), none, ⟨253, 21, 253, 25⟩⟩, ⟨(.ofString "high"), none, ⟨253, 27, 253, 31⟩⟩, ⟨(.ofString "align"), none, ⟨253, 33, 253, 38⟩⟩, ⟨(.ofString "is_slice"), none, ⟨253, 40, 253, 48⟩⟩], none, [], [], none, []⟩, (.stmts (bdy (sts0) 58)), ⟨.function, [((.ofString "box"), .local), ((.ofString "wide"), .local), ((.ofString "high"), .local), ((.ofString "align"), .local), ((.ofString "is_slice"), .local), ((.ofString "across"), .local), ((.ofString "down"), .local), ((.ofString "is_first"), .local), ((.ofString "scale"), .local), ((.ofString "parts"), .local), ((.ofString "left"), .local), ((.ofString "_law_product"), .globalImplicit), ((.ofString "_law_less"), .globalImplicit)], false, false, []⟩, 0, [], .none, .none, .none, .none, none, .none, .none, 0⟩), #[]⟩
noncomputable def o500 (P : Params) : Obj := ⟨(.«type» "code"), none, (.fields #[(.str (.ofString "_law_scales") 796), (.str (.ofString "_law_scales") 797), (.str (.ofString "/claim/cut.py") 798), (.int 253 0), (.int 5 0), (.int 0 0), (.int 0 0), (.int 3 0), (.ref 437), (.bool true), (.int 181 0), (.ref 438), .none, (.ref 439), (.ref 440), (.ref 441), (.int 810 0), (.int 253 0), (.str (.ofString "/claim/cut.py") 811)]), #[]⟩
noncomputable def o501 (P : Params) : Obj := ⟨(.«type» "function"), none, (.func ⟨(.ofString "_law_scales"), (.ofString "_law_scales"), ⟨[], [⟨(.ofString "box"), none, ⟨253, 16, 253, 19⟩⟩, ⟨(.ofString "wide"), none, ⟨253, 21, 253, 25⟩⟩, ⟨(.ofString "high"), none, ⟨253, 27, 253, 31⟩⟩, ⟨(.ofString "align"), none, ⟨253, 33, 253, 38⟩⟩, ⟨(.ofString "is_slice"), none, ⟨253, 40, 253, 48⟩⟩], none, [], [], none, []⟩, (.stmts (bdy (sts0) 58)), ⟨.function, [((.ofString "box"), .local), ((.ofString "wide"), .local), ((.ofString "high"), .local), ((.ofString "align"), .local), ((.ofString "is_slice"), .local), ((.ofString "across"), .local), ((.ofString "down"), .local), ((.ofString "is_first"), .local), ((.ofString "scale"), .local), ((.ofString "parts"), .local), ((.ofString "left"), .local), ((.ofString "_law_product"), .globalImplicit), ((.ofString "_law_less"), .globalImplicit)], false, false, []⟩, 3, [], .none, .none, .none, (.str (.ofString "law_pf0196_01") 718), none, (.ref 442), .none, 0⟩), #[]⟩
noncomputable def o502 (P : Params) : Obj := ⟨(.«type» "tuple"), none, (.seq #[] 0), #[]⟩
noncomputable def o503 (P : Params) : Obj := ⟨.none, none, (.fields #[]), #[]⟩
noncomputable def o504 (P : Params) : Obj := ⟨(.«type» "tuple"), none, (.seq #[(.str (.ofString "box") 816), (.str (.ofString "scales") 817), (.str (.ofString "p") 818), (.str (.ofString "across") 819), (.str (.ofString "down") 820), (.str (.ofString "goal") 821), (.str (.ofString "u") 822), (.str (.ofString "v") 823)] 0), #[]⟩
noncomputable def o505 (P : Params) : Obj := ⟨(.«type» "tuple"), none, (.seq #[] 0), #[]⟩
noncomputable def o506 (P : Params) : Obj := ⟨.none, none, (.func ⟨(.ofString "_law_led"), (.ofString "_law_led"), ⟨[], [⟨(.ofString "box"), none, ⟨262, 13, 262, 16⟩⟩, ⟨(.ofString "scales"), none, ⟨262, 18, 262, 24⟩⟩, ⟨(.ofString "p"), none, ⟨262, 26, 262, 27⟩⟩], none, [], [], none, []⟩, (.stmts (bdy (sts0) 59)), ⟨.function, [((.ofString "box"), .local), ((.ofString "scales"), .local), ((.ofString "p"), .local), ((.ofString "across"), .local), ((.ofString "down"), .local), ((.ofString "goal"), .local), ((.ofString "u"), .local), ((.ofString "v"), .local), ((.ofString "_law_product"), .globalImplicit), ((.ofString "_law_less"), .globalImplicit), ((.ofString "_law_sum"), .globalImplicit)], false, false, []⟩, 0, [], .none, .none, .none, .none, none, .none, .none, 0⟩), #[]⟩
noncomputable def o507 (P : Params) : Obj := ⟨(.«type» "code"), none, (.fields #[(.str (.ofString "_law_led") 813), (.str (.ofString "_law_led") 814), (.str (.ofString "/claim/cut.py") 815), (.int 262 0), (.int 3 0), (.int 0 0), (.int 0 0), (.int 3 0), (.ref 444), (.bool true), (.int 181 0), (.ref 445), .none, (.ref 446), (.ref 447), (.ref 448), (.int 824 0), (.int 262 0), (.str (.ofString "/claim/cut.py") 825)]), #[]⟩
noncomputable def o508 (P : Params) : Obj := ⟨(.«type» "function"), none, (.func ⟨(.ofString "_law_led"), (.ofString "_law_led"), ⟨[], [⟨(.ofString "box"), none, ⟨262, 13, 262, 16⟩⟩, ⟨(.ofString "scales"), none, ⟨262, 18, 262, 24⟩⟩, ⟨(.ofString "p"), none, ⟨262, 26, 262, 27⟩⟩], none, [], [], none, []⟩, (.stmts (bdy (sts0) 59)), ⟨.function, [((.ofString "box"), .local), ((.ofString "scales"), .local), ((.ofString "p"), .local), ((.ofString "across"), .local), ((.ofString "down"), .local), ((.ofString "goal"), .local), ((.ofString "u"), .local), ((.ofString "v"), .local), ((.ofString "_law_product"), .globalImplicit), ((.ofString "_law_less"), .globalImplicit), ((.ofString "_law_sum"), .globalImplicit)], false, false, []⟩, 3, [], .none, .none, .none, (.str (.ofString "law_pf0196_01") 718), none, (.ref 449), .none, 0⟩), #[]⟩
noncomputable def o509 (P : Params) : Obj := ⟨(.«type» "tuple"), none, (.seq #[] 0), #[]⟩
noncomputable def o510 (P : Params) : Obj := ⟨.none, none, (.fields #[]), #[]⟩
noncomputable def o511 (P : Params) : Obj := ⟨.none, none, (.func ⟨(.ofString "_law_box_right"), (.ofString "_law_box_right"), ⟨[], [⟨(.ofString "source"), none, ⟨266, 19, 266, 25⟩⟩], none, [], [], none, []⟩, (.stmts (bdy (sts0) 60)), ⟨.function, [((.ofString "source"), .local), ((.ofString "figured"), .local), ((.ofString "box"), .local), ((.ofString "wide"), .local), ((.ofString "high"), .local), ((.ofString "align"), .local), ((.ofString "is_slice"), .local), ((.ofString "matrix"), .local), ((.ofString "scales"), .local), ((.ofString "far"), .local), ((.ofString "points"), .local), ((.ofString "p"), .local), ((.ofString "moves"), .local), ((.ofString "_law_number"), .globalImplicit), ((.ofString "tuple"), .globalImplicit), ((.ofString "read_box"), .globalImplicit), ((.ofString "_law_one"), .globalImplicit), ((.ofString "_law_part"), .globalImplicit), ((.ofString "_law_take"), .globalImplicit), ((.ofString "fitted"), .globalImplicit), ((.ofString "_law_scales"), .globalImplicit), ((.ofString "_law_sum"), .globalImplicit), ((.ofString "_law_led"), .globalImplicit), ((.ofString "moved_box"), .globalImplicit)], false, false, [((.ofString "fast"), (.str (.ofString "source"))), ((.ofString "fast"), (.str (.ofString "figured"))), ((.ofString "fast"), (.str (.ofString "one"))), ((.ofString "fast"), (.str (.ofString "box"))), ((.ofString "fast"), (.str (.ofString "wide"))), ((.ofString "fast"), (.str (.ofString "high"))), ((.ofString "fast"), (.str (.ofString "align"))), ((.ofString "fast"), (.str (.ofString "is_slice"))), ((.ofString "fast"), (.str (.ofString "matrix"))), ((.ofString "fast"), (.str (.ofString "scales"))), ((.ofString "fast"), (.str (.ofString "far"))), ((.ofString "fast"), (.str (.ofString "points"))), ((.ofString "fast"), (.str (.ofString "p"))), ((.ofString "fast"), (.str (.ofString "moves")))]⟩, 0, [], .none, .none, .none, .none, none, .none, .none, 0⟩), #[]⟩
noncomputable def o512 (P : Params) : Obj := ⟨(.«type» "code"), none, (.fields #[(.str (.ofString "_law_box_right") 827), (.str (.ofString "_law_box_right") 828), (.str (.ofString "/claim/cut.py") 829), (.int 266 0), (.int 1 0), (.int 0 0), (.int 0 0), (.int 3 0), (.ref 451), (.bool true), (.int 181 0), (.ref 452), .none, .none, .none, (.ref 453), (.int 830 0), (.int 266 0), (.str (.ofString "/claim/cut.py") 831)]), #[]⟩
noncomputable def o513 (P : Params) : Obj := ⟨(.«type» "function"), none, (.func ⟨(.ofString "_law_box_right"), (.ofString "_law_box_right"), ⟨[], [⟨(.ofString "source"), none, ⟨266, 19, 266, 25⟩⟩], none, [], [], none, []⟩, (.stmts (bdy (sts0) 60)), ⟨.function, [((.ofString "source"), .local), ((.ofString "figured"), .local), ((.ofString "box"), .local), ((.ofString "wide"), .local), ((.ofString "high"), .local), ((.ofString "align"), .local), ((.ofString "is_slice"), .local), ((.ofString "matrix"), .local), ((.ofString "scales"), .local), ((.ofString "far"), .local), ((.ofString "points"), .local), ((.ofString "p"), .local), ((.ofString "moves"), .local), ((.ofString "_law_number"), .globalImplicit), ((.ofString "tuple"), .globalImplicit), ((.ofString "read_box"), .globalImplicit), ((.ofString "_law_one"), .globalImplicit), ((.ofString "_law_part"), .globalImplicit), ((.ofString "_law_take"), .globalImplicit), ((.ofString "fitted"), .globalImplicit), ((.ofString "_law_scales"), .globalImplicit), ((.ofString "_law_sum"), .globalImplicit), ((.ofString "_law_led"), .globalImplicit), ((.ofString "moved_box"), .globalImplicit)], false, false, [((.ofString "fast"), (.str (.ofString "source"))), ((.ofString "fast"), (.str (.ofString "figured"))), ((.ofString "fast"), (.str (.ofString "one"))), ((.ofString "fast"), (.str (.ofString "box"))), ((.ofString "fast"), (.str (.ofString "wide"))), ((.ofString "fast"), (.str (.ofString "high"))), ((.ofString "fast"), (.str (.ofString "align"))), ((.ofString "fast"), (.str (.ofString "is_slice"))), ((.ofString "fast"), (.str (.ofString "matrix"))), ((.ofString "fast"), (.str (.ofString "scales"))), ((.ofString "fast"), (.str (.ofString "far"))), ((.ofString "fast"), (.str (.ofString "points"))), ((.ofString "fast"), (.str (.ofString "p"))), ((.ofString "fast"), (.str (.ofString "moves")))]⟩, 3, [], .none, .none, .none, (.str (.ofString "law_pf0196_01") 718), none, (.ref 454), .none, 0⟩), #[]⟩
noncomputable def o514 (P : Params) : Obj := ⟨(.«type» "tuple"), none, (.seq #[] 0), #[]⟩
noncomputable def o515 (P : Params) : Obj := ⟨.none, none, (.fields #[]), #[]⟩
noncomputable def o516 (P : Params) : Obj := ⟨(.«type» "tuple"), none, (.seq #[(.str (.ofString "source") 836), (.str (.ofString "known") 837), (.str (.ofString "first") 838), (.str (.ofString "second") 839), (.str (.ofString "x") 840), (.str (.ofString "y") 841), (.str (.ofString "due") 842)] 0), #[]⟩
noncomputable def o517 (P : Params) : Obj := ⟨(.«type» "tuple"), none, (.seq #[] 0), #[]⟩
noncomputable def o518 (P : Params) : Obj := ⟨.none, none, (.func ⟨(.ofString "_law_slant_right"), (.ofString "_law_slant_right"), ⟨[], [⟨(.ofString "source"), none, ⟨282, 21, 282, 27⟩⟩], none, [], [], none, []⟩, (.stmts (bdy (sts0) 61)), ⟨.function, [((.ofString "source"), .local), ((.ofString "known"), .local), ((.ofString "first"), .local), ((.ofString "second"), .local), ((.ofString "x"), .local), ((.ofString "y"), .local), ((.ofString "due"), .local), ((.ofString "_law_one"), .globalImplicit), ((.ofString "sorted"), .globalImplicit), ((.ofString "_law_number"), .globalImplicit), ((.ofString "_law_sum"), .globalImplicit), ((.ofString "_law_product"), .globalImplicit), ((.ofString "skewing"), .globalImplicit), ((.ofString "NumberFault"), .globalImplicit)], false, false, []⟩, 0, [], .none, .none, .none, .none, none, .none, .none, 0⟩), #[]⟩
noncomputable def o519 (P : Params) : Obj := ⟨(.«type» "code"), none, (.fields #[(.str (.ofString "_law_slant_right") 833), (.str (.ofString "_law_slant_right") 834), (.str (.ofString "/claim/cut.py") 835), (.int 282 0), (.int 1 0), (.int 0 0), (.int 0 0), (.int 3 0), (.ref 456), (.bool true), (.int 181 0), (.ref 457), .none, (.ref 458), (.ref 459), (.ref 460), (.int 843 0), (.int 282 0), (.str (.ofString "/claim/cut.py") 844)]), #[]⟩
noncomputable def o520 (P : Params) : Obj := ⟨(.«type» "function"), none, (.func ⟨(.ofString "_law_slant_right"), (.ofString "_law_slant_right"), ⟨[], [⟨(.ofString "source"), none, ⟨282, 21, 282, 27⟩⟩], none, [], [], none, []⟩, (.stmts (bdy (sts0) 61)), ⟨.function, [((.ofString "source"), .local), ((.ofString "known"), .local), ((.ofString "first"), .local), ((.ofString "second"), .local), ((.ofString "x"), .local), ((.ofString "y"), .local), ((.ofString "due"), .local), ((.ofString "_law_one"), .globalImplicit), ((.ofString "sorted"), .globalImplicit), ((.ofString "_law_number"), .globalImplicit), ((.ofString "_law_sum"), .globalImplicit), ((.ofString "_law_product"), .globalImplicit), ((.ofString "skewing"), .globalImplicit), ((.ofString "NumberFault"), .globalImplicit)], false, false, []⟩, 3, [], .none, .none, .none, (.str (.ofString "law_pf0196_01") 718), none, (.ref 461), .none, 0⟩), #[]⟩
noncomputable def o521 (P : Params) : Obj := ⟨(.«type» "tuple"), none, (.seq #[] 0), #[]⟩
noncomputable def o522 (P : Params) : Obj := ⟨.none, none, (.fields #[]), #[]⟩
noncomputable def o523 (P : Params) : Obj := ⟨.none, none, (.func ⟨(.ofString "law"), (.ofString "law"), ⟨[], [⟨(.ofString "script"), none, ⟨294, 8, 294, 14⟩⟩], none, [], [], none, []⟩, (.stmts (bdy (sts0) 62)), ⟨.function, [((.ofString "script"), .local), ((.ofString "matrix"), .cell), ((.ofString "source"), .local), ((.ofString "fitted"), .globalImplicit), ((.ofString "_law_pool"), .globalImplicit), ((.ofString "_law_box_right"), .globalImplicit), ((.ofString "_law_slant_right"), .globalImplicit)], false, false, [((.ofString "fast"), (.str (.ofString "script"))), ((.ofString "fast"), (.str (.ofString "matrix"))), ((.ofString "fast"), (.str (.ofString "p"))), ((.ofString "fast"), (.str (.ofString "source")))]⟩, 0, [], .none, .none, .none, .none, none, .none, .none, 0⟩), #[]⟩
noncomputable def o524 (P : Params) : Obj := ⟨(.«type» "code"), none, (.fields #[(.str (.ofString "law") 846), (.str (.ofString "law") 847), (.str (.ofString "/claim/cut.py") 848), (.int 294 0), (.int 1 0), (.int 0 0), (.int 0 0), (.int 3 0), (.ref 463), (.bool true), (.int 181 0), (.ref 464), .none, .none, .none, (.ref 465), (.int 849 0), (.int 294 0), (.str (.ofString "/claim/cut.py") 850)]), #[]⟩
noncomputable def o525 (P : Params) : Obj := ⟨(.«type» "function"), none, (.func ⟨(.ofString "law"), (.ofString "law"), ⟨[], [⟨(.ofString "script"), none, ⟨294, 8, 294, 14⟩⟩], none, [], [], none, []⟩, (.stmts (bdy (sts0) 62)), ⟨.function, [((.ofString "script"), .local), ((.ofString "matrix"), .cell), ((.ofString "source"), .local), ((.ofString "fitted"), .globalImplicit), ((.ofString "_law_pool"), .globalImplicit), ((.ofString "_law_box_right"), .globalImplicit), ((.ofString "_law_slant_right"), .globalImplicit)], false, false, [((.ofString "fast"), (.str (.ofString "script"))), ((.ofString "fast"), (.str (.ofString "matrix"))), ((.ofString "fast"), (.str (.ofString "p"))), ((.ofString "fast"), (.str (.ofString "source")))]⟩, 3, [], .none, .none, .none, (.str (.ofString "law_pf0196_01") 718), none, (.ref 466), .none, 0⟩), #[]⟩

noncomputable def tr0 (P : Params) : BT := (.node (PySem.W.boot_o_0 P) (.node (PySem.W.boot_o_1 P) (.node (PySem.W.boot_o_3 P) (.node (PySem.W.boot_o_7 P) .nil .nil) (.node (o43 P) .nil .nil)) (.node (PySem.W.boot_o_5 P) (.node (PySem.W.boot_o_9 P) .nil .nil) (.node (o45 P) .nil .nil))) (.node (PySem.W.boot_o_2 P) (.node (PySem.W.boot_o_4 P) (.node (PySem.W.boot_o_8 P) .nil .nil) (.node (o44 P) .nil .nil)) (.node (PySem.W.boot_o_6 P) (.node (PySem.W.boot_o_10 P) .nil .nil) (.node (o46 P) .nil .nil))))

noncomputable def tr1_3 (P : Params) : BT := (.node (o109 P) (.node (PySem.W.boot_o_7 P) (.node (o52 P) (.node (o68 P) (.node (o106 P) .nil .nil) (.node (o141 P) .nil .nil)) (.node (o87 P) (.node (o125 P) .nil .nil) .nil)) (.node (o60 P) (.node (o76 P) (.node (o117 P) .nil .nil) (.node (o149 P) .nil .nil)) (.node (o98 P) (.node (o133 P) .nil .nil) .nil))) (.node (o43 P) (.node (o56 P) (.node (o72 P) (.node (o113 P) .nil .nil) (.node (o145 P) .nil .nil)) (.node (o91 P) (.node (o129 P) .nil .nil) .nil)) (.node (o64 P) (.node (o83 P) (.node (o121 P) .nil .nil) (.node (o153 P) .nil .nil)) (.node (o102 P) (.node (o137 P) .nil .nil) .nil))))
noncomputable def tr1_5 (P : Params) : BT := (.node (PySem.W.boot_o_5 P) (.node (PySem.W.boot_o_9 P) (.node (o54 P) (.node (o70 P) (.node (o108 P) .nil .nil) (.node (o143 P) .nil .nil)) (.node (o89 P) (.node (o127 P) .nil .nil) .nil)) (.node (o62 P) (.node (o78 P) (.node (o119 P) .nil .nil) (.node (o151 P) .nil .nil)) (.node (o100 P) (.node (o135 P) .nil .nil) .nil))) (.node (o45 P) (.node (o58 P) (.node (o74 P) (.node (o115 P) .nil .nil) (.node (o147 P) .nil .nil)) (.node (o93 P) (.node (o131 P) .nil .nil) .nil)) (.node (o66 P) (.node (o85 P) (.node (o123 P) .nil .nil) .nil) (.node (o104 P) (.node (o139 P) .nil .nil) .nil))))
noncomputable def tr1_1 (P : Params) : BT := (.node (PySem.W.boot_o_1 P) (tr1_3 P) (tr1_5 P))
noncomputable def tr1_4 (P : Params) : BT := (.node (PySem.W.boot_o_4 P) (.node (PySem.W.boot_o_8 P) (.node (o53 P) (.node (o69 P) (.node (o107 P) .nil .nil) (.node (o142 P) .nil .nil)) (.node (o88 P) (.node (o126 P) .nil .nil) .nil)) (.node (o61 P) (.node (o77 P) (.node (o118 P) .nil .nil) (.node (o150 P) .nil .nil)) (.node (o99 P) (.node (o134 P) .nil .nil) .nil))) (.node (o110 P) (.node (o57 P) (.node (o73 P) (.node (o114 P) .nil .nil) (.node (o146 P) .nil .nil)) (.node (o92 P) (.node (o130 P) .nil .nil) .nil)) (.node (o65 P) (.node (o84 P) (.node (o122 P) .nil .nil) (.node (o154 P) .nil .nil)) (.node (o103 P) (.node (o138 P) .nil .nil) .nil))))
noncomputable def tr1_6 (P : Params) : BT := (.node (PySem.W.boot_o_6 P) (.node (PySem.W.boot_o_10 P) (.node (o55 P) (.node (o71 P) (.node (o112 P) .nil .nil) (.node (o144 P) .nil .nil)) (.node (o90 P) (.node (o128 P) .nil .nil) .nil)) (.node (o63 P) (.node (o82 P) (.node (o120 P) .nil .nil) (.node (o152 P) .nil .nil)) (.node (o101 P) (.node (o136 P) .nil .nil) .nil))) (.node (o46 P) (.node (o59 P) (.node (o111 P) (.node (o116 P) .nil .nil) (.node (o148 P) .nil .nil)) (.node (o97 P) (.node (o132 P) .nil .nil) .nil)) (.node (o67 P) (.node (o86 P) (.node (o124 P) .nil .nil) .nil) (.node (o105 P) (.node (o140 P) .nil .nil) .nil))))
noncomputable def tr1_2 (P : Params) : BT := (.node (o49 P) (tr1_4 P) (tr1_6 P))
noncomputable def tr1 (P : Params) : BT := (.node (PySem.W.boot_o_0 P) (tr1_1 P) (tr1_2 P))

noncomputable def tr2_7 (P : Params) : BT := (.node (PySem.W.boot_o_7 P) (.node (o52 P) (.node (o68 P) (.node (o106 P) (.node (o175 P) (.node (o307 P) .nil .nil) .nil) (.node (o241 P) .nil .nil)) (.node (o141 P) (.node (o209 P) .nil .nil) (.node (o275 P) .nil .nil))) (.node (o87 P) (.node (o125 P) (.node (o191 P) (.node (o323 P) .nil .nil) .nil) (.node (o257 P) .nil .nil)) (.node (o159 P) (.node (o225 P) .nil .nil) (.node (o291 P) .nil .nil)))) (.node (o60 P) (.node (o76 P) (.node (o117 P) (.node (o183 P) (.node (o315 P) .nil .nil) .nil) (.node (o249 P) .nil .nil)) (.node (o149 P) (.node (o217 P) .nil .nil) (.node (o283 P) .nil .nil))) (.node (o98 P) (.node (o133 P) (.node (o199 P) .nil .nil) (.node (o267 P) .nil .nil)) (.node (o167 P) (.node (o233 P) .nil .nil) (.node (o299 P) .nil .nil)))))
noncomputable def tr2_11 (P : Params) : BT := (.node (o43 P) (.node (o56 P) (.node (o72 P) (.node (o113 P) (.node (o179 P) (.node (o311 P) .nil .nil) .nil) (.node (o245 P) .nil .nil)) (.node (o145 P) (.node (o213 P) .nil .nil) (.node (o279 P) .nil .nil))) (.node (o91 P) (.node (o129 P) (.node (o195 P) .nil .nil) (.node (o261 P) .nil .nil)) (.node (o163 P) (.node (o229 P) .nil .nil) (.node (o295 P) .nil .nil)))) (.node (o64 P) (.node (o83 P) (.node (o121 P) (.node (o187 P) (.node (o319 P) .nil .nil) .nil) (.node (o253 P) .nil .nil)) (.node (o153 P) (.node (o221 P) .nil .nil) (.node (o287 P) .nil .nil))) (.node (o102 P) (.node (o137 P) (.node (o203 P) .nil .nil) (.node (o271 P) .nil .nil)) (.node (o171 P) (.node (o237 P) .nil .nil) (.node (o303 P) .nil .nil)))))
noncomputable def tr2_3 (P : Params) : BT := (.node (o264 P) (tr2_7 P) (tr2_11 P))
noncomputable def tr2_9 (P : Params) : BT := (.node (PySem.W.boot_o_9 P) (.node (o54 P) (.node (o70 P) (.node (o108 P) (.node (o177 P) (.node (o309 P) .nil .nil) .nil) (.node (o243 P) .nil .nil)) (.node (o143 P) (.node (o211 P) .nil .nil) (.node (o277 P) .nil .nil))) (.node (o89 P) (.node (o127 P) (.node (o193 P) (.node (o325 P) .nil .nil) .nil) (.node (o259 P) .nil .nil)) (.node (o161 P) (.node (o227 P) .nil .nil) (.node (o293 P) .nil .nil)))) (.node (o62 P) (.node (o78 P) (.node (o119 P) (.node (o185 P) (.node (o317 P) .nil .nil) .nil) (.node (o251 P) .nil .nil)) (.node (o151 P) (.node (o219 P) .nil .nil) (.node (o285 P) .nil .nil))) (.node (o100 P) (.node (o135 P) (.node (o201 P) .nil .nil) (.node (o269 P) .nil .nil)) (.node (o169 P) (.node (o235 P) .nil .nil) (.node (o301 P) .nil .nil)))))
noncomputable def tr2_13 (P : Params) : BT := (.node (o45 P) (.node (o58 P) (.node (o74 P) (.node (o115 P) (.node (o181 P) (.node (o313 P) .nil .nil) .nil) (.node (o247 P) .nil .nil)) (.node (o147 P) (.node (o215 P) .nil .nil) (.node (o281 P) .nil .nil))) (.node (o93 P) (.node (o131 P) (.node (o197 P) .nil .nil) (.node (o263 P) .nil .nil)) (.node (o165 P) (.node (o231 P) .nil .nil) (.node (o297 P) .nil .nil)))) (.node (o66 P) (.node (o85 P) (.node (o123 P) (.node (o189 P) (.node (o321 P) .nil .nil) .nil) (.node (o255 P) .nil .nil)) (.node (o157 P) (.node (o223 P) .nil .nil) (.node (o289 P) .nil .nil))) (.node (o104 P) (.node (o139 P) (.node (o205 P) .nil .nil) (.node (o273 P) .nil .nil)) (.node (o173 P) (.node (o239 P) .nil .nil) (.node (o305 P) .nil .nil)))))
noncomputable def tr2_5 (P : Params) : BT := (.node (PySem.W.boot_o_5 P) (tr2_9 P) (tr2_13 P))
noncomputable def tr2_1 (P : Params) : BT := (.node (PySem.W.boot_o_1 P) (tr2_3 P) (tr2_5 P))
noncomputable def tr2_8 (P : Params) : BT := (.node (PySem.W.boot_o_8 P) (.node (o53 P) (.node (o69 P) (.node (o107 P) (.node (o176 P) (.node (o308 P) .nil .nil) .nil) (.node (o242 P) .nil .nil)) (.node (o142 P) (.node (o210 P) .nil .nil) (.node (o276 P) .nil .nil))) (.node (o88 P) (.node (o126 P) (.node (o192 P) (.node (o324 P) .nil .nil) .nil) (.node (o258 P) .nil .nil)) (.node (o160 P) (.node (o226 P) .nil .nil) (.node (o292 P) .nil .nil)))) (.node (o61 P) (.node (o77 P) (.node (o118 P) (.node (o184 P) (.node (o316 P) .nil .nil) .nil) (.node (o250 P) .nil .nil)) (.node (o150 P) (.node (o218 P) .nil .nil) (.node (o284 P) .nil .nil))) (.node (o99 P) (.node (o134 P) (.node (o200 P) .nil .nil) (.node (o268 P) .nil .nil)) (.node (o168 P) (.node (o234 P) .nil .nil) (.node (o300 P) .nil .nil)))))
noncomputable def tr2_12 (P : Params) : BT := (.node (o265 P) (.node (o57 P) (.node (o73 P) (.node (o114 P) (.node (o180 P) (.node (o312 P) .nil .nil) .nil) (.node (o246 P) .nil .nil)) (.node (o146 P) (.node (o214 P) .nil .nil) (.node (o280 P) .nil .nil))) (.node (o92 P) (.node (o130 P) (.node (o196 P) .nil .nil) (.node (o262 P) .nil .nil)) (.node (o164 P) (.node (o230 P) .nil .nil) (.node (o296 P) .nil .nil)))) (.node (o65 P) (.node (o84 P) (.node (o122 P) (.node (o188 P) (.node (o320 P) .nil .nil) .nil) (.node (o254 P) .nil .nil)) (.node (o154 P) (.node (o222 P) .nil .nil) (.node (o288 P) .nil .nil))) (.node (o103 P) (.node (o138 P) (.node (o204 P) .nil .nil) (.node (o272 P) .nil .nil)) (.node (o172 P) (.node (o238 P) .nil .nil) (.node (o304 P) .nil .nil)))))
noncomputable def tr2_4 (P : Params) : BT := (.node (PySem.W.boot_o_4 P) (tr2_8 P) (tr2_12 P))
noncomputable def tr2_10 (P : Params) : BT := (.node (PySem.W.boot_o_10 P) (.node (o55 P) (.node (o71 P) (.node (o112 P) (.node (o178 P) (.node (o310 P) .nil .nil) .nil) (.node (o244 P) .nil .nil)) (.node (o144 P) (.node (o212 P) .nil .nil) (.node (o278 P) .nil .nil))) (.node (o90 P) (.node (o128 P) (.node (o194 P) .nil .nil) (.node (o260 P) .nil .nil)) (.node (o162 P) (.node (o228 P) .nil .nil) (.node (o294 P) .nil .nil)))) (.node (o63 P) (.node (o82 P) (.node (o120 P) (.node (o186 P) (.node (o318 P) .nil .nil) .nil) (.node (o252 P) .nil .nil)) (.node (o152 P) (.node (o220 P) .nil .nil) (.node (o286 P) .nil .nil))) (.node (o101 P) (.node (o136 P) (.node (o202 P) .nil .nil) (.node (o270 P) .nil .nil)) (.node (o170 P) (.node (o236 P) .nil .nil) (.node (o302 P) .nil .nil)))))
noncomputable def tr2_14 (P : Params) : BT := (.node (o46 P) (.node (o59 P) (.node (o111 P) (.node (o116 P) (.node (o182 P) (.node (o314 P) .nil .nil) .nil) (.node (o248 P) .nil .nil)) (.node (o148 P) (.node (o216 P) .nil .nil) (.node (o282 P) .nil .nil))) (.node (o97 P) (.node (o132 P) (.node (o198 P) .nil .nil) (.node (o266 P) .nil .nil)) (.node (o166 P) (.node (o232 P) .nil .nil) (.node (o298 P) .nil .nil)))) (.node (o67 P) (.node (o86 P) (.node (o124 P) (.node (o190 P) (.node (o322 P) .nil .nil) .nil) (.node (o256 P) .nil .nil)) (.node (o158 P) (.node (o224 P) .nil .nil) (.node (o290 P) .nil .nil))) (.node (o105 P) (.node (o140 P) (.node (o208 P) .nil .nil) (.node (o274 P) .nil .nil)) (.node (o174 P) (.node (o240 P) .nil .nil) (.node (o306 P) .nil .nil)))))
noncomputable def tr2_6 (P : Params) : BT := (.node (PySem.W.boot_o_6 P) (tr2_10 P) (tr2_14 P))
noncomputable def tr2_2 (P : Params) : BT := (.node (o49 P) (tr2_4 P) (tr2_6 P))
noncomputable def tr2 (P : Params) : BT := (.node (PySem.W.boot_o_0 P) (tr2_1 P) (tr2_2 P))

noncomputable def tr3_15 (P : Params) : BT := (.node (o52 P) (.node (o68 P) (.node (o106 P) (.node (o175 P) (.node (o307 P) .nil .nil) (.node (o439 P) .nil .nil)) (.node (o241 P) (.node (o373 P) .nil .nil) (.node (o505 P) .nil .nil))) (.node (o141 P) (.node (o209 P) (.node (o341 P) .nil .nil) (.node (o471 P) .nil .nil)) (.node (o275 P) (.node (o407 P) .nil .nil) .nil))) (.node (o87 P) (.node (o125 P) (.node (o191 P) (.node (o323 P) .nil .nil) (.node (o455 P) .nil .nil)) (.node (o257 P) (.node (o389 P) .nil .nil) (.node (o521 P) .nil .nil))) (.node (o159 P) (.node (o225 P) (.node (o357 P) .nil .nil) (.node (o489 P) .nil .nil)) (.node (o291 P) (.node (o423 P) .nil .nil) .nil))))
noncomputable def tr3_23 (P : Params) : BT := (.node (o60 P) (.node (o76 P) (.node (o117 P) (.node (o183 P) (.node (o315 P) .nil .nil) (.node (o447 P) .nil .nil)) (.node (o249 P) (.node (o381 P) .nil .nil) (.node (o513 P) .nil .nil))) (.node (o149 P) (.node (o217 P) (.node (o349 P) .nil .nil) (.node (o481 P) .nil .nil)) (.node (o283 P) (.node (o415 P) .nil .nil) .nil))) (.node (o98 P) (.node (o133 P) (.node (o199 P) (.node (o333 P) .nil .nil) (.node (o463 P) .nil .nil)) (.node (o267 P) (.node (o399 P) .nil .nil) .nil)) (.node (o167 P) (.node (o233 P) (.node (o365 P) .nil .nil) (.node (o497 P) .nil .nil)) (.node (o299 P) (.node (o431 P) .nil .nil) .nil))))
noncomputable def tr3_7 (P : Params) : BT := (.node (PySem.W.boot_o_7 P) (tr3_15 P) (tr3_23 P))
noncomputable def tr3_19 (P : Params) : BT := (.node (o56 P) (.node (o72 P) (.node (o113 P) (.node (o179 P) (.node (o311 P) .nil .nil) (.node (o443 P) .nil .nil)) (.node (o245 P) (.node (o377 P) .nil .nil) (.node (o509 P) .nil .nil))) (.node (o145 P) (.node (o213 P) (.node (o345 P) .nil .nil) (.node (o477 P) .nil .nil)) (.node (o279 P) (.node (o411 P) .nil .nil) .nil))) (.node (o91 P) (.node (o129 P) (.node (o195 P) (.node (o329 P) .nil .nil) (.node (o459 P) .nil .nil)) (.node (o261 P) (.node (o395 P) .nil .nil) (.node (o525 P) .nil .nil))) (.node (o163 P) (.node (o229 P) (.node (o361 P) .nil .nil) (.node (o493 P) .nil .nil)) (.node (o295 P) (.node (o427 P) .nil .nil) .nil))))
noncomputable def tr3_27 (P : Params) : BT := (.node (o64 P) (.node (o83 P) (.node (o121 P) (.node (o187 P) (.node (o319 P) .nil .nil) (.node (o451 P) .nil .nil)) (.node (o253 P) (.node (o385 P) .nil .nil) (.node (o517 P) .nil .nil))) (.node (o153 P) (.node (o221 P) (.node (o353 P) .nil .nil) (.node (o485 P) .nil .nil)) (.node (o287 P) (.node (o419 P) .nil .nil) .nil))) (.node (o102 P) (.node (o137 P) (.node (o203 P) (.node (o337 P) .nil .nil) (.node (o467 P) .nil .nil)) (.node (o271 P) (.node (o403 P) .nil .nil) .nil)) (.node (o171 P) (.node (o237 P) (.node (o369 P) .nil .nil) (.node (o501 P) .nil .nil)) (.node (o303 P) (.node (o435 P) .nil .nil) .nil))))
noncomputable def tr3_11 (P : Params) : BT := (.node (o43 P) (tr3_19 P) (tr3_27 P))
noncomputable def tr3_3 (P : Params) : BT := (.node (o472 P) (tr3_7 P) (tr3_11 P))
noncomputable def tr3_17 (P : Params) : BT := (.node (o54 P) (.node (o70 P) (.node (o108 P) (.node (o177 P) (.node (o309 P) .nil .nil) (.node (o441 P) .nil .nil)) (.node (o243 P) (.node (o375 P) .nil .nil) (.node (o507 P) .nil .nil))) (.node (o143 P) (.node (o211 P) (.node (o343 P) .nil .nil) (.node (o475 P) .nil .nil)) (.node (o277 P) (.node (o409 P) .nil .nil) .nil))) (.node (o89 P) (.node (o127 P) (.node (o193 P) (.node (o325 P) .nil .nil) (.node (o457 P) .nil .nil)) (.node (o259 P) (.node (o393 P) .nil .nil) (.node (o523 P) .nil .nil))) (.node (o161 P) (.node (o227 P) (.node (o359 P) .nil .nil) (.node (o491 P) .nil .nil)) (.node (o293 P) (.node (o425 P) .nil .nil) .nil))))
noncomputable def tr3_25 (P : Params) : BT := (.node (o62 P) (.node (o78 P) (.node (o119 P) (.node (o185 P) (.node (o317 P) .nil .nil) (.node (o449 P) .nil .nil)) (.node (o251 P) (.node (o383 P) .nil .nil) (.node (o515 P) .nil .nil))) (.node (o151 P) (.node (o219 P) (.node (o351 P) .nil .nil) (.node (o483 P) .nil .nil)) (.node (o285 P) (.node (o417 P) .nil .nil) .nil))) (.node (o100 P) (.node (o135 P) (.node (o201 P) (.node (o335 P) .nil .nil) (.node (o465 P) .nil .nil)) (.node (o269 P) (.node (o401 P) .nil .nil) .nil)) (.node (o169 P) (.node (o235 P) (.node (o367 P) .nil .nil) (.node (o499 P) .nil .nil)) (.node (o301 P) (.node (o433 P) .nil .nil) .nil))))
noncomputable def tr3_9 (P : Params) : BT := (.node (PySem.W.boot_o_9 P) (tr3_17 P) (tr3_25 P))
noncomputable def tr3_21 (P : Params) : BT := (.node (o58 P) (.node (o74 P) (.node (o115 P) (.node (o181 P) (.node (o313 P) .nil .nil) (.node (o445 P) .nil .nil)) (.node (o247 P) (.node (o379 P) .nil .nil) (.node (o511 P) .nil .nil))) (.node (o147 P) (.node (o215 P) (.node (o347 P) .nil .nil) (.node (o479 P) .nil .nil)) (.node (o281 P) (.node (o413 P) .nil .nil) .nil))) (.node (o93 P) (.node (o131 P) (.node (o197 P) (.node (o331 P) .nil .nil) (.node (o461 P) .nil .nil)) (.node (o263 P) (.node (o397 P) .nil .nil) .nil)) (.node (o165 P) (.node (o231 P) (.node (o363 P) .nil .nil) (.node (o495 P) .nil .nil)) (.node (o297 P) (.node (o429 P) .nil .nil) .nil))))
noncomputable def tr3_29 (P : Params) : BT := (.node (o66 P) (.node (o85 P) (.node (o123 P) (.node (o189 P) (.node (o321 P) .nil .nil) (.node (o453 P) .nil .nil)) (.node (o255 P) (.node (o387 P) .nil .nil) (.node (o519 P) .nil .nil))) (.node (o157 P) (.node (o223 P) (.node (o355 P) .nil .nil) (.node (o487 P) .nil .nil)) (.node (o289 P) (.node (o421 P) .nil .nil) .nil))) (.node (o104 P) (.node (o139 P) (.node (o205 P) (.node (o339 P) .nil .nil) (.node (o469 P) .nil .nil)) (.node (o273 P) (.node (o405 P) .nil .nil) .nil)) (.node (o173 P) (.node (o239 P) (.node (o371 P) .nil .nil) (.node (o503 P) .nil .nil)) (.node (o305 P) (.node (o437 P) .nil .nil) .nil))))
noncomputable def tr3_13 (P : Params) : BT := (.node (o45 P) (tr3_21 P) (tr3_29 P))
noncomputable def tr3_5 (P : Params) : BT := (.node (PySem.W.boot_o_5 P) (tr3_9 P) (tr3_13 P))
noncomputable def tr3_1 (P : Params) : BT := (.node (PySem.W.boot_o_1 P) (tr3_3 P) (tr3_5 P))
noncomputable def tr3_16 (P : Params) : BT := (.node (o53 P) (.node (o69 P) (.node (o107 P) (.node (o176 P) (.node (o308 P) .nil .nil) (.node (o440 P) .nil .nil)) (.node (o242 P) (.node (o374 P) .nil .nil) (.node (o506 P) .nil .nil))) (.node (o142 P) (.node (o210 P) (.node (o342 P) .nil .nil) (.node (o474 P) .nil .nil)) (.node (o276 P) (.node (o408 P) .nil .nil) .nil))) (.node (o88 P) (.node (o126 P) (.node (o192 P) (.node (o324 P) .nil .nil) (.node (o456 P) .nil .nil)) (.node (o258 P) (.node (o390 P) .nil .nil) (.node (o522 P) .nil .nil))) (.node (o160 P) (.node (o226 P) (.node (o358 P) .nil .nil) (.node (o490 P) .nil .nil)) (.node (o292 P) (.node (o424 P) .nil .nil) .nil))))
noncomputable def tr3_24 (P : Params) : BT := (.node (o61 P) (.node (o77 P) (.node (o118 P) (.node (o184 P) (.node (o316 P) .nil .nil) (.node (o448 P) .nil .nil)) (.node (o250 P) (.node (o382 P) .nil .nil) (.node (o514 P) .nil .nil))) (.node (o150 P) (.node (o218 P) (.node (o350 P) .nil .nil) (.node (o482 P) .nil .nil)) (.node (o284 P) (.node (o416 P) .nil .nil) .nil))) (.node (o99 P) (.node (o134 P) (.node (o200 P) (.node (o334 P) .nil .nil) (.node (o464 P) .nil .nil)) (.node (o268 P) (.node (o400 P) .nil .nil) .nil)) (.node (o168 P) (.node (o234 P) (.node (o366 P) .nil .nil) (.node (o498 P) .nil .nil)) (.node (o300 P) (.node (o432 P) .nil .nil) .nil))))
noncomputable def tr3_8 (P : Params) : BT := (.node (PySem.W.boot_o_8 P) (tr3_16 P) (tr3_24 P))
noncomputable def tr3_20 (P : Params) : BT := (.node (o57 P) (.node (o73 P) (.node (o114 P) (.node (o180 P) (.node (o312 P) .nil .nil) (.node (o444 P) .nil .nil)) (.node (o246 P) (.node (o378 P) .nil .nil) (.node (o510 P) .nil .nil))) (.node (o146 P) (.node (o214 P) (.node (o346 P) .nil .nil) (.node (o478 P) .nil .nil)) (.node (o280 P) (.node (o412 P) .nil .nil) .nil))) (.node (o92 P) (.node (o130 P) (.node (o196 P) (.node (o330 P) .nil .nil) (.node (o460 P) .nil .nil)) (.node (o262 P) (.node (o396 P) .nil .nil) .nil)) (.node (o164 P) (.node (o230 P) (.node (o362 P) .nil .nil) (.node (o494 P) .nil .nil)) (.node (o296 P) (.node (o428 P) .nil .nil) .nil))))
noncomputable def tr3_28 (P : Params) : BT := (.node (o65 P) (.node (o84 P) (.node (o122 P) (.node (o188 P) (.node (o320 P) .nil .nil) (.node (o452 P) .nil .nil)) (.node (o254 P) (.node (o386 P) .nil .nil) (.node (o518 P) .nil .nil))) (.node (o154 P) (.node (o222 P) (.node (o354 P) .nil .nil) (.node (o486 P) .nil .nil)) (.node (o288 P) (.node (o420 P) .nil .nil) .nil))) (.node (o103 P) (.node (o138 P) (.node (o204 P) (.node (o338 P) .nil .nil) (.node (o468 P) .nil .nil)) (.node (o272 P) (.node (o404 P) .nil .nil) .nil)) (.node (o172 P) (.node (o238 P) (.node (o370 P) .nil .nil) (.node (o502 P) .nil .nil)) (.node (o304 P) (.node (o436 P) .nil .nil) .nil))))
noncomputable def tr3_12 (P : Params) : BT := (.node (o473 P) (tr3_20 P) (tr3_28 P))
noncomputable def tr3_4 (P : Params) : BT := (.node (PySem.W.boot_o_4 P) (tr3_8 P) (tr3_12 P))
noncomputable def tr3_18 (P : Params) : BT := (.node (o55 P) (.node (o71 P) (.node (o112 P) (.node (o178 P) (.node (o310 P) .nil .nil) (.node (o442 P) .nil .nil)) (.node (o244 P) (.node (o376 P) .nil .nil) (.node (o508 P) .nil .nil))) (.node (o144 P) (.node (o212 P) (.node (o344 P) .nil .nil) (.node (o476 P) .nil .nil)) (.node (o278 P) (.node (o410 P) .nil .nil) .nil))) (.node (o90 P) (.node (o128 P) (.node (o194 P) (.node (o328 P) .nil .nil) (.node (o458 P) .nil .nil)) (.node (o260 P) (.node (o394 P) .nil .nil) (.node (o524 P) .nil .nil))) (.node (o162 P) (.node (o228 P) (.node (o360 P) .nil .nil) (.node (o492 P) .nil .nil)) (.node (o294 P) (.node (o426 P) .nil .nil) .nil))))
noncomputable def tr3_26 (P : Params) : BT := (.node (o63 P) (.node (o82 P) (.node (o120 P) (.node (o186 P) (.node (o318 P) .nil .nil) (.node (o450 P) .nil .nil)) (.node (o252 P) (.node (o384 P) .nil .nil) (.node (o516 P) .nil .nil))) (.node (o152 P) (.node (o220 P) (.node (o352 P) .nil .nil) (.node (o484 P) .nil .nil)) (.node (o286 P) (.node (o418 P) .nil .nil) .nil))) (.node (o101 P) (.node (o136 P) (.node (o202 P) (.node (o336 P) .nil .nil) (.node (o466 P) .nil .nil)) (.node (o270 P) (.node (o402 P) .nil .nil) .nil)) (.node (o170 P) (.node (o236 P) (.node (o368 P) .nil .nil) (.node (o500 P) .nil .nil)) (.node (o302 P) (.node (o434 P) .nil .nil) .nil))))
noncomputable def tr3_10 (P : Params) : BT := (.node (PySem.W.boot_o_10 P) (tr3_18 P) (tr3_26 P))
noncomputable def tr3_22 (P : Params) : BT := (.node (o59 P) (.node (o111 P) (.node (o116 P) (.node (o182 P) (.node (o314 P) .nil .nil) (.node (o446 P) .nil .nil)) (.node (o248 P) (.node (o380 P) .nil .nil) (.node (o512 P) .nil .nil))) (.node (o148 P) (.node (o216 P) (.node (o348 P) .nil .nil) (.node (o480 P) .nil .nil)) (.node (o282 P) (.node (o414 P) .nil .nil) .nil))) (.node (o97 P) (.node (o132 P) (.node (o198 P) (.node (o332 P) .nil .nil) (.node (o462 P) .nil .nil)) (.node (o266 P) (.node (o398 P) .nil .nil) .nil)) (.node (o166 P) (.node (o232 P) (.node (o364 P) .nil .nil) (.node (o496 P) .nil .nil)) (.node (o298 P) (.node (o430 P) .nil .nil) .nil))))
noncomputable def tr3_30 (P : Params) : BT := (.node (o67 P) (.node (o86 P) (.node (o124 P) (.node (o190 P) (.node (o322 P) .nil .nil) (.node (o454 P) .nil .nil)) (.node (o256 P) (.node (o388 P) .nil .nil) (.node (o520 P) .nil .nil))) (.node (o158 P) (.node (o224 P) (.node (o356 P) .nil .nil) (.node (o488 P) .nil .nil)) (.node (o290 P) (.node (o422 P) .nil .nil) .nil))) (.node (o105 P) (.node (o140 P) (.node (o208 P) (.node (o340 P) .nil .nil) (.node (o470 P) .nil .nil)) (.node (o274 P) (.node (o406 P) .nil .nil) .nil)) (.node (o174 P) (.node (o240 P) (.node (o372 P) .nil .nil) (.node (o504 P) .nil .nil)) (.node (o306 P) (.node (o438 P) .nil .nil) .nil))))
noncomputable def tr3_14 (P : Params) : BT := (.node (o46 P) (tr3_22 P) (tr3_30 P))
noncomputable def tr3_6 (P : Params) : BT := (.node (PySem.W.boot_o_6 P) (tr3_10 P) (tr3_14 P))
noncomputable def tr3_2 (P : Params) : BT := (.node (o49 P) (tr3_4 P) (tr3_6 P))
noncomputable def tr3 (P : Params) : BT := (.node (PySem.W.boot_o_0 P) (tr3_1 P) (tr3_2 P))

noncomputable def hA0 (P : Params) (r : List Obj) : List Obj := PySem.W.boot_o_0 P :: PySem.W.boot_o_1 P :: PySem.W.boot_o_2 P :: PySem.W.boot_o_3 P :: PySem.W.boot_o_4 P :: PySem.W.boot_o_5 P :: PySem.W.boot_o_6 P :: PySem.W.boot_o_7 P :: PySem.W.boot_o_8 P :: PySem.W.boot_o_9 P :: PySem.W.boot_o_10 P :: o43 P :: o44 P :: o45 P :: o46 P :: r
noncomputable def HA (P : Params) : Heap := ⟨⟨(hA0 P [])⟩, {}⟩

noncomputable def hF0 (P : Params) (r : List Obj) : List Obj := PySem.W.boot_o_0 P :: PySem.W.boot_o_1 P :: o49 P :: o472 P :: PySem.W.boot_o_4 P :: PySem.W.boot_o_5 P :: PySem.W.boot_o_6 P :: PySem.W.boot_o_7 P :: PySem.W.boot_o_8 P :: PySem.W.boot_o_9 P :: PySem.W.boot_o_10 P :: o43 P :: o473 P :: o45 P :: o46 P :: o52 P :: o53 P :: o54 P :: o55 P :: o56 P :: r
noncomputable def hF1 (P : Params) (r : List Obj) : List Obj := o57 P :: o58 P :: o59 P :: o60 P :: o61 P :: o62 P :: o63 P :: o64 P :: o65 P :: o66 P :: o67 P :: o68 P :: o69 P :: o70 P :: o71 P :: o72 P :: o73 P :: o74 P :: o111 P :: o76 P :: r
noncomputable def hF2 (P : Params) (r : List Obj) : List Obj := o77 P :: o78 P :: o82 P :: o83 P :: o84 P :: o85 P :: o86 P :: o87 P :: o88 P :: o89 P :: o90 P :: o91 P :: o92 P :: o93 P :: o97 P :: o98 P :: o99 P :: o100 P :: o101 P :: o102 P :: r
noncomputable def hF3 (P : Params) (r : List Obj) : List Obj := o103 P :: o104 P :: o105 P :: o106 P :: o107 P :: o108 P :: o112 P :: o113 P :: o114 P :: o115 P :: o116 P :: o117 P :: o118 P :: o119 P :: o120 P :: o121 P :: o122 P :: o123 P :: o124 P :: o125 P :: r
noncomputable def hF4 (P : Params) (r : List Obj) : List Obj := o126 P :: o127 P :: o128 P :: o129 P :: o130 P :: o131 P :: o132 P :: o133 P :: o134 P :: o135 P :: o136 P :: o137 P :: o138 P :: o139 P :: o140 P :: o141 P :: o142 P :: o143 P :: o144 P :: o145 P :: r
noncomputable def hF5 (P : Params) (r : List Obj) : List Obj := o146 P :: o147 P :: o148 P :: o149 P :: o150 P :: o151 P :: o152 P :: o153 P :: o154 P :: o157 P :: o158 P :: o159 P :: o160 P :: o161 P :: o162 P :: o163 P :: o164 P :: o165 P :: o166 P :: o167 P :: r
noncomputable def hF6 (P : Params) (r : List Obj) : List Obj := o168 P :: o169 P :: o170 P :: o171 P :: o172 P :: o173 P :: o174 P :: o175 P :: o176 P :: o177 P :: o178 P :: o179 P :: o180 P :: o181 P :: o182 P :: o183 P :: o184 P :: o185 P :: o186 P :: o187 P :: r
noncomputable def hF7 (P : Params) (r : List Obj) : List Obj := o188 P :: o189 P :: o190 P :: o191 P :: o192 P :: o193 P :: o194 P :: o195 P :: o196 P :: o197 P :: o198 P :: o199 P :: o200 P :: o201 P :: o202 P :: o203 P :: o204 P :: o205 P :: o208 P :: o209 P :: r
noncomputable def hF8 (P : Params) (r : List Obj) : List Obj := o210 P :: o211 P :: o212 P :: o213 P :: o214 P :: o215 P :: o216 P :: o217 P :: o218 P :: o219 P :: o220 P :: o221 P :: o222 P :: o223 P :: o224 P :: o225 P :: o226 P :: o227 P :: o228 P :: o229 P :: r
noncomputable def hF9 (P : Params) (r : List Obj) : List Obj := o230 P :: o231 P :: o232 P :: o233 P :: o234 P :: o235 P :: o236 P :: o237 P :: o238 P :: o239 P :: o240 P :: o241 P :: o242 P :: o243 P :: o244 P :: o245 P :: o246 P :: o247 P :: o248 P :: o249 P :: r
noncomputable def hF10 (P : Params) (r : List Obj) : List Obj := o250 P :: o251 P :: o252 P :: o253 P :: o254 P :: o255 P :: o256 P :: o257 P :: o258 P :: o259 P :: o260 P :: o261 P :: o262 P :: o263 P :: o266 P :: o267 P :: o268 P :: o269 P :: o270 P :: o271 P :: r
noncomputable def hF11 (P : Params) (r : List Obj) : List Obj := o272 P :: o273 P :: o274 P :: o275 P :: o276 P :: o277 P :: o278 P :: o279 P :: o280 P :: o281 P :: o282 P :: o283 P :: o284 P :: o285 P :: o286 P :: o287 P :: o288 P :: o289 P :: o290 P :: o291 P :: r
noncomputable def hF12 (P : Params) (r : List Obj) : List Obj := o292 P :: o293 P :: o294 P :: o295 P :: o296 P :: o297 P :: o298 P :: o299 P :: o300 P :: o301 P :: o302 P :: o303 P :: o304 P :: o305 P :: o306 P :: o307 P :: o308 P :: o309 P :: o310 P :: o311 P :: r
noncomputable def hF13 (P : Params) (r : List Obj) : List Obj := o312 P :: o313 P :: o314 P :: o315 P :: o316 P :: o317 P :: o318 P :: o319 P :: o320 P :: o321 P :: o322 P :: o323 P :: o324 P :: o325 P :: o328 P :: o329 P :: o330 P :: o331 P :: o332 P :: o333 P :: r
noncomputable def hF14 (P : Params) (r : List Obj) : List Obj := o334 P :: o335 P :: o336 P :: o337 P :: o338 P :: o339 P :: o340 P :: o341 P :: o342 P :: o343 P :: o344 P :: o345 P :: o346 P :: o347 P :: o348 P :: o349 P :: o350 P :: o351 P :: o352 P :: o353 P :: r
noncomputable def hF15 (P : Params) (r : List Obj) : List Obj := o354 P :: o355 P :: o356 P :: o357 P :: o358 P :: o359 P :: o360 P :: o361 P :: o362 P :: o363 P :: o364 P :: o365 P :: o366 P :: o367 P :: o368 P :: o369 P :: o370 P :: o371 P :: o372 P :: o373 P :: r
noncomputable def hF16 (P : Params) (r : List Obj) : List Obj := o374 P :: o375 P :: o376 P :: o377 P :: o378 P :: o379 P :: o380 P :: o381 P :: o382 P :: o383 P :: o384 P :: o385 P :: o386 P :: o387 P :: o388 P :: o389 P :: o390 P :: o393 P :: o394 P :: o395 P :: r
noncomputable def hF17 (P : Params) (r : List Obj) : List Obj := o396 P :: o397 P :: o398 P :: o399 P :: o400 P :: o401 P :: o402 P :: o403 P :: o404 P :: o405 P :: o406 P :: o407 P :: o408 P :: o409 P :: o410 P :: o411 P :: o412 P :: o413 P :: o414 P :: o415 P :: r
noncomputable def hF18 (P : Params) (r : List Obj) : List Obj := o416 P :: o417 P :: o418 P :: o419 P :: o420 P :: o421 P :: o422 P :: o423 P :: o424 P :: o425 P :: o426 P :: o427 P :: o428 P :: o429 P :: o430 P :: o431 P :: o432 P :: o433 P :: o434 P :: o435 P :: r
noncomputable def hF19 (P : Params) (r : List Obj) : List Obj := o436 P :: o437 P :: o438 P :: o439 P :: o440 P :: o441 P :: o442 P :: o443 P :: o444 P :: o445 P :: o446 P :: o447 P :: o448 P :: o449 P :: o450 P :: o451 P :: o452 P :: o453 P :: o454 P :: o455 P :: r
noncomputable def hF20 (P : Params) (r : List Obj) : List Obj := o456 P :: o457 P :: o458 P :: o459 P :: o460 P :: o461 P :: o462 P :: o463 P :: o464 P :: o465 P :: o466 P :: o467 P :: o468 P :: o469 P :: o470 P :: o471 P :: o474 P :: o475 P :: o476 P :: o477 P :: r
noncomputable def hF21 (P : Params) (r : List Obj) : List Obj := o478 P :: o479 P :: o480 P :: o481 P :: o482 P :: o483 P :: o484 P :: o485 P :: o486 P :: o487 P :: o488 P :: o489 P :: o490 P :: o491 P :: o492 P :: o493 P :: o494 P :: o495 P :: o496 P :: o497 P :: r
noncomputable def hF22 (P : Params) (r : List Obj) : List Obj := o498 P :: o499 P :: o500 P :: o501 P :: o502 P :: o503 P :: o504 P :: o505 P :: o506 P :: o507 P :: o508 P :: o509 P :: o510 P :: o511 P :: o512 P :: o513 P :: o514 P :: o515 P :: o516 P :: o517 P :: r
noncomputable def hF23 (P : Params) (r : List Obj) : List Obj := o518 P :: o519 P :: o520 P :: o521 P :: o522 P :: o523 P :: o524 P :: o525 P :: r
noncomputable def HF (P : Params) : Heap := ⟨⟨(hF0 P (hF1 P (hF2 P (hF3 P (hF4 P (hF5 P (hF6 P (hF7 P (hF8 P (hF9 P (hF10 P (hF11 P (hF12 P (hF13 P (hF14 P (hF15 P (hF16 P (hF17 P (hF18 P (hF19 P (hF20 P (hF21 P (hF22 P (hF23 P []))))))))))))))))))))))))⟩, {}⟩

noncomputable def KK (P : Params) : Frag := ((nat_lit 2), o49 P) :: ((nat_lit 3), o472 P) :: ((nat_lit 15), o52 P) :: ((nat_lit 17), o54 P) :: ((nat_lit 18), o55 P) :: ((nat_lit 20), o57 P) :: ((nat_lit 21), o58 P) :: ((nat_lit 22), o59 P) :: ((nat_lit 29), o66 P) :: ((nat_lit 31), o68 P) :: ((nat_lit 32), o69 P) :: ((nat_lit 34), o71 P) :: ((nat_lit 35), o72 P) :: ((nat_lit 36), o73 P) :: ((nat_lit 37), o74 P) :: ((nat_lit 38), o111 P) :: ((nat_lit 39), o76 P) :: ((nat_lit 42), o82 P) :: ((nat_lit 49), o89 P) :: ((nat_lit 50), o90 P) :: ((nat_lit 51), o91 P) :: ((nat_lit 54), o97 P) :: ((nat_lit 61), o104 P) :: ((nat_lit 62), o105 P) :: ((nat_lit 63), o106 P) :: ((nat_lit 66), o112 P) :: ((nat_lit 73), o119 P) :: ((nat_lit 74), o120 P) :: ((nat_lit 75), o121 P) :: ((nat_lit 78), o124 P) :: ((nat_lit 79), o125 P) :: ((nat_lit 80), o126 P) :: ((nat_lit 82), o128 P) :: ((nat_lit 83), o129 P) :: ((nat_lit 85), o131 P) :: ((nat_lit 86), o132 P) :: ((nat_lit 87), o133 P) :: ((nat_lit 88), o134 P) :: ((nat_lit 90), o136 P) :: ((nat_lit 91), o137 P) :: ((nat_lit 93), o139 P) :: ((nat_lit 94), o140 P) :: ((nat_lit 95), o141 P) :: ((nat_lit 97), o143 P) :: ((nat_lit 98), o144 P) :: ((nat_lit 100), o146 P) :: ((nat_lit 101), o147 P) :: ((nat_lit 102), o148 P) :: ((nat_lit 104), o150 P) :: ((nat_lit 105), o151 P) :: ((nat_lit 107), o153 P) :: ((nat_lit 108), o154 P) :: ((nat_lit 109), o157 P) :: ((nat_lit 111), o159 P) :: ((nat_lit 112), o160 P) :: ((nat_lit 114), o162 P) :: ((nat_lit 115), o163 P) :: ((nat_lit 116), o164 P) :: ((nat_lit 118), o166 P) :: ((nat_lit 119), o167 P) :: ((nat_lit 121), o169 P) :: ((nat_lit 122), o170 P) :: ((nat_lit 123), o171 P) :: ((nat_lit 125), o173 P) :: ((nat_lit 126), o174 P) :: ((nat_lit 128), o176 P) :: ((nat_lit 129), o177 P) :: ((nat_lit 130), o178 P) :: ((nat_lit 132), o180 P) :: ((nat_lit 133), o181 P) :: ((nat_lit 135), o183 P) :: ((nat_lit 136), o184 P) :: ((nat_lit 137), o185 P) :: ((nat_lit 139), o187 P) :: ((nat_lit 140), o188 P) :: ((nat_lit 142), o190 P) :: ((nat_lit 143), o191 P) :: ((nat_lit 144), o192 P) :: ((nat_lit 146), o194 P) :: ((nat_lit 147), o195 P) :: ((nat_lit 149), o197 P) :: ((nat_lit 150), o198 P) :: ((nat_lit 151), o199 P) :: ((nat_lit 153), o201 P) :: ((nat_lit 154), o202 P) :: ((nat_lit 156), o204 P) :: ((nat_lit 157), o205 P) :: ((nat_lit 165), o215 P) :: ((nat_lit 167), o217 P) :: ((nat_lit 168), o218 P) :: ((nat_lit 170), o220 P) :: ((nat_lit 171), o221 P) :: ((nat_lit 172), o222 P) :: ((nat_lit 174), o224 P) :: ((nat_lit 175), o225 P) :: ((nat_lit 177), o227 P) :: ((nat_lit 178), o228 P) :: ((nat_lit 179), o229 P) :: ((nat_lit 181), o231 P) :: ((nat_lit 182), o232 P) :: ((nat_lit 184), o234 P) :: ((nat_lit 185), o235 P) :: ((nat_lit 186), o236 P) :: ((nat_lit 188), o238 P) :: ((nat_lit 189), o239 P) :: ((nat_lit 191), o241 P) :: ((nat_lit 192), o242 P) :: ((nat_lit 193), o243 P) :: ((nat_lit 194), o244 P) :: ((nat_lit 195), o245 P) :: ((nat_lit 196), o246 P) :: ((nat_lit 197), o247 P) :: ((nat_lit 200), o250 P) :: ((nat_lit 202), o252 P) :: ((nat_lit 203), o253 P) :: ((nat_lit 205), o255 P) :: ((nat_lit 206), o256 P) :: ((nat_lit 207), o257 P) :: ((nat_lit 209), o259 P) :: ((nat_lit 210), o260 P) :: ((nat_lit 212), o262 P) :: ((nat_lit 213), o263 P) :: ((nat_lit 214), o266 P) :: ((nat_lit 216), o268 P) :: ((nat_lit 217), o269 P) :: ((nat_lit 219), o271 P) :: ((nat_lit 220), o272 P) :: ((nat_lit 221), o273 P) :: ((nat_lit 222), o274 P) :: ((nat_lit 223), o275 P) :: ((nat_lit 225), o277 P) :: ((nat_lit 226), o278 P) :: ((nat_lit 228), o280 P) :: ((nat_lit 229), o281 P) :: ((nat_lit 230), o282 P) :: ((nat_lit 232), o284 P) :: ((nat_lit 233), o285 P) :: ((nat_lit 235), o287 P) :: ((nat_lit 236), o288 P) :: ((nat_lit 237), o289 P) :: ((nat_lit 239), o291 P) :: ((nat_lit 240), o292 P) :: ((nat_lit 242), o294 P) :: ((nat_lit 243), o295 P) :: ((nat_lit 244), o296 P) :: ((nat_lit 246), o298 P) :: ((nat_lit 247), o299 P) :: ((nat_lit 249), o301 P) :: ((nat_lit 250), o302 P) :: ((nat_lit 251), o303 P) :: ((nat_lit 253), o305 P) :: ((nat_lit 254), o306 P) :: ((nat_lit 256), o308 P) :: ((nat_lit 257), o309 P) :: ((nat_lit 258), o310 P) :: ((nat_lit 259), o311 P) :: ((nat_lit 261), o313 P) :: ((nat_lit 262), o314 P) :: ((nat_lit 264), o316 P) :: ((nat_lit 265), o317 P) :: ((nat_lit 266), o318 P) :: ((nat_lit 267), o319 P) :: ((nat_lit 269), o321 P) :: ((nat_lit 270), o322 P) :: ((nat_lit 272), o324 P) :: ((nat_lit 273), o325 P) :: ((nat_lit 281), o335 P) :: ((nat_lit 283), o337 P) :: ((nat_lit 284), o338 P) :: ((nat_lit 286), o340 P) :: ((nat_lit 287), o341 P) :: ((nat_lit 288), o342 P) :: ((nat_lit 290), o344 P) :: ((nat_lit 291), o345 P) :: ((nat_lit 293), o347 P) :: ((nat_lit 294), o348 P) :: ((nat_lit 295), o349 P) :: ((nat_lit 297), o351 P) :: ((nat_lit 298), o352 P) :: ((nat_lit 300), o354 P) :: ((nat_lit 301), o355 P) :: ((nat_lit 302), o356 P) :: ((nat_lit 304), o358 P) :: ((nat_lit 305), o359 P) :: ((nat_lit 307), o361 P) :: ((nat_lit 308), o362 P) :: ((nat_lit 309), o363 P) :: ((nat_lit 311), o365 P) :: ((nat_lit 312), o366 P) :: ((nat_lit 314), o368 P) :: ((nat_lit 315), o369 P) :: ((nat_lit 316), o370 P) :: ((nat_lit 318), o372 P) :: ((nat_lit 319), o373 P) :: ((nat_lit 321), o375 P) :: ((nat_lit 322), o376 P) :: ((nat_lit 323), o377 P) :: ((nat_lit 325), o379 P) :: ((nat_lit 326), o380 P) :: ((nat_lit 328), o382 P) :: ((nat_lit 329), o383 P) :: ((nat_lit 330), o384 P) :: ((nat_lit 331), o385 P) :: ((nat_lit 332), o386 P) :: ((nat_lit 333), o387 P) :: ((nat_lit 334), o388 P) :: ((nat_lit 337), o393 P) :: ((nat_lit 339), o395 P) :: ((nat_lit 340), o396 P) :: ((nat_lit 342), o398 P) :: ((nat_lit 343), o399 P) :: ((nat_lit 344), o400 P) :: ((nat_lit 345), o401 P) :: ((nat_lit 347), o403 P) :: ((nat_lit 348), o404 P) :: ((nat_lit 350), o406 P) :: ((nat_lit 351), o407 P) :: ((nat_lit 352), o408 P) :: ((nat_lit 354), o410 P) :: ((nat_lit 355), o411 P) :: ((nat_lit 357), o413 P) :: ((nat_lit 358), o414 P) :: ((nat_lit 359), o415 P) :: ((nat_lit 361), o417 P) :: ((nat_lit 362), o418 P) :: ((nat_lit 364), o420 P) :: ((nat_lit 365), o421 P) :: ((nat_lit 366), o422 P) :: ((nat_lit 367), o423 P) :: ((nat_lit 369), o425 P) :: ((nat_lit 370), o426 P) :: ((nat_lit 372), o428 P) :: ((nat_lit 373), o429 P) :: ((nat_lit 374), o430 P) :: ((nat_lit 376), o432 P) :: ((nat_lit 377), o433 P) :: ((nat_lit 379), o435 P) :: ((nat_lit 380), o436 P) :: ((nat_lit 381), o437 P) :: ((nat_lit 383), o439 P) :: ((nat_lit 384), o440 P) :: ((nat_lit 386), o442 P) :: ((nat_lit 387), o443 P) :: ((nat_lit 388), o444 P) :: ((nat_lit 390), o446 P) :: ((nat_lit 391), o447 P) :: ((nat_lit 393), o449 P) :: ((nat_lit 394), o450 P) :: ((nat_lit 395), o451 P) :: ((nat_lit 397), o453 P) :: ((nat_lit 398), o454 P) :: ((nat_lit 400), o456 P) :: ((nat_lit 401), o457 P) :: ((nat_lit 402), o458 P) :: ((nat_lit 404), o460 P) :: ((nat_lit 405), o461 P) :: ((nat_lit 407), o463 P) :: ((nat_lit 408), o464 P) :: ((nat_lit 409), o465 P) :: ((nat_lit 411), o467 P) :: ((nat_lit 412), o468 P) :: ((nat_lit 414), o470 P) :: ((nat_lit 415), o471 P) :: ((nat_lit 416), o474 P) :: ((nat_lit 418), o476 P) :: ((nat_lit 419), o477 P) :: ((nat_lit 421), o479 P) :: ((nat_lit 422), o480 P) :: ((nat_lit 423), o481 P) :: ((nat_lit 425), o483 P) :: ((nat_lit 426), o484 P) :: ((nat_lit 428), o486 P) :: ((nat_lit 429), o487 P) :: ((nat_lit 430), o488 P) :: ((nat_lit 432), o490 P) :: ((nat_lit 433), o491 P) :: ((nat_lit 435), o493 P) :: ((nat_lit 436), o494 P) :: ((nat_lit 437), o495 P) :: ((nat_lit 439), o497 P) :: ((nat_lit 440), o498 P) :: ((nat_lit 442), o500 P) :: ((nat_lit 443), o501 P) :: ((nat_lit 444), o502 P) :: ((nat_lit 446), o504 P) :: ((nat_lit 447), o505 P) :: ((nat_lit 449), o507 P) :: ((nat_lit 450), o508 P) :: ((nat_lit 451), o509 P) :: ((nat_lit 454), o512 P) :: ((nat_lit 455), o513 P) :: ((nat_lit 456), o514 P) :: ((nat_lit 458), o516 P) :: ((nat_lit 459), o517 P) :: ((nat_lit 461), o519 P) :: ((nat_lit 462), o520 P) :: ((nat_lit 463), o521 P) :: ((nat_lit 466), o524 P) :: ((nat_lit 467), o525 P) :: []

def KA : List Addr := [2, 3, 15, 17, 18, 20, 21, 22, 29, 31, 32, 34, 35, 36, 37, 38, 39, 42, 49, 50, 51, 54, 61, 62, 63, 66, 73, 74, 75, 78, 79, 80, 82, 83, 85, 86, 87, 88, 90, 91, 93, 94, 95, 97, 98, 100, 101, 102, 104, 105, 107, 108, 109, 111, 112, 114, 115, 116, 118, 119] ++ [121, 122, 123, 125, 126, 128, 129, 130, 132, 133, 135, 136, 137, 139, 140, 142, 143, 144, 146, 147, 149, 150, 151, 153, 154, 156, 157, 165, 167, 168, 170, 171, 172, 174, 175, 177, 178, 179, 181, 182, 184, 185, 186, 188, 189, 191, 192, 193, 194, 195, 196, 197, 200, 202, 203, 205, 206, 207, 209, 210] ++ [212, 213, 214, 216, 217, 219, 220, 221, 222, 223, 225, 226, 228, 229, 230, 232, 233, 235, 236, 237, 239, 240, 242, 243, 244, 246, 247, 249, 250, 251, 253, 254, 256, 257, 258, 259, 261, 262, 264, 265, 266, 267, 269, 270, 272, 273, 281, 283, 284, 286, 287, 288, 290, 291, 293, 294, 295, 297, 298, 300] ++ [301, 302, 304, 305, 307, 308, 309, 311, 312, 314, 315, 316, 318, 319, 321, 322, 323, 325, 326, 328, 329, 330, 331, 332, 333, 334, 337, 339, 340, 342, 343, 344, 345, 347, 348, 350, 351, 352, 354, 355, 357, 358, 359, 361, 362, 364, 365, 366, 367, 369, 370, 372, 373, 374, 376, 377, 379, 380, 381, 383] ++ [384, 386, 387, 388, 390, 391, 393, 394, 395, 397, 398, 400, 401, 402, 404, 405, 407, 408, 409, 411, 412, 414, 415, 416, 418, 419, 421, 422, 423, 425, 426, 428, 429, 430, 432, 433, 435, 436, 437, 439, 440, 442, 443, 444, 446, 447, 449, 450, 451, 454, 455, 456, 458, 459, 461, 462, 463, 466, 467]

noncomputable def stA : List Stmt := BO.take 15
noncomputable def reA : List Stmt := BO.drop 15
noncomputable def stB : List Stmt := reA.take 25
noncomputable def reB : List Stmt := reA.drop 25
noncomputable def p0 : Pos := ⟨0, 0, 0, 0⟩
noncomputable def p1 : Pos := ⟨34, 0, 35, 59⟩
noncomputable def p2 : Pos := ⟨151, 0, 151, 8⟩
noncomputable def p3 : Pos := ⟨294, 0, 299, 62⟩
noncomputable def FB : List Frame := [topFrame p0]
noncomputable def sp (os : OsState) (w : World) : Shared := ⟨HA w.params, ⟨[]⟩, {}, (nat_lit 187), os⟩
noncomputable def s0 (os : OsState) (w : World) : SharedT := ⟨tr0 w.params, (nat_lit 15), {}, ⟨[]⟩, {}, (nat_lit 187), os⟩
noncomputable def s1 (os : OsState) (w : World) : SharedT := ⟨tr1 w.params, (nat_lit 109), {}, ⟨[]⟩, {}, (nat_lit 321), os⟩
noncomputable def s2 (os : OsState) (w : World) : SharedT := ⟨tr2 w.params, (nat_lit 274), {}, ⟨[]⟩, {}, (nat_lit 558), os⟩
noncomputable def s3 (os : OsState) (w : World) : SharedT := ⟨tr3 w.params, (nat_lit 468), {}, ⟨[]⟩, {}, (nat_lit 852), os⟩
noncomputable def sf (os : OsState) (w : World) : Shared := ⟨HF w.params, ⟨[]⟩, {}, (nat_lit 852), os⟩
noncomputable def an : Option Value := some (.ref 6)
noncomputable def lZ (w : World) : Bool × Nat × Option Value := ((boot_heap w.params).isNs mainGlobals && (Array.mk ([] : List GenState)).size == 0, (boot_heap w.params).objs.size, (boot_heap w.params).nsMap mainGlobals (Str.ofString "__annotations__"))
noncomputable def rZ : Bool × Nat × Option Value := (true, 11, an)

noncomputable def glA (X : Program) (os : OsState) (w : World) : Option (Shared × Thread) := topGo treeTable X w 11 an 12 ⟨boot_heap w.params, ⟨[]⟩, boot_drawn, boot_toks, os⟩ (topStub X)
noncomputable def grA (S : Shared) (C : Code) : Option (Shared × Thread) := some (S, ⟨denote treeTable C, C, p0, FB⟩)
theorem prime_A : (touch glA && touch grA) = true := by k_qdec
theorem run_A (os : OsState) (w : World) : PySem.W.Fast.tw6297775429468432869 PW os w = PySem.W.Fast.tw2820142345268459004 (sp os w) cE := by kernel_rfl
theorem eq_A (os : OsState) (w : World) : glA PW os w = grA (sp os w) cE := by rw [PySem.W.Fast.te6297775429468432869, PySem.W.Fast.te2820142345268459004]; exact run_A os w
noncomputable def glB (X : Program) (S : Shared) (B : List Stmt) (V : Env) (C : Code) (w : World) : Option (Flow × Shared × Code × Pos) := segRun treeTable X w 11 an 1 1 S (blockOf B V C p0 FB)
noncomputable def grB (S : SharedT) (C : Code) : Option (Flow × Shared × Code × Pos) := some (.next, S.abs, C, p0)
theorem prime_B : (touch glB) = true := by k_qdec
theorem run_B (os : OsState) (w : World) : PySem.W.Fast.tw17124617823695146241 PW (sp os w) BO EV cE w = grB (s0 os w) cE := by kernel_rfl
theorem eq_B (os : OsState) (w : World) : glB PW (sp os w) BO EV cE w = grB (s0 os w) cE := by rw [PySem.W.Fast.te17124617823695146241]; exact run_B os w
noncomputable def gl1 (X : Program) (S : SharedT) (B : List Stmt) (V : Env) (C : Code) (w : World) : Option (Flow × SharedT × Code × Pos) := segRunT treeTable X w 11 an 1 1085 S (piecesOf B V C p0 FB)
noncomputable def gr1 (S : SharedT) (C : Code) : Option (Flow × SharedT × Code × Pos) := some (.next, S, C, p1)
theorem prime_1 : (touch gl1) = true := by k_qdec
theorem run_1 (os : OsState) (w : World) : PySem.W.Fast.tw11466304342118515311 PW (s0 os w) stA EV cE w = gr1 (s1 os w) cE := by kernel_rfl
theorem eq_1 (os : OsState) (w : World) : gl1 PW (s0 os w) stA EV cE w = gr1 (s1 os w) cE := by rw [PySem.W.Fast.te11466304342118515311]; exact run_1 os w
noncomputable def gl2 (X : Program) (S : SharedT) (B : List Stmt) (V : Env) (C : Code) (w : World) : Option (Flow × SharedT × Code × Pos) := segRunT treeTable X w 11 an 1 942 S (piecesOf B V C p1 FB)
noncomputable def gr2 (S : SharedT) (C : Code) : Option (Flow × SharedT × Code × Pos) := some (.next, S, C, p2)
theorem prime_2 : (touch gl2) = true := by k_qdec
theorem run_2 (os : OsState) (w : World) : PySem.W.Fast.tw2883625911032100151 PW (s1 os w) stB EV cE w = gr2 (s2 os w) cE := by kernel_rfl
theorem eq_2 (os : OsState) (w : World) : gl2 PW (s1 os w) stB EV cE w = gr2 (s2 os w) cE := by rw [PySem.W.Fast.te2883625911032100151]; exact run_2 os w
noncomputable def gl3 (X : Program) (S : SharedT) (B : List Stmt) (V : Env) (C : Code) (w : World) : Option (Flow × SharedT × Code × Pos) := segRunT treeTable X w 11 an 1 1072 S (piecesOf B V C p2 FB)
noncomputable def gr3 (S : SharedT) (C : Code) : Option (Flow × SharedT × Code × Pos) := some (.next, S, C, p3)
theorem prime_3 : (touch gl3) = true := by k_qdec
theorem run_3 (os : OsState) (w : World) : PySem.W.Fast.tw10872837045783144395 PW (s2 os w) reB EV cE w = gr3 (s3 os w) cE := by kernel_rfl
theorem eq_3 (os : OsState) (w : World) : gl3 PW (s2 os w) reB EV cE w = gr3 (s3 os w) cE := by rw [PySem.W.Fast.te10872837045783144395]; exact run_3 os w
noncomputable def glF (X : Program) (S : SharedT) (C : Code) (w : World) : Option Shared := topRun treeTable X w 11 an 2 S.abs ⟨doneF .next, C, p3, FB⟩
noncomputable def grF (S : Shared) : Option Shared := some S
theorem prime_F : (touch glF) = true := by k_qdec
theorem run_F (os : OsState) (w : World) : PySem.W.Fast.tw9736664950566755299 PW (s3 os w) cE w = grF (sf os w) := by kernel_rfl
theorem eq_F (os : OsState) (w : World) : glF PW (s3 os w) cE w = grF (sf os w) := by rw [PySem.W.Fast.te9736664950566755299]; exact run_F os w
noncomputable def glK (X : Program) (H : Heap) (S : Shared) (w : World) : Bool := staticsOk (importedModules X.main.body) (boot_heap w.params) H && namesBound X H && gensDone S && laidKept (boot_heap w.params) H
noncomputable def grK (u : Unit) : Bool := true
theorem prime_K : (touch glK) = true := by k_qdec
theorem run_K (os : OsState) (w : World) : PySem.W.Fast.tw6225465377844881216 PW (HF w.params) (sf os w) w = grK () := by kernel_rfl
theorem eq_K (os : OsState) (w : World) : glK PW (HF w.params) (sf os w) w = grK () := by rw [PySem.W.Fast.te6225465377844881216]; exact run_K os w
noncomputable def glS (X V : Program) (L : List Str) (LV : List (Str × WData)) (R : _) (S : Shared) := openSeen V L (importedModules X.main.body) (fun s => xlAt V LV s && recOk R s) true S
noncomputable def grS (V : Program) (L : List Str) := openGood V L
theorem prime_S : (touch glS) = true := by k_qdec
theorem run_S (os : OsState) (w : World) : PySem.W.Fast.tw8118423037516971239 PW vw lse lvs (RowW.records PySem.Challenge.rw_pf0196_01.row.toRowW) (sf os w) = grS vw lse := by kernel_rfl
theorem eq_S (os : OsState) (w : World) : glS PW vw lse lvs (RowW.records PySem.Challenge.rw_pf0196_01.row.toRowW) (sf os w) = grS vw lse := by rw [PySem.W.Fast.te8118423037516971239]; exact run_S os w
theorem prime_Z : touch lZ = true := by k_qdec
theorem run_Z (w : World) : PySem.W.Fast.tw1711359984828059026 w = rZ := by kernel_rfl
theorem eq_Z (w : World) : lZ w = rZ := by rw [PySem.W.Fast.te1711359984828059026]; exact run_Z w
theorem open0 : ∀ w : World, (fencedOpening treeTable PW w 6304).map (fun s => (s.heap, s.gens, s.drawn, s.toks)) = some (boot_heap w.params, Array.mk [], boot_drawn, boot_toks) :=
  boot_open (by kernel_rfl) (by rfl) (fun s => by kernel_rfl)
theorem splitA : BO = stA ++ (stB ++ (reB ++ [])) := by
  rw [List.append_nil]
  unfold stB reB
  rw [List.take_append_drop]
  exact (List.take_append_drop 15 BO).symm
theorem runAll (w : World) (os : OsState) : topRun treeTable PW w 11 an (12 + (1 + (1085 + (942 + (1072 + 2))))) ⟨boot_heap w.params, Array.mk [], boot_drawn, boot_toks, os⟩ (topStub PW) = some (sf os w) := by
  refine go_top (eq_A os w) ?_
  refine piece_block (eq_B os w) ?_
  rw [splitA]
  refine piece_app (segRun_of (eq_1 os w)) ?_
  refine piece_app (segRun_of (eq_2 os w)) ?_
  refine piece_app (segRun_of (eq_3 os w)) ?_
  exact eq_F os w
theorem eq_Y (w : World) : KA.map (HF w.params).get? = (KK w.params).map fun p => some p.2 := by kernel_rfl
theorem looks0 (w : World) : (fun os => ((staticsOk (importedModules PW.main.body) (boot_heap w.params) (HF w.params) && namesBound PW (HF w.params) && gensDone (sf os w) && laidKept (boot_heap w.params) (HF w.params)),
    openSeen vw lse (importedModules PW.main.body) xtt true (sf os w), KA.map (sf os w).heap.get?)) = fun _ => (true, openGood vw lse, (KK w.params).map fun p => some p.2) :=
  funext fun os => looks_pair (eq_K os w) (looks_pair (eq_S os w) (eq_Y w))
theorem left0 : LeftO PW vw lse xtt (fun s => KA.map s.heap.get?) (fun w => (KK w.params).map fun p => some p.2) 6304 true :=
  LeftO.of_pieces open0 (fun w => eq_Z w) (fun w os => runAll w os) (by decide) looks0
theorem ka_is : ∀ P, KA = (KK P).map (·.1) := fun _ => by kernel_rfl
noncomputable abbrev HK : Hook := kHook KK KA ka_is

end Mine
end
open PySem PySem.W PyProof.Rows PySem.Calls PySem.Spec
set_option Elab.async false
set_option maxRecDepth 100000
set_option maxHeartbeats 8000000
set_option linter.all false
namespace Mine
variable {w : World} {p : Program} {loose : List Str} {mean : ExcName → Option Value} {mg mb : Str → Option Value}
local macro_rules | `(tactic| walk_at $s:str) => `(tactic| k_extra $s)
theorem words0 : True := by
  k_with_none
  trivial
local macro_rules | `(tactic| k_mem) => `(tactic| first | assumption | exact List.Mem.head _ | (refine' List.mem_cons_of_mem _ ?_; k_mem))
theorem words1 : True := by
  k_with "my_enter" => (guard_hyp zg1 : True); (k_dflt (refine' code_def ?k1 ?k2 ?k3 ?k4 ?k5 ?kA ?kF ?kK ?k6 ?k7 ?k8 ?k9 ?kB ?_ ?c2 ?c3 ?c4 ?c5; (case kA => exact rfl); (case kF => exact rfl); (case kK => first | assumption | rfl); (case k1 => k_asm); (case k2 => k_asm); (case k3 => k_asm); (case k4 => k_asm); (case k5 => k_asm); (case k6 => k_is); (case k7 => k_is); (case k8 => first | exact room_e hd | ((try simp only [depth_under_make, depth_under_kw, depth_in1, depth_deeper]); (try dsimp only [ktrTop, Around.deeper]); omega)); (case k9 => first | exact BindsTo.of_eq rfl | exact binds_K (by k_in) rfl (by k_is) rfl rfl rfl); (case c5 => decide); (case kB => exact locs rfl); (case c2 => exact rfl); (case c3 => exact rfl); (case c4 => exact rfl); k_whole; intro g' L' h' FG' F' N' B' X' T'; (try dsimp only); (try (conv in (execs _ _) => (arg 1; whnf))); (try k_fold)))
  k_with "my_side" => (guard_hyp zg1 : True); (
  (case B => first | k_asm | ktn_no "B"); (case F => first | k_asm | ktn_no "F"); (case X => first | k_asm | ktn_no "X"); (case T => first | k_asm | ktn_no "T"); (case hk => first | rfl | assumption | ktn_no "hk"); (case hd => first | exact room_d hd (Nat.le_of_ble_eq_true rfl) | (dsimp only [ktrTop, Around.deeper]; omega) | ktn_no "hd"); (case hu => first | exact room_u hu (Nat.le_of_ble_eq_true rfl) | (dsimp only [ktrTop, Around.deeper]; omega) | ktn_no "hu"))
  k_with "my_bits" => (guard_hyp zg1 : True); (first
  | with_reducible assumption
  | exact Br.num (by with_reducible assumption)
  | exact Br.den (by with_reducible assumption)
  | (with_reducible refine' Bi.neg ?nbi; (case nbi => k_extra "my_bits"))
  | (with_reducible refine' Bi.mul ?nbi ?nbj; (case nbi => k_extra "my_bits"); (case nbj => k_extra "my_bits"))
  | exact Br.num (And.left (by with_reducible assumption))
  | exact Br.den (And.left (by with_reducible assumption))
  | exact Bi.of (n := 64) (by decide))
  k_with "binaryOp Mult int int" => (guard_hyp zg1 : True); (k_here; k_dflt ((refine' mul_int ?_ (IntMulOk.of_le (Bi.le ?ha) (Bi.le ?hb) ?hc)); (case ha => k_extra "my_bits"); (case hb => k_extra "my_bits"); (case hc => first | decide | omega)))
  k_with "binaryOp FloorDiv int int" => (guard_hyp zg1 : True); (k_here; k_dflt ((refine' floordiv_int ?hb ?_ (Or.inl (PyProof.noPylong_of_log2 ?hl))); (case hb => first | decide | omega); (case hl => exact Bi.log (by k_extra "my_bits") (by first | decide | omega))))
  k_with "my_mem" => (guard_hyp zg1 : True); (first | with_reducible exact mem_head _ _ | (with_reducible refine' mem_tail ?_; k_extra "my_mem") | with_reducible assumption)
  k_with "my_sub" => (guard_hyp zg1 : True); (first | with_reducible exact sub_refl _ | (with_reducible refine' sub_cons ?_; k_extra "my_sub") | (refine' List.forall_mem_cons.mpr ⟨?sbm, ?sbr⟩; (case sbm => k_extra "my_mem"); (case sbr => k_extra "my_sub")))
  k_with "my_at" => (guard_hyp zg1 : True); (first
  | with_reducible assumption
  | (refine' At.sub ?ats ?atk; (case ats => with_reducible assumption); (case atk => k_extra "my_sub"))
  | (refine' At.here ?atm ?atb; (case atm => k_extra "my_mem"); (case atb => with_reducible assumption))
  | (refine' At.int ?atm ?atb; (case atm => k_extra "my_mem"); (case atb => k_extra "my_bits")))
  k_with "subscriptTail Name Constant ref int" => (guard_hyp zg1 : True); (k_here; k_dflt ((first
  | ((with_reducible show wpAny _ _ (subscriptTail _ _ (Value.ref _) (Value.int 0 _)) _ _ _); k_dflt (refine' at0 ?I ?F ?N ?X ?_))
  | ((with_reducible show wpAny _ _ (subscriptTail _ _ (Value.ref _) (Value.int 1 _)) _ _ _); k_dflt (refine' at1 ?I ?F ?N ?X ?_))); (case N => k_asm); (case I => k_extra "my_at"); (case F => k_asm); (case X => k_asm); intro t'; (try dsimp only)))
  k_with "my_lt" => (guard_hyp zg1 : True); (first
  | assumption
  | exact ktn_ltOf (by with_reducible assumption)
  | exact ktn_ltOf (And.right (by with_reducible assumption))
  | exact ktn_ltOf (And.right (And.right (by with_reducible assumption)))
  | exact ktn_ltOf (And.right (And.right (And.right (by with_reducible assumption))))
  | ktn_no "my_lt")
  k_with "my_int" => (guard_hyp zg1 : True); (intro v' n' h' tk' F' N' O'; obtain ⟨e1', c', t', e2', r'⟩ := O'; replace e1' := e1'.symm; subst e1'; subst e2'; (try k_sweep); (try dsimp only))
  k_with "my_make" => (guard_hyp zg1 : True); (k_dflt (refine' call_cls ?k1 ?k2 ?k3 ?k4 ?k5 ?k6 ?_; (case k1 => k_asm); (case k2 => k_asm); (case k3 => k_asm); (case k4 => k_is); (case k5 => k_is); (case k6 => k_is); k_whole; intro x' d' h' F' N' l1 l2; (try k_lt l1); (try k_lt2 l2); (try k_sweep); k_extra "my_enter"))
  k_with "call ref" => (guard_hyp zg1 : True); (k_here; (first | (with_reducible show wpAny _ _ (call (Value.ref 332) _) _ _ _) | (with_reducible show wpAny _ _ (call (Value.ref 195) _) _ _ _)); k_extra "my_make")
  trivial
theorem words2 : True := by
  k_with "execs cons" => (guard_hyp zg2 : True); (k_here; (try k_gentoks); (with_reducible refine sq_cons ?_); intro qk')
  k_with "Sq" => (guard_hyp zg2 : True); (k_here; with_reducible first | refine Sq.on ?_ | refine Sq.rt ?_ | refine Sq.br ?_ | refine Sq.cn ?_)
  k_with "my_lx" => (guard_hyp zg2 : True); (first
  | with_reducible assumption
  | exact And.left (by with_reducible assumption)
  | exact And.left (And.right (by with_reducible assumption))
  | exact And.left (And.right (And.right (by with_reducible assumption)))
  | exact And.left (And.right (And.right (And.right (by with_reducible assumption))))
  | exact And.left (And.right (And.right (And.right (And.right (by with_reducible assumption)))))
  | exact And.left (And.right (And.right (And.right (And.right (And.right (by with_reducible assumption))))))
  | exact And.left (And.right (And.right (And.right (And.right (And.right (And.right (by with_reducible assumption)))))))
  | exact And.left (And.right (And.right (And.right (And.right (And.right (And.right (And.right (by with_reducible assumption)))))))))
  k_with "my_len" => (guard_hyp zg2 : True); (first
  | exact Nat.le_of_eq (by with_reducible assumption)
  | exact Nat.le_trans (by with_reducible assumption) (by with_reducible assumption)
  | with_reducible assumption)
  k_with "my_addb" => (guard_hyp zg2 : True); (refine' add_b ?zzx ?zzy ?zzab ?_; (case zzx => k_extra "my_len"); (case zzy => k_extra "my_len"); (case zzab => exact Nat.le_of_ble_eq_true rfl))
  trivial
theorem words3 : True := by
  k_with "my_enter" => (guard_hyp zg3 : True); (k_dflt (refine' code_def ?k1 ?k2 ?k3 ?k4 ?k5 ?kA ?kF ?kK ?k6 ?k7 ?k8 ?k9 ?kB ?_ ?c2 ?c3 ?c4 ?c5; (case kA => exact rfl); (case kF => exact rfl); (case kK => first | assumption | rfl); (case k1 => k_asm); (case k2 => k_asm); (case k3 => k_asm); (case k4 => k_asm); (case k5 => k_asm); (case k6 => k_is); (case k7 => k_is); (case k8 => first | exact room_e hd | ((try simp (config := {zetaDelta := true}) only [depth_under_make, depth_under_kw, depth_in1, depth_deeper]); (try dsimp (config := {zetaDelta := true}) only [ktrTop, Around.deeper]); omega)); (case k9 => first | exact BindsTo.of_eq rfl | exact binds_K (by k_in) rfl (by k_is) rfl rfl rfl); (case c5 => decide); (case kB => exact locs rfl); (case c2 => exact rfl); (case c3 => exact rfl); (case c4 => exact rfl); k_whole; intro g' L' h' FG' F' N' B' X' T'; (try dsimp only); (try (conv in (execs _ _) => (arg 1; whnf))); (try k_fold); refine fold_AE ?_; intro ak' nk'; (refine' fr_let F' ?_; clear F'; intro mk' F')))
  trivial
theorem words4 : True := by
  k_with "my_pe" => (guard_hyp zg4 : True); (first
  | (with_reducible apply PE.cint)
  | (with_reducible apply PE.cstr)
  | (with_reducible apply PE.cbool)
  | ((with_reducible apply PE.add); (case hl => k_extra "my_pe"); (case hr => k_extra "my_pe"))
  | ((with_reducible apply PE.sub); (case hl => k_extra "my_pe"); (case hr => k_extra "my_pe"))
  | ((with_reducible apply PE.neg); (case hl => k_extra "my_pe"))
  | ((with_reducible apply PE.mul); (case hl => k_extra "my_pe"); (case hr => k_extra "my_pe"); (case ha => k_extra "my_bits"); (case hb => k_extra "my_bits"); (case hc => first | decide | omega))
  | ((with_reducible apply PE.fdiv); (case hl => k_extra "my_pe"); (case hr => k_extra "my_pe"); (case h0 => first | decide | omega); (case ha => k_extra "my_bits"); (case hc => first | decide | omega))
  | ((with_reducible apply PE.sub0); (case he => k_extra "my_pe"); (case N => k_asm); (case I => k_extra "my_at"); (case F => k_asm); (case X => k_asm))
  | ((with_reducible apply PE.sub1); (case he => k_extra "my_pe"); (case N => k_asm); (case I => k_extra "my_at"); (case F => k_asm); (case X => k_asm))
  | ((with_reducible apply PE.tup); (case he => k_extra "my_pe"); (case N => k_asm); (case hm => first | k_extra "my_mem" | k_extra "my_memC"); (case hi => rfl); (case hj => rfl); (case hlo => decide); (case hhi => decide))
  | ((with_reducible apply PE.attr); (case he => k_extra "my_pe"); (case F => k_asm); (case X => k_asm); (case I => k_inst); (case hg => k_is); (case hh => k_is); (case ha => k_is); (case hn => k_is); (case hl => k_get); (case hv => k_handed))
  | ((with_reducible show PE _ _ _ (Expr.Name _ _) _ _ _ _); k_dflt ((apply PE.loc); (case F => k_asm); (case hv => exact rfl); (case hk => rfl); (case hx => rfl); (case hd => decide)))
  | ((with_reducible show PE _ _ _ (Expr.Name _ _) _ _ _ _); k_dflt ((apply PE.glob); (case F => k_asm); (case X => k_asm); (case T => k_asm); (case hg => k_is); (case hk => rfl); (case hx => rfl); (case hd => decide))))
  k_with "my_pa" => (guard_hyp zg4 : True); (first
  | (with_reducible apply PA.nil)
  | ((with_reducible apply PA.cons); (case he => k_extra "my_pe"); (case hs => k_extra "my_pa"); (case hq => rfl)))
  k_with "eval Call" => (guard_hyp zg4 : True); (k_here; k_dflt ((refine' call_pe ?zcF ?zcX ?zcT ?zcg ?zcp ?zca ?_ ?zck ?zcx ?zcd ?zce ?zcs ?zcl); (case zcF => k_asm); (case zcX => k_asm); (case zcT => k_asm); (case zcg => k_is); (case zcp => k_is); (case zca => k_extra "my_pa"); (case zck => rfl); (case zcx => rfl); (case zcd => decide); (case zce => rfl); (case zcs => rfl); (case zcl => rfl)); (try dsimp only))
  k_with "eval BinOp" => (guard_hyp zg4 : True); (k_here; (with_reducible refine' PE.run ?zpeh ?_); (k_dflt (case zpeh => k_extra "my_pe")); (try dsimp only))
  k_with "eval Subscript" => (guard_hyp zg4 : True); (k_here; (with_reducible refine' PE.run ?zpeh ?_); (k_dflt (case zpeh => k_extra "my_pe")); (try dsimp only))
  k_with "eval Attribute Name" => (guard_hyp zg4 : True); (k_here; (with_reducible refine' PE.run ?zpeh ?_); (k_dflt (case zpeh => k_extra "my_pe")); (try dsimp only))
  k_with "eval UnaryOp" => (guard_hyp zg4 : True); (k_here; (with_reducible refine' PE.run ?zpeh ?_); (k_dflt (case zpeh => k_extra "my_pe")); (try dsimp only))
  k_with "spliced" => (guard_hyp zg4 : True); (k_here; (with_reducible refine' PA.run ?zpah ?_); (k_dflt (case zpah => k_extra "my_pa")); (try dsimp only))
  trivial
theorem words5 : True := by
  k_with "my_use" => (guard_hyp zg5 : True); (k_extra "my_side"; intro v' n' h' tk' F' N' O'; obtain ⟨D', t1', t2', c', y', e1', ey', e2', lD', bD'⟩ := O'; subst e1'; subst e2'; (try k_lt lD'); (try k_sweep); (try dsimp only))
  k_with "call ref" => (guard_hyp zg5 : True); (k_here; k_dflt ((with_reducible show wpAny _ _ (call (Value.ref 94) [Value.int _ _, Value.int _ _]) _ _ _); (k_dflt (refine' Fn.use (fraction_spec _ _ _ _ _ _ ?h0 ?ht ?hb ?hn) ?B ?F ?X ?N ?T ?hk ?hd ?hu ?_)); (case N => k_asm); (case ht => k_extra "my_bits"); (case hb => k_extra "my_bits"); (case hn => omega); (case h0 => assumption); k_extra "my_use"))
  trivial
theorem words6 : True := by
  k_with "call ref" => (guard_hyp zg6 : True); (k_here; k_dflt ((with_reducible show wpAny _ _ (call (Value.ref 86) [Value.int _ _, Value.int _ _]) _ _ _); (k_dflt (refine' Fn.use (cd_spec _ _ _ _ _ _ ?h0 ?hn) ?B ?F ?X ?N ?T ?hk ?hd ?hu ?_)); (case N => k_asm); (case hn => k_extra "my_bits"); (case h0 => omega); (k_extra "my_side"); intro v' n' h' tk' F' N' O'; obtain ⟨e1', g', t', e2', eg', pg', bg'⟩ := O'; replace e1' := e1'.symm; subst e1'; subst e2'; (try k_sweep); (try dsimp only)))
  trivial
theorem words7 : True := by
  k_with "my_use" => (guard_hyp zg7 : True); (k_extra "my_side"; intro v' n' h' tk' F' N' O'; obtain ⟨D', t1', t2', c', y', e1', ey', e2', lD', bD'⟩ := O'; subst e1'; subst e2'; (try k_lt lD'); (try k_sweep); (try dsimp only))
  trivial
theorem words8 : True := by
  k_with "my_at" => (guard_hyp zg8 : True); (first
  | with_reducible assumption
  | (refine' At.sub ?ats ?atk; (case ats => with_reducible assumption); (case atk => k_extra "my_sub"))
  | exact at_zero _
  | exact at_one _
  | exact at_half _
  | (refine' At.here ?atm ?atb; (case atm => k_extra "my_mem"); (case atb => with_reducible assumption))
  | (refine' At.int ?atm ?atb; (case atm => k_extra "my_mem"); (case atb => k_extra "my_bits")))
  trivial
theorem words9 : True := by
  k_with "call ref" => (guard_hyp zg9 : True); (k_here; k_dflt ((with_reducible show wpAny _ _ (call (Value.ref 143) [Value.ref _, Value.ref _]) _ _ _); (k_dflt (refine' Fn.use (compare_spec _ _ _ _ _ _ _ ?hx ?hy ?hn) ?B ?F ?X ?N ?T ?hk ?hd ?hu ?_)); (case N => k_asm); (case hx => k_extra "my_at"); (case hy => k_extra "my_at"); (case hn => first | decide | omega); (k_extra "my_side"; k_extra "my_int")))
  trivial
theorem words10 : True := by
  k_with "call ref" => (guard_hyp zg10 : True); (k_here; k_dflt ((with_reducible show wpAny _ _ (call (Value.ref 408) [Value.int _ _, Value.int _ _]) _ _ _); (k_dflt (refine' Fn.use (lpart_spec _ _ _ _ _ _ ?h0 ?ht ?hb ?hn) ?B ?F ?X ?N ?T ?hk ?hd ?hu ?_)); (case N => k_asm); (case ht => k_extra "my_bits"); (case hb => k_extra "my_bits"); (case hn => first | decide | omega); (case h0 => first | assumption | omega); k_extra "my_use"))
  trivial
theorem words11 : True := by
  k_with "call ref" => (guard_hyp zg11 : True); (k_here; k_dflt ((first
  | ((with_reducible show wpAny _ _ (call (Value.ref 415) [Value.ref _, Value.ref _]) _ _ _); (k_dflt (refine' Fn.use (lsum_spec _ _ _ _ _ _ _ ?hx ?hy ?hn) ?B ?F ?X ?N ?T ?hk ?hd ?hu ?_)))
  | ((with_reducible show wpAny _ _ (call (Value.ref 422) [Value.ref _, Value.ref _]) _ _ _); (k_dflt (refine' Fn.use (lprod_spec _ _ _ _ _ _ _ ?hx ?hy ?hn) ?B ?F ?X ?N ?T ?hk ?hd ?hu ?_)))); (case N => k_asm); (case hx => k_extra "my_at"); (case hy => k_extra "my_at"); (case hn => first | decide | omega); k_extra "my_use"))
  trivial
theorem words12 : True := by
  k_with "call ref" => (guard_hyp zg12 : True); (k_here; k_dflt ((with_reducible show wpAny _ _ (call (Value.ref 136) [Value.ref _]) _ _ _); (k_dflt (refine' Fn.use (sign_spec _ _ _ _ ?hx) ?B ?F ?X ?N ?T ?hk ?hd ?hu ?_)); (case N => k_asm); (case hx => k_extra "my_at"); (k_extra "my_side");  k_extra "my_int"))
  trivial
theorem words13 : True := by
  k_with "my_and" => (guard_hyp zg13 : True); (first
  | with_reducible assumption
  | exact And.left (by with_reducible assumption)
  | exact And.left (And.right (by with_reducible assumption))
  | exact And.left (And.right (And.right (by with_reducible assumption)))
  | exact And.left (And.right (And.right (And.right (by with_reducible assumption))))
  | exact And.left (And.right (And.right (And.right (And.right (by with_reducible assumption)))))
  | exact And.left (And.right (And.right (And.right (And.right (And.right (by with_reducible assumption))))))
  | exact And.left (And.right (And.right (And.right (And.right (And.right (And.right (by with_reducible assumption)))))))
  | exact And.left (And.right (And.right (And.right (And.right (And.right (And.right (And.right (by with_reducible assumption))))))))
  | exact And.left (And.right (And.right (And.right (And.right (And.right (And.right (And.right (And.right (by with_reducible assumption)))))))))
  | exact And.left (And.right (And.right (And.right (And.right (And.right (And.right (And.right (And.right (And.right (by with_reducible assumption))))))))))
  | exact And.left (And.right (And.right (And.right (And.right (And.right (And.right (And.right (And.right (And.right (And.right (by with_reducible assumption)))))))))))
  | exact And.left (And.right (And.right (And.right (And.right (And.right (And.right (And.right (And.right (And.right (And.right (And.right (by with_reducible assumption))))))))))))
  | exact And.left (And.right (And.right (And.right (And.right (And.right (And.right (And.right (And.right (And.right (And.right (And.right (And.right (by with_reducible assumption)))))))))))))
  | exact And.left (And.right (And.right (And.right (And.right (And.right (And.right (And.right (And.right (And.right (And.right (And.right (And.right (And.right (by with_reducible assumption))))))))))))))
  | exact And.left (And.right (And.right (And.right (And.right (And.right (And.right (And.right (And.right (And.right (And.right (And.right (And.right (And.right (And.right (by with_reducible assumption)))))))))))))))
  | exact And.left (And.right (And.right (And.right (And.right (And.right (And.right (And.right (And.right (And.right (And.right (And.right (And.right (And.right (And.right (And.right (by with_reducible assumption)))))))))))))))))
  k_with "my_andr" => (guard_hyp zg13 : True); (first
  | with_reducible assumption
  | exact (And.right (by with_reducible assumption))
  | exact (And.right (And.right (by with_reducible assumption)))
  | exact (And.right (And.right (And.right (by with_reducible assumption))))
  | exact (And.right (And.right (And.right (And.right (by with_reducible assumption)))))
  | exact (And.right (And.right (And.right (And.right (And.right (by with_reducible assumption))))))
  | exact (And.right (And.right (And.right (And.right (And.right (And.right (by with_reducible assumption)))))))
  | exact (And.right (And.right (And.right (And.right (And.right (And.right (And.right (by with_reducible assumption))))))))
  | exact (And.right (And.right (And.right (And.right (And.right (And.right (And.right (And.right (by with_reducible assumption)))))))))
  | exact (And.right (And.right (And.right (And.right (And.right (And.right (And.right (And.right (And.right (by with_reducible assumption))))))))))
  | exact (And.right (And.right (And.right (And.right (And.right (And.right (And.right (And.right (And.right (And.right (by with_reducible assumption)))))))))))
  | exact (And.right (And.right (And.right (And.right (And.right (And.right (And.right (And.right (And.right (And.right (And.right (by with_reducible assumption))))))))))))
  | exact (And.right (And.right (And.right (And.right (And.right (And.right (And.right (And.right (And.right (And.right (And.right (And.right (by with_reducible assumption)))))))))))))
  | exact (And.right (And.right (And.right (And.right (And.right (And.right (And.right (And.right (And.right (And.right (And.right (And.right (And.right (by with_reducible assumption))))))))))))))
  | exact (And.right (And.right (And.right (And.right (And.right (And.right (And.right (And.right (And.right (And.right (And.right (And.right (And.right (And.right (by with_reducible assumption)))))))))))))))
  | exact (And.right (And.right (And.right (And.right (And.right (And.right (And.right (And.right (And.right (And.right (And.right (And.right (And.right (And.right (And.right (by with_reducible assumption))))))))))))))))
  | exact (And.right (And.right (And.right (And.right (And.right (And.right (And.right (And.right (And.right (And.right (And.right (And.right (And.right (And.right (And.right (And.right (by with_reducible assumption)))))))))))))))))
  | exact (And.right (And.right (And.right (And.right (And.right (And.right (And.right (And.right (And.right (And.right (And.right (And.right (And.right (And.right (And.right (And.right (And.right (by with_reducible assumption)))))))))))))))))))
  k_with "my_lt" => (guard_hyp zg13 : True); ((try dsimp only); first
  | with_reducible assumption
  | exact ktn_ltOf (by k_extra "my_andr")
  | ktn_no "my_lt")
  trivial
theorem words14 : True := by
  k_with "my_at" => (guard_hyp zg14 : True); (first
  | with_reducible assumption
  | (refine' At.sub ?ats ?atk; (case ats => with_reducible assumption); (case atk => k_extra "my_sub"))
  | exact at_zero _
  | exact at_one _
  | exact at_half _
  | (refine' At.here ?atm ?atb; (case atm => k_extra "my_mem"); (case atb => with_reducible assumption))
  | (refine' At.half ?atm; (case atm => k_extra "my_mem"))
  | (refine' At.int ?atm ?atb; (case atm => k_extra "my_mem"); (case atb => exact Bi.of (n := 1) (by decide)))
  | (refine' At.inv ?atm ?atb ?atp; (case atm => k_extra "my_mem"); (case atb => with_reducible assumption); (case atp => with_reducible assumption)))
  trivial
theorem words15 : True := by
  k_with "subscriptTail Name Constant ref int" => (guard_hyp zg15 : True); (k_here; (with_reducible show wpAny _ _ (subscriptTail _ _ (Value.ref _) (Value.int 0 _)) _ _ _); k_dflt (refine' tup_i0 ?tiN ?tim ?tii ?tij ?_; (case tiN => k_asm); (case tim => k_extra "my_mem"); (case tii => exact rfl); (case tij => exact rfl); k_whole); (try dsimp only))
  k_with "subscriptTail Name Constant ref int" => (guard_hyp zg15 : True); (k_here; (with_reducible show wpAny _ _ (subscriptTail _ _ (Value.ref _) (Value.int 1 _)) _ _ _); k_dflt (refine' tup_i1 ?tiN ?tim ?tii ?tij ?_; (case tiN => k_asm); (case tim => k_extra "my_mem"); (case tii => exact rfl); (case tij => exact rfl); k_whole); (try dsimp only))
  k_with "subscriptTail Name Constant ref int" => (guard_hyp zg15 : True); (k_here; (with_reducible show wpAny _ _ (subscriptTail _ _ (Value.ref _) (Value.int 2 _)) _ _ _); k_dflt (refine' tup_i2 ?tiN ?tim ?tii ?tij ?_; (case tiN => k_asm); (case tim => k_extra "my_mem"); (case tii => exact rfl); (case tij => exact rfl); k_whole); (try dsimp only))
  k_with "subscriptTail Name Constant ref int" => (guard_hyp zg15 : True); (k_here; (with_reducible show wpAny _ _ (subscriptTail _ _ (Value.ref _) (Value.int 3 _)) _ _ _); k_dflt (refine' tup_i3 ?tiN ?tim ?tii ?tij ?_; (case tiN => k_asm); (case tim => k_extra "my_mem"); (case tii => exact rfl); (case tij => exact rfl); k_whole); (try dsimp only))
  trivial
theorem words16 : True := by
  k_with "call ref" => (guard_hyp zg16 : True); (k_here; k_dflt ((with_reducible show wpAny _ _ (call (Value.ref 415) [Value.ref _, Value.ref _]) _ _ _); (k_dflt (refine' Fn.useFr news (lsum_spec _ _ _ _ _ _ _ ?hx ?hy ?hn) ?hsb ?B ?F ?X ?N ?T ?hk ?hd ?hu ?_)); (case N => k_asm); (case hx => k_extra "my_at"); (case hy => k_extra "my_at"); (case hn => first | decide | omega); (case hsb => k_extra "my_sub"); k_extra "my_side"; intro D' t1' t2' c' y' h' tk' ey' F' N' lD' bD'; (try k_sweep); (try dsimp only)))
  k_with "call ref" => (guard_hyp zg16 : True); (k_here; k_dflt ((with_reducible show wpAny _ _ (call (Value.ref 422) [Value.ref _, Value.ref _]) _ _ _); (k_dflt (refine' Fn.useFr news (lprod_spec _ _ _ _ _ _ _ ?hx ?hy ?hn) ?hsb ?B ?F ?X ?N ?T ?hk ?hd ?hu ?_)); (case N => k_asm); (case hx => k_extra "my_at"); (case hy => k_extra "my_at"); (case hn => first | decide | omega); (case hsb => k_extra "my_sub"); k_extra "my_side"; intro D' t1' t2' c' y' h' tk' ey' F' N' lD' bD'; (try k_sweep); (try dsimp only)))
  k_with "call ref" => (guard_hyp zg16 : True); (k_here; k_dflt ((with_reducible show wpAny _ _ (call (Value.ref 429) [Value.ref _, Value.ref _]) _ _ _); (k_dflt (refine' Fn.useFr news (lless_spec _ _ _ _ _ _ _ ?hx ?hy ?hn) ?hsb ?B ?F ?X ?N ?T ?hk ?hd ?hu ?_)); (case N => k_asm); (case hx => k_extra "my_at"); (case hy => k_extra "my_at"); (case hn => first | decide | omega); (case hsb => k_extra "my_sub"); k_extra "my_side"; intro D' t1' t2' c' y' h' tk' ey' F' N' lD' bD'; (try k_sweep); (try dsimp only)))
  trivial
theorem words17 : True := by
  k_with "my_chain" => (guard_hyp zg17 : True); (first
  | with_reducible assumption
  | with_reducible exact sub_refl _
  | (with_reducible refine' sub_trans ?chA ?chB; (case chB => with_reducible assumption); (case chA => k_extra "my_sub")))
  k_with "my_sub" => (guard_hyp zg17 : True); (first | with_reducible exact sub_refl _ | with_reducible exact nil_sub | (with_reducible refine' sub_cons ?_; k_extra "my_sub") | k_extra "my_chain" | (refine' List.forall_mem_cons.mpr ⟨?sbm, ?sbr⟩; (case sbm => k_extra "my_mem"); (case sbr => k_extra "my_sub")))
  k_with "my_front" => (guard_hyp zg17 : True); (first | exact Front.here | (refine' Front.step ?fst; (case fst => k_extra "my_front")))
  k_with "my_src" => (guard_hyp zg17 : True); (refine' News.front ?nf ?ff; (case nf => k_asm); (case ff => k_extra "my_front"))
  k_with "my_ne" => (guard_hyp zg17 : True); (first | with_reducible assumption | exact ne_all_lt (by k_extra "my_lt") | (refine' List.forall_mem_cons.mpr ⟨?nea, ?neb⟩; (case nea => first | (refine neN ?_; (try dsimp only); first | exact Nat.ne_of_gt (by k_extra "my_lx") | exact Nat.ne_of_lt (by k_extra "my_lx") | omega) | skip); (case neb => k_extra "my_ne")))
  k_with "call ref" => (guard_hyp zg17 : True); (k_here; k_dflt ((with_reducible show wpAny _ _ (call (Value.ref 436) [Value.ref _, Value.bool _]) _ _ _); (k_dflt (refine' Fn.useNum (number_spec _ _ _ _ _ _ _ ?hne ?hb) ?hne2 ?B ?F ?X ?N ?T ?hk ?hd ?hu ?_)); (case N => k_extra "my_src"); (case hne => k_extra "my_ne"); (case hne2 => k_extra "my_ne"); (case hb => with_reducible assumption); k_extra "my_side"; intro D' tx' y' rest' a' b' t' u' h' tk' F' N' hb' hne' hsb' nm' ps'; (try k_sweep); (try dsimp only)))
  k_with "my_nm" => (guard_hyp zg17 : True); (first
  | ((with_reducible show wpAny _ _ (subscriptTail _ _ (Value.ref _) (Value.int 0 _)) _ _ _); refine' nm_i0 ?nmI ?nmN ?nmS ?_; (case nmI => with_reducible assumption); (case nmN => k_asm); (case nmS => k_extra "my_sub"); k_whole; intro df' hat'; (try k_sweep); (try dsimp only))
  | ((with_reducible show wpAny _ _ (subscriptTail _ _ (Value.ref _) (Value.int 1 _)) _ _ _); refine' nm_i1 ?nmI ?nmN ?nmS ?_; (case nmI => with_reducible assumption); (case nmN => k_asm); (case nmS => k_extra "my_sub"); k_whole; intro tt'; (try k_sweep); (try dsimp only)))
  k_with "subscriptTail Name Constant ref int" => (guard_hyp zg17 : True); (k_here; k_extra "my_nm")
  k_with "subscriptTail Call Constant ref int" => (guard_hyp zg17 : True); (k_here; k_extra "my_nm")
  k_with "CompEnd" => (guard_hyp zg17 : True); ((rename News _ _ _ _ => nE); (with_unfolding_all refine LCg.CompEnd.intro (by with_reducible assumption) nE _ (fun _ h => h) (by assumption) (by lcg_src) ?_); (try dsimp only))
  k_with "my_memC" => (guard_hyp zg17 : True); (refine' memC ?zzmm ?zzmc; (case zzmm => with_reducible assumption); (case zzmc => k_extra "my_sub"))
  trivial
theorem words18 : True := by
  k_with "call ref" => (guard_hyp zg18 : True); (k_here; k_dflt ((with_reducible show wpAny _ _ (call (Value.ref 401) [Value.ref _, Value.ref _]) _ _ _); (k_dflt (refine' Fn.useOne (one_spec _ _ _ _ _ _ _ _ _ ?hne ?hb ?hm ?hv) ?B ?F ?X ?N ?T ?hk ?hd ?hu ?_)); (case N => k_extra "my_src"); (case hm => k_extra "my_mem"); (case hne => k_extra "my_ne"); (case hb => with_reducible assumption); (case hv => exact ⟨Nat.le_of_ble_eq_true rfl, Nat.le_of_ble_eq_true rfl⟩); k_extra "my_side"; intro v' a' b' t' u' h' tk' F' N' hb' hv'; (first | (obtain ⟨s', ts', e3', hs'⟩ := str_of2 hv') | (obtain ⟨s', ts', e3', hs'⟩ := str_of3 hv') | (obtain ⟨s', ts', e3', hs'⟩ := str_of4 hv') | (obtain ⟨s', ts', e3', hs'⟩ := int_of3 hv') | (obtain ⟨s', ts', e3', hs'⟩ := int_of6 hv')); subst e3'; clear hv'; (try k_sweep); (try dsimp only)))
  k_with "call ref" => (guard_hyp zg18 : True); (k_here; k_dflt ((with_reducible show wpAny _ _ (call (Value.ref 394) [Value.ref _, Value.int _ _]) _ _ _); (k_dflt (refine' Fn.useTake (take_spec _ _ _ _ _ _ _ _ ?hne ?hb ?ht) ?B ?F ?X ?N ?T ?hk ?hd ?hu ?_)); (case N => k_extra "my_src"); (case hne => k_extra "my_ne"); (case hb => with_reducible assumption); (case ht => first | decide | omega); k_extra "my_side"; intro r' tr' a' b' t' u' h' tk' F' N' hb' pr'; (try k_sweep); (try dsimp only)))
  k_with "my_box" => (guard_hyp zg18 : True); (first
  | with_reducible assumption
  | (refine' BoxAt.sub ?bxs ?bxk; (case bxs => with_reducible assumption); (case bxk => k_extra "my_sub")))
  k_with "call ref" => (guard_hyp zg18 : True); (k_here; k_dflt ((with_reducible show wpAny _ _ (call (Value.ref 408) [Value.int _ _, Value.int _ _]) _ _ _); (k_dflt (refine' Fn.useS (fr_S (w := w)) (lpart_spec _ _ _ _ 8 _ ?h0 ?ht ?hb ?hn) ?hne ?B ?F ?X ?N ?T ?hk ?hd ?hu ?_)); (case N => k_extra "my_src"); (case hne => k_extra "my_ne"); (case ht => exact Bi.of (by omega)); (case hb => exact Bi.of (by omega)); (case hn => decide); (case h0 => omega); k_extra "my_side"; intro D' rest' h' tk' F' N' hne' hsb' hat'; (try k_sweep); (try dsimp only)))
  trivial
local macro_rules | `(tactic| k_all) => `(tactic| walk_at "my_ne")
theorem words19 : True := by
  k_with "my_side" => (guard_hyp zg19 : True); (
  (case B => k_asm); (case F => k_asm); (case X => k_asm); (case T => k_asm); (case hk => first | rfl | assumption); (case hd => omega); (case hu => omega))
  trivial
theorem words20 : True := by
  k_with "my_at" => (guard_hyp zg20 : True); (first
  | with_reducible assumption
  | (refine' At.sub ?ats ?atk; (case ats => with_reducible assumption); (case atk => k_extra "my_sub"))
  | exact at_zero _
  | exact at_one _
  | exact at_half _
  | (refine' At.here ?zzatm ?atb; (case zzatm => k_extra "my_mem"); (case atb => with_reducible assumption)))
  k_with "my_bx" => (guard_hyp zg20 : True); (first
  | ((with_reducible show wpAny _ _ (subscriptTail _ _ (Value.ref _) (Value.int 0 _)) _ _ _); refine' bx_i0 ?bxI ?bxN ?bxS ?_; (case bxI => with_reducible assumption); (case bxN => k_asm); (case bxS => k_extra "my_sub"); k_whole; intro a' hat'; (try dsimp only))
  | ((with_reducible show wpAny _ _ (subscriptTail _ _ (Value.ref _) (Value.int 1 _)) _ _ _); refine' bx_i1 ?bxI ?bxN ?bxS ?_; (case bxI => with_reducible assumption); (case bxN => k_asm); (case bxS => k_extra "my_sub"); k_whole; intro a' hat'; (try dsimp only))
  | ((with_reducible show wpAny _ _ (subscriptTail _ _ (Value.ref _) (Value.int 2 _)) _ _ _); refine' bx_i2 ?bxI ?bxN ?bxS ?_; (case bxI => with_reducible assumption); (case bxN => k_asm); (case bxS => k_extra "my_sub"); k_whole; intro a' hat'; (try dsimp only))
  | ((with_reducible show wpAny _ _ (subscriptTail _ _ (Value.ref _) (Value.int 3 _)) _ _ _); refine' bx_i3 ?bxI ?bxN ?bxS ?_; (case bxI => with_reducible assumption); (case bxN => k_asm); (case bxS => k_extra "my_sub"); k_whole; intro a' hat'; (try dsimp only))
  | ((with_reducible show wpAny _ _ (subscriptTail _ _ (Value.ref _) (Value.int 0 _)) _ _ _); refine' pt_i0 ?bxI ?bxN ?bxS ?_; (case bxI => with_reducible assumption); (case bxN => k_asm); (case bxS => k_extra "my_sub"); k_whole; intro a' hat'; (try dsimp only))
  | ((with_reducible show wpAny _ _ (subscriptTail _ _ (Value.ref _) (Value.int 1 _)) _ _ _); refine' pt_i1 ?bxI ?bxN ?bxS ?_; (case bxI => with_reducible assumption); (case bxN => k_asm); (case bxS => k_extra "my_sub"); k_whole; intro a' hat'; (try dsimp only)))
  k_with "subscriptTail Name Constant ref int" => (guard_hyp zg20 : True); (k_here; first | k_extra "my_nm" | k_extra "my_bx")
  k_with "call ref" => (guard_hyp zg20 : True); (k_here; k_dflt ((with_reducible show wpAny _ _ (call (Value.ref 415) [Value.ref _, Value.ref _]) _ _ _); (k_dflt (refine' Fn.useS (fr_S (w := w)) (lsum_spec _ _ _ _ _ _ _ ?hx ?hy ?hn) ?hne ?B ?F ?X ?N ?T ?hk ?hd ?hu ?_)); (case N => k_extra "my_src"); (case hne => k_extra "my_ne"); (case hx => k_extra "my_at"); (case hy => k_extra "my_at"); (case hn => decide); k_extra "my_side"; intro D' rest' h' tk' F' N' hne' hsb' hat'; (try k_sweep); (try dsimp only)))
  k_with "binaryOp Add str str" => (guard_hyp zg20 : True); (k_here; (first | (k_extra "my_addb"; intro _ _ hln') | (refine KOpn.add (by omega) ?_; intro _ _ hln')); (try dsimp only))
  k_with "my_atu" => (guard_hyp zg20 : True); (refine' At.up ?zzatu1 ?zzatu2; (case zzatu1 => first | k_extra "my_at" | (refine' At.sev ?zzatm; (case zzatm => k_extra "my_mem"))); (case zzatu2 => first | decide | omega))
  k_with "my_memS" => (guard_hyp zg20 : True); (first | with_reducible exact mem_head _ _ | (with_reducible refine' mem_tail ?_; k_extra "my_memS") | (refine' hsb' _ ?_; k_extra "my_mem"))
  k_with "my_pt5" => (guard_hyp zg20 : True); (first
  | (refine' PtAt.sub ?zzps ?zzpk; (case zzps => with_reducible assumption); (case zzpk => k_extra "my_sub"))
  | (refine' PtAt.of ?zzpm ?zzpx ?zzpy; (case zzpm => k_extra "my_memS"); (case zzpx => k_extra "my_atu"); (case zzpy => k_extra "my_atu")))
  trivial
theorem words21 : True := by
  k_with "my_mx" => (guard_hyp zg21 : True); (first
  | with_reducible assumption
  | (refine' MxAt.sub ?zzmxs ?zzmxk; (case zzmxs => with_reducible assumption); (case zzmxk => k_extra "my_sub")))
  k_with "my_sc" => (guard_hyp zg21 : True); (first
  | with_reducible assumption
  | (refine' ScAt.sub ?zzscs ?zzsck; (case zzscs => with_reducible assumption); (case zzsck => k_extra "my_sub")))
  k_with "my_ptat" => (guard_hyp zg21 : True); (first
  | with_reducible assumption
  | (refine' PtAt.sub ?zzpts ?zzptk; (case zzpts => with_reducible assumption); (case zzptk => k_extra "my_sub"))
  | (refine' PtAt.of ?zzq1 ?zzq2 ?zzq3; (case zzq1 => k_extra "my_mem"); (case zzq2 => refine' At.here ?zzq4 ?zzq5; (case zzq4 => k_extra "my_mem"); (case zzq5 => with_reducible assumption)); (case zzq3 => refine' At.here ?zzq4 ?zzq5; (case zzq4 => k_extra "my_mem"); (case zzq5 => with_reducible assumption))))
  k_with "call ref" => (guard_hyp zg21 : True); (k_here; k_dflt ((with_reducible show wpAny _ _ (call (Value.ref 308) [Value.ref _, Value.ref _]) _ _ _); (k_dflt (refine' Fn.usePt big' (point_spec _ _ _ _ _ _ _ _ _ _ _ _ _ ?hM ?hp ?hn) ?hsb ?B ?F ?X ?N ?T ?hk ?hd ?hu ?_)); (case N => k_asm); (case hM => k_extra "my_mx"); (case hp => k_extra "my_ptat"); (case hn => first | decide | omega); (case hsb => k_extra "my_sub"); k_extra "my_side"; intro D' a' b' c' s1' s2' c1' s3' s4' c2' x' y' h' tk' ex' ey' F' N' lA' lB' lD' bx' by'; (try k_sweep); (try dsimp only)))
  k_with "call ref" => (guard_hyp zg21 : True); (k_here; k_dflt ((with_reducible show wpAny _ _ (call (Value.ref 450) [Value.ref _, Value.ref _, Value.ref _]) _ _ _); (k_dflt (refine' Fn.usePt big' (led_spec _ _ _ _ _ _ _ _ _ _ _ _ _ _ _ ?hM ?hS ?hp ?hn) ?hsb ?B ?F ?X ?N ?T ?hk ?hd ?hu ?_)); (case N => k_asm); (case hM => k_extra "my_box"); (case hS => k_extra "my_sc"); (case hp => k_extra "my_ptat"); (case hn => first | decide | omega); (case hsb => k_extra "my_sub"); k_extra "my_side"; intro D' a' b' c' s1' s2' c1' s3' s4' c2' x' y' h' tk' ex' ey' F' N' lA' lB' lD' bx' by'; (try k_sweep); (try dsimp only)))
  k_with "call ref" => (guard_hyp zg21 : True); (k_here; k_dflt ((k_dflt (show wpAny _ _ (call (Value.ref 329) [Value.ref _]) _ _ _)); (k_dflt (refine' Fn.useInv (inverse_spec _ _ _ _ _ _ _ _ _ ?hM ?h0 ?hn) ?B ?F ?X ?N ?T ?hk ?hd ?hu ?_)); (case N => k_asm); (case hM => k_extra "my_mx"); (case h0 => exact det_ne hsx hsy); (case hn => decide); k_extra "my_side"; intro D' big2' h' tk' F' N' hbg' hMv'; obtain ⟨dV', tv1, tv2, tv3, tv4, tv5, tv6, rv1, rv2, rv3, rv4, rv5, rv6, hv1', hv2', hMv2'⟩ := hMv'; (have hm1' : (mx, instObj 332 dM) ∈ big2' := hbg' _ (by k_extra "my_mem")); (have hm2' : (dM, mxd w tm1 tm2 tm3 tm4 tm5 tm6 rm1 rm2 rm3 rm4 rm5 rm6) ∈ big2' := hbg' _ (by k_extra "my_mem")); (try k_sweep); (try dsimp only)))
  k_with "compareOp NotEq ref ref" => (guard_hyp zg21 : True); (k_here; refine' pts_ne ?zzI ?zzJ ?zzF ?zzN ?zzX ?zzex ?zzey ?zzhu ?_; (case zzN => k_asm); (case zzI => k_extra "my_ptat"); (case zzJ => k_extra "my_ptat"); (case zzF => k_asm); (case zzX => k_asm); (case zzhu => first | ke_room | (dsimp (config := {zetaDelta := true}) only [ktrTop, Around.deeper]; omega)); (case zzex => (subst_vars; first | exact led_x _ _ _ _ _ | exact back_x hsx hsy)); (case zzey => (subst_vars; first | exact led_y _ _ _ _ _ | exact back_y hsx hsy)); k_whole; (try dsimp only))
  k_with "call ref" => (guard_hyp zg21 : True); (k_here; k_dflt ((with_reducible show wpAny _ _ (call (Value.ref 380) [Value.ref _, Value.ref _, Value.ref _]) _ _ _); (k_dflt (refine' Fn.useS mv_S (moved_spec _ _ _ _ _ _ _ _ _ 10 10 _ ?zzhB ?zzhx ?zzhy (by decide)) ?hne ?B ?F ?X ?N ?T ?hk ?hd ?hu ?_)); (case N => k_extra "my_src"); (case hne => k_extra "my_ne"); (case zzhB => k_extra "my_box"); (case zzhx => k_extra "my_atu"); (case zzhy => k_extra "my_atu"); k_extra "my_side"; intro D' rest' h' tk' F' N' hne' hsb' hMvB'; (try k_sweep); (try dsimp only)))
  k_with "compareOp Eq ref ref" => (guard_hyp zg21 : True); (k_here; refine' bxs_eq ?zzI ?zzJ ?zzF ?zzN ?zzX rfl rfl rfl rfl ?zzhu ?_; (case zzN => k_asm); (case zzI => k_extra "my_box"); (case zzJ => (refine' BoxAt.of (n := 21) ?zzq0 ?zzq1 ?zzq2 ?zzq3 ?zzq4; (case zzq0 => k_extra "my_mem"); (case zzq1 => k_extra "my_atu"); (case zzq2 => k_extra "my_atu"); (case zzq3 => k_extra "my_atu"); (case zzq4 => k_extra "my_atu"))); (case zzF => k_asm); (case zzX => k_asm); (case zzhu => first | ke_room | (dsimp (config := {zetaDelta := true}) only [ktrTop, Around.deeper]; omega)); k_whole; (try dsimp only))
  trivial
theorem words22 : True := by
  k_with "my_entertry" => (guard_hyp zg22 : True); (k_dflt (refine' code_try ?k1 ?k2 ?k3 ?k4 ?k5 ?kA ?kF ?kK ?k6 ?k7 ?k8 ?k9 ?kB ?_ ?c2 ?c3 ?c4 ?c5; (case kA => exact rfl); (case kF => exact rfl); (case kK => first | assumption | rfl); (case k1 => k_asm); (case k2 => k_asm); (case k3 => k_asm); (case k4 => k_asm); (case k5 => k_asm); (case k6 => k_is); (case k7 => k_is); (case k8 => first | exact room_e hd | ((try simp only [depth_under_make, depth_under_kw, depth_in1, depth_deeper]); (try dsimp only [ktrTop, Around.deeper]); omega)); (case k9 => first | exact BindsTo.of_eq rfl | exact binds_K (by k_in) rfl (by k_is) rfl rfl rfl); (case c5 => decide); (case kB => exact locs rfl); (case c2 => exact rfl); (case c3 => exact rfl); (case c4 => exact rfl); k_whole; intro g' L' h' FG' F' N' B' X' T' D'; (try dsimp only); (try (conv in (execs _ _) => (arg 1; whnf))); (try k_fold)))
  k_with "eval Dict" => (guard_hyp zg22 : True); (k_here; k_dflt ((refine' kdn_eval (knd := PySem.intKind _ w) ?F ?N ?b ?a ?l ?e ?n ?_; (case F => k_asm); (case N => k_asm); (case b => exact Top.nolimit (by k_asm)); (case a => rfl); (case l => rfl); (case e => exact List.cons_ne_nil _ _); (case n => exact Nat.le_of_ble_eq_true rfl); intro d' h' o' F' N' l1 lo' hd'; (try k_lt l1))))
  k_with "newTuple" => (guard_hyp zg22 : True); (k_here; k_dflt (refine' kup_newTuple ?zzF ?zzN ?_ ?zzz; (case zzF => k_asm); (case zzN => k_asm); (case zzz => kmk_size)); intro D' h' F' N' l1; (try k_lt l1); (try k_sweep))
  k_with "my_at" => (guard_hyp zg22 : True); (first
  | with_reducible assumption
  | (refine' At.sub ?ats ?atk; (case ats => with_reducible assumption); (case atk => k_extra "my_sub"))
  | (refine' At.here ?zzatm ?zzatb; (case zzatm => k_extra "my_mem"); (case zzatb => with_reducible assumption))
  | (refine' At.int (n := 8) ?zzatm ?zzatb; (case zzatm => k_extra "my_mem"); (case zzatb => exact Bi.of (by omega)))
  | (refine' At.int9 ?zzatm ?zzatb; (case zzatm => k_extra "my_mem"); (case zzatb => exact Bi.of (by omega))))
  k_with "call ref" => (guard_hyp zg22 : True); (k_here; k_dflt ((with_reducible show wpAny _ _ (call (Value.ref 422) [Value.ref _, Value.ref _]) _ _ _); (k_dflt (refine' Fn.useS (fr_S (w := w)) (lprod_spec _ _ _ _ _ _ _ ?hx ?hy ?hn) ?hne ?B ?F ?X ?N ?T ?hk ?hd ?hu ?_)); (case N => k_extra "my_src"); (case hne => k_extra "my_ne"); (case hx => k_extra "my_at"); (case hy => k_extra "my_at"); (case hn => decide); k_extra "my_side"; intro D' rest' h' tk' F' N' hne' hsb' hat'; (try k_sweep); (try dsimp only)))
  trivial
theorem words23 : True := by
  k_with "my_ne" => (guard_hyp zg23 : True); (first | with_reducible assumption | exact ne_all_lt (by k_extra "my_lt") | (refine' List.forall_mem_cons.mpr ⟨?nea, ?neb⟩; (case nea => first | (refine neN ?_; (try dsimp only); first | exact Nat.ne_of_gt (by k_extra "my_lx") | exact Nat.ne_of_lt (by k_extra "my_lx") | omega) | skip); (case neb => k_extra "my_ne")))
  trivial
theorem words24 : True := by
  k_with "subscriptTail Name Constant ref int" => (guard_hyp zg24 : True); (k_here; k_dflt ((first
  | ((with_reducible show wpAny _ _ (subscriptTail _ _ (Value.ref _) (Value.int 0 _)) _ _ _); (refine' src0 ?N ?M ?_))
  | ((with_reducible show wpAny _ _ (subscriptTail _ _ (Value.ref _) (Value.int 1 _)) _ _ _); (refine' src1 ?N ?M ?_))); (case N => k_asm); (case M => exact List.Mem.head _); intro t'; (try dsimp only)))
  trivial
theorem words25 : True := by
  k_with "my_front" => (guard_hyp zg25 : True); (first | exact Front.here | (refine' Front.step ?fst; (case fst => k_extra "my_front")))
  k_with "my_src" => (guard_hyp zg25 : True); (refine' News.front ?nf ?ff; (case nf => k_asm); (case ff => k_extra "my_front"))
  k_with "call ref" => (guard_hyp zg25 : True); (k_here; k_dflt ((with_reducible show wpAny _ _ (call (Value.ref 394) [Value.ref _, Value.int _ _]) _ _ _); (k_dflt (refine' Fn.use (take_spec _ _ _ _ _ _ _ _ ?hne ?hb ?ht) ?B ?F ?X ?N ?T ?hk ?hd ?hu ?_)); (case N => k_extra "my_src"); (case hne => k_extra "my_ne"); (case hb => assumption); (case ht => first | decide | omega); k_extra "my_side"; intro v' n' h' tk' F' N' O'; obtain ⟨r', t', e1', ⟨pr1', pr2'⟩, a', b', t'', u'', e2', hb'⟩ := O'; subst e1'; subst e2'; (try k_sweep); (try dsimp only)))
  trivial
theorem words26 : True := by
  k_with "call ref" => (guard_hyp zg26 : True); (k_here; k_dflt ((with_reducible show wpAny _ _ (call (Value.ref 401) [Value.ref _, Value.ref _]) _ _ _); (k_dflt (refine' Fn.use (one_spec _ _ _ _ _ _ _ _ _ ?hne ?hb ?hm ?hv) ?B ?F ?X ?N ?T ?hk ?hd ?hu ?_)); (case N => k_extra "my_src"); (case hm => k_extra "my_mem"); (case hne => k_extra "my_ne"); (case hb => assumption); (case hv => exact ⟨Nat.le_of_ble_eq_true rfl, Nat.le_of_ble_eq_true rfl⟩); k_extra "my_side"; intro v' n' h' tk' F' N' O'; obtain ⟨hv', a', b', t'', u'', e2', hb'⟩ := O'; subst e2'; (first | (obtain ⟨s', t', e3', hs'⟩ := str_of2 hv') | (obtain ⟨s', t', e3', hs'⟩ := str_of3 hv') | (obtain ⟨s', t', e3', hs'⟩ := str_of4 hv') | (obtain ⟨s', t', e3', hs'⟩ := int_of3 hv') | (obtain ⟨s', t', e3', hs'⟩ := int_of6 hv')); subst e3'; clear hv'; (try first | have hsl' := len2 hs' (by omega) (by omega) | have hsl' := len3 hs' (by omega) (by omega) (by omega)); (try k_sweep); (try dsimp only)))
  trivial
theorem words27 : True := by
  k_with "call type:str" => (guard_hyp zg27 : True); (k_here; first | (refine n_str (by first | with_reducible assumption | omega) (by first | with_reducible assumption | omega) ?_; intro _ _ _ _) | (refine n_str' (by omega) (by omega) ?_; intro _ _ _))
  k_with "call builtin:str.rjust" => (guard_hyp zg27 : True); (k_here; refine n_pad (by first | with_reducible assumption | omega) (by first | with_reducible assumption | omega) (by first | with_reducible assumption | omega) (by first | with_reducible assumption | omega) ?_; intro fs' _ _ hF' hFl' hFh')
  k_with "call builtin:len" => (guard_hyp zg27 : True); (k_here; (with_reducible show wpAny _ _ (call (Value.builtin "len") [Value.str _ _]) _ _ _); refine len_str (by omega) ?_)
  k_with "binaryOp Add str str" => (guard_hyp zg27 : True); (k_here; first | (k_extra "my_addb"; intro _ _ _) | (refine KOpn.add (by omega) ?_; intro _ _ _))
  trivial
theorem words28 : True := by
  k_with "call ref" => (guard_hyp zg28 : True); (k_here; k_dflt ((with_reducible show wpAny _ _ (call (Value.ref 408) [Value.int _ _, Value.int _ _]) _ _ _); (k_dflt (refine' Fn.use (lpart_spec _ _ _ _ 64 _ (ten_pos _) ?ht (ten_bi (by omega) (by omega)) (by decide)) ?B ?F ?X ?N ?T ?hk ?hd ?hu ?_)); (case N => k_asm); (case ht => exact dec_bi (by omega)); k_extra "my_use"))
  trivial
theorem words29 : True := by
  k_with "my_told1" => (guard_hyp zg29 : True); (rename Figs _ _ _ _ => hF; first | ((with_reducible refine told_plain hF ?_ ?_) <;> first | with_reducible assumption | omega) | ((with_reducible refine told_plain0 hF ?_ ?_ ?_) <;> first | with_reducible assumption | omega))
  k_with "my_told" => (guard_hyp zg29 : True); (first | k_extra "my_told1" | (with_reducible refine' told_one ?mt1 ?mt2 ?mt3 ?mt4; (case mt1 => with_reducible assumption); (case mt2 => k_extra "my_told1"); (case mt3 => (with_reducible refine told_exp ?_ ?_ ?_ ?_) <;> omega); (case mt4 => (with_reducible refine told_dot ?_ ?_ ?_ ?_ ?_) <;> omega)))
  trivial
theorem words30 : True := by
  k_with "my_ne" => (guard_hyp zg30 : True); (first | with_reducible assumption | exact ne_all_lt (by k_extra "my_lt") | (refine' List.forall_mem_cons.mpr ⟨?nea, ?neb⟩; (case nea => first | (refine neN ?_; (try dsimp only); first | exact Nat.ne_of_gt (by k_extra "my_lx") | exact Nat.ne_of_lt (by k_extra "my_lx") | omega) | skip); (case neb => k_extra "my_ne")))
  trivial
theorem words31 : True := by
  k_with "my_at" => (guard_hyp zg31 : True); (first
  | with_reducible assumption
  | (refine' At.sub ?ats ?atk; (case ats => with_reducible assumption); (case atk => k_extra "my_sub"))
  | exact at_zero _
  | exact at_one _
  | exact at_half _
  | (refine' At.here ?atm ?atb; (case atm => k_extra "my_mem"); (case atb => with_reducible assumption))
  | (refine' At.int ?atm ?atb; (case atm => k_extra "my_mem"); (case atb => k_extra "my_bits")))
  trivial
theorem words32 : True := by
  k_with "call ref" => (guard_hyp zg32 : True); (k_here; k_dflt ((with_reducible show wpAny _ _ (call (Value.ref 94) [Value.int _ _, Value.int _ _]) _ _ _); (k_dflt (refine' Fn.useFr news (fraction_spec _ _ _ _ _ _ ?h0 ?ht ?hb ?hn) ?hsb ?B ?F ?X ?N ?T ?hk ?hd ?hu ?_)); (case N => k_asm); (case ht => k_extra "my_bits"); (case hb => k_extra "my_bits"); (case hn => first | decide | omega); (case h0 => assumption); (case hsb => k_extra "my_sub"); k_extra "my_side"; intro D' t1' t2' c' y' h' tk' ey' F' N' lD' bD'; (try k_sweep); (try dsimp only)))
  trivial
theorem words33 : True := by
  k_with "call ref" => (guard_hyp zg33 : True); (k_here; k_dflt ((with_reducible show wpAny _ _ (call (Value.ref 101) [Value.ref _, Value.ref _]) _ _ _); (k_dflt (refine' Fn.useFr news (plus_spec _ _ _ _ _ _ _ ?hx ?hy ?hn) ?hsb ?B ?F ?X ?N ?T ?hk ?hd ?hu ?_)); (case N => k_asm); (case hx => k_extra "my_at"); (case hy => k_extra "my_at"); (case hn => first | decide | omega); (case hsb => k_extra "my_sub"); k_extra "my_side"; intro D' t1' t2' c' y' h' tk' ey' F' N' lD' bD'; (try k_sweep); (try dsimp only)))
  k_with "call ref" => (guard_hyp zg33 : True); (k_here; k_dflt ((with_reducible show wpAny _ _ (call (Value.ref 108) [Value.ref _, Value.ref _]) _ _ _); (k_dflt (refine' Fn.useFr news (minus_spec _ _ _ _ _ _ _ ?hx ?hy ?hn) ?hsb ?B ?F ?X ?N ?T ?hk ?hd ?hu ?_)); (case N => k_asm); (case hx => k_extra "my_at"); (case hy => k_extra "my_at"); (case hn => first | decide | omega); (case hsb => k_extra "my_sub"); k_extra "my_side"; intro D' t1' t2' c' y' h' tk' ey' F' N' lD' bD'; (try k_sweep); (try dsimp only)))
  k_with "call ref" => (guard_hyp zg33 : True); (k_here; k_dflt ((with_reducible show wpAny _ _ (call (Value.ref 115) [Value.ref _, Value.ref _]) _ _ _); (k_dflt (refine' Fn.useFr news (times_spec _ _ _ _ _ _ _ ?hx ?hy ?hn) ?hsb ?B ?F ?X ?N ?T ?hk ?hd ?hu ?_)); (case N => k_asm); (case hx => k_extra "my_at"); (case hy => k_extra "my_at"); (case hn => first | decide | omega); (case hsb => k_extra "my_sub"); k_extra "my_side"; intro D' t1' t2' c' y' h' tk' ey' F' N' lD' bD'; (try k_sweep); (try dsimp only)))
  trivial
theorem words34 : True := by
  k_with "my_mx" => (guard_hyp zg34 : True); (first
  | with_reducible assumption
  | exact MxAt.sub (by with_reducible assumption) (by k_extra "my_sub"))
  k_with "my_ptat" => (guard_hyp zg34 : True); (first
  | with_reducible assumption
  | exact PtAt.sub (by with_reducible assumption) (by k_extra "my_sub"))
  trivial
theorem words35 : True := by
  k_with "call ref" => (guard_hyp zg35 : True); (k_here; k_dflt ((with_reducible show wpAny _ _ (call (Value.ref 301) [Value.ref _, Value.ref _]) _ _ _); (k_dflt (refine' Fn.usePt news (vector_spec _ _ _ _ _ _ _ _ _ _ _ _ _ ?hM ?hp ?hn) ?hsb ?B ?F ?X ?N ?T ?hk ?hd ?hu ?_)); (case N => k_asm); (case hM => k_extra "my_mx"); (case hp => k_extra "my_ptat"); (case hn => first | decide | omega); (case hsb => k_extra "my_sub"); k_extra "my_side"; intro D' a' b' c' s1' s2' c1' s3' s4' c2' x' y' h' tk' ex' ey' F' N' lA' lB' lD' bx' by'; (try k_sweep); (try dsimp only)))
  trivial
theorem words36 : True := by
  k_with "call ref" => (guard_hyp zg36 : True); (k_here; k_dflt ((with_reducible show wpAny _ _ (call (Value.ref 122) [Value.ref _, Value.ref _]) _ _ _); (k_dflt (refine' Fn.useFr news (divided_spec _ _ _ _ _ _ _ ?hx ?hy ?h0 ?hn) ?hsb ?B ?F ?X ?N ?T ?hk ?hd ?hu ?_)); (case N => k_asm); (case hx => k_extra "my_at"); (case hy => k_extra "my_at"); (case h0 => first | assumption | exact ne_of_num (by assumption)); (case hn => first | decide | omega); (case hsb => k_extra "my_sub"); k_extra "my_side"; intro D' t1' t2' c' y' h' tk' ey' F' N' lD' bD'; (try k_sweep); (try dsimp only)))
  trivial
theorem words37 : True := by
  k_with "call ref" => (guard_hyp zg37 : True); (k_here; k_dflt ((with_reducible show wpAny _ _ (call (Value.ref 129) [Value.ref _]) _ _ _); (k_dflt (refine' Fn.useFr news (negated_spec _ _ _ _ ?hx) ?hsb ?B ?F ?X ?N ?T ?hk ?hd ?hu ?_)); (case N => k_asm); (case hx => k_extra "my_at"); (case hsb => k_extra "my_sub"); k_extra "my_side"; intro D' t1' t2' c' y' h' tk' ey' F' N' lD' bD'; (try k_sweep); (try dsimp only)))
  trivial
theorem words38 : True := by
  k_with "call ref" => (guard_hyp zg38 : True); (k_here; k_dflt ((k_dflt (show wpAny _ _ (call (Value.ref 322) [Value.ref _]) _ _ _)); (k_dflt (refine' Fn.useFr news (det_spec _ _ _ _ _ _ _ _ _ ?hM ?hn) ?hsb ?B ?F ?X ?N ?T ?hk ?hd ?hu ?_)); (case N => k_asm); (case hM => k_extra "my_mx"); (case hn => first | decide | omega); (case hsb => k_extra "my_sub"); k_extra "my_side"; intro D' t1' t2' c' y' h' tk' ey' F' N' lD' bD'; (try k_sweep); (try dsimp only)))
  trivial
theorem words39 : True := by
  k_with "call ref" => (guard_hyp zg39 : True); (k_here; k_dflt ((with_reducible show wpAny _ _ (call (Value.ref 143) [Value.ref _, Value.ref _]) _ _ _); (k_dflt (refine' Fn.useInt (compare_spec _ _ _ _ _ _ _ ?hx ?hy ?hn) ?B ?F ?X ?N ?T ?hk ?hd ?hu ?_)); (case N => k_asm); (case hx => k_extra "my_at"); (case hy => k_extra "my_at"); (case hn => first | decide | omega); k_extra "my_side"; intro c' t' h' tk' F' N' r'; (try k_sweep); (try dsimp only)))
  trivial
theorem words40 : True := by
  k_with "call ref" => (guard_hyp zg40 : True); (k_here; k_dflt ((with_reducible show wpAny _ _ (call (Value.ref 332) [Value.ref _, Value.ref _, Value.ref _, Value.ref _, Value.ref _, Value.ref _]) _ _ _); (k_dflt (refine' Fn.useMk news (mx_new _ _ _ _ _ _ _) ?hsb ?B ?F ?X ?N ?T ?hk ?hd ?hu ?_)); (case N => k_asm); (case hsb => k_extra "my_sub"); k_extra "my_side"; intro x' d' t1' t2' t3' t4' t5' t6' h' tk' F' N' lD' lX'; (try k_sweep); (try dsimp only)))
  trivial
theorem words41 : True := by
  k_with "my_atu" => (guard_hyp zg41 : True); (refine' At.up ?atu1 ?atu2; (case atu1 => k_extra "my_at"); (case atu2 => omega))
  k_with "my_mx" => (guard_hyp zg41 : True); (first
  | with_reducible assumption
  | (refine' MxAt.sub ?ats ?atk; (case ats => with_reducible assumption); (case atk => k_extra "my_sub"))
  | (refine' MxAt.of ?m1 ?m2 ?m3 ?m4 ?m5 ?m6 ?m7 ?m8; (case m1 => k_extra "my_mem"); (case m2 => k_extra "my_mem"); (case m3 => k_extra "my_atu"); (case m4 => k_extra "my_atu"); (case m5 => k_extra "my_atu"); (case m6 => k_extra "my_atu"); (case m7 => k_extra "my_atu"); (case m8 => k_extra "my_atu")))
  k_with "my_ptat" => (guard_hyp zg41 : True); (first
  | with_reducible assumption
  | (refine' PtAt.sub ?ats ?atk; (case ats => with_reducible assumption); (case atk => k_extra "my_sub"))
  | (refine' PtAt.of ?q1 ?q2 ?q3; (case q1 => k_extra "my_mem"); (case q2 => k_extra "my_atu"); (case q3 => k_extra "my_atu")))
  trivial
theorem words42 : True := by
  k_with "call ref" => (guard_hyp zg42 : True); (k_here; k_dflt ((with_reducible show wpAny _ _ (call (Value.ref 365) [Value.str _ _]) _ _ _); (k_dflt (refine' Fn.usePart news (part_spec _ _ _ _ ?hp) ?hsb ?B ?F ?X ?N ?T ?hk ?hd ?hu ?_)); (case N => k_asm); (case hp => with_reducible assumption); (case hsb => k_extra "my_sub"); k_extra "my_side"; intro a' y' e' h' tk' ey' F' N' lD' hat'; (try k_sweep); (try dsimp only)))
  trivial
theorem words43 : True := by
  k_with "call ref" => (guard_hyp zg43 : True); (k_here; k_dflt ((with_reducible show wpAny _ _ (call (Value.ref 129) [Value.ref _]) _ _ _); (k_dflt (refine' Fn.useFr _ (negated_spec _ _ _ _ ?hx) (fun _ hq => hq) ?B ?F ?X ?N ?T ?hk ?hd ?hu ?_)); (case N => k_asm); (case hx => k_extra "my_at"); k_extra "my_side"; intro D' t1' t2' c' y' h' tk' ey' F' N' lD' bD'; (try k_lt lD'); (try k_sweep); (try dsimp only)))
  trivial
theorem words44 : True := by
  k_with "my_front" => (guard_hyp zg44 : True); (first | exact Front.here | (refine' Front.step ?fst; (case fst => k_extra "my_front")))
  trivial
theorem words45 : True := by
  k_with "eval Dict" => (guard_hyp zg45 : True); (k_here; k_dflt ((refine' kdn_str ?q ?F ?N ?b ?a ?l ?e ?n ?_; (case q => rfl); (case F => k_asm); (case N => first | k_asm | exact News.nil); (case b => exact Top.nolimit (by k_asm)); (case a => rfl); (case l => rfl); (case e => exact List.cons_ne_nil _ _); (case n => exact Nat.le_of_ble_eq_true rfl); intro d' h' o' F' N' l1 lo' hd'; (try k_lt l1))))
  trivial
theorem words46 : True := by
  k_with "my_rd" => (guard_hyp zg46 : True); (k_extra "my_side"; intro v' n' h' tk' F' N' O'; obtain ⟨r', k', t', v'', e1', er', ek', lk', uk', lr', e2'⟩ := O'; subst e1'; subst e2'; (try k_sweep); (try dsimp only))
  k_with "my_ne" => (guard_hyp zg46 : True); (first | with_reducible assumption | exact ne_all_lt (by k_extra "my_lt") | (refine' List.forall_mem_cons.mpr ⟨?nea, ?neb⟩; (case nea => first | (refine neN ?_; (try dsimp only); first | exact Nat.ne_of_gt (by k_extra "my_lx") | exact Nat.ne_of_lt (by k_extra "my_lx") | omega) | skip); (case neb => k_extra "my_ne")))
  k_with "call ref" => (guard_hyp zg46 : True); (k_here; k_dflt (first
  | ((with_reducible show wpAny _ _ (call (Value.ref 185) [Value.ref _, Value.str _ _]) _ _ _); (k_dflt (refine' Fn.use (skip_spec _ _ _ _ _ _ _ _ _ _ _ ?hne ?hdx ?hl ?h0 ?h1) ?B ?F ?X ?N ?T ?hk ?hd ?hu ?_)); (case N => first | with_reducible assumption | exact drop1 (by with_reducible assumption) | exact drop2 (by with_reducible assumption) | k_asm | exact drop1 (by k_asm) | exact drop2 (by k_asm)); (case hne => k_extra "my_ne"); (case hdx => first | assumption | omega); (case hl => first | assumption | omega); (case h0 => first | assumption | omega); (case h1 => first | assumption | omega); k_extra "my_rd")
  | ((k_dflt (show wpAny _ _ (call (Value.ref 192) [Value.ref _]) _ _ _)); (k_dflt (refine' Fn.use (digits_spec _ _ _ _ _ _ _ _ _ ?hne ?hdx ?hl ?h0 ?h1) ?B ?F ?X ?N ?T ?hk ?hd ?hu ?_)); (case N => first | with_reducible assumption | exact drop1 (by with_reducible assumption) | exact drop2 (by with_reducible assumption) | k_asm | exact drop1 (by k_asm) | exact drop2 (by k_asm)); (case hne => k_extra "my_ne"); (case hdx => first | assumption | omega); (case hl => first | assumption | omega); (case h0 => first | assumption | omega); (case h1 => first | assumption | omega); k_extra "my_rd")))
  trivial
theorem words47 : True := by
  k_with "call ref" => (guard_hyp zg47 : True); (k_here; k_dflt ((with_reducible show wpAny _ _ (call (Value.ref 206) [Value.str _ _]) _ _ _); (k_dflt (refine' Fn.use (whole_spec _ _ _ ?hdg) ?B ?F ?X ?N ?T ?hk ?hd ?hu ?_)); (case N => k_asm); (case hdg => k_extra "my_dg"); k_extra "my_side"; intro v' n' h' tk' F' N' O'; obtain ⟨e1', c', t', e2', r'⟩ := O'; replace e1' := e1'.symm; subst e1'; subst e2'; (try k_sweep); (try dsimp only)))
  k_with "my_dg" => (guard_hyp zg47 : True); (first | with_reducible assumption | (subst_vars; exact dgS_dg (by omega) (by omega)))
  k_with "call builtin:len" => (guard_hyp zg47 : True); (k_here; (with_reducible show wpAny _ _ (call (Value.builtin "len") [Value.str _ _]) _ _ _); refine len_str (by omega) ?_)
  trivial
theorem words48 : True := by
  k_with "subscriptTail" => (guard_hyp zg48 : True); (k_here; (with_reducible show wpAny _ _ (subscriptTail _ _ (Value.str _ _) (Value.int _ _)) _ _ _); refine item_str (fitsSsize_of (N := 9223372036854775808) (by omega) (by omega) (Int.le_refl _)) (by omega) (by omega) ?_; intro _)
  trivial
local macro_rules | `(tactic| k_all) => `(tactic| with_reducible assumption)
theorem words49 : True := by
  k_with "call ref" => (guard_hyp zg49 : True); (k_here; k_dflt ((with_reducible show wpAny _ _ (call (Value.ref 178) [Value.ref _, Value.str _ _]) _ _ _); (k_dflt (refine' Fn.use (ioo_spec _ _ _ _ _ _ _ _ _ _ _ ?h1 ?h2 ?hl ?h0) ?B ?F ?X ?N ?T ?hk ?hd ?hu ?_)); (case N => k_asm); (case h1 => k_extra "my_mem"); (case h2 => k_extra "my_mem"); (case hl => first | assumption | omega); (case h0 => first | assumption | omega); k_extra "my_side"; intro v' n' h' tk' F' N' O'; obtain ⟨e1', e2'⟩ := O'; replace e1' := e1'.symm; subst e1'; subst e2'; (try k_sweep); (try dsimp only)))
  trivial
-- C1
/-- what a call of the def at f, on vs, over the ledger news, ends in -/
abbrev Fn (w : World) (p : Program) (loose : List Str) (mean : ExcName → Option Value) (mg mb : Str → Option Value) (D : Nat) (f : Addr) (vs : List Value) (news : List (Addr × Obj)) (Out : Value → List (Addr × Obj) → Prop) : Prop :=
  ∀ (dp un : Nat) (gd : Option (List Code)) (cn : Str) (cs : Scope) (a : Addr) (ccd : Value) (cl : List (Str × Addr)) (outer : List Env) (A₀ : Around) (base h₀ : Heap) (L : Addr) (m : Str → Option Value) (s : Shared) (Q E : Value → Shared → Prop),
    Below A₀ base outer h₀ → Fr h₀ L s.heap m → (KK w.params).In h₀ → News h₀ L s.heap news → Top p loose mean mg mb h₀ → cs.kind = .function → dp + D < recursionLimit → un + 8 * D < cLine →
    (∀ v news' h' tk', Fr h₀ L h' m → News h₀ L h' news' → Out v news' → Q v { s with heap := h', toks := tk' }) →
    wpAny (model PySem.Challenge.pw_pf0196_01 w) (ktrTop dp un gd cn cs L a ccd cl outer) (call (.ref f) vs) Q E s

theorem Fn.use {w : World} {p : Program} {loose : List Str} {mean : ExcName → Option Value} {mg mb : Str → Option Value} {D : Nat} {f : Addr} {vs : List Value} {news : List (Addr × Obj)} {Out : Value → List (Addr × Obj) → Prop}
    {dp un : Nat} {gd : Option (List Code)} {cn : Str} {cs : Scope} {a : Addr} {ccd : Value} {cl : List (Str × Addr)} {outer : List Env} {A₀ : Around} {base h₀ : Heap} {L : Addr} {m : Str → Option Value} {s : Shared} {Q E : Value → Shared → Prop}
    (C : Fn w p loose mean mg mb D f vs news Out) (B : Below A₀ base outer h₀) (F : Fr h₀ L s.heap m) (X : (KK w.params).In h₀) (N : News h₀ L s.heap news) (T : Top p loose mean mg mb h₀) (hk : cs.kind = .function) (hd : dp + D < recursionLimit) (hu : un + 8 * D < cLine)
    (h : ∀ v news' h' tk', Fr h₀ L h' m → News h₀ L h' news' → Out v news' → Q v { s with heap := h', toks := tk' }) :
    wpAny (model PySem.Challenge.pw_pf0196_01 w) (ktrTop dp un gd cn cs L a ccd cl outer) (call (.ref f) vs) Q E s :=
  C _ _ _ _ _ _ _ _ _ _ _ _ _ _ _ _ _ B F X N T hk hd hu h

abbrev fr (x : Rat) (t1 t2 : Tok) (c : Nat) : Obj := { cls := .type "tuple", data := .seq #[.int x.num t1, .int x.den t2] c }
theorem fr_of {x : Rat} {a b : Int} {t1 t2 : Tok} {c : Nat} (e : a = x.num ∧ b = (x.den : Int)) : ({ cls := .type "tuple", data := .seq #[.int a t1, .int b t2] c } : Obj) = fr x t1 t2 c := by rw [e.1, e.2]
theorem neg_fr {y : Rat} {t1 t2 : Tok} {c : Nat} : ({ cls := .type "tuple", data := .seq #[.int (0 - y.num) t1, .int (y.den : Int) t2] c } : Obj) = fr (-y) t1 t2 c := fr_of ⟨by rw [Int.zero_sub]; rfl, rfl⟩
/-- the tuple at a tells the fraction x, of n bits at most -/
structure At (w : World) (news : List (Addr × Obj)) (a : Addr) (n : Nat) (x : Rat) : Prop where
  br : Br n x
  out : ∃ t1 t2 c, (a, fr x t1 t2 c) ∈ news ∨ (KK w.params).lookup a = some (fr x t1 t2 c)
theorem At.here {w : World} {news : List (Addr × Obj)} {a : Addr} {n : Nat} {x : Rat} {t1 t2 : Tok} {c : Nat} (h : (a, fr x t1 t2 c) ∈ news) (b : Br n x) : At w news a n x := ⟨b, t1, t2, c, .inl h⟩
theorem Br.int {n : Nat} {k : Int} (h : Bi n k) : Br (n + 1) (k : Rat) := ⟨h.up (Nat.le_succ n), Bi.of (by show (1 : Int).natAbs < 2 ^ (n + 1); have := Nat.two_pow_pos n; rw [Nat.pow_succ]; show 1 < _; omega)⟩
theorem At.int {w : World} {news : List (Addr × Obj)} {a : Addr} {n : Nat} {k : Int} {t1 t2 : Tok} {c : Nat} (h : (a, ({ cls := .type "tuple", data := .seq #[.int k t1, .int 1 t2] c } : Obj)) ∈ news) (b : Bi n k) : At w news a (n + 1) (k : Rat) := ⟨Br.int b, t1, t2, c, .inl h⟩
theorem At.sub {w : World} {news news' : List (Addr × Obj)} {a : Addr} {n : Nat} {x : Rat} (h : At w news a n x) (k : ∀ p ∈ news, p ∈ news') : At w news' a n x :=
  ⟨h.1, let ⟨t1, t2, c, e⟩ := h.2; ⟨t1, t2, c, e.imp (k _) id⟩⟩
theorem At.cons {w : World} {news : List (Addr × Obj)} {q : Addr × Obj} {a : Addr} {n : Nat} {x : Rat} (h : At w news a n x) : At w (q :: news) a n x := h.sub fun _ m => .tail _ m
theorem At.up {w : World} {news : List (Addr × Obj)} {a : Addr} {n m : Nat} {x : Rat} (h : At w news a n x) (k : n ≤ m) : At w news a m x := ⟨h.1.up k, h.2⟩
theorem At.tup {w : World} {news : List (Addr × Obj)} {a L : Addr} {n : Nat} {x : Rat} {h₀ h : Heap} {m : Str → Option Value} (I : At w news a n x) (F : Fr h₀ L h m) (N : News h₀ L h news) (X : (KK w.params).In h₀) : ∃ t1 t2, IsTup h a #[.int x.num t1, .int x.den t2] := by
  obtain ⟨_, t1, t2, c, e | e⟩ := I
  · exact ⟨t1, t2, News.isTup N e⟩
  · exact ⟨t1, t2, _, (X.keeps F.keep) _ _ e, rfl, c, rfl⟩
section
variable {w : World} {A : Around} {E : Value → Shared → Prop} {s : Shared} {h₀ : Heap} {L a : Addr} {m : Str → Option Value} {news : List (Addr × Obj)} {n : Nat} {x : Rat} {value slice : Expr} {u : Tok} {Q : Value → Shared → Prop}
theorem at0 (I : At w news a n x) (F : Fr h₀ L s.heap m) (N : News h₀ L s.heap news) (X : (KK w.params).In h₀) (h : ∀ t, Q (.int x.num t) s)
    (hs : subscripted slice false (.ref a) (.int 0 u) = operate [.ref a, .int 0 u] (getItem (.ref a) (.int 0 u)) := by with_unfolding_all rfl) : wpAny (model PySem.Challenge.pw_pf0196_01 w) A (subscriptTail value slice (.ref a) (.int 0 u)) Q E s := by
  obtain ⟨t1, t2, I⟩ := I.tup F N X
  exact item_tupleT (l := [.int x.num t1, .int x.den t2]) (j := 0) I (by decide) (by decide) rfl rfl (h _) hs
theorem at1 (I : At w news a n x) (F : Fr h₀ L s.heap m) (N : News h₀ L s.heap news) (X : (KK w.params).In h₀) (h : ∀ t, Q (.int x.den t) s)
    (hs : subscripted slice false (.ref a) (.int 1 u) = operate [.ref a, .int 1 u] (getItem (.ref a) (.int 1 u)) := by with_unfolding_all rfl) : wpAny (model PySem.Challenge.pw_pf0196_01 w) A (subscriptTail value slice (.ref a) (.int 1 u)) Q E s := by
  obtain ⟨t1, t2, I⟩ := I.tup F N X
  exact item_tupleT (l := [.int x.num t1, .int x.den t2]) (j := 1) I (by decide) (by decide) rfl rfl (h _) hs
end
abbrev FrOut (news : List (Addr × Obj)) (n : Nat) (x : Rat) (v : Value) (news' : List (Addr × Obj)) : Prop :=
  ∃ D t1 t2 c y, v = .ref D ∧ y = x ∧ news' = (D, fr y t1 t2 c) :: news ∧ (∀ p ∈ news, p.1 < D) ∧ Br n y

/-- the namespace of a Matrix -/
abbrev mxd (w : World) (t1 t2 t3 t4 t5 t6 : Tok) (a b c d e f : Addr) : Obj :=
  dictOf [⟨PyData.keyHash w.params (Str.ofString "a"), .str (Str.ofString "a") t1, .ref a⟩, ⟨PyData.keyHash w.params (Str.ofString "b"), .str (Str.ofString "b") t2, .ref b⟩, ⟨PyData.keyHash w.params (Str.ofString "c"), .str (Str.ofString "c") t3, .ref c⟩,
    ⟨PyData.keyHash w.params (Str.ofString "d"), .str (Str.ofString "d") t4, .ref d⟩, ⟨PyData.keyHash w.params (Str.ofString "e"), .str (Str.ofString "e") t5, .ref e⟩, ⟨PyData.keyHash w.params (Str.ofString "f"), .str (Str.ofString "f") t6, .ref f⟩] 6
/-- the Matrix at x is (a, b, c, d, e, f), each of n bits at most -/
structure MxAt (w : World) (news : List (Addr × Obj)) (x : Addr) (n : Nat) (a b c d e f : Rat) : Prop where
  out : ∃ dx t1 t2 t3 t4 t5 t6 ra rb rc rd re rf, (x, instObj 332 dx) ∈ news ∧ (dx, mxd w t1 t2 t3 t4 t5 t6 ra rb rc rd re rf) ∈ news ∧
    At w news ra n a ∧ At w news rb n b ∧ At w news rc n c ∧ At w news rd n d ∧ At w news re n e ∧ At w news rf n f
theorem MxAt.sub {w : World} {news news' : List (Addr × Obj)} {x : Addr} {n : Nat} {a b c d e f : Rat} (h : MxAt w news x n a b c d e f) (k : ∀ p ∈ news, p ∈ news') : MxAt w news' x n a b c d e f := by
  obtain ⟨dx, t1, t2, t3, t4, t5, t6, ra, rb, rc, rd, re, rf, h1, h2, ha, hb, hc, hd', he, hf⟩ := h
  exact ⟨dx, t1, t2, t3, t4, t5, t6, ra, rb, rc, rd, re, rf, k _ h1, k _ h2, ha.sub k, hb.sub k, hc.sub k, hd'.sub k, he.sub k, hf.sub k⟩
/-- a tuple of two, four references -/
abbrev tup2 (a b : Addr) (c : Nat) : Obj := { cls := .type "tuple", data := .seq #[.ref a, .ref b] c }
abbrev tup4 (a b c d : Addr) (n : Nat) : Obj := { cls := .type "tuple", data := .seq #[.ref a, .ref b, .ref c, .ref d] n }
/-- the point at q is (x, y) -/
structure PtAt (w : World) (news : List (Addr × Obj)) (q : Addr) (n : Nat) (x y : Rat) : Prop where
  out : ∃ a b c, (q, tup2 a b c) ∈ news ∧ At w news a n x ∧ At w news b n y
theorem PtAt.sub {w : World} {news news' : List (Addr × Obj)} {q : Addr} {n : Nat} {x y : Rat} (h : PtAt w news q n x y) (k : ∀ p ∈ news, p ∈ news') : PtAt w news' q n x y := by
  obtain ⟨a, b, c, h1, h2, h3⟩ := h
  exact ⟨a, b, c, k _ h1, h2.sub k, h3.sub k⟩
/-- a new point, and what it stands on -/
abbrev PtOut (news : List (Addr × Obj)) (n : Nat) (x y : Rat) (v : Value) (news' : List (Addr × Obj)) : Prop :=
  ∃ D a b c s1 s2 c1 s3 s4 c2 x' y', v = .ref D ∧ x' = x ∧ y' = y ∧ news' = (D, tup2 a b c) :: (b, fr y' s3 s4 c2) :: (a, fr x' s1 s2 c1) :: news ∧ (∀ p ∈ news, p.1 < a) ∧ (∀ p ∈ news, p.1 < b) ∧ (∀ p ∈ news, p.1 < D) ∧ Br n x' ∧ Br n y'

section
variable {h₀ h : Heap} {L : Addr} {big news : List (Addr × Obj)} {p1 p2 p3 p4 p5 p6 p7 p8 : Addr × Obj}
theorem nw1 (N : News h₀ L h big) (h1 : p1 ∈ big) (hs : ∀ x ∈ news, x ∈ big) : News h₀ L h (p1 :: news) := cb_drop N (List.forall_mem_cons.mpr ⟨h1, hs⟩)
theorem nw2 (N : News h₀ L h big) (h1 : p1 ∈ big) (h2 : p2 ∈ big) (hs : ∀ x ∈ news, x ∈ big) : News h₀ L h (p1 :: p2 :: news) := cb_drop N (List.forall_mem_cons.mpr ⟨h1, List.forall_mem_cons.mpr ⟨h2, hs⟩⟩)
theorem nw3 (N : News h₀ L h big) (h1 : p1 ∈ big) (h2 : p2 ∈ big) (h3 : p3 ∈ big) (hs : ∀ x ∈ news, x ∈ big) : News h₀ L h (p1 :: p2 :: p3 :: news) :=
  cb_drop N (List.forall_mem_cons.mpr ⟨h1, List.forall_mem_cons.mpr ⟨h2, List.forall_mem_cons.mpr ⟨h3, hs⟩⟩⟩)
end
section
variable {w : World} {p : Program} {loose : List Str} {mean : ExcName → Option Value} {mg mb : Str → Option Value} {D : Nat} {f : Addr} {vs : List Value} {news : List (Addr × Obj)} {dp un : Nat} {gd : Option (List Code)} {cn : Str} {cs : Scope} {a : Addr} {ccd : Value} {cl : List (Str × Addr)} {outer : List Env} {A₀ : Around} {base h₀ : Heap} {L : Addr} {m : Str → Option Value} {s : Shared} {Q E : Value → Shared → Prop}
/-- a call that hands back a fraction, its outcome laid out -/
theorem Fn.useFr (low : List (Addr × Obj)) {n : Nat} {x : Rat} (C : Fn w p loose mean mg mb D f vs news (FrOut news n x)) (hsb : ∀ q ∈ low, q ∈ news) (B : Below A₀ base outer h₀) (F : Fr h₀ L s.heap m) (X : (KK w.params).In h₀) (N : News h₀ L s.heap news) (T : Top p loose mean mg mb h₀) (hk : cs.kind = .function) (hd : dp + D < recursionLimit) (hu : un + 8 * D < cLine)
    (h : ∀ (D : Addr) (t1 t2 : Tok) (c : Nat) (y : Rat) (h' : Heap) (tk' : Nat), y = x → Fr h₀ L h' m → News h₀ L h' ((D, fr y t1 t2 c) :: news) → (∀ q ∈ low, q.1 < D) → Br n y → Q (.ref D) { s with heap := h', toks := tk' }) :
    wpAny (model PySem.Challenge.pw_pf0196_01 w) (ktrTop dp un gd cn cs L a ccd cl outer) (call (.ref f) vs) Q E s := by
  refine C.use B F X N T hk hd hu ?_
  rintro v news' h' tk' F' N' ⟨D', t1, t2, c, y, rfl, ey, rfl, l, b⟩
  exact h D' t1 t2 c y h' tk' ey F' N' (fun q m => l q (hsb q m)) b
/-- a call that hands back a point -/
theorem Fn.usePt (low : List (Addr × Obj)) {n : Nat} {x z : Rat} (C : Fn w p loose mean mg mb D f vs news (PtOut news n x z)) (hsb : ∀ q ∈ low, q ∈ news) (B : Below A₀ base outer h₀) (F : Fr h₀ L s.heap m) (X : (KK w.params).In h₀) (N : News h₀ L s.heap news) (T : Top p loose mean mg mb h₀) (hk : cs.kind = .function) (hd : dp + D < recursionLimit) (hu : un + 8 * D < cLine)
    (h : ∀ (D a b : Addr) (c : Nat) (s1 s2 : Tok) (c1 : Nat) (s3 s4 : Tok) (c2 : Nat) (x' y' : Rat) (h' : Heap) (tk' : Nat), x' = x → y' = z → Fr h₀ L h' m → News h₀ L h' ((D, tup2 a b c) :: (b, fr y' s3 s4 c2) :: (a, fr x' s1 s2 c1) :: news) → (∀ q ∈ low, q.1 < a) → (∀ q ∈ low, q.1 < b) → (∀ q ∈ low, q.1 < D) → Br n x' → Br n y' → Q (.ref D) { s with heap := h', toks := tk' }) :
    wpAny (model PySem.Challenge.pw_pf0196_01 w) (ktrTop dp un gd cn cs L a ccd cl outer) (call (.ref f) vs) Q E s := by
  refine C.use B F X N T hk hd hu ?_
  rintro v news' h' tk' F' N' ⟨D', a, b, c, s1, s2, c1, s3, s4, c2, x', y', rfl, ex, ey, rfl, l1, l2, l3, bx, by'⟩
  exact h D' a b c s1 s2 c1 s3 s4 c2 x' y' h' tk' ex ey F' N' (fun q m => l1 q (hsb q m)) (fun q m => l2 q (hsb q m)) (fun q m => l3 q (hsb q m)) bx by'
/-- a call that hands back an int beside an unturned ledger -/
theorem Fn.useInt {P : Int → Prop} (C : Fn w p loose mean mg mb D f vs news (fun v news' => news' = news ∧ ∃ c t, v = .int c t ∧ P c)) (B : Below A₀ base outer h₀) (F : Fr h₀ L s.heap m) (X : (KK w.params).In h₀) (N : News h₀ L s.heap news) (T : Top p loose mean mg mb h₀) (hk : cs.kind = .function) (hd : dp + D < recursionLimit) (hu : un + 8 * D < cLine)
    (h : ∀ (c : Int) (t : Tok) (h' : Heap) (tk' : Nat), Fr h₀ L h' m → News h₀ L h' news → P c → Q (.int c t) { s with heap := h', toks := tk' }) :
    wpAny (model PySem.Challenge.pw_pf0196_01 w) (ktrTop dp un gd cn cs L a ccd cl outer) (call (.ref f) vs) Q E s := by
  refine C.use B F X N T hk hd hu ?_
  rintro v news' h' tk' F' N' ⟨rfl, c, t, rfl, r⟩
  exact h c t h' tk' F' N' r
/-- a call that makes a Matrix -/
theorem Fn.useMk (low : List (Addr × Obj)) {r1 r2 r3 r4 r5 r6 : Addr} (C : Fn w p loose mean mg mb D f vs news (fun v news' => ∃ x dx t1 t2 t3 t4 t5 t6, v = .ref x ∧ news' = (x, instObj 332 dx) :: (dx, mxd w t1 t2 t3 t4 t5 t6 r1 r2 r3 r4 r5 r6) :: news ∧ (∀ p ∈ news, p.1 < dx) ∧ dx < x)) (hsb : ∀ q ∈ low, q ∈ news) (B : Below A₀ base outer h₀) (F : Fr h₀ L s.heap m) (X : (KK w.params).In h₀) (N : News h₀ L s.heap news) (T : Top p loose mean mg mb h₀) (hk : cs.kind = .function) (hd : dp + D < recursionLimit) (hu : un + 8 * D < cLine)
    (h : ∀ (x dx : Addr) (t1 t2 t3 t4 t5 t6 : Tok) (h' : Heap) (tk' : Nat), Fr h₀ L h' m → News h₀ L h' ((x, instObj 332 dx) :: (dx, mxd w t1 t2 t3 t4 t5 t6 r1 r2 r3 r4 r5 r6) :: news) → (∀ q ∈ low, q.1 < dx) → (∀ q ∈ low, q.1 < x) → Q (.ref x) { s with heap := h', toks := tk' }) :
    wpAny (model PySem.Challenge.pw_pf0196_01 w) (ktrTop dp un gd cn cs L a ccd cl outer) (call (.ref f) vs) Q E s := by
  refine C.use B F X N T hk hd hu ?_
  rintro v news' h' tk' F' N' ⟨x, dx, t1, t2, t3, t4, t5, t6, rfl, rfl, l, lx⟩
  exact h x dx t1 t2 t3 t4 t5 t6 h' tk' F' N' (fun q m => l q (hsb q m)) (fun q m => Nat.lt_trans (l q (hsb q m)) lx)
end
section
variable {w : World} {A : Around} {E : Value → Shared → Prop} {s : Shared} {h₀ : Heap} {L q : Addr} {news : List (Addr × Obj)} {value slice : Expr} {u : Tok} {Q : Value → Shared → Prop} {l : List Value} {c : Nat} {v : Value}
theorem tup_i0 (N : News h₀ L s.heap news) (hm : (q, ({ cls := .type "tuple", data := .seq l.toArray c } : Obj)) ∈ news) (hi : seqIndex? 0 l.length = some 0) (hj : l[0]? = some v) (h : Q v s)
    (hs : subscripted slice false (.ref q) (.int 0 u) = operate [.ref q, .int 0 u] (getItem (.ref q) (.int 0 u)) := by with_unfolding_all rfl) : wpAny (model PySem.Challenge.pw_pf0196_01 w) A (subscriptTail value slice (.ref q) (.int 0 u)) Q E s :=
  item_tupleT (l := l) (j := 0) (News.isTup N hm) (by decide) (by decide) hi hj h hs
theorem tup_i1 (N : News h₀ L s.heap news) (hm : (q, ({ cls := .type "tuple", data := .seq l.toArray c } : Obj)) ∈ news) (hi : seqIndex? 1 l.length = some 1) (hj : l[1]? = some v) (h : Q v s)
    (hs : subscripted slice false (.ref q) (.int 1 u) = operate [.ref q, .int 1 u] (getItem (.ref q) (.int 1 u)) := by with_unfolding_all rfl) : wpAny (model PySem.Challenge.pw_pf0196_01 w) A (subscriptTail value slice (.ref q) (.int 1 u)) Q E s :=
  item_tupleT (l := l) (j := 1) (News.isTup N hm) (by decide) (by decide) hi hj h hs
theorem tup_i2 (N : News h₀ L s.heap news) (hm : (q, ({ cls := .type "tuple", data := .seq l.toArray c } : Obj)) ∈ news) (hi : seqIndex? 2 l.length = some 2) (hj : l[2]? = some v) (h : Q v s)
    (hs : subscripted slice false (.ref q) (.int 2 u) = operate [.ref q, .int 2 u] (getItem (.ref q) (.int 2 u)) := by with_unfolding_all rfl) : wpAny (model PySem.Challenge.pw_pf0196_01 w) A (subscriptTail value slice (.ref q) (.int 2 u)) Q E s :=
  item_tupleT (l := l) (j := 2) (News.isTup N hm) (by decide) (by decide) hi hj h hs
theorem tup_i3 (N : News h₀ L s.heap news) (hm : (q, ({ cls := .type "tuple", data := .seq l.toArray c } : Obj)) ∈ news) (hi : seqIndex? 3 l.length = some 3) (hj : l[3]? = some v) (h : Q v s)
    (hs : subscripted slice false (.ref q) (.int 3 u) = operate [.ref q, .int 3 u] (getItem (.ref q) (.int 3 u)) := by with_unfolding_all rfl) : wpAny (model PySem.Challenge.pw_pf0196_01 w) A (subscriptTail value slice (.ref q) (.int 3 u)) Q E s :=
  item_tupleT (l := l) (j := 3) (News.isTup N hm) (by decide) (by decide) hi hj h hs
end
/-- behind a statement that stores the one name x: what P says of the value and of the ledger -/
def Cut1 (x : Str) (P : Value → List (Addr × Obj) → Prop) (h₀ : Heap) (L : Addr) (m : Str → Option Value) (s : Shared) (fl : Flow) (s' : Shared) : Prop :=
  fl = .next ∧ ∃ v news' h' tk', s' = { s with heap := h', toks := tk' } ∧ Fr h₀ L h' (fun y => if y = x then some v else m y) ∧ News h₀ L h' news' ∧ P v news'
theorem cut1 {M : Model} {T : Sem Flow} {A : Around} {E : Value → Shared → Prop} {s : Shared} {h₀ : Heap} {L : Addr} {m : Str → Option Value} {Q : Flow → Shared → Prop} (x : Str) (P : Value → List (Addr × Obj) → Prop)
    (_ : Fr h₀ L s.heap m) (h1 : wpAny M A T (Cut1 x P h₀ L m s) E s) (h2 : ∀ v news' h' tk', Fr h₀ L h' (fun y => if y = x then some v else m y) → News h₀ L h' news' → P v news' → Q .next { s with heap := h', toks := tk' }) : wpAny M A T Q E s := by
  refine wpAny_mono h1 ?_ fun _ _ h => h
  rintro fl s' ⟨rfl, v, n, h, t, rfl, F, N, p⟩
  exact h2 v n h t F N p
theorem Cut1.of {x : Str} {P : Value → List (Addr × Obj) → Prop} {h₀ h' : Heap} {L : Addr} {m : Str → Option Value} {s : Shared} {v : Value} {news' : List (Addr × Obj)} {tk' : Nat} (p : P v news') (F : Fr h₀ L h' (fun y => if y = x then some v else m y)) (N : News h₀ L h' news') :
    Cut1 x P h₀ L m s .next { s with heap := h', toks := tk' } := ⟨rfl, v, news', h', tk', rfl, F, N, p⟩
theorem Cut1.same {x : Str} {P : Value → List (Addr × Obj) → Prop} {h₀ h' : Heap} {L : Addr} {m : Str → Option Value} {s : Shared} {v : Value} {news' : List (Addr × Obj)} {tk' : Nat} (e : m x = some v) (p : P v news') (F : Fr h₀ L h' m) (N : News h₀ L h' news') :
    Cut1 x P h₀ L m s .next { s with heap := h', toks := tk' } := by
  refine ⟨rfl, v, news', h', tk', rfl, ?_, N, p⟩
  have : m = fun y => if y = x then some v else m y := by
    funext y
    split
    · rename_i q; rw [q, e]
    · rfl
  rw [← this]
  exact F
theorem Cut1.on {x : Str} {P : Value → List (Addr × Obj) → Prop} {h₀ h' : Heap} {L : Addr} {m : Str → Option Value} {s : Shared} {v : Value} {news' : List (Addr × Obj)} {tk' : Nat} (F : Fr h₀ L h' (fun y => if y = x then some v else m y)) (p : P v news') (N : News h₀ L h' news') :
    Cut1 x P h₀ L m s .next { s with heap := h', toks := tk' } := ⟨rfl, v, news', h', tk', rfl, F, N, p⟩
/-- behind a statement that stores the two names x, y -/
def Cut2 (x y : Str) (P : Value → Value → List (Addr × Obj) → Prop) (h₀ : Heap) (L : Addr) (m : Str → Option Value) (s : Shared) (fl : Flow) (s' : Shared) : Prop :=
  fl = .next ∧ ∃ v1 v2 news' h' tk', s' = { s with heap := h', toks := tk' } ∧ Fr h₀ L h' (fun z => if z = y then some v2 else if z = x then some v1 else m z) ∧ News h₀ L h' news' ∧ P v1 v2 news'
theorem cut2 {M : Model} {T : Sem Flow} {A : Around} {E : Value → Shared → Prop} {s : Shared} {h₀ : Heap} {L : Addr} {m : Str → Option Value} {Q : Flow → Shared → Prop} (x y : Str) (P : Value → Value → List (Addr × Obj) → Prop)
    (_ : Fr h₀ L s.heap m) (h1 : wpAny M A T (Cut2 x y P h₀ L m s) E s) (h2 : ∀ v1 v2 news' h' tk', Fr h₀ L h' (fun z => if z = y then some v2 else if z = x then some v1 else m z) → News h₀ L h' news' → P v1 v2 news' → Q .next { s with heap := h', toks := tk' }) : wpAny M A T Q E s := by
  refine wpAny_mono h1 ?_ fun _ _ h => h
  rintro fl s' ⟨rfl, v1, v2, n, h, t, rfl, F, N, p⟩
  exact h2 v1 v2 n h t F N p
theorem Cut2.on {x y : Str} {P : Value → Value → List (Addr × Obj) → Prop} {h₀ h' : Heap} {L : Addr} {m : Str → Option Value} {s : Shared} {v1 v2 : Value} {news' : List (Addr × Obj)} {tk' : Nat} (F : Fr h₀ L h' (fun z => if z = y then some v2 else if z = x then some v1 else m z)) (p : P v1 v2 news') (N : News h₀ L h' news') :
    Cut2 x y P h₀ L m s .next { s with heap := h', toks := tk' } := ⟨rfl, v1, v2, news', h', tk', rfl, F, N, p⟩
theorem Cut2.same {x y : Str} {P : Value → Value → List (Addr × Obj) → Prop} {h₀ h' : Heap} {L : Addr} {m : Str → Option Value} {s : Shared} {v1 v2 : Value} {news' : List (Addr × Obj)} {tk' : Nat} (e1 : m x = some v1) (e2 : m y = some v2) (F : Fr h₀ L h' m) (p : P v1 v2 news') (N : News h₀ L h' news') :
    Cut2 x y P h₀ L m s .next { s with heap := h', toks := tk' } := by
  refine ⟨rfl, v1, v2, news', h', tk', rfl, ?_, N, p⟩
  have : m = fun z => if z = y then some v2 else if z = x then some v1 else m z := by
    funext z
    split
    · rename_i q; rw [q, e2]
    · split
      · rename_i q; rw [q, e1]
      · rfl
  rw [← this]
  exact F
section
variable {h₀ h : Heap} {L : Addr} {big news : List (Addr × Obj)} {p1 p2 p3 p4 : Addr × Obj}
theorem nw4 (N : News h₀ L h big) (h1 : p1 ∈ big) (h2 : p2 ∈ big) (h3 : p3 ∈ big) (h4 : p4 ∈ big) (hs : ∀ x ∈ news, x ∈ big) : News h₀ L h (p1 :: p2 :: p3 :: p4 :: news) :=
  cb_drop N (List.forall_mem_cons.mpr ⟨h1, List.forall_mem_cons.mpr ⟨h2, List.forall_mem_cons.mpr ⟨h3, List.forall_mem_cons.mpr ⟨h4, hs⟩⟩⟩⟩)
end
theorem PtAt.ofm {w : World} {news : List (Addr × Obj)} {q a b : Addr} {c n : Nat} {x y : Rat} (h : (q, tup2 a b c) ∈ news) (hx : At w news a n x) (hy : At w news b n y) : PtAt w news q n x y := ⟨a, b, c, h, hx, hy⟩
theorem At.eq {w : World} {news : List (Addr × Obj)} {a : Addr} {n : Nat} {x y : Rat} (h : At w news a n y) (e : y = x) : At w news a n x := e ▸ h
/-- a pure expression: evaluated from the state s with k tokens handed out it yields v, with k' handed out, whatever stands behind it -/
structure PE (M : Model) (A : Around) (env : Env) (e : Expr) (s : Shared) (k : Nat) (v : Value) (k' : Nat) : Prop where
  go : ∀ (Q E : Value → Shared → Prop), Q v { s with toks := k' } → wpAny M A (eval e env) Q E { s with toks := k }
structure PA (M : Model) (A : Around) (env : Env) (pos : Pos) (es : List Expr) (s : Shared) (k : Nat) (vs : List Value) (k' : Nat) : Prop where
  go : ∀ (Q : List Value → Shared → Prop) (E : Value → Shared → Prop), Q vs { s with toks := k' } → wpAny M A (spliced (backTo pos (starEach es env))) Q E { s with toks := k }
def tokAt (h : Heap) (a : Addr) (i : Nat) : Tok := match h.get? a with
  | some o => (match o.data with | .seq its _ => (match its[i]? with | some (.int _ t) => t | _ => 0) | _ => 0)
  | none => 0
theorem tok0 {h : Heap} {a : Addr} {x y : Int} {t1 t2 : Tok} (I : IsTup h a #[.int x t1, .int y t2]) : t1 = tokAt h a 0 := by
  obtain ⟨o, ho, _, n, hd⟩ := I
  simp [tokAt, ho, hd]
theorem tok1 {h : Heap} {a : Addr} {x y : Int} {t1 t2 : Tok} (I : IsTup h a #[.int x t1, .int y t2]) : t2 = tokAt h a 1 := by
  obtain ⟨o, ho, _, n, hd⟩ := I
  simp [tokAt, ho, hd]
section
variable {zp_w : World} {zp_A : Around} {zp_env : Env} {zp_s : Shared} {zp_k zp_k1 zp_k2 zp_k3 : Nat} {zp_h₀ : Heap} {zp_L zp_a : Addr} {zp_m zp_mg zp_mb : Str → Option Value} {zp_news : List (Addr × Obj)} {zp_n : Nat} {zp_x : Rat} {zp_v : Value} {zp_l zp_r zp_e : Expr} {zp_pos zp_p2 : Pos} {zp_i zp_j : Int} {zp_t zp_u : Tok} {zp_cn zp_nm : Str} {zp_cs : Scope} {zp_ad : Addr} {zp_ccd : Value} {zp_cl : List (Str × Addr)} {zp_p : Program} {zp_loose : List Str} {zp_mean : ExcName → Option Value}
abbrev MM (zp_w : World) : Model := model PySem.Challenge.pw_pf0196_01 zp_w
theorem PE.run {Q E : Value → Shared → Prop} {k' : Nat} (h : PE (MM zp_w) zp_A zp_env zp_e zp_s zp_s.toks zp_v k') (zp_q : Q zp_v { zp_s with toks := k' }) : wpAny (MM zp_w) zp_A (eval zp_e zp_env) Q E zp_s := h.go Q E zp_q
theorem PE.cint {zp_c : Nat} : PE (MM zp_w) zp_A zp_env (.Constant (.int zp_i) zp_c zp_pos) zp_s zp_k (.int zp_i zp_k) (zp_k + 1) := ⟨fun _ _ h => wpAny_Constant_int h⟩
theorem PE.loc (F : Fr zp_h₀ zp_L zp_s.heap zp_m) (hv : zp_m zp_nm = some zp_v) (hk : zp_cs.kind = .function := by rfl) (hx : (envX zp_cn zp_cs zp_L zp_ad zp_ccd zp_cl).kindOf zp_nm = some .local := by rfl) (hd : (zp_nm == ("__debug__" : Str)) = false := by decide) :
    PE (MM zp_w) zp_A (envX zp_cn zp_cs zp_L zp_ad zp_ccd zp_cl) (.Name zp_nm zp_pos) zp_s zp_k zp_v zp_k := ⟨fun _ _ h => nameX_L F hv h hk hx hd⟩
theorem PE.sub0 {zp_c : Nat} (he : PE (MM zp_w) zp_A zp_env zp_e zp_s zp_k (.ref zp_a) zp_k1) (I : At zp_w zp_news zp_a zp_n zp_x) (F : Fr zp_h₀ zp_L zp_s.heap zp_m) (N : News zp_h₀ zp_L zp_s.heap zp_news) (X : (KK zp_w.params).In zp_h₀) :
    PE (MM zp_w) zp_A zp_env (.Subscript zp_e (.Constant (.int 0) zp_c zp_p2) zp_pos) zp_s zp_k (.int zp_x.num (tokAt zp_s.heap zp_a 0)) (zp_k1 + 1) := by
  obtain ⟨t1, t2, I⟩ := I.tup F N X
  refine ⟨fun Q E h => ?_⟩
  rw [← tok0 I] at h
  exact Subscript_ (he.go _ _ (wpAny_Constant_int (item_tupleT (l := [.int zp_x.num t1, .int zp_x.den t2]) (j := 0) I (by decide) (by decide) rfl rfl h)))
theorem PE.sub1 {zp_c : Nat} (he : PE (MM zp_w) zp_A zp_env zp_e zp_s zp_k (.ref zp_a) zp_k1) (I : At zp_w zp_news zp_a zp_n zp_x) (F : Fr zp_h₀ zp_L zp_s.heap zp_m) (N : News zp_h₀ zp_L zp_s.heap zp_news) (X : (KK zp_w.params).In zp_h₀) :
    PE (MM zp_w) zp_A zp_env (.Subscript zp_e (.Constant (.int 1) zp_c zp_p2) zp_pos) zp_s zp_k (.int zp_x.den (tokAt zp_s.heap zp_a 1)) (zp_k1 + 1) := by
  obtain ⟨t1, t2, I⟩ := I.tup F N X
  refine ⟨fun Q E h => ?_⟩
  rw [← tok1 I] at h
  exact Subscript_ (he.go _ _ (wpAny_Constant_int (item_tupleT (l := [.int zp_x.num t1, .int zp_x.den t2]) (j := 1) I (by decide) (by decide) rfl rfl h)))
theorem PE.add (hl : PE (MM zp_w) zp_A zp_env zp_l zp_s zp_k (.int zp_i zp_t) zp_k1) (hr : PE (MM zp_w) zp_A zp_env zp_r zp_s zp_k1 (.int zp_j zp_u) zp_k2) : PE (MM zp_w) zp_A zp_env (.BinOp zp_l .Add zp_r zp_pos) zp_s zp_k (.int (zp_i + zp_j) zp_k2) (zp_k2 + 1) := ⟨fun _ _ h => wpAny_BinOp (hl.go _ _ (hr.go _ _ (add_int h)))⟩
theorem PE.sub (hl : PE (MM zp_w) zp_A zp_env zp_l zp_s zp_k (.int zp_i zp_t) zp_k1) (hr : PE (MM zp_w) zp_A zp_env zp_r zp_s zp_k1 (.int zp_j zp_u) zp_k2) : PE (MM zp_w) zp_A zp_env (.BinOp zp_l .Sub zp_r zp_pos) zp_s zp_k (.int (zp_i - zp_j) zp_k2) (zp_k2 + 1) := ⟨fun _ _ h => wpAny_BinOp (hl.go _ _ (hr.go _ _ (sub_int h)))⟩
theorem PE.mul {zp_nx zp_ny : Nat} (hl : PE (MM zp_w) zp_A zp_env zp_l zp_s zp_k (.int zp_i zp_t) zp_k1) (hr : PE (MM zp_w) zp_A zp_env zp_r zp_s zp_k1 (.int zp_j zp_u) zp_k2) (ha : Bi zp_nx zp_i) (hb : Bi zp_ny zp_j) (hc : zp_nx + zp_ny ≤ 134217728) : PE (MM zp_w) zp_A zp_env (.BinOp zp_l .Mult zp_r zp_pos) zp_s zp_k (.int (zp_i * zp_j) zp_k2) (zp_k2 + 1) := ⟨fun _ _ h => wpAny_BinOp (hl.go _ _ (hr.go _ _ (PyProof.Rows.mul_int h (IntMulOk.of_le (Bi.le ha) (Bi.le hb) hc))))⟩
theorem PE.cstr {zp_c : Nat} {zp_x : Str} : PE (MM zp_w) zp_A zp_env (.Constant (.str zp_x) zp_c zp_pos) zp_s zp_k (.str zp_x zp_k) (zp_k + 1) := ⟨fun _ _ h => PySem.Calls.Constant_str h⟩
theorem PE.cbool {zp_c : Nat} {zp_b : Bool} : PE (MM zp_w) zp_A zp_env (.Constant (.bool zp_b) zp_c zp_pos) zp_s zp_k (.bool zp_b) zp_k := ⟨fun _ _ h => wpAny_Constant_bool h⟩
theorem PE.glob (F : Fr zp_h₀ zp_L zp_s.heap zp_m) (X : (KK zp_w.params).In zp_h₀) (T : Top zp_p zp_loose zp_mean zp_mg zp_mb zp_h₀) (hg : nsIn (KK zp_w.params) mainGlobals zp_nm = some (some zp_v)) (hk : zp_cs.kind = .function := by rfl) (hx : (envX zp_cn zp_cs zp_L zp_ad zp_ccd zp_cl).kindOf zp_nm = some .globalImplicit := by rfl) (hd : (zp_nm == ("__debug__" : Str)) = false := by decide) :
    PE (MM zp_w) zp_A (envX zp_cn zp_cs zp_L zp_ad zp_ccd zp_cl) (.Name zp_nm zp_pos) zp_s zp_k zp_v zp_k := ⟨fun _ _ h => nameX_K F X (topRead_of T) hg h hk hx hd⟩
theorem PE.neg (hl : PE (MM zp_w) zp_A zp_env zp_l zp_s zp_k (.int zp_i zp_t) zp_k1) : PE (MM zp_w) zp_A zp_env (.UnaryOp .USub zp_l zp_pos) zp_s zp_k (.int (-zp_i) zp_k1) (zp_k1 + 1) := ⟨fun _ _ h => UnaryOp_ (hl.go _ _ (PyProof.Rows.neg_int h))⟩
theorem PE.fdiv (hl : PE (MM zp_w) zp_A zp_env zp_l zp_s zp_k (.int zp_i zp_t) zp_k1) (hr : PE (MM zp_w) zp_A zp_env zp_r zp_s zp_k1 (.int zp_j zp_u) zp_k2) (h0 : zp_j ≠ 0) (ha : Bi zp_n zp_j) (hc : zp_n ≤ 8000) : PE (MM zp_w) zp_A zp_env (.BinOp zp_l .FloorDiv zp_r zp_pos) zp_s zp_k (.int (zp_i.fdiv zp_j) zp_k2) (zp_k2 + 1) := ⟨fun _ _ h => wpAny_BinOp (hl.go _ _ (hr.go _ _ (floordiv_int h0 h (Or.inl (PyProof.noPylong_of_log2 (Bi.log ha hc))))))⟩
theorem PE.mod (hl : PE (MM zp_w) zp_A zp_env zp_l zp_s zp_k (.int zp_i zp_t) zp_k1) (hr : PE (MM zp_w) zp_A zp_env zp_r zp_s zp_k1 (.int zp_j zp_u) zp_k2) (h0 : zp_j ≠ 0) : PE (MM zp_w) zp_A zp_env (.BinOp zp_l .Mod zp_r zp_pos) zp_s zp_k (.int (zp_i.fmod zp_j) zp_k2) (zp_k2 + 1) := ⟨fun _ _ h => wpAny_BinOp (hl.go _ _ (hr.go _ _ (PyProof.Rows.mod_int h0 h)))⟩
theorem PE.tup {zp_q : Addr} {zp_tl : List Value} {zp_c zp_c2 : Nat} {zp_jn : Nat} (he : PE (MM zp_w) zp_A zp_env zp_e zp_s zp_k (.ref zp_q) zp_k1) (N : News zp_h₀ zp_L zp_s.heap zp_news) (hm : (zp_q, ({ cls := .type "tuple", data := .seq zp_tl.toArray zp_c } : Obj)) ∈ zp_news) (hi : seqIndex? zp_i zp_tl.length = some zp_jn) (hj : zp_tl[zp_jn]? = some zp_v) (hlo : -(2 ^ 63) ≤ zp_i) (hhi : zp_i < 2 ^ 63) :
    PE (MM zp_w) zp_A zp_env (.Subscript zp_e (.Constant (.int zp_i) zp_c2 zp_p2) zp_pos) zp_s zp_k zp_v (zp_k1 + 1) := ⟨fun _ _ h => Subscript_ (he.go _ _ (wpAny_Constant_int (item_tupleT (l := zp_tl) (j := zp_jn) (News.isTup N hm) hlo hhi hi hj h)))⟩
theorem PE.attr {zp_ca zp_q : Addr} {zp_ob : Obj} {zp_es : List DictEntry} {zp_nn : Nat} {zp_y : Str} {zp_attr : Option Value} (he : PE (MM zp_w) zp_A zp_env (.Name zp_y zp_p2) zp_s zp_k (.ref zp_q) zp_k1) (F : Fr zp_h₀ zp_L zp_s.heap zp_m) (X : (KK zp_w.params).In zp_h₀) (I : InstAt zp_s.heap zp_q zp_ob zp_ca (some (dictOf zp_es zp_nn)))
    (hg : plainGet (KK zp_w.params) zp_ca zp_nm = true) (hh : hasDictIn (KK zp_w.params) zp_ca = true) (ha : findIn (KK zp_w.params) (.ref zp_ca) zp_nm = some zp_attr) (hn : noGet (KK zp_w.params) zp_attr = true) (hl : getL zp_nm zp_es = some (some zp_v)) (hv : handedIn zp_v = true) :
    PE (MM zp_w) zp_A zp_env (.Attribute (.Name zp_y zp_p2) zp_nm zp_pos) zp_s zp_k zp_v (zp_k1 + 1) := ⟨fun _ _ h => Attribute_Name_ (he.go _ _ (get_own F X I hg hh ha hn hl hv h))⟩
theorem PA.run {zp_es : List Expr} {zp_vs : List Value} {Q : List Value → Shared → Prop} {E : Value → Shared → Prop} (h : PA (MM zp_w) zp_A zp_env zp_pos zp_es zp_s zp_s.toks zp_vs zp_k1) (zp_q : Q zp_vs { zp_s with toks := zp_k1 }) : wpAny (MM zp_w) zp_A (spliced (backTo zp_pos (starEach zp_es zp_env))) Q E zp_s := h.go Q E zp_q
theorem PA.nil : PA (MM zp_w) zp_A zp_env zp_pos [] zp_s zp_k [] zp_k := ⟨fun _ _ h => args_nil h⟩
theorem PA.cons {zp_es : List Expr} {zp_vs : List Value} (he : PE (MM zp_w) zp_A zp_env zp_e zp_s zp_k zp_v zp_k1) (hs : PA (MM zp_w) zp_A zp_env zp_pos zp_es zp_s zp_k1 zp_vs zp_k2) (hq : starEach (zp_e :: zp_es) zp_env = (false, eval zp_e zp_env) :: starEach zp_es zp_env := by rfl) : PA (MM zp_w) zp_A zp_env zp_pos (zp_e :: zp_es) zp_s zp_k (zp_v :: zp_vs) zp_k2 := ⟨fun _ _ h => args_cons (he.go _ _ (hs.go _ _ h)) hq⟩
/-- zp_a call of zp_a def by its name, on pure arguments -/
theorem call_pe {zp_f : Addr} {zp_es : List Expr} {zp_vs : List Value} {Q E : Value → Shared → Prop} {zp_px : Pos} (F : Fr zp_h₀ zp_L zp_s.heap zp_m) (X : (KK zp_w.params).In zp_h₀) (T : Top zp_p zp_loose zp_mean zp_mg zp_mb zp_h₀) (hg : nsIn (KK zp_w.params) mainGlobals zp_nm = some (some (.ref zp_f))) (hkp : keepIn (KK zp_w.params) (.ref zp_f) = true)
    (ha : PA (MM zp_w) zp_A (envX zp_cn zp_cs zp_L zp_ad zp_ccd zp_cl) zp_pos (zp_e :: zp_es) zp_s zp_s.toks zp_vs zp_k1) (h : wpAny (MM zp_w) zp_A (call (.ref zp_f) zp_vs) Q E { zp_s with toks := zp_k1 })
    (hk : zp_cs.kind = .function := by rfl) (hx : (envX zp_cn zp_cs zp_L zp_ad zp_ccd zp_cl).kindOf zp_nm = some .globalImplicit := by rfl) (hd : (zp_nm == ("__debug__" : Str)) = false := by decide)
    (he : eval (.Call (.Name zp_nm zp_px) (zp_e :: zp_es) [] zp_pos) (envX zp_cn zp_cs zp_L zp_ad zp_ccd zp_cl) = (do callWith zp_pos (← eval (.Name zp_nm zp_px) (envX zp_cn zp_cs zp_L zp_ad zp_ccd zp_cl)) [] (backTo zp_pos (starEach (zp_e :: zp_es) (envX zp_cn zp_cs zp_L zp_ad zp_ccd zp_cl))) (backToKw zp_pos (keywordEach [] (envX zp_cn zp_cs zp_L zp_ad zp_ccd zp_cl)))) := by rfl)
    (hs : starEach (zp_e :: zp_es) (envX zp_cn zp_cs zp_L zp_ad zp_ccd zp_cl) = (false, eval zp_e (envX zp_cn zp_cs zp_L zp_ad zp_ccd zp_cl)) :: starEach zp_es (envX zp_cn zp_cs zp_L zp_ad zp_ccd zp_cl) := by rfl) (hplain : (backTo zp_pos (starEach zp_es (envX zp_cn zp_cs zp_L zp_ad zp_ccd zp_cl))).any (·.1) = false := by rfl) :
    wpAny (MM zp_w) zp_A (eval (.Call (.Name zp_nm zp_px) (zp_e :: zp_es) [] zp_pos) (envX zp_cn zp_cs zp_L zp_ad zp_ccd zp_cl)) Q E zp_s :=
  Call_ (nameX_K F X (topRead_of T) hg (callWith_K (X.keeps F.keep) hkp (ha.go _ _ ⟨X.keeps F.keep, h⟩) hs hplain) hk hx hd) he
end
/-- what stands behind a statement: the rest of its block -/
def Sq (M : Model) (A : Around) (rest : List Stmt) (env : Env) (Q : Flow → Shared → Prop) (E : Value → Shared → Prop) (fl : Flow) (s : Shared) : Prop :=
  match fl with | .next => wpAny M A (execs rest env) Q E s | f => Q f s
theorem room_d {dp K D R : Nat} (h : dp + K < R) (e : 1 + D ≤ K) : dp + 1 + D < R := by omega
theorem room_u {un K D R : Nat} (h : un + 8 * K < R) (e : 3 + 8 * D ≤ 8 * K) : un + 3 + 8 * D < R := by omega
theorem room_e {dp K R : Nat} (h : dp + K < R) : dp < R := by omega
theorem sq_cons {zs_M : Model} {zs_A : Around} {zs_rest : List Stmt} {zs_env : Env} {zs_Q : Flow → Shared → Prop} {zs_E : Value → Shared → Prop} {zs_st : Stmt} {zs_s : Shared} (h : let q := Sq zs_M zs_A zs_rest zs_env zs_Q zs_E; wpAny zs_M zs_A (exec zs_st zs_env) q zs_E zs_s) : wpAny zs_M zs_A (execs (zs_st :: zs_rest) zs_env) zs_Q zs_E zs_s := wpAny_execs_cons h
theorem Sq.on {zs_M : Model} {zs_A : Around} {zs_rest : List Stmt} {zs_env : Env} {zs_Q : Flow → Shared → Prop} {zs_E : Value → Shared → Prop} {zs_s : Shared} (h : wpAny zs_M zs_A (execs zs_rest zs_env) zs_Q zs_E zs_s) : Sq zs_M zs_A zs_rest zs_env zs_Q zs_E .next zs_s := h
theorem Sq.rt {zs_M : Model} {zs_A : Around} {zs_rest : List Stmt} {zs_env : Env} {zs_Q : Flow → Shared → Prop} {zs_E : Value → Shared → Prop} {zs_s : Shared} {zs_v : Value} (h : zs_Q (.ret zs_v) zs_s) : Sq zs_M zs_A zs_rest zs_env zs_Q zs_E (.ret zs_v) zs_s := h
theorem Sq.br {zs_M : Model} {zs_A : Around} {zs_rest : List Stmt} {zs_env : Env} {zs_Q : Flow → Shared → Prop} {zs_E : Value → Shared → Prop} {zs_s : Shared} (h : zs_Q .brk zs_s) : Sq zs_M zs_A zs_rest zs_env zs_Q zs_E .brk zs_s := h
theorem Sq.cn {zs_M : Model} {zs_A : Around} {zs_rest : List Stmt} {zs_env : Env} {zs_Q : Flow → Shared → Prop} {zs_E : Value → Shared → Prop} {zs_s : Shared} (h : zs_Q .cont zs_s) : Sq zs_M zs_A zs_rest zs_env zs_Q zs_E .cont zs_s := h
theorem add_b {w : World} {A : Around} {E : Value → Shared → Prop} {s : Shared} {zx zy : Str} {zt zu : Tok} {Q : Value → Shared → Prop} {za zb : Nat} (hx : zx.length ≤ za) (hy : zy.length ≤ zb) (hab : za + zb ≤ 16777216) (h : ∀ t' k, (zx ++ zy).length ≤ za + zb → Q (.str (zx ++ zy) t') { s with toks := k }) :
    wpAny (model PySem.Challenge.pw_pf0196_01 w) A (binaryOp .Add (.str zx zt) (.str zy zu)) Q E s := KOpn.add (Nat.le_trans (Nat.add_le_add hx hy) hab) fun t' k hl => h t' k (Nat.le_trans hl.2 (Nat.add_le_add hx hy))
theorem fold_AE {M : Model} {A : Around} {b : List Stmt} {e : Env} {Q : Flow → Shared → Prop} {E : Value → Shared → Prop} {s : Shared} (h : let A' := A; let e' := e; wpAny M A' (execs b e') Q E s) : wpAny M A (execs b e) Q E s := h
theorem fr_let {P : Prop} {h₀ h : Heap} {L : Addr} {m : Str → Option Value} (F : Fr h₀ L h m) (k : let m' := m; Fr h₀ L h m' → P) : P := k F
section
variable {zt_M : Model} {zt_A : Around} {zt_E : Value → Shared → Prop} {zt_s : Shared} {zt_h₀ : Heap} {zt_L zt_a : Addr} {zt_m : Str → Option Value} {zt_news : List (Addr × Obj)} {zt_cn zt_x : Str} {zt_cs : Scope} {zt_ccd zt_v : Value} {zt_cl : List (Str × Addr)} {zt_Q : Unit → Shared → Prop}
theorem store_let (F : Fr zt_h₀ zt_L zt_s.heap zt_m) (N : News zt_h₀ zt_L zt_s.heap zt_news)
    (h : let m' := (fun y => if y = zt_x then some zt_v else zt_m y); ∀ h', Fr zt_h₀ zt_L h' m' → News zt_h₀ zt_L h' zt_news → zt_Q () { zt_s with heap := h', toks := zt_s.toks + 1 })
    (hk : zt_cs.kind = .function := by rfl) (hx : (envX zt_cn zt_cs zt_L zt_a zt_ccd zt_cl).kindOf zt_x = some .local := by rfl) : wpAny zt_M zt_A (storeName (envX zt_cn zt_cs zt_L zt_a zt_ccd zt_cl) zt_x zt_v) zt_Q zt_E zt_s := storeX_L F N (fun h' F' N' => h h' F' N') hk hx
end
theorem fillC1 : (KK = KK ∧ PySem.Challenge.rw_pf0196_01 = PySem.Challenge.rw_pf0196_01) := by
  k_fill
  exact ⟨rfl, rfl⟩
theorem cd_spec (one other : Int) (t u : Tok) (n : Nat) (news : List (Addr × Obj)) (h0 : 0 < other) (hn : Bi n other) :
    Fn w p loose mean mg mb 1 86 [.int one t, .int other u] news (fun v news' => news' = news ∧ ∃ g t', v = .int g t' ∧ g = (one.gcd other : Int) ∧ 0 < g ∧ Bi n g) := by
  have zg1 := trivial
  have zg2 := trivial
  have zg3 := trivial
  have zg50 := trivial
  intro dp un gd cn cs a ccd cl outer A₀ base h₀ L m s Q E B F X N T hk hd hu hret
  have h0' : 0 ≤ other := by omega
  k_with "state" => (guard_hyp zg50 : True); first | exact gcd_start h0' | exact gcd_turn (by assumption) (by assumption) (by assumption)
  k_with "measure" => (guard_hyp zg50 : True); exact gcd_less (by omega)
  k_with "exec While Compare cons nil" => (guard_hyp zg50 : True); k_while_given ["first!", "second!"] (fun f0 s0 script f s => 0 ≤ f ∧ 0 ≤ s ∧ Int.gcd f s = Int.gcd f0 s0) (fun f0 s0 script f s => s.toNat) "first" "second"
  refine wpAny_call ?_
  k_extra "my_enter"
  k_steps
  all_goals (exact hret _ _ _ _ (by k_asm) (cb_drop (by assumption) (by kcj_all)) ⟨rfl, _, _, rfl, cd_out h0 hn (by assumption) (by assumption) (by omega) (by assumption)⟩)
-- C2
theorem fraction_spec (top bottom : Int) (t u : Tok) (n : Nat) (news : List (Addr × Obj)) (h0 : bottom ≠ 0) (ht : Bi n top) (hb : Bi n bottom) (hn : n ≤ 8000) :
    Fn w p loose mean mg mb 2 94 [.int top t, .int bottom u] news (FrOut news n (Rat.divInt top bottom)) := by
  have zg1 := trivial
  have zg2 := trivial
  have zg3 := trivial
  have zg4 := trivial
  have zg6 := trivial
  have zg51 := trivial
  intro dp un gd cn cs a ccd cl outer A₀ base h₀ L m s Q E B F X N T hk hd hu hret
  have hnb := Bi.neg hb
  k_with "exec Raise some none" => (guard_hyp zg51 : True); (exfalso; omega)
  refine wpAny_call ?_
  k_extra "my_enter"
  k_steps
  all_goals (subst_vars; (rename News h₀ L _ _ => nE); (first | rw [fr_of (frac_neg (by omega))] at nE | rw [fr_of (frac_pos (by omega))] at nE))
  all_goals (exact hret _ _ _ _ (by k_asm) (cb_drop nE (by kcj_all)) ⟨_, _, _, _, _, rfl, rfl, rfl, by k_extra "my_lt", Br.divInt ht hb h0⟩)
-- C3
theorem plus_spec (a b : Addr) (x y : Rat) (i j : Nat) (news : List (Addr × Obj)) (hx : At w news a i x) (hy : At w news b j y) (hn : i + j + 1 ≤ 8000) :
    Fn w p loose mean mg mb 3 101 [.ref a, .ref b] news (FrOut news (i + j + 1) (x + y)) := by
  have zg1 := trivial
  have zg2 := trivial
  have zg3 := trivial
  have zg4 := trivial
  have zg13 := trivial
  have zg32 := trivial
  have zg52 := trivial
  intro dp un gd cn cs a ccd cl outer A₀ base h₀ L m s Q E B F X N T hk hd hu hret
  have hx' := hx.1
  have hy' := hy.1
  have hne : (x.den * y.den : Int) ≠ 0 := Int.mul_ne_zero (den_ne x) (den_ne y)
  have hb1 : Bi (i + j + 1) (x.num * y.den + y.num * x.den) := Bi.add (hx'.num.mul hy'.den) (by have := hy'.num.mul hx'.den; rwa [Nat.add_comm] at this)
  have hb2 : Bi (i + j + 1) (x.den * y.den : Int) := (hx'.den.mul hy'.den).up (by omega)
  refine wpAny_call ?_
  k_extra "my_enter"
  k_steps
  all_goals (rename News h₀ L _ _ => nE)
  all_goals (rename _ = Rat.divInt _ _ => eY; replace eY := eY.trans (r_add x y))
  all_goals (exact hret _ _ _ _ (by k_asm) nE ⟨_, _, _, _, _, rfl, eY, rfl, by k_extra "my_lt", by assumption⟩)

theorem minus_spec (a b : Addr) (x y : Rat) (i j : Nat) (news : List (Addr × Obj)) (hx : At w news a i x) (hy : At w news b j y) (hn : i + j + 1 ≤ 8000) :
    Fn w p loose mean mg mb 3 108 [.ref a, .ref b] news (FrOut news (i + j + 1) (x - y)) := by
  have zg1 := trivial
  have zg2 := trivial
  have zg3 := trivial
  have zg4 := trivial
  have zg13 := trivial
  have zg32 := trivial
  have zg52 := trivial
  intro dp un gd cn cs a ccd cl outer A₀ base h₀ L m s Q E B F X N T hk hd hu hret
  have hx' := hx.1
  have hy' := hy.1
  have hne : (x.den * y.den : Int) ≠ 0 := Int.mul_ne_zero (den_ne x) (den_ne y)
  have hb1 : Bi (i + j + 1) (x.num * y.den - y.num * x.den) := Bi.sub (hx'.num.mul hy'.den) (by have := hy'.num.mul hx'.den; rwa [Nat.add_comm] at this)
  have hb2 : Bi (i + j + 1) (x.den * y.den : Int) := (hx'.den.mul hy'.den).up (by omega)
  refine wpAny_call ?_
  k_extra "my_enter"
  k_steps
  all_goals (rename News h₀ L _ _ => nE)
  all_goals (rename _ = Rat.divInt _ _ => eY; replace eY := eY.trans (r_sub x y))
  all_goals (exact hret _ _ _ _ (by k_asm) nE ⟨_, _, _, _, _, rfl, eY, rfl, by k_extra "my_lt", by assumption⟩)

theorem times_spec (a b : Addr) (x y : Rat) (i j : Nat) (news : List (Addr × Obj)) (hx : At w news a i x) (hy : At w news b j y) (hn : i + j ≤ 8000) :
    Fn w p loose mean mg mb 3 115 [.ref a, .ref b] news (FrOut news (i + j) (x * y)) := by
  have zg1 := trivial
  have zg2 := trivial
  have zg3 := trivial
  have zg4 := trivial
  have zg13 := trivial
  have zg32 := trivial
  have zg52 := trivial
  intro dp un gd cn cs a ccd cl outer A₀ base h₀ L m s Q E B F X N T hk hd hu hret
  have hx' := hx.1
  have hy' := hy.1
  have hne : (x.den * y.den : Int) ≠ 0 := Int.mul_ne_zero (den_ne x) (den_ne y)
  have hb1 : Bi (i + j) (x.num * y.num) := hx'.num.mul hy'.num
  have hb2 : Bi (i + j) (x.den * y.den : Int) := hx'.den.mul hy'.den
  refine wpAny_call ?_
  k_extra "my_enter"
  k_steps
  all_goals (rename News h₀ L _ _ => nE)
  all_goals (rename _ = Rat.divInt _ _ => eY; replace eY := eY.trans (r_mul x y))
  all_goals (exact hret _ _ _ _ (by k_asm) nE ⟨_, _, _, _, _, rfl, eY, rfl, by k_extra "my_lt", by assumption⟩)

theorem divided_spec (a b : Addr) (x y : Rat) (i j : Nat) (news : List (Addr × Obj)) (hx : At w news a i x) (hy : At w news b j y) (h0 : y ≠ 0) (hn : i + j ≤ 8000) :
    Fn w p loose mean mg mb 3 122 [.ref a, .ref b] news (FrOut news (i + j) (x / y)) := by
  have zg1 := trivial
  have zg2 := trivial
  have zg3 := trivial
  have zg4 := trivial
  have zg13 := trivial
  have zg32 := trivial
  have zg52 := trivial
  intro dp un gd cn cs a ccd cl outer A₀ base h₀ L m s Q E B F X N T hk hd hu hret
  have hx' := hx.1
  have hy' := hy.1
  have h1 := num_ne h0
  have hne : (x.den * y.num : Int) ≠ 0 := Int.mul_ne_zero (den_ne x) (num_ne h0)
  have hb1 : Bi (i + j) (x.num * y.den) := hx'.num.mul hy'.den
  have hb2 : Bi (i + j) (x.den * y.num : Int) := hx'.den.mul hy'.num
  k_with "exec Raise some none" => (guard_hyp zg52 : True); (exfalso; omega)
  refine wpAny_call ?_
  k_extra "my_enter"
  k_steps
  all_goals (rename News h₀ L _ _ => nE)
  all_goals (rename _ = Rat.divInt _ _ => eY; replace eY := eY.trans (r_div x y))
  all_goals (exact hret _ _ _ _ (by k_asm) nE ⟨_, _, _, _, _, rfl, eY, rfl, by k_extra "my_lt", by assumption⟩)

-- C4
theorem negated_spec (a : Addr) (x : Rat) (i : Nat) (news : List (Addr × Obj)) (hx : At w news a i x) :
    Fn w p loose mean mg mb 1 129 [.ref a] news (FrOut news i (-x)) := by
  have zg1 := trivial
  have zg2 := trivial
  have zg3 := trivial
  have zg4 := trivial
  intro dp un gd cn cs a ccd cl outer A₀ base h₀ L m s Q E B F X N T hk hd hu hret
  have hx' := hx.1
  refine wpAny_call ?_
  k_extra "my_enter"
  k_steps
  all_goals (rename News h₀ L _ _ => nE)
  all_goals (exact hret _ _ _ _ (by k_asm) nE ⟨_, _, _, _, _, rfl, rfl, rfl, by k_extra "my_lt", hx'.neg⟩)

theorem sign_spec (a : Addr) (x : Rat) (i : Nat) (news : List (Addr × Obj)) (hx : At w news a i x) :
    Fn w p loose mean mg mb 1 136 [.ref a] news (fun v news' => news' = news ∧ ∃ c t, v = .int c t ∧ (c < 0 ↔ x.num < 0) ∧ (c = 0 ↔ x.num = 0) ∧ (c > 0 ↔ x.num > 0)) := by
  have zg1 := trivial
  have zg2 := trivial
  have zg3 := trivial
  have zg4 := trivial
  intro dp un gd cn cs a ccd cl outer A₀ base h₀ L m s Q E B F X N T hk hd hu hret
  have hx' := hx.1
  refine wpAny_call ?_
  k_extra "my_enter"
  k_steps
  all_goals (exact hret _ _ _ _ (by k_asm) (cb_drop (by assumption) (by kcj_all)) ⟨rfl, _, _, rfl, by omega, by omega, by omega⟩)

-- C4b
theorem compare_spec (a b : Addr) (x y : Rat) (i j : Nat) (news : List (Addr × Obj)) (hx : At w news a i x) (hy : At w news b j y) (hn : i + j + 1 ≤ 8000) :
    Fn w p loose mean mg mb 2 143 [.ref a, .ref b] news (fun v news' => news' = news ∧ ∃ c t, v = .int c t ∧ (c < 0 ↔ x < y) ∧ (c = 0 ↔ x = y) ∧ (c > 0 ↔ y < x)) := by
  have zg1 := trivial
  have zg2 := trivial
  have zg3 := trivial
  have zg4 := trivial
  have zg7 := trivial
  have zg12 := trivial
  have zg53 := trivial
  intro dp un gd cn cs a ccd cl outer A₀ base h₀ L m s Q E B F X N T hk hd hu hret
  have hx' := hx.1
  have hy' := hy.1
  have hb1 : Bi (i + j + 1) (x.num * y.den - y.num * x.den) := Bi.sub (hx'.num.mul hy'.den) (by have := hy'.num.mul hx'.den; rwa [Nat.add_comm] at this)
  refine wpAny_call ?_
  k_extra "my_enter"
  k_steps
  all_goals (exact hret _ _ _ _ (by k_asm) (cb_drop (by assumption) (by kcj_all)) ⟨rfl, _, _, rfl, cmp_out rfl (by assumption)⟩)

theorem lpart_spec (top bottom : Int) (t u : Tok) (n : Nat) (news : List (Addr × Obj)) (h0 : 0 < bottom) (ht : Bi n top) (hb : Bi n bottom) (hn : n ≤ 8000) :
    Fn w p loose mean mg mb 1 408 [.int top t, .int bottom u] news (FrOut news n (Rat.divInt top bottom)) := by
  have zg1 := trivial
  have zg2 := trivial
  have zg3 := trivial
  have zg4 := trivial
  have zg7 := trivial
  have zg12 := trivial
  have zg53 := trivial
  intro dp un gd cn cs a ccd cl outer A₀ base h₀ L m s Q E B F X N T hk hd hu hret
  have hnb := Bi.neg hb
  have h0' : 0 ≤ bottom := by omega
  k_with "state" => (guard_hyp zg53 : True); first | exact gcd_start h0' | exact gcd_turn (by assumption) (by assumption) (by assumption)
  k_with "measure" => (guard_hyp zg53 : True); exact gcd_less (by omega)
  k_with "exec Return some" => (guard_hyp zg53 : True); (obtain ⟨eg, pg, bg⟩ := cd_out2 (by assumption) h0 hb (by assumption) (by assumption) (by omega); refine wpAny_Return_some ?_)
  k_with "exec While Compare cons nil" => (guard_hyp zg53 : True); k_while_given ["one!", "other!"] (fun f0 s0 script f s => 0 ≤ f ∧ 0 ≤ s ∧ Int.gcd f s = Int.gcd f0 s0) (fun f0 s0 script f s => s.toNat) "one" "other"
  refine wpAny_call ?_
  k_extra "my_enter"
  k_steps
  all_goals (subst_vars; (rename News h₀ L _ _ => nE); (rw [fr_of (frac_pos h0)] at nE))
  all_goals (exact hret _ _ _ _ (by k_asm) (cb_drop nE (by kcj_all)) ⟨_, _, _, _, _, rfl, rfl, rfl, by k_extra "my_lt", Br.divInt ht hb (by omega)⟩)
-- C5
theorem lsum_spec (a b : Addr) (x y : Rat) (i j : Nat) (news : List (Addr × Obj)) (hx : At w news a i x) (hy : At w news b j y) (hn : i + j + 1 ≤ 8000) :
    Fn w p loose mean mg mb 2 415 [.ref a, .ref b] news (FrOut news (i + j + 1) (x + y)) := by
  have zg1 := trivial
  have zg2 := trivial
  have zg3 := trivial
  have zg4 := trivial
  have zg7 := trivial
  have zg10 := trivial
  intro dp un gd cn cs a ccd cl outer A₀ base h₀ L m s Q E B F X N T hk hd hu hret
  have hx' := hx.1
  have hy' := hy.1
  have hne : 0 < (x.den * y.den : Int) := Int.mul_pos (den_pos x) (den_pos y)
  have hb1 : Bi (i + j + 1) (x.num * y.den + y.num * x.den) := Bi.add (hx'.num.mul hy'.den) (by have := hy'.num.mul hx'.den; rwa [Nat.add_comm] at this)
  have hb2 : Bi (i + j + 1) (x.den * y.den : Int) := (hx'.den.mul hy'.den).up (by omega)
  refine wpAny_call ?_
  k_extra "my_enter"
  k_steps
  all_goals (rename News h₀ L _ _ => nE)
  all_goals (rename _ = Rat.divInt _ _ => eY; replace eY := eY.trans (r_add x y))
  all_goals (exact hret _ _ _ _ (by k_asm) nE ⟨_, _, _, _, _, rfl, eY, rfl, by k_extra "my_lt", by assumption⟩)

theorem lprod_spec (a b : Addr) (x y : Rat) (i j : Nat) (news : List (Addr × Obj)) (hx : At w news a i x) (hy : At w news b j y) (hn : i + j ≤ 8000) :
    Fn w p loose mean mg mb 2 422 [.ref a, .ref b] news (FrOut news (i + j) (x * y)) := by
  have zg1 := trivial
  have zg2 := trivial
  have zg3 := trivial
  have zg4 := trivial
  have zg7 := trivial
  have zg10 := trivial
  intro dp un gd cn cs a ccd cl outer A₀ base h₀ L m s Q E B F X N T hk hd hu hret
  have hx' := hx.1
  have hy' := hy.1
  have hne : 0 < (x.den * y.den : Int) := Int.mul_pos (den_pos x) (den_pos y)
  have hb1 : Bi (i + j) (x.num * y.num) := hx'.num.mul hy'.num
  have hb2 : Bi (i + j) (x.den * y.den : Int) := hx'.den.mul hy'.den
  refine wpAny_call ?_
  k_extra "my_enter"
  k_steps
  all_goals (rename News h₀ L _ _ => nE)
  all_goals (rename _ = Rat.divInt _ _ => eY; replace eY := eY.trans (r_mul x y))
  all_goals (exact hret _ _ _ _ (by k_asm) nE ⟨_, _, _, _, _, rfl, eY, rfl, by k_extra "my_lt", by assumption⟩)

-- C5b
theorem lless_spec (a b : Addr) (x y : Rat) (i j : Nat) (news : List (Addr × Obj)) (hx : At w news a i x) (hy : At w news b j y) (hn : i + j + 1 ≤ 8000) :
    Fn w p loose mean mg mb 3 429 [.ref a, .ref b] news (FrOut news (i + j + 1) (x - y)) := by
  have zg1 := trivial
  have zg2 := trivial
  have zg3 := trivial
  have zg4 := trivial
  have zg7 := trivial
  have zg54 := trivial
  intro dp un gd cn cs a ccd cl outer A₀ base h₀ L m s Q E B F X N T hk hd hu hret
  have hx' := hx.1
  have hy' := hy.1
  k_with "call ref" => (guard_hyp zg54 : True); ((rename News _ _ _ _ => nE); (rw [neg_fr] at nE); (k_dflt (refine' Fn.use (lsum_spec _ _ x (-y) i j _ (At.cons hx) (At.here (List.Mem.head _) hy'.neg) hn) ?B ?F ?X ?N ?T ?hk ?hd ?hu ?_)); (case N => exact nE); k_extra "my_use")
  refine wpAny_call ?_
  k_extra "my_enter"
  k_steps
  all_goals (rename News h₀ L _ _ => nE)
  all_goals (rename _ = x + -y => eY; rw [← Rat.sub_eq_add_neg] at eY)
  all_goals (exact hret _ _ _ _ (by k_asm) (cb_drop nE (by kcj_all)) ⟨_, _, _, _, _, rfl, eY, rfl, by k_extra "my_lt", by assumption⟩)
-- C6

theorem mx_new (a b c d e f : Addr) (news : List (Addr × Obj)) :
    Fn w p loose mean mg mb 2 332 [.ref a, .ref b, .ref c, .ref d, .ref e, .ref f] news (fun v news' => ∃ x dx t1 t2 t3 t4 t5 t6, v = .ref x ∧ news' = (x, instObj 332 dx) :: (dx, mxd w t1 t2 t3 t4 t5 t6 a b c d e f) :: news ∧ (∀ p ∈ news, p.1 < dx) ∧ dx < x) := by
  have zg1 := trivial
  have zg2 := trivial
  have zg3 := trivial
  have zg4 := trivial
  have zg13 := trivial
  have zg33 := trivial
  intro dp un gd cn cs a ccd cl outer A₀ base h₀ L m s Q E B F X N T hk hd hu hret
  k_steps
  all_goals (exact hret _ _ _ _ (by k_asm) (by assumption) ⟨_, _, _, _, _, _, _, _, rfl, rfl, by k_extra "my_lt", by assumption⟩)

theorem vector_spec (mx q : Addr) (a b c d e f x y : Rat) (i j : Nat) (news : List (Addr × Obj)) (hM : MxAt w news mx i a b c d e f) (hp : PtAt w news q j x y) (hn : i + j + (i + j) + 1 ≤ 8000) :
    Fn w p loose mean mg mb 4 301 [.ref mx, .ref q] news (PtOut news (i + j + (i + j) + 1) (a * x + c * y) (b * x + d * y)) := by
  have zg1 := trivial
  have zg2 := trivial
  have zg3 := trivial
  have zg4 := trivial
  have zg13 := trivial
  have zg33 := trivial
  intro dp un gd cn cs a ccd cl outer A₀ base h₀ L m s Q E B F X N T hk hd hu hret
  obtain ⟨dx, t1, t2, t3, t4, t5, t6, ra, rb, rc, rd, re, rf, h1, h2, ha, hb, hc, hd', he, hf⟩ := hM
  obtain ⟨r1, r2, c1, h3, hx, hy⟩ := hp
  refine wpAny_call ?_
  k_extra "my_enter"
  k_steps
  all_goals (rename News h₀ L _ _ => nE)
  all_goals (refine' hret _ _ _ _ ?F (nw3 nE ?m1 ?m2 ?m3 ?m4) ⟨_, _, _, _, _, _, _, _, _, _, _, _, rfl, ?e1, ?e2, rfl, ?l1, ?l2, ?l3, ?b1, ?b2⟩; (case F => k_asm); (case m1 => k_extra "my_mem"); (case m2 => k_extra "my_mem"); (case m3 => k_extra "my_mem"); (case m4 => k_extra "my_sub"); (case l1 => k_extra "my_lt"); (case l2 => k_extra "my_lt"); (case l3 => k_extra "my_lt"))
  case b1 => assumption
  case b2 => assumption
  all_goals (subst_vars; rfl)
-- C7

theorem point_spec (mx q : Addr) (a b c d e f x y : Rat) (i j : Nat) (news : List (Addr × Obj)) (hM : MxAt w news mx i a b c d e f) (hp : PtAt w news q j x y) (hn : i + j + (i + j) + 1 + i + 1 ≤ 8000) :
    Fn w p loose mean mg mb 5 308 [.ref mx, .ref q] news (PtOut news (i + j + (i + j) + 1 + i + 1) (a * x + c * y + e) (b * x + d * y + f)) := by
  have zg1 := trivial
  have zg2 := trivial
  have zg3 := trivial
  have zg4 := trivial
  have zg13 := trivial
  have zg33 := trivial
  have zg34 := trivial
  have zg35 := trivial
  intro dp un gd cn cs a ccd cl outer A₀ base h₀ L m s Q E B F X N T hk hd hu hret
  have hM' := hM
  obtain ⟨dx, t1, t2, t3, t4, t5, t6, ra, rb, rc, rd, re, rf, h1, h2, ha, hb, hc, hd', he, hf⟩ := hM'
  refine wpAny_call ?_
  k_extra "my_enter"
  k_steps
  all_goals (rename News h₀ L _ _ => nE)
  all_goals (refine' hret _ _ _ _ ?F (nw3 nE ?m1 ?m2 ?m3 ?m4) ⟨_, _, _, _, _, _, _, _, _, _, _, _, rfl, ?e1, ?e2, rfl, ?l1, ?l2, ?l3, ?b1, ?b2⟩; (case F => k_asm); (case m1 => k_extra "my_mem"); (case m2 => k_extra "my_mem"); (case m3 => k_extra "my_mem"); (case m4 => k_extra "my_sub"); (case l1 => k_extra "my_lt"); (case l2 => k_extra "my_lt"); (case l3 => k_extra "my_lt"))
  case b1 => assumption
  case b2 => assumption
  all_goals (subst_vars; rfl)

theorem det_spec (mx : Addr) (a b c d e f : Rat) (i : Nat) (news : List (Addr × Obj)) (hM : MxAt w news mx i a b c d e f) (hn : i + i + (i + i) + 1 ≤ 8000) :
    Fn w p loose mean mg mb 4 322 [.ref mx] news (FrOut news (i + i + (i + i) + 1) (a * d - b * c)) := by
  have zg1 := trivial
  have zg2 := trivial
  have zg3 := trivial
  have zg4 := trivial
  have zg13 := trivial
  have zg33 := trivial
  have zg34 := trivial
  have zg35 := trivial
  intro dp un gd cn cs a ccd cl outer A₀ base h₀ L m s Q E B F X N T hk hd hu hret
  have hM' := hM
  obtain ⟨dx, t1, t2, t3, t4, t5, t6, ra, rb, rc, rd, re, rf, h1, h2, ha, hb, hc, hd', he, hf⟩ := hM'
  refine wpAny_call ?_
  k_extra "my_enter"
  k_steps
  all_goals (rename News h₀ L _ _ => nE)
  all_goals (exact hret _ _ _ _ (by k_asm) (cb_drop nE (by kcj_all)) ⟨_, _, _, _, _, rfl, (by subst_vars; rfl), rfl, by k_extra "my_lt", by assumption⟩)
-- C8

theorem at_zero (news : List (Addr × Obj)) : At w news 78 1 0 := ⟨⟨Bi.of (by decide), Bi.of (by decide)⟩, _, _, _, .inr (by k_is)⟩
theorem at_one (news : List (Addr × Obj)) : At w news 79 1 1 := ⟨⟨Bi.of (by decide), Bi.of (by decide)⟩, _, _, _, .inr (by k_is)⟩
theorem half_num : (1/2 : Rat).num = 1 := by decide +kernel
theorem half_den : (1/2 : Rat).den = 2 := by decide +kernel
theorem at_half (news : List (Addr × Obj)) : At w news 344 2 (1/2) := by
  refine ⟨⟨Bi.of (by rw [half_num]; decide), Bi.of (by rw [half_den]; decide)⟩, ?_⟩
  have e : ∀ t1 t2 c, fr (1/2) t1 t2 c = { cls := .type "tuple", data := .seq #[.int 1 t1, .int 2 t2] c } := fun t1 t2 c => (fr_of ⟨half_num.symm, by rw [half_den]; rfl⟩).symm
  simp only [e]
  exact ⟨_, _, _, .inr (by k_is)⟩
-- C9

section
variable {h₀ h : Heap} {L : Addr} {big news : List (Addr × Obj)} {p1 p2 p3 p4 p5 p6 p7 p8 : Addr × Obj}
theorem nw8 (N : News h₀ L h big) (h1 : p1 ∈ big) (h2 : p2 ∈ big) (h3 : p3 ∈ big) (h4 : p4 ∈ big) (h5 : p5 ∈ big) (h6 : p6 ∈ big) (h7 : p7 ∈ big) (h8 : p8 ∈ big) (hs : ∀ x ∈ news, x ∈ big) : News h₀ L h (p1 :: p2 :: p3 :: p4 :: p5 :: p6 :: p7 :: p8 :: news) :=
  cb_drop N (List.forall_mem_cons.mpr ⟨h1, List.forall_mem_cons.mpr ⟨h2, List.forall_mem_cons.mpr ⟨h3, List.forall_mem_cons.mpr ⟨h4, List.forall_mem_cons.mpr ⟨h5, List.forall_mem_cons.mpr ⟨h6, List.forall_mem_cons.mpr ⟨h7, List.forall_mem_cons.mpr ⟨h8, hs⟩⟩⟩⟩⟩⟩⟩⟩)
end
/-- six fractions, a namespace and an own object on the ledger are a Matrix there -/
theorem MxAt.mk8 {w : World} {news : List (Addr × Obj)} {x dx ra rb rc rd re rf : Addr} {t1 t2 t3 t4 t5 t6 : Tok} {n : Nat} {a b c d e f : Rat} {s1 s2 s3 s4 s5 s6 u1 u2 u3 u4 u5 u6 : Tok} {c1 c2 c3 c4 c5 c6 : Nat}
    (ba : Br n a) (bb : Br n b) (bc : Br n c) (bd : Br n d) (be : Br n e) (bf : Br n f) :
    MxAt w ((x, instObj 332 dx) :: (dx, mxd w t1 t2 t3 t4 t5 t6 ra rb rc rd re rf) :: (ra, fr a s1 u1 c1) :: (rb, fr b s2 u2 c2) :: (rc, fr c s3 u3 c3) :: (rd, fr d s4 u4 c4) :: (re, fr e s5 u5 c5) :: (rf, fr f s6 u6 c6) :: news) x n a b c d e f :=
  ⟨dx, t1, t2, t3, t4, t5, t6, ra, rb, rc, rd, re, rf, .head _, .tail _ (.head _), At.here (.tail _ (.tail _ (.head _))) ba, At.here (.tail _ (.tail _ (.tail _ (.head _)))) bb, At.here (.tail _ (.tail _ (.tail _ (.tail _ (.head _))))) bc,
    At.here (.tail _ (.tail _ (.tail _ (.tail _ (.tail _ (.head _)))))) bd, At.here (.tail _ (.tail _ (.tail _ (.tail _ (.tail _ (.tail _ (.head _))))))) be, At.here (.tail _ (.tail _ (.tail _ (.tail _ (.tail _ (.tail _ (.tail _ (.head _)))))))) bf⟩
theorem lt_trans0 {news : List (Addr × Obj)} {a b : Addr} (h : ∀ p ∈ news, p.1 < a) (k : @LT.lt Nat _ a b) : ∀ p ∈ news, p.1 < b := fun p m => Nat.lt_trans (h p m) k
theorem allLt_trans {news : List (Addr × Obj)} {a b : Addr} (h : AllLt a news) (k : @LT.lt Nat _ a b) : ∀ p ∈ news, p.1 < b := fun p m => Nat.lt_trans (ktn_ltOf h p m) k
/-- a new matrix: eight entries ahead of the ledger -/
abbrev MxOut (w : World) (news : List (Addr × Obj)) (n : Nat) (a b c d e f : Rat) (v : Value) (news' : List (Addr × Obj)) : Prop :=
  ∃ x p1 p2 p3 p4 p5 p6 p7 p8 a' b' c' d' e' f', v = .ref x ∧ a' = a ∧ b' = b ∧ c' = c ∧ d' = d ∧ e' = e ∧ f' = f ∧ news' = p1 :: p2 :: p3 :: p4 :: p5 :: p6 :: p7 :: p8 :: news ∧
    (∀ p ∈ news, p.1 < p1.1) ∧ (∀ p ∈ news, p.1 < p2.1) ∧ (∀ p ∈ news, p.1 < p3.1) ∧ (∀ p ∈ news, p.1 < p4.1) ∧ (∀ p ∈ news, p.1 < p5.1) ∧ (∀ p ∈ news, p.1 < p6.1) ∧ (∀ p ∈ news, p.1 < p7.1) ∧ (∀ p ∈ news, p.1 < p8.1) ∧ MxAt w news' x n a' b' c' d' e' f'

theorem MxAt.of {w : World} {news : List (Addr × Obj)} {x dx ra rb rc rd re rf : Addr} {t1 t2 t3 t4 t5 t6 : Tok} {n : Nat} {a b c d e f : Rat}
    (h1 : (x, instObj 332 dx) ∈ news) (h2 : (dx, mxd w t1 t2 t3 t4 t5 t6 ra rb rc rd re rf) ∈ news) (ha : At w news ra n a) (hb : At w news rb n b) (hc : At w news rc n c) (hd : At w news rd n d) (he : At w news re n e) (hf : At w news rf n f) : MxAt w news x n a b c d e f :=
  ⟨dx, t1, t2, t3, t4, t5, t6, ra, rb, rc, rd, re, rf, h1, h2, ha, hb, hc, hd, he, hf⟩
theorem PtAt.of {w : World} {news : List (Addr × Obj)} {q a b : Addr} {c n : Nat} {x y : Rat} (h : (q, tup2 a b c) ∈ news) (hx : At w news a n x) (hy : At w news b n y) : PtAt w news q n x y := ⟨a, b, c, h, hx, hy⟩

theorem inverse_spec (mx : Addr) (a b c d e f : Rat) (i : Nat) (news : List (Addr × Obj)) (hM : MxAt w news mx i a b c d e f) (h0 : a * d - b * c ≠ 0) (hn : i ≤ 500) :
    Fn w p loose mean mg mb 5 329 [.ref mx] news (MxOut w news (14 * i + 3) (d / (a * d - b * c)) (-(b / (a * d - b * c))) (-(c / (a * d - b * c))) (a / (a * d - b * c))
      (-(d / (a * d - b * c) * e + -(c / (a * d - b * c)) * f)) (-(-(b / (a * d - b * c)) * e + a / (a * d - b * c) * f))) := by
  have zg1 := trivial
  have zg2 := trivial
  have zg3 := trivial
  have zg4 := trivial
  have zg13 := trivial
  have zg31 := trivial
  have zg36 := trivial
  have zg37 := trivial
  have zg38 := trivial
  have zg40 := trivial
  have zg41 := trivial
  have zg55 := trivial
  intro dp un gd cn cs a ccd cl outer A₀ base h₀ L m s Q E B F X N T hk hd hu hret
  have hM' := hM
  obtain ⟨dx, t1, t2, t3, t4, t5, t6, ra, rb, rc, rd, re, rf, h1, h2, ha, hb, hc, hd', he, hf⟩ := hM'
  have h0' := num_ne h0
  k_with "call ref" => (guard_hyp zg55 : True); (k_here; k_dflt ((with_reducible show wpAny _ _ (call (Value.ref 301) [Value.ref _, Value.ref _]) _ _ _); (k_dflt (refine' Fn.usePt news (vector_spec _ _ _ _ _ _ 0 0 e f (5 * i + 1) i _ ?hM ?hp ?hn) ?hsb ?B ?F ?X ?N ?T ?hk ?hd ?hu ?_)); (case N => k_asm); (case hM => k_extra "my_mx"); (case hp => k_extra "my_ptat"); (case hn => omega); (case hsb => k_extra "my_sub"); k_extra "my_side"; intro D' a' b' c' s1' s2' c1' s3' s4' c2' x' y' h' tk' ex' ey' F' N' lA' lB' lD' bx' by'; (try k_sweep); (try dsimp only)))
  k_with "exec Raise some none" => (guard_hyp zg55 : True); (exfalso; subst_vars; omega)
  refine wpAny_call ?_
  k_extra "my_enter"
  k_steps
  all_goals (rename News h₀ L _ _ => nE)
  all_goals (refine' hret _ _ _ _ ?F (nw8 nE ?m1 ?m2 ?m3 ?m4 ?m5 ?m6 ?m7 ?m8 ?m9) ⟨_, _, _, _, _, _, _, _, _, _, _, _, _, _, _, rfl, ?e1, ?e2, ?e3, ?e4, ?e5, ?e6, rfl, ?l1, ?l2, ?l3, ?l4, ?l5, ?l6, ?l7, ?l8, MxAt.mk8 ?b1 ?b2 ?b3 ?b4 ?b5 ?b6⟩)
  case F => k_asm
  case m1 => k_extra "my_mem"
  case m2 => k_extra "my_mem"
  case m3 => k_extra "my_mem"
  case m4 => k_extra "my_mem"
  case m5 => k_extra "my_mem"
  case m6 => k_extra "my_mem"
  case m7 => k_extra "my_mem"
  case m8 => k_extra "my_mem"
  case m9 => k_extra "my_sub"
  case b1 => exact Br.up (by assumption) (by omega)
  case b2 => exact Br.up (by assumption) (by omega)
  case b3 => exact Br.up (by assumption) (by omega)
  case b4 => exact Br.up (by assumption) (by omega)
  case b5 => exact Br.up (by assumption) (by omega)
  case b6 => exact Br.up (by assumption) (by omega)
  case l1 => k_extra "my_lt"
  case l2 => k_extra "my_lt"
  case l3 => k_extra "my_lt"
  case l4 => k_extra "my_lt"
  case l5 => k_extra "my_lt"
  case l6 => k_extra "my_lt"
  case l7 => k_extra "my_lt"
  case l8 => k_extra "my_lt"
  all_goals (subst_vars; rfl)
-- D1

/-- the namespace of a NumberText -/
abbrev rdd (w : World) (t1 t2 : Tok) (txt : Str) (u : Tok) (k : Int) (v : Tok) : Obj :=
  dictOf [⟨PyData.keyHash w.params (Str.ofString "text"), .str (Str.ofString "text") t1, .str txt u⟩, ⟨PyData.keyHash w.params (Str.ofString "at"), .str (Str.ofString "at") t2, .int k v⟩] 2
theorem ne_all_lt {news : List (Addr × Obj)} {b : Addr} (h : ∀ p ∈ news, p.1 < b) : ∀ p ∈ news, p.1 ≠ b := fun p m => Nat.ne_of_lt (h p m)
section
variable {h₀ h : Heap} {L : Addr} {news : List (Addr × Obj)} {p1 p2 : Addr × Obj}
theorem drop1 (N : News h₀ L h (p1 :: news)) : News h₀ L h news := cb_drop N fun _ m => .tail _ m
theorem drop2 (N : News h₀ L h (p1 :: p2 :: news)) : News h₀ L h news := drop1 (drop1 N)
end
/-- does the sign at k stand among the signs? -/
def hasAt (txt : Str) (k : Int) (signs : List Nat) : Bool := match txt.cps.toList[k.toNat]? with
  | some c => decide (c ∈ signs)
  | none => false
theorem len_list (txt : Str) : txt.length = txt.cps.toList.length := by simp [Str.length]
theorem item_is {txt : Str} {k : Int} {c : Nat} (h0 : 0 ≤ k) (h : txt.cps.toList[k.toNat]? = some c) : Txt.item txt k = ⟨#[c]⟩ := by
  refine PyProof.Rows.item_meets h0 ?_
  simpa using h
theorem hasAt_in {txt signs : Str} {k : Int} (h0 : 0 ≤ k) (h : k < txt.length) : (!(Builtin.Str.occurrences signs (Txt.item txt k) 0 signs.length 1).isEmpty) = hasAt txt k signs.cps.toList := by
  have hk : k.toNat < txt.cps.toList.length := by have := len_list txt; omega
  have e := List.getElem?_eq_getElem hk
  rw [item_is h0 e]
  unfold hasAt
  rw [e]
  exact StrLaws.found_one signs _
theorem hasAt_out {txt : Str} {k : Int} {signs : List Nat} (h : ¬ k < txt.length) : hasAt txt k signs = false := by
  unfold hasAt
  have := len_list txt
  rw [List.getElem?_eq_none (by omega)]
theorem hasAt_lt {txt : Str} {k : Int} {signs : List Nat} (h : hasAt txt k signs = true) : k < txt.length := by
  by_cases q : k < txt.length
  · exact q
  · rw [hasAt_out q] at h; cases h
/-- what skip hands back, and where it leaves the reader -/
def skS (txt : Str) (k : Int) (signs : List Nat) : Str := if hasAt txt k signs then Txt.item txt k else Str.ofString ""
def skN (txt : Str) (k : Int) (signs : List Nat) : Int := if hasAt txt k signs then k + 1 else k
theorem skS_on {txt : Str} {k : Int} {signs : List Nat} (h : hasAt txt k signs = true) : skS txt k signs = Txt.item txt (k + 1 - 1) := by unfold skS; rw [if_pos h, Int.add_sub_cancel]
theorem skN_on {txt : Str} {k : Int} {signs : List Nat} (h : hasAt txt k signs = true) : skN txt k signs = k + 1 := by unfold skN; rw [if_pos h]
theorem skS_off {txt : Str} {k : Int} {signs : List Nat} (h : hasAt txt k signs = false) : skS txt k signs = Str.ofString "" := by unfold skS; rw [h]; rfl
theorem skN_off {txt : Str} {k : Int} {signs : List Nat} (h : hasAt txt k signs = false) : skN txt k signs = k := by unfold skN; rw [h]; rfl
abbrev DG : List Nat := (Str.ofString "0123456789").cps.toList
/-- the end of the digits from k on -/
def dgE (txt : Str) (k : Int) : Int := k + (((txt.cps.toList.drop k.toNat).takeWhile fun c => decide (c ∈ DG)).length : Nat)
theorem dg_on {txt : Str} {k : Int} (h0 : 0 ≤ k) (h : hasAt txt k DG = true) : dgE txt (k + 1) = dgE txt k := by
  have hl := hasAt_lt h
  have hk : k.toNat < txt.cps.toList.length := by have := len_list txt; omega
  unfold hasAt at h
  rw [List.getElem?_eq_getElem hk] at h
  unfold dgE
  rw [List.drop_eq_getElem_cons hk, List.takeWhile_cons, if_pos h, List.length_cons, show (k + 1).toNat = k.toNat + 1 by omega]
  omega
theorem dg_off {txt : Str} {k : Int} (h0 : 0 ≤ k) (h : hasAt txt k DG = false) : dgE txt k = k := by
  unfold dgE
  unfold hasAt at h
  by_cases hk : k.toNat < txt.cps.toList.length
  · rw [List.getElem?_eq_getElem hk] at h
    rw [List.drop_eq_getElem_cons hk, List.takeWhile_cons, if_neg (by simpa using h)]
    simp
  · rw [List.drop_eq_nil_of_le (by omega)]
    simp
theorem dg_turn {txt : Str} {a k : Int} (h0 : 0 ≤ a) (h : dgE txt a = dgE txt k) (hd : hasAt txt a DG = true) : 0 ≤ a + 1 ∧ a + 1 ≤ txt.length ∧ dgE txt (a + 1) = dgE txt k := by
  have := hasAt_lt hd
  exact ⟨by omega, by omega, (dg_on h0 hd).trans h⟩
theorem dg_end {txt : Str} {a k : Int} (h0 : 0 ≤ a) (h : dgE txt a = dgE txt k) (hd : hasAt txt a DG = false) : a = dgE txt k := (dg_off h0 hd).symm.trans h
theorem dg_less {txt : Str} {a : Int} (hd : hasAt txt a DG = true) : ((txt.length : Int) - (a + 1)).toNat < ((txt.length : Int) - a).toNat := by
  have := hasAt_lt hd
  omega
theorem dgE_le {txt : Str} {k : Int} (h0 : 0 ≤ k) (h1 : k ≤ txt.length) : k ≤ dgE txt k ∧ dgE txt k ≤ txt.length := by
  unfold dgE
  have h2 := (List.takeWhile_sublist (p := fun c => decide (c ∈ DG)) (l := txt.cps.toList.drop k.toNat)).length_le
  rw [List.length_drop] at h2
  have := len_list txt
  omega
theorem skN_le {txt : Str} {k : Int} {signs : List Nat} (h0 : 0 ≤ k) (h1 : k ≤ txt.length) : 0 ≤ skN txt k signs ∧ skN txt k signs ≤ txt.length := by
  unfold skN
  split
  · rename_i h; have := hasAt_lt h; omega
  · omega
theorem skS_len {txt : Str} {k : Int} {signs : List Nat} : (skS txt k signs).length ≤ 100000 := by
  unfold skS
  split
  · rw [PyProof.Rows.len_item]; decide
  · decide +kernel
/-- what a call that turns the reader alone hands back -/
abbrev RdOut (w : World) (x dx : Addr) (t1 t2 u : Tok) (txt : Str) (news : List (Addr × Obj)) (r : Str) (k : Int) (v : Value) (news' : List (Addr × Obj)) : Prop :=
  ∃ r' k' t v', v = .str r' t ∧ r' = r ∧ k' = k ∧ 0 ≤ k' ∧ k' ≤ txt.length ∧ r'.length ≤ 100000 ∧ news' = (x, instObj 195 dx) :: (dx, rdd w t1 t2 txt u k' v') :: news

theorem ioo_spec (x dx : Addr) (t1 t2 u v us : Tok) (txt signs : Str) (k : Int) (news : List (Addr × Obj)) (h1 : (x, instObj 195 dx) ∈ news) (h2 : (dx, rdd w t1 t2 txt u k v) ∈ news) (hl : txt.length ≤ 100000) (h0 : 0 ≤ k) :
    Fn w p loose mean mg mb 1 178 [.ref x, .str signs us] news (fun r news' => news' = news ∧ r = .bool (hasAt txt k signs.cps.toList)) := by
  have zg1 := trivial
  have zg2 := trivial
  have zg3 := trivial
  have zg4 := trivial
  have zg7 := trivial
  have zg48 := trivial
  intro dp un gd cn cs a ccd cl outer A₀ base h₀ L m s Q E B F X N T hk hd hu hret
  refine wpAny_call ?_
  k_extra "my_enter"
  k_steps
  all_goals (refine hret _ _ _ _ (by k_asm) (cb_drop (by assumption) (by k_extra "my_sub")) ⟨rfl, congrArg Value.bool ?_⟩)
  all_goals first | exact hasAt_in h0 (by omega) | (rw [hasAt_out (by assumption)]; exact decide_eq_false (by omega))
-- D2

theorem skip_spec (x dx : Addr) (t1 t2 u v us : Tok) (txt signs : Str) (k : Int) (news : List (Addr × Obj)) (hne : ∀ p ∈ news, p.1 ≠ dx) (hdx : @LT.lt Nat _ dx x) (hl : txt.length ≤ 100000) (h0 : 0 ≤ k) (h1 : k ≤ txt.length) :
    Fn w p loose mean mg mb 2 185 [.ref x, .str signs us] ((x, instObj 195 dx) :: (dx, rdd w t1 t2 txt u k v) :: news) (RdOut w x dx t1 t2 u txt news (skS txt k signs.cps.toList) (skN txt k signs.cps.toList)) := by
  have zg1 := trivial
  have zg2 := trivial
  have zg3 := trivial
  have zg4 := trivial
  have zg7 := trivial
  have zg48 := trivial
  have zg49 := trivial
  have zg56 := trivial
  intro dp un gd cn cs a ccd cl outer A₀ base h₀ L m s Q E B F X N T hk hd hu hret
  k_with "subscriptTail" => (guard_hyp zg56 : True); ((with_reducible show wpAny _ _ (subscriptTail _ _ (Value.str _ _) (Value.int _ _)) _ _ _); (have hlt := hasAt_lt (txt := txt) (k := k) (by assumption)); refine item_str (fitsSsize_of (N := 9223372036854775808) (by omega) (by omega) (Int.le_refl _)) (by omega) (by omega) ?_; intro _)
  refine wpAny_call ?_
  k_extra "my_enter"
  k_steps
  all_goals (rename News h₀ L _ _ => nE)
  all_goals (refine hret _ _ _ _ (by k_asm) (cb_drop nE (by k_extra "my_sub")) ⟨_, _, _, _, rfl, ?_, ?_, ?_, ?_, ?_, rfl⟩)
  all_goals (first
    | exact (skS_on (by assumption)).symm
    | exact (skN_on (by assumption)).symm
    | exact (skS_off (by assumption)).symm
    | exact (skN_off (by assumption)).symm
    | omega
    | (rw [← skS_on (by assumption)]; exact skS_len)
    | (rw [← skS_off (by assumption)]; exact skS_len)
    | (have := hasAt_lt (txt := txt) (k := k) (by assumption); omega))

theorem digits_spec (x dx : Addr) (t1 t2 u v : Tok) (txt : Str) (k : Int) (news : List (Addr × Obj)) (hne : ∀ p ∈ news, p.1 ≠ dx) (hdx : @LT.lt Nat _ dx x) (hl : txt.length ≤ 100000) (h0 : 0 ≤ k) (h1 : k ≤ txt.length) :
    Fn w p loose mean mg mb 2 192 [.ref x] ((x, instObj 195 dx) :: (dx, rdd w t1 t2 txt u k v) :: news) (RdOut w x dx t1 t2 u txt news (Txt.slice txt (some k) (some (dgE txt k))) (dgE txt k)) := by
  have zg1 := trivial
  have zg2 := trivial
  have zg3 := trivial
  have zg4 := trivial
  have zg7 := trivial
  have zg48 := trivial
  have zg49 := trivial
  have zg56 := trivial
  intro dp un gd cn cs a ccd cl outer A₀ base h₀ L m s Q E B F X N T hk hd hu hret
  have hlen := dgE_le (txt := txt) h0 h1
  dsimp only [rdd] at N
  k_with "state" => (guard_hyp zg56 : True); first | exact ⟨h0, h1, rfl⟩ | exact dg_turn (by assumption) (by assumption) (by assumption)
  k_with "measure" => (guard_hyp zg56 : True); exact dg_less (by assumption)
  k_with "exec While Call cons nil" => (guard_hyp zg56 : True); k_while (fun script a => 0 ≤ a ∧ a ≤ txt.length ∧ dgE txt a = dgE txt k) (fun script a => ((txt.length : Int) - a).toNat) "self.at"
  refine wpAny_call ?_
  k_extra "my_enter"
  k_steps
  all_goals (rename News h₀ L _ _ => nE)
  all_goals (rename dgE txt _ = dgE txt k => hI)
  all_goals (have eI := dg_end (by assumption) hI (by assumption))
  all_goals (refine hret _ _ _ _ (by k_asm) (cb_drop nE (by k_extra "my_sub")) ⟨_, _, _, _, rfl, by rw [eI], eI, by omega, by omega, Nat.le_trans (Txt.slice_le txt _ _) hl, rfl⟩)
-- D3

/-- the number that the figures tell -/
def decOf (l : List Int) : Int := l.foldl (fun (n : Int) (c : Int) => n * 10 + (c - 48)) 0
theorem dec_snoc (l : List Int) (c : Int) : decOf (l ++ [c]) = decOf l * 10 + (c - 48) := by unfold decOf; rw [List.foldl_append]; rfl
theorem dec_turn {n : Int} {l : List Int} {c : Int} (h : n = decOf l) : n * 10 + (c - 48) = decOf (l ++ [c]) := by rw [dec_snoc, h]
theorem dg_of_eq {ds : Str} {pre post : List Int} {n : Nat} (h : ∀ c ∈ ds.cps.toList, c ∈ DG) (e : KStt.codes ds = pre ++ (n : Int) :: post) : n ∈ DG := by
  have m : (n : Int) ∈ KStt.codes ds := by rw [e]; simp
  obtain ⟨c, hc, ec⟩ := List.mem_map.mp m
  have : c = n := by omega
  exact this ▸ h c hc
theorem dg_cases {n : Nat} (h : n ∈ DG) : n = 48 ∨ n = 49 ∨ n = 50 ∨ n = 51 ∨ n = 52 ∨ n = 53 ∨ n = 54 ∨ n = 55 ∨ n = 56 ∨ n = 57 := by
  have e : DG = [48, 49, 50, 51, 52, 53, 54, 55, 56, 57] := by decide +kernel
  rw [e] at h
  simpa using h
theorem find_dg {n : Nat} (h : n ∈ DG) : Txt.find (Str.ofString "0123456789") ⟨#[n]⟩ = (n : Int) - 48 := by
  rcases dg_cases h with rfl | rfl | rfl | rfl | rfl | rfl | rfl | rfl | rfl | rfl <;> decide +kernel
theorem dg_rng : ∀ n ∈ DG, 48 ≤ n ∧ n ≤ 57 := by decide +kernel
theorem find_dg_ne {n : Nat} (h : n ∈ DG) : ¬ Txt.find (Str.ofString "0123456789") ⟨#[n]⟩ = -1 := by
  rw [find_dg h]
  have := (dg_rng n h).1
  omega
abbrev EE : List Nat := (Str.ofString "eE").cps.toList
abbrev PM : List Nat := (Str.ofString "+-").cps.toList
abbrev DO : List Nat := (Str.ofString ".").cps.toList
/-- the digits from k on, as a text -/
abbrev dgS (txt : Str) (k : Int) : Str := Txt.slice txt (some k) (some (dgE txt k))
theorem slice_is {txt : Str} {i j : Int} (h : 0 ≤ i ∧ i ≤ j ∧ j ≤ txt.length) : Txt.slice txt (some i) (some j) = ⟨((txt.cps.toList.drop i.toNat).take (j - i).toNat).toArray⟩ := by
  have := slice_closes (x := txt) (i := i) (j := j) ⟨h.1, h.2.1, by have := len_list txt; omega⟩
  exact eq_of_beq this
theorem dgS_is {txt : Str} {k : Int} (h0 : 0 ≤ k) (h1 : k ≤ txt.length) : (dgS txt k).cps.toList = (txt.cps.toList.drop k.toNat).takeWhile fun c => decide (c ∈ DG) := by
  have hl := dgE_le h0 h1
  unfold dgS
  rw [slice_is ⟨h0, hl.1, hl.2⟩]
  show ((txt.cps.toList.drop k.toNat).take (dgE txt k - k).toNat) = _
  have e : (dgE txt k - k).toNat = ((txt.cps.toList.drop k.toNat).takeWhile fun c => decide (c ∈ DG)).length := by unfold dgE; omega
  rw [e]
  exact (List.prefix_iff_eq_take.mp (List.takeWhile_prefix _)).symm
theorem dgS_dg {txt : Str} {k : Int} (h0 : 0 ≤ k) (h1 : k ≤ txt.length) : ∀ c ∈ (dgS txt k).cps.toList, c ∈ DG := by
  rw [dgS_is h0 h1]
  intro c hc
  simpa using List.all_eq_true.mp (List.all_takeWhile (l := txt.cps.toList.drop k.toNat) (p := fun c => decide (c ∈ DG))) c hc
/-- what read_exponent hands back, and where it leaves the reader -/
def exV (txt : Str) (k : Int) : Int := if hasAt txt k EE = true then (if skS txt (k + 1) PM = Str.ofString "-" then -decOf (KStt.codes (dgS txt (skN txt (k + 1) PM))) else decOf (KStt.codes (dgS txt (skN txt (k + 1) PM)))) else 0
def exE (txt : Str) (k : Int) : Int := if hasAt txt k EE = true then dgE txt (skN txt (k + 1) PM) else k
theorem skS_has {txt : Str} {k : Int} {signs : List Nat} (h : (skS txt k signs == Str.ofString "") = false) : hasAt txt k signs = true := by
  cases q : hasAt txt k signs with
  | true => rfl
  | false => rw [skS_off q] at h; simp at h
theorem skS_hasnt {txt : Str} {k : Int} {signs : List Nat} (h : (skS txt k signs == Str.ofString "") = true) : hasAt txt k signs = false := by
  cases q : hasAt txt k signs with
  | false => rfl
  | true =>
    rw [skS_on q] at h
    have e := congrArg Str.length (eq_of_beq h)
    rw [PyProof.Rows.len_item] at e
    exact absurd e (by decide +kernel)
section
variable {txt : Str} {k : Int}
theorem rexp_no (hE : hasAt txt k EE = true → (dgS txt (skN txt (k + 1) PM)) ≠ Str.ofString "" ∧ (dgS txt (skN txt (k + 1) PM)).length ≤ 9 ∧ decOf (KStt.codes (dgS txt (skN txt (k + 1) PM))) ≤ 300)
    (h : (skS txt k EE == Str.ofString "") = false) (q : (dgS txt (skN txt (skN txt k EE) PM) == Str.ofString "") = true ∨ 9 < ((dgS txt (skN txt (skN txt k EE) PM)).length : Int) ∨ 300 < decOf (KStt.codes (dgS txt (skN txt (skN txt k EE) PM)))) : False := by
  have hh := skS_has h
  have e := skN_on hh
  rw [e] at q
  obtain ⟨a, b, c⟩ := hE hh
  rcases q with q | q | q
  · exact a (eq_of_beq q)
  · omega
  · omega
theorem rexp_0 (h : (skS txt k EE == Str.ofString "") = true) : 0 = exV txt k := by unfold exV; rw [skS_hasnt h]; rfl
theorem rexp_0e (h : (skS txt k EE == Str.ofString "") = true) : skN txt k EE = exE txt k := by unfold exE; rw [skS_hasnt h, skN_off (skS_hasnt h)]; rfl
theorem rexp_neg (h : (skS txt k EE == Str.ofString "") = false) (q : (skS txt (skN txt k EE) PM == Str.ofString "-") = true) : -decOf (KStt.codes (dgS txt (skN txt (skN txt k EE) PM))) = exV txt k := by
  unfold exV
  rw [skN_on (skS_has h)] at q ⊢
  rw [if_pos (skS_has h), if_pos (eq_of_beq q)]
theorem rexp_pos (h : (skS txt k EE == Str.ofString "") = false) (q : (skS txt (skN txt k EE) PM == Str.ofString "-") = false) : decOf (KStt.codes (dgS txt (skN txt (skN txt k EE) PM))) = exV txt k := by
  unfold exV
  rw [skN_on (skS_has h)] at q ⊢
  rw [if_pos (skS_has h), if_neg (by intro e; rw [e] at q; simp at q)]
theorem rexp_1e (h : (skS txt k EE == Str.ofString "") = false) : dgE txt (skN txt (skN txt k EE) PM) = exE txt k := by unfold exE; rw [if_pos (skS_has h), skN_on (skS_has h)]
end

theorem whole_spec (ds : Str) (t : Tok) (news : List (Addr × Obj)) (hdg : ∀ c ∈ ds.cps.toList, c ∈ DG) :
    Fn w p loose mean mg mb 1 206 [.str ds t] news (fun v news' => news' = news ∧ ∃ n t', v = .int n t' ∧ n = decOf (KStt.codes ds)) := by
  have zg1 := trivial
  have zg2 := trivial
  have zg3 := trivial
  have zg4 := trivial
  have zg7 := trivial
  have zg48 := trivial
  have zg57 := trivial
  intro dp un gd cn cs a ccd cl outer A₀ base h₀ L m s Q E B F X N T hk hd hu hret
  k_with "state" => (guard_hyp zg57 : True); first | exact rfl | exact dec_turn (by assumption)
  k_with "call builtin:str.index" => (guard_hyp zg57 : True); ((have hc := dg_of_eq hdg (by assumption)); refine index_or (by rfl) ?_ ?_; (intro e; exact absurd e (find_dg_ne hc)); (intro _ _; rw [find_dg hc]))
  k_with "pyIter str" => (guard_hyp zg57 : True); k_state (fun pre n => n = decOf pre) "number"
  refine wpAny_call ?_
  k_extra "my_enter"
  k_steps
  all_goals (exact hret _ _ _ _ (by k_asm) (cb_drop (by assumption) (by k_extra "my_sub")) ⟨rfl, _, _, rfl, by assumption⟩)
-- D4

theorem rexp_spec (x dx : Addr) (t1 t2 u v : Tok) (txt : Str) (k : Int) (news : List (Addr × Obj)) (hne : ∀ p ∈ news, p.1 ≠ dx) (hdx : @LT.lt Nat _ dx x) (hl : txt.length ≤ 100000) (h0 : 0 ≤ k) (h1 : k ≤ txt.length)
    (hE : hasAt txt k EE = true → (dgS txt (skN txt (k + 1) PM)) ≠ Str.ofString "" ∧ (dgS txt (skN txt (k + 1) PM)).length ≤ 9 ∧ decOf (KStt.codes (dgS txt (skN txt (k + 1) PM))) ≤ 300) :
    Fn w p loose mean mg mb 3 213 [.ref x] ((x, instObj 195 dx) :: (dx, rdd w t1 t2 txt u k v) :: news) (fun r news' => ∃ e k' t v', r = .int e t ∧ e = exV txt k ∧ k' = exE txt k ∧ news' = (x, instObj 195 dx) :: (dx, rdd w t1 t2 txt u k' v') :: news) := by
  have zg1 := trivial
  have zg2 := trivial
  have zg3 := trivial
  have zg4 := trivial
  have zg7 := trivial
  have zg46 := trivial
  have zg47 := trivial
  have zg58 := trivial
  intro dp un gd cn cs a ccd cl outer A₀ base h₀ L m s Q E B F X N T hk hd hu hret
  k_with "exec Raise some none" => (guard_hyp zg58 : True); (exfalso; subst_vars; first | exact rexp_no hE (by assumption) (.inl (by assumption)) | exact rexp_no hE (by assumption) (.inr (.inl (by assumption))) | exact rexp_no hE (by assumption) (.inr (.inr (by assumption))))
  refine wpAny_call ?_
  k_extra "my_enter"
  k_steps
  all_goals (rename News h₀ L _ _ => nE)
  all_goals (refine hret _ _ _ _ (by k_asm) (cb_drop nE (by k_extra "my_sub")) ⟨_, _, _, _, rfl, ?_, ?_, rfl⟩)
  all_goals (subst_vars; first | exact rexp_0 (by assumption) | exact rexp_0e (by assumption) | exact rexp_neg (by assumption) (by assumption) | exact rexp_pos (by assumption) (by assumption) | exact rexp_1e (by assumption))
-- D5

theorem skS_ne {txt : Str} {k : Int} {signs : List Nat} (h : (skS txt k signs != Str.ofString "") = true) : hasAt txt k signs = true := skS_has (by simpa [bne] using h)
theorem skS_eq {txt : Str} {k : Int} {signs : List Nat} (h : (skS txt k signs != Str.ofString "") = false) : hasAt txt k signs = false := skS_hasnt (by simpa [bne] using h)
/-- the parts that read_decimal finds in a text: the sign, the figures ahead of the point and behind it, the place where the exponent opens -/
structure NumT (txt : Str) (q : Rat) (sg wh ps : Str) (a : Int) : Prop where
  some : (wh ++ ps == Str.ofString "") = false
  exp : hasAt txt a EE = true → (dgS txt (skN txt (a + 1) PM)) ≠ Str.ofString "" ∧ (dgS txt (skN txt (a + 1) PM)).length ≤ 9 ∧ decOf (KStt.codes (dgS txt (skN txt (a + 1) PM))) ≤ 300
  whole : ¬ exE txt a < txt.length
  low : -2 ≤ exV txt a - ps.length
  high : exV txt a - ps.length ≤ 0
  size : -1000000 ≤ decOf (KStt.codes (wh ++ ps)) ∧ decOf (KStt.codes (wh ++ ps)) ≤ 1000000
  dg : ∀ c ∈ (wh ++ ps).cps.toList, c ∈ DG
  pl : ps.length ≤ 100
  value : q = Rat.divInt (if (sg == Str.ofString "-") = true then -decOf (KStt.codes (wh ++ ps)) else decOf (KStt.codes (wh ++ ps))) (10 ^ (-(exV txt a - ps.length)).toNat)
/-- the text tells the number q -/
structure NumText (txt : Str) (q : Rat) : Prop where
  len : txt.length ≤ 100
  br : Br 10 q
  cs : txt.length ≠ 0 ∧ ∀ c ∈ txt.cps.toList, 33 ≤ c ∧ c ≤ 126 ∧ c ≠ 44
  on : hasAt txt (dgE txt (skN txt 0 PM)) DO = true → NumT txt q (skS txt 0 PM) (dgS txt (skN txt 0 PM)) (dgS txt (dgE txt (skN txt 0 PM) + 1)) (dgE txt (dgE txt (skN txt 0 PM) + 1))
  off : hasAt txt (dgE txt (skN txt 0 PM)) DO = false → NumT txt q (skS txt 0 PM) (dgS txt (skN txt 0 PM)) (Str.ofString "") (dgE txt (skN txt 0 PM))
theorem ten_ne (k : Nat) : (10 : Int) ^ k ≠ 0 := by
  have h : (0 : Int) < 10 ^ k := Int.pow_pos (by decide)
  exact Int.ne_of_gt h
theorem ten_bi {e : Int} (h0 : 0 ≤ e) (h1 : e ≤ 2) : Bi 64 ((10 : Int) ^ e.toNat) := by
  have : e = 0 ∨ e = 1 ∨ e = 2 := by omega
  rcases this with rfl | rfl | rfl <;> exact Bi.of (by decide)
theorem dec_bi {n : Int} (h : -1000000 ≤ n ∧ n ≤ 1000000) : Bi 64 n := Bi.of (by omega)
theorem divInt_1 (n : Int) : Rat.divInt n 1 = (n : Rat) := Rat.num_divInt_den (n : Rat)
section
variable {txt sg wh ps : Str} {q y : Rat} {a c e L : Int}
theorem num_neg (hN : NumT txt q sg wh ps a) (hs : (sg == Str.ofString "-") = true) (hc : c = decOf (KStt.codes (wh ++ ps))) (he : e = exV txt a) (hL : L = ps.length) (hy : y = Rat.divInt (-c) (10 ^ (-(e - L)).toNat)) : y = q := by
  rw [hN.value, if_pos hs, hy, hc, he, hL]
theorem num_pos (hN : NumT txt q sg wh ps a) (hs : (sg == Str.ofString "-") = false) (hc : c = decOf (KStt.codes (wh ++ ps))) (he : e = exV txt a) (hL : L = ps.length) (hy : y = Rat.divInt c (10 ^ (-(e - L)).toNat)) : y = q := by
  rw [hN.value, if_neg (by rw [hs]; decide), hy, hc, he, hL]
theorem num_e0 (hN : NumT txt q sg wh ps a) (he : e = exV txt a) (hL : L = ps.length) (h : ¬ e - L < 0) : (e - L).toNat = 0 ∧ (-(exV txt a - ps.length)).toNat = 0 := by
  have := hN.high
  omega
theorem num_neg' (hN : NumT txt q sg wh ps a) (hs : (sg == Str.ofString "-") = true) (hc : c = decOf (KStt.codes (wh ++ ps))) (he : e = exV txt a) (hL : L = ps.length) (h : ¬ e - L < 0) : -c * 10 ^ (e - L).toNat = q.num ∧ 1 = (q.den : Int) := by
  have h0 := num_e0 hN he hL h
  rw [hN.value, if_pos hs, h0.1, h0.2, Int.pow_zero, divInt_1, hc]
  exact ⟨Int.mul_one _, rfl⟩
theorem num_pos' (hN : NumT txt q sg wh ps a) (hs : (sg == Str.ofString "-") = false) (hc : c = decOf (KStt.codes (wh ++ ps))) (he : e = exV txt a) (hL : L = ps.length) (h : ¬ e - L < 0) : c * 10 ^ (e - L).toNat = q.num ∧ 1 = (q.den : Int) := by
  have h0 := num_e0 hN he hL h
  rw [hN.value, if_neg (by rw [hs]; decide), h0.1, h0.2, Int.pow_zero, divInt_1, hc]
  exact ⟨Int.mul_one _, rfl⟩
end
section
variable {txt r1 r2 r3 r4 : Str} {q : Rat} {k1 k2 k3 k4 : Int}
theorem numT_on (hT : NumText txt q) (e1 : r1 = skS txt 0 PM) (e2 : k1 = skN txt 0 PM) (e3 : r2 = Txt.slice txt (some k1) (some (dgE txt k1))) (e4 : k2 = dgE txt k1) (e5 : r3 = skS txt k2 DO) (e6 : k3 = skN txt k2 DO) (e7 : (r3 != Str.ofString "") = true)
    (e8 : r4 = Txt.slice txt (some k3) (some (dgE txt k3))) (e9 : k4 = dgE txt k3) : NumT txt q r1 r2 r4 k4 := by
  subst e1 e2 e3 e4 e5
  have h := skS_ne e7
  rw [skN_on h] at e6
  subst e6 e8 e9
  exact hT.on h
theorem numT_off (hT : NumText txt q) (e1 : r1 = skS txt 0 PM) (e2 : k1 = skN txt 0 PM) (e3 : r2 = Txt.slice txt (some k1) (some (dgE txt k1))) (e4 : k2 = dgE txt k1) (e5 : r3 = skS txt k2 DO) (e6 : k3 = skN txt k2 DO) (e7 : (r3 != Str.ofString "") = false) : NumT txt q r1 r2 (Str.ofString "") k3 := by
  subst e1 e2 e3 e4 e5
  have h := skS_eq e7
  rw [skN_off h] at e6
  subst e6
  exact hT.off h
end
theorem words50 : True := by
  k_with "my_dg" => (guard_hyp zg59 : True); (rename NumT _ _ _ _ _ _ => hN; exact hN.dg)
  k_with "my_bits" => (guard_hyp zg59 : True); (first | with_reducible assumption | (with_reducible refine' Bi.neg ?nbi; (case nbi => k_extra "my_bits")) | exact ten_bi (by omega) (by omega) | exact dec_bi (by omega))
  k_with "call ref" => (guard_hyp zg59 : True); (k_here; k_dflt ((with_reducible show wpAny _ _ (call (Value.ref 94) [Value.int _ _, Value.int _ _]) _ _ _); (k_dflt (refine' Fn.use (fraction_spec _ _ _ _ 64 _ ?h0 ?ht ?hb ?hn) ?B ?F ?X ?N ?T ?hk ?hd ?hu ?_)); (case N => k_asm); (case ht => k_extra "my_bits"); (case hb => k_extra "my_bits"); (case hn => omega); (case h0 => exact ten_ne _); k_extra "my_use"))
  trivial

theorem num_b {y c : Int} {b : Bool} (h : y = if b = true then -c else c) (hc : -1000000 ≤ c ∧ c ≤ 1000000) : -1000000 ≤ y ∧ y ≤ 1000000 := by
  split at h <;> omega
section
variable {txt sg wh ps : Str} {q y : Rat} {a c y0 e L : Int}
theorem num_all (hN : NumT txt q sg wh ps a) (h0 : y0 = if (sg == Str.ofString "-") = true then -c else c) (hc : c = decOf (KStt.codes (wh ++ ps))) (he : e = exV txt a) (hL : L = ps.length) (hy : y = Rat.divInt y0 (10 ^ (-(e - L)).toNat)) : y = q := by
  rw [hN.value, hy, h0, hc, he, hL]
theorem num_all' (hN : NumT txt q sg wh ps a) (h0 : y0 = if (sg == Str.ofString "-") = true then -c else c) (hc : c = decOf (KStt.codes (wh ++ ps))) (he : e = exV txt a) (hL : L = ps.length) (h : ¬ e - L < 0) : y0 * 10 ^ (e - L).toNat = q.num ∧ 1 = (q.den : Int) := by
  have h1 := num_e0 hN he hL h
  rw [hN.value, h1.1, h1.2, Int.pow_zero, divInt_1, h0, hc]
  exact ⟨Int.mul_one _, rfl⟩
end
theorem rdec_spec (txt : Str) (u : Tok) (q : Rat) (news : List (Addr × Obj)) (hT : NumText txt q) :
    Fn w p loose mean mg mb 4 220 [.str txt u] news (FrOut news 10 q) := by
  have zg1 := trivial
  have zg2 := trivial
  have zg3 := trivial
  have zg4 := trivial
  have zg5 := trivial
  have zg46 := trivial
  have zg47 := trivial
  have zg59 := trivial
  intro dp un gd cn cs a ccd cl outer A₀ base h₀ L m s Q E B F X N T hk hd hu hret
  have hlen := hT.len
  have hlL : txt.length ≤ 100000 := Nat.le_trans hlen (Nat.le_of_ble_eq_true rfl)
  have h00 : (Str.ofString "").length = 0 := by decide +kernel
  k_with "my_rd" => (guard_hyp zg59 : True); first
    | ((fail_if_success have := sgV); k_extra "my_side"; intro v' n' h' tk' F' N' O'; obtain ⟨sgV, k', t', v'', e1', er', ek', lk', uk', lr', e2'⟩ := O'; subst e1'; subst e2'; (try k_sweep); (try dsimp only))
    | ((fail_if_success have := whV); k_extra "my_side"; intro v' n' h' tk' F' N' O'; obtain ⟨whV, k', t', v'', e1', er', ek', lk', uk', lr', e2'⟩ := O'; subst e1'; subst e2'; (try k_sweep); (try dsimp only))
    | (k_extra "my_side"; intro v' n' h' tk' F' N' O'; obtain ⟨r', k', t', v'', e1', er', ek', lk', uk', lr', e2'⟩ := O'; subst e1'; subst e2'; (try k_sweep); (try dsimp only))
  k_with "exec If" => (guard_hyp zg59 : True); ((fail_if_success have := psV); (fail_if_success (with_reducible show wpAny _ _ _ (Cut1 _ _ _ _ _ _) _ _)); ((with_reducible rename Fr _ _ _ _ => lF'); refine' cut1 (Str.ofString "parts") (fun v nw => ∃ ps tp k v0 t1 t2, v = .str ps tp ∧ nw = (x', instObj 195 d') :: (d', rdd w t1 t2 txt u k v0) :: news ∧ 0 ≤ k ∧ k ≤ txt.length ∧ ps.length ≤ 100000 ∧ NumT txt q sgV whV ps k) lF' ?_ ?_); rotate_left 1; intro v' n' h' tk' F' N' O'; obtain ⟨psV, tpV, kV, v0V, t1V, t2V, e1', e2', hk0, hk1, hps, hN⟩ := O'; subst e1'; subst e2'; (have hE := hN.exp); (try k_sweep); (try dsimp only))
  k_with "exec If" => (guard_hyp zg59 : True); ((with_reducible show wpAny _ _ (exec (Stmt.If (Expr.Compare (Expr.Name (Str.ofString "sign") _) _ _ _) _ _ _) _) _ _ _); (fail_if_success (with_reducible show wpAny _ _ _ (Cut1 _ _ _ _ _ _) _ _)); ((with_reducible rename Fr _ _ _ _ => lF'); refine' cut1 (Str.ofString "number") (fun v nw => ∃ (y : Int) (ty : Tok), v = .int y ty ∧ nw = news ∧ y = if (sgV == Str.ofString "-") = true then -c' else c') lF' ?_ ?_); rotate_left 1; intro v' n' h' tk' F' N' O'; obtain ⟨yV, tyV, e1', e2', hyV⟩ := O'; subst e1'; subst e2'; (have hyb := num_b hyV (by rw [hc']; exact hNs)); (try k_sweep); (try dsimp only))
  k_with "exec Raise some none" => (guard_hyp zg59 : True); (exfalso; first | exact Bool.noConfusion (hN.some.symm.trans (by assumption)) | omega)
  k_with "call ref" => (guard_hyp zg59 : True); ((k_dflt (show wpAny _ _ (call (Value.ref 213) [Value.ref _]) _ _ _)); k_dflt (refine' Fn.use (rexp_spec _ _ _ _ _ _ _ _ _ ?hne ?hdx ?hl hk0 hk1 hE) ?B ?F ?X ?N ?T ?hk ?hd ?hu ?_); (case N => first | with_reducible assumption | k_asm); (case hne => k_extra "my_ne"); (case hdx => first | assumption | omega); (case hl => omega); k_extra "my_side"; intro v' n' h' tk' F' N' O'; obtain ⟨e', k', t', v'', e1', ee', ek', e2'⟩ := O'; subst e1'; subst e2'; (have hNw := hN.whole); (have hNl := hN.low); (have hNh := hN.high); (have hNs := hN.size); (have hNp := hN.pl); (try k_sweep); (try dsimp only))
  k_with "call ref" => (guard_hyp zg59 : True); (k_here; k_dflt ((with_reducible show wpAny _ _ (call (Value.ref 206) [Value.str _ _]) _ _ _); (k_dflt (refine' Fn.use (whole_spec _ _ _ ?hdg) ?B ?F ?X ?N ?T ?hk ?hd ?hu ?_)); (case N => k_asm); (case hdg => exact hN.dg); k_extra "my_side"; intro v' n' h' tk' F' N' O'; obtain ⟨e1', c', t', e2', hc'⟩ := O'; replace e1' := e1'.symm; subst e1'; subst e2'; (try k_sweep); (try dsimp only)))
  refine wpAny_call ?_
  k_extra "my_enter"
  k_steps
  all_goals (rename News _ _ _ _ => nE)
  all_goals first
    | (have hy := num_all hN hyV hc' (by with_reducible assumption) rfl (by with_reducible assumption); exact hret _ _ _ _ (by k_asm) (cb_drop nE (by k_extra "my_sub")) ⟨_, _, _, _, _, rfl, hy, rfl, by k_extra "my_lt", hy ▸ hT.br⟩)
    | (have hy := num_all' hN hyV hc' (by with_reducible assumption) rfl (by with_reducible assumption); (rw [fr_of hy] at nE); exact hret _ _ _ _ (by k_asm) (cb_drop nE (by k_extra "my_sub")) ⟨_, _, _, _, _, rfl, rfl, rfl, by k_extra "my_lt", hT.br⟩)
    | (refine' Cut1.on ?zzcuF ⟨_, _, rfl, rfl, ?zzy⟩ (cb_drop nE ?zzs); (case zzcuF => k_asm); (case zzs => k_extra "my_sub"); (case zzy => exact (if_pos (by with_reducible assumption)).symm))
    | (refine' Cut1.same rfl ⟨_, _, rfl, rfl, ?zzy⟩ ?zzcuF (cb_drop nE ?zzs); (case zzcuF => k_asm); (case zzs => k_extra "my_sub"); (case zzy => exact (if_neg (by rw [(by with_reducible assumption : (sgV == Str.ofString "-") = false)]; decide)).symm))
    | (refine' Cut1.on ?zzcuF ⟨_, _, _, _, _, _, rfl, rfl, ?zz0, ?zz1, ?zz2, ?zzN⟩ nE; (case zzcuF => k_asm); (case zz0 => with_reducible assumption); (case zz1 => with_reducible assumption); (case zz2 => with_reducible assumption); (case zzN => exact numT_on hT (by with_reducible assumption) (by with_reducible assumption) (by with_reducible assumption) (by with_reducible assumption) (by with_reducible assumption) (by with_reducible assumption) (by with_reducible assumption) (by with_reducible assumption) (by with_reducible assumption)))
    | (refine' Cut1.same rfl ⟨_, _, _, _, _, _, rfl, rfl, ?zz0, ?zz1, ?zz2, ?zzN⟩ ?zzcuF nE; (case zzcuF => k_asm); (case zz0 => with_reducible assumption); (case zz1 => with_reducible assumption); (case zz2 => omega); (case zzN => exact numT_off hT (by with_reducible assumption) (by with_reducible assumption) (by with_reducible assumption) (by with_reducible assumption) (by with_reducible assumption) (by with_reducible assumption) (by with_reducible assumption)))
-- E1

/-- four words -/
theorem four_of {l : List (Str × Tok)} {a b c d : Str} (e : l.map (·.1) = [a, b, c, d]) : ∃ ta tb tc td, l = [(a, ta), (b, tb), (c, tc), (d, td)] := by
  obtain ⟨ta, l1, rfl, e1⟩ := KSpl.cons_of e
  obtain ⟨tb, l2, rfl, e2⟩ := KSpl.cons_of e1
  obtain ⟨tc, l3, rfl, e3⟩ := KSpl.cons_of e2
  obtain ⟨td, l4, rfl, e4⟩ := KSpl.cons_of e3
  exact ⟨ta, tb, tc, td, by rw [KSpl.nil_of e4]⟩
theorem end_w {h₀ : Heap} {L : Addr} {rest : (Str → Option Value) → List (Addr × Obj) → Prop} {s₁ : Shared} {h' : Heap} {tk : Nat} {m' : Str → Option Value} {p q : Addr × Obj} {post : List (Addr × Obj)} (F : Fr h₀ L h' m') (N : News h₀ L h' (p :: q :: post))
    (off : ∀ x ∈ p :: post, x.1 ≠ q.1) (r : rest m' (p :: post)) : UnrEndW h₀ L s₁ [q] rest { s₁ with heap := h', toks := tk } :=
  ⟨h', tk, m', p :: post, rfl, F, cb_drop N (List.forall_mem_cons.mpr ⟨.tail _ (.head _), List.forall_mem_cons.mpr ⟨.head _, fun x m => .tail _ (.tail _ m)⟩⟩), fun x hx y hy => by rw [List.mem_singleton.mp hy]; exact off x hx, r⟩
theorem words51 : True := by
  k_with "call ref" => (guard_hyp zg60 : True); (k_here; k_dflt ((with_reducible show wpAny _ _ (call (Value.ref 220) [Value.str _ _]) _ _ _); (k_dflt (refine' Fn.use (rdec_spec _ _ _ _ ?hT) ?B ?F ?X ?N ?T ?hk ?hd ?hu ?_)); (case N => k_asm); (case hT => with_reducible assumption); k_extra "my_use"))
  trivial

theorem drop_5 {h₀ h : Heap} {L : Addr} {a b c d x : Addr × Obj} {news : List (Addr × Obj)} (N : News h₀ L h (a :: b :: c :: d :: x :: news)) : News h₀ L h (a :: b :: c :: d :: news) :=
  cb_drop N (List.forall_mem_cons.mpr ⟨.head _, List.forall_mem_cons.mpr ⟨.tail _ (.head _), List.forall_mem_cons.mpr ⟨.tail _ (.tail _ (.head _)), List.forall_mem_cons.mpr ⟨.tail _ (.tail _ (.tail _ (.head _))), fun y m => .tail _ (.tail _ (.tail _ (.tail _ (.tail _ m))))⟩⟩⟩⟩)
/-- four fractions, and what stands ahead of them -/
abbrev Four (news : List (Addr × Obj)) (n : Nat) (q1 q2 q3 q4 : Rat) (news' : List (Addr × Obj)) (l d1 d2 d3 d4 : Addr) (o : Obj) : Prop :=
  ∃ s1 t1 c1 y1 s2 t2 c2 y2 s3 t3 c3 y3 s4 t4 c4 y4, news' = (d4, fr y4 s4 t4 c4) :: (d3, fr y3 s3 t3 c3) :: (d2, fr y2 s2 t2 c2) :: (d1, fr y1 s1 t1 c1) :: (l, o) :: news ∧
    (∀ p ∈ news, p.1 < l) ∧ @LT.lt Nat _ l d1 ∧ @LT.lt Nat _ d1 d2 ∧ @LT.lt Nat _ d2 d3 ∧ @LT.lt Nat _ d3 d4 ∧ y1 = q1 ∧ y2 = q2 ∧ y3 = q3 ∧ y4 = q4 ∧ Br n y1 ∧ Br n y2 ∧ Br n y3 ∧ Br n y4
theorem rnum_spec (text : Str) (u : Tok) (news : List (Addr × Obj)) (w1 w2 w3 w4 : Str) (q1 q2 q3 q4 : Rat) (hl : text.length ≤ 1000) (hl2 : (Txt.replace text (Str.ofString ",") (Str.ofString " ")).length ≤ 1000) (hw : Txt.words (Txt.replace text (Str.ofString ",") (Str.ofString " ")) = [w1, w2, w3, w4]) (h1 : NumText w1 q1) (h2 : NumText w2 q2) (h3 : NumText w3 q3) (h4 : NumText w4 q4) :
    Fn w p loose mean mg mb 5 351 [.str text u] news (fun v news' => ∃ l d1 d2 d3 d4, v = .ref l ∧ Four news 10 q1 q2 q3 q4 news' l d1 d2 d3 d4 (listOf #[.ref d1, .ref d2, .ref d3, .ref d4] 4)) := by
  have zg1 := trivial
  have zg2 := trivial
  have zg3 := trivial
  have zg7 := trivial
  have zg30 := trivial
  have zg60 := trivial
  intro dp un gd cn cs a ccd cl outer A₀ base h₀ L m s Q E B F X N T hk hd hu hret
  k_with "execs cons" => (guard_hyp zg60 : True); ((with_reducible refine sq_cons ?_); intro qk')
  k_with "call builtin:str.replace" => (guard_hyp zg60 : True); (refine SC.replaceW (by (show @Ne Nat _ _); omega) (by (show @Ne Nat _ _); omega) (by (show @Ne Nat _ _); omega) (by decide) (by omega) (by decide) ?_; intro _ _)
  k_with "call builtin:str.split" => (guard_hyp zg60 : True); ((k_dflt (show wpAny _ _ (call (Value.builtin "str.split") [Value.str _ _]) _ _ _)); refine KSpl.split0 (by k_asm) (by k_asm) ?_ (Nat.le_trans (Nat.add_le_add_right hl2 2) (by decide)); intro D' l' h' k' e' a' F' N' l1; (try k_lt l1); (rw [hw] at e'); (obtain ⟨ta', tb', tc', td', el'⟩ := four_of e'); subst el'; (simp only [strValues, List.map_cons, List.map_nil] at N' a'))
  k_with "exec For Name Call cons nil" => (guard_hyp zg60 : True); (k_here; (rename Fr _ _ _ _ => lF'); (with_unfolding_all refine' For_turns lF' ?_; k_whole))
  k_with "pyIter ref" => (guard_hyp zg60 : True); ((rename Fr _ _ _ _ => lF'); (rename News _ _ _ (_ :: _ :: _) => lN'); (with_unfolding_all refine iter_listTurns (by rfl) lF' lN' (List.Mem.head _) (by rfl) (by rfl) ?_); clear lF'; intro i' l1; (try k_lt l1))
  k_with "UnrEndW" => (guard_hyp zg60 : True); ((rename News _ _ _ (_ :: _ :: _) => nE); refine end_w (by k_asm) nE ?off ⟨by k_subL, ?_⟩; (case off => k_extra "my_ne"); (try dsimp only))
  refine wpAny_call ?_
  k_extra "my_enter"
  k_steps
  all_goals (rename News h₀ L _ _ => nE)
  all_goals (refine hret _ _ _ _ (by k_asm) (drop_5 nE) ⟨_, _, _, _, _, rfl, _, _, _, _, _, _, _, _, _, _, _, _, _, _, _, _, rfl, ?_⟩)
  all_goals (refine ⟨by k_extra "my_lt", by omega, by omega, by omega, by omega, by with_reducible assumption, by with_reducible assumption, by with_reducible assumption, by with_reducible assumption, by with_reducible assumption, by with_reducible assumption, by with_reducible assumption, by with_reducible assumption⟩)
-- E2
theorem words52 : True := by
  k_with "call ref" => (guard_hyp zg61 : True); (k_here; k_dflt ((with_reducible show wpAny _ _ (call (Value.ref 351) [Value.str _ _]) _ _ _); (k_dflt (refine' Fn.use (rnum_spec _ _ _ _ _ _ _ _ _ _ _ ?hl ?hl2 ?hw ?h1 ?h2 ?h3 ?h4) ?B ?F ?X ?N ?T ?hk ?hd ?hu ?_)); (case N => k_asm); (case hl => with_reducible assumption); (case hl2 => with_reducible assumption); (case hw => with_reducible assumption); (case h1 => with_reducible assumption); (case h2 => with_reducible assumption); (case h3 => with_reducible assumption); (case h4 => with_reducible assumption); k_extra "my_side"; intro v' n' h' tk' F' N' O'; obtain ⟨l', d1', d2', d3', d4', e1', s1', t1', c1', y1', s2', t2', c2', y2', s3', t3', c3', y3', s4', t4', c4', y4', e2', lD', l1', l2', l3', l4', ey1', ey2', ey3', ey4', b1', b2', b3', b4'⟩ := O'; subst e1'; subst e2'; (try k_lt lD'); (try k_lt2 l1'); (try k_lt2 l2'); (try k_lt2 l3'); (try k_lt2 l4'); (try k_sweep); (try dsimp only)))
  trivial

theorem box_no {c : Int} {y q : Rat} {A B : Prop} (r : A ∧ B ∧ (c > 0 ↔ 0 < y)) (e : y = q) (p : 0 < q) (h : c ≤ 0) : False := by
  have := r.2.2.mpr (e.symm ▸ p)
  omega
theorem drop_6 {h₀ h : Heap} {L : Addr} {e a b c d x : Addr × Obj} {news : List (Addr × Obj)} (N : News h₀ L h (e :: a :: b :: c :: d :: x :: news)) : News h₀ L h (e :: a :: b :: c :: d :: news) :=
  cb_drop N (List.forall_mem_cons.mpr ⟨.head _, List.forall_mem_cons.mpr ⟨.tail _ (.head _), List.forall_mem_cons.mpr ⟨.tail _ (.tail _ (.head _)), List.forall_mem_cons.mpr ⟨.tail _ (.tail _ (.tail _ (.head _))), List.forall_mem_cons.mpr ⟨.tail _ (.tail _ (.tail _ (.tail _ (.head _)))), fun _ m => .tail _ (.tail _ (.tail _ (.tail _ (.tail _ (.tail _ m)))))⟩⟩⟩⟩⟩)
/-- a new box -/
abbrev BoxOut (news : List (Addr × Obj)) (n : Nat) (q1 q2 q3 q4 : Rat) (v : Value) (news' : List (Addr × Obj)) : Prop :=
  ∃ t d1 d2 d3 d4 c s1 t1 c1 y1 s2 t2 c2 y2 s3 t3 c3 y3 s4 t4 c4 y4, v = .ref t ∧ news' = (t, tup4 d1 d2 d3 d4 c) :: (d4, fr y4 s4 t4 c4) :: (d3, fr y3 s3 t3 c3) :: (d2, fr y2 s2 t2 c2) :: (d1, fr y1 s1 t1 c1) :: news ∧
    (∀ p ∈ news, p.1 < d1) ∧ @LT.lt Nat _ d1 d2 ∧ @LT.lt Nat _ d2 d3 ∧ @LT.lt Nat _ d3 d4 ∧ @LT.lt Nat _ d4 t ∧ y1 = q1 ∧ y2 = q2 ∧ y3 = q3 ∧ y4 = q4 ∧ Br n y1 ∧ Br n y2 ∧ Br n y3 ∧ Br n y4
theorem rbox_spec (text : Str) (u : Tok) (news : List (Addr × Obj)) (w1 w2 w3 w4 : Str) (q1 q2 q3 q4 : Rat) (hl : text.length ≤ 1000) (hl2 : (Txt.replace text (Str.ofString ",") (Str.ofString " ")).length ≤ 1000) (hw : Txt.words (Txt.replace text (Str.ofString ",") (Str.ofString " ")) = [w1, w2, w3, w4]) (h1 : NumText w1 q1) (h2 : NumText w2 q2) (h3 : NumText w3 q3) (h4 : NumText w4 q4) (p3 : 0 < q3) (p4 : 0 < q4) :
    Fn w p loose mean mg mb 6 358 [.str text u] news (BoxOut news 10 q1 q2 q3 q4) := by
  have zg1 := trivial
  have zg2 := trivial
  have zg3 := trivial
  have zg4 := trivial
  have zg7 := trivial
  have zg8 := trivial
  have zg9 := trivial
  have zg61 := trivial
  intro dp un gd cn cs a ccd cl outer A₀ base h₀ L m s Q E B F X N T hk hd hu hret
  k_with "exec Raise some none" => (guard_hyp zg61 : True); (exfalso; first | exact box_no (by with_reducible assumption) (by with_reducible assumption) p3 (by with_reducible assumption) | exact box_no (by with_reducible assumption) (by with_reducible assumption) p4 (by with_reducible assumption))
  refine wpAny_call ?_
  k_extra "my_enter"
  k_steps
  all_goals (rename News h₀ L _ _ => nE)
  all_goals (refine hret _ _ _ _ (by k_asm) (drop_6 nE) ⟨_, _, _, _, _, _, _, _, _, _, _, _, _, _, _, _, _, _, _, _, _, _, rfl, rfl, ?_⟩)
  all_goals (refine ⟨lt_trans0 (by with_reducible assumption) (by omega), by omega, by omega, by omega, by omega, by with_reducible assumption, by with_reducible assumption, by with_reducible assumption, by with_reducible assumption, by with_reducible assumption, by with_reducible assumption, by with_reducible assumption, by with_reducible assumption⟩)
-- E3
/-- the box at q is (x, y, u, v) -/
structure BoxAt (w : World) (news : List (Addr × Obj)) (q : Addr) (n : Nat) (x y u v : Rat) : Prop where
  out : ∃ a b c d k, (q, tup4 a b c d k) ∈ news ∧ At w news a n x ∧ At w news b n y ∧ At w news c n u ∧ At w news d n v
theorem BoxAt.sub {w : World} {news news' : List (Addr × Obj)} {q : Addr} {n : Nat} {x y u v : Rat} (h : BoxAt w news q n x y u v) (k : ∀ p ∈ news, p ∈ news') : BoxAt w news' q n x y u v := by
  obtain ⟨a, b, c, d, l, h1, h2, h3, h4, h5⟩ := h
  exact ⟨a, b, c, d, l, k _ h1, h2.sub k, h3.sub k, h4.sub k, h5.sub k⟩
theorem BoxAt.of {w : World} {news : List (Addr × Obj)} {q a b c d : Addr} {k n : Nat} {x y u v : Rat} (h : (q, tup4 a b c d k) ∈ news) (h1 : At w news a n x) (h2 : At w news b n y) (h3 : At w news c n u) (h4 : At w news d n v) : BoxAt w news q n x y u v := ⟨a, b, c, d, k, h, h1, h2, h3, h4⟩
/-- the part that a word of an align tells -/
def PartIs (s : Str) (x : Rat) : Prop := (s = Str.ofString "Min" ∧ x = 0) ∨ (s = Str.ofString "Mid" ∧ x = 1/2) ∨ (s = Str.ofString "Max" ∧ x = 1)
abbrev PartOut (w : World) (news : List (Addr × Obj)) (x : Rat) (v : Value) (news' : List (Addr × Obj)) : Prop :=
  ∃ a y e, v = .ref a ∧ y = x ∧ news' = e :: news ∧ (∀ p ∈ news, p.1 < e.1) ∧ At w news' a 2 y
section
variable {w : World} {p : Program} {loose : List Str} {mean : ExcName → Option Value} {mg mb : Str → Option Value} {D : Nat} {f : Addr} {vs : List Value} {news : List (Addr × Obj)} {dp un : Nat} {gd : Option (List Code)} {cn : Str} {cs : Scope} {a : Addr} {ccd : Value} {cl : List (Str × Addr)} {outer : List Env} {A₀ : Around} {base h₀ : Heap} {L : Addr} {m : Str → Option Value} {s : Shared} {Q E : Value → Shared → Prop}
theorem Fn.usePart (low : List (Addr × Obj)) {x : Rat} (C : Fn w p loose mean mg mb D f vs news (PartOut w news x)) (hsb : ∀ q ∈ low, q ∈ news) (B : Below A₀ base outer h₀) (F : Fr h₀ L s.heap m) (X : (KK w.params).In h₀) (N : News h₀ L s.heap news) (T : Top p loose mean mg mb h₀) (hk : cs.kind = .function) (hd : dp + D < recursionLimit) (hu : un + 8 * D < cLine)
    (h : ∀ (a : Addr) (y : Rat) (e : Addr × Obj) (h' : Heap) (tk' : Nat), y = x → Fr h₀ L h' m → News h₀ L h' (e :: news) → (∀ q ∈ low, q.1 < e.1) → At w (e :: news) a 2 y → Q (.ref a) { s with heap := h', toks := tk' }) :
    wpAny (model PySem.Challenge.pw_pf0196_01 w) (ktrTop dp un gd cn cs L a ccd cl outer) (call (.ref f) vs) Q E s := by
  refine C.use B F X N T hk hd hu ?_
  rintro v news' h' tk' F' N' ⟨a', y, e, rfl, ey, rfl, l, b⟩
  exact h a' y e h' tk' ey F' N' (fun q m => l q (hsb q m)) b
end
theorem mv_m {a b : Addr × Obj} {news : List (Addr × Obj)} : ∀ p ∈ a :: news, p ∈ a :: b :: news := List.forall_mem_cons.mpr ⟨List.Mem.head _, fun _ k => List.Mem.tail _ (List.Mem.tail _ k)⟩
theorem part_spec (wd : Str) (t : Tok) (x : Rat) (news : List (Addr × Obj)) (hp : PartIs wd x) :
    Fn w p loose mean mg mb 2 365 [.str wd t] news (PartOut w news x) := by
  have zg1 := trivial
  have zg2 := trivial
  have zg3 := trivial
  have zg4 := trivial
  have zg13 := trivial
  have zg33 := trivial
  have zg45 := trivial
  intro dp un gd cn cs a ccd cl outer A₀ base h₀ L m s Q E B F X N T hk hd hu hret
  rcases hp with ⟨rfl, rfl⟩ | ⟨rfl, rfl⟩ | ⟨rfl, rfl⟩ <;> refine wpAny_call ?_ <;> k_extra "my_enter" <;> k_steps
  all_goals (rename News h₀ L _ _ => nE)
  all_goals (first
    | exact hret _ _ _ _ (by k_asm) (cb_drop nE mv_m) ⟨_, _, _, rfl, rfl, rfl, by k_extra "my_lt", (at_zero _).up (by decide)⟩
    | exact hret _ _ _ _ (by k_asm) (cb_drop nE mv_m) ⟨_, _, _, rfl, rfl, rfl, by k_extra "my_lt", at_half _⟩
    | exact hret _ _ _ _ (by k_asm) (cb_drop nE mv_m) ⟨_, _, _, rfl, rfl, rfl, by k_extra "my_lt", At.int (k := 1) (List.Mem.head _) (Bi.of (by decide))⟩)
theorem nw3' {h₀ h : Heap} {L : Addr} {big news : List (Addr × Obj)} {p1 p2 p3 : Addr × Obj} (N : News h₀ L h big) (h1 : p1 ∈ big) (h2 : p2 ∈ big) (h3 : p3 ∈ big) (hs : ∀ x ∈ news, x ∈ big) : News h₀ L h (p1 :: p2 :: p3 :: news) := nw3 N h1 h2 h3 hs
/-- a box moved: three entries ahead of the ledger -/
abbrev MvOut (w : World) (news : List (Addr × Obj)) (n : Nat) (x y u v : Rat) (r : Value) (news' : List (Addr × Obj)) : Prop :=
  ∃ t p1 p2 p3 x' y', r = .ref t ∧ x' = x ∧ y' = y ∧ news' = p1 :: p2 :: p3 :: news ∧ (∀ p ∈ news, p.1 < p1.1) ∧ (∀ p ∈ news, p.1 < p2.1) ∧ (∀ p ∈ news, p.1 < p3.1) ∧ BoxAt w news' t n x' y' u v
theorem moved_spec (box ax ay : Addr) (x y u v x2 y2 : Rat) (i j : Nat) (news : List (Addr × Obj)) (hB : BoxAt w news box i x y u v) (hx : At w news ax j x2) (hy : At w news ay j y2) (hn : i + j + 1 ≤ 8000) :
    Fn w p loose mean mg mb 4 380 [.ref box, .ref ax, .ref ay] news (MvOut w news (i + j + 1) (x + x2) (y + y2) u v) := by
  have zg1 := trivial
  have zg2 := trivial
  have zg3 := trivial
  have zg4 := trivial
  have zg13 := trivial
  have zg33 := trivial
  have zg45 := trivial
  intro dp un gd cn cs ad ccd cl outer A₀ base h₀ L m s Q E B F X N T hk hd hu hret
  obtain ⟨a, b, c, d, k, h1, ha, hb, hc, hd'⟩ := hB
  refine wpAny_call ?_
  k_extra "my_enter"
  k_steps
  all_goals (rename News h₀ L _ _ => nE)
  all_goals (exact hret _ _ _ _ (by k_asm) (nw3 nE (by k_extra "my_mem") (by k_extra "my_mem") (by k_extra "my_mem") (by k_extra "my_sub")) ⟨_, _, _, _, _, _, rfl, by with_reducible assumption, by with_reducible assumption, rfl, by k_extra "my_lt", by k_extra "my_lt", by k_extra "my_lt", BoxAt.of (List.Mem.head _) (At.here (List.Mem.tail _ (List.Mem.tail _ (List.Mem.head _))) (by with_reducible assumption)) (At.here (List.Mem.tail _ (List.Mem.head _)) (by with_reducible assumption)) ((hc.sub fun _ m => List.Mem.tail _ (List.Mem.tail _ (List.Mem.tail _ m))).up (by omega)) ((hd'.sub fun _ m => List.Mem.tail _ (List.Mem.tail _ (List.Mem.tail _ m))).up (by omega))⟩)
-- G1
/-- the source of the law's numbers -/
abbrev srcO (a b : Int) (t u : Tok) : Obj := listOf #[.int a t, .int b u] 0
/-- what turns the source alone hands back -/
abbrev SrcOut (src : Addr) (rest : List (Addr × Obj)) (news' : List (Addr × Obj)) : Prop :=
  ∃ a b t u, news' = (src, srcO a b t u) :: rest ∧ 0 ≤ b ∧ b ≤ 2147483647
abbrev IntOut (P : Int → Prop) (src : Addr) (rest : List (Addr × Obj)) (v : Value) (news' : List (Addr × Obj)) : Prop :=
  ∃ r t, v = .int r t ∧ P r ∧ SrcOut src rest news'
section
variable {w : World} {A : Around} {E : Value → Shared → Prop} {s : Shared} {h₀ : Heap} {L src : Addr} {a b : Int} {news : List (Addr × Obj)} {value slice : Expr} {t u k : Tok} {Q : Value → Shared → Prop}
theorem src0 (N : News h₀ L s.heap news) (hm : (src, srcO a b t u) ∈ news) (h : ∀ t, Q (.int a t) s)
    (hs : subscripted slice false (.ref src) (.int 0 k) = operate [.ref src, .int 0 k] (getItem (.ref src) (.int 0 k)) := by with_unfolding_all rfl) : wpAny (model PySem.Challenge.pw_pf0196_01 w) A (subscriptTail value slice (.ref src) (.int 0 k)) Q E s :=
  tail_any (N.isList hm).typeIs slot_list_getitem.lookup (wpAny_getItem_list (N.isList hm) (by decide) (by decide) rfl (h _)) hs
theorem src1 (N : News h₀ L s.heap news) (hm : (src, srcO a b t u) ∈ news) (h : ∀ t, Q (.int b t) s)
    (hs : subscripted slice false (.ref src) (.int 1 k) = operate [.ref src, .int 1 k] (getItem (.ref src) (.int 1 k)) := by with_unfolding_all rfl) : wpAny (model PySem.Challenge.pw_pf0196_01 w) A (subscriptTail value slice (.ref src) (.int 1 k)) Q E s :=
  tail_any (N.isList hm).typeIs slot_list_getitem.lookup (wpAny_getItem_list (N.isList hm) (by decide) (by decide) rfl (h _)) hs
end
theorem lcg_b {x : Int} : 0 ≤ x.fmod 2147483647 ∧ x.fmod 2147483647 ≤ 2147483647 := by
  have := Int.fmod_nonneg_of_pos x (b := 2147483647) (by decide)
  have := Int.fmod_lt_of_pos x (b := 2147483647) (by decide)
  omega
theorem fmod_b {x top : Int} (h : 0 < top) : 0 ≤ x.fmod top ∧ x.fmod top < top := ⟨Int.fmod_nonneg_of_pos x h, Int.fmod_lt_of_pos x h⟩
theorem bi_b {x : Int} (h : 0 ≤ x ∧ x ≤ 2147483647) : Bi 64 x := Bi.of (by omega)
theorem take_spec (src : Addr) (a b top : Int) (t u tt : Tok) (rest : List (Addr × Obj)) (hne : ∀ p ∈ rest, p.1 ≠ src) (hb : 0 ≤ b ∧ b ≤ 2147483647) (ht : 0 < top ∧ top ≤ 100000) :
    Fn w p loose mean mg mb 1 394 [.ref src, .int top tt] ((src, srcO a b t u) :: rest) (IntOut (fun r => 0 ≤ r ∧ r < top) src rest) := by
  have zg1 := trivial
  have zg2 := trivial
  have zg3 := trivial
  have zg4 := trivial
  have zg7 := trivial
  have zg23 := trivial
  have zg24 := trivial
  intro dp un gd cn cs ad ccd cl outer A₀ base h₀ L m s Q E B F X N T hk hd hu hret
  have hb64 := bi_b hb
  have hlc := bi_b (lcg_b (x := b * 39373 + 7))
  have h399 : Bi 64 39373 := Bi.of (by decide)
  refine wpAny_call ?_
  k_extra "my_enter"
  k_steps
  all_goals (rename News h₀ L _ _ => nE)
  all_goals (refine hret _ _ _ _ (by k_asm) nE ⟨_, _, rfl, fmod_b ht.1, _, _, _, _, rfl, ?_⟩)
  all_goals (first | exact hb | exact lcg_b)
-- N1
theorem hasAt_app {txt : Str} {pre post : List Nat} {k : Int} {S : List Nat} (e : txt.cps.toList = pre ++ post) (hk : k = pre.length) : hasAt txt k S = (match post.head? with | some c => decide (c ∈ S) | none => false) := by
  unfold hasAt
  rw [e, hk, Int.toNat_natCast, List.getElem?_append_right (Nat.le_refl _), Nat.sub_self]
  cases post <;> rfl
theorem dg_take {W post : List Nat} (hW : ∀ c ∈ W, c ∈ DG) (hp : ∀ c, post.head? = some c → c ∉ DG) : ((W ++ post).takeWhile fun c => decide (c ∈ DG)) = W := by
  rw [List.takeWhile_append_of_pos (by intro c m; simpa using hW c m)]
  cases post with
  | nil => simp
  | cons c r => rw [List.takeWhile_cons_of_neg (by simpa using hp c rfl), List.append_nil]
theorem dgE_app {txt : Str} {pre W post : List Nat} {k : Int} (e : txt.cps.toList = pre ++ (W ++ post)) (hk : k = pre.length) (hW : ∀ c ∈ W, c ∈ DG) (hp : ∀ c, post.head? = some c → c ∉ DG) : dgE txt k = ((pre ++ W).length : Nat) := by
  unfold dgE
  rw [e, hk, Int.toNat_natCast, List.drop_left, dg_take hW hp, List.length_append]
  omega
theorem str_ext {s : Str} {l : List Nat} (h : s.cps.toList = l) : s = ⟨l.toArray⟩ := PySem.Str.ext' (by rw [← h])
theorem dgS_app {txt : Str} {pre W post : List Nat} {k : Int} (e : txt.cps.toList = pre ++ (W ++ post)) (hk : k = pre.length) (hW : ∀ c ∈ W, c ∈ DG) (hp : ∀ c, post.head? = some c → c ∉ DG) : dgS txt k = ⟨W.toArray⟩ := by
  refine str_ext ?_
  have hl := len_list txt
  rw [e, List.length_append] at hl
  rw [dgS_is (by omega) (by omega), e, hk, Int.toNat_natCast, List.drop_left, dg_take hW hp]
theorem skS_app {txt : Str} {pre post : List Nat} {c : Nat} {k : Int} {S : List Nat} (e : txt.cps.toList = pre ++ c :: post) (hk : k = pre.length) (hc : c ∈ S) : skS txt k S = ⟨#[c]⟩ ∧ skN txt k S = ((pre ++ [c]).length : Nat) := by
  have hh : hasAt txt k S = true := by rw [hasAt_app e hk]; simpa using hc
  refine ⟨?_, ?_⟩
  · unfold skS
    rw [if_pos hh]
    refine item_is (by omega) ?_
    rw [e, hk, Int.toNat_natCast, List.getElem?_append_right (Nat.le_refl _), Nat.sub_self]
    rfl
  · rw [skN_on hh, hk, List.length_append]; simp
theorem skS_no {txt : Str} {pre post : List Nat} {k : Int} {S : List Nat} (e : txt.cps.toList = pre ++ post) (hk : k = pre.length) (hc : ∀ c, post.head? = some c → c ∉ S) : skS txt k S = Str.ofString "" ∧ skN txt k S = (pre.length : Nat) := by
  have hh : hasAt txt k S = false := by
    rw [hasAt_app e hk]
    cases post with
    | nil => rfl
    | cons c r => simpa using hc c rfl
  exact ⟨skS_off hh, by rw [skN_off hh, hk]⟩
theorem dg_list : DG = [48, 49, 50, 51, 52, 53, 54, 55, 56, 57] := by decide +kernel
theorem pm_list : PM = [43, 45] := by decide +kernel
theorem ee_list : EE = [101, 69] := by decide +kernel
theorem do_list : DO = [46] := by decide +kernel
/-- the codes of an exponent that tells e -/
def ExpIs (X : List Nat) (e : Int) : Prop := (X = [] ∧ e = 0) ∨ (∃ j : Nat, j ≤ 3 ∧ X = [101, 45, 48 + j] ∧ e = -j) ∨ (∃ j : Nat, j ≤ 3 ∧ X = [69, 43, 48 + j] ∧ e = j)
theorem ExpIs.head {X : List Nat} {e : Int} (h : ExpIs X e) : ∀ c, X.head? = some c → c = 101 ∨ c = 69 := by
  intro c hc
  rcases h with ⟨rfl, _⟩ | ⟨j, _, rfl, _⟩ | ⟨j, _, rfl, _⟩
  · cases hc
  · exact .inl (Option.some.inj hc).symm
  · exact .inr (Option.some.inj hc).symm
theorem ee_dg {c : Nat} (h : c = 101 ∨ c = 69) : c ∉ DG ∧ c ≠ 46 ∧ c ∉ PM := by rcases h with rfl | rfl <;> (rw [dg_list, pm_list]; decide)
theorem j_dg0 : ∀ j, j < 4 → ∀ c ∈ [48 + j], c ∈ DG := by decide +kernel
theorem j_dg {j : Nat} (h : j ≤ 3) : ∀ c ∈ [48 + j], c ∈ DG := j_dg0 j (Nat.lt_succ_of_le h)
theorem dg_pm : ∀ c ∈ DG, c ∉ PM := by decide +kernel
theorem dg_b : ∀ c ∈ DG, 33 ≤ c ∧ c ≤ 126 ∧ c ≠ 44 := by decide +kernel
theorem ej_b : ∀ j, j < 4 → ∀ c ∈ [101, 45, 48 + j], 33 ≤ c ∧ c ≤ 126 ∧ c ≠ 44 := by decide +kernel
theorem ep_b : ∀ j, j < 4 → ∀ c ∈ [69, 43, 48 + j], 33 ≤ c ∧ c ≤ 126 ∧ c ≠ 44 := by decide +kernel
theorem ten_s : ∀ k, k < 3 → ((10 : Int) ^ k).natAbs < 2 ^ 10 := by decide +kernel
theorem nil_head {c : Nat} {P : Prop} (h : ([] : List Nat).head? = some c) : P := by cases h
theorem exp_is {txt : Str} {pre X : List Nat} {e a : Int} (hc : txt.cps.toList = pre ++ X) (ha : a = pre.length) (hX : ExpIs X e) : exV txt a = e ∧ exE txt a = txt.length ∧
    (hasAt txt a EE = true → (dgS txt (skN txt (a + 1) PM)) ≠ Str.ofString "" ∧ (dgS txt (skN txt (a + 1) PM)).length ≤ 9 ∧ decOf (KStt.codes (dgS txt (skN txt (a + 1) PM))) ≤ 300) := by
  have hlen := len_list txt
  rw [hc, List.length_append] at hlen
  rcases hX with ⟨rfl, rfl⟩ | ⟨j, hj, rfl, rfl⟩ | ⟨j, hj, rfl, rfl⟩
  · have hh : hasAt txt a EE = false := by rw [hasAt_app hc ha]; rfl
    refine ⟨by unfold exV; rw [hh]; rfl, ?_, fun h => by rw [hh] at h; cases h⟩
    unfold exE
    rw [hh]
    simp only [List.length_nil] at hlen
    simp only [Bool.false_eq_true, if_false]
    omega
  all_goals
    have hh : hasAt txt a EE = true := by rw [hasAt_app hc ha, ee_list]; rfl
    have e1 := hc.trans (List.append_cons pre _ _)
    have s1 := skS_app (S := PM) (k := a + 1) e1 (by rw [List.length_append, ha]; simp) (by rw [pm_list]; decide)
    have e2 := e1.trans (List.append_cons (pre ++ [_]) _ _)
    have d1 := dgE_app (W := [48 + j]) (post := []) (k := skN txt (a + 1) PM) (e2.trans (by simp)) s1.2 (j_dg hj) (fun _ h => nil_head h)
    have d2 := dgS_app (W := [48 + j]) (post := []) (k := skN txt (a + 1) PM) (e2.trans (by simp)) s1.2 (j_dg hj) (fun _ h => nil_head h)
    have d3 : decOf (KStt.codes ⟨#[48 + j]⟩) = j := by
      show (0 : Int) * 10 + (((48 + j : Nat) : Int) - 48) = j
      omega
    refine ⟨?_, ?_, fun _ => ?_⟩
    · unfold exV
      rw [if_pos hh, s1.1, d2, d3]
      first | rw [if_pos (by decide +kernel)] | rw [if_neg (by decide +kernel)]
    · unfold exE
      rw [if_pos hh, d1]
      simp only [List.length_append, List.length_cons, List.length_nil] at hlen ⊢
      omega
    · rw [d2, d3]
      refine ⟨fun h => ?_, by show 1 ≤ 9; decide, by omega⟩
      have := congrArg Str.length h
      rw [show (Str.ofString "").length = 0 by decide +kernel] at this
      cases this
-- N2
theorem codes_app (a b : Str) : KStt.codes (a ++ b) = KStt.codes a ++ KStt.codes b := by
  unfold KStt.codes
  rw [PySem.Str.cps_append, Array.toList_append, List.map_append]
theorem codes_mk (l : List Nat) : KStt.codes ⟨l.toArray⟩ = l.map fun (c : Nat) => (c : Int) := rfl
theorem num_text {txt : Str} {sg W D P X : List Nat} {e N : Int} (hc : txt.cps.toList = sg ++ (W ++ (D ++ (P ++ X)))) (hs : sg = [] ∨ sg = [43] ∨ sg = [45]) (hW : ∀ c ∈ W, c ∈ DG) (hP : ∀ c ∈ P, c ∈ DG)
    (hD : D = [46] ∨ (D = [] ∧ P = [])) (hX : ExpIs X e) (hne : W ++ P ≠ []) (hN : decOf ((W ++ P).map fun (c : Nat) => (c : Int)) = N) (hlW : W.length ≤ 3) (hlP : P.length ≤ 3) (hlow : -2 ≤ e - P.length) (hhigh : e - P.length ≤ 0) (hN0 : 0 ≤ N) (hN1 : N ≤ 900) :
    NumText txt (Rat.divInt (if sg = [45] then -N else N) (10 ^ (-(e - P.length)).toNat)) := by
  have hlen := len_list txt
  rw [hc] at hlen
  have hXh := hX.head
  have hXl : X.length ≤ 3 := by rcases hX with ⟨rfl, _⟩ | ⟨j, _, rfl, _⟩ | ⟨j, _, rfl, _⟩ <;> simp
  have hsl : sg.length ≤ 1 := by rcases hs with rfl | rfl | rfl <;> decide
  have hDl : D.length ≤ 1 := by rcases hD with rfl | ⟨rfl, _⟩ <;> decide
  have hD46 : ∀ c, (D ++ (P ++ X)).head? = some c → c ∉ DG ∧ c ∉ PM := by
    intro c h
    rcases hD with rfl | ⟨rfl, rfl⟩
    · have : c = 46 := (Option.some.inj h).symm
      subst this
      rw [dg_list, pm_list]; decide
    · exact ⟨(ee_dg (hXh c h)).1, (ee_dg (hXh c h)).2.2⟩
  -- the sign
  have hsign : skN txt 0 PM = (sg.length : Nat) ∧ (skS txt 0 PM == Str.ofString "-") = decide (sg = [45]) := by
    rcases hs with rfl | rfl | rfl
    · have h := skS_no (S := PM) (pre := []) (k := 0) hc rfl (by
        intro c h
        cases W with
        | nil => exact (hD46 c h).2
        | cons x r =>
          have : x = c := Option.some.inj h
          subst this
          exact dg_pm _ (hW x (.head _)))
      exact ⟨h.2, by rw [h.1]; decide +kernel⟩
    · have h := skS_app (S := PM) (pre := []) (k := 0) hc rfl (by rw [pm_list]; decide)
      exact ⟨h.2, by rw [h.1]; decide +kernel⟩
    · have h := skS_app (S := PM) (pre := []) (k := 0) hc rfl (by rw [pm_list]; decide)
      exact ⟨h.2, by rw [h.1]; decide +kernel⟩
  have c1 : txt.cps.toList = sg ++ (W ++ (D ++ (P ++ X))) := hc
  have w1 := dgE_app (k := skN txt 0 PM) c1 hsign.1 hW (fun c h => (hD46 c h).1)
  have w2 := dgS_app (k := skN txt 0 PM) c1 hsign.1 hW (fun c h => (hD46 c h).1)
  have c2 : txt.cps.toList = (sg ++ W) ++ (D ++ (P ++ X)) := c1.trans (List.append_assoc ..).symm
  have hdot := hasAt_app (S := DO) (k := dgE txt (skN txt 0 PM)) c2 w1
  have hbr : Br 10 (Rat.divInt (if sg = [45] then -N else N) (10 ^ (-(e - P.length)).toNat)) := by
    have : (-(e - P.length)).toNat < 3 := by omega
    refine Br.divInt (Bi.of ?_) (Bi.of ?_) (ten_ne _)
    · split <;> omega
    · exact ten_s _ this
  have hdgs : ∀ c ∈ W ++ P, c ∈ DG := by
    intro c h
    rcases List.mem_append.mp h with h | h
    · exact hW c h
    · exact hP c h
  have hdgb := dg_b
  have hcs : txt.length ≠ 0 ∧ ∀ c ∈ txt.cps.toList, 33 ≤ c ∧ c ≤ 126 ∧ c ≠ 44 := by
    constructor
    · intro h0
      rw [hlen] at h0
      simp only [List.length_append] at h0
      exact hne (by rw [List.eq_nil_of_length_eq_zero (l := W) (by omega), List.eq_nil_of_length_eq_zero (l := P) (by omega)]; rfl)
    · intro c h
      rw [hc] at h
      rcases List.mem_append.mp h with h | h
      · rcases hs with rfl | rfl | rfl
        · cases h
        · rw [List.mem_singleton.mp h]; decide
        · rw [List.mem_singleton.mp h]; decide
      · rcases List.mem_append.mp h with h | h
        · exact hdgb c (hW c h)
        · rcases List.mem_append.mp h with h | h
          · rcases hD with rfl | ⟨rfl, _⟩
            · rw [List.mem_singleton.mp h]; decide
            · cases h
          · rcases List.mem_append.mp h with h | h
            · exact hdgb c (hP c h)
            · rcases hX with ⟨rfl, _⟩ | ⟨j, hj, rfl, _⟩ | ⟨j, hj, rfl, _⟩
              · cases h
              · exact ej_b j (Nat.lt_succ_of_le hj) c h
              · exact ep_b j (Nat.lt_succ_of_le hj) c h
  refine ⟨?_, hbr, hcs, fun hon => ?_, fun hoff => ?_⟩
  · rw [hlen]
    simp only [List.length_append]
    omega
  · -- a point
    rcases hD with rfl | ⟨rfl, rfl⟩
    · have c3 : txt.cps.toList = (sg ++ W ++ [46]) ++ (P ++ X) := c2.trans (by simp)
      have ka : dgE txt (skN txt 0 PM) + 1 = ((sg ++ W ++ [46]).length : Nat) := by rw [w1]; simp only [List.length_append, List.length_cons, List.length_nil]; omega
      have p1 := dgE_app (k := dgE txt (skN txt 0 PM) + 1) c3 ka hP (fun c h => (ee_dg (hXh c h)).1)
      have p2 := dgS_app (k := dgE txt (skN txt 0 PM) + 1) c3 ka hP (fun c h => (ee_dg (hXh c h)).1)
      have c4 : txt.cps.toList = (sg ++ W ++ [46] ++ P) ++ X := c3.trans (List.append_assoc ..).symm
      obtain ⟨x1, x2, x3⟩ := exp_is c4 p1 hX
      rw [w2, p2]
      have hcod : KStt.codes (⟨W.toArray⟩ ++ ⟨P.toArray⟩ : Str) = (W ++ P).map fun (c : Nat) => (c : Int) := by rw [codes_app, codes_mk, codes_mk, List.map_append]
      refine ⟨?_, x3, by rw [x2]; omega, ?_, ?_, ?_, ?_, ?_, ?_⟩
      · refine beq_eq_false_iff_ne.mpr fun h => hne ?_
        have := congrArg (fun s => s.cps.toList) h
        rw [show (Str.ofString "").cps.toList = [] by decide +kernel] at this
        simpa [PySem.Str.cps_append] using this
      · rw [x1]; show -2 ≤ e - (P.length : Int); omega
      · rw [x1]; show e - (P.length : Int) ≤ 0; omega
      · rw [hcod, hN]; omega
      · intro c h; exact hdgs c (by simpa [PySem.Str.cps_append] using h)
      · show P.length ≤ 100; omega
      · rw [hcod, hN, x1, hsign.2]
        show _ = Rat.divInt _ (10 ^ (-(e - (P.length : Int))).toNat)
        by_cases h : sg = [45]
        · rw [if_pos h, if_pos (decide_eq_true h)]
        · rw [if_neg h, if_neg (by rw [decide_eq_false h]; decide)]
    · rw [hdot] at hon
      cases X with
      | nil => cases hon
      | cons x r =>
        have := (ee_dg (hXh x rfl)).2.1
        rw [do_list] at hon
        simp at hon
        exact absurd hon this
  · rcases hD with rfl | ⟨rfl, rfl⟩
    · rw [hdot, do_list] at hoff
      simp at hoff
    · obtain ⟨x1, x2, x3⟩ := exp_is (c2.trans (by simp : _ = (sg ++ W) ++ X)) w1 hX
      rw [w2]
      have hcod : KStt.codes (⟨W.toArray⟩ ++ Str.ofString "" : Str) = (W ++ []).map fun (c : Nat) => (c : Int) := by
        rw [codes_app, codes_mk, show KStt.codes (Str.ofString "") = [] by decide +kernel, List.append_nil, List.append_nil]
      have h0 : (Str.ofString "").length = 0 := by decide +kernel
      refine ⟨?_, x3, by rw [x2]; omega, ?_, ?_, ?_, ?_, ?_, ?_⟩
      · refine beq_eq_false_iff_ne.mpr fun h => hne ?_
        have := congrArg (fun s => s.cps.toList) h
        rw [show (Str.ofString "").cps.toList = [] by decide +kernel] at this
        simpa [PySem.Str.cps_append, show (Str.ofString "").cps = #[] by decide +kernel] using this
      · rw [x1, h0]; exact hlow
      · rw [x1, h0]; exact hhigh
      · rw [hcod, hN]; omega
      · intro c h; exact hdgs c (by simpa [PySem.Str.cps_append, show (Str.ofString "").cps = #[] by decide +kernel] using h)
      · rw [h0]; omega
      · rw [hcod, hN, x1, hsign.2, h0]
        show _ = Rat.divInt _ (10 ^ (-(e - (0 : Int))).toNat)
        by_cases h : sg = [45]
        · rw [if_pos h, if_pos (decide_eq_true h)]; rfl
        · rw [if_neg h, if_neg (by rw [decide_eq_false h]; decide)]; rfl
abbrev topT (n : Int) : Str := Str.ofString (toString n)
def topChk (k : Nat) : Bool := (((Nat.toDigits 10 k).map Char.toNat).all fun c => decide (c ∈ [48, 49, 50, 51, 52, 53, 54, 55, 56, 57])) && decide (decOf (((Nat.toDigits 10 k).map Char.toNat).map fun (c : Nat) => (c : Int)) = k) && decide (1 ≤ ((Nat.toDigits 10 k).map Char.toNat).length) && decide (((Nat.toDigits 10 k).map Char.toNat).length ≤ 3)
theorem topChk_all : ∀ k < 901, topChk k = true := by decide +kernel
/-- figures that tell n -/
structure Figs (s : Str) (n : Int) (lo hi : Nat) : Prop where
  dg : ∀ c ∈ s.cps.toList, c ∈ DG
  val : decOf (KStt.codes s) = n
  lo : lo ≤ s.length
  hi : s.length ≤ hi
theorem top_figs {n : Int} (h0 : 0 ≤ n) (h1 : n ≤ 900) : Figs (topT n) n 1 3 := by
  obtain ⟨k, rfl⟩ := Int.eq_ofNat_of_zero_le h0
  have hk := topChk_all k (by omega)
  unfold topChk at hk
  simp only [Bool.and_eq_true, decide_eq_true_eq, List.all_eq_true] at hk
  have e := KIN.signs_num k
  have hl := len_list (topT k)
  rw [e] at hl
  refine ⟨?_, ?_, by rw [hl]; exact hk.1.2, by rw [hl]; exact hk.2⟩
  · rw [e, dg_list]; exact hk.1.1.1
  · unfold KStt.codes; rw [e]; exact hk.1.1.2
abbrev figT (n p : Int) : Str := Txt.rjustF (topT n) (p + 1) ((Str.ofString "0").cps.getD 0 0)
theorem dec_zeros (k : Nat) (l : List Int) : decOf (List.replicate k 48 ++ l) = decOf l := by
  induction k with
  | zero => rfl
  | succ k ih => exact ih
theorem fig_figs {n p : Int} (h0 : 0 ≤ n) (h1 : n ≤ 900) (p0 : 0 ≤ p) (p1 : p ≤ 2) : Figs (figT n p) n (p + 1).toNat 3 := by
  have F := top_figs h0 h1
  have h48 : (Str.ofString "0").cps.getD 0 0 = 48 := by decide +kernel
  unfold figT
  rw [h48]
  unfold Txt.rjustF
  split
  · exact ⟨F.dg, F.val, by omega, F.hi⟩
  · have hll := len_list (topT n)
    have e : (Builtin.Str.padded (topT n) ((p + 1).toNat - (topT n).length) 0 48).cps.toList = List.replicate ((p + 1).toNat - (topT n).length) 48 ++ (topT n).cps.toList := by
      simp [Builtin.Str.padded]
    have hl := len_list (Builtin.Str.padded (topT n) ((p + 1).toNat - (topT n).length) 0 48)
    rw [e, List.length_append, List.length_replicate] at hl
    refine ⟨?_, ?_, by omega, by omega⟩
    · intro c h
      rw [e] at h
      rcases List.mem_append.mp h with h | h
      · rw [List.eq_of_mem_replicate h, dg_list]; decide
      · exact F.dg c h
    · unfold KStt.codes
      rw [e, List.map_append, List.map_replicate]
      exact (dec_zeros _ _).trans F.val
-- G2
/-- big holds s, and small beside it -/
inductive Front (s : Addr × Obj) : List (Addr × Obj) → List (Addr × Obj) → Prop
  | here {r : List (Addr × Obj)} : Front s (s :: r) r
  | step {a : Addr × Obj} {r r' : List (Addr × Obj)} : Front s r r' → Front s (a :: r) (a :: r')
theorem Front.mem {s : Addr × Obj} {big small : List (Addr × Obj)} (h : Front s big small) : s ∈ big ∧ ∀ p ∈ small, p ∈ big := by
  induction h with
  | here => exact ⟨.head _, fun _ m => .tail _ m⟩
  | step _ ih => exact ⟨.tail _ ih.1, fun p m => by rcases List.mem_cons.mp m with rfl | m; exact .head _; exact .tail _ (ih.2 p m)⟩
theorem News.front {h₀ h : Heap} {L : Addr} {s : Addr × Obj} {big small : List (Addr × Obj)} (N : News h₀ L h big) (f : Front s big small) : News h₀ L h (s :: small) := cb_drop N (List.forall_mem_cons.mpr f.mem)
section
variable {w : World} {A : Around} {E : Value → Shared → Prop} {s : Shared} {h₀ : Heap} {L l : Addr} {vs : List Value} {n : Nat} {r : Int} {news : List (Addr × Obj)} {value slice : Expr} {k : Tok} {Q : Value → Shared → Prop}
theorem one_item (N : News h₀ L s.heap news) (hm : (l, listOf vs.toArray n) ∈ news) (h0 : 0 ≤ r) (h1 : r < vs.length) (h2 : vs.length ≤ 1000) (h : ∀ v ∈ vs, Q v s)
    (hs : subscripted slice false (.ref l) (.int r k) = operate [.ref l, .int r k] (getItem (.ref l) (.int r k)) := by with_unfolding_all rfl) : wpAny (model PySem.Challenge.pw_pf0196_01 w) A (subscriptTail value slice (.ref l) (.int r k)) Q E s :=
  have hl : r.toNat < vs.length := by omega
  tail_any (N.isList hm).typeIs slot_list_getitem.lookup (wpAny_getItem_list (N.isList hm) h0 (by omega) (x := vs[r.toNat]) (by simp [hl]) (h _ (List.getElem_mem hl))) hs
end
theorem one_spec (src l : Addr) (a b : Int) (t u : Tok) (vs : List Value) (n : Nat) (rest : List (Addr × Obj)) (hne : ∀ p ∈ rest, p.1 ≠ src) (hb : 0 ≤ b ∧ b ≤ 2147483647) (hm : (l, listOf vs.toArray n) ∈ rest) (hv : 0 < vs.length ∧ vs.length ≤ 1000) :
    Fn w p loose mean mg mb 2 401 [.ref src, .ref l] ((src, srcO a b t u) :: rest) (fun v news' => v ∈ vs ∧ SrcOut src rest news') := by
  have zg1 := trivial
  have zg2 := trivial
  have zg3 := trivial
  have zg4 := trivial
  have zg7 := trivial
  have zg23 := trivial
  have zg24 := trivial
  have zg25 := trivial
  have zg62 := trivial
  intro dp un gd cn cs ad ccd cl outer A₀ base h₀ L m s Q E B F X N T hk hd hu hret
  k_with "call builtin:len" => (guard_hyp zg62 : True); (refine PyProof.Rows.len_list (News.isList (by k_asm) (List.Mem.tail _ hm)) (by (rw [List.size_toArray]); omega) ?_; (rw [List.size_toArray]))
  k_with "subscriptTail" => (guard_hyp zg62 : True); ((with_reducible show wpAny _ _ (subscriptTail _ _ (Value.ref _) (Value.int _ _)) _ _ _); refine one_item (by k_asm) (List.Mem.tail _ hm) (by assumption) (by assumption) hv.2 ?_; intro x' hx'; (try dsimp only))
  refine wpAny_call ?_
  k_extra "my_enter"
  k_steps
  all_goals (rename News h₀ L _ _ => nE)
  all_goals (refine hret _ _ _ _ (by k_asm) nE ⟨by assumption, _, _, _, _, rfl, by assumption⟩)
-- N3
/-- the text tells n / 10 ^ p -/
structure Told (s : Str) (n p : Int) : Prop where
  out : ∃ W D P X e, s.cps.toList = W ++ (D ++ (P ++ X)) ∧ (∀ c ∈ W, c ∈ DG) ∧ (∀ c ∈ P, c ∈ DG) ∧ (D = [46] ∨ (D = [] ∧ P = [])) ∧ ExpIs X e ∧ W ++ P ≠ [] ∧ decOf ((W ++ P).map fun (c : Nat) => (c : Int)) = n ∧ W.length ≤ 3 ∧ P.length ≤ 3 ∧ e - P.length = -p
theorem sg_minus : Str.ofString "-" = ⟨#[45]⟩ := by decide +kernel
theorem sg_plus : Str.ofString "+" = ⟨#[43]⟩ := by decide +kernel
theorem sg_none : Str.ofString "" = ⟨#[]⟩ := by decide +kernel
theorem str_app (a b : Str) : (a ++ b).cps.toList = a.cps.toList ++ b.cps.toList := by rw [PySem.Str.cps_append, Array.toList_append]
theorem told_num {s g : Str} {n p : Int} (h : Told s n p) (h0 : 0 ≤ n) (h1 : n ≤ 900) (p0 : 0 ≤ p) (p1 : p ≤ 2) (hg : g = Str.ofString "" ∨ g = Str.ofString "+" ∨ g = Str.ofString "-") :
    NumText (g ++ s) (Rat.divInt (if g = Str.ofString "-" then -n else n) (10 ^ p.toNat)) := by
  obtain ⟨W, D, P, X, e, hc, hW, hP, hD, hX, hne, hN, hlW, hlP, hep⟩ := h
  have key : ∀ sg : List Nat, (sg = [] ∨ sg = [43] ∨ sg = [45]) → g.cps.toList = sg → NumText (g ++ s) (Rat.divInt (if sg = [45] then -n else n) (10 ^ p.toNat)) := by
    intro sg hs hgc
    have := num_text (txt := g ++ s) (sg := sg) (by rw [str_app, hc, hgc]) hs hW hP hD hX hne hN hlW hlP (by omega) (by omega) h0 h1
    rw [hep, Int.neg_neg] at this
    exact this
  rcases hg with rfl | rfl | rfl
  · have := key [] (.inl rfl) (by rw [sg_none])
    rwa [if_neg (by decide +kernel)] at this ⊢
  · have := key [43] (.inr (.inl rfl)) (by rw [sg_plus])
    rwa [if_neg (by decide +kernel)] at this ⊢
  · have := key [45] (.inr (.inr rfl)) (by rw [sg_minus])
    rwa [if_pos rfl] at this ⊢
theorem pt_list : (Str.ofString ".").cps.toList = [46] := by decide +kernel
theorem em_list : (Str.ofString "e-").cps.toList = [101, 45] := by decide +kernel
theorem ep_list : (Str.ofString "E+").cps.toList = [69, 43] := by decide +kernel
theorem no_list : (Str.ofString "").cps.toList = [] := by decide +kernel
theorem cut_to {x : Str} {j : Int} (h0 : 0 ≤ j) (h1 : j ≤ x.length) : (Txt.slice x none (some j)).cps.toList = x.cps.toList.take j.toNat := by
  have e := eq_of_beq (slice_closes_toL h0 h1)
  rw [e, Int.sub_zero]; rfl
theorem cut_from {x : Str} {i : Int} (h0 : 0 ≤ i) (h1 : i ≤ x.length) : (Txt.slice x (some i) none).cps.toList = x.cps.toList.drop i.toNat := by
  have e := slice_from_eq h0 h1 rfl
  rw [e]
  show ((x.cps.toList.drop i.toNat).take _) = _
  refine List.take_of_length_le ?_
  rw [List.length_drop, ← len_list]; omega
theorem map_codes (s : Str) : (s.cps.toList.map fun (c : Nat) => (c : Int)) = KStt.codes s := rfl
theorem told_plain {fs : Str} {n p : Int} {lo : Nat} (F : Figs fs n lo 3) (hl : (p + 1).toNat ≤ fs.length) (p0 : p > 0) :
    Told (Txt.slice fs none (some ((fs.length : Int) - p)) ++ (Str.ofString "." ++ Txt.slice fs (some ((fs.length : Int) - p)) none)) n p := by
  have hll := len_list fs
  have hhi := F.hi
  refine ⟨fs.cps.toList.take ((fs.length : Int) - p).toNat, [46], fs.cps.toList.drop ((fs.length : Int) - p).toNat, [], 0, ?_, ?_, ?_, .inl rfl, .inl ⟨rfl, rfl⟩, ?_, ?_, ?_, ?_, ?_⟩
  · rw [str_app, str_app, cut_to (by omega) (by omega), cut_from (by omega) (by omega), pt_list, List.append_nil]
  · exact fun c h => F.dg c (List.mem_of_mem_take h)
  · exact fun c h => F.dg c (List.mem_of_mem_drop h)
  · rw [List.take_append_drop]
    intro h
    rw [h] at hll
    simp at hll
    omega
  · rw [List.take_append_drop, map_codes]; exact F.val
  · rw [List.length_take]; omega
  · rw [List.length_drop]; omega
  · rw [List.length_drop]; omega
theorem told_plain0 {fs : Str} {n p : Int} {lo : Nat} (F : Figs fs n lo 3) (hl : (p + 1).toNat ≤ fs.length) (p0 : 0 ≤ p) (p1 : ¬ p > 0) :
    Told (Txt.slice fs none (some ((fs.length : Int) - p)) ++ Str.ofString "") n p := by
  have hll := len_list fs
  have hhi := F.hi
  have hp : p = 0 := by omega
  subst hp
  refine ⟨fs.cps.toList, [], [], [], 0, ?_, F.dg, fun _ h => (by cases h), .inr ⟨rfl, rfl⟩, .inl ⟨rfl, rfl⟩, ?_, ?_, ?_, by decide, by decide⟩
  · rw [str_app, cut_to (by omega) (by omega), no_list, List.take_of_length_le (by omega)]
    simp
  · rw [List.append_nil]
    intro h
    rw [h] at hll
    simp at hll
    omega
  · rw [List.append_nil, map_codes]; exact F.val
  · omega
theorem small_top : ∀ j : Nat, j < 4 → (topT (j : Int)).cps.toList = [48 + j] := by decide +kernel
theorem small_top' {j : Int} (h0 : 0 ≤ j) (h1 : j ≤ 3) : (topT j).cps.toList = [48 + j.toNat] := by
  have := small_top j.toNat (by omega)
  rwa [Int.toNat_of_nonneg h0] at this
theorem top_ne {n : Int} (h0 : 0 ≤ n) (h1 : n ≤ 900) : (topT n).cps.toList ≠ [] := by
  have F := top_figs h0 h1
  have hl := len_list (topT n)
  have hlo := F.lo
  intro h
  have := congrArg List.length h
  simp only [List.length_nil] at this
  omega
theorem told_exp {n p : Int} (h0 : 0 ≤ n) (h1 : n ≤ 900) (p0 : 0 ≤ p) (p1 : p ≤ 2) : Told (topT n ++ Str.ofString "e-" ++ topT p) n p := by
  have F := top_figs h0 h1
  have hll := len_list (topT n)
  have hhi := F.hi
  refine ⟨(topT n).cps.toList, [], [], [101, 45, 48 + p.toNat], -p, ?_, F.dg, fun _ h => (by cases h), .inr ⟨rfl, rfl⟩, .inr (.inl ⟨p.toNat, by omega, rfl, by omega⟩), ?_, ?_, ?_, by decide, by simp⟩
  · rw [str_app, str_app, em_list, small_top' p0 (by omega)]
    simp
  · rw [List.append_nil]; exact top_ne h0 h1
  · rw [List.append_nil, map_codes]; exact F.val
  · omega
theorem told_dot {n p : Int} (h0 : 0 ≤ n) (h1 : n ≤ 900) (p0 : 0 ≤ p) (p1 : p ≤ 2) (hl : ¬ ((topT n).length : Int) < p) : Told (Str.ofString "." ++ topT n ++ Str.ofString "E+" ++ topT (((topT n).length : Int) - p)) n p := by
  have F := top_figs h0 h1
  have hll := len_list (topT n)
  have hhi := F.hi
  refine ⟨[], [46], (topT n).cps.toList, [69, 43, 48 + (((topT n).length : Int) - p).toNat], ((topT n).length : Int) - p, ?_, fun _ h => (by cases h), F.dg, .inl rfl, .inr (.inr ⟨(((topT n).length : Int) - p).toNat, by omega, rfl, by omega⟩), ?_, ?_, by decide, by omega, by omega⟩
  · have hs := small_top' (j := ((topT n).length : Int) - p) (by omega) (by omega)
    rw [str_app, str_app, str_app, ep_list, pt_list, hs]
    simp
  · rw [List.nil_append]; exact top_ne h0 h1
  · rw [List.nil_append, map_codes]; exact F.val
theorem told_one {s a b c : Str} {n p : Int} (e : s = a ∨ s = b ∨ s = c) (ha : Told a n p) (hb : Told b n p) (hc : Told c n p) : Told s n p := by
  rcases e with rfl | rfl | rfl
  · exact ha
  · exact hb
  · exact hc
theorem rat_pos {x : Rat} (h : 0 < x.num) : 0 < x := by
  rw [Rat.lt_iff]
  show (0 : Int) * _ < _ * ((1 : Nat) : Int)
  omega
theorem pos_div {n d : Int} (h : 0 < n) (hd : 0 < d) : 0 < Rat.divInt n d := by
  refine rat_pos ?_
  rw [Rat.num_divInt, Int.sign_eq_one_of_pos hd, Int.one_mul]
  have hg : (d.gcd n : Int) ∣ n := Int.gcd_dvd_right ..
  have hp : 0 < (d.gcd n : Int) := by have := Int.gcd_pos_of_ne_zero_left (a := d) n (by omega); omega
  obtain ⟨k, hk⟩ := hg
  have hk0 : 0 < k := by
    rcases Int.lt_or_le 0 k with h' | h'
    · exact h'
    · have := Int.mul_nonpos_of_nonneg_of_nonpos (Int.le_of_lt hp) h'
      omega
  have e : n / (d.gcd n : Int) = k := Int.ediv_eq_of_eq_mul_right (by omega) hk
  rw [e]
  exact hk0
theorem num_neg_end {s : Str} {n p : Int} {y : Rat} (ey : y = Rat.divInt (-1 * n) (10 ^ p.toNat)) (h : Told s n p) (h0 : 0 ≤ n) (h1 : n ≤ 900) (p0 : 0 ≤ p) (p1 : p ≤ 2) : NumText (Str.ofString "-" ++ s) y := by
  have := told_num h h0 h1 p0 p1 (.inr (.inr rfl))
  rw [if_pos rfl] at this
  rw [ey, Int.neg_one_mul]
  exact this
theorem num_pos_end {s g : Str} {n p : Int} {y : Rat} (ey : y = Rat.divInt (1 * n) (10 ^ p.toNat)) (hg : g = Str.ofString "" ∨ g = Str.ofString "+") (h : Told s n p) (h0 : 0 ≤ n) (h1 : n ≤ 900) (p0 : 0 ≤ p) (p1 : p ≤ 2) : NumText (g ++ s) y := by
  have := told_num h h0 h1 p0 p1 (hg.elim .inl fun e => .inr (.inl e))
  rw [if_neg (by rcases hg with rfl | rfl <;> decide +kernel)] at this
  rw [ey, Int.one_mul]
  exact this
theorem pos_end {n p : Int} {y : Rat} (ey : y = Rat.divInt (1 * n) (10 ^ p.toNat)) (h : 0 < n) : 0 < y := by
  rw [ey, Int.one_mul]
  exact pos_div h (Int.pow_pos (by decide))
theorem sg_bi {g n : Int} {b : Bool} (hg : g = 1 ∨ (g = -1 ∧ b = false)) (h0 : 0 ≤ n) (h1 : n ≤ 901) : Bi 64 (g * n) := by
  rcases hg with rfl | ⟨rfl, _⟩
  · rw [Int.one_mul]; exact Bi.of (by omega)
  · rw [Int.neg_one_mul]; exact Bi.of (by omega)
theorem numt_neg {s : Str} {g n p : Int} {y : Rat} {b : Bool} (ey : y = Rat.divInt (g * n) (10 ^ p.toNat)) (hg : g = 1 ∨ (g = -1 ∧ b = false)) (hs : g < 0) (h : Told s n p) (h0 : 0 ≤ n) (h1 : n ≤ 900) (p0 : 0 ≤ p) (p1 : p ≤ 2) : NumText (Str.ofString "-" ++ s) y := by
  rcases hg with rfl | ⟨rfl, _⟩
  · omega
  · exact num_neg_end ey h h0 h1 p0 p1
theorem numt_pos {s f : Str} {g n p : Int} {y : Rat} {b : Bool} (ey : y = Rat.divInt (g * n) (10 ^ p.toNat)) (hg : g = 1 ∨ (g = -1 ∧ b = false)) (hs : ¬ g < 0) (hf : f = Str.ofString "" ∨ f = Str.ofString "+") (h : Told s n p) (h0 : 0 ≤ n) (h1 : n ≤ 900) (p0 : 0 ≤ p) (p1 : p ≤ 2) : NumText (f ++ s) y := by
  rcases hg with rfl | ⟨rfl, _⟩
  · exact num_pos_end ey hf h h0 h1 p0 p1
  · omega
theorem numt_sz {g n p : Int} {y : Rat} {b : Bool} (ey : y = Rat.divInt (g * n) (10 ^ p.toNat)) (hg : g = 1 ∨ (g = -1 ∧ b = false)) (h0 : b = true → 0 < n) : b = true → 0 < y := by
  rintro rfl
  rcases hg with rfl | ⟨_, h⟩
  · exact pos_end ey (h0 rfl)
  · cases h
-- G3
section
variable {v : Value} {a b c d : Str} {ta tb tc td : Tok} {i j k l m n : Int}
theorem str_of2 (h : v ∈ [Value.str a ta, Value.str b tb]) : ∃ s t, v = .str s t ∧ (s = a ∨ s = b) := by
  rcases List.mem_cons.mp h with rfl | h
  · exact ⟨_, _, rfl, .inl rfl⟩
  · rcases List.mem_cons.mp h with rfl | h
    · exact ⟨_, _, rfl, .inr rfl⟩
    · cases h
theorem str_of3 (h : v ∈ [Value.str a ta, Value.str b tb, Value.str c tc]) : ∃ s t, v = .str s t ∧ (s = a ∨ s = b ∨ s = c) := by
  rcases List.mem_cons.mp h with rfl | h
  · exact ⟨_, _, rfl, .inl rfl⟩
  · obtain ⟨s, t, e, h⟩ := str_of2 h
    exact ⟨s, t, e, .inr h⟩
theorem str_of4 (h : v ∈ [Value.str a ta, Value.str b tb, Value.str c tc, Value.str d td]) : ∃ s t, v = .str s t ∧ (s = a ∨ s = b ∨ s = c ∨ s = d) := by
  rcases List.mem_cons.mp h with rfl | h
  · exact ⟨_, _, rfl, .inl rfl⟩
  · obtain ⟨s, t, e, h⟩ := str_of3 h
    exact ⟨s, t, e, .inr h⟩
theorem int_ofL {l : List (Int × Tok)} (h : v ∈ l.map fun p => Value.int p.1 p.2) : ∃ n t, v = .int n t ∧ n ∈ l.map (·.1) := by
  obtain ⟨p, hp, e⟩ := List.mem_map.mp h
  exact ⟨p.1, p.2, e.symm, List.mem_map.mpr ⟨p, hp, rfl⟩⟩
theorem int_of3 (h : v ∈ [Value.int i ta, Value.int j tb, Value.int k tc]) : ∃ n t, v = .int n t ∧ n ∈ [i, j, k] := int_ofL (l := [(i, ta), (j, tb), (k, tc)]) h
theorem int_of6 {te tf : Tok} (h : v ∈ [Value.int i ta, Value.int j tb, Value.int k tc, Value.int l td, Value.int m te, Value.int n tf]) : ∃ x t, v = .int x t ∧ x ∈ [i, j, k, l, m, n] := int_ofL (l := [(i, ta), (j, tb), (k, tc), (l, td), (m, te), (n, tf)]) h
end
theorem len2 {s a b : Str} (h : s = a ∨ s = b) (ha : a.length ≤ 20) (hb : b.length ≤ 20) : s.length ≤ 20 := by rcases h with rfl | rfl <;> assumption
theorem len3 {s a b c : Str} (h : s = a ∨ s = b ∨ s = c) (ha : a.length ≤ 20) (hb : b.length ≤ 20) (hc : c.length ≤ 20) : s.length ≤ 20 := by rcases h with rfl | rfl | rfl <;> assumption
section
variable {A : Around} {E : Value → Shared → Prop} {s : Shared} {n r : Int} {t u v : Tok} {Q : Value → Shared → Prop}
theorem small_len : ∀ k : Nat, k < 12 → (topT (k : Int)).length ≤ 3 ∧ (topT (-(k : Int))).length ≤ 3 := by decide +kernel
theorem small_len' (h0 : -11 ≤ n) (h1 : n ≤ 11) : (topT n).length ≤ 3 := by
  by_cases h : 0 ≤ n
  · have := (small_len n.toNat (by omega)).1
    rwa [Int.toNat_of_nonneg h] at this
  · have := (small_len (-n).toNat (by omega)).2
    rwa [Int.toNat_of_nonneg (by omega), Int.neg_neg] at this
theorem n_str (h0 : 0 ≤ n) (h1 : n ≤ 900) (h : ∀ t' k, 1 ≤ (topT n).length → (topT n).length ≤ 3 → Q (.str (topT n) t') { s with toks := k }) : wpAny (model PySem.Challenge.pw_pf0196_01 w) A (call (.type "str") [.int n t]) Q E s :=
  P.str_of_int (shown (N := 2 ^ 1920) (by omega) (by omega) (Int.le_refl _)) (h _ _ (top_figs h0 h1).lo (top_figs h0 h1).hi)
theorem n_str' (h0 : -11 ≤ n) (h1 : n ≤ 11) (h : ∀ t' k, (topT n).length ≤ 3 → Q (.str (topT n) t') { s with toks := k }) : wpAny (model PySem.Challenge.pw_pf0196_01 w) A (call (.type "str") [.int n t]) Q E s :=
  P.str_of_int (shown (N := 2 ^ 1920) (by omega) (by omega) (Int.le_refl _)) (h _ _ (small_len' h0 h1))
theorem n_pad (h0 : 0 ≤ n) (h1 : n ≤ 900) (r0 : 0 ≤ r) (r1 : r ≤ 2) (h : ∀ fs t' k, Figs fs n (r + 1).toNat 3 → (r + 1).toNat ≤ fs.length → fs.length ≤ 3 → Q (.str fs t') { s with toks := k }) : wpAny (model PySem.Challenge.pw_pf0196_01 w) A (call (.builtin "str.rjust") [.str (topT n) t, .int (r + 1) u, .str (Str.ofString "0") v]) Q E s :=
  rjust_fill (padOk_of (by omega) (by omega)) (by decide +kernel) fun t' k => h _ t' k (fig_figs h0 h1 r0 r1) (fig_figs h0 h1 r0 r1).lo (fig_figs h0 h1 r0 r1).hi
end
theorem ten_pos (k : Nat) : (0 : Int) < 10 ^ k := Int.pow_pos (by decide)
/-- a fraction and the text that tells it -/
abbrev pairO (df : Addr) (tx : Str) (t : Tok) (k : Nat) : Obj := { cls := .type "tuple", data := .seq #[.ref df, .str tx t] k }
abbrev NumOut (src : Addr) (sz : Bool) (rest : List (Addr × Obj)) (v : Value) (news' : List (Addr × Obj)) : Prop :=
  ∃ D df y t1 t2 c k tx t a b t' u', v = .ref D ∧ news' = (src, srcO a b t' u') :: (D, pairO df tx t k) :: (df, fr y t1 t2 c) :: rest ∧ (0 ≤ b ∧ b ≤ 2147483647) ∧ @LT.lt Nat _ src df ∧ @LT.lt Nat _ df D ∧ (∀ p ∈ rest, p.1 < df) ∧ NumText tx y ∧ (sz = true → 0 < y)
theorem top_b {r : Int} {sz : Bool} (h0 : 0 ≤ r) (h1 : r < 900) : 0 ≤ r + (if sz = true then 1 else 0) ∧ r + (if sz = true then 1 else 0) ≤ 900 ∧ (sz = true → 0 < r + (if sz = true then 1 else 0)) := by
  cases sz <;> simp <;> omega
theorem number_spec (src : Addr) (a b : Int) (t u : Tok) (sz : Bool) (rest : List (Addr × Obj)) (hne : ∀ p ∈ rest, p.1 ≠ src) (hb : 0 ≤ b ∧ b ≤ 2147483647) :
    Fn w p loose mean mg mb 3 436 [.ref src, .bool sz] ((src, srcO a b t u) :: rest) (NumOut src sz rest) := by
  have zg1 := trivial
  have zg2 := trivial
  have zg3 := trivial
  have zg4 := trivial
  have zg7 := trivial
  have zg10 := trivial
  have zg11 := trivial
  have zg23 := trivial
  have zg24 := trivial
  have zg25 := trivial
  have zg26 := trivial
  have zg27 := trivial
  have zg28 := trivial
  have zg29 := trivial
  have zg63 := trivial
  intro dp un gd cn cs ad ccd cl outer A₀ base h₀ L m s Q E B F X N T hk hd hu hret
  have hl0 : (Str.ofString "").length = 0 := by decide +kernel
  have hl1 : (Str.ofString ".").length = 1 := by decide +kernel
  have hl2 : (Str.ofString "e-").length = 2 := by decide +kernel
  have hl3 : (Str.ofString "E+").length = 2 := by decide +kernel
  have hl4 : (Str.ofString "-").length = 1 := by decide +kernel
  have hl5 : (Str.ofString "+").length = 1 := by decide +kernel
  k_with "call ref" => (guard_hyp zg63 : True); (k_here; k_dflt ((with_reducible show wpAny _ _ (call (Value.ref 394) [Value.ref _, Value.int 900 _]) _ _ _); (k_dflt (refine' Fn.use (take_spec _ _ _ _ _ _ _ _ ?hne ?hb ?ht) ?B ?F ?X ?N ?T ?hk ?hd ?hu ?_)); (case N => k_extra "my_src"); (case hne => k_extra "my_ne"); (case hb => assumption); (case ht => decide); k_extra "my_side"; intro v' n' h' tk' F' N' O'; obtain ⟨rt, tr', e1', ⟨rt1, rt2⟩, a', b', t'', u'', e2', hb'⟩ := O'; subst e1'; subst e2'; (try k_sweep); (try dsimp only)))
  k_with "call ref" => (guard_hyp zg63 : True); (k_here; k_dflt ((with_reducible show wpAny _ _ (call (Value.ref 394) [Value.ref _, Value.int 3 _]) _ _ _); (k_dflt (refine' Fn.use (take_spec _ _ _ _ _ _ _ _ ?hne ?hb ?ht) ?B ?F ?X ?N ?T ?hk ?hd ?hu ?_)); (case N => k_extra "my_src"); (case hne => k_extra "my_ne"); (case hb => assumption); (case ht => decide); k_extra "my_side"; intro v' n' h' tk' F' N' O'; obtain ⟨rp, tr', e1', ⟨rp1, rp2⟩, a', b', t'', u'', e2', hb'⟩ := O'; subst e1'; subst e2'; (try k_sweep); (try dsimp only)))
  k_with "exec Assign" => (guard_hyp zg63 : True); ((with_reducible show wpAny _ _ (exec (Stmt.Assign [Expr.Tuple (Expr.Name (Str.ofString "top") _ :: _) _ _] _ _) _) _ _ _); (fail_if_success (with_reducible show wpAny _ _ _ (Cut2 _ _ _ _ _ _ _) _ _)); ((with_reducible rename Fr _ _ _ _ => lF'); refine' cut2 (Str.ofString "places") (Str.ofString "top") (fun v2 v1 nw => ∃ n tn r tr a b t1 t2, v1 = .int n tn ∧ v2 = .int r tr ∧ nw = (src, srcO a b t1 t2) :: rest ∧ (0 ≤ b ∧ b ≤ 2147483647) ∧ 0 ≤ n ∧ n ≤ 900 ∧ 0 ≤ r ∧ r ≤ 2 ∧ (sz = true → 0 < n)) lF' ?_ ?_); rotate_left 1; intro v1' v2' n' h' tk' F' N' O'; obtain ⟨nT, tn, rP, trP, a', b', t1', t2', e1', e2', e3', hb', hn0, hn1, hr0, hr1, hnz⟩ := O'; subst e1'; subst e2'; subst e3'; (try k_sweep); (try dsimp only))
  k_with "exec Assign" => (guard_hyp zg63 : True); ((with_reducible show wpAny _ _ (exec (Stmt.Assign [Expr.Name (Str.ofString "sign") _] _ _) _) _ _ _); (fail_if_success (with_reducible show wpAny _ _ _ (Cut1 _ _ _ _ _ _) _ _)); ((with_reducible rename Fr _ _ _ _ => lF'); refine' cut1 (Str.ofString "sign") (fun v nw => ∃ g t a b t1 t2, v = .int g t ∧ (g = 1 ∨ (g = -1 ∧ sz = false)) ∧ nw = (src, srcO a b t1 t2) :: rest ∧ (0 ≤ b ∧ b ≤ 2147483647)) lF' ?_ ?_); rotate_left 1; intro v' n' h' tk' F' N' O'; obtain ⟨g', tg', a', b', t1', t2', e1', hg', e2', hb'⟩ := O'; subst e1'; subst e2'; (try k_sweep); (try dsimp only))
  k_with "exec Assign" => (guard_hyp zg63 : True); ((with_reducible show wpAny _ _ (exec (Stmt.Assign [Expr.Name (Str.ofString "plain") _] _ _) _) _ _ _); (fail_if_success (with_reducible show wpAny _ _ _ (Cut1 _ _ _ _ _ _) _ _)); ((with_reducible rename Fr _ _ _ _ => lF'); refine' cut1 (Str.ofString "plain") (fun v nw => ∃ pl t a b t1 t2, v = .str pl t ∧ (Told pl nT rP ∧ pl.length ≤ 10) ∧ nw = (src, srcO a b t1 t2) :: rest ∧ (0 ≤ b ∧ b ≤ 2147483647)) lF' ?_ ?_); rotate_left 1; intro v' n' h' tk' F' N' O'; obtain ⟨pl', tp', a', b', t1', t2', e1', ⟨hp', hpl'⟩, e2', hb'⟩ := O'; subst e1'; subst e2'; (try k_sweep); (try dsimp only))
  k_with "exec If" => (guard_hyp zg63 : True); ((with_reducible show wpAny _ _ (exec (Stmt.If _ _ _ _) _) _ _ _); (fail_if_success (with_reducible show wpAny _ _ _ (Cut1 _ _ _ _ _ _) _ _)); ((with_reducible rename Fr _ _ _ _ => lF'); refine' cut1 (Str.ofString "told") (fun v nw => ∃ pl t a b t1 t2, v = .str pl t ∧ (Told pl nT rP ∧ pl.length ≤ 20) ∧ nw = (src, srcO a b t1 t2) :: rest ∧ (0 ≤ b ∧ b ≤ 2147483647)) lF' ?_ ?_); rotate_left 1; intro v' n' h' tk' F' N' O'; obtain ⟨td', tt', a', b', t1', t2', e1', ⟨ht', htl'⟩, e2', hb'⟩ := O'; subst e1'; subst e2'; (try k_sweep); (try dsimp only))
  k_with "call ref" => (guard_hyp zg63 : True); (k_here; k_dflt ((with_reducible show wpAny _ _ (call (Value.ref 408) [Value.int _ _, Value.int _ _]) _ _ _); (k_dflt (refine' Fn.use (lpart_spec _ _ _ _ 64 _ (ten_pos _) (sg_bi hg' hn0 (Int.le_trans hn1 (by decide))) (ten_bi hr0 hr1) (by decide)) ?B ?F ?X ?N ?T ?hk ?hd ?hu ?_)); (case N => k_asm); k_extra "my_use"))
  k_with "my_cutN" => (guard_hyp zg63 : True); (rename News _ _ _ _ => nE; refine' nw1 (p1 := (src, srcO _ _ _ _)) (news := rest) nE ?cm ?cs; (case cm => k_extra "my_mem"); (case cs => k_extra "my_sub"))
  k_with "my_numend" => (guard_hyp zg63 : True); ((rename News _ _ _ _ => nE); refine hret _ _ _ _ (by k_asm) (nw3 nE (by k_extra "my_mem") (by k_extra "my_mem") (by k_extra "my_mem") (by k_extra "my_sub")) ⟨_, _, _, _, _, _, _, _, _, _, _, _, _, rfl, rfl, by with_reducible assumption, by omega, by omega, by k_extra "my_lt", ?_, ?_⟩)
  refine wpAny_call ?_
  k_extra "my_enter"
  k_steps
  all_goals first
    | (refine' Cut2.on ?cuF ⟨_, _, _, _, _, _, _, _, rfl, rfl, rfl, ?cub, (top_b rt1 rt2).1, (top_b rt1 rt2).2.1, rp1, Int.le_of_lt_add_one rp2, (top_b rt1 rt2).2.2⟩ ?cuN; (case cuN => k_extra "my_cutN"); (case cuF => k_asm); (case cub => with_reducible assumption))
    | (refine' Cut1.of ?cuP ?cuF ?cuN; (case cuN => k_extra "my_cutN"); (case cuF => with_reducible assumption); (case cuP => exact ⟨_, _, _, _, _, _, rfl, by first | exact .inl rfl | exact .inr ⟨rfl, by first | assumption | (cases sz <;> simp_all)⟩, rfl, by with_reducible assumption⟩))
    | (refine' Cut1.of ?cuP ?cuF ?cuN; (case cuN => k_extra "my_cutN"); (case cuF => with_reducible assumption); (case cuP => exact ⟨_, _, _, _, _, _, rfl, ⟨by k_extra "my_told1", by omega⟩, rfl, by with_reducible assumption⟩))
    | (refine' Cut1.of ?cuP ?cuF ?cuN; (case cuN => k_extra "my_cutN"); (case cuF => with_reducible assumption); (case cuP => exact ⟨_, _, _, _, _, _, rfl, ⟨hp', by omega⟩, rfl, by with_reducible assumption⟩))
    | (refine' Cut1.same ?cuE ?cuP ?cuF ?cuN; (case cuN => k_extra "my_cutN"); (case cuF => with_reducible assumption); (case cuE => rfl); (case cuP => exact ⟨_, _, _, _, _, _, rfl, ⟨told_one hs' hp' (told_exp hn0 hn1 hr0 hr1) (told_dot hn0 hn1 hr0 hr1 (by first | with_reducible assumption | omega)), by omega⟩, rfl, by with_reducible assumption⟩))
    | k_extra "my_numend"
  all_goals first
    | exact numt_sz (by with_reducible assumption) hg' hnz
    | ((with_reducible refine numt_neg (by with_reducible assumption) hg' (by assumption) ht' hn0 hn1 hr0 hr1))
    | ((with_reducible refine numt_pos (by with_reducible assumption) hg' (by assumption) (by with_reducible assumption) ht' hn0 hn1 hr0 hr1))
-- P1
/-- the words of an align that is not none -/
structure AlIs (al : Str) (px py : Rat) : Prop where
  len : al.length ≤ 20
  ne : (al != Str.ofString "none") = true
  x : PartIs (Txt.slice al (some 1) (some 4)) px
  y : PartIs (Txt.slice al (some 5) none) py
/-- the less or the greater of two scales -/
def scF (a b : Rat) (sl : Bool) : Rat := if (decide (a < b) != sl) = true then a else b
theorem scF_on {c : Int} {a b a' b' : Rat} {sl : Bool} {P : Prop} (r : (c < 0 ↔ a' < b') ∧ P) (ea : a' = a) (eb : b' = b) (h : (decide (c < 0) != sl) = true) : a' = scF a b sl := by
  unfold scF
  rw [← ea, ← eb, ← decide_eq_decide.mpr r.1, if_pos h]
theorem scF_off {c : Int} {a b a' b' : Rat} {sl : Bool} {P : Prop} (r : (c < 0 ↔ a' < b') ∧ P) (ea : a' = a) (eb : b' = b) (h : (decide (c < 0) != sl) = false) : b' = scF a b sl := by
  unfold scF
  rw [← ea, ← eb, ← decide_eq_decide.mpr r.1, if_neg (by rw [h]; decide)]
/-- a new matrix: six entries ahead of the ledger -/
abbrev MxOut6 (w : World) (news : List (Addr × Obj)) (n : Nat) (a b c d e f : Rat) (v : Value) (news' : List (Addr × Obj)) : Prop :=
  ∃ x p1 p2 p3 p4 p5 p6 a' d' e' f', v = .ref x ∧ a' = a ∧ d' = d ∧ e' = e ∧ f' = f ∧ news' = p1 :: p2 :: p3 :: p4 :: p5 :: p6 :: news ∧
    (∀ p ∈ news, p.1 < p1.1) ∧ (∀ p ∈ news, p.1 < p2.1) ∧ (∀ p ∈ news, p.1 < p3.1) ∧ (∀ p ∈ news, p.1 < p4.1) ∧ (∀ p ∈ news, p.1 < p5.1) ∧ (∀ p ∈ news, p.1 < p6.1) ∧ MxAt w news' x n a' b c d' e' f'
section
variable {h₀ h : Heap} {L : Addr} {big news : List (Addr × Obj)} {p1 p2 p3 p4 p5 p6 p7 p8 : Addr × Obj}
theorem nw6 (N : News h₀ L h big) (h1 : p1 ∈ big) (h2 : p2 ∈ big) (h3 : p3 ∈ big) (h4 : p4 ∈ big) (h5 : p5 ∈ big) (h6 : p6 ∈ big) (hs : ∀ x ∈ news, x ∈ big) : News h₀ L h (p1 :: p2 :: p3 :: p4 :: p5 :: p6 :: news) :=
  cb_drop N (List.forall_mem_cons.mpr ⟨h1, List.forall_mem_cons.mpr ⟨h2, List.forall_mem_cons.mpr ⟨h3, List.forall_mem_cons.mpr ⟨h4, List.forall_mem_cons.mpr ⟨h5, List.forall_mem_cons.mpr ⟨h6, hs⟩⟩⟩⟩⟩⟩)
end
theorem MxAt.mk6 {w : World} {news : List (Addr × Obj)} {x dx ra rd re rf : Addr} {t1 t2 t3 t4 t5 t6 : Tok} {n i1 i2 i3 i4 : Nat} {a d e f : Rat} {s1 s4 s5 s6 u1 u4 u5 u6 : Tok} {c1 c4 c5 c6 : Nat}
    (ba : Br i1 a) (bd : Br i2 d) (be : Br i3 e) (bf : Br i4 f) (h1 : i1 ≤ n) (h2 : i2 ≤ n) (h3 : i3 ≤ n) (h4 : i4 ≤ n) (h0 : 1 ≤ n) :
    MxAt w ((x, instObj 332 dx) :: (dx, mxd w t1 t2 t3 t4 t5 t6 ra 78 78 rd re rf) :: (ra, fr a s1 u1 c1) :: (rd, fr d s4 u4 c4) :: (re, fr e s5 u5 c5) :: (rf, fr f s6 u6 c6) :: news) x n a 0 0 d e f :=
  ⟨dx, t1, t2, t3, t4, t5, t6, ra, 78, 78, rd, re, rf, .head _, .tail _ (.head _), (At.here (.tail _ (.tail _ (.head _))) ba).up h1, (at_zero _).up h0, (at_zero _).up h0,
    (At.here (.tail _ (.tail _ (.tail _ (.head _)))) bd).up h2, (At.here (.tail _ (.tail _ (.tail _ (.tail _ (.head _))))) be).up h3, (At.here (.tail _ (.tail _ (.tail _ (.tail _ (.tail _ (.head _)))))) bf).up h4⟩
structure Bx (q : Prop) : Prop where
  out : q
theorem fitted_two (box wd hg : Addr) (x y u v W H px py : Rat) (al : Str) (ta : Tok) (sl : Bool) (vs : List Value) (news : List (Addr × Obj)) (hvs : vs = [.ref box, .ref wd, .ref hg, .str al ta, .bool sl] ∨ (vs = [.ref box, .ref wd, .ref hg] ∧ al = Str.ofString "xMidYMid" ∧ ta = 687 ∧ sl = false)) (hB : BoxAt w news box 10 x y u v) (hW : At w news wd 8 W) (hH : At w news hg 8 H) (hu0 : 0 < u) (hv0 : 0 < v) (hA : AlIs al px py) :
    Fn w p loose mean mg mb 4 373 vs news
      (MxOut6 w news 80 (scF (W / u) (H / v) sl) 0 0 (scF (W / u) (H / v) sl) (px * (W - u * scF (W / u) (H / v) sl) - x * scF (W / u) (H / v) sl) (py * (H - v * scF (W / u) (H / v) sl) - y * scF (W / u) (H / v) sl)) := by
  have zg1 := trivial
  have zg2 := trivial
  have zg4 := trivial
  have zg13 := trivial
  have zg31 := trivial
  have zg33 := trivial
  have zg36 := trivial
  have zg39 := trivial
  have zg40 := trivial
  have zg42 := trivial
  have zg64 := trivial
  intro dp un gd cn cs ad ccd cl outer A₀ base h₀ L m s Q E B F X N T hk hd hu hret
  obtain ⟨ra, rb, rc, rd, k, h1, ha, hb, hc, hd'⟩ := hB
  have hu1 : u ≠ 0 := (Rat.ne_of_lt hu0).symm
  have hv1 : v ≠ 0 := (Rat.ne_of_lt hv0).symm
  have hal := hA.len
  have hne := hA.ne
  have hpx := hA.x
  have hpy := hA.y
  generalize eS : scF (W / u) (H / v) sl = S at hret
  k_with "exec Assign" => (guard_hyp zg64 : True); ((with_reducible show wpAny _ _ (exec (Stmt.Assign [Expr.Name (Str.ofString "scale") _] _ _) _) _ _ _); (fail_if_success (with_reducible show wpAny _ _ _ (Cut1 _ _ _ _ _ _) _ _)); ((with_reducible rename Fr _ _ _ _ => lF'); refine' cut1 (Str.ofString "scale") (FrOut news 18 S) lF' ?_ ?_); rotate_left 1; intro v' n' h' tk' F' N' O'; obtain ⟨D', t1', t2', c', yS, e1', eyS, e2', lD', bS⟩ := O'; subst e1'; subst e2'; (try k_lt lD'); (try k_sweep); (try dsimp only))
  refine' (fun (HH : Bx _) => ?zzent) (Bx.mk ?zzbody)
  case zzent =>
    rcases hvs with hvs | ⟨hvs, hal0, hta0, hsl0⟩
    · subst hvs
      refine wpAny_call ?_
      k_extra "my_enter"
      replace F' : Fr g' L' h' (fun y => List.lookup y [(Str.ofString "is_slice", Value.bool sl), (Str.ofString "align", Value.str al ta), (Str.ofString "height", Value.ref hg), (Str.ofString "width", Value.ref wd), (Str.ofString "box", Value.ref box)]) := F'
      generalize hTK : s.toks + _ = tk0
      clear hTK
      revert tk0 T' X' B' N' F' FG' h' L' g'
      exact HH.out
    · subst hvs
      refine wpAny_call ?_
      k_extra "my_enter"
      replace F' : Fr g' L' h' (fun y => List.lookup y [(Str.ofString "is_slice", Value.bool sl), (Str.ofString "align", Value.str al ta), (Str.ofString "height", Value.ref hg), (Str.ofString "width", Value.ref wd), (Str.ofString "box", Value.ref box)]) := by rw [hal0, hta0, hsl0]; exact F'
      generalize hTK : s.toks + _ = tk0
      clear hTK
      revert tk0 T' X' B' N' F' FG' h' L' g'
      exact HH.out
  intro g' L' h' FG' F' N' B' X' T' tk0
  intro F2 tk2
  refine fold_AE ?_
  intro ak' nk'
  (rename Fr _ _ _ (fun y => List.lookup y _) => lF')
  refine' fr_let lF' ?_
  clear lF'
  intro mk' lF'
  k_steps
  all_goals (rename News _ _ _ _ => nE)
  all_goals first
    | (refine Cut1.on (by with_reducible assumption) ⟨_, _, _, _, _, rfl, (scF_on (by with_reducible assumption) (by with_reducible assumption) (by with_reducible assumption) (by with_reducible assumption)).trans eS, rfl, by k_extra "my_lt", by with_reducible assumption⟩ (nw1 nE (by k_extra "my_mem") (by k_extra "my_sub")))
    | (refine Cut1.on (by with_reducible assumption) ⟨_, _, _, _, _, rfl, (scF_off (by with_reducible assumption) (by with_reducible assumption) (by with_reducible assumption) (by with_reducible assumption)).trans eS, rfl, by k_extra "my_lt", by with_reducible assumption⟩ (nw1 nE (by k_extra "my_mem") (by k_extra "my_sub")))
    | (refine hret _ _ _ _ (by k_asm) (nw6 nE (by k_extra "my_mem") (by k_extra "my_mem") (by k_extra "my_mem") (by k_extra "my_mem") (by k_extra "my_mem") (by k_extra "my_mem") (by k_extra "my_sub")) ⟨_, _, _, _, _, _, _, _, _, _, _, rfl, eyS, eyS, ?_, ?_, rfl, by k_extra "my_lt", by k_extra "my_lt", by k_extra "my_lt", by k_extra "my_lt", by k_extra "my_lt", by k_extra "my_lt", MxAt.mk6 bS bS (by with_reducible assumption) (by with_reducible assumption) (by decide) (by decide) (by decide) (by decide) (by decide)⟩)
  all_goals (subst_vars; rfl)
theorem fitted_fit (box wd hg : Addr) (x y u v W H px py : Rat) (al : Str) (ta : Tok) (sl : Bool) (news : List (Addr × Obj)) (hB : BoxAt w news box 10 x y u v) (hW : At w news wd 8 W) (hH : At w news hg 8 H) (hu0 : 0 < u) (hv0 : 0 < v) (hA : AlIs al px py) :
    Fn w p loose mean mg mb 4 373 [.ref box, .ref wd, .ref hg, .str al ta, .bool sl] news
      (MxOut6 w news 80 (scF (W / u) (H / v) sl) 0 0 (scF (W / u) (H / v) sl) (px * (W - u * scF (W / u) (H / v) sl) - x * scF (W / u) (H / v) sl) (py * (H - v * scF (W / u) (H / v) sl) - y * scF (W / u) (H / v) sl)) :=
  fitted_two box wd hg x y u v W H px py al ta sl _ news (.inl rfl) hB hW hH hu0 hv0 hA
theorem fitted_dflt (box wd hg : Addr) (x y u v W H px py : Rat) (news : List (Addr × Obj)) (hB : BoxAt w news box 10 x y u v) (hW : At w news wd 8 W) (hH : At w news hg 8 H) (hu0 : 0 < u) (hv0 : 0 < v) (hA : AlIs (Str.ofString "xMidYMid") px py) :
    Fn w p loose mean mg mb 4 373 [.ref box, .ref wd, .ref hg] news
      (MxOut6 w news 80 (scF (W / u) (H / v) false) 0 0 (scF (W / u) (H / v) false) (px * (W - u * scF (W / u) (H / v) false) - x * scF (W / u) (H / v) false) (py * (H - v * scF (W / u) (H / v) false) - y * scF (W / u) (H / v) false)) :=
  fitted_two box wd hg x y u v W H px py _ 687 false _ news (.inr ⟨rfl, rfl, rfl, rfl⟩) hB hW hH hu0 hv0 hA
-- P2
theorem fitted_none (box wd hg : Addr) (x y u v W H : Rat) (al : Str) (ta : Tok) (sl : Bool) (news : List (Addr × Obj)) (hB : BoxAt w news box 10 x y u v) (hW : At w news wd 8 W) (hH : At w news hg 8 H) (hu0 : 0 < u) (hv0 : 0 < v) (hA : (al != Str.ofString "none") = false) :
    Fn w p loose mean mg mb 4 373 [.ref box, .ref wd, .ref hg, .str al ta, .bool sl] news
      (MxOut6 w news 80 (W / u) 0 0 (H / v) (0 - x * (W / u)) (0 - y * (H / v))) := by
  have zg1 := trivial
  have zg2 := trivial
  have zg3 := trivial
  have zg4 := trivial
  have zg13 := trivial
  have zg31 := trivial
  have zg33 := trivial
  have zg36 := trivial
  have zg39 := trivial
  have zg40 := trivial
  have zg42 := trivial
  intro dp un gd cn cs ad ccd cl outer A₀ base h₀ L m s Q E B F X N T hk hd hu hret
  obtain ⟨ra, rb, rc, rd, k, h1, ha, hb, hc, hd'⟩ := hB
  have hu1 : u ≠ 0 := (Rat.ne_of_lt hu0).symm
  have hv1 : v ≠ 0 := (Rat.ne_of_lt hv0).symm
  refine wpAny_call ?_
  k_extra "my_enter"
  k_steps
  all_goals (rename News _ _ _ _ => nE)
  all_goals first
    | (refine hret _ _ _ _ (by k_asm) (nw6 nE (by k_extra "my_mem") (by k_extra "my_mem") (by k_extra "my_mem") (by k_extra "my_mem") (by k_extra "my_mem") (by k_extra "my_mem") (by k_extra "my_sub")) ⟨_, _, _, _, _, _, _, _, _, _, _, rfl, ?_, ?_, ?_, ?_, rfl, by k_extra "my_lt", by k_extra "my_lt", by k_extra "my_lt", by k_extra "my_lt", by k_extra "my_lt", by k_extra "my_lt", MxAt.mk6 (by with_reducible assumption) (by with_reducible assumption) (by with_reducible assumption) (by with_reducible assumption) (by decide) (by decide) (by decide) (by decide) (by decide)⟩)
  all_goals (subst_vars; rfl)

/-- what a fit reckons: the two scales and the rest that is left -/
def FitV (al : Str) (sl : Bool) (u v W H sx sy gx gy : Rat) : Prop :=
  ((al != Str.ofString "none") = false ∧ sx = W / u ∧ sy = H / v ∧ gx = 0 ∧ gy = 0) ∨
  (∃ px py, AlIs al px py ∧ sx = scF (W / u) (H / v) sl ∧ sy = scF (W / u) (H / v) sl ∧ gx = px * (W - u * scF (W / u) (H / v) sl) ∧ gy = py * (H - v * scF (W / u) (H / v) sl))
theorem fitted_spec (box wd hg : Addr) (x y u v W H sx sy gx gy : Rat) (al : Str) (ta : Tok) (sl : Bool) (news : List (Addr × Obj)) (hB : BoxAt w news box 10 x y u v) (hW : At w news wd 8 W) (hH : At w news hg 8 H) (hu0 : 0 < u) (hv0 : 0 < v) (hA : FitV al sl u v W H sx sy gx gy) :
    Fn w p loose mean mg mb 4 373 [.ref box, .ref wd, .ref hg, .str al ta, .bool sl] news (MxOut6 w news 80 sx 0 0 sy (gx - x * sx) (gy - y * sy)) := by
  rcases hA with ⟨hn, rfl, rfl, rfl, rfl⟩ | ⟨px, py, hA, rfl, rfl, rfl, rfl⟩
  · exact fitted_none box wd hg x y u v W H al ta sl news hB hW hH hu0 hv0 hn
  · exact fitted_fit box wd hg x y u v W H px py al ta sl news hB hW hH hu0 hv0 hA
-- S1
abbrev tup3 (a b c : Addr) (n : Nat) : Obj := { cls := .type "tuple", data := .seq #[.ref a, .ref b, .ref c] n }
/-- the scales of a fit, and the rest that is left -/
structure ScAt (w : World) (news : List (Addr × Obj)) (q : Addr) (n : Nat) (sx sy gx gy : Rat) : Prop where
  out : ∃ a b g c gl gr c', (q, tup3 a b g c) ∈ news ∧ (g, tup2 gl gr c') ∈ news ∧ At w news a n sx ∧ At w news b n sy ∧ At w news gl n gx ∧ At w news gr n gy
theorem ScAt.sub {w : World} {news news' : List (Addr × Obj)} {q : Addr} {n : Nat} {sx sy gx gy : Rat} (h : ScAt w news q n sx sy gx gy) (k : ∀ p ∈ news, p ∈ news') : ScAt w news' q n sx sy gx gy := by
  obtain ⟨a, b, g, c, gl, gr, c', h1, h2, h3, h4, h5, h6⟩ := h
  exact ⟨a, b, g, c, gl, gr, c', k _ h1, k _ h2, h3.sub k, h4.sub k, h5.sub k, h6.sub k⟩
theorem ScAt.of {w : World} {news : List (Addr × Obj)} {q a b g gl gr : Addr} {c c' n : Nat} {sx sy gx gy : Rat} (h1 : (q, tup3 a b g c) ∈ news) (h2 : (g, tup2 gl gr c') ∈ news) (h3 : At w news a n sx) (h4 : At w news b n sy) (h5 : At w news gl n gx) (h6 : At w news gr n gy) : ScAt w news q n sx sy gx gy := ⟨a, b, g, c, gl, gr, c', h1, h2, h3, h4, h5, h6⟩
abbrev ScOut (w : World) (news : List (Addr × Obj)) (n : Nat) (sx sy gx gy : Rat) (v : Value) (news' : List (Addr × Obj)) : Prop :=
  ∃ D p1 p2 p3 p4 p5 p6, v = .ref D ∧ news' = p1 :: p2 :: p3 :: p4 :: p5 :: p6 :: news ∧ (∀ p ∈ news, p.1 < p1.1) ∧ (∀ p ∈ news, p.1 < p2.1) ∧ (∀ p ∈ news, p.1 < p3.1) ∧ (∀ p ∈ news, p.1 < p4.1) ∧ (∀ p ∈ news, p.1 < p5.1) ∧ (∀ p ∈ news, p.1 < p6.1) ∧ ScAt w news' D n sx sy gx gy
theorem ScAt.mk6 {w : World} {news : List (Addr × Obj)} {D g ra rb gl gr : Addr} {c c' i1 i2 i3 i4 n : Nat} {s1 u1 s2 u2 s3 u3 s4 u4 : Tok} {c1 c2 c3 c4 : Nat} {sx sy gx gy sx' sy' gx' gy' : Rat}
    (e1 : sx' = sx) (e2 : sy' = sy) (e3 : gx' = gx) (e4 : gy' = gy) (b1 : Br i1 sx') (b2 : Br i2 sy') (b3 : Br i3 gx') (b4 : Br i4 gy') (h1 : i1 ≤ n) (h2 : i2 ≤ n) (h3 : i3 ≤ n) (h4 : i4 ≤ n) :
    ScAt w ((D, tup3 ra rb g c) :: (g, tup2 gl gr c') :: (ra, fr sx' s1 u1 c1) :: (rb, fr sy' s2 u2 c2) :: (gl, fr gx' s3 u3 c3) :: (gr, fr gy' s4 u4 c4) :: news) D n sx sy gx gy := by
  subst e1 e2 e3 e4
  exact ⟨ra, rb, g, c, gl, gr, c', .head _, .tail _ (.head _), (At.here (.tail _ (.tail _ (.head _))) b1).up h1, (At.here (.tail _ (.tail _ (.tail _ (.head _)))) b2).up h2,
    (At.here (.tail _ (.tail _ (.tail _ (.tail _ (.head _))))) b3).up h3, (At.here (.tail _ (.tail _ (.tail _ (.tail _ (.tail _ (.head _)))))) b4).up h4⟩
theorem ScAt.mk6z {w : World} {news : List (Addr × Obj)} {D g ra rb gl gr : Addr} {c c' i1 i2 n : Nat} {s1 u1 s2 u2 s3 u3 s4 u4 : Tok} {c1 c2 c3 c4 : Nat} {sx sy sx' sy' : Rat}
    (e1 : sx' = sx) (e2 : sy' = sy) (b1 : Br i1 sx') (b2 : Br i2 sy') (h1 : i1 ≤ n) (h2 : i2 ≤ n) (h3 : 2 ≤ n) :
    ScAt w ((D, tup3 ra rb g c) :: (g, tup2 gl gr c') :: (ra, fr sx' s1 u1 c1) :: (rb, fr sy' s2 u2 c2) :: (gl, { cls := .type "tuple", data := .seq #[.int 0 s3, .int 1 u3] c3 }) :: (gr, { cls := .type "tuple", data := .seq #[.int 0 s4, .int 1 u4] c4 }) :: news) D n sx sy 0 0 := by
  subst e1 e2
  exact ⟨ra, rb, g, c, gl, gr, c', .head _, .tail _ (.head _), (At.here (.tail _ (.tail _ (.head _))) b1).up h1, (At.here (.tail _ (.tail _ (.tail _ (.head _)))) b2).up h2,
    (At.int (k := 0) (.tail _ (.tail _ (.tail _ (.tail _ (.head _))))) (Bi.of (n := 1) (by decide))).up h3, (At.int (k := 0) (.tail _ (.tail _ (.tail _ (.tail _ (.tail _ (.head _)))))) (Bi.of (n := 1) (by decide))).up h3⟩
theorem Rat.inv_nd {x : Rat} (h : 0 < x) : (x.den : Int) = (x⁻¹).num ∧ x.num = ((x⁻¹).den : Int) := by
  have hn : 0 < x.num := by
    have := (Rat.lt_iff 0 x).mp h
    have e : (0 : Int) * (x.den : Int) < x.num * ((1 : Nat) : Int) := this
    omega
  rw [Rat.num_inv, Rat.den_inv, Int.sign_eq_one_of_pos hn]
  constructor
  · omega
  · rw [if_neg (by omega)]; omega
theorem At.inv {w : World} {news : List (Addr × Obj)} {a : Addr} {n : Nat} {x : Rat} {t1 t2 : Tok} {c : Nat} (h : (a, ({ cls := .type "tuple", data := .seq #[.int (x.den : Int) t1, .int x.num t2] c } : Obj)) ∈ news) (b : Br n x) (h0 : 0 < x) : At w news a n (x⁻¹) := by
  have e := Rat.inv_nd h0
  rw [fr_of e] at h
  refine At.here h ⟨?_, ?_⟩
  · rw [← e.1]; exact b.den
  · rw [← e.2]; exact b.num
theorem At.half {w : World} {news : List (Addr × Obj)} {a : Addr} {t1 t2 : Tok} {c : Nat} (h : (a, ({ cls := .type "tuple", data := .seq #[.int 1 t1, .int 2 t2] c } : Obj)) ∈ news) : At w news a 2 (1/2) := by
  rw [fr_of ⟨half_num.symm, by rw [half_den]; rfl⟩] at h
  exact At.here h ⟨Bi.of (by rw [half_num]; decide), Bi.of (by rw [half_den]; decide)⟩
theorem num_lt0 {a b y : Rat} (h : y = a - b) : y.num < 0 ↔ a < b := by
  have e : y.num < 0 ↔ y < 0 := by
    rw [Rat.lt_iff]
    show _ ↔ y.num * ((1 : Nat) : Int) < 0 * _
    omega
  rw [e, h]
  constructor <;> intro q <;> grind
theorem scF_onl {a b a' b' y : Rat} {sl : Bool} (ey : y = a' - b') (ea : a' = a) (eb : b' = b) (h : (decide (y.num < 0) == !sl) = true) : a' = scF a b sl := by
  have e : decide (y.num < 0) = decide (a' < b') := decide_eq_decide.mpr (num_lt0 ey)
  rw [e] at h
  unfold scF
  rw [← ea, ← eb]
  have h' : (decide (a' < b') != sl) = true := by cases sl <;> simpa using h
  rw [if_pos h']
theorem scF_offl {a b a' b' y : Rat} {sl : Bool} (ey : y = a' - b') (ea : a' = a) (eb : b' = b) (h : (decide (y.num < 0) == !sl) = false) : b' = scF a b sl := by
  have e : decide (y.num < 0) = decide (a' < b') := decide_eq_decide.mpr (num_lt0 ey)
  rw [e] at h
  unfold scF
  rw [← ea, ← eb]
  have h' : ¬ (decide (a' < b') != sl) = true := by cases sl <;> simpa using h
  rw [if_neg h']
def PQ (w : World) (news : List (Addr × Obj)) (x : Rat) (s : Shared) (v : Value) (s' : Shared) : Prop := ∃ r tk', s' = { s with toks := tk' } ∧ v = .ref r ∧ At w news r 2 x
theorem PQ.of {w : World} {news : List (Addr × Obj)} {x : Rat} {h : Heap} {g : Array GenState} {d : Drawn} {os : OsState} {r : Addr} {t1 t2 : Nat} (a : At w news r 2 x) : PQ w news x ⟨h, g, d, t1, os⟩ (.ref r) ⟨h, g, d, t2, os⟩ := ⟨r, t2, rfl, rfl, a⟩
theorem cut_part {w : World} {M : Model} {T : Sem Value} {A : Around} {E : Value → Shared → Prop} {s : Shared} {h₀ : Heap} {L : Addr} {news : List (Addr × Obj)} {Q : Value → Shared → Prop} (x : Rat) (_ : News h₀ L s.heap news)
    (h1 : wpAny M A T (PQ w news x s) E s) (h2 : ∀ r tk', At w news r 2 x → Q (.ref r) { s with toks := tk' }) : wpAny M A T Q E s := by
  refine wpAny_mono h1 ?_ fun _ _ h => h
  rintro v s' ⟨r, tk', rfl, rfl, h⟩
  exact h2 r tk' h
theorem scales_fit (box wd hg : Addr) (x y u v W H px py : Rat) (al : Str) (ta : Tok) (sl : Bool) (news : List (Addr × Obj)) (hB : BoxAt w news box 10 x y u v) (hW : At w news wd 8 W) (hH : At w news hg 8 H) (hu0 : 0 < u) (hv0 : 0 < v) (hA : AlIs al px py) :
    Fn w p loose mean mg mb 4 443 [.ref box, .ref wd, .ref hg, .str al ta, .bool sl] news
      (ScOut w news 80 (scF (W / u) (H / v) sl) (scF (W / u) (H / v) sl) (px * (W - u * scF (W / u) (H / v) sl)) (py * (H - v * scF (W / u) (H / v) sl))) := by
  have zg1 := trivial
  have zg2 := trivial
  have zg3 := trivial
  have zg4 := trivial
  have zg13 := trivial
  have zg14 := trivial
  have zg16 := trivial
  have zg45 := trivial
  have zg65 := trivial
  intro dp un gd cn cs ad ccd cl outer A₀ base h₀ L m s Q E B F X N T hk hd hu hret
  obtain ⟨ra, rb, rc, rd, k, h1, ha, hb, hc, hd'⟩ := hB
  have hbu := hc.1
  have hbv := hd'.1
  have hal := hA.len
  have hne : (al == Str.ofString "none") = false := by have := hA.ne; simpa [bne] using this
  have hpx := hA.x
  have hpy := hA.y
  rw [Rat.div_def W u, Rat.div_def H v] at hret
  generalize eS : scF (W * u⁻¹) (H * v⁻¹) sl = S at hret
  k_with "subscriptTail Name Subscript ref str" => (guard_hyp zg65 : True); ((with_reducible show wpAny _ _ (subscriptTail _ _ (Value.ref _) (Value.str (Txt.slice al (some 1) (some 4)) _)) _ _ _); (try dsimp only); (rename News _ _ _ _ => lN'); refine cut_part (w := w) px lN' ?_ ?_; rotate_left 1; (intro r' tk' hat'; (try k_sweep)); rotate_left 1; k_here; k_dflt (refine kdt_tail (knd := PySem.strKind _ _) (by k_asm) (by k_mem) (by k_asm) ?_); (rcases hpx with ⟨es', ex'⟩ | ⟨es', ex'⟩ | ⟨es', ex'⟩); (rw [es', ex']; k_dflt (refine kdt_getItem (knd := PySem.strKind _ _) (by k_asm) (by k_mem) (by k_asm) (strKind_is _ _ _ _) (by rfl) ?_); (try dsimp only); exact PQ.of (At.int (k := 0) (by k_extra "my_mem") (Bi.of (by decide)))); (rw [es', ex']; k_dflt (refine kdt_getItem (knd := PySem.strKind _ _) (by k_asm) (by k_mem) (by k_asm) (strKind_is _ _ _ _) (by rfl) ?_); (try dsimp only); exact PQ.of (At.half (by k_extra "my_mem"))); (rw [es', ex']; k_dflt (refine kdt_getItem (knd := PySem.strKind _ _) (by k_asm) (by k_mem) (by k_asm) (strKind_is _ _ _ _) (by rfl) ?_); (try dsimp only); exact PQ.of (At.int (k := 1) (by k_extra "my_mem") (Bi.of (by decide)))))
  k_with "subscriptTail Name Subscript ref str" => (guard_hyp zg65 : True); ((with_reducible show wpAny _ _ (subscriptTail _ _ (Value.ref _) (Value.str (Txt.slice al (some 5) none) _)) _ _ _); (try dsimp only); (rename News _ _ _ _ => lN'); refine cut_part (w := w) py lN' ?_ ?_; rotate_left 1; (intro r' tk' hat'; (try k_sweep)); rotate_left 1; k_here; k_dflt (refine kdt_tail (knd := PySem.strKind _ _) (by k_asm) (by k_mem) (by k_asm) ?_); (rcases hpy with ⟨es', ex'⟩ | ⟨es', ex'⟩ | ⟨es', ex'⟩); (rw [es', ex']; k_dflt (refine kdt_getItem (knd := PySem.strKind _ _) (by k_asm) (by k_mem) (by k_asm) (strKind_is _ _ _ _) (by rfl) ?_); (try dsimp only); exact PQ.of (At.int (k := 0) (by k_extra "my_mem") (Bi.of (by decide)))); (rw [es', ex']; k_dflt (refine kdt_getItem (knd := PySem.strKind _ _) (by k_asm) (by k_mem) (by k_asm) (strKind_is _ _ _ _) (by rfl) ?_); (try dsimp only); exact PQ.of (At.half (by k_extra "my_mem"))); (rw [es', ex']; k_dflt (refine kdt_getItem (knd := PySem.strKind _ _) (by k_asm) (by k_mem) (by k_asm) (strKind_is _ _ _ _) (by rfl) ?_); (try dsimp only); exact PQ.of (At.int (k := 1) (by k_extra "my_mem") (Bi.of (by decide)))))
  k_with "exec Assign" => (guard_hyp zg65 : True); ((with_reducible show wpAny _ _ (exec (Stmt.Assign [Expr.Name (Str.ofString "scale") _] _ _) _) _ _ _); (fail_if_success (with_reducible show wpAny _ _ _ (Cut1 _ _ _ _ _ _) _ _)); ((with_reducible rename Fr _ _ _ _ => lF'); refine' cut1 (Str.ofString "scale") (FrOut news 18 S) lF' ?_ ?_); rotate_left 1; intro v' n' h' tk' F' N' O'; obtain ⟨D', t1', t2', c', yS, e1', eyS, e2', lD', bS⟩ := O'; subst e1'; subst e2'; (try k_lt lD'); (try k_sweep); (try dsimp only))
  refine wpAny_call ?_
  k_extra "my_enter"
  k_steps
  all_goals (rename News _ _ _ _ => nE)
  all_goals first
    | (with_reducible refine Cut1.on (by with_reducible assumption) ⟨_, _, _, _, _, rfl, (scF_onl (by with_reducible assumption) (by with_reducible assumption) (by with_reducible assumption) (by with_reducible assumption)).trans eS, rfl, by k_extra "my_lt", by with_reducible assumption⟩ (nw1 nE (by k_extra "my_mem") (by k_extra "my_sub")))
    | (with_reducible refine Cut1.on (by with_reducible assumption) ⟨_, _, _, _, _, rfl, (scF_offl (by with_reducible assumption) (by with_reducible assumption) (by with_reducible assumption) (by with_reducible assumption)).trans eS, rfl, by k_extra "my_lt", by with_reducible assumption⟩ (nw1 nE (by k_extra "my_mem") (by k_extra "my_sub")))
    | (refine hret _ _ _ _ (by k_asm) (nw6 nE (by k_extra "my_mem") (by k_extra "my_mem") (by k_extra "my_mem") (by k_extra "my_mem") (by k_extra "my_mem") (by k_extra "my_mem") (by k_extra "my_sub")) ⟨_, _, _, _, _, _, _, rfl, rfl, by k_extra "my_lt", by k_extra "my_lt", by k_extra "my_lt", by k_extra "my_lt", by k_extra "my_lt", by k_extra "my_lt", ScAt.mk6 eyS eyS ?_ ?_ bS bS (by with_reducible assumption) (by with_reducible assumption) (by decide) (by decide) (by decide) (by decide)⟩)
  all_goals (subst_vars; rfl)
-- S2
theorem scales_none (box wd hg : Addr) (x y u v W H : Rat) (al : Str) (ta : Tok) (sl : Bool) (news : List (Addr × Obj)) (hB : BoxAt w news box 10 x y u v) (hW : At w news wd 8 W) (hH : At w news hg 8 H) (hal : al.length ≤ 20) (hu0 : 0 < u) (hv0 : 0 < v) (hA : (al == Str.ofString "none") = true) :
    Fn w p loose mean mg mb 4 443 [.ref box, .ref wd, .ref hg, .str al ta, .bool sl] news
      (ScOut w news 80 (W / u) (H / v) 0 0) := by
  have zg1 := trivial
  have zg2 := trivial
  have zg3 := trivial
  have zg4 := trivial
  have zg13 := trivial
  have zg14 := trivial
  have zg16 := trivial
  have zg45 := trivial
  intro dp un gd cn cs ad ccd cl outer A₀ base h₀ L m s Q E B F X N T hk hd hu hret
  obtain ⟨ra, rb, rc, rd, k, h1, ha, hb, hc, hd'⟩ := hB
  have hbu := hc.1
  have hbv := hd'.1
  rw [Rat.div_def W u, Rat.div_def H v] at hret
  refine wpAny_call ?_
  k_extra "my_enter"
  k_steps
  all_goals (rename News _ _ _ _ => nE)
  all_goals first
    | (refine hret _ _ _ _ (by k_asm) (nw6 nE (by k_extra "my_mem") (by k_extra "my_mem") (by k_extra "my_mem") (by k_extra "my_mem") (by k_extra "my_mem") (by k_extra "my_mem") (by k_extra "my_sub")) ⟨_, _, _, _, _, _, _, rfl, rfl, by k_extra "my_lt", by k_extra "my_lt", by k_extra "my_lt", by k_extra "my_lt", by k_extra "my_lt", by k_extra "my_lt", ScAt.mk6z (by with_reducible assumption) (by with_reducible assumption) (by with_reducible assumption) (by with_reducible assumption) (by decide) (by decide) (by decide)⟩)

theorem none_len {al : Str} (h : (al == Str.ofString "none") = true) : al.length ≤ 20 := by rw [eq_of_beq h]; decide +kernel
theorem scales_spec (box wd hg : Addr) (x y u v W H sx sy gx gy : Rat) (al : Str) (ta : Tok) (sl : Bool) (news : List (Addr × Obj)) (hB : BoxAt w news box 10 x y u v) (hW : At w news wd 8 W) (hH : At w news hg 8 H) (hu0 : 0 < u) (hv0 : 0 < v) (hA : FitV al sl u v W H sx sy gx gy) :
    Fn w p loose mean mg mb 4 443 [.ref box, .ref wd, .ref hg, .str al ta, .bool sl] news (ScOut w news 80 sx sy gx gy) := by
  rcases hA with ⟨hn, rfl, rfl, rfl, rfl⟩ | ⟨px, py, hA, rfl, rfl, rfl, rfl⟩
  · have hn' : (al == Str.ofString "none") = true := by simpa [bne] using hn
    exact scales_none box wd hg x y u v W H al ta sl news hB hW hH (none_len hn') hu0 hv0 hn'
  · exact scales_fit box wd hg x y u v W H px py al ta sl news hB hW hH hu0 hv0 hA
-- L1

theorem led_spec (box sc q : Addr) (x y u v sx sy gx gy a b : Rat) (j : Nat) (news : List (Addr × Obj)) (hB : BoxAt w news box 10 x y u v) (hS : ScAt w news sc 80 sx sy gx gy) (hp : PtAt w news q j a b) (hn : 80 + (j + 10 + 1 + 80) + 1 ≤ 8000) :
    Fn w p loose mean mg mb 4 450 [.ref box, .ref sc, .ref q] news (PtOut news (80 + (j + 10 + 1 + 80) + 1) (gx + (a - x) * sx) (gy + (b - y) * sy)) := by
  have zg1 := trivial
  have zg2 := trivial
  have zg3 := trivial
  have zg4 := trivial
  have zg13 := trivial
  have zg14 := trivial
  have zg15 := trivial
  have zg16 := trivial
  intro dp un gd cn cs ad ccd cl outer A₀ base h₀ L m s Q E B F X N T hk hd hu hret
  obtain ⟨ra, rb, rc, rd, k, h1, ha, hb, hc, hd'⟩ := hB
  obtain ⟨qa, qb, qg, c3, gl, gr, c4, h2, h3, hsx, hsy, hgx, hgy⟩ := hS
  obtain ⟨p1, p2, c5, h4, hpa, hpb⟩ := hp
  refine wpAny_call ?_
  k_extra "my_enter"
  k_steps
  all_goals (rename News _ _ _ _ => nE)
  all_goals (refine hret _ _ _ _ (by k_asm) (nw3 nE (by k_extra "my_mem") (by k_extra "my_mem") (by k_extra "my_mem") (by k_extra "my_sub")) ⟨_, _, _, _, _, _, _, _, _, _, _, _, rfl, ?_, ?_, rfl, by k_extra "my_lt", by k_extra "my_lt", by k_extra "my_lt", by with_reducible assumption, by with_reducible assumption⟩)
  all_goals (subst_vars; rfl)
-- T1
/-- the states of series(): total, term, step -/
def serI (f sq sc b : Int) : Nat → Int × Int × Int
  | 0 => (0, f, b)
  | n + 1 => ((serI f sq sc b n).1 + (serI f sq sc b n).2.1, -((((serI f sq sc b n).2.1 * sq).fdiv sc).fdiv ((serI f sq sc b n).2.2 * ((serI f sq sc b n).2.2 + 1))), (serI f sq sc b n).2.2 + 2)
def serOk (f sq sc b : Int) (N : Nat) (T : Int) : Bool :=
  decide ((serI f sq sc b N).2.1 = 0) && (List.range (N + 1)).all fun n => (decide ((serI f sq sc b n).2.1 ≠ 0) || decide ((serI f sq sc b n).1 = T)) && decide ((serI f sq sc b n).2.1.natAbs < 2 ^ 90) && decide (1 ≤ (serI f sq sc b n).2.2) && decide ((serI f sq sc b n).2.2 ≤ 1000)
structure SerP (f sq sc b : Int) (N : Nat) (t m s : Int) : Prop where
  out : ∃ n, n ≤ N ∧ t = (serI f sq sc b n).1 ∧ m = (serI f sq sc b n).2.1 ∧ s = (serI f sq sc b n).2.2 ∧ s = b + 2 * n
section
variable {f sq sc b T t m s : Int} {N : Nat}
theorem ser_zero (h : serOk f sq sc b N T = true) : (serI f sq sc b N).2.1 = 0 := by
  unfold serOk at h
  simp only [Bool.and_eq_true, decide_eq_true_eq] at h
  exact h.1
theorem ser_at (h : serOk f sq sc b N T = true) {n : Nat} (hn : n ≤ N) : ((serI f sq sc b n).2.1 ≠ 0 ∨ (serI f sq sc b n).1 = T) ∧ (serI f sq sc b n).2.1.natAbs < 2 ^ 90 ∧ 1 ≤ (serI f sq sc b n).2.2 ∧ (serI f sq sc b n).2.2 ≤ 1000 := by
  unfold serOk at h
  simp only [Bool.and_eq_true, decide_eq_true_eq, List.all_eq_true, Bool.or_eq_true, List.mem_range] at h
  have := h.2 n (by omega)
  exact ⟨this.1.1.1, this.1.1.2, this.1.2, this.2⟩
theorem SerP.start (h : serOk f sq sc b N T = true) : SerP f sq sc b N 0 f b := ⟨0, Nat.zero_le _, rfl, rfl, rfl, by simp⟩
theorem SerP.turn (h : serOk f sq sc b N T = true) (p : SerP f sq sc b N t m s) (h0 : m ≠ 0) : SerP f sq sc b N (t + m) (-(((m * sq).fdiv sc).fdiv (s * (s + 1)))) (s + 2) := by
  obtain ⟨n, hn, rfl, rfl, rfl, e⟩ := p
  have hN : n ≠ N := fun q => h0 (q ▸ ser_zero h)
  exact ⟨n + 1, by omega, rfl, rfl, rfl, by omega⟩
theorem SerP.less (h : serOk f sq sc b N T = true) (p : SerP f sq sc b N t m s) (h0 : m ≠ 0) : (b + 2 * N + 2 - (s + 2)).toNat < (b + 2 * N + 2 - s).toNat := by
  obtain ⟨n, hn, rfl, rfl, rfl, e⟩ := p
  have hN : n ≠ N := fun q => h0 (q ▸ ser_zero h)
  omega
theorem SerP.ends (h : serOk f sq sc b N T = true) (p : SerP f sq sc b N t m s) (h0 : ¬ m ≠ 0) : t = T := by
  obtain ⟨n, hn, rfl, rfl, rfl, e⟩ := p
  exact (ser_at h hn).1.resolve_left h0
theorem SerP.bits (h : serOk f sq sc b N T = true) (p : SerP f sq sc b N t m s) : Bi 90 m := by
  obtain ⟨n, hn, rfl, rfl, rfl, e⟩ := p
  exact Bi.of (ser_at h hn).2.1
theorem SerP.step (h : serOk f sq sc b N T = true) (p : SerP f sq sc b N t m s) : 1 ≤ s ∧ s ≤ 1000 := by
  obtain ⟨n, hn, rfl, rfl, rfl, e⟩ := p
  exact (ser_at h hn).2.2
theorem SerP.ne (h : serOk f sq sc b N T = true) (p : SerP f sq sc b N t m s) : s * (s + 1) ≠ 0 := by
  have := p.step h
  exact Int.mul_ne_zero (by omega) (by omega)
theorem SerP.bs (h : serOk f sq sc b N T = true) (p : SerP f sq sc b N t m s) : Bi 90 s ∧ Bi 90 (s + 1) := by
  have := p.step h
  exact ⟨Bi.of (by omega), Bi.of (by omega)⟩
end
theorem Bi.fdiv {n : Nat} {x y : Int} (h : Bi n x) (h0 : y ≠ 0) : Bi (n + 1) (x.fdiv y) := by
  refine Bi.of ?_
  have h1 := h.to
  have h2 : (x.fdiv y).natAbs ≤ x.natAbs + 1 := by
    rw [Int.fdiv_eq_ediv]
    have := Int.natAbs_ediv_le_natAbs x y
    split <;> omega
  have := Nat.two_pow_pos n
  rw [Nat.pow_succ]
  omega
theorem series_spec (f sq sc b tt : Int) (t1 t2 t3 t4 : Tok) (n0 : Nat) (news : List (Addr × Obj)) (hO : serOk f sq sc b n0 tt = true) (hsq : Bi 90 sq) (hsc : Bi 90 sc) (h0 : sc ≠ 0) :
    Fn w p loose mean mg mb 1 236 [.int f t1, .int sq t2, .int sc t3, .int b t4] news (fun v news' => news' = news ∧ ∃ c t, v = .int c t ∧ c = tt) := by
  have zg1 := trivial
  have zg2 := trivial
  have zg3 := trivial
  have zg4 := trivial
  have zg13 := trivial
  have zg66 := trivial
  intro dp un gd cn cs a ccd cl outer A₀ base h₀ L m s Q E B F X N T hk hd hu hret
  k_with "state" => (guard_hyp zg66 : True); first | exact SerP.start hO | exact SerP.turn hO (by with_reducible assumption) (by assumption)
  k_with "measure" => (guard_hyp zg66 : True); exact SerP.less hO (by with_reducible assumption) (by assumption)
  k_with "binaryOp Mult int int" => (guard_hyp zg66 : True); (k_here; (have hB := SerP.bits hO (by with_reducible assumption)); k_dflt (refine' mul_int ?_ (IntMulOk.of_le (Bi.le hB) (Bi.le hsq) (by decide))))
  k_with "binaryOp Mult int int" => (guard_hyp zg66 : True); (k_here; (have hB := SerP.bs hO (by with_reducible assumption)); k_dflt (refine' mul_int ?_ (IntMulOk.of_le (Bi.le hB.1) (Bi.le hB.2) (by decide))))
  k_with "binaryOp FloorDiv int int" => (guard_hyp zg66 : True); (k_here; k_dflt ((refine' floordiv_int h0 ?_ (Or.inl (PyProof.noPylong_of_log2 (Bi.log hsc (by decide)))))))
  k_with "binaryOp FloorDiv int int" => (guard_hyp zg66 : True); (k_here; (have hB := SerP.bs hO (by with_reducible assumption)); k_dflt ((refine' floordiv_int (SerP.ne hO (by with_reducible assumption)) ?_ (Or.inl (PyProof.noPylong_of_log2 (Bi.log (Bi.mul hB.1 hB.2) (by decide)))))))
  k_with "exec While Compare cons nil" => (guard_hyp zg66 : True); k_while (fun script t m s => SerP f sq sc b n0 t m s) (fun script t m s => (b + 2 * n0 + 2 - s).toNat) "total" "term" "step"
  refine wpAny_call ?_
  k_extra "my_enter"
  k_steps
  all_goals (exact hret _ _ _ _ (by k_asm) (cb_drop (by assumption) (by k_extra "my_sub")) ⟨rfl, _, _, rfl, SerP.ends hO (by with_reducible assumption) (by omega)⟩)
-- T2
theorem Bi.one_add {m : Nat} {x y : Int} (hx : Bi m x) (hy : Bi m y) : Bi (m + 1) (x + y) := Bi.add hx hy
theorem Bi.two {m : Nat} {x : Int} (hx : Bi m x) : Bi (m + 2) (2 * x) := by
  have := Bi.mul (m := 2) (x := 2) (Bi.of (by decide)) hx
  rwa [Nat.add_comm] at this
theorem rounded_spec (a : Addr) (x : Rat) (i : Nat) (news : List (Addr × Obj)) (hx : At w news a i x) (hi : i ≤ 2000) :
    Fn w p loose mean mg mb 1 157 [.ref a] news (fun v news' => news' = news ∧ ∃ c t, v = .int c t ∧ c = (2 * x.num + x.den).fdiv (2 * x.den)) := by
  have zg1 := trivial
  have zg2 := trivial
  have zg3 := trivial
  have zg4 := trivial
  have zg13 := trivial
  have zg67 := trivial
  intro dp un gd cn cs ad ccd cl outer A₀ base h₀ L m s Q E B F X N T hk hd hu hret
  have hx' := hx.1
  have hd1 := den_pos x
  k_with "binaryOp FloorDiv int int" => (guard_hyp zg67 : True); (k_here; k_dflt ((refine' floordiv_int ?hb ?_ (Or.inl (PyProof.noPylong_of_log2 (Bi.log (Bi.two hx'.den) (by omega))))); (case hb => omega)))
  refine wpAny_call ?_
  k_extra "my_enter"
  k_steps
  all_goals (exact hret _ _ _ _ (by k_asm) (cb_drop (by assumption) (by k_extra "my_sub")) ⟨rfl, _, _, rfl, rfl⟩)
theorem floor_spec (a : Addr) (x : Rat) (i : Nat) (news : List (Addr × Obj)) (hx : At w news a i x) (hi : i ≤ 2000) :
    Fn w p loose mean mg mb 1 150 [.ref a] news (fun v news' => news' = news ∧ ∃ c t, v = .int c t ∧ c = x.num.fdiv x.den) := by
  have zg1 := trivial
  have zg2 := trivial
  have zg3 := trivial
  have zg4 := trivial
  have zg13 := trivial
  have zg67 := trivial
  intro dp un gd cn cs ad ccd cl outer A₀ base h₀ L m s Q E B F X N T hk hd hu hret
  have hx' := hx.1
  have hd1 := den_pos x
  k_with "binaryOp FloorDiv int int" => (guard_hyp zg67 : True); (k_here; k_dflt ((refine' floordiv_int ?hb ?_ (Or.inl (PyProof.noPylong_of_log2 (Bi.log hx'.den (by omega))))); (case hb => omega)))
  refine wpAny_call ?_
  k_extra "my_enter"
  k_steps
  all_goals (exact hret _ _ _ _ (by k_asm) (cb_drop (by assumption) (by k_extra "my_sub")) ⟨rfl, _, _, rfl, rfl⟩)
-- T3
/-- what near() reckons -/
def nearF (x : Rat) : Int := (2 * x.num + x.den).fdiv (2 * x.den)
theorem near_spec (n sc bt : Int) (t1 t2 t3 : Tok) (news : List (Addr × Obj)) (hn : Bi 90 n) (hs : Bi 90 sc) (hb : Bi 90 bt) (s0 : sc ≠ 0) (b0 : bt ≠ 0) (hr : Bi 90 (nearF (Rat.divInt (n * bt) sc))) :
    Fn w p loose mean mg mb 3 250 [.int n t1, .int sc t2, .int bt t3] news (FrOut news 90 (Rat.divInt (nearF (Rat.divInt (n * bt) sc)) bt)) := by
  have zg1 := trivial
  have zg2 := trivial
  have zg3 := trivial
  have zg4 := trivial
  have zg13 := trivial
  have zg32 := trivial
  have zg68 := trivial
  intro dp un gd cn cs ad ccd cl outer A₀ base h₀ L m s Q E B F X N T hk hd hu hret
  have hm := Bi.mul hn hb
  have hs' := hs.up (m := 90 + 90) (by decide)
  k_with "call ref" => (guard_hyp zg68 : True); (k_here; k_dflt ((with_reducible show wpAny _ _ (call (Value.ref 157) [Value.ref _]) _ _ _); (k_dflt (refine' Fn.useInt (rounded_spec _ _ _ _ ?hx (by decide : 180 ≤ 2000)) ?B ?F ?X ?N ?T ?hk ?hd ?hu ?_)); (case N => k_asm); (case hx => k_extra "my_at"); k_extra "my_side"; intro c' t' h' tk' F' N' r'; (have hr' : Bi 90 c' := by (subst_vars; exact hr)); (try k_sweep); (try dsimp only)))
  refine wpAny_call ?_
  k_extra "my_enter"
  k_steps
  all_goals (rename News _ _ _ _ => nE)
  all_goals (exact hret _ _ _ _ (by k_asm) (nw1 nE (by k_extra "my_mem") (by k_extra "my_sub")) ⟨_, _, _, _, _, rfl, (by subst_vars; rfl), rfl, by k_extra "my_lt", by with_reducible assumption⟩)
-- T4

theorem n45 : (45 : Rat).num = 45 := rfl
theorem d45 : ((45 : Rat).den : Int) = 1 := rfl
section
variable {A : Around} {E : Value → Shared → Prop} {s : Shared} {h₀ : Heap} {L a : Addr} {m : Str → Option Value} {news : List (Addr × Obj)} {n : Nat} {value slice : Expr} {u : Tok} {Q : Value → Shared → Prop}
theorem at45_0 (I : At w news a n 45) (F : Fr h₀ L s.heap m) (N : News h₀ L s.heap news) (X : (KK w.params).In h₀) (h : ∀ t, Q (.int 45 t) s)
    (hs : subscripted slice false (.ref a) (.int 0 u) = operate [.ref a, .int 0 u] (getItem (.ref a) (.int 0 u)) := by with_unfolding_all rfl) : wpAny (model PySem.Challenge.pw_pf0196_01 w) A (subscriptTail value slice (.ref a) (.int 0 u)) Q E s := at0 I F N X h hs
theorem at45_1 (I : At w news a n 45) (F : Fr h₀ L s.heap m) (N : News h₀ L s.heap news) (X : (KK w.params).In h₀) (h : ∀ t, Q (.int 1 t) s)
    (hs : subscripted slice false (.ref a) (.int 1 u) = operate [.ref a, .int 1 u] (getItem (.ref a) (.int 1 u)) := by with_unfolding_all rfl) : wpAny (model PySem.Challenge.pw_pf0196_01 w) A (subscriptTail value slice (.ref a) (.int 1 u)) Q E s := at1 I F N X h hs
end
theorem rad45 : ((45 : Int) * 314159265358979323846264338327950288419716939937510 * 281474976710656).fdiv (180 * 1 * 100000000000000000000000000000000000000000000000000) = 221069929750888 := by decide +kernel
theorem radians_spec (d : Addr) (n : Nat) (t1 : Tok) (news : List (Addr × Obj)) (hx : At w news d n 45) :
    Fn w p loose mean mg mb 1 229 [.ref d, .int 281474976710656 t1] news (fun v news' => news' = news ∧ ∃ c t, v = .int c t ∧ c = 221069929750888) := by
  have zg1 := trivial
  have zg2 := trivial
  have zg3 := trivial
  have zg4 := trivial
  have zg13 := trivial
  have zg69 := trivial
  intro dp un gd cn cs ad ccd cl outer A₀ base h₀ L m s Q E B F X N T hk hd hu hret
  k_with "subscriptTail Name Constant ref int" => (guard_hyp zg69 : True); (k_here; k_dflt ((first
    | ((with_reducible show wpAny _ _ (subscriptTail _ _ (Value.ref _) (Value.int 0 _)) _ _ _); k_dflt (refine' at45_0 hx ?F ?N ?X ?_))
    | ((with_reducible show wpAny _ _ (subscriptTail _ _ (Value.ref _) (Value.int 1 _)) _ _ _); k_dflt (refine' at45_1 hx ?F ?N ?X ?_))); (case N => k_asm); (case F => k_asm); (case X => k_asm); intro t'; (try dsimp only)))
  refine wpAny_call ?_
  k_extra "my_enter"
  k_steps
  all_goals (exact hret _ _ _ _ (by k_asm) (cb_drop (by assumption) (by k_extra "my_sub")) ⟨rfl, _, _, rfl, rad45⟩)
-- T5

/-- the cosine of 45 degrees over 2 ** 32 -/
def c45 : Rat := Rat.divInt 759250125 1073741824
theorem near45c : Rat.divInt (nearF (Rat.divInt (199032864766436 * 4294967296) (4294967296 * 65536))) 4294967296 = c45 := by decide +kernel
theorem near45s : Rat.divInt (nearF (Rat.divInt (199032864766435 * 4294967296) (4294967296 * 65536))) 4294967296 = c45 := by decide +kernel
theorem small_spec (d : Addr) (n : Nat) (t1 : Tok) (news : List (Addr × Obj)) (hx : At w news d n 45) :
    Fn w p loose mean mg mb 4 243 [.ref d, .int 4294967296 t1] news (PtOut news 90 c45 c45) := by
  have zg1 := trivial
  have zg2 := trivial
  have zg3 := trivial
  have zg4 := trivial
  have zg13 := trivial
  have zg70 := trivial
  intro dp un gd cn cs ad ccd cl outer A₀ base h₀ L m s Q E B F X N T hk hd hu hret
  k_with "call ref" => (guard_hyp zg70 : True); (k_here; k_dflt ((with_reducible show wpAny _ _ (call (Value.ref 229) [Value.ref _, Value.int _ _]) _ _ _); (k_dflt (refine' Fn.useInt (radians_spec _ _ _ _ hx) ?B ?F ?X ?N ?T ?hk ?hd ?hu ?_)); (case N => k_asm); k_extra "my_side"; intro c' t' h' tk' F' N' r'; subst r'; (try k_sweep); (try dsimp only)))
  k_with "call ref" => (guard_hyp zg70 : True); (k_here; k_dflt ((with_reducible show wpAny _ _ (call (Value.ref 236) [Value.int _ _, Value.int _ _, Value.int _ _, Value.int 1 _]) _ _ _); (k_dflt (refine' Fn.useInt (series_spec _ _ _ _ 199032864766436 _ _ _ _ 9 _ (by decide +kernel) (Bi.of (by decide +kernel)) (Bi.of (by decide +kernel)) (by decide +kernel)) ?B ?F ?X ?N ?T ?hk ?hd ?hu ?_)); (case N => k_asm); k_extra "my_side"; intro c' t' h' tk' F' N' r'; subst r'; (try k_sweep); (try dsimp only)))
  k_with "call ref" => (guard_hyp zg70 : True); (k_here; k_dflt ((with_reducible show wpAny _ _ (call (Value.ref 236) [Value.int _ _, Value.int _ _, Value.int _ _, Value.int 2 _]) _ _ _); (k_dflt (refine' Fn.useInt (series_spec _ _ _ _ 199032864766435 _ _ _ _ 9 _ (by decide +kernel) (Bi.of (by decide +kernel)) (Bi.of (by decide +kernel)) (by decide +kernel)) ?B ?F ?X ?N ?T ?hk ?hd ?hu ?_)); (case N => k_asm); k_extra "my_side"; intro c' t' h' tk' F' N' r'; subst r'; (try k_sweep); (try dsimp only)))
  k_with "call ref" => (guard_hyp zg70 : True); (k_here; k_dflt ((with_reducible show wpAny _ _ (call (Value.ref 250) [Value.int _ _, Value.int _ _, Value.int _ _]) _ _ _); (k_dflt (refine' Fn.useFr news (near_spec _ _ _ _ _ _ _ (Bi.of (by decide +kernel)) (Bi.of (by decide +kernel)) (Bi.of (by decide +kernel)) (by decide +kernel) (by decide +kernel) (Bi.of (by decide +kernel))) ?hsb ?B ?F ?X ?N ?T ?hk ?hd ?hu ?_)); (case N => k_asm); (case hsb => k_extra "my_sub"); k_extra "my_side"; intro D' t1' t2' c' y' h' tk' ey' F' N' lD' bD'; (try k_sweep); (try dsimp only)))
  refine wpAny_call ?_
  k_extra "my_enter"
  k_steps
  all_goals (rename News _ _ _ _ => nE)
  all_goals (refine hret _ _ _ _ (by k_asm) (nw3 nE (by k_extra "my_mem") (by k_extra "my_mem") (by k_extra "my_mem") (by k_extra "my_sub")) ⟨_, _, _, _, _, _, _, _, _, _, _, _, rfl, ?_, ?_, rfl, by k_extra "my_lt", by k_extra "my_lt", by k_extra "my_lt", by with_reducible assumption, by with_reducible assumption⟩)
  all_goals first
    | exact (by with_reducible assumption : _ = Rat.divInt (nearF (Rat.divInt (199032864766436 * 4294967296) _)) _).trans near45c
    | exact (by with_reducible assumption : _ = Rat.divInt (nearF (Rat.divInt (199032864766435 * 4294967296) _)) _).trans near45s
-- T6
theorem at_right (news : List (Addr × Obj)) : At w news 221 7 90 := ⟨⟨Bi.of (by decide +kernel), Bi.of (by decide +kernel)⟩, _, _, _, .inr (by k_is)⟩
theorem at_half_right (news : List (Addr × Obj)) : At w news 222 6 45 := ⟨⟨Bi.of (by decide +kernel), Bi.of (by decide +kernel)⟩, _, _, _, .inr (by k_is)⟩
theorem cmp45 {c : Int} (r : (c < 0 ↔ (45 : Rat) < 45) ∧ (c = 0 ↔ (45 : Rat) = 45) ∧ (c > 0 ↔ (45 : Rat) < 45)) : c = 0 := r.2.1.mpr rfl
theorem quarter_spec (d : Addr) (n : Nat) (t1 : Tok) (news : List (Addr × Obj)) (hx : At w news d n 45) (hn : n ≤ 1000) :
    Fn w p loose mean mg mb 5 257 [.ref d, .int 4294967296 t1] news (PtOut news 90 c45 c45) := by
  have zg1 := trivial
  have zg2 := trivial
  have zg3 := trivial
  have zg4 := trivial
  have zg13 := trivial
  have zg71 := trivial
  intro dp un gd cn cs ad ccd cl outer A₀ base h₀ L m s Q E B F X N T hk hd hu hret
  k_with "call ref" => (guard_hyp zg71 : True); (k_here; k_dflt ((with_reducible show wpAny _ _ (call (Value.ref 143) [Value.ref _, Value.ref _]) _ _ _); (k_dflt (refine' Fn.useInt (compare_spec _ _ _ _ _ _ _ hx (at_half_right _) ?hn) ?B ?F ?X ?N ?T ?hk ?hd ?hu ?_)); (case N => k_asm); (case hn => omega); k_extra "my_side"; intro c' t' h' tk' F' N' r'; (replace r' := cmp45 r'); subst r'; (try k_sweep); (try dsimp only)))
  k_with "call ref" => (guard_hyp zg71 : True); (k_here; k_dflt ((with_reducible show wpAny _ _ (call (Value.ref 243) [Value.ref _, Value.int _ _]) _ _ _); (k_dflt (refine' Fn.usePt news (small_spec _ _ _ _ hx) ?hsb ?B ?F ?X ?N ?T ?hk ?hd ?hu ?_)); (case N => k_asm); (case hsb => k_extra "my_sub"); k_extra "my_side"; intro D' a' b' c' s1' s2' c1' s3' s4' c2' x' y' h' tk' ex' ey' F' N' lA' lB' lD' bx' by'; (try k_sweep); (try dsimp only)))
  refine wpAny_call ?_
  k_extra "my_enter"
  k_steps
  all_goals (rename News _ _ _ _ => nE)
  all_goals (refine hret _ _ _ _ (by k_asm) (nw3 nE (by k_extra "my_mem") (by k_extra "my_mem") (by k_extra "my_mem") (by k_extra "my_sub")) ⟨_, _, _, _, _, _, _, _, _, _, _, _, rfl, ex', ex', rfl, by k_extra "my_lt", by k_extra "my_lt", by k_extra "my_lt", bx', bx'⟩)
-- T7
/-- a quarter turn, k times -/
def rotC (k : Int) (C S : Rat) : Rat := if k = 0 then C else if k = 1 then -S else if k = 2 then -C else - -S
def rotS (k : Int) (C S : Rat) : Rat := if k = 0 then S else if k = 1 then C else if k = 2 then -S else -C
theorem rotC_0 {C S : Rat} : rotC 0 C S = C := rfl
theorem rotC_1 {C S : Rat} : rotC 1 C S = -S := rfl
theorem rotC_2 {C S : Rat} : rotC 2 C S = -C := rfl
theorem rotC_3 {C S : Rat} : rotC 3 C S = - -S := rfl
theorem rotS_0 {C S : Rat} : rotS 0 C S = S := rfl
theorem rotS_1 {C S : Rat} : rotS 1 C S = C := rfl
theorem rotS_2 {C S : Rat} : rotS 2 C S = -S := rfl
theorem rotS_3 {C S : Rat} : rotS 3 C S = -C := rfl
abbrev TuOut (w : World) (news : List (Addr × Obj)) (n : Nat) (x y : Rat) (v : Value) (news' : List (Addr × Obj)) : Prop :=
  ∃ D e1 e2 e3 e4, v = .ref D ∧ news' = e1 :: e2 :: e3 :: e4 :: news ∧ (∀ p ∈ news, p.1 < e1.1) ∧ (∀ p ∈ news, p.1 < e2.1) ∧ (∀ p ∈ news, p.1 < e3.1) ∧ (∀ p ∈ news, p.1 < e4.1) ∧ PtAt w news' D n x y
theorem turn_on {x y r C S : Rat} {z : Rat} (ey : y = x - z) (hr : x - z = r) (hC : (r = 0 ∧ C = 1 ∧ S = 0) ∨ (r = 45 ∧ C = c45 ∧ S = c45)) (h : y.num ≠ 0) : y = 45 ∧ C = c45 ∧ S = c45 := by
  have e : y = r := ey.trans hr
  rcases hC with ⟨h0, _⟩ | ⟨h0, h1⟩
  · exact absurd (by rw [e, h0]; rfl) h
  · exact ⟨e.trans h0, h1⟩
theorem turn_off {x y r C S : Rat} {z : Rat} (ey : y = x - z) (hr : x - z = r) (hC : (r = 0 ∧ C = 1 ∧ S = 0) ∨ (r = 45 ∧ C = c45 ∧ S = c45)) (h : y.num = 0) : C = 1 ∧ S = 0 := by
  have e : y = r := ey.trans hr
  rcases hC with ⟨h0, h1⟩ | ⟨h0, h1⟩
  · exact h1
  · rw [e, h0] at h; exact absurd h (by decide)
theorem TLg_ne {I : Addr} {l : List (Addr × Obj)} (h : AllLt I l) : ∀ p ∈ l, p.1 ≠ I := fun p m => Nat.ne_of_lt (ktn_ltOf h p m)
theorem unr_front {h₀ : Heap} {L I : Addr} {it : Obj} {rest : (Str → Option Value) → List (Addr × Obj) → Prop} {s₁ : Shared} {h' : Heap} {tk : Nat} {m' : Str → Option Value} {all small : List (Addr × Obj)} (F : Fr h₀ L h' m') (N : News h₀ L h' all) (f : Front (I, it) all small) (off : ∀ p ∈ small, p.1 ≠ I) (r : rest m' small) : UnrEnd h₀ L s₁ I it rest { s₁ with heap := h', toks := tk } :=
  UnrEnd.intro F N small (List.forall_mem_cons.mpr f.mem) off r
theorem turn_spec (d : Addr) (x r C S : Rat) (q : Int) (t1 : Tok) (news : List (Addr × Obj)) (hx : At w news d 9 x) (hq : (x / 90).num.fdiv (x / 90).den = q) (hqb : -10 ≤ q ∧ q ≤ 10) (hr : x - ((90 * q : Int) : Rat) = r) (hC : (r = 0 ∧ C = 1 ∧ S = 0) ∨ (r = 45 ∧ C = c45 ∧ S = c45)) (hq4 : q.fmod 4 = 0 ∨ q.fmod 4 = 1 ∨ q.fmod 4 = 2 ∨ q.fmod 4 = 3) :
    Fn w p loose mean mg mb 6 265 [.ref d, .int 4294967296 t1] news (TuOut w news 90 (rotC (q.fmod 4) C S) (rotS (q.fmod 4) C S)) := by
  have zg1 := trivial
  have zg2 := trivial
  have zg3 := trivial
  have zg4 := trivial
  have zg13 := trivial
  have zg30 := trivial
  have zg31 := trivial
  have zg33 := trivial
  have zg43 := trivial
  have zg44 := trivial
  have zg72 := trivial
  intro dp un gd cn cs ad ccd cl outer A₀ base h₀ L m s Q E B F X N T hk hd hu hret
  have h90 : (90 : Rat) ≠ 0 := by decide +kernel
  have hb90 : Bi 10 (90 * q) := Bi.of (by omega)
  k_with "call ref" => (guard_hyp zg72 : True); (k_here; k_dflt ((with_reducible show wpAny _ _ (call (Value.ref 122) [Value.ref _, Value.ref _]) _ _ _); (k_dflt (refine' Fn.useFr news (divided_spec _ _ _ _ _ _ _ hx (at_right _) h90 (by decide)) ?hsb ?B ?F ?X ?N ?T ?hk ?hd ?hu ?_)); (case N => k_asm); (case hsb => k_extra "my_sub"); k_extra "my_side"; intro D' t1' t2' c' y' h' tk' ey' F' N' lD' bD'; (try k_sweep); (try dsimp only)))
  k_with "call ref" => (guard_hyp zg72 : True); (k_here; k_dflt ((with_reducible show wpAny _ _ (call (Value.ref 150) [Value.ref _]) _ _ _); (k_dflt (refine' Fn.useInt (floor_spec _ _ _ _ ?hx (by decide : 16 ≤ 2000)) ?B ?F ?X ?N ?T ?hk ?hd ?hu ?_)); (case N => k_asm); (case hx => k_extra "my_at"); k_extra "my_side"; intro c' t' h' tk' F' N' r'; (have hqe := r'.trans ((by rw [ey'] : _ = (x / 90).num.fdiv (x / 90).den).trans hq)); subst hqe; (try k_sweep); (try dsimp only)))
  k_with "call ref" => (guard_hyp zg72 : True); (k_here; k_dflt ((with_reducible show wpAny _ _ (call (Value.ref 257) [Value.ref _, Value.int _ _]) _ _ _); (obtain ⟨e45, eC, eS⟩ := turn_on (by with_reducible assumption) hr hC (by omega)); subst e45; (k_dflt (refine' Fn.usePt news (quarter_spec _ _ _ _ (At.here ?mm (by with_reducible assumption)) (by decide : 9 + 11 + 1 ≤ 1000)) ?hsb ?B ?F ?X ?N ?T ?hk ?hd ?hu ?_)); (case N => k_asm); (case mm => k_extra "my_mem"); (case hsb => k_extra "my_sub"); k_extra "my_side"; intro D' a' b' c' s1' s2' c1' s3' s4' c2' x' y' h' tk' ex' ey' F' N' lA' lB' lD' bx' by'; (try k_sweep); (try dsimp only)))
  k_with "call type:range" => (guard_hyp zg72 : True); ((with_reducible show wpAny _ _ (call (Value.type "range") [Value.int (Int.fmod _ _) _]) _ _ _); (rcases hq4 with e4 | e4 | e4 | e4 <;> rw [e4]))
  k_with "exec If" => (guard_hyp zg72 : True); ((with_reducible show wpAny _ _ (exec (Stmt.If _ _ _ _) _) _ _ _); (fail_if_success (with_reducible show wpAny _ _ _ (Cut2 _ _ _ _ _ _ _) _ _)); ((with_reducible rename Fr _ _ _ _ => lF'); refine' cut2 (Str.ofString "cosine") (Str.ofString "sine") (fun v1 v2 nw => ∃ a b p1 p2, v1 = .ref a ∧ v2 = .ref b ∧ nw = p1 :: p2 :: news ∧ (∀ p ∈ news, p.1 < p1.1) ∧ (∀ p ∈ news, p.1 < p2.1) ∧ At w nw a 90 C ∧ At w nw b 90 S) lF' ?_ ?_); rotate_left 1; intro v1' v2' n' h' tk' F' N' O'; obtain ⟨a', b', p1', p2', e1', e2', e3', lp1, lp2, hA', hB'⟩ := O'; subst e1'; subst e2'; subst e3'; (try k_sweep); (try dsimp only))
  k_with "UnrEnd" => (guard_hyp zg72 : True); ((rename News _ _ _ _ => nE); refine' unr_front ?fF nE ?ff ?off ?_; (case fF => k_asm); (case ff => k_extra "my_front"); (case off => k_extra "my_off"); (try dsimp only))
  k_with "my_off" => (guard_hyp zg72 : True); first | exact TLg_ne (by k_extra "my_andr") | (refine' List.forall_mem_cons.mpr ⟨?nea, ?neb⟩; (case nea => first | (refine neN ?_; (try dsimp only); first | exact Nat.ne_of_gt (by k_extra "my_lx") | exact Nat.ne_of_lt (by k_extra "my_lx") | omega)); (case neb => k_extra "my_off"))
  refine wpAny_call ?_
  k_extra "my_enter"
  k_steps
  all_goals (rename News _ _ _ _ => nE)
  · simp only [e4, rotC_0, rotS_0] at hret
    exact hret _ _ _ _ (by k_asm) (nw4 nE (by k_extra "my_mem") (by k_extra "my_mem") (by k_extra "my_mem") (by k_extra "my_mem") (by k_extra "my_sub")) ⟨_, _, p1', p2', p2', rfl, rfl, by k_extra "my_lt", by k_extra "my_lt", by k_extra "my_lt", by k_extra "my_lt", PtAt.ofm (List.Mem.head _) (hA'.sub (by k_extra "my_sub")) (hB'.sub (by k_extra "my_sub"))⟩
  · rename _ = -S => eS1
    simp only [e4, rotC_1, rotS_1] at hret
    exact hret _ _ _ _ (by k_asm) (nw4 nE (by k_extra "my_mem") (by k_extra "my_mem") (by k_extra "my_mem") (by k_extra "my_mem") (by k_extra "my_sub")) ⟨_, _, _, p1', p2', rfl, rfl, by k_extra "my_lt", by k_extra "my_lt", by k_extra "my_lt", by k_extra "my_lt", PtAt.ofm (List.Mem.head _) (At.eq (At.here (List.Mem.tail _ (List.Mem.head _)) (by with_reducible assumption)) eS1) (hA'.sub (by k_extra "my_sub"))⟩
  · rename _ = -S => eS1
    rename _ = -C => eC1
    simp only [e4, rotC_2, rotS_2] at hret
    exact hret _ _ _ _ (by k_asm) (nw4 nE (by k_extra "my_mem") (by k_extra "my_mem") (by k_extra "my_mem") (by k_extra "my_mem") (by k_extra "my_sub")) ⟨_, _, _, _, p2', rfl, rfl, by k_extra "my_lt", by k_extra "my_lt", by k_extra "my_lt", by k_extra "my_lt", PtAt.ofm (List.Mem.head _) (At.eq (At.here (List.Mem.tail _ (List.Mem.head _)) (by with_reducible assumption)) eC1) (At.eq (At.here (List.Mem.tail _ (List.Mem.tail _ (List.Mem.head _))) (by with_reducible assumption)) eS1)⟩
  · rename _ = -S => eS1
    rename _ = -C => eC1
    rename _ = - _ => eS2
    simp only [e4, rotC_3, rotS_3] at hret
    exact hret _ _ _ _ (by k_asm) (nw4 nE (by k_extra "my_mem") (by k_extra "my_mem") (by k_extra "my_mem") (by k_extra "my_mem") (by k_extra "my_sub")) ⟨_, _, _, _, p2', rfl, rfl, by k_extra "my_lt", by k_extra "my_lt", by k_extra "my_lt", by k_extra "my_lt", PtAt.ofm (List.Mem.head _) (At.eq (At.here (List.Mem.tail _ (List.Mem.head _)) (by with_reducible assumption)) (eS2.trans (congrArg _ eS1))) (At.eq (At.here (List.Mem.tail _ (List.Mem.tail _ (List.Mem.head _))) (by with_reducible assumption)) eC1)⟩
  · exact Cut2.on (by k_asm) ⟨_, _, _, _, rfl, rfl, rfl, by k_extra "my_lt", by k_extra "my_lt", At.eq (At.here (List.Mem.head _) bx') (ex'.trans eC.symm), At.eq (At.here (List.Mem.tail _ (List.Mem.head _)) by') (ey'.trans eS.symm)⟩ (nw2 nE (by k_extra "my_mem") (by k_extra "my_mem") (by k_extra "my_sub"))
  · obtain ⟨eC, eS⟩ := turn_off (by with_reducible assumption) hr hC (by omega)
    exact Cut2.same rfl rfl (by k_asm) ⟨_, _, _, _, rfl, rfl, rfl, by k_extra "my_lt", by k_extra "my_lt", At.eq ((At.int (k := 1) (List.Mem.head _) (Bi.of (n := 1) (by decide))).up (by decide)) eC.symm, At.eq ((At.int (k := 0) (List.Mem.tail _ (List.Mem.head _)) (Bi.of (n := 1) (by decide))).up (by decide)) eS.symm⟩ (nw2 nE (by k_extra "my_mem") (by k_extra "my_mem") (by k_extra "my_sub"))
-- T8
theorem tangent_spec (d : Addr) (x r C S tn : Rat) (q : Int) (news : List (Addr × Obj)) (hx : At w news d 9 x) (hq : (x / 90).num.fdiv (x / 90).den = q) (hqb : -10 ≤ q ∧ q ≤ 10) (hr : x - ((90 * q : Int) : Rat) = r) (hC : (r = 0 ∧ C = 1 ∧ S = 0) ∨ (r = 45 ∧ C = c45 ∧ S = c45)) (hq4 : q.fmod 4 = 0 ∨ q.fmod 4 = 1 ∨ q.fmod 4 = 2 ∨ q.fmod 4 = 3)
    (hc : rotC (q.fmod 4) C S ≠ 0) (ht : rotS (q.fmod 4) C S / rotC (q.fmod 4) C S = tn) (hn : Rat.divInt (nearF (tn * 65536)) 65536 = tn) (hb : Bi 90 (nearF (tn * 65536))) :
    Fn w p loose mean mg mb 7 273 [.ref d] news (FrOut news 90 tn) := by
  have zg1 := trivial
  have zg2 := trivial
  have zg3 := trivial
  have zg4 := trivial
  have zg13 := trivial
  have zg15 := trivial
  have zg31 := trivial
  have zg32 := trivial
  have zg33 := trivial
  have zg36 := trivial
  have zg73 := trivial
  intro dp un gd cn cs ad ccd cl outer A₀ base h₀ L m s Q E B F X N T hk hd hu hret
  have hcn := num_ne hc
  have h65 : (65536 : Int) ≠ 0 := by decide
  have hb65 : Bi 90 65536 := Bi.of (by decide)
  generalize eCC : rotC (q.fmod 4) C S = CC at hc ht hcn
  generalize eSS : rotS (q.fmod 4) C S = SS at ht
  k_with "call ref" => (guard_hyp zg73 : True); (k_here; k_dflt ((with_reducible show wpAny _ _ (call (Value.ref 265) [Value.ref _, Value.int _ _]) _ _ _); (k_dflt (refine' Fn.use (turn_spec _ _ _ _ _ _ _ _ hx hq hqb hr hC hq4) ?B ?F ?X ?N ?T ?hk ?hd ?hu ?_)); (case N => k_asm); k_extra "my_side"; (rw [eCC, eSS]); intro v' n' h' tk' F' N' O'; obtain ⟨D', e1', e2', e3', e4', eq1', eq2', l1', l2', l3', l4', hP'⟩ := O'; subst eq1'; subst eq2'; obtain ⟨ra', rb', c', hm', hA', hB'⟩ := hP'; (try k_sweep); (try dsimp only)))
  k_with "exec Raise some none" => (guard_hyp zg73 : True); (exfalso; omega)
  k_with "call ref" => (guard_hyp zg73 : True); (k_here; k_dflt ((with_reducible show wpAny _ _ (call (Value.ref 157) [Value.ref _]) _ _ _); (k_dflt (refine' Fn.useInt (rounded_spec _ _ _ _ ?hx ?hi) ?B ?F ?X ?N ?T ?hk ?hd ?hu ?_)); (case N => k_asm); (case hx => k_extra "my_at"); (case hi => first | decide | omega); k_extra "my_side"; intro c' t' h' tk' F' N' r'; (have hcx : c' = nearF (tn * 65536) := by (subst_vars; rfl)); (have hr' : Bi 90 c' := hcx ▸ hb); (try k_sweep); (try dsimp only)))
  refine wpAny_call ?_
  k_extra "my_enter"
  k_steps
  all_goals (rename News _ _ _ _ => nE)
  all_goals (rename _ = Rat.divInt _ _ => eY)
  all_goals (exact hret _ _ _ _ (by k_asm) (nw1 nE (by k_extra "my_mem") (by k_extra "my_sub")) ⟨_, _, _, _, _, rfl, eY.trans (by rw [hcx]; exact hn), rfl, by k_extra "my_lt", by with_reducible assumption⟩)
-- X1
section
open Builtin
/-- the class at C makes exceptions -/
structure ExcC (M : Model) (h : Heap) (C : Addr) : Prop where
  obj : ∃ oc od cd sl, h.get? C = some ⟨oc, od, .cls cd, sl⟩ ∧ cd.hasDel = false ∧ cd.mro.isEmpty = false
  made : Looks M h (Bind.madeBy (.ref C)) (some "Exception.__new__")
  base : Looks M h (Bind.staticBase (.ref C)) (.ref C)
  self : Looks M h (isSubtype (.ref C) (.ref C)) true
  exc : Looks M h (isSubtype (.ref C) (.type "Exception")) true
  bex : Looks M h (isSubtype (.ref C) (.type "BaseException")) true
  att : Looks M h (isSubtype (.ref C) (.type "AttributeError")) false
  nam : Looks M h (isSubtype (.ref C) (.type "NameError")) false
  call : Looks M h (specialOf (.ref C) "__call__") (some (.builtin "type.__call__"))
  typ : Looks M h (isInstance (.ref C) (.type "type")) true
  own : Looks M h (typeOf (.ref C)) (.type "type")
def excsIn (K : Frag) (C : Addr) : Bool := match K.lookup C with
  | some ⟨_, _, .cls cd, sl⟩ => !cd.hasDel && (sl.toList[4]?).join == some (.builtin "Exception.__new__") && !cd.mro.isEmpty && cd.mro.contains (.ref C) && cd.mro.contains (.type "Exception") && cd.mro.contains (.type "BaseException") &&
      !cd.mro.contains (.type "AttributeError") && !cd.mro.contains (.type "NameError") && specialIn K (.ref C) "__call__" == some (some (.builtin "type.__call__")) && instIn K (.ref C) (.type "type") == some true && typeIn K (.ref C) == some (.type "type")
  | _ => false
theorem excC_of {K : Frag} {M : Model} {h : Heap} (X : K.In h) {C : Addr} (e : excsIn K C = true) : ExcC M h C := by
  unfold excsIn at e
  split at e
  · rename_i oc od cd sl ho
    simp only [Bool.and_eq_true, Bool.not_eq_true', beq_iff_eq] at e
    obtain ⟨⟨⟨⟨⟨⟨⟨⟨⟨⟨e1, e2⟩, e3⟩, e4⟩, e5⟩, e6⟩, e7⟩, e8⟩, e9⟩, e10⟩, e11⟩ := e
    have hc : clsIn K C = some cd := by unfold clsIn; rw [ho]
    have hm : Looks M h (mroOf (.ref C)) cd.mro := (looks_clsIn X hc).andThen .now
    obtain ⟨c, l, hl⟩ : ∃ c l, cd.mro = c :: l := by cases q : cd.mro with | nil => rw [q] at e3; cases e3 | cons c l => exact ⟨c, l, rfl⟩
    have made : Looks M h (Bind.madeBy (.ref C)) (some "Exception.__new__") := by
      intro A Q E s k q
      unfold Bind.madeBy
      refine wpAny_bind (hm A _ E s k ?_)
      rw [hl, List.forIn_cons]
      refine wpAny_bind (wpAny_bind (wpAny_bind (wpAny_bind (wpAny_loadPart (k _ _ (X _ _ ho)) (wpAny_pure ?_)))))
      dsimp only
      rw [← Array.getElem?_toList, e2]
      exact wpAny_pure (wpAny_pure (wpAny_pure q))
    have sub : ∀ b r, cd.mro.contains b = r → Looks M h (isSubtype (.ref C) b) r := fun b r hb => looks_mroIn X (by unfold mroIn; rw [hc, Option.bind_some, if_neg (by rw [e3]; decide), hb])
    refine ⟨⟨oc, od, cd, sl, X _ _ ho, e1, e3⟩, made, ?_, sub _ _ e4, sub _ _ e5, sub _ _ e6, sub _ _ e7, sub _ _ e8, looks_specialIn X e9, looks_instIn X e10, looks_typeIn X e11⟩
    intro A Q E s k q
    unfold Bind.staticBase
    refine wpAny_bind (hm A _ E s k ?_)
    rw [hl, List.forIn_cons]
    exact wpAny_bind (wpAny_bind (wpAny_bind (made A _ E s k (wpAny_pure (wpAny_pure (wpAny_pure q))))))
  · cases e
theorem exc_here (w : World) : excsIn (KK w.params) 51 = true := by kernel_rfl
theorem exc_init (w : World) : ∃ f, findIn (KK w.params) (.ref 51) "__init__" = some (some (.ref f)) ∧ typeIn (KK w.params) (.ref f) = some (.type "function") := ⟨35, by kernel_rfl, by kernel_rfl⟩
theorem exc_set (w : World) : findIn (KK w.params) (.ref 51) "__setattr__" = some (some (.builtin "object.__setattr__")) := by kernel_rfl
abbrev excT (ws : List Value) : Obj := { cls := .type "tuple", data := .seq ws.toArray }
abbrev excO (C t : Addr) (dd : Option Addr) : Obj := { cls := .ref C, dict := dd, data := .fields #[.ref t, .none, .none, .none, .bool false, .none] }
section
variable {prog : Program} {w : World} {A : Around} {K : Frag} {C : Addr} {R : Result → Shared → Prop} {h : Heap} {g : Array GenState} {d : Drawn} {t : Nat} {os : OsState}
theorem exc_new {rest : List Value} (Y : ExcC (model prog w) h C) (hq : R (.ok (.ret (.ref (h.objs.size + 1)))) ⟨(h.push (excT rest)).push (excO C h.objs.size none), g, d, t, os⟩) (hrest : rest.length ≤ 100) :
    codeAny (model prog w) A (.call (.builtin "Exception.__new__") ⟨.ref C :: rest, []⟩) R ⟨h, g, d, t, os⟩ := by
  obtain ⟨⟨oc, od, cd, sl, hC, e1, e3⟩, made, base, self, exc, bex, att, nam, call, typ, own⟩ := Y
  have FB := PySem.F.excBase_Exception
  refine codeAny_call_builtin_code (Code.quiet_builtin _ FB.quiet) ?_
  simp only [checkBuiltinCall, FB.newKind, FB.newSplit, FB.newRow]
  have hstar := FB.noStar
  repeat (first | simp only [bne_self_eq_false, Bool.false_eq_true, if_false] | lk)
  refine codeAny_builtinAt FB.entry ?_
  unfold Builtin.«BaseException.__new__»
  refine PySem.wpAt_bind ?_
  show PySem.wpAt _ _ _ (stack >>= _) _ _ _
  have hends := FB.ends
  refine PySem.wpAt_bind (PySem.wpAt_stack fun p below => PySem.wpAt_of_wpAny ?_)
  wp_walk
  refine PySem.wpAt_of_wpAny ?_
  rw [FB.owner]
  have hC1 : (h.push (excT rest)).get? C = some ⟨oc, od, .cls cd, sl⟩ := Heap.get?_push_of_some _ hC
  have hC2 : ((h.push (excT rest)).push (excO C h.objs.size none)).get? C = some ⟨oc, od, .cls cd, sl⟩ := Heap.get?_push_of_some _ hC1
  have here : Looks (model prog w) h (Bind.madeHere "BaseException.__new__" (.ref C)) () := base.andThen (made.andThen (Looks.of_pure (by simp only [Option.map_some, FB.canon, bne_self_eq_false, Bool.false_eq_true, if_false])))
  repeat (first | simp only [bne_self_eq_false, Bool.false_eq_true, if_false] | lk)
  rw [if_neg (by rw [List.size_toArray, sizeLine_eq]; omega)]
  refine wpAny_bind (wpAny_alloc (wpAny_bind (wpAny_pure ?_)))
  refine wpAny_pure (wpAny_bind ?_)
  unfold newObj
  dsimp only
  rw [if_neg (by rw [sizeLine_eq]; show ¬ (6 > 16777216 + 2); decide)]
  unfold newObjAsIs classHasDel
  refine wpAny_bind (wpAny_alloc (wpAny_bind (wpAny_bind (wpAny_load hC2 (wpAny_pure ?_)))))
  rw [e1]
  refine wpAny_pure (wpAny_pure ?_)
  show R _ _
  rw [Heap.size_push]
  exact hq

theorem exc_core {rest : List Value} {fI : Addr} (Y : ExcC (model prog w) h C) (hi : Looks (model prog w) h (typeLookup (.ref C) "__init__") (some (.ref fI)))
    (hb : ∀ self, Looks (model prog w) h (bindSpecial (.ref fI) self) (.ref fI, [self]))
    (hq : codeAny (model prog w) (A.under (.builtin "type.__call__" ⟨.ref C :: rest, []⟩)) (.call (.ref fI) ⟨.ref (h.objs.size + 1) :: rest, []⟩) (InitBack (h.objs.size + 1) R) ⟨(h.push (excT rest)).push (excO C h.objs.size none), g, d, t, os⟩) (hrest : rest.length ≤ 100) :
    codeAny (model prog w) A (.call (.ref C) ⟨rest, []⟩) R ⟨h, g, d, t, os⟩ := by
  have Y' := Y
  obtain ⟨⟨oc, od, cd, sl, hC, e1, e3⟩, made, base, self, exc, bex, att, nam, call, typ, own⟩ := Y
  refine codeAny_of_tree ?_
  show wpAny _ _ (callAny (.ref C) _) _ _ _
  refine nd_load hC ?_
  show wpAny _ _ (callAny.viaDunder (.ref C) _) _ _ _
  unfold callAny.viaDunder
  refine wpAny_bind (call.at ?_)
  dsimp only
  rw [tc_bind]
  refine wpAny_bind (wpAny_pure (wpAny_bind (wpAny_pure ?_)))
  refine wpAny_pure (a := Fin.again (.call (.builtin "type.__call__") ⟨.ref C :: rest, []⟩)) (And.intro rfl ?_)
  refine codeAny_call_builtin_at (Code.quiet_builtin _ (by decide +kernel)) entry_typeCall (check_slot tc_kind tc_split typ (tc_args _ _ _) ?_)
  unfold Builtin.«type.__call__»
  have hm : Looks (model prog w) h (mroOf (.ref C)) cd.mro := ((Looks.ld (part := none) hC).andThen .now).andThen .now
  repeat (first | simp only [e3, Bool.false_eq_true, if_false] | with_reducible refine wpAny_call ?_ | lk)
  refine exc_new Y' ?_ hrest
  have k : ∀ b o, h.get? b = some o → ((h.push (excT rest)).push (excO C h.objs.size none)).get? b = some o := fun b o e => Heap.get?_push_of_some _ (Heap.get?_push_of_some _ e)
  have hx : ((h.push (excT rest)).push (excO C h.objs.size none)).get? (h.objs.size + 1) = some (excO C h.objs.size none) := by heap_get
  have t1 : Looks (model prog w) ((h.push (excT rest)).push (excO C h.objs.size none)) (typeOf (.ref (h.objs.size + 1))) (.ref C) := (Looks.ld hx).andThen .now
  have s1 := self.keeps k
  have i1 := hi.keeps k
  have b1 := (hb (.ref (h.objs.size + 1))).keeps k
  unfold isInstance callSpecial? specialOf
  repeat (first | with_reducible refine wpAny_call ?_ | lk)
  refine codeAny_mono hq fun r s' z => ?_
  rcases r with e | (v | _ | _ | _) <;> first | exact z | exact z.elim | skip
  obtain ⟨rfl, z⟩ := z
  exact wpAny_pure (wpAny_pure z)
end
section
variable {prog : Program} {w : World} {A : Around} {E : Value → Shared → Prop} {s : Shared} {K : Frag} {C L : Addr} {h₀ : Heap} {m : Str → Option Value} {news : List (Addr × Obj)} {Q : Value → Shared → Prop}
/-- a class of exceptions is called: the tuple of what it was given, the exception, then __init__ -/
theorem call_exc {pos : List Value} {fI : Addr} (F : Fr h₀ L s.heap m) (X₀ : K.In h₀) (N : News h₀ L s.heap news) (hm : excsIn K C = true) (hi : findIn K (.ref C) "__init__" = some (some (.ref fI))) (hf : typeIn K (.ref fI) = some (.type "function")) (hp : pos.length ≤ 100)
    (h : ∀ x t h', Fr h₀ L h' m → News h₀ L h' ((x, excO C t none) :: (t, excT pos) :: news) → (∀ p ∈ news, p.1 < t) → (∀ p ∈ news, p.1 < x) → t < x →
      codeAny (model prog w) (A.under (.builtin "type.__call__" ⟨.ref C :: pos, []⟩)) (.call (.ref fI) ⟨.ref x :: pos, []⟩) (InitBack x fun r s' => match r with | .ok (.ret v) => Q v s' | .ok _ => False | .error e => E e s') { s with heap := h' }) :
    wpAny (model prog w) A (call (.ref C) pos) Q E s := by
  obtain ⟨hh, g, d, t, os⟩ := s
  have X := X₀.keeps F.keep
  refine wpAny_call (exc_core (excC_of X hm) (looks_findIn X hi) (fun self => bind_fn X self hf) (h _ hh.objs.size _ ((F.push _).push _) ?_ (fun p hp => Heap.lt_size (N p hp).1) (fun p hp => Nat.lt_succ_of_lt (Heap.lt_size (N p hp).1)) (Nat.lt_succ_self _)) hp)
  have := (N.push F (excT pos)).push (F.push _) (excO C hh.objs.size none)
  rwa [Heap.size_push] at this
end
abbrev excMro (C D : Addr) : List Value := [.ref C, .ref D, .type "Exception", .type "BaseException", .type "object"]
theorem excMro_passes (C D : Addr) (self : Value) : refuseLoop self "__setattr__" (excMro C D) = pure () := by
  rw [refuseLoop_ref, refuseLoop_ref]
  exact PySem.F.store_Exception.passes self
theorem exc_mro (w : World) : (clsIn (KK w.params) 51).any (fun cd => cd.hasDict && cd.mro == excMro 51 38) = true := by kernel_rfl
theorem exc_taker (w : World) : takerIn (KK w.params) 51 "message" = some none := by kernel_rfl
section
open Builtin Builtin.ObjectAttr
variable {prog : Program} {w : World} {A : Around} {E : Value → Shared → Prop} {s : Shared} {K : Frag} {C D L x t : Addr} {h₀ : Heap} {m : Str → Option Value} {news : List (Addr × Obj)}
/-- an attribute is laid on an exception that has none yet -/
theorem set_exc {name : Str} {v : Value} {Q : Unit → Shared → Prop} (F : Fr h₀ L s.heap m) (X₀ : K.In h₀) (N : News h₀ L s.heap ((x, excO C t none) :: news)) (hne : ∀ p ∈ news, p.1 ≠ x) (hs : findIn K (.ref C) "__setattr__" = some (some (.builtin "object.__setattr__")))
    (hp : (clsIn K C).any (fun cd => cd.hasDict && cd.mro == excMro C D) = true) (ht : takerIn K C name = some none)
    (h : ∀ d h' tk', Fr h₀ L h' m → News h₀ L h' ((x, excO C t (some d)) :: news) → Q () { s with heap := h', toks := tk' }) :
    wpAny (model prog w) A (setAttr (.ref x) name v) Q E s := by
  obtain ⟨hh, g, dr, tk, os⟩ := s
  have X := X₀.keeps F.keep
  have I : InstAt hh x (excO C t none) C none := ⟨(N _ (.head _)).1, rfl, rfl, trivial⟩
  have SF := PySem.F.store_object
  obtain ⟨cd, hc, ho⟩ := any_some hp
  simp only [Bool.and_eq_true, beq_iff_eq] at ho
  obtain ⟨hdi, hmr⟩ := ho
  refine set_plain X I hs ?_
  have sub : Looks (model prog w) hh (isInstance (.ref x) (.type "object")) true := I.type.andThen (looks_mroIn X (by unfold mroIn; rw [hc, Option.bind_some, hmr]; rfl))
  refine codeAny_call_builtin SF.slot.plain SF.entry (@check_slot (model prog w) _ _ ⟨hh, g, dr, tk + 1, os⟩ "object.__setattr__" "object" "__setattr__" (.ref x) [.str name tk, v] [] _ SF.kind SF.split sub (SF.args (.ref x) (.str name tk) v) ?_)
  obtain ⟨attr, ha, hr⟩ := Option.bind_eq_some_iff.mp ht
  have hm : Looks (model prog w) hh (mroOf (.ref C)) cd.mro := (looks_clsIn X hc).andThen .now
  have L3 : Looks (model prog w) hh (storeTaker? attr) none := by
    cases attr with
    | none => exact .now
    | some a =>
      obtain ⟨b, hb, e⟩ := Option.map_eq_some_iff.mp hr
      refine (looks_takesIn X hb).andThen ?_
      cases b <;> first | exact .now | cases e
  rw [osa_eq, refuse_eq]
  refine wpAny_bind (wpAny_bind (I.type.at (wpAny_bind (hm.at ?_))))
  rw [hmr, excMro_passes]
  refine wpAny_pure (wpAny_bind (I.type.at (wpAny_bind ((looks_findIn X ha).at (wpAny_bind (L3.at ?_))))))
  have hx := (N _ (.head _)).1
  have N1 := N.push F emptyDict
  have F1 := F.push emptyDict
  obtain ⟨U1, U2⟩ := news_upd (pre := [(hh.objs.size, emptyDict)]) (post := news) (f := fun o => { o with dict := some hh.objs.size }) F1 N1 (fun p hp => by rcases List.mem_cons.mp hp with rfl | hp; exact Nat.ne_of_gt (Heap.lt_size hx); cases hp) hne rfl rfl
  obtain ⟨V1, V2⟩ := news_upd (pre := []) (post := (x, excO C t (some hh.objs.size)) :: news) (f := Obj.putName name (PyData.keyHash w.params name) (.str name (tk + 1)) v) U1 U2 (fun p hp => nomatch hp) (fun p hp => by
    rcases List.mem_cons.mp hp with rfl | hp
    · exact Nat.ne_of_lt (Heap.lt_size hx)
    · exact Nat.ne_of_lt (Heap.lt_size (N p (.tail _ hp)).1)) (putName_dict _ _ _ _ [] 0) rfl
  have D' := (V2 _ (.head _)).1
  refine wpAny_bind (wpAny_pure (wpAny_bind (wpAny_bind (wpAny_loadPart hx (wpAny_bind ((looks_clsIn X hc).at ?_))))))
  rw [hdi]
  dsimp only
  rw [if_neg (by decide), if_neg (by show ¬ (false = true); decide)]
  have hx1 := (N1 _ (.tail _ (.head _))).1
  have D0 := (U2 _ (.head _)).1
  refine wpAny_bind (wpAny_alloc (wpAny_bind (wpAny_update hx1 ?_)))
  refine wpAny_pure (a := some hh.objs.size) (wpAny_bind (wpAny_pure (wpAny_bind ?_)))
  unfold nsSet
  refine wpAny_bind (wpAny_bind (wpAny_askSetting (wpAny_pure (wpAny_bind (wpAny_mkText (wpAny_bind (wpAny_loadPart D0 ?_)))))))
  dsimp only
  have c : (!(#[] : Array DictEntry).any (·.key.isStr name) && (#[] : Array DictEntry).any (·.refKey)) = false := by simp
  rw [aRefKeyMayBeTheName_at, c]
  refine wpAny_updatePart D0 ?_
  refine wpAny_bind (wpAny_lookBehind D' (pastItsLine_dict (by (try dsimp only [putL]); rw [List.size_toArray, sizeLine_eq]; show 1 ≤ _; omega)) ?_)
  exact wpAny_pure (h _ _ _ V1 (fun p hp => V2 p (.tail _ hp)))
end

theorem raise_exc {M : Model} {A : Around} {E : Value → Shared → Prop} {s : Shared} {ex : Expr} {pos : Pos} {env : Env} {Q : Flow → Shared → Prop} (hh : A.handled = none)
    (h : wpAny M A (eval ex env) (fun v s₁ => ∃ x C t dd, v = .ref x ∧ s₁.heap.get? x = some (excO C t dd) ∧ ExcC M s₁.heap C ∧ E (.ref x) s₁) E s) :
    wpAny M A (exec (.Raise (some ex) none pos) env) Q E s := by
  rw [arm_exec_Raise]
  simp only [evalOpt, Option.map]
  refine wpAny_bind (wpAny_standAt ?_)
  unfold raiseStmt
  refine wpAny_bind (wpAny_bind (wpAny_mono h (fun v s₁ h₁ => wpAny_bind (wpAny_standAt (wpAny_pure ?_))) fun _ _ z => z))
  obtain ⟨x, C, t, dd, rfl, he, Y, hE⟩ := h₁
  obtain ⟨hp, g, d, tk, os⟩ := s₁
  obtain ⟨obj, made, base, self, exc, bex, att, nam, call, typ, own⟩ := Y
  dsimp only at he hE made base self exc bex att nam call typ own
  have L0 : Looks M hp (typeOf (.ref x)) (.ref C) := (Looks.ld he).andThen .now
  have L1 : Looks M hp (isInstance (.ref x) (.type "BaseException")) true := L0.andThen bex
  repeat (first | simp only [bne_self_eq_false, Bool.false_eq_true, if_false] | lk)
  refine wpAny_handled ?_
  rw [hh]
  exact wpAny_throw hE
section
variable {M : Model} {A : Around} {E : Value → Shared → Prop} {s' : Shared} {base g g₂ h : Heap} {outer : List Env} {L a e t C : Addr} {m : Str → Option Value} {name : Str} {scope : Scope} {cd : Value} {Q : Unit → Shared → Prop} {news : List (Addr × Obj)}
/-- a new exception leaves the frame that raised it -/
theorem leave_exc {ws : List Value} {dd : Option Addr} (K : Below A base outer g) (F : Fr g L s'.heap m) (N : News g L s'.heap ((e, excO C t dd) :: (t, excT ws) :: news))
    (hQ : ∀ h', RaisedS base g outer e (.ref C) t ws [] h' → g.UpToSlots h' → Q () { s' with heap := h' }) (hk : scope.kind = .function := by rfl) :
    wpAny M (A.deeper (envOf name scope L a cd)) (leaving (envOf name scope L a cd) (.ref e)) Q E s' := by
  have K' := K.push (name := name) (a := a) (cd := cd) F hk
  obtain ⟨he, -, ge⟩ := N _ (.head _)
  obtain ⟨ht, -, gt⟩ := N _ (.tail _ (.head _))
  dsimp only at he ge ht gt
  have hin : ∀ env ∈ (envOf name scope L a cd :: outer), ∀ b, env.frame = some b → b ∈ e :: t :: (envOf name scope L a cd :: outer).filterMap (·.frame) := fun env hv b hb => .tail _ (.tail _ (List.mem_filterMap.mpr ⟨env, hv, hb⟩))
  have ns : ∀ b o, g.get? b = some o → b ∉ outer.filterMap (·.frame) → b ∉ e :: t :: (envOf name scope L a cd :: outer).filterMap (·.frame) := fun b o q nm hm => by
    rcases List.mem_cons.mp hm with rfl | hm
    · rw [ge] at q; cases q
    · rcases List.mem_cons.mp hm with rfl | hm
      · rw [gt] at q; cases q
      · rcases kts_mem hm with z | z
        · rw [z, kts_self F] at q; cases q
        · exact nm z
  have sg : ∀ b o, g.get? b = some o → b ∉ outer.filterMap (·.frame) → (hideAll s'.heap (e :: t :: (envOf name scope L a cd :: outer).filterMap (·.frame))).get? b = some o := fun b o q nm => hideAll_get _ (F.keep b o q) (ns b o q nm)
  have st : base.StaysIn (hideAll s'.heap (e :: t :: (envOf name scope L a cd :: outer).filterMap (·.frame))) := fun b o q => sg b o (K.stays b o q) fun hm => by
    rw [(K.frames.mem hm).1] at q; cases q
  refine wpAny_leaving_firstW (a0 := .ref t) K'.stack (funFrames_hide K'.frames hin) rfl he (fun b o q => of_hideAll _ q) (hideAll_none _ (.head _)) rfl rfl rfl fun h' hL => ?_
  obtain ⟨k1, ⟨_, _, k2⟩, k3, k4⟩ := hL
  exact hQ h' ⟨⟨_, st, sg, fun q hq => (nomatch hq), ⟨k1, hideAll_none _ (.head _), k2, k3⟩, hideAll_none _ (.tail _ (.head _))⟩, Heap.TupAt.of_slots ⟨_, _, ht, rfl, rfl⟩ k4⟩ ((Heap.UpToSlots.of_keeps F.keep).trans k4)
end
end
-- X2
/-- a call of the def at f, on vs, raises an exception of the class at C -/
abbrev FnX (w : World) (p : Program) (loose : List Str) (mean : ExcName → Option Value) (mg mb : Str → Option Value) (D : Nat) (f : Addr) (vs : List Value) (news : List (Addr × Obj)) (C : Addr) : Prop :=
  ∀ (dp un : Nat) (gd : Option (List Code)) (cn : Str) (cs : Scope) (a : Addr) (ccd : Value) (cl : List (Str × Addr)) (outer : List Env) (A₀ : Around) (base h₀ : Heap) (L : Addr) (m : Str → Option Value) (s : Shared) (Q E : Value → Shared → Prop),
    Below A₀ base outer h₀ → Fr h₀ L s.heap m → (KK w.params).In h₀ → News h₀ L s.heap news → Top p loose mean mg mb h₀ → cs.kind = .function → dp + D < recursionLimit → un + 8 * D < cLine →
    (∀ e t ws g h' tk', Fr h₀ L g m → RaisedS base g (envX cn cs L a ccd cl :: outer) e (.ref C) t ws [] h' → g.UpToSlots h' → E (.ref e) { s with heap := h', toks := tk' }) →
    wpAny (model PySem.Challenge.pw_pf0196_01 w) (ktrTop dp un gd cn cs L a ccd cl outer) (call (.ref f) vs) Q E s
theorem FnX.use {w : World} {p : Program} {loose : List Str} {mean : ExcName → Option Value} {mg mb : Str → Option Value} {D : Nat} {f C : Addr} {vs : List Value} {news : List (Addr × Obj)}
    {dp un : Nat} {gd : Option (List Code)} {cn : Str} {cs : Scope} {a : Addr} {ccd : Value} {cl : List (Str × Addr)} {outer : List Env} {A₀ : Around} {base h₀ : Heap} {L : Addr} {m : Str → Option Value} {s : Shared} {Q E : Value → Shared → Prop}
    (Z : FnX w p loose mean mg mb D f vs news C) (B : Below A₀ base outer h₀) (F : Fr h₀ L s.heap m) (X : (KK w.params).In h₀) (N : News h₀ L s.heap news) (T : Top p loose mean mg mb h₀) (hk : cs.kind = .function) (hd : dp + D < recursionLimit) (hu : un + 8 * D < cLine)
    (h : ∀ e t ws g h' tk', Fr h₀ L g m → RaisedS base g (envX cn cs L a ccd cl :: outer) e (.ref C) t ws [] h' → g.UpToSlots h' → E (.ref e) { s with heap := h', toks := tk' }) :
    wpAny (model PySem.Challenge.pw_pf0196_01 w) (ktrTop dp un gd cn cs L a ccd cl outer) (call (.ref f) vs) Q E s :=
  Z _ _ _ _ _ _ _ _ _ _ _ _ _ _ _ _ _ B F X N T hk hd hu h
theorem tangent_raise (d : Addr) (x r C S : Rat) (q : Int) (news : List (Addr × Obj)) (hx : At w news d 9 x) (hq : (x / 90).num.fdiv (x / 90).den = q) (hqb : -10 ≤ q ∧ q ≤ 10) (hr : x - ((90 * q : Int) : Rat) = r) (hC : (r = 0 ∧ C = 1 ∧ S = 0) ∨ (r = 45 ∧ C = c45 ∧ S = c45)) (hq4 : q.fmod 4 = 0 ∨ q.fmod 4 = 1 ∨ q.fmod 4 = 2 ∨ q.fmod 4 = 3)
    (hc : rotC (q.fmod 4) C S = 0) :
    FnX w p loose mean mg mb 7 273 [.ref d] news 51 := by
  have zg1 := trivial
  have zg2 := trivial
  have zg3 := trivial
  have zg4 := trivial
  have zg13 := trivial
  have zg15 := trivial
  have zg30 := trivial
  have zg31 := trivial
  have zg32 := trivial
  have zg33 := trivial
  have zg36 := trivial
  have zg74 := trivial
  intro dp un gd cn cs ad ccd cl outer A₀ base h₀ L m s Q E B F X N T hk hd hu hret
  have hcn : (rotC (q.fmod 4) C S).num = 0 := by rw [hc]; rfl
  generalize eCC : rotC (q.fmod 4) C S = CC at hc hcn
  generalize eSS : rotS (q.fmod 4) C S = SS
  k_with "call ref" => (guard_hyp zg74 : True); (k_here; k_dflt ((with_reducible show wpAny _ _ (call (Value.ref 265) [Value.ref _, Value.int _ _]) _ _ _); (k_dflt (refine' Fn.use (turn_spec _ _ _ _ _ _ _ _ hx hq hqb hr hC hq4) ?B ?F ?X ?N ?T ?hk ?hd ?hu ?_)); (case N => k_asm); k_extra "my_side"; (rw [eCC, eSS]); intro v' n' h' tk' F' N' O'; obtain ⟨D', e1', e2', e3', e4', eq1', eq2', l1', l2', l3', l4', hP'⟩ := O'; subst eq1'; subst eq2'; obtain ⟨ra', rb', c', hm', hA', hB'⟩ := hP'; (try k_sweep); (try dsimp only)))
  k_with "call ref" => (guard_hyp zg74 : True); (k_here; k_dflt ((with_reducible show wpAny _ _ (call (Value.ref 122) [Value.ref _, Value.ref _]) _ _ _)); exfalso; omega)
  k_with "exec Raise some none" => (guard_hyp zg74 : True); (refine raise_exc rfl ?_)
  k_with "call ref" => (guard_hyp zg74 : True); (k_here; (with_reducible show wpAny _ _ (call (Value.ref 51) [Value.str _ _]) _ _ _); refine' call_exc (K := KK w.params) (fI := 35) ?k1 ?k2 ?k3 (exc_here w) ?k4 ?k5 ?k6 ?_; (case k1 => k_asm); (case k2 => k_asm); (case k3 => k_asm); (case k4 => kernel_rfl); (case k5 => kernel_rfl); (case k6 => exact Nat.le_of_ble_eq_true rfl); k_whole; intro x' d' h' F' N' l1 l3 l2; k_extra "my_enter")
  k_with "setAttr ref" => (guard_hyp zg74 : True); (k_here; (refine' set_exc (K := KK w.params) (C := 51) (D := 38) ?k1 ?k2 ?k3 ?k4 (exc_set w) (exc_mro w) (exc_taker w) ?_); (case k1 => k_asm); (case k2 => k_asm); (case k3 => k_asm); (case k4 => exact List.forall_mem_cons.mpr ⟨Nat.ne_of_lt (by with_reducible assumption), ne_all_lt (by with_reducible assumption)⟩); k_whole; intro d' h' tk' F' N'; (try k_sweep); (try dsimp only))
  refine wpAny_call ?_
  k_extra "my_enter"
  k_steps
  rotate_right 3
  all_goals (try (rename News _ _ _ _ => nE))
  all_goals (try (rename Fr _ _ _ _ => lF'))
  rotate_left 3
  · exact (nE _ (List.Mem.head _)).1
  · refine excC_of (K := KK w.params) (Frag.In.keeps ?_ (Fr.keep lF')) (exc_here w)
    with_reducible assumption
  · refine leave_exc (by with_reducible assumption) lF' nE ?_
    intro hX RX UX
    exact hret _ _ _ _ _ _ (by with_reducible assumption) RX UX
-- X3
/-- the tangent of x degrees is tn -/
structure TanIs (x tn : Rat) : Prop where
  out : ∃ r C S q, (x / 90).num.fdiv (x / 90).den = q ∧ (-10 ≤ q ∧ q ≤ 10) ∧ x - ((90 * q : Int) : Rat) = r ∧ ((r = 0 ∧ C = 1 ∧ S = 0) ∨ (r = 45 ∧ C = c45 ∧ S = c45)) ∧ (q.fmod 4 = 0 ∨ q.fmod 4 = 1 ∨ q.fmod 4 = 2 ∨ q.fmod 4 = 3) ∧
    rotC (q.fmod 4) C S ≠ 0 ∧ rotS (q.fmod 4) C S / rotC (q.fmod 4) C S = tn ∧ Rat.divInt (nearF (tn * 65536)) 65536 = tn ∧ Bi 90 (nearF (tn * 65536))
/-- x degrees have no tangent -/
structure TanNo (x : Rat) : Prop where
  out : ∃ r C S q, (x / 90).num.fdiv (x / 90).den = q ∧ (-10 ≤ q ∧ q ≤ 10) ∧ x - ((90 * q : Int) : Rat) = r ∧ ((r = 0 ∧ C = 1 ∧ S = 0) ∨ (r = 45 ∧ C = c45 ∧ S = c45)) ∧ (q.fmod 4 = 0 ∨ q.fmod 4 = 1 ∨ q.fmod 4 = 2 ∨ q.fmod 4 = 3) ∧ rotC (q.fmod 4) C S = 0
theorem tan_0 : TanIs 0 0 := ⟨0, 1, 0, 0, by decide +kernel, by decide, by decide +kernel, .inl ⟨rfl, rfl, rfl⟩, by decide, by decide +kernel, by decide +kernel, by decide +kernel, Bi.of (by decide +kernel)⟩
theorem tan_45 : TanIs 45 1 := ⟨45, c45, c45, 0, by decide +kernel, by decide, by decide +kernel, .inr ⟨rfl, rfl, rfl⟩, by decide, by decide +kernel, by decide +kernel, by decide +kernel, Bi.of (by decide +kernel)⟩
theorem tan_m45 : TanIs (-45) (-1) := ⟨45, c45, c45, -1, by decide +kernel, by decide, by decide +kernel, .inr ⟨rfl, rfl, rfl⟩, by decide, by decide +kernel, by decide +kernel, by decide +kernel, Bi.of (by decide +kernel)⟩
theorem tan_135 : TanIs 135 (-1) := ⟨45, c45, c45, 1, by decide +kernel, by decide, by decide +kernel, .inr ⟨rfl, rfl, rfl⟩, by decide, by decide +kernel, by decide +kernel, by decide +kernel, Bi.of (by decide +kernel)⟩
theorem tan_180 : TanIs 180 0 := ⟨0, 1, 0, 2, by decide +kernel, by decide, by decide +kernel, .inl ⟨rfl, rfl, rfl⟩, by decide, by decide +kernel, by decide +kernel, by decide +kernel, Bi.of (by decide +kernel)⟩
theorem tan_225 : TanIs 225 1 := ⟨45, c45, c45, 2, by decide +kernel, by decide, by decide +kernel, .inr ⟨rfl, rfl, rfl⟩, by decide, by decide +kernel, by decide +kernel, by decide +kernel, Bi.of (by decide +kernel)⟩
theorem tan_90 : TanNo 90 := ⟨0, 1, 0, 1, by decide +kernel, by decide, by decide +kernel, .inl ⟨rfl, rfl, rfl⟩, by decide, by decide +kernel⟩
theorem tan_m90 : TanNo (-90) := ⟨0, 1, 0, -1, by decide +kernel, by decide, by decide +kernel, .inl ⟨rfl, rfl, rfl⟩, by decide, by decide +kernel⟩
theorem tan_270 : TanNo 270 := ⟨0, 1, 0, 3, by decide +kernel, by decide, by decide +kernel, .inl ⟨rfl, rfl, rfl⟩, by decide, by decide +kernel⟩
theorem tan_call {d : Addr} {x tn : Rat} {news : List (Addr × Obj)} (hx : At w news d 9 x) (ht : TanIs x tn) : Fn w p loose mean mg mb 7 273 [.ref d] news (FrOut news 90 tn) := by
  obtain ⟨r, C, S, q, h1, h2, h3, h4, h5, h6, h7, h8, h9⟩ := ht
  exact tangent_spec d x r C S tn q news hx h1 h2 h3 h4 h5 h6 h7 h8 h9
theorem tan_stop {d : Addr} {x : Rat} {news : List (Addr × Obj)} (hx : At w news d 9 x) (ht : TanNo x) : FnX w p loose mean mg mb 7 273 [.ref d] news 51 := by
  obtain ⟨r, C, S, q, h1, h2, h3, h4, h5, h6⟩ := ht
  exact tangent_raise d x r C S q news hx h1 h2 h3 h4 h5 h6
/-- a new matrix of a slant: four entries ahead of the ledger -/
abbrev MxOut4 (w : World) (news : List (Addr × Obj)) (n : Nat) (b c : Rat) (v : Value) (news' : List (Addr × Obj)) : Prop :=
  ∃ x p1 p2 p3 p4 b' c', v = .ref x ∧ b' = b ∧ c' = c ∧ news' = p1 :: p2 :: p3 :: p4 :: news ∧ (∀ p ∈ news, p.1 < p1.1) ∧ (∀ p ∈ news, p.1 < p2.1) ∧ (∀ p ∈ news, p.1 < p3.1) ∧ (∀ p ∈ news, p.1 < p4.1) ∧ MxAt w news' x n 1 b' c' 1 0 0
theorem skew_spec (dx dy : Addr) (x y tx ty : Rat) (news : List (Addr × Obj)) (hx : At w news dx 9 x) (hy : At w news dy 9 y) (Tx : TanIs x tx) (Ty : TanIs y ty) :
    Fn w p loose mean mg mb 8 343 [.ref dx, .ref dy] news (MxOut4 w news 90 ty tx) := by
  have zg1 := trivial
  have zg2 := trivial
  have zg3 := trivial
  have zg4 := trivial
  have zg13 := trivial
  have zg31 := trivial
  have zg40 := trivial
  have zg75 := trivial
  intro dp un gd cn cs ad ccd cl outer A₀ base h₀ L m s Q E B F X N T hk hd hu hret
  k_with "call ref" => (guard_hyp zg75 : True); (k_here; k_dflt ((with_reducible show wpAny _ _ (call (Value.ref 273) [Value.ref _]) _ _ _); (k_dflt (refine' Fn.useFr news (tan_call ?hx ?ht) ?hsb ?B ?F ?X ?N ?T ?hk ?hd ?hu ?_)); (case N => k_asm); (case hx => k_extra "my_at"); (case ht => with_reducible assumption); (case hsb => k_extra "my_sub"); k_extra "my_side"; intro D' t1' t2' c' y' h' tk' ey' F' N' lD' bD'; (try k_sweep); (try dsimp only)))
  refine wpAny_call ?_
  k_extra "my_enter"
  k_steps
  all_goals (rename News _ _ _ _ => nE)
  all_goals (refine hret _ _ _ _ (by k_asm) (nw4 nE (by k_extra "my_mem") (by k_extra "my_mem") (by k_extra "my_mem") (by k_extra "my_mem") (by k_extra "my_sub")) ⟨_, _, _, _, _, _, _, rfl, by with_reducible assumption, by with_reducible assumption, rfl, by k_extra "my_lt", by k_extra "my_lt", by k_extra "my_lt", by k_extra "my_lt", MxAt.of (List.Mem.head _) (List.Mem.tail _ (List.Mem.head _)) ((at_one _).up (by decide)) (At.here (List.Mem.tail _ (List.Mem.tail _ (List.Mem.head _))) (by with_reducible assumption)) (At.here (List.Mem.tail _ (List.Mem.tail _ (List.Mem.tail _ (List.Mem.head _)))) (by with_reducible assumption)) ((at_one _).up (by decide)) ((at_zero _).up (by decide)) ((at_zero _).up (by decide))⟩)
-- X4
theorem skew_raise (dx dy : Addr) (x y ty : Rat) (news : List (Addr × Obj)) (hx : At w news dx 9 x) (hy : At w news dy 9 y) (Tx : TanNo x) (Ty : TanIs y ty) :
    FnX w p loose mean mg mb 8 343 [.ref dx, .ref dy] news 51 := by
  have zg1 := trivial
  have zg2 := trivial
  have zg3 := trivial
  have zg4 := trivial
  have zg13 := trivial
  have zg31 := trivial
  have zg40 := trivial
  have zg76 := trivial
  intro dp un gd cn cs ad ccd cl outer A₀ base h₀ L m s Q E B F X N T hk hd hu hret
  k_with "call ref" => (guard_hyp zg76 : True); (k_here; k_dflt ((with_reducible show wpAny _ _ (call (Value.ref 273) [Value.ref dy]) _ _ _); (k_dflt (refine' Fn.useFr news (tan_call hy Ty) ?hsb ?B ?F ?X ?N ?T ?hk ?hd ?hu ?_)); (case N => k_asm); (case hsb => k_extra "my_sub"); k_extra "my_side"; intro D' t1' t2' c' y' h' tk' ey' F' N' lD' bD'; (try k_sweep); (try dsimp only)))
  k_with "call ref" => (guard_hyp zg76 : True); (k_here; k_dflt ((with_reducible show wpAny _ _ (call (Value.ref 273) [Value.ref dx]) _ _ _); (k_dflt (refine' FnX.use (tan_stop (hx.sub ?hsx) Tx) ?B ?F ?X ?N ?T ?hk ?hd ?hu ?_)); (case N => k_asm); (case hsx => k_extra "my_sub"); k_extra "my_side"; intro e' t' ws' g' h' tk' FG' RX' UX'; (try k_sweep)))
  refine wpAny_call ?_
  k_extra "my_enter"
  k_steps
  refine leave_onS (by with_reducible assumption) (by with_reducible assumption) RX' UX' ?_
  intro hX RY RK UY
  exact hret _ _ _ _ _ _ (by with_reducible assumption) RY UY
-- N4
def subC (l : List Nat) : List Nat := l.map fun c => if c = 44 then 32 else c
theorem subC_app (a b : List Nat) : subC (a ++ b) = subC a ++ subC b := List.map_append
theorem subC_free : ∀ l : List Nat, 44 ∉ l → subC l = l
  | [], _ => rfl
  | k :: r, h => by
    have h1 : ¬ k = 44 := fun e => h (e ▸ List.mem_cons_self ..)
    show (if k = 44 then 32 else k) :: subC r = k :: r
    rw [if_neg h1, subC_free r fun m => h (List.mem_cons_of_mem _ m)]
theorem subC_join : ∀ parts : List Str, (∀ p ∈ parts, 44 ∉ p.cps.toList) → subC (Str.join ⟨#[44]⟩ parts).cps.toList = (Str.join ⟨#[32]⟩ parts).cps.toList
  | [], _ => rfl
  | [p], h => subC_free _ (h p (List.mem_singleton.mpr rfl))
  | p :: q :: r, h => by
    have ih := subC_join (q :: r) fun a ha => h a (List.mem_cons_of_mem _ ha)
    show subC (p ++ ⟨#[44]⟩ ++ Str.join ⟨#[44]⟩ (q :: r)).cps.toList = (p ++ ⟨#[32]⟩ ++ Str.join ⟨#[32]⟩ (q :: r)).cps.toList
    simp only [str_app]
    rw [subC_app, subC_app, ih, subC_free _ (h p (List.mem_cons_self ..))]
    rfl
theorem cm_mk : Str.ofString "," = ⟨#[44]⟩ := by decide +kernel
theorem sp_mk : Str.ofString " " = ⟨#[32]⟩ := by decide +kernel
theorem cs_list : (Str.ofString ", ").cps.toList = [44, 32] := by decide +kernel
theorem rep_cps (x : Str) : (Txt.replace x (Str.ofString ",") (Str.ofString " ")).cps.toList = subC x.cps.toList := by
  rw [cm_mk, sp_mk, StrLaws.replace_one, ← subC_join _ (StrLaws.split_free x 44), StrLaws.join_split]
theorem len_cps (s : Str) : s.length = s.cps.toList.length := by simp [PySem.Str.length]
/-- what a text leaves of the scan -/
theorem scan_go {b x : Str} {ws : List Str} {r : Str} (h : KWd.scan b = (ws, r)) (hx : ∀ c ∈ x.cps.toList, 33 ≤ c ∧ c ≤ 126 ∧ c ≠ 44) : KWd.scan (b ++ x) = (ws, r ++ x) :=
  KWk.scan_plain h (List.all_eq_true.mpr fun c hc => by rw [KWk.nosp (hx c hc).1 (hx c hc).2.1]; rfl)
theorem scan_gap {b : Str} {ws : List Str} {r : Str} {n : Nat} (h : KWd.scan b = (ws, r)) (hr : r.length ≠ 0) (hn : n = 1 ∨ n = 2) : KWd.scan (b ++ ⟨(List.replicate n 32).toArray⟩) = (ws ++ [r], Str.empty) := by
  rcases hn with rfl | rfl
  · exact KWd.scan_blank h (by decide +kernel) hr
  · have e : b ++ ⟨(List.replicate 2 32).toArray⟩ = b ++ ⟨#[32]⟩ ++ ⟨#[32]⟩ := PySem.Str.ext' (Array.toList_inj.mp (by simp only [str_app]; simp))
    rw [e]
    exact KWd.scan_blank0 (KWd.scan_blank h (by decide +kernel) hr) (by decide +kernel) rfl
theorem join_words {w1 w2 w3 w4 sep : Str} {q1 q2 q3 q4 : Rat} (hs : sep = Str.ofString " " ∨ sep = Str.ofString ", " ∨ sep = Str.ofString ",") (h1 : NumText w1 q1) (h2 : NumText w2 q2) (h3 : NumText w3 q3) (h4 : NumText w4 q4) :
    (Str.join sep [w1, w2, w3, w4]).length ≤ 1000 ∧ (Txt.replace (Str.join sep [w1, w2, w3, w4]) (Str.ofString ",") (Str.ofString " ")).length ≤ 1000 ∧
      Txt.words (Txt.replace (Str.join sep [w1, w2, w3, w4]) (Str.ofString ",") (Str.ofString " ")) = [w1, w2, w3, w4] := by
  have l1 := h1.len
  have l2 := h2.len
  have l3 := h3.len
  have l4 := h4.len
  obtain ⟨n1, c1⟩ := h1.cs
  obtain ⟨n2, c2⟩ := h2.cs
  obtain ⟨n3, c3⟩ := h3.cs
  obtain ⟨n4, c4⟩ := h4.cs
  have fr : ∀ {x : Str}, (∀ c ∈ x.cps.toList, 33 ≤ c ∧ c ≤ 126 ∧ c ≠ 44) → subC x.cps.toList = x.cps.toList := fun h => subC_free _ fun m => (h _ m).2.2 rfl
  have hj : (Str.join sep [w1, w2, w3, w4]).cps.toList = w1.cps.toList ++ sep.cps.toList ++ (w2.cps.toList ++ sep.cps.toList ++ (w3.cps.toList ++ sep.cps.toList ++ w4.cps.toList)) := by
    show (w1 ++ sep ++ (w2 ++ sep ++ (w3 ++ sep ++ w4))).cps.toList = _
    simp only [str_app]
  obtain ⟨n, hn, hsl, hsub⟩ : ∃ n, (n = 1 ∨ n = 2) ∧ sep.cps.toList.length ≤ 2 ∧ subC sep.cps.toList = List.replicate n 32 := by
    rcases hs with rfl | rfl | rfl
    · exact ⟨1, .inl rfl, by rw [sp_mk]; decide, by rw [sp_mk]; rfl⟩
    · exact ⟨2, .inr rfl, by rw [cs_list]; decide, by rw [cs_list]; rfl⟩
    · exact ⟨1, .inl rfl, by rw [cm_mk]; decide, by rw [cm_mk]; rfl⟩
  rw [len_cps] at l1 l2 l3 l4
  have hlen : (Str.join sep [w1, w2, w3, w4]).cps.toList.length ≤ 1000 := by
    rw [hj]
    simp only [List.length_append]
    omega
  refine ⟨by rw [len_cps]; exact hlen, by rw [len_cps, rep_cps]; unfold subC; rw [List.length_map]; exact hlen, ?_⟩
  have e : Txt.replace (Str.join sep [w1, w2, w3, w4]) (Str.ofString ",") (Str.ofString " ") =
      Str.empty ++ w1 ++ ⟨(List.replicate n 32).toArray⟩ ++ w2 ++ ⟨(List.replicate n 32).toArray⟩ ++ w3 ++ ⟨(List.replicate n 32).toArray⟩ ++ w4 := by
    refine PySem.Str.ext' (Array.toList_inj.mp ?_)
    rw [rep_cps, hj]
    simp only [subC_app, fr c1, fr c2, fr c3, fr c4, hsub, str_app, List.append_assoc]
    rfl
  rw [e]
  have s0 : KWd.scan Str.empty = ([], Str.empty) := KWd.scan_empty
  have z : ∀ x : Str, Str.empty ++ x = x := PySem.Str.empty_append
  have s1 := scan_gap (scan_go s0 c1) (by rw [z]; exact n1) hn
  have s2 := scan_gap (scan_go s1 c2) (by rw [z]; exact n2) hn
  have s3 := scan_gap (scan_go s2 c3) (by rw [z]; exact n3) hn
  have s4 := scan_go s3 c4
  rw [KWd.words_of s4]
  simp only [z]
  rw [if_neg n4]
  rfl
-- X5
abbrev frD (x : Rat) : PyData := .tuple [.int x.num, .int (x.den : Int)]
abbrev ptD (x y : Rat) : PyData := .tuple [frD x, frD y]
abbrev bxD (x y u v : Rat) : PyData := .tuple [frD x, frD y, frD u, frD v]
section
variable {w : World} {h₀ h : Heap} {L a : Addr} {m : Str → Option Value} {news : List (Addr × Obj)} {n : Nat} {x y u v : Rat}
theorem At.reads (I : At w news a n x) (F : Fr h₀ L h m) (N : News h₀ L h news) (X : (KK w.params).In h₀) : Reads h (.ref a) (frD x) [] := by
  obtain ⟨t1, t2, o, ho, hc, c, hd⟩ := I.tup F N X
  exact reads_tuple_at ho hc hd (ReadsAll.cons (Reads.int _ _) (ReadsAll.cons (Reads.int _ _) ReadsAll.nil))
theorem PtAt.reads (I : PtAt w news a n x y) (F : Fr h₀ L h m) (N : News h₀ L h news) (X : (KK w.params).In h₀) : Reads h (.ref a) (ptD x y) [] := by
  obtain ⟨b, c, k, h1, hb, hc⟩ := I
  exact reads_tuple_at (N _ h1).1 rfl rfl (ReadsAll.cons (hb.reads F N X) (ReadsAll.cons (hc.reads F N X) ReadsAll.nil))
theorem BoxAt.reads (I : BoxAt w news a n x y u v) (F : Fr h₀ L h m) (N : News h₀ L h news) (X : (KK w.params).In h₀) : Reads h (.ref a) (bxD x y u v) [] := by
  obtain ⟨b, c, d, e, k, h1, hb, hc, hd, he⟩ := I
  exact reads_tuple_at (N _ h1).1 rfl rfl (ReadsAll.cons (hb.reads F N X) (ReadsAll.cons (hc.reads F N X) (ReadsAll.cons (hd.reads F N X) (ReadsAll.cons (he.reads F N X) ReadsAll.nil))))
end
theorem ptD_ok (x y : Rat) : SeqAt.shaped (ptD x y) = true := rfl
theorem bxD_ok (x y u v : Rat) : SeqAt.shaped (bxD x y u v) = true := rfl
theorem ptD_eq (x y : Rat) : PyData.eqv (ptD x y) (ptD x y) = true := by simp [PyData.eqv, PyData.eqvAll]
theorem bxD_eq (x y u v : Rat) : PyData.eqv (bxD x y u v) (bxD x y u v) = true := by simp [PyData.eqv, PyData.eqvAll]
section
variable {prog : Program} {w : World} {A : Around} {E : Value → Shared → Prop} {s : Shared} {h₀ : Heap} {L a b : Addr} {m : Str → Option Value} {news : List (Addr × Obj)} {i j : Nat} {x y u v x' y' u' v' : Rat} {Q : Value → Shared → Prop}
theorem pts_ne (I : PtAt w news a i x y) (J : PtAt w news b j x' y') (F : Fr h₀ L s.heap m) (N : News h₀ L s.heap news) (X : (KK w.params).In h₀) (ex : x = x') (ey : y = y') (hu : A.units + 64 < cLine) (h : Q (.bool false) s) :
    wpAny (model prog w) A (compareOp .NotEq (.ref a) (.ref b)) Q E s := by
  subst ex ey
  exact ne_dataH (I.reads F N X) (J.reads F N X) (ptD_ok _ _) (ptD_ok _ _) hu (by rw [ptD_eq]; exact h)
theorem bxs_ne (I : BoxAt w news a i x y u v) (J : BoxAt w news b j x' y' u' v') (F : Fr h₀ L s.heap m) (N : News h₀ L s.heap news) (X : (KK w.params).In h₀) (ex : x = x') (ey : y = y') (eu : u = u') (ev : v = v') (hu : A.units + 64 < cLine) (h : Q (.bool false) s) :
    wpAny (model prog w) A (compareOp .NotEq (.ref a) (.ref b)) Q E s := by
  subst ex ey eu ev
  exact ne_dataH (I.reads F N X) (J.reads F N X) (bxD_ok _ _ _ _) (bxD_ok _ _ _ _) hu (by rw [bxD_eq]; exact h)
theorem bxs_eq (I : BoxAt w news a i x y u v) (J : BoxAt w news b j x' y' u' v') (F : Fr h₀ L s.heap m) (N : News h₀ L s.heap news) (X : (KK w.params).In h₀) (ex : x = x') (ey : y = y') (eu : u = u') (ev : v = v') (hu : A.units + 64 < cLine) (h : Q (.bool true) s) :
    wpAny (model prog w) A (compareOp .Eq (.ref a) (.ref b)) Q E s := by
  subst ex ey eu ev
  exact eq_dataH (I.reads F N X) (J.reads F N X) (bxD_ok _ _ _ _) (bxD_ok _ _ _ _) hu (by rw [bxD_eq]; exact h)
end
-- X6
/-- an entry that is not the source stands beside it -/
theorem mem_off {w1 q : Addr × Obj} {P rest : List (Addr × Obj)} (h : q ∈ P ++ w1 :: rest) (hn : q ≠ w1) : q ∈ P ++ rest := by
  rcases List.mem_append.mp h with h | h
  · exact List.mem_append_left _ h
  · rcases List.mem_cons.mp h with h | h
    · exact absurd h hn
    · exact List.mem_append_right _ h
section
variable {w : World} {src a b : Addr} {s0 s1 : Int} {t0 t1 : Tok} {P rest : List (Addr × Obj)} {n : Nat} {x y u v : Rat} {o : Obj}
theorem src_ne (h : o.cls ≠ .type "list") : (a, o) ≠ (src, srcO s0 s1 t0 t1) := fun e => h (by rw [show o = srcO s0 s1 t0 t1 from (Prod.mk.inj e).2])
theorem tl_ne : Value.type "tuple" ≠ Value.type "list" := by decide
theorem dl_ne : Value.type "dict" ≠ Value.type "list" := by decide
theorem At.off (h : At w (P ++ (src, srcO s0 s1 t0 t1) :: rest) a n x) : At w (P ++ rest) a n x := by
  obtain ⟨hb, t1, t2, c, h | h⟩ := h
  · exact ⟨hb, t1, t2, c, .inl (mem_off h (src_ne tl_ne))⟩
  · exact ⟨hb, t1, t2, c, .inr h⟩
theorem PtAt.off (h : PtAt w (P ++ (src, srcO s0 s1 t0 t1) :: rest) a n x y) : PtAt w (P ++ rest) a n x y := by
  obtain ⟨p, q, c, h1, h2, h3⟩ := h
  exact ⟨p, q, c, mem_off h1 (src_ne tl_ne), h2.off, h3.off⟩
theorem BoxAt.off (h : BoxAt w (P ++ (src, srcO s0 s1 t0 t1) :: rest) a n x y u v) : BoxAt w (P ++ rest) a n x y u v := by
  obtain ⟨p, q, r, k, c, h1, h2, h3, h4, h5⟩ := h
  exact ⟨p, q, r, k, c, mem_off h1 (src_ne tl_ne), h2.off, h3.off, h4.off, h5.off⟩
theorem ScAt.off (h : ScAt w (P ++ (src, srcO s0 s1 t0 t1) :: rest) a n x y u v) : ScAt w (P ++ rest) a n x y u v := by
  obtain ⟨p, q, g, c, gl, gr, c', h1, h2, h3, h4, h5, h6⟩ := h
  exact ⟨p, q, g, c, gl, gr, c', mem_off h1 (src_ne tl_ne), mem_off h2 (src_ne tl_ne), h3.off, h4.off, h5.off, h6.off⟩
theorem MxAt.off {c d e f : Rat} (h : MxAt w (P ++ (src, srcO s0 s1 t0 t1) :: rest) a n x y c d e f) : MxAt w (P ++ rest) a n x y c d e f := by
  obtain ⟨dx, t1, t2, t3, t4, t5, t6, ra, rb, rc, rd, re, rf, h1, h2, ha, hb, hc, hd', he, hf⟩ := h
  exact ⟨dx, t1, t2, t3, t4, t5, t6, ra, rb, rc, rd, re, rf, mem_off h1 (src_ne (fun e => nomatch e)), mem_off h2 (src_ne dl_ne), ha.off, hb.off, hc.off, hd'.off, he.off, hf.off⟩
end
/-- what a call adds beside the source, told of the rest -/
abbrev OutS (src : Addr) (so : Obj) (rest : List (Addr × Obj)) (P : Addr → List (Addr × Obj) → Prop) (v : Value) (news' : List (Addr × Obj)) : Prop :=
  ∃ D new, v = .ref D ∧ news' = new ++ (src, so) :: rest ∧ (∀ p ∈ new, p.1 ≠ src) ∧ P D (new ++ rest)
section
variable {w : World} {src : Addr} {a b : Int} {t u : Tok} {rest : List (Addr × Obj)} {n : Nat} {v : Value} {news' : List (Addr × Obj)}
theorem lt_src {d : Addr} {so : Obj} (h : ∀ p ∈ (src, so) :: rest, p.1 < d) : d ≠ src := Nat.ne_of_gt (h _ (.head _))
theorem fr_S {x : Rat} (h : FrOut ((src, srcO a b t u) :: rest) n x v news') : OutS src (srcO a b t u) rest (fun D nw => At w nw D n x) v news' := by
  obtain ⟨D, t1, t2, c, y, rfl, rfl, rfl, l, b⟩ := h
  exact ⟨D, [_], rfl, rfl, List.forall_mem_cons.mpr ⟨lt_src l, fun p h => (nomatch h)⟩, At.here (.head _) b⟩
theorem mx6_S {x1 x2 x3 x4 x5 x6 : Rat} (h : MxOut6 w ((src, srcO a b t u) :: rest) n x1 x2 x3 x4 x5 x6 v news') : OutS src (srcO a b t u) rest (fun D nw => MxAt w nw D n x1 x2 x3 x4 x5 x6) v news' := by
  obtain ⟨D, p1, p2, p3, p4, p5, p6, _, _, _, _, rfl, rfl, rfl, rfl, rfl, rfl, l1, l2, l3, l4, l5, l6, hM⟩ := h
  refine ⟨D, [p1, p2, p3, p4, p5, p6], rfl, rfl, ?_, MxAt.off (P := [p1, p2, p3, p4, p5, p6]) hM⟩
  simp only [List.mem_cons, List.not_mem_nil, or_false, forall_eq_or_imp, forall_eq]
  exact ⟨lt_src l1, lt_src l2, lt_src l3, lt_src l4, lt_src l5, lt_src l6⟩
theorem mx4_S {x2 x3 : Rat} (h : MxOut4 w ((src, srcO a b t u) :: rest) n x2 x3 v news') : OutS src (srcO a b t u) rest (fun D nw => MxAt w nw D n 1 x2 x3 1 0 0) v news' := by
  obtain ⟨D, p1, p2, p3, p4, _, _, rfl, rfl, rfl, rfl, l1, l2, l3, l4, hM⟩ := h
  refine ⟨D, [p1, p2, p3, p4], rfl, rfl, ?_, MxAt.off (P := [p1, p2, p3, p4]) hM⟩
  simp only [List.mem_cons, List.not_mem_nil, or_false, forall_eq_or_imp, forall_eq]
  exact ⟨lt_src l1, lt_src l2, lt_src l3, lt_src l4⟩
theorem sc_S {x1 x2 x3 x4 : Rat} (h : ScOut w ((src, srcO a b t u) :: rest) n x1 x2 x3 x4 v news') : OutS src (srcO a b t u) rest (fun D nw => ScAt w nw D n x1 x2 x3 x4) v news' := by
  obtain ⟨D, p1, p2, p3, p4, p5, p6, rfl, rfl, l1, l2, l3, l4, l5, l6, hM⟩ := h
  refine ⟨D, [p1, p2, p3, p4, p5, p6], rfl, rfl, ?_, ScAt.off (P := [p1, p2, p3, p4, p5, p6]) hM⟩
  simp only [List.mem_cons, List.not_mem_nil, or_false, forall_eq_or_imp, forall_eq]
  exact ⟨lt_src l1, lt_src l2, lt_src l3, lt_src l4, lt_src l5, lt_src l6⟩
theorem bx_S {x1 x2 x3 x4 : Rat} (h : BoxOut ((src, srcO a b t u) :: rest) n x1 x2 x3 x4 v news') : OutS src (srcO a b t u) rest (fun D nw => BoxAt w nw D n x1 x2 x3 x4) v news' := by
  obtain ⟨D, d1, d2, d3, d4, c, s1, t1, c1, y1, s2, t2, c2, y2, s3, t3, c3, y3, s4, t4, c4, y4, rfl, rfl, l1, l2, l3, l4, l5, rfl, rfl, rfl, rfl, b1, b2, b3, b4⟩ := h
  refine ⟨D, [_, _, _, _, _], rfl, rfl, ?_, BoxAt.of (List.Mem.head _) (At.here (.tail _ (.tail _ (.tail _ (.tail _ (.head _))))) b1) (At.here (.tail _ (.tail _ (.tail _ (.head _)))) b2) (At.here (.tail _ (.tail _ (.head _))) b3) (At.here (.tail _ (.head _)) b4)⟩
  have h1 := lt_src l1
  have h0 : src < d1 := l1 _ (.head _)
  simp only [List.mem_cons, List.not_mem_nil, or_false, forall_eq_or_imp, forall_eq]
  have e2 : src < d2 := Nat.lt_trans h0 l2
  have e3 : src < d3 := Nat.lt_trans e2 l3
  have e4 : src < d4 := Nat.lt_trans e3 l4
  have e5 : src < D := Nat.lt_trans e4 l5
  exact ⟨Nat.ne_of_gt e5, Nat.ne_of_gt e4, Nat.ne_of_gt e3, Nat.ne_of_gt e2, Nat.ne_of_gt h0⟩
theorem mv_S {x1 x2 x3 x4 : Rat} (h : MvOut w ((src, srcO a b t u) :: rest) n x1 x2 x3 x4 v news') : OutS src (srcO a b t u) rest (fun D nw => BoxAt w nw D n x1 x2 x3 x4) v news' := by
  obtain ⟨D, p1, p2, p3, _, _, rfl, rfl, rfl, rfl, l1, l2, l3, hM⟩ := h
  refine ⟨D, [p1, p2, p3], rfl, rfl, ?_, BoxAt.off (P := [p1, p2, p3]) hM⟩
  simp only [List.mem_cons, List.not_mem_nil, or_false, forall_eq_or_imp, forall_eq]
  exact ⟨lt_src l1, lt_src l2, lt_src l3⟩
theorem pt_S {x y : Rat} (h : PtOut ((src, srcO a b t u) :: rest) n x y v news') : OutS src (srcO a b t u) rest (fun D nw => PtAt w nw D n x y) v news' := by
  obtain ⟨D, d1, d2, c, s1, s2, c1, s3, s4, c2, _, _, rfl, rfl, rfl, rfl, l1, l2, l3, b1, b2⟩ := h
  refine ⟨D, [_, _, _], rfl, rfl, ?_, PtAt.of (List.Mem.head _) (At.here (.tail _ (.tail _ (.head _))) b1) (At.here (.tail _ (.head _)) b2)⟩
  simp only [List.mem_cons, List.not_mem_nil, or_false, forall_eq_or_imp, forall_eq]
  exact ⟨lt_src l3, lt_src l2, lt_src l1⟩
end
/-- a number of the law, and its text -/
structure NmAt (w : World) (news : List (Addr × Obj)) (D : Addr) (tx : Str) (y : Rat) : Prop where
  out : ∃ df k t, (D, pairO df tx t k) ∈ news ∧ At w news df 10 y ∧ NumText tx y
theorem NmAt.sub {w : World} {news news' : List (Addr × Obj)} {D : Addr} {tx : Str} {y : Rat} (h : NmAt w news D tx y) (k : ∀ p ∈ news, p ∈ news') : NmAt w news' D tx y := by
  obtain ⟨df, c, t, h1, h2, h3⟩ := h
  exact ⟨df, c, t, k _ h1, h2.sub k, h3⟩
theorem memC {p : Addr × Obj} {a b : List (Addr × Obj)} (h : p ∈ a) (k : ∀ q ∈ a, q ∈ b) : p ∈ b := k p h
theorem sub_trans {a b c : List (Addr × Obj)} (h : ∀ p ∈ a, p ∈ b) (k : ∀ p ∈ b, p ∈ c) : ∀ p ∈ a, p ∈ c := fun p m => k p (h p m)
section
variable {w : World} {p : Program} {loose : List Str} {mean : ExcName → Option Value} {mg mb : Str → Option Value} {D : Nat} {f : Addr} {vs : List Value} {dp un : Nat} {gd : Option (List Code)} {cn : Str} {cs : Scope} {ad : Addr} {ccd : Value} {cl : List (Str × Addr)} {outer : List Env} {A₀ : Around} {base h₀ : Heap} {L : Addr} {m : Str → Option Value} {s : Shared} {Q E : Value → Shared → Prop}
  {src : Addr} {so : Obj} {a b : Int} {t u : Tok} {rest : List (Addr × Obj)}
/-- a call beside the source: the ledger is the source and a rest -/
theorem Fn.useS {Out : Value → List (Addr × Obj) → Prop} {P : Addr → List (Addr × Obj) → Prop} (hO : ∀ {v news'}, Out v news' → OutS src so rest P v news') (C : Fn w p loose mean mg mb D f vs ((src, so) :: rest) Out) (hne : ∀ q ∈ rest, q.1 ≠ src) (B : Below A₀ base outer h₀) (F : Fr h₀ L s.heap m) (X : (KK w.params).In h₀) (N : News h₀ L s.heap ((src, so) :: rest)) (T : Top p loose mean mg mb h₀) (hk : cs.kind = .function) (hd : dp + D < recursionLimit) (hu : un + 8 * D < cLine)
    (h : ∀ (D : Addr) (rest' : List (Addr × Obj)) (h' : Heap) (tk' : Nat), Fr h₀ L h' m → News h₀ L h' ((src, so) :: rest') → (∀ q ∈ rest', q.1 ≠ src) → (∀ q ∈ rest, q ∈ rest') → P D rest' → Q (.ref D) { s with heap := h', toks := tk' }) :
    wpAny (model PySem.Challenge.pw_pf0196_01 w) (ktrTop dp un gd cn cs L ad ccd cl outer) (call (.ref f) vs) Q E s := by
  refine C.use B F X N T hk hd hu ?_
  rintro v news' h' tk' F' N' o
  obtain ⟨D', new, rfl, rfl, hn, hP⟩ := hO o
  refine h D' (new ++ rest) h' tk' F' (cb_drop N' (List.forall_mem_cons.mpr ⟨by simp, fun q m => ?_⟩)) (fun q m => ?_) (fun q m => List.mem_append_right _ m) hP
  · rcases List.mem_append.mp m with m | m
    · exact List.mem_append_left _ m
    · exact List.mem_append_right _ (.tail _ m)
  · rcases List.mem_append.mp m with m | m
    · exact hn q m
    · exact hne q m
theorem Fn.useTake {P : Int → Prop} (C : Fn w p loose mean mg mb D f vs ((src, srcO a b t u) :: rest) (IntOut P src rest)) (B : Below A₀ base outer h₀) (F : Fr h₀ L s.heap m) (X : (KK w.params).In h₀) (N : News h₀ L s.heap ((src, srcO a b t u) :: rest)) (T : Top p loose mean mg mb h₀) (hk : cs.kind = .function) (hd : dp + D < recursionLimit) (hu : un + 8 * D < cLine)
    (h : ∀ (r : Int) (tr : Tok) (a b : Int) (t u : Tok) (h' : Heap) (tk' : Nat), Fr h₀ L h' m → News h₀ L h' ((src, srcO a b t u) :: rest) → (0 ≤ b ∧ b ≤ 2147483647) → P r → Q (.int r tr) { s with heap := h', toks := tk' }) :
    wpAny (model PySem.Challenge.pw_pf0196_01 w) (ktrTop dp un gd cn cs L ad ccd cl outer) (call (.ref f) vs) Q E s := by
  refine C.use B F X N T hk hd hu ?_
  rintro v news' h' tk' F' N' ⟨r, tr, rfl, pr, a', b', t', u', rfl, hb⟩
  exact h r tr a' b' t' u' h' tk' F' N' hb pr
theorem Fn.useOne {l : List Value} (C : Fn w p loose mean mg mb D f vs ((src, srcO a b t u) :: rest) (fun v news' => v ∈ l ∧ SrcOut src rest news')) (B : Below A₀ base outer h₀) (F : Fr h₀ L s.heap m) (X : (KK w.params).In h₀) (N : News h₀ L s.heap ((src, srcO a b t u) :: rest)) (T : Top p loose mean mg mb h₀) (hk : cs.kind = .function) (hd : dp + D < recursionLimit) (hu : un + 8 * D < cLine)
    (h : ∀ (v : Value) (a b : Int) (t u : Tok) (h' : Heap) (tk' : Nat), Fr h₀ L h' m → News h₀ L h' ((src, srcO a b t u) :: rest) → (0 ≤ b ∧ b ≤ 2147483647) → v ∈ l → Q v { s with heap := h', toks := tk' }) :
    wpAny (model PySem.Challenge.pw_pf0196_01 w) (ktrTop dp un gd cn cs L ad ccd cl outer) (call (.ref f) vs) Q E s := by
  refine C.use B F X N T hk hd hu ?_
  rintro v news' h' tk' F' N' ⟨hv, a', b', t', u', rfl, hb⟩
  exact h v a' b' t' u' h' tk' F' N' hb hv
theorem Fn.useNum {sz : Bool} (C : Fn w p loose mean mg mb D f vs ((src, srcO a b t u) :: rest) (NumOut src sz rest)) (hne : ∀ q ∈ rest, q.1 ≠ src) (B : Below A₀ base outer h₀) (F : Fr h₀ L s.heap m) (X : (KK w.params).In h₀) (N : News h₀ L s.heap ((src, srcO a b t u) :: rest)) (T : Top p loose mean mg mb h₀) (hk : cs.kind = .function) (hd : dp + D < recursionLimit) (hu : un + 8 * D < cLine)
    (h : ∀ (D : Addr) (tx : Str) (y : Rat) (rest' : List (Addr × Obj)) (a b : Int) (t u : Tok) (h' : Heap) (tk' : Nat), Fr h₀ L h' m → News h₀ L h' ((src, srcO a b t u) :: rest') → (0 ≤ b ∧ b ≤ 2147483647) → (∀ q ∈ rest', q.1 ≠ src) → (∀ q ∈ rest, q ∈ rest') → NmAt w rest' D tx y → (sz = true → 0 < y) → Q (.ref D) { s with heap := h', toks := tk' }) :
    wpAny (model PySem.Challenge.pw_pf0196_01 w) (ktrTop dp un gd cn cs L ad ccd cl outer) (call (.ref f) vs) Q E s := by
  refine C.use B F X N T hk hd hu ?_
  rintro v news' h' tk' F' N' ⟨D', df, y, t1, t2, c, k, tx, t, a', b', t', u', rfl, rfl, hb, l1, l2, l3, hT, hs⟩
  exact h D' tx y _ a' b' t' u' h' tk' F' N' hb (List.forall_mem_cons.mpr ⟨Nat.ne_of_gt (Nat.lt_trans l1 l2), List.forall_mem_cons.mpr ⟨Nat.ne_of_gt l1, hne⟩⟩) (fun q m => .tail _ (.tail _ m)) ⟨df, k, t, .head _, At.here (.tail _ (.head _)) hT.br, hT⟩ hs
end
section
variable {w : World} {A : Around} {E : Value → Shared → Prop} {s : Shared} {h₀ : Heap} {L D : Addr} {news : List (Addr × Obj)} {value slice : Expr} {u : Tok} {Q : Value → Shared → Prop} {tx : Str} {y : Rat}
theorem nm_i0 {small : List (Addr × Obj)} (I : NmAt w small D tx y) (N : News h₀ L s.heap news) (hs : ∀ p ∈ small, p ∈ news) (h : ∀ df, At w small df 10 y → Q (.ref df) s)
    (hc : subscripted slice false (.ref D) (.int 0 u) = operate [.ref D, .int 0 u] (getItem (.ref D) (.int 0 u)) := by with_unfolding_all rfl) : wpAny (model PySem.Challenge.pw_pf0196_01 w) A (subscriptTail value slice (.ref D) (.int 0 u)) Q E s := by
  obtain ⟨df, k, t, h1, h2, -⟩ := I
  exact tup_i0 (l := [.ref df, .str tx t]) N (hs _ h1) rfl rfl (h df h2) hc
theorem nm_i1 {small : List (Addr × Obj)} (I : NmAt w small D tx y) (N : News h₀ L s.heap news) (hs : ∀ p ∈ small, p ∈ news) (h : ∀ t, Q (.str tx t) s)
    (hc : subscripted slice false (.ref D) (.int 1 u) = operate [.ref D, .int 1 u] (getItem (.ref D) (.int 1 u)) := by with_unfolding_all rfl) : wpAny (model PySem.Challenge.pw_pf0196_01 w) A (subscriptTail value slice (.ref D) (.int 1 u)) Q E s := by
  obtain ⟨df, k, t, h1, h2, -⟩ := I
  exact tup_i1 (l := [.ref df, .str tx t]) N (hs _ h1) rfl rfl (h t) hc
end
-- X7
/-- the four figures of a box -/
structure FigAt (w : World) (rest : List (Addr × Obj)) (l D1 D2 D3 D4 : Addr) (x1 x2 x3 x4 : Str) (y1 y2 y3 y4 : Rat) : Prop where
  mem : ∃ n, (l, listOf #[.ref D1, .ref D2, .ref D3, .ref D4] n) ∈ rest
  a1 : NmAt w rest D1 x1 y1
  a2 : NmAt w rest D2 x2 y2
  a3 : NmAt w rest D3 x3 y3
  a4 : NmAt w rest D4 x4 y4
  p3 : 0 < y3
  p4 : 0 < y4
/-- the source ahead of a rest that lies apart from it -/
structure SrcP (src : Addr) (rest : List (Addr × Obj)) (a b : Int) (t u : Tok) (nw : List (Addr × Obj)) : Prop where
  eq : nw = (src, srcO a b t u) :: rest
  b : 0 ≤ b ∧ b ≤ 2147483647
  ne : ∀ p ∈ rest, p.1 ≠ src
theorem imp_true {q : Prop} (h : true = true → q) : q := h rfl
theorem NmAt.txt {w : World} {news : List (Addr × Obj)} {D : Addr} {tx : Str} {y : Rat} (h : NmAt w news D tx y) : NumText tx y := by
  obtain ⟨_, _, _, _, _, h⟩ := h
  exact h
theorem join4 {prog : Program} {w : World} {A : Around} {E : Value → Shared → Prop} {s : Shared} {sep x1 x2 x3 x4 : Str} {t t1 t2 t3 t4 : Tok} {y1 y2 y3 y4 : Rat} {D : Addr} {Q : Value → Shared → Prop} (hl : s.heap.IsList D #[.str x1 t1, .str x2 t2, .str x3 t3, .str x4 t4])
    (hs : sep = Str.ofString " " ∨ sep = Str.ofString ", " ∨ sep = Str.ofString ",") (h1 : NumText x1 y1) (h2 : NumText x2 y2) (h3 : NumText x3 y3) (h4 : NumText x4 y4)
    (h : ∀ T t' k, T.length ≤ 1000 → (Txt.replace T (Str.ofString ",") (Str.ofString " ")).length ≤ 1000 → Txt.words (Txt.replace T (Str.ofString ",") (Str.ofString " ")) = [x1, x2, x3, x4] → Q (.str T t') { s with toks := k }) :
    wpAny (model prog w) A (call (.builtin "str.join") [.str sep t, .ref D]) Q E s := by
  obtain ⟨j1, j2, j3⟩ := join_words hs h1 h2 h3 h4
  have l1 := h1.len
  have l2 := h2.len
  have l3 := h3.len
  have l4 := h4.len
  have e : Txt.join sep [x1, x2, x3, x4] = Str.join sep [x1, x2, x3, x4] := StrLaws.glued_eq_join _ _
  have hsl : sep.length ≤ 2 := by rcases hs with rfl | rfl | rfl <;> decide +kernel
  refine SC.join (l := [(x1, t1), (x2, t2), (x3, t3), (x4, t4)]) hl rfl (joinOk_of ?_) fun t' k => ?_
  · simp only [List.map_cons, List.map_nil, List.sum_cons, List.sum_nil, List.length_cons, List.length_nil]
    omega
  · show Q (.str (Txt.join sep [x1, x2, x3, x4]) t') _
    rw [e]
    exact h _ t' k j1 j2 j3
theorem al_nine {s1 s2 : Str} (h1 : s1 = Str.ofString "Min" ∨ s1 = Str.ofString "Mid" ∨ s1 = Str.ofString "Max") (h2 : s2 = Str.ofString "Min" ∨ s2 = Str.ofString "Mid" ∨ s2 = Str.ofString "Max") :
    ∃ px py, AlIs (Str.ofString "x" ++ s1 ++ Str.ofString "Y" ++ s2) px py := by
  rcases h1 with rfl | rfl | rfl <;> rcases h2 with rfl | rfl | rfl
  · exact ⟨0, 0, by decide +kernel, by decide +kernel, .inl ⟨by decide +kernel, rfl⟩, .inl ⟨by decide +kernel, rfl⟩⟩
  · exact ⟨0, 1/2, by decide +kernel, by decide +kernel, .inl ⟨by decide +kernel, rfl⟩, .inr (.inl ⟨by decide +kernel, rfl⟩)⟩
  · exact ⟨0, 1, by decide +kernel, by decide +kernel, .inl ⟨by decide +kernel, rfl⟩, .inr (.inr ⟨by decide +kernel, rfl⟩)⟩
  · exact ⟨1/2, 0, by decide +kernel, by decide +kernel, .inr (.inl ⟨by decide +kernel, rfl⟩), .inl ⟨by decide +kernel, rfl⟩⟩
  · exact ⟨1/2, 1/2, by decide +kernel, by decide +kernel, .inr (.inl ⟨by decide +kernel, rfl⟩), .inr (.inl ⟨by decide +kernel, rfl⟩)⟩
  · exact ⟨1/2, 1, by decide +kernel, by decide +kernel, .inr (.inl ⟨by decide +kernel, rfl⟩), .inr (.inr ⟨by decide +kernel, rfl⟩)⟩
  · exact ⟨1, 0, by decide +kernel, by decide +kernel, .inr (.inr ⟨by decide +kernel, rfl⟩), .inl ⟨by decide +kernel, rfl⟩⟩
  · exact ⟨1, 1/2, by decide +kernel, by decide +kernel, .inr (.inr ⟨by decide +kernel, rfl⟩), .inr (.inl ⟨by decide +kernel, rfl⟩)⟩
  · exact ⟨1, 1, by decide +kernel, by decide +kernel, .inr (.inr ⟨by decide +kernel, rfl⟩), .inr (.inr ⟨by decide +kernel, rfl⟩)⟩
def AlOk (al : Str) : Prop := (al != Str.ofString "none") = false ∨ ∃ px py, AlIs al px py
theorem al_four {s al : Str} {px py : Rat} (h : AlIs al px py) (hs : s = al ∨ s = al ∨ s = al ∨ s = Str.ofString "none") : AlOk s := by
  rcases hs with rfl | rfl | rfl | rfl
  · exact .inr ⟨_, _, h⟩
  · exact .inr ⟨_, _, h⟩
  · exact .inr ⟨_, _, h⟩
  · exact .inl (by decide +kernel)
theorem rdiv_pos {a b : Rat} (ha : 0 < a) (hb : 0 < b) : 0 < a / b := by
  rw [Rat.div_def]
  exact Rat.mul_pos ha (Rat.inv_pos.mpr hb)
theorem scF_pos {a b : Rat} {sl : Bool} (ha : 0 < a) (hb : 0 < b) : 0 < scF a b sl := by
  unfold scF
  split <;> assumption
theorem fit_ex {al : Str} {u v W H : Rat} (sl : Bool) (h : AlOk al) (hu : 0 < u) (hv : 0 < v) (hW : 0 < W) (hH : 0 < H) : ∃ sx sy gx gy, FitV al sl u v W H sx sy gx gy ∧ 0 < sx ∧ 0 < sy := by
  rcases h with h | ⟨px, py, h⟩
  · exact ⟨_, _, _, _, .inl ⟨h, rfl, rfl, rfl, rfl⟩, rdiv_pos hW hu, rdiv_pos hH hv⟩
  · exact ⟨_, _, _, _, .inr ⟨px, py, h, rfl, rfl, rfl, rfl⟩, scF_pos (rdiv_pos hW hu) (rdiv_pos hH hv), scF_pos (rdiv_pos hW hu) (rdiv_pos hH hv)⟩
theorem sev_nd : (7 : Int) = (7/3 : Rat).num ∧ (3 : Int) = ((7/3 : Rat).den : Int) := by decide +kernel
theorem At.sev {w : World} {news : List (Addr × Obj)} {a : Addr} {t1 t2 : Tok} {c : Nat} (h : (a, ({ cls := .type "tuple", data := .seq #[.int 7 t1, .int 3 t2] c } : Obj)) ∈ news) : At w news a 4 (7/3) := by
  rw [fr_of sev_nd] at h
  exact At.here h ⟨Bi.of (by rw [← sev_nd.1]; decide), Bi.of (by rw [← sev_nd.2]; decide)⟩
theorem led_x (sx gx x a b : Rat) : sx * a + 0 * b + (gx - x * sx) = gx + (a - x) * sx := by grind
theorem led_y (sy gy y a b : Rat) : 0 * a + sy * b + (gy - y * sy) = gy + (b - y) * sy := by grind
theorem det_ne {sx sy : Rat} (h1 : 0 < sx) (h2 : 0 < sy) : sx * sy - 0 * 0 ≠ 0 := by
  have := Rat.mul_pos h1 h2
  grind
theorem back_x {sx sy e f a b : Rat} (h1 : 0 < sx) (h2 : 0 < sy) : sy / (sx * sy - 0 * 0) * (sx * a + 0 * b + e) + -(0 / (sx * sy - 0 * 0)) * (0 * a + sy * b + f) + -(sy / (sx * sy - 0 * 0) * e + -(0 / (sx * sy - 0 * 0)) * f) = a := by
  have := det_ne h1 h2
  grind
theorem back_y {sx sy e f a b : Rat} (h1 : 0 < sx) (h2 : 0 < sy) : -(0 / (sx * sy - 0 * 0)) * (sx * a + 0 * b + e) + sx / (sx * sy - 0 * 0) * (0 * a + sy * b + f) + -(-(0 / (sx * sy - 0 * 0)) * e + sx / (sx * sy - 0 * 0) * f) = b := by
  have := det_ne h1 h2
  grind
section
variable {w : World} {A : Around} {E : Value → Shared → Prop} {s : Shared} {h₀ : Heap} {L q : Addr} {news small : List (Addr × Obj)} {n : Nat} {x y u v : Rat} {value slice : Expr} {k : Tok} {Q : Value → Shared → Prop}
theorem bx_i0 (I : BoxAt w small q n x y u v) (N : News h₀ L s.heap news) (hs : ∀ p ∈ small, p ∈ news) (h : ∀ a, At w small a n x → Q (.ref a) s)
    (hc : subscripted slice false (.ref q) (.int 0 k) = operate [.ref q, .int 0 k] (getItem (.ref q) (.int 0 k)) := by with_unfolding_all rfl) : wpAny (model PySem.Challenge.pw_pf0196_01 w) A (subscriptTail value slice (.ref q) (.int 0 k)) Q E s := by
  obtain ⟨a, b, c, d, e, h1, ha, hb, hc', hd⟩ := I
  exact tup_i0 (l := [.ref a, .ref b, .ref c, .ref d]) N (hs _ h1) rfl rfl (h a ha) hc
theorem bx_i1 (I : BoxAt w small q n x y u v) (N : News h₀ L s.heap news) (hs : ∀ p ∈ small, p ∈ news) (h : ∀ a, At w small a n y → Q (.ref a) s)
    (hc : subscripted slice false (.ref q) (.int 1 k) = operate [.ref q, .int 1 k] (getItem (.ref q) (.int 1 k)) := by with_unfolding_all rfl) : wpAny (model PySem.Challenge.pw_pf0196_01 w) A (subscriptTail value slice (.ref q) (.int 1 k)) Q E s := by
  obtain ⟨a, b, c, d, e, h1, ha, hb, hc', hd⟩ := I
  exact tup_i1 (l := [.ref a, .ref b, .ref c, .ref d]) N (hs _ h1) rfl rfl (h b hb) hc
theorem bx_i2 (I : BoxAt w small q n x y u v) (N : News h₀ L s.heap news) (hs : ∀ p ∈ small, p ∈ news) (h : ∀ a, At w small a n u → Q (.ref a) s)
    (hc : subscripted slice false (.ref q) (.int 2 k) = operate [.ref q, .int 2 k] (getItem (.ref q) (.int 2 k)) := by with_unfolding_all rfl) : wpAny (model PySem.Challenge.pw_pf0196_01 w) A (subscriptTail value slice (.ref q) (.int 2 k)) Q E s := by
  obtain ⟨a, b, c, d, e, h1, ha, hb, hc', hd⟩ := I
  exact tup_i2 (l := [.ref a, .ref b, .ref c, .ref d]) N (hs _ h1) rfl rfl (h c hc') hc
theorem bx_i3 (I : BoxAt w small q n x y u v) (N : News h₀ L s.heap news) (hs : ∀ p ∈ small, p ∈ news) (h : ∀ a, At w small a n v → Q (.ref a) s)
    (hc : subscripted slice false (.ref q) (.int 3 k) = operate [.ref q, .int 3 k] (getItem (.ref q) (.int 3 k)) := by with_unfolding_all rfl) : wpAny (model PySem.Challenge.pw_pf0196_01 w) A (subscriptTail value slice (.ref q) (.int 3 k)) Q E s := by
  obtain ⟨a, b, c, d, e, h1, ha, hb, hc', hd⟩ := I
  exact tup_i3 (l := [.ref a, .ref b, .ref c, .ref d]) N (hs _ h1) rfl rfl (h d hd) hc
theorem pt_i0 (I : PtAt w small q n x y) (N : News h₀ L s.heap news) (hs : ∀ p ∈ small, p ∈ news) (h : ∀ a, At w small a n x → Q (.ref a) s)
    (hc : subscripted slice false (.ref q) (.int 0 k) = operate [.ref q, .int 0 k] (getItem (.ref q) (.int 0 k)) := by with_unfolding_all rfl) : wpAny (model PySem.Challenge.pw_pf0196_01 w) A (subscriptTail value slice (.ref q) (.int 0 k)) Q E s := by
  obtain ⟨a, b, c, h1, ha, hb⟩ := I
  exact tup_i0 (l := [.ref a, .ref b]) N (hs _ h1) rfl rfl (h a ha) hc
theorem pt_i1 (I : PtAt w small q n x y) (N : News h₀ L s.heap news) (hs : ∀ p ∈ small, p ∈ news) (h : ∀ a, At w small a n y → Q (.ref a) s)
    (hc : subscripted slice false (.ref q) (.int 1 k) = operate [.ref q, .int 1 k] (getItem (.ref q) (.int 1 k)) := by with_unfolding_all rfl) : wpAny (model PySem.Challenge.pw_pf0196_01 w) A (subscriptTail value slice (.ref q) (.int 1 k)) Q E s := by
  obtain ⟨a, b, c, h1, ha, hb⟩ := I
  exact tup_i1 (l := [.ref a, .ref b]) N (hs _ h1) rfl rfl (h b hb) hc
end
-- X8
theorem pts5 {w : World} {rest : List (Addr × Obj)} {q1 q2 q3 q4 q5 : Addr} {a1 b1 a2 b2 a3 b3 a4 b4 a5 b5 : Rat} (h1 : PtAt w rest q1 21 a1 b1) (h2 : PtAt w rest q2 21 a2 b2) (h3 : PtAt w rest q3 21 a3 b3) (h4 : PtAt w rest q4 21 a4 b4) (h5 : PtAt w rest q5 21 a5 b5) :
    ∀ v ∈ [Value.ref q1, .ref q2, .ref q3, .ref q4, .ref q5], ∃ q x y, v = Value.ref q ∧ PtAt w rest q 21 x y :=
  List.forall_mem_cons.mpr ⟨⟨_, _, _, rfl, h1⟩, List.forall_mem_cons.mpr ⟨⟨_, _, _, rfl, h2⟩, List.forall_mem_cons.mpr ⟨⟨_, _, _, rfl, h3⟩, List.forall_mem_cons.mpr ⟨⟨_, _, _, rfl, h4⟩, List.forall_mem_cons.mpr ⟨⟨_, _, _, rfl, h5⟩, fun _ h => nomatch h⟩⟩⟩⟩⟩
/-- a loop over a made list, whose turns store nothing but the loop's own name -/
theorem iter_refs {prog : Program} {w : World} {A : Around} {E : Value → Shared → Prop} {s : Shared} {env : Env} {h₀ : Heap} {x : Str} {body : List Stmt} {Q : Flow → Shared → Prop} {l : Addr} {vs : List Value} {nn : Nat} {m₀ : Str → Option Value} {news : List (Addr × Obj)}
    (hh : A.handled = none) (hl : (l, listOf vs.toArray nn) ∈ news) (F : Fr h₀ env.locals s.heap m₀) (N : News h₀ env.locals s.heap news)
    (turn : ∀ v h tk big, v ∈ vs → (∀ p ∈ news, p ∈ big) → Fr h₀ env.locals h (fun y => if y = x then some v else m₀ y) → News h₀ env.locals h big →
      wpAny (model prog w) A (execs body env) (fun f s₂ => f = .next ∧ ∃ h' tk', s₂ = { s with heap := h', toks := tk' } ∧ Fr h₀ env.locals h' (fun y => if y = x then some v else m₀ y) ∧ News h₀ env.locals h' big) E { s with heap := h, toks := tk })
    (done : ∀ u h tk, Fr h₀ env.locals h (fun y => if y = x then u else m₀ y) → News h₀ env.locals h news → Q .next { s with heap := h, toks := tk }) :
    wpAny (model prog w) A (pyIter (.ref l)) (fun it s₂ => LoopAtV prog w A h₀ env x body Q E it s₂) E s := by
  refine kdl_iter (fun _ m₁ nx => nx = news ∧ ∀ y, y ≠ x → m₁ y = m₀ y) hh hl F N ⟨rfl, fun _ _ => rfl⟩ ?_ ?_
  · rintro i v m₁ news₁ h tk own hv hoff - ⟨rfl, hm⟩ F₁ N₁
    have e : (fun y => if y = x then some v else m₁ y) = fun y => if y = x then some v else m₀ y := by
      funext y
      by_cases h1 : y = x
      · simp [h1]
      · simp only [if_neg h1]; exact hm y h1
    rw [e] at F₁
    refine wpAny_mono (turn v h tk _ (List.mem_of_getElem? hv) (fun p m => List.mem_append_left _ m) F₁ N₁) ?_ fun _ _ z => z
    rintro f s₂ ⟨rfl, h', tk', rfl, F', N'⟩
    exact ⟨h', tk', _, _, news₁, rfl, F', N', fun p m => List.mem_append_left _ m, fun p m => List.mem_append_right _ m, hoff, hl, rfl, fun y hy => by simp only [if_neg hy]⟩
  · rintro m₁ news₁ h tk ⟨rfl, hm⟩ F₁ N₁
    refine done (m₁ x) h tk ?_ N₁
    have e : (fun y => if y = x then m₁ x else m₀ y) = m₁ := by
      funext y
      by_cases h1 : y = x
      · simp [h1]
      · simp only [if_neg h1]; exact (hm y h1).symm
    rw [e]
    exact F₁
/-- a matrix that has been looked into -/
structure MxIn (w : World) (news : List (Addr × Obj)) (x : Addr) (n : Nat) (a b c d e f : Rat) : Prop where
  out : ∃ dx t1 t2 t3 t4 t5 t6 ra rb rc rd re rf, (x, instObj 332 dx) ∈ news ∧ (dx, mxd w t1 t2 t3 t4 t5 t6 ra rb rc rd re rf) ∈ news ∧ MxAt w news x n a b c d e f
theorem MxAt.opn {w : World} {news : List (Addr × Obj)} {x : Addr} {n : Nat} {a b c d e f : Rat} (h : MxAt w news x n a b c d e f) : MxIn w news x n a b c d e f := by
  have h' := h
  obtain ⟨dx, t1, t2, t3, t4, t5, t6, ra, rb, rc, rd, re, rf, h1, h2, _⟩ := h'
  exact ⟨dx, t1, t2, t3, t4, t5, t6, ra, rb, rc, rd, re, rf, h1, h2, h⟩
section
variable {w : World} {p : Program} {loose : List Str} {mean : ExcName → Option Value} {mg mb : Str → Option Value} {D : Nat} {f : Addr} {vs : List Value} {dp un : Nat} {gd : Option (List Code)} {cn : Str} {cs : Scope} {ad : Addr} {ccd : Value} {cl : List (Str × Addr)} {outer : List Env} {A₀ : Around} {base h₀ : Heap} {L : Addr} {m : Str → Option Value} {s : Shared} {Q E : Value → Shared → Prop}
  {news : List (Addr × Obj)}
theorem Fn.useInv {n : Nat} {a1 a2 a3 a4 a5 a6 : Rat} (C : Fn w p loose mean mg mb D f vs news (MxOut w news n a1 a2 a3 a4 a5 a6)) (B : Below A₀ base outer h₀) (F : Fr h₀ L s.heap m) (X : (KK w.params).In h₀) (N : News h₀ L s.heap news) (T : Top p loose mean mg mb h₀) (hk : cs.kind = .function) (hd : dp + D < recursionLimit) (hu : un + 8 * D < cLine)
    (h : ∀ (D : Addr) (big : List (Addr × Obj)) (h' : Heap) (tk' : Nat), Fr h₀ L h' m → News h₀ L h' big → (∀ q ∈ news, q ∈ big) → MxIn w big D n a1 a2 a3 a4 a5 a6 → Q (.ref D) { s with heap := h', toks := tk' }) :
    wpAny (model PySem.Challenge.pw_pf0196_01 w) (ktrTop dp un gd cn cs L ad ccd cl outer) (call (.ref f) vs) Q E s := by
  refine C.use B F X N T hk hd hu ?_
  rintro v news' h' tk' F' N' ⟨x, p1, p2, p3, p4, p5, p6, p7, p8, _, _, _, _, _, _, rfl, rfl, rfl, rfl, rfl, rfl, rfl, rfl, -, -, -, -, -, -, -, -, hM⟩
  exact h x _ h' tk' F' N' (fun q m => .tail _ (.tail _ (.tail _ (.tail _ (.tail _ (.tail _ (.tail _ (.tail _ m)))))))) hM.opn
end
theorem nw_one {h₀ h : Heap} {L : Addr} {big : List (Addr × Obj)} {e : Addr × Obj} (N : News h₀ L h big) (m : e ∈ big) : News h₀ L h [e] := fun q hq => by rw [List.mem_singleton.mp hq]; exact N e m
theorem nil_sub {big : List (Addr × Obj)} : ∀ q ∈ ([] : List (Addr × Obj)), q ∈ big := fun _ h => nomatch h
-- B1
theorem box_spec (src : Addr) (a b : Int) (t u : Tok) (hb : 0 ≤ b ∧ b ≤ 2147483647) :
    Fn w p loose mean mg mb 9 455 [.ref src] [(src, srcO a b t u)] (fun v news' => v = .bool true ∧ ∃ a b t u, news' = [(src, srcO a b t u)] ∧ 0 ≤ b ∧ b ≤ 2147483647) := by
  have zg1 := trivial
  have zg2 := trivial
  have zg3 := trivial
  have zg4 := trivial
  have zg7 := trivial
  have zg13 := trivial
  have zg15 := trivial
  have zg17 := trivial
  have zg18 := trivial
  have zg20 := trivial
  have zg21 := trivial
  have zg77 := trivial
  intro dp un gd cn cs ad ccd cl outer A₀ base h₀ L m s Q E B F X N T hk hd hu hret
  have hlx : (Str.ofString "x").length = 1 := by decide +kernel
  have hly : (Str.ofString "Y").length = 1 := by decide +kernel
  have hn0 : ∀ q ∈ ([] : List (Addr × Obj)), q.1 ≠ src := fun q h => nomatch h
  k_with "exec Assign" => (guard_hyp zg77 : True); ((with_reducible show wpAny _ _ (exec (Stmt.Assign [Expr.Name (Str.ofString "figured") _] _ _) _) _ _ _); (fail_if_success (with_reducible show wpAny _ _ _ (Cut1 _ _ _ _ _ _) _ _)); ((with_reducible rename Fr _ _ _ _ => lF'); refine' cut1 (Str.ofString "figured") (fun v nw => ∃ l D1 D2 D3 D4 x1 x2 x3 x4 y1 y2 y3 y4 rest a b t u, v = .ref l ∧ SrcP src rest a b t u nw ∧ FigAt w rest l D1 D2 D3 D4 x1 x2 x3 x4 y1 y2 y3 y4) lF' ?_ ?_); rotate_left 1; intro v' n' h' tk' F' N' O'; obtain ⟨lG, D1, D2, D3, D4, x1, x2, x3, x4, y1, y2, y3, y4, restG, aG, bG, tG, uG, e1', ⟨e2', hbG, hneG⟩, hfG⟩ := O'; subst e1'; subst e2'; obtain ⟨⟨nG, hmG⟩, hD1, hD2, hD3, hD4, hp3, hp4⟩ := hfG; (try k_sweep); (try dsimp only))
  k_with "exec Assign" => (guard_hyp zg77 : True); ((with_reducible show wpAny _ _ (exec (Stmt.Assign [Expr.Name (Str.ofString "box") _] _ _) _) _ _ _); (fail_if_success (with_reducible show wpAny _ _ _ (Cut1 _ _ _ _ _ _) _ _)); ((with_reducible rename Fr _ _ _ _ => lF'); refine' cut1 (Str.ofString "box") (fun v nw => ∃ q rest, v = .ref q ∧ SrcP src rest aG bG tG uG nw ∧ (∀ p ∈ restG, p ∈ rest) ∧ BoxAt w rest q 10 y1 y2 y3 y4) lF' ?_ ?_); rotate_left 1; intro v' n' h' tk' F' N' O'; obtain ⟨qB, restB, e1', ⟨e2', hbB, hneB⟩, hsbB, hBx⟩ := O'; subst e1'; subst e2'; (have hmB := hsbB _ hmG); (have hBx' := hBx); obtain ⟨rb0, rb1, rb2, rb3, kbx, hmBx, hB0, hB1, hB2, hB3⟩ := hBx'; (try k_sweep); (try dsimp only))
  k_with "exec Assign" => (guard_hyp zg77 : True); ((with_reducible show wpAny _ _ (exec (Stmt.Assign [Expr.Tuple (Expr.Name (Str.ofString "wide") _ :: _) _ _] _ _) _) _ _ _); (fail_if_success (with_reducible show wpAny _ _ _ (Cut2 _ _ _ _ _ _ _) _ _)); ((with_reducible rename Fr _ _ _ _ => lF'); refine' cut2 (Str.ofString "high") (Str.ofString "wide") (fun v2 v1 nw => ∃ dW dH W H rest a b t u, v1 = .ref dW ∧ v2 = .ref dH ∧ SrcP src rest a b t u nw ∧ (∀ p ∈ restB, p ∈ rest) ∧ At w rest dW 8 W ∧ At w rest dH 8 H ∧ 0 < W ∧ 0 < H) lF' ?_ ?_); rotate_left 1; intro v1' v2' n' h' tk' F' N' O'; obtain ⟨dW, dH, W, H, restW, aW, bW, tW, uW, e1', e2', ⟨e3', hbW, hneW⟩, hsbW, hdW, hdH, hW0, hH0⟩ := O'; subst e1'; subst e2'; subst e3'; (try k_sweep); (try dsimp only))
  k_with "exec Assign" => (guard_hyp zg77 : True); ((with_reducible show wpAny _ _ (exec (Stmt.Assign [Expr.Name (Str.ofString "align") _] _ _) _) _ _ _); (fail_if_success (with_reducible show wpAny _ _ _ (Cut1 _ _ _ _ _ _) _ _)); ((with_reducible rename Fr _ _ _ _ => lF'); refine' cut1 (Str.ofString "align") (fun v nw => ∃ al ta a b t u, v = .str al ta ∧ SrcP src restW a b t u nw ∧ ∃ px py, AlIs al px py) lF' ?_ ?_); rotate_left 1; intro v' n' h' tk' F' N' O'; obtain ⟨al1, ta1, aA, bA, tA, uA, e1', ⟨e2', hbA, hneA⟩, px, py, hAl1⟩ := O'; subst e1'; subst e2'; (try k_sweep); (try dsimp only))
  k_with "exec Assign" => (guard_hyp zg77 : True); ((with_reducible show wpAny _ _ (exec (Stmt.Assign [Expr.Tuple (Expr.Name (Str.ofString "align") _ :: _) _ _] _ _) _) _ _ _); (fail_if_success (with_reducible show wpAny _ _ _ (Cut2 _ _ _ _ _ _ _) _ _)); ((with_reducible rename Fr _ _ _ _ => lF'); refine' cut2 (Str.ofString "is_slice") (Str.ofString "align") (fun v2 v1 nw => ∃ al ta sl a b t u, v1 = .str al ta ∧ v2 = .bool sl ∧ SrcP src restW a b t u nw ∧ AlOk al) lF' ?_ ?_); rotate_left 1; intro v1' v2' n' h' tk' F' N' O'; obtain ⟨al, ta, sl, aS, bS, tS, uS, e1', e2', ⟨e3', hbS, hneS⟩, hAl⟩ := O'; subst e1'; subst e2'; subst e3'; obtain ⟨sx, sy, gx, gy, hFit, hsx, hsy⟩ := fit_ex sl hAl hp3 hp4 hW0 hH0; (try k_sweep); (try dsimp only))
  k_with "exec Assign" => (guard_hyp zg77 : True); ((with_reducible show wpAny _ _ (exec (Stmt.Assign [Expr.Tuple (Expr.Name (Str.ofString "matrix") _ :: _) _ _] _ _) _) _ _ _); (fail_if_success (with_reducible show wpAny _ _ _ (Cut2 _ _ _ _ _ _ _) _ _)); ((with_reducible rename Fr _ _ _ _ => lF'); refine' cut2 (Str.ofString "scales") (Str.ofString "matrix") (fun v2 v1 nw => ∃ mx sc rest, v1 = .ref mx ∧ v2 = .ref sc ∧ SrcP src rest aS bS tS uS nw ∧ (∀ p ∈ restW, p ∈ rest) ∧ MxAt w rest mx 80 sx 0 0 sy (gx - y1 * sx) (gy - y2 * sy) ∧ ScAt w rest sc 80 sx sy gx gy) lF' ?_ ?_); rotate_left 1; intro v1' v2' n' h' tk' F' N' O'; obtain ⟨mx, sc, restM, e1', e2', ⟨e3', hbM, hneM⟩, hsbM, hMx, hSc⟩ := O'; subst e1'; subst e2'; subst e3'; (try k_sweep); (try dsimp only))
  k_with "exec Assign" => (guard_hyp zg77 : True); ((with_reducible show wpAny _ _ (exec (Stmt.Assign [Expr.Name (Str.ofString "far") _] _ _) _) _ _ _); (fail_if_success (with_reducible show wpAny _ _ _ (Cut1 _ _ _ _ _ _) _ _)); ((with_reducible rename Fr _ _ _ _ => lF'); refine' cut1 (Str.ofString "far") (fun v nw => ∃ f rest, v = .ref f ∧ SrcP src rest aS bS tS uS nw ∧ (∀ p ∈ restM, p ∈ rest) ∧ PtAt w rest f 21 (y1 + y3) (y2 + y4)) lF' ?_ ?_); rotate_left 1; intro v' n' h' tk' F' N' O'; obtain ⟨fF, restF, e1', ⟨e2', hbF, hneF⟩, hsbF, hFar⟩ := O'; subst e1'; subst e2'; (have hFar' := hFar); obtain ⟨rf0, rf1, kfr, hmFr, hF0, hF1⟩ := hFar'; (try k_sweep); (try dsimp only))
  k_with "exec Assign" => (guard_hyp zg77 : True); ((with_reducible show wpAny _ _ (exec (Stmt.Assign [Expr.Name (Str.ofString "points") _] _ _) _) _ _ _); (fail_if_success (with_reducible show wpAny _ _ _ (Cut1 _ _ _ _ _ _) _ _)); ((with_reducible rename Fr _ _ _ _ => lF'); refine' cut1 (Str.ofString "points") (fun v nw => ∃ (l : Addr) (vs : List Value) (n : Nat) (rest : List (Addr × Obj)) (a b : Int) (t u : Tok), v = .ref l ∧ SrcP src rest a b t u nw ∧ (∀ p ∈ restF, p ∈ rest) ∧ (l, listOf vs.toArray n) ∈ rest ∧ ∀ v ∈ vs, ∃ q x y, v = Value.ref q ∧ PtAt w rest q 21 x y) lF' ?_ ?_); rotate_left 1; intro v' n' h' tk' F' N' O'; obtain ⟨lP, vsP, nP, restP, aP, bP, tP, uP, e1', ⟨e2', hbP, hneP⟩, hsbP, hmP, hPts⟩ := O'; subst e1'; subst e2'; (try k_sweep); (try dsimp only))
  k_with "call ref" => (guard_hyp zg77 : True); (k_here; k_dflt ((with_reducible show wpAny _ _ (call (Value.ref 373) [Value.ref _, Value.ref _, Value.ref _, Value.str _ _, Value.bool _]) _ _ _); (k_dflt (refine' Fn.useS mx6_S (fitted_spec _ _ _ _ _ _ _ _ _ _ _ _ _ _ _ _ _ ?hB ?hW ?hH hp3 hp4 hFit) ?hne ?B ?F ?X ?N ?T ?hk ?hd ?hu ?_)); (case N => k_extra "my_src"); (case hne => k_extra "my_ne"); (case hB => k_extra "my_box"); (case hW => k_extra "my_at"); (case hH => k_extra "my_at"); k_extra "my_side"; intro D' rest' h' tk' F' N' hne' hsb' hMx'; (try k_sweep); (try dsimp only)))
  k_with "call ref" => (guard_hyp zg77 : True); (k_here; k_dflt ((with_reducible show wpAny _ _ (call (Value.ref 443) [Value.ref _, Value.ref _, Value.ref _, Value.str _ _, Value.bool _]) _ _ _); (k_dflt (refine' Fn.useS sc_S (scales_spec _ _ _ _ _ _ _ _ _ _ _ _ _ _ _ _ _ ?hB ?hW ?hH hp3 hp4 hFit) ?hne ?B ?F ?X ?N ?T ?hk ?hd ?hu ?_)); (case N => k_extra "my_src"); (case hne => k_extra "my_ne"); (case hB => k_extra "my_box"); (case hW => k_extra "my_at"); (case hH => k_extra "my_at"); k_extra "my_side"; intro D' rest' h' tk' F' N' hne' hsb' hSc'; (try k_sweep); (try dsimp only)))
  k_with "binaryOp Add str str" => (guard_hyp zg77 : True); (k_here; (have hq1 := len3 hs' (by decide +kernel) (by decide +kernel) (by decide +kernel)); (first | (k_extra "my_addb"; intro _ _ hln') | (refine KOpn.add (by omega) ?_; intro _ _ hln')); (try dsimp only))
  k_with "exec Assign" => (guard_hyp zg77 : True); ((with_reducible show wpAny _ _ (exec (Stmt.Assign [Expr.Name (Str.ofString "moves") _] _ _) _) _ _ _); (fail_if_success (with_reducible show wpAny _ _ _ (Cut1 _ _ _ _ _ _) _ _)); ((with_reducible rename Fr _ _ _ _ => lF'); refine' cut1 (Str.ofString "moves") (fun v nw => ∃ q xm ym rest a b t u, v = .ref q ∧ SrcP src rest a b t u nw ∧ (∀ p ∈ restP, p ∈ rest) ∧ PtAt w rest q 10 xm ym) lF' ?_ ?_); rotate_left 1; intro v' n' h' tk' F' N' O'; obtain ⟨qV, xm, ym, restV, aV, bV, tV, uV, e1', ⟨e2', hbV, hneV⟩, hsbV, hMov⟩ := O'; subst e1'; subst e2'; (have hMov' := hMov); obtain ⟨rv0, rv1, kvr, hmVr, hV0, hV1⟩ := hMov'; (try k_sweep); (try dsimp only))
  k_with "exec For Name Name cons nil" => (guard_hyp zg77 : True); (k_here; (rename Fr _ _ _ _ => lF'); (with_unfolding_all refine' For_invVF lF' ?k1 ?k2 ?_; (case k1 => exact rfl); (case k2 => exact rfl); k_whole))
  k_with "call builtin:str.join" => (guard_hyp zg77 : True); (k_here; refine' join4 (News.isList ?jN (List.Mem.head _)) hs' hD1.txt hD2.txt hD3.txt hD4.txt ?_; (case jN => k_asm); k_whole; intro tT tT' k' hT1 hT2 hT3; (try k_sweep); (try dsimp only))
  k_with "call ref" => (guard_hyp zg77 : True); (k_here; k_dflt ((with_reducible show wpAny _ _ (call (Value.ref 358) [Value.str _ _]) _ _ _); (k_dflt (refine' Fn.useS (bx_S (w := w)) (rbox_spec _ _ _ _ _ _ _ _ _ _ _ hT1 hT2 hT3 hD1.txt hD2.txt hD3.txt hD4.txt hp3 hp4) ?hne ?B ?F ?X ?N ?T ?hk ?hd ?hu ?_)); (case N => k_extra "my_src"); (case hne => k_extra "my_ne"); k_extra "my_side"; intro D' rest' h' tk' F' N' hne' hsb' hBy'; (try k_sweep); (try dsimp only)))
  k_with "compareOp NotEq ref ref" => (guard_hyp zg77 : True); (k_here; refine' bxs_ne ?I ?J ?F ?N ?X rfl rfl rfl rfl ?hu ?_; (case N => k_asm); (case I => k_extra "my_box"); (case J => k_extra "my_box"); (case F => k_asm); (case X => k_asm); (case hu => first | ke_room | (dsimp (config := {zetaDelta := true}) only [ktrTop, Around.deeper]; omega)); k_whole; (try dsimp only))
  refine wpAny_call ?_
  k_extra "my_enter"
  k_steps
  all_goals (rename News _ _ _ _ => nE)
  all_goals first
    | (refine' Cut1.on ?zzcuF ⟨_, _, _, _, _, _, _, _, _, _, _, _, _, _, _, _, _, _, rfl, ⟨rfl, ?zzcub, ?zzcun⟩, ⟨⟨_, List.Mem.head _⟩, NmAt.sub ?zza1 ?zzs1, NmAt.sub ?zza2 ?zzs2, NmAt.sub ?zza3 ?zzs3, NmAt.sub ?zza4 ?zzs4, ?zzp3, ?zzp4⟩⟩ (News.front nE (Front.step Front.here)); (case zzcuF => with_reducible assumption); (case zzcub => with_reducible assumption); (case zzcun => k_extra "my_ne"); (case zza1 => with_reducible assumption); (case zza2 => with_reducible assumption); (case zza3 => with_reducible assumption); (case zza4 => with_reducible assumption); (case zzs1 => k_extra "my_sub"); (case zzs2 => k_extra "my_sub"); (case zzs3 => k_extra "my_sub"); (case zzs4 => k_extra "my_sub"); (case zzp3 => exact imp_true (by with_reducible assumption)); (case zzp4 => exact imp_true (by with_reducible assumption)))
    | (refine' Cut1.on ?zzcuF ⟨_, _, rfl, ⟨rfl, ?zzcub, ?zzcun⟩, ?zzcus, BoxAt.of (List.Mem.head _) ?zza1 ?zza2 ?zza3 ?zza4⟩ (News.front nE (Front.step (Front.step Front.here))); (case zzcuF => with_reducible assumption); (case zzcub => with_reducible assumption); (case zzcun => k_extra "my_ne"); (case zzcus => k_extra "my_sub"); (case zza1 => k_extra "my_at"); (case zza2 => k_extra "my_at"); (case zza3 => k_extra "my_at"); (case zza4 => k_extra "my_at"))
    | skip
  · (rename Fr _ _ _ _ => lF')
    with_unfolding_all refine' iter_refs ?zzhh ?zzhl ?zzhF ?zzhN ?zzturn ?zzdone
    case zzhh => rfl
    case zzhF => exact lF'
    case zzhN => exact nE
    case zzhl => exact List.Mem.tail _ hmP
    case zzturn =>
      intro vT hT tkT big' hvT hbig' FT' NT'
      replace FT' : Fr g' L' hT _ := FT'
      replace NT' : News g' L' hT _ := NT'
      obtain ⟨qP, xP, yP, rfl, hP⟩ := hPts _ hvT
      obtain ⟨dM, tm1, tm2, tm3, tm4, tm5, tm6, rm1, rm2, rm3, rm4, rm5, rm6, hm1, hm2, hMb⟩ := (hMx.sub (by k_extra "my_sub" : ∀ p ∈ restM, p ∈ big')).opn
      clear nE lF'
      k_steps
      all_goals (rename News _ _ _ _ => nE)
      · k_asm
      · exact cb_drop nE (by k_extra "my_sub")
    case zzdone =>
      intro uD hD tkD FD' ND'
      replace FD' : Fr g' L' hD _ := FD'
      replace ND' : News g' L' hD _ := ND'
      k_steps
      all_goals (rename News _ _ _ _ => nE)
      · exact hret _ _ _ _ (by k_asm) (nw_one nE (by k_extra "my_mem")) ⟨rfl, _, _, _, _, rfl, by with_reducible assumption⟩
      · refine' Cut1.on ?zzcuF ⟨_, _, _, _, _, _, _, _, rfl, ⟨rfl, ?zzcub, ?zzcun⟩, ?zzcus, PtAt.of (List.Mem.head _) ?zzcx ?zzcy⟩ (News.front nE (Front.step Front.here))
        case zzcuF => k_asm
        case zzcub => with_reducible assumption
        case zzcun => k_extra "my_ne"
        case zzcus => k_extra "my_sub"
        case zzcx => k_extra "my_atu"
        case zzcy => k_extra "my_atu"
  · refine' Cut1.on ?zzcuF ⟨_, _, _, _, _, _, _, _, rfl, ⟨rfl, ?zzcub, ?zzcun⟩, ?zzcus, List.Mem.head _, ?zzcuv⟩ (News.front nE (Front.step (Front.step (Front.step Front.here))))
    case zzcuF => with_reducible assumption
    case zzcub => with_reducible assumption
    case zzcun => k_extra "my_ne"
    case zzcus => k_extra "my_sub"
    case zzcuv =>
      refine' pts5 ?zzq1 ?zzq2 ?zzq3 ?zzq4 ?zzq5
      case zzq1 => k_extra "my_pt5"
      case zzq2 => k_extra "my_pt5"
      case zzq3 => k_extra "my_pt5"
      case zzq4 => k_extra "my_pt5"
      case zzq5 => k_extra "my_pt5"
  · refine' Cut1.on ?zzcuF ⟨_, _, rfl, ⟨rfl, ?zzcub, ?zzcun⟩, ?zzcus, PtAt.of (List.Mem.head _) ?zzcx ?zzcy⟩ (News.front nE (Front.step Front.here))
    case zzcuF => with_reducible assumption
    case zzcub => with_reducible assumption
    case zzcun => k_extra "my_ne"
    case zzcus => k_extra "my_sub"
    case zzcx => k_extra "my_at"
    case zzcy => k_extra "my_at"
  · refine' Cut2.on ?zzcuF ⟨_, _, _, rfl, rfl, ⟨rfl, ?zzcub, ?zzcun⟩, ?zzcus, MxAt.sub ?zzcx ?zzcxs, ScAt.sub ?zzcy ?zzcys⟩ (News.front nE (Front.step Front.here))
    case zzcuF => k_asm
    case zzcub => with_reducible assumption
    case zzcun => k_extra "my_ne"
    case zzcus => k_extra "my_sub"
    case zzcx => with_reducible assumption
    case zzcy => with_reducible assumption
    case zzcxs => k_extra "my_sub"
    case zzcys => k_extra "my_sub"
  · refine' Cut2.on ?zzcuF ⟨_, _, _, _, _, _, _, rfl, rfl, ⟨rfl, ?zzcub, ?zzcun⟩, al_four hAl1 ?zzcx⟩ (cb_drop nE ?zzcus)
    case zzcuF => k_asm
    case zzcub => with_reducible assumption
    case zzcx => with_reducible assumption
    case zzcun => with_reducible assumption
    case zzcus => k_extra "my_sub"
  · refine' Cut1.on ?zzcuF ⟨_, _, _, _, _, _, rfl, ⟨rfl, ?zzcub, ?zzcun⟩, al_nine ?zzcx ?zzcy⟩ (cb_drop nE ?zzcus)
    case zzcuF => with_reducible assumption
    case zzcub => with_reducible assumption
    case zzcx => with_reducible assumption
    case zzcy => with_reducible assumption
    case zzcun => with_reducible assumption
    case zzcus => k_extra "my_sub"
  · refine' Cut2.on ?zzcuF ⟨_, _, _, _, _, _, _, _, _, rfl, rfl, ⟨rfl, ?zzcub, ?zzcun⟩, ?zzcus, ?zzcx, ?zzcy, pos_div ?zzp1 ?zzp2, pos_div ?zzp3 ?zzp4⟩ (News.front nE (Front.step Front.here))
    case zzcuF => k_asm
    case zzcub => with_reducible assumption
    case zzcun => k_extra "my_ne"
    case zzcus => k_extra "my_sub"
    case zzcx => k_extra "my_at"
    case zzcy => k_extra "my_at"
    case zzp1 => omega
    case zzp2 => omega
    case zzp3 => omega
    case zzp4 => omega
-- Y1
section
variable {prog : Program} {w : World} {A₀ A : Around} {s : Shared} {base h₀ : Heap} {L a : Addr} {m : Str → Option Value} {env : Env} {news : List (Addr × Obj)} {K : Frag} {p : Program} {loose : List Str} {mean : ExcName → Option Value} {mg mb : Str → Option Value}
    {R : Result → Shared → Prop} {name qual : Str} {params : Arguments} {body : List Stmt} {scope : Scope} {dV kV doc pm cdv ct oc : Value} {an od : Option Addr} {osl : Array (Option Value)} {f : Addr} {args : Args} {binds : List (Str × Value)}
/-- a def whose body tries is called from the law's own frame, whatever cells that frame has -/
theorem code_try (B : Below A₀ base [] h₀) (F : Fr h₀ L s.heap m) (X₀ : K.In h₀) (N : News h₀ L s.heap news) (T : Top p loose mean mg mb h₀) (hA : A.frames = some [env]) (hf : env.frame = some L) (hke : env.scope.kind = .function)
    (ho : K.lookup f = some ⟨oc, od, .func (fnOf name qual params body scope dV kV doc pm an cdv ct), osl⟩) (hcd : codeIn K cdv qual = true) (hroom : A.depth < recursionLimit)
    (hbind : BindsTo s (fnOf name qual params body scope dV kV doc pm an cdv ct) args binds) (hloc : ∀ y ∈ binds, scope.names.lookup y.1 = some .local)
    (h : ∀ g L' h₁, Fr h₀ L g m → Fr g L' h₁ (fun y => binds.reverse.lookup y) → News g L' h₁ news → Below A base [env] g → K.In g → Top p loose mean mg mb g → KtsDicts ([env].filterMap (·.frame)) g →
      wpAny (model prog w) (A.deeper (envOf qual scope L' f cdv)) (execs body (envOf qual scope L' f cdv))
        (fun fl s' => LeaveS0 ([env].filterMap (·.frame)) h₀ L m g R (match fl with | .ret v => v | _ => .none) s')
        (fun e s' => wpAny (model prog w) (A.deeper (envOf qual scope L' f cdv)) (leaving (envOf qual scope L' f cdv) e) (fun _ s'' => R (.error e) s'') (fun e' s'' => R (.error e') s'') s')
        { s with heap := h₁, toks := s.toks + binds.length })
    (hco : scope.isCoroutine = false) (hgen : scope.isGenerator = false) (hk : scope.kind = .function)
    (hcell : ∀ x ∈ scope.names, x.2 ≠ .cell) : codeAny (model prog w) A (.call (.ref f) args) R s := by
  have X := X₀.keeps F.keep
  obtain ⟨FG, BG, st, -⟩ := groundX (R := R) B F N hA hf hke
  have hfs : [env].filterMap (·.frame) = [L] := by simp [hf]
  refine codeAny_call_def (fd := fnOf name qual params body scope dV kV doc pm an cdv ct) (body := body) (binds := binds) hroom (X _ _ ho) rfl (T.nolimit.keeps F.keep) (codeRec_of X hcd) rfl hbind hcell hloc (fun h₁ hns hk₁ => ?_) hco hgen hk
  obtain ⟨oL, es, ep, hLg, hLd, hLk, hLf⟩ := FG.ns
  refine wpAny_mono (h _ s.heap.objs.size h₁ FG ⟨hns, fun b o e => hk₁ b o (of_hideAll _ e), Nat.le_of_eq (hideAll_size _ _)⟩
    (fun p hp => ⟨hk₁ _ _ (N p hp).1, Nat.ne_of_lt (Heap.lt_size (N p hp).1), hideAll_none _ (List.mem_map_of_mem hp)⟩) BG (X₀.keeps st) (T.keeps st) (fun b hb => by
      rw [hfs] at hb
      rw [List.mem_singleton.mp hb]
      exact ⟨oL, es, ep, hLg, hLd⟩)) (fun fl s' hl => ?_) fun _ _ y => y
  obtain ⟨g', L', m', news', T', F', N', k⟩ := hl
  rw [hfs] at T'
  have nL₀ : h₀.get? L = none := kts_self F
  obtain ⟨sl, hs⟩ := T'.up hLg
  refine k ⟨⟨_, es, ep, F'.keep _ _ hs, hLd, hLk, hLf⟩, fun b o e => F'.keep b o (T'.other b o (st b o e) (fun q => by
    rw [List.mem_singleton.mp q, nL₀] at e
    cases e)), F.above⟩ fun p hp => ⟨(N' p hp).1, fun q => ?_, ?_⟩
  · have := (N' p hp).2.2; rw [q, hs] at this; cases this
  · cases q : h₀.get? p.1 with
    | none => rfl
    | some o =>
      obtain ⟨sl', hs'⟩ := T'.up (st _ _ q)
      have := (N' p hp).2.2
      rw [hs'] at this
      cases this
end
/-- what a call of the def at f from the law's own frame ends in -/
abbrev Fn0 (w : World) (p : Program) (loose : List Str) (mean : ExcName → Option Value) (mg mb : Str → Option Value) (D : Nat) (f : Addr) (vs : List Value) (news : List (Addr × Obj)) (Out : Value → List (Addr × Obj) → Prop) : Prop :=
  ∀ (dp un : Nat) (gd : Option (List Code)) (cn : Str) (cs : Scope) (a : Addr) (ccd : Value) (cl : List (Str × Addr)) (A₀ : Around) (h₀ : Heap) (L : Addr) (m : Str → Option Value) (s : Shared) (Q E : Value → Shared → Prop),
    Below A₀ h₀ [] h₀ → Fr h₀ L s.heap m → (KK w.params).In h₀ → News h₀ L s.heap news → Top p loose mean mg mb h₀ → cs.kind = .function → dp + D < recursionLimit → un + 8 * D < cLine →
    (∀ v news' h' tk', Fr h₀ L h' m → News h₀ L h' news' → Out v news' → Q v { s with heap := h', toks := tk' }) →
    wpAny (model PySem.Challenge.pw_pf0196_01 w) (ktrTop dp un gd cn cs L a ccd cl []) (call (.ref f) vs) Q E s
-- Y1B
theorem TanIs.of {x y c d : Rat} (h : TanIs x c) (e : y = x) (k : d = c) : TanIs y d := by rw [e, k]; exact h
theorem TanNo.of {x y : Rat} (h : TanNo x) (e : y = x) : TanNo y := by rw [e]; exact h
/-- what the law knows of the tangent of s degrees -/
structure KnT (s c : Int) : Prop where
  is : TanIs (s : Rat) (c : Rat)
  b : -1 ≤ c ∧ c ≤ 1
theorem kn_0 : KnT 0 0 := ⟨tan_0.of rfl rfl, by decide⟩
theorem kn_45 : KnT 45 1 := ⟨tan_45.of (by decide +kernel) (by decide +kernel), by decide⟩
theorem kn_m45 : KnT (-45) (-1) := ⟨tan_m45.of (by decide +kernel) (by decide +kernel), by decide⟩
theorem kn_135 : KnT 135 (-1) := ⟨tan_135.of (by decide +kernel) (by decide +kernel), by decide⟩
theorem kn_180 : KnT 180 0 := ⟨tan_180.of (by decide +kernel) (by decide +kernel), by decide⟩
theorem kn_225 : KnT 225 1 := ⟨tan_225.of (by decide +kernel) (by decide +kernel), by decide⟩
theorem no_of {s : Int} (h : s ∈ [(90 : Int), -90, 270]) : TanNo (s : Rat) ∧ -90 ≤ s ∧ s ≤ 270 := by
  simp only [List.mem_cons, List.not_mem_nil, or_false] at h
  rcases h with rfl | rfl | rfl
  · exact ⟨tan_90.of (by decide +kernel), by decide, by decide⟩
  · exact ⟨tan_m90.of (by decide +kernel), by decide, by decide⟩
  · exact ⟨tan_270.of (by decide +kernel), by decide, by decide⟩
theorem six_b {s : Int} (h : s ∈ [(-45 : Int), 0, 45, 135, 180, 225]) : -45 ≤ s ∧ s ≤ 225 := by
  simp only [List.mem_cons, List.not_mem_nil, or_false] at h
  omega
theorem six_or {s : Int} (h : s ∈ [(-45 : Int), 0, 45, 135, 180, 225]) : s = -45 ∨ s = 0 ∨ s = 45 ∨ s = 135 ∨ s = 180 ∨ s = 225 := by
  simpa only [List.mem_cons, List.not_mem_nil, or_false] using h
theorem cut_int {M : Model} {T : Sem Value} {A : Around} {E : Value → Shared → Prop} {s : Shared} {Q : Value → Shared → Prop} (R : Int → Prop)
    (h1 : wpAny M A T (fun v s' => ∃ c t tk', s' = { s with toks := tk' } ∧ v = Value.int c t ∧ R c) E s) (h2 : ∀ c t tk', R c → Q (.int c t) { s with toks := tk' }) : wpAny M A T Q E s := by
  refine wpAny_mono h1 ?_ fun _ _ h => h
  rintro v s' ⟨c, t, tk', rfl, rfl, h⟩
  exact h2 c t tk' h
theorem sk_x (c a b : Rat) : 1 * a + c * b + 0 = a + c * b := by grind
theorem sk_y (c a b : Rat) : c * a + 1 * b + 0 = b + c * a := by grind
theorem tan_00 : TanIs ((0 : Int) : Rat) 0 := tan_0.of rfl rfl
theorem At.int9 {w : World} {news : List (Addr × Obj)} {a : Addr} {k : Int} {t1 t2 : Tok} {c : Nat} (h : (a, ({ cls := .type "tuple", data := .seq #[.int k t1, .int 1 t2] c } : Obj)) ∈ news) (b : Bi 9 k) : At w news a 9 (k : Rat) :=
  ⟨⟨b, Bi.of (by show (1 : Int).natAbs < 2 ^ 9; decide)⟩, t1, t2, c, .inl h⟩
-- Y2
theorem slant_spec (src : Addr) (a b : Int) (t u : Tok) (hb : 0 ≤ b ∧ b ≤ 2147483647) :
    Fn0 w p loose mean mg mb 10 462 [.ref src] [(src, srcO a b t u)] (fun v _ => v = .bool true) := by
  have zg1 := trivial
  have zg2 := trivial
  have zg3 := trivial
  have zg4 := trivial
  have zg7 := trivial
  have zg13 := trivial
  have zg15 := trivial
  have zg17 := trivial
  have zg18 := trivial
  have zg20 := trivial
  have zg21 := trivial
  have zg22 := trivial
  have zg78 := trivial
  intro dp un gd cn cs ad ccd cl A₀ h₀ L m s Q E B F X N T hk hd hu hret
  have hn0 : ∀ q ∈ ([] : List (Addr × Obj)), q.1 ≠ src := fun q h => nomatch h
  k_with "exec Assign" => (guard_hyp zg78 : True); ((with_reducible show wpAny _ _ (exec (Stmt.Assign [Expr.Tuple (Expr.Name (Str.ofString "first") _ :: _) _ _] _ _) _) _ _ _); (fail_if_success (with_reducible show wpAny _ _ _ (Cut2 _ _ _ _ _ _ _) _ _)); ((with_reducible rename Fr _ _ _ _ => lF'); refine' cut2 (Str.ofString "second") (Str.ofString "first") (fun v2 v1 nw => ∃ s1 ts1 s2 ts2 a b t u, v1 = .int s1 ts1 ∧ v2 = .int s2 ts2 ∧ SrcP src [(d', oK)] a b t u nw ∧ s1 ∈ [(-45 : Int), 0, 45, 135, 180, 225] ∧ s2 ∈ [(-45 : Int), 0, 45, 135, 180, 225]) lF' ?_ ?_); rotate_left 1; intro v1' v2' n' h' tk' F' N' O'; obtain ⟨s1, ts1, s2, ts2, aA, bA, tA, uA, e1', e2', ⟨e3', hbA, hneA⟩, hs1, hs2⟩ := O'; subst e1'; subst e2'; subst e3'; (have hr1 := six_b hs1); (have hr2 := six_b hs2); (try k_sweep); (try dsimp only))
  k_with "exec Assign" => (guard_hyp zg78 : True); ((with_reducible show wpAny _ _ (exec (Stmt.Assign [Expr.Tuple (Expr.Name (Str.ofString "x") _ :: _) _ _] _ _) _) _ _ _); (fail_if_success (with_reducible show wpAny _ _ _ (Cut2 _ _ _ _ _ _ _) _ _)); ((with_reducible rename Fr _ _ _ _ => lF'); refine' cut2 (Str.ofString "y") (Str.ofString "x") (fun v2 v1 nw => ∃ dx dy xx yy rest a b t u, v1 = .ref dx ∧ v2 = .ref dy ∧ SrcP src rest a b t u nw ∧ (d', oK) ∈ rest ∧ At w rest dx 10 xx ∧ At w rest dy 10 yy) lF' ?_ ?_); rotate_left 1; intro v1' v2' n' h' tk' F' N' O'; obtain ⟨dX, dY, xx, yy, restX, aX, bX, tX, uX, e1', e2', ⟨e3', hbX, hneX⟩, hmK, hdX, hdY⟩ := O'; subst e1'; subst e2'; subst e3'; (try k_sweep); (try dsimp only))
  k_with "exec Assign" => (guard_hyp zg78 : True); ((with_reducible show wpAny _ _ (exec (Stmt.Assign [Expr.Name (Str.ofString "due") _] _ _) _) _ _ _); (fail_if_success (with_reducible show wpAny _ _ _ (Cut1 _ _ _ _ _ _) _ _)); ((with_reducible rename Fr _ _ _ _ => lF'); refine' cut1 (Str.ofString "due") (fun v nw => ∃ (q : Addr) (c1 c2 : Int) (rest : List (Addr × Obj)), v = .ref q ∧ SrcP src rest aX bX tX uX nw ∧ (∀ p ∈ restX, p ∈ rest) ∧ KnT s1 c1 ∧ KnT s2 c2 ∧ PtAt w rest q 30 (xx + (c1 : Rat) * yy) (yy + (c2 : Rat) * xx)) lF' ?_ ?_); rotate_left 1; intro v' n' h' tk' F' N' O'; obtain ⟨qD, c1, c2, restD, e1', ⟨e2', hbD, hneD⟩, hsbD, hK1, hK2, hDue⟩ := O'; subst e1'; subst e2'; (have hT1 := hK1.is); (have hT2 := hK2.is); (try k_sweep); (try dsimp only))
  k_with "subscriptTail Name Name ref int" => (guard_hyp zg78 : True); (k_here; (rename News _ _ _ _ => lN'); first
    | ((with_reducible show wpAny _ _ (subscriptTail _ _ (Value.ref _) (Value.int s1 _)) _ _ _); refine cut_int (fun c => KnT s1 c) ?_ ?_; rotate_left 1; (intro c' tc' tk' hkn'; (have hcb' := hkn'.b); (try dsimp only)); rotate_left 1; (rcases six_or hs1 with e | e | e | e | e | e <;> (rw [e]; k_extra "my_known")))
    | ((with_reducible show wpAny _ _ (subscriptTail _ _ (Value.ref _) (Value.int s2 _)) _ _ _); refine cut_int (fun c => KnT s2 c) ?_ ?_; rotate_left 1; (intro c' tc' tk' hkn'; (have hcb' := hkn'.b); (try dsimp only)); rotate_left 1; (rcases six_or hs2 with e | e | e | e | e | e <;> (rw [e]; k_extra "my_known"))))
  k_with "KdnMade" => (guard_hyp zg78 : True); (k_here; k_dflt (refine' kdn_made_intF ?F ?N ?U ?d ?k ?n ?zzv ?_; (case zzv => rfl); (case F => k_asm); (case N => k_asm); (case U => k_updF); (case d => k_asm); (case k => rfl); (case n => exact of_decide_eq_true (by first | rfl | kernel_rfl!))); intro hK' oK F' N' hdK hfK; (try dsimp only at N'))
  k_with "my_known" => (guard_hyp zg78 : True); (k_dflt (refine kdt_tail (knd := PySem.intKind _ _) lN' (by k_extra "my_memK") (by k_asm) ?_); k_dflt (refine kdt_getItem (knd := PySem.intKind _ _) lN' (by k_extra "my_memK") (by k_asm) (intKind_is _ _ _ _) (by rfl) ?_); first | exact ⟨_, _, _, rfl, rfl, kn_0⟩ | exact ⟨_, _, _, rfl, rfl, kn_45⟩ | exact ⟨_, _, _, rfl, rfl, kn_m45⟩ | exact ⟨_, _, _, rfl, rfl, kn_135⟩ | exact ⟨_, _, _, rfl, rfl, kn_180⟩ | exact ⟨_, _, _, rfl, rfl, kn_225⟩)
  k_with "my_memK" => (guard_hyp zg78 : True); first | with_reducible assumption | (with_reducible refine' mem_tail ?_; k_extra "my_memK") | exact (by k_extra "my_sub" : ∀ p ∈ [(d', oK)], p ∈ _) _ (List.Mem.head _)
  k_with "call ref" => (guard_hyp zg78 : True); (k_here; k_dflt ((with_reducible show wpAny _ _ (call (Value.ref 343) [Value.ref _, Value.ref _]) _ _ _); (k_dflt (refine' Fn.useS mx4_S (skew_spec _ _ _ _ _ _ _ ?hx ?hy hT1 hT2) ?hne ?B ?F ?X ?N ?T ?hk ?hd ?hu ?_)); (case N => k_extra "my_src"); (case hne => k_extra "my_ne"); (case hx => k_extra "my_at"); (case hy => k_extra "my_at"); k_extra "my_side"; intro D' rest' h' tk' F' N' hne' hsb' hMx'; obtain ⟨dV', tv1, tv2, tv3, tv4, tv5, tv6, rv1, rv2, rv3, rv4, rv5, rv6, hv1', hv2', hMv2'⟩ := hMx'.opn; (try k_sweep); (try dsimp only)))
  k_with "call ref" => (guard_hyp zg78 : True); (k_here; k_dflt ((with_reducible show wpAny _ _ (call (Value.ref 308) [Value.ref _, Value.ref _]) _ _ _); (k_dflt (refine' Fn.useS (pt_S (w := w)) (point_spec _ _ _ _ _ _ _ _ _ _ 90 10 _ ?zzhM (PtAt.of ?zzh1 ?zzh2 ?zzh3) (by decide)) ?hne ?B ?F ?X ?N ?T ?hk ?hd ?hu ?_)); (case N => k_extra "my_src"); (case hne => k_extra "my_ne"); (case zzhM => k_extra "my_mx"); (case zzh1 => k_extra "my_mem"); (case zzh2 => k_extra "my_at"); (case zzh3 => k_extra "my_at"); k_extra "my_side"; intro D' rest' h' tk' F' N' hne' hsb' hPt'; (try k_sweep); (try dsimp only)))
  k_with "compareOp NotEq ref ref" => (guard_hyp zg78 : True); (k_here; refine' pts_ne ?zzI ?zzJ ?zzF ?zzN ?zzX (sk_x _ _ _) (sk_y _ _ _) ?zzhu ?_; (case zzN => k_asm); (case zzI => k_extra "my_ptat"); (case zzJ => k_extra "my_ptat"); (case zzF => k_asm); (case zzX => k_asm); (case zzhu => ke_room); k_whole; (try dsimp only))
  k_with "call ref" => (guard_hyp zg78 : True); (k_here; (with_reducible show wpAny _ _ (call (Value.ref 343) [Value.ref _, Value.ref _]) _ _ _); (have hNo := no_of hs'); (have hNb := hNo.2); k_dflt (refine' FnX.use (skew_raise _ _ _ _ _ _ ?zzhx ?zzhy hNo.1 tan_00) ?B ?F ?X ?N ?T ?hk ?hd ?hu ?_); (case N => k_asm); (case zzhx => k_extra "my_at"); (case zzhy => k_extra "my_at"); k_extra "my_side"; intro eX tX' wX gX hX' tkX FX RX UX)
  k_with "noteFrame ref" => (guard_hyp zg78 : True); (k_here; refine' caught_SO0 (KF := KK w.params) (C := 51) RX FX ?zzK UX ?zzXB ?zzTB ?zzD ?zzT0 ?zzex ?zzq ?_; (case zzK => with_reducible assumption); (case zzXB => with_reducible assumption); (case zzTB => with_reducible assumption); (case zzD => with_reducible assumption); (case zzT0 => exact KtsTurn.refl); (case zzex => k_is); (case zzq => kernel_rfl); k_whole; intro hc' gc' nc' Tc' Fc' Nc' Gc' Nl' Kc' Xc' Pc' Dc')
  refine wpAny_call ?_
  k_extra "my_entertry"
  k_steps
  all_goals (rename News _ _ _ _ => nE)
  rotate_left 1
  · refine' Cut1.on ?zzcuF ⟨_, _, _, _, rfl, ⟨rfl, ?zzcub, ?zzcun⟩, ?zzcus, ?zzk1, ?zzk2, PtAt.of (List.Mem.head _) ?zzcx ?zzcy⟩ (News.front nE (Front.step Front.here))
    case zzcuF => k_asm
    case zzcub => with_reducible assumption
    case zzcun => k_extra "my_ne"
    case zzcus => k_extra "my_sub"
    case zzcx => k_extra "my_at"
    case zzcy => k_extra "my_at"
    case zzk1 => with_reducible assumption
    case zzk2 => with_reducible assumption
  · refine' Cut2.on ?zzcuF ⟨_, _, _, _, _, _, _, _, _, rfl, rfl, ⟨rfl, ?zzcub, ?zzcun⟩, ?zzcus, ?zzcx, ?zzcy⟩ (News.front nE (Front.step Front.here))
    case zzcuF => k_asm
    case zzcub => with_reducible assumption
    case zzcun => k_extra "my_ne"
    case zzcus => k_extra "my_memK"
    case zzcx => k_extra "my_at"
    case zzcy => k_extra "my_at"
  · refine' Cut2.on ?zzcuF ⟨_, _, _, _, _, _, _, _, rfl, rfl, ⟨rfl, ?zzcub, ?zzcun⟩, ?zzcx, ?zzcy⟩ (cb_drop nE ?zzcus)
    case zzcuF => k_asm
    case zzcub => with_reducible assumption
    case zzcun => k_extra "my_ne"
    case zzcus => k_extra "my_sub"
    case zzcx => with_reducible assumption
    case zzcy => with_reducible assumption
  · exact hret _ _ _ _ (by k_asm) nE rfl
-- Z0
theorem law_al : AlIs (Str.ofString "xMidYMid") (1/2) (1/2) := ⟨by decide +kernel, by decide +kernel, .inr (.inl ⟨by decide +kernel, rfl⟩), .inr (.inl ⟨by decide +kernel, rfl⟩)⟩
theorem law_mx (box wd hg : Addr) (news : List (Addr × Obj)) (hB : BoxAt w news box 10 ((1 : Int) : Rat) ((2 : Int) : Rat) ((4 : Int) : Rat) ((2 : Int) : Rat)) (hW : At w news wd 8 ((8 : Int) : Rat)) (hH : At w news hg 8 ((10 : Int) : Rat)) :
    Fn w p loose mean mg mb 4 373 [.ref box, .ref wd, .ref hg] news (MxOut6 w news 80 2 0 0 2 (-2) (-1)) := by
  have h := fitted_dflt (p := p) (loose := loose) (mean := mean) (mg := mg) (mb := mb) box wd hg _ _ _ _ _ _ _ _ news hB hW hH (by decide +kernel) (by decide +kernel) law_al
  have e1 : scF (((8 : Int) : Rat) / ((4 : Int) : Rat)) (((10 : Int) : Rat) / ((2 : Int) : Rat)) false = 2 := by decide +kernel
  rw [e1] at h
  have e2 : (1 / 2 : Rat) * (((8 : Int) : Rat) - ((4 : Int) : Rat) * 2) - ((1 : Int) : Rat) * 2 = -2 := by decide +kernel
  have e3 : (1 / 2 : Rat) * (((10 : Int) : Rat) - ((2 : Int) : Rat) * 2) - ((2 : Int) : Rat) * 2 = -1 := by decide +kernel
  rw [e2, e3] at h
  exact h
-- Z0B
section
variable {w : World} {c : Addr} {so : Obj} {cv : Option Value} {a : Addr} {P rest : List (Addr × Obj)} {n : Nat} {x y : Rat} {o : Obj}
/-- a cell's entry is no tuple, no namespace and no own object -/
theorem cell_ne (h : so.data = .cell cv) (k : ∀ v, o.data ≠ .cell v) : (a, o) ≠ (c, so) := fun e => k cv (by rw [(Prod.mk.inj e).2]; exact h)
theorem At.offC (hc : so.data = .cell cv) (h : At w (P ++ (c, so) :: rest) a n x) : At w (P ++ rest) a n x := by
  obtain ⟨hb, t1, t2, k, h | h⟩ := h
  · exact ⟨hb, t1, t2, k, .inl (mem_off h (cell_ne hc fun v e => nomatch e))⟩
  · exact ⟨hb, t1, t2, k, .inr h⟩
theorem MxAt.offC {p q r s t u : Rat} (hc : so.data = .cell cv) (h : MxAt w (P ++ (c, so) :: rest) a n p q r s t u) : MxAt w (P ++ rest) a n p q r s t u := by
  obtain ⟨dx, t1, t2, t3, t4, t5, t6, ra, rb, rc, rd, re, rf, h1, h2, ha, hb, hc', hd', he, hf⟩ := h
  exact ⟨dx, t1, t2, t3, t4, t5, t6, ra, rb, rc, rd, re, rf, mem_off h1 (cell_ne hc fun v e => nomatch e), mem_off h2 (cell_ne hc fun v e => nomatch e), ha.offC hc, hb.offC hc, hc'.offC hc, hd'.offC hc, he.offC hc, hf.offC hc⟩
end
-- Q1
theorem big_b (x : Int) : Bi 64 (x.fmod 2147483629) := by
  have := Int.fmod_nonneg_of_pos x (b := 2147483629) (by decide)
  have := Int.fmod_lt_of_pos x (b := 2147483629) (by decide)
  exact Bi.of (by omega)
theorem pool_spec {dp un : Nat} {gd : Option (List Code)} {cn : Str} {cs : Scope} {ad : Addr} {ccd : Value} {cl : List (Str × Addr)} {A₀ : Around} {h₀ : Heap} {L : Addr} {m : Str → Option Value} {s : Shared} {Q E : Value → Shared → Prop} {sc : Addr} {vs : List Value} {ns : List Int} {t : Tok} {news : List (Addr × Obj)}
    (B : Below A₀ h₀ [] h₀) (F : Fr h₀ L s.heap m) (X : (KK w.params).In h₀) (N : News h₀ L s.heap news) (T : Top p loose mean mg mb h₀) (hk : cs.kind = .function) (hd : dp + 1 < recursionLimit) (hu : un + 8 * 1 < cLine)
    (hl : h₀.IsList sc vs.toArray) (hI : IntsAre vs ns) (hln : ns.length ≤ 1000)
    (hret : ∀ D a b t u h' tk', Fr h₀ L h' m → News h₀ L h' ((D, srcO a b t u) :: news) → 0 ≤ b ∧ b ≤ 2147483647 → Q (.ref D) { s with heap := h', toks := tk' }) :
    wpAny (model PySem.Challenge.pw_pf0196_01 w) (ktrTop dp un gd cn cs L ad ccd cl []) (call (.ref 387) [.ref sc, .int 0 t]) Q E s := by
  have zg1 := trivial
  have zg2 := trivial
  have zg3 := trivial
  have zg4 := trivial
  have zg7 := trivial
  have zg13 := trivial
  have zg23 := trivial
  have zg24 := trivial
  have zg79 := trivial
  k_with "exec Assign" => (guard_hyp zg79 : True); ((with_reducible show wpAny _ _ (exec (Stmt.Assign [Expr.Name (Str.ofString "cell") _] _ _) _) _ _ _); (fail_if_success (with_reducible show wpAny _ _ _ (Cut1 _ _ _ _ _ _) _ _)); ((with_reducible rename Fr _ _ _ _ => lF'); refine' cut1 (Str.ofString "cell") (fun v nw => ∃ c t, v = .int c t ∧ news = nw) lF' ?_ ?_); rotate_left 1; intro v' n' h' tk' F' N' O'; obtain ⟨c', t', e1', e2'⟩ := O'; subst e1'; subst e2'; (try k_sweep); (try dsimp only))
  k_with "call builtin:len" => (guard_hyp zg79 : True); (k_here; k_dflt (refine' call_len_list (stays_list (Fr.keep ?zzF) hl') ?zzb ?_; (case zzF => k_asm); (case zzb => omega)); (try dsimp only))
  k_with "call builtin:max" => (guard_hyp zg79 : True); (k_here; (rename News _ _ _ _ => lN'); (with_unfolding_all refine' max_two_N ?zzh ?zzF lN' ?_; (case zzh => with_unfolding_all rfl); (case zzF => k_asm)); intro h' tk' F' N'; (try k_sweep); (try dsimp only))
  k_with "subscriptTail Name Name ref int" => (guard_hyp zg79 : True); (k_here; k_dflt (refine' item_list_ints (stays_list (Fr.keep ?zzF) hl') hI ?zz0 ?zz1 ?zz2 ?_; (case zzF => k_asm); (case zz0 => omega); (case zz1 => omega); (case zz2 => decide)); intro t'; (try dsimp only))
  have hsz : vs.toArray.size = ns.length := by rw [List.size_toArray]; exact hI.length
  refine wpAny_call ?_
  k_extra "my_enter"
  have hl' := stays_list (Below.stays B') hl
  k_steps
  all_goals (rename News _ _ _ _ => nE)
  all_goals (try (refine' Cut1.on ?zzcuF ⟨_, _, rfl, rfl⟩ nE; (case zzcuF => with_reducible assumption)))
  all_goals (exact hret _ _ _ _ _ _ _ (by k_asm) nE lcg_b)
-- Q2
section
variable {w : World} {c : Addr} {so : Obj} {cv : Option Value} {a : Addr} {P rest : List (Addr × Obj)} {n : Nat} {x y : Rat} {v : Value} {news' : List (Addr × Obj)}
theorem PtAt.offC (hc : so.data = .cell cv) (h : PtAt w (P ++ (c, so) :: rest) a n x y) : PtAt w (P ++ rest) a n x y := by
  obtain ⟨p, q, k, h1, h2, h3⟩ := h
  exact ⟨p, q, k, mem_off h1 (cell_ne hc fun v e => nomatch e), h2.offC hc, h3.offC hc⟩
theorem mx6_C (hc : so.data = .cell cv) {x1 x2 x3 x4 x5 x6 : Rat} (h : MxOut6 w ((c, so) :: rest) n x1 x2 x3 x4 x5 x6 v news') : OutS c so rest (fun D nw => MxAt w nw D n x1 x2 x3 x4 x5 x6) v news' := by
  obtain ⟨D, p1, p2, p3, p4, p5, p6, _, _, _, _, rfl, rfl, rfl, rfl, rfl, rfl, l1, l2, l3, l4, l5, l6, hM⟩ := h
  refine ⟨D, [p1, p2, p3, p4, p5, p6], rfl, rfl, ?_, MxAt.offC hc (P := [p1, p2, p3, p4, p5, p6]) hM⟩
  simp only [List.mem_cons, List.not_mem_nil, or_false, forall_eq_or_imp, forall_eq]
  exact ⟨lt_src l1, lt_src l2, lt_src l3, lt_src l4, lt_src l5, lt_src l6⟩
theorem pt_C (h : PtOut ((c, so) :: rest) n x y v news') : OutS c so rest (fun D nw => PtAt w nw D n x y) v news' := by
  obtain ⟨D, d1, d2, k, s1, s2, c1, s3, s4, c2, _, _, rfl, rfl, rfl, rfl, l1, l2, l3, b1, b2⟩ := h
  refine ⟨D, [_, _, _], rfl, rfl, ?_, PtAt.of (List.Mem.head _) (At.here (.tail _ (.tail _ (.head _))) b1) (At.here (.tail _ (.head _)) b2)⟩
  simp only [List.mem_cons, List.not_mem_nil, or_false, forall_eq_or_imp, forall_eq]
  exact ⟨lt_src l3, lt_src l2, lt_src l1⟩
end
/-- behind a statement that stores a cell: what P says of the ledger -/
def Cut0 (P : List (Addr × Obj) → Prop) (h₀ : Heap) (L : Addr) (m : Str → Option Value) (s : Shared) (fl : Flow) (s' : Shared) : Prop :=
  fl = .next ∧ ∃ news' h' tk', s' = { s with heap := h', toks := tk' } ∧ Fr h₀ L h' m ∧ News h₀ L h' news' ∧ P news'
theorem cut0 {M : Model} {T : Sem Flow} {A : Around} {E : Value → Shared → Prop} {s : Shared} {h₀ : Heap} {L : Addr} {m : Str → Option Value} {Q : Flow → Shared → Prop} (P : List (Addr × Obj) → Prop)
    (_ : Fr h₀ L s.heap m) (h1 : wpAny M A T (Cut0 P h₀ L m s) E s) (h2 : ∀ news' h' tk', Fr h₀ L h' m → News h₀ L h' news' → P news' → Q .next { s with heap := h', toks := tk' }) : wpAny M A T Q E s := by
  refine wpAny_mono h1 ?_ fun _ _ h => h
  rintro fl s' ⟨rfl, n, h, t, rfl, F, N, p⟩
  exact h2 n h t F N p
theorem Cut0.on {P : List (Addr × Obj) → Prop} {h₀ h' : Heap} {L : Addr} {m : Str → Option Value} {s : Shared} {news' : List (Addr × Obj)} {tk' : Nat} (F : Fr h₀ L h' m) (p : P news') (N : News h₀ L h' news') :
    Cut0 P h₀ L m s .next { s with heap := h', toks := tk' } := ⟨rfl, news', h', tk', rfl, F, N, p⟩
/-- the law's own scope -/
abbrev lawSc : Scope := ⟨.function, [((.ofString "script"), .local), ((.ofString "matrix"), .cell), ((.ofString "source"), .local), ((.ofString "fitted"), .globalImplicit), ((.ofString "_law_pool"), .globalImplicit), ((.ofString "_law_box_right"), .globalImplicit), ((.ofString "_law_slant_right"), .globalImplicit)], false, false, [((.ofString "fast"), (.str (.ofString "script"))), ((.ofString "fast"), (.str (.ofString "matrix"))), ((.ofString "fast"), (.str (.ofString "p"))), ((.ofString "fast"), (.str (.ofString "source")))]⟩
/-- the cell's entry, and what else there is -/
structure MxC (w : World) (c mx : Addr) (rest news' : List (Addr × Obj)) : Prop where
  out : ∃ so, news' = (c, so) :: rest ∧ so.data = .cell (some (.ref mx)) ∧ (∀ p ∈ rest, p.1 ≠ c) ∧ MxAt w rest mx 80 2 0 0 2 (-2) (-1)
-- Q4
/-- a turn's end: what it made, and what it hands back -/
def TurnQ (h₀ : Heap) (L : Addr) (m : Str → Option Value) (s : Shared) (I C D : Addr) (oI oC oD : Obj) (big : List (Addr × Obj)) (R : Value → List (Addr × Obj) → Prop) (y : Value) (s₂ : Shared) : Prop :=
  ∃ h' tk' new, s₂ = { s with heap := h', toks := tk' } ∧ Fr h₀ L h' m ∧ News h₀ L h' (new ++ (I, oI) :: (C, oC) :: (D, oD) :: big) ∧ (∀ p ∈ new, @LT.lt Nat _ I p.1 ∧ @LT.lt Nat _ C p.1 ∧ @LT.lt Nat _ D p.1) ∧ R y (new ++ big)
theorem TurnQ.of {h₀ h' : Heap} {L : Addr} {m : Str → Option Value} {s : Shared} {I C D : Addr} {oI oC oD : Obj} {big : List (Addr × Obj)} {R : Value → List (Addr × Obj) → Prop} {y : Value} {tk' : Nat} {d1 d2 d3 : Addr} {o1 o2 o3 : Obj} (F : Fr h₀ L h' m)
    (N : News h₀ L h' ((d1, o1) :: (d2, o2) :: (d3, o3) :: (I, oI) :: (C, oC) :: (D, oD) :: big)) (l1 : ∀ p ∈ (I, oI) :: (C, oC) :: (D, oD) :: big, p.1 < d1) (l2 : ∀ p ∈ (I, oI) :: (C, oC) :: (D, oD) :: big, p.1 < d2) (l3 : ∀ p ∈ (I, oI) :: (C, oC) :: (D, oD) :: big, p.1 < d3)
    (r : R y ((d1, o1) :: (d2, o2) :: (d3, o3) :: big)) : TurnQ h₀ L m s I C D oI oC oD big R y { s with heap := h', toks := tk' } := by
  refine ⟨h', tk', [(d1, o1), (d2, o2), (d3, o3)], rfl, F, N, ?_, r⟩
  have k : ∀ {d : Addr}, (∀ p ∈ (I, oI) :: (C, oC) :: (D, oD) :: big, p.1 < d) → I < d ∧ C < d ∧ D < d := fun h => ⟨h _ (.head _), h _ (.tail _ (.head _)), h _ (.tail _ (.tail _ (.head _)))⟩
  intro p hp
  simp only [List.mem_cons, List.not_mem_nil, or_false] at hp
  rcases hp with rfl | rfl | rfl
  · exact k l1
  · exact k l2
  · exact k l3
section
variable {prog : Program} {w : World} {A : Around} {s : Shared} {h₀ : Heap} {L : Addr} {m : Str → Option Value} {env : Env} {elt : Expr} {x : Str} {scope : Scope} {cl : List (Str × Addr)} {S : List (Addr × Obj) → Prop} {P : Nat → Value → Prop} {Fin : List Value → List (Addr × Obj) → Prop} {b₀ : List (Addr × Obj)} {R : Nat → Value → List (Addr × Obj) → Prop}
/-- the turns of a comprehension, by what each hands back -/
theorem comp_turns (hR : ∀ i y a b, (∀ p ∈ a, p ∈ b) → R i y a → R i y b) (hS : ∀ big, (∀ p ∈ b₀, p ∈ big) → S big)
    (turn : ∀ i v I oI C oC D ys m₂ h tk E' big, P i v → (∀ p ∈ b₀, p ∈ big) → LCg.NsObj oC m₂ → m₂ x = some v → Fr h₀ L h m → News h₀ L h ((I, oI) :: (C, oC) :: (D, LCg.lst ys) :: big) →
      wpAny (model prog w) A (eval elt (compEnvC scope cl C env)) (TurnQ h₀ L m s I C D oI oC (LCg.lst ys) big (R i)) E' { s with heap := h, toks := tk }) :
    ∀ (k i : Nat) (ys : List Value) (big : List (Addr × Obj)), (∀ p ∈ b₀, p ∈ big) →
      (∀ ys' news', ys'.length = k → (∀ p ∈ b₀, p ∈ news') → (∀ p ∈ big, p ∈ news') → (∀ j y, ys'[j]? = some y → R (i + j) y news') → Fin (ys ++ ys') news') →
      LCg.CompRest prog w A h₀ L m env elt x scope cl s S P Fin k i ys big
  | 0, i, ys, big, hb, fin => LCg.CompRest.zero (by have := fin [] big rfl hb (fun _ h => h) (fun j y h => nomatch h); rwa [List.append_nil] at this)
  | k + 1, i, ys, big, hb, fin => by
    refine LCg.CompRest.succ fun v I oI C oC D m₂ h tk E' hP hC hx F N off ne => ?_
    refine wpAny_mono (turn i v I oI C oC D ys m₂ h tk E' big hP hb hC hx F N) ?_ fun _ _ e => e
    rintro y s₂ ⟨h', tk', new, rfl, F', N', hn, r⟩
    have hbn : ∀ p ∈ big, p ∈ new ++ big := fun p hp => List.mem_append_right _ hp
    refine LCg.CompEnd.intro F' N' (new ++ big) ?_ (LCg.Off3.of ?_) (hS _ fun p hp => hbn p (hb p hp)) ?_
    · intro p hp
      simp only [List.mem_cons, List.mem_append] at hp ⊢
      rcases hp with h | h | h | h | h
      · exact .inr (.inl h)
      · exact .inr (.inr (.inl h))
      · exact .inr (.inr (.inr (.inl h)))
      · exact .inl h
      · exact .inr (.inr (.inr (.inr h)))
    · intro p hp
      rcases List.mem_append.mp hp with h | h
      · exact ⟨Nat.ne_of_gt (hn p h).1, Nat.ne_of_gt (hn p h).2.1, Nat.ne_of_gt (hn p h).2.2⟩
      · exact LCg.Off3.mem off p h
    · refine comp_turns hR hS turn k (i + 1) (ys ++ [y]) (new ++ big) (fun p hp => hbn p (hb p hp)) ?_
      intro ys' news' hl hb' hbig hr
      have := fin (y :: ys') news' (by rw [List.length_cons, hl]) hb' (fun p hp => hbig p (hbn p hp)) ?_
      · rwa [show ys ++ [y] ++ ys' = ys ++ y :: ys' by simp]
      · intro j z hz
        match j with
        | 0 => simp at hz; subst hz; exact hR _ _ _ _ hbig r
        | j + 1 => have := hr j z (by simpa using hz); rwa [show i + 1 + j = i + (j + 1) by omega] at this
end
section
variable {prog : Program} {w : World} {A : Around} {E : Value → Shared → Prop} {s : Shared} {h₀ : Heap} {L a b : Addr} {m : Str → Option Value} {news : List (Addr × Obj)} {k1 k2 : Nat} {i1 i2 i3 j1 j2 j3 : Nat} {p1 p2 p3 q1 q2 q3 : Addr} {x1 y1 x2 y2 x3 y3 u1 v1 u2 v2 u3 v3 : Rat} {Q : Value → Shared → Prop}
abbrev l3D (x1 y1 x2 y2 x3 y3 : Rat) : PyData := .list [ptD x1 y1, ptD x2 y2, ptD x3 y3]
theorem l3D_ok (x1 y1 x2 y2 x3 y3 : Rat) : SeqAt.shaped (l3D x1 y1 x2 y2 x3 y3) = true := rfl
theorem l3D_eq (x1 y1 x2 y2 x3 y3 : Rat) : PyData.eqv (l3D x1 y1 x2 y2 x3 y3) (l3D x1 y1 x2 y2 x3 y3) = true := by simp [PyData.eqv, PyData.eqvAll]
theorem l3_reads (hm : (a, listOf #[.ref p1, .ref p2, .ref p3] k1) ∈ news) (I1 : PtAt w news p1 i1 x1 y1) (I2 : PtAt w news p2 i2 x2 y2) (I3 : PtAt w news p3 i3 x3 y3) (F : Fr h₀ L s.heap m) (N : News h₀ L s.heap news) (X : (KK w.params).In h₀) : Reads s.heap (.ref a) (l3D x1 y1 x2 y2 x3 y3) [a] :=
  reads_list_at (N _ hm).1 rfl rfl (ReadsAll.cons (I1.reads F N X) (ReadsAll.cons (I2.reads F N X) (ReadsAll.cons (I3.reads F N X) ReadsAll.nil)))
theorem l3_ne (hm : (a, listOf #[.ref p1, .ref p2, .ref p3] k1) ∈ news) (I1 : PtAt w news p1 i1 x1 y1) (I2 : PtAt w news p2 i2 x2 y2) (I3 : PtAt w news p3 i3 x3 y3)
    (hm' : (b, listOf #[.ref q1, .ref q2, .ref q3] k2) ∈ news) (J1 : PtAt w news q1 j1 u1 v1) (J2 : PtAt w news q2 j2 u2 v2) (J3 : PtAt w news q3 j3 u3 v3)
    (F : Fr h₀ L s.heap m) (N : News h₀ L s.heap news) (X : (KK w.params).In h₀) (e : l3D x1 y1 x2 y2 x3 y3 = l3D u1 v1 u2 v2 u3 v3) (hu : A.units + 64 < cLine) (h : Q (.bool false) s) :
    wpAny (model prog w) A (compareOp .NotEq (.ref a) (.ref b)) Q E s :=
  ne_dataH (l3_reads hm I1 I2 I3 F N X) (l3_reads hm' J1 J2 J3 F N X) (l3D_ok _ _ _ _ _ _) (l3D_ok _ _ _ _ _ _) hu (by rw [e, l3D_eq]; exact h)
end
/-- what a turn of the law's comprehension hands back: the point that the i-th is led to -/
structure LedI (w : World) (pts : List (Int × Int)) (i : Nat) (y : Value) (nw : List (Addr × Obj)) : Prop where
  out : ∃ q a b, y = .ref q ∧ pts[i]? = some (a, b) ∧ PtAt w nw q 260 (2 * (a : Rat) + 0 * (b : Rat) + -2) (0 * (a : Rat) + 2 * (b : Rat) + -1)
structure GivI (w : World) (pts : List (Int × Int)) (nw : List (Addr × Obj)) (i : Nat) (v : Value) : Prop where
  out : ∃ q a b, v = .ref q ∧ pts[i]? = some (a, b) ∧ PtAt w nw q 9 (a : Rat) (b : Rat)
theorem LedI.sub {w : World} {pts : List (Int × Int)} {i : Nat} {y : Value} {a b : List (Addr × Obj)} (k : ∀ p ∈ a, p ∈ b) (h : LedI w pts i y a) : LedI w pts i y b := by
  obtain ⟨q, x, z, e1, e2, e3⟩ := h
  exact ⟨q, x, z, e1, e2, e3.sub k⟩
-- Q5
abbrev compSc : Scope := ⟨.function, [((.ofString ".0"), .local), ((.ofString "p"), .local), ((.ofString "matrix"), .free)], false, false, []⟩
theorem law_turn {dp un : Nat} {gd : Option (List Code)} {ad : Addr} {ccd : Value} {A₀ : Around} {h₀ h : Heap} {L : Addr} {m m₂ : Str → Option Value} {s : Shared} {E' : Value → Shared → Prop} {c : Addr} {so : Obj} {mx : Addr} {pts : List (Int × Int)} {b₀ big : List (Addr × Obj)} {i : Nat} {v : Value} {I C D : Addr} {oI oC : Obj} {ys : List Value} {tk : Nat}
    (B : Below A₀ h₀ [] h₀) (X : (KK w.params).In h₀) (T : Top p loose mean mg mb h₀) (hd : dp + 12 < recursionLimit) (hu : un + 8 * 12 < cLine) (hc : (c, so) ∈ b₀) (hso : so.data = .cell (some (.ref mx))) (hMx : MxAt w b₀ mx 80 2 0 0 2 (-2) (-1)) (hG : GivI w pts b₀ i v)
    (hb : ∀ p ∈ b₀, p ∈ big) (hC : LCg.NsObj oC m₂) (hx : m₂ (Str.ofString "p") = some v) (F : Fr h₀ L h m) (N : News h₀ L h ((I, oI) :: (C, oC) :: (D, LCg.lst ys) :: big)) :
    wpAny (model PySem.Challenge.pw_pf0196_01 w) (ktrTop dp un gd (Str.ofString "law") lawSc L ad ccd [(Str.ofString "matrix", c)] [])
      (eval (Expr.Call (Expr.Attribute (Expr.Name (Str.ofString "matrix") ⟨296, 8, 296, 14⟩) (Str.ofString "point") ⟨296, 8, 296, 20⟩) [Expr.Name (Str.ofString "p") ⟨296, 21, 296, 22⟩] [] ⟨296, 8, 296, 23⟩) (compEnvC compSc [(Str.ofString "matrix", c)] C (envX (Str.ofString "law") lawSc L ad ccd [(Str.ofString "matrix", c)])))
      (TurnQ h₀ L m s I C D oI oC (LCg.lst ys) big (LedI w pts i)) E' { s with heap := h, toks := tk } := by
  have zg1 := trivial
  have zg2 := trivial
  have zg3 := trivial
  have zg4 := trivial
  have zg7 := trivial
  have zg13 := trivial
  have zg15 := trivial
  have zg17 := trivial
  have zg18 := trivial
  have zg19 := trivial
  have zg80 := trivial
  obtain ⟨q, a, b, rfl, hi, hq⟩ := hG
  have hcb := hb _ hc
  have hMb := hMx.sub hb
  obtain ⟨dxM, tm1, tm2, tm3, tm4, tm5, tm6, rm1, rm2, rm3, rm4, rm5, rm6, hm1, hm2, -⟩ := hMb.opn
  have hqb := hq.sub hb
  k_with "call ref" => (guard_hyp zg80 : True); (k_here; (k_dflt (show wpAny _ _ (call (Value.ref 308) [Value.ref _, Value.ref _]) _ _ _)); k_dflt (refine' Fn.usePt _ (point_spec _ _ _ _ _ _ _ _ _ _ 80 9 _ (MxAt.sub hMb ?zzs) (PtAt.sub hqb ?zzt) (by decide)) (fun _ h => h) ?B ?F ?X ?N ?T ?hk ?hd ?hu ?_); (case N => k_asm); (case zzs => k_extra "my_sub"); (case zzt => k_extra "my_sub"); k_extra "my_side"; intro D' a' b' c' s1' s2' c1' s3' s4' c2' x' y' h' tk' ex' ey' F' N' lA' lB' lD' bx' by'; (try k_sweep); (try dsimp only))
  k_steps
  rename News _ _ _ _ => nE
  subst ex' ey'
  refine' TurnQ.of ?zzF nE lD' lB' lA' ⟨_, _, _, rfl, hi, PtAt.of (List.Mem.head _) (At.here (.tail _ (.tail _ (.head _))) ?zz1) (At.here (.tail _ (.head _)) ?zz2)⟩
  case zzF => k_asm
  case zz1 => exact bx'
  case zz2 => exact by'
-- Q6
theorem giv3 {w : World} {nw : List (Addr × Obj)} {q1 q2 q3 : Addr} {a1 b1 a2 b2 a3 b3 : Int} (h1 : PtAt w nw q1 9 (a1 : Rat) (b1 : Rat)) (h2 : PtAt w nw q2 9 (a2 : Rat) (b2 : Rat)) (h3 : PtAt w nw q3 9 (a3 : Rat) (b3 : Rat)) {i : Nat} {v : Value} (h : (#[Value.ref q1, .ref q2, .ref q3] : Array Value)[i]? = some v) :
    GivI w [(a1, b1), (a2, b2), (a3, b3)] nw i v := by
  match i with
  | 0 => simp at h; subst h; exact ⟨_, _, _, rfl, rfl, h1⟩
  | 1 => simp at h; subst h; exact ⟨_, _, _, rfl, rfl, h2⟩
  | 2 => simp at h; subst h; exact ⟨_, _, _, rfl, rfl, h3⟩
  | n + 3 => simp at h
/-- the three points that the law's comprehension hands back -/
structure Led3 (w : World) (nw : List (Addr × Obj)) (ys : List Value) : Prop where
  out : ∃ q1 q2 q3, ys = [.ref q1, .ref q2, .ref q3] ∧ PtAt w nw q1 260 ((0 : Int) : Rat) ((3 : Int) : Rat) ∧ PtAt w nw q2 260 ((8 : Int) : Rat) ((3 : Int) : Rat) ∧ PtAt w nw q3 260 ((0 : Int) : Rat) ((7 : Int) : Rat)
theorem PtAt.cast {w : World} {nw : List (Addr × Obj)} {q : Addr} {n : Nat} {x y x' y' : Rat} (h : PtAt w nw q n x y) (e : x = x') (k : y = y') : PtAt w nw q n x' y' := by rw [← e, ← k]; exact h
theorem LedI.at {w : World} {nw : List (Addr × Obj)} {pts : List (Int × Int)} {i : Nat} {y : Value} {a b : Int} (h : LedI w pts i y nw) (e : pts[i]? = some (a, b)) : ∃ q, y = .ref q ∧ PtAt w nw q 260 (2 * (a : Rat) + 0 * (b : Rat) + -2) (0 * (a : Rat) + 2 * (b : Rat) + -1) := by
  obtain ⟨q, c, d, rfl, e', h'⟩ := h
  rw [e] at e'
  cases e'
  exact ⟨q, rfl, h'⟩
theorem led3 {w : World} {nw : List (Addr × Obj)} {ys : List Value} (hl : ys.length = 3) (h : ∀ j y, ys[j]? = some y → LedI w [(1, 2), (5, 2), (1, 4)] (0 + j) y nw) : Led3 w nw ys := by
  match ys, hl with
  | [y1, y2, y3], _ =>
    obtain ⟨q1, rfl, h1⟩ := (h 0 y1 rfl).at rfl
    obtain ⟨q2, rfl, h2⟩ := (h 1 y2 rfl).at rfl
    obtain ⟨q3, rfl, h3⟩ := (h 2 y3 rfl).at rfl
    exact ⟨q1, q2, q3, rfl, h1.cast (by decide +kernel) (by decide +kernel), h2.cast (by decide +kernel) (by decide +kernel), h3.cast (by decide +kernel) (by decide +kernel)⟩
/-- a point written as two whole numbers -/
theorem PtAt.ints {w : World} {nw : List (Addr × Obj)} {q d e : Addr} {c c1 c2 : Nat} {a b : Int} {t1 t2 t3 t4 : Tok} (h : (q, tup2 d e c) ∈ nw) (h1 : (d, ({ cls := .type "tuple", data := .seq #[.int a t1, .int 1 t2] c1 } : Obj)) ∈ nw) (h2 : (e, ({ cls := .type "tuple", data := .seq #[.int b t3, .int 1 t4] c2 } : Obj)) ∈ nw)
    (ha : Bi 8 a) (hb : Bi 8 b) : PtAt w nw q 9 (a : Rat) (b : Rat) := PtAt.of h (At.int (n := 8) h1 ha) (At.int (n := 8) h2 hb)
-- Q7
theorem law_body {dp un : Nat} {gd : Option (List Code)} {ad : Addr} {ccd : Value} {A₀ : Around} {h₀ : Heap} {L : Addr} {m : Str → Option Value} {s : Shared} {Q : Flow → Shared → Prop} {E : Value → Shared → Prop} {c : Addr} {so : Obj} {sc : Addr} {vs : List Value} {ns : List Int}
    (B : Below A₀ h₀ [] h₀) (F : Fr h₀ L s.heap (fun y => if y = Str.ofString "script" then some (.ref sc) else m y)) (X : (KK w.params).In h₀) (N : News h₀ L s.heap [(c, so)]) (T : Top p loose mean mg mb h₀) (hd : dp + 12 < recursionLimit) (hu : un + 8 * 12 < cLine)
    (hso : so.data = .cell none) (hl : h₀.IsList sc vs.toArray) (hI : IntsAre vs ns) (hln : ns.length ≤ 1000)
    (hret : ∀ h' tk' m' news', Fr h₀ L h' m' → News h₀ L h' news' → Q (.ret (.bool true)) { s with heap := h', toks := tk' }) :
    wpAny (model PySem.Challenge.pw_pf0196_01 w) (ktrTop dp un gd (Str.ofString "law") lawSc L ad ccd [(Str.ofString "matrix", c)] []) (execs (bdy sts0 62) (envX (Str.ofString "law") lawSc L ad ccd [(Str.ofString "matrix", c)])) Q E s := by
  have zg1 := trivial
  have zg2 := trivial
  have zg3 := trivial
  have zg4 := trivial
  have zg7 := trivial
  have zg13 := trivial
  have zg15 := trivial
  have zg17 := trivial
  have zg18 := trivial
  have zg19 := trivial
  have zg81 := trivial
  have hn0 : ∀ q ∈ ([] : List (Addr × Obj)), q.1 ≠ c := fun q h => nomatch h
  k_with "exec Assign" => (guard_hyp zg81 : True); ((with_reducible show wpAny _ _ (exec (Stmt.Assign [Expr.Name (Str.ofString "matrix") _] _ _) _) _ _ _); (fail_if_success (with_reducible show wpAny _ _ _ (Cut0 _ _ _ _ _) _ _)); ((with_reducible rename Fr _ _ _ _ => lF'); refine' cut0 (fun nw => ∃ mx rest, MxC w c mx rest nw) lF' ?_ ?_); rotate_left 1; intro n' h' tk' F' N' O'; obtain ⟨mx, restX, ⟨so', e1', hso', hneX, hMx⟩⟩ := O'; subst e1'; (try k_sweep); (try dsimp only))
  k_with "call ref" => (guard_hyp zg81 : True); (k_here; (k_dflt (show wpAny _ _ (call (Value.ref 373) [Value.ref _, Value.ref _, Value.ref _]) _ _ _)); k_dflt ((refine' Fn.useS (mx6_C hso) (law_mx _ _ _ _ ?zzB ?zzW ?zzH) ?hne ?B ?F ?X ?N ?T ?hk ?hd ?hu ?_); (case N => k_extra "my_src"); (case hne => k_extra "my_ne"); (case zzB => (refine' BoxAt.of ?zz0 (At.int (n := 9) ?zz1 (Bi.of (by decide))) (At.int (n := 9) ?zz2 (Bi.of (by decide))) (At.int (n := 9) ?zz3 (Bi.of (by decide))) (At.int (n := 9) ?zz4 (Bi.of (by decide))); (case zz0 => k_extra "my_mem"); (case zz1 => k_extra "my_mem"); (case zz2 => k_extra "my_mem"); (case zz3 => k_extra "my_mem"); (case zz4 => k_extra "my_mem"))); (case zzW => (refine' At.int (n := 7) ?zz1 (Bi.of (by decide)); (case zz1 => k_extra "my_mem"))); (case zzH => (refine' At.int (n := 7) ?zz1 (Bi.of (by decide)); (case zz1 => k_extra "my_mem")))); k_extra "my_side"; intro D' rest' h' tk' F' N' hne' hsb' hMx'; (try k_sweep); (try dsimp only))
  k_with "call ref" => (guard_hyp zg81 : True); (k_here; (k_dflt (show wpAny _ _ (call (Value.ref 387) [Value.ref _, Value.int _ _]) _ _ _)); k_dflt (refine' pool_spec B ?zzF X ?zzN T rfl ?zzd ?zzu hl hI hln ?_); (case zzF => k_asm); (case zzN => k_asm); (case zzd => omega); (case zzu => omega); intro D' aP bP tP uP h' tk' F' N' hbP; (try k_sweep); (try dsimp only))
  k_with "call ref" => (guard_hyp zg81 : True); (k_here; (k_dflt (show wpAny _ _ (call (Value.ref 455) [Value.ref _]) _ _ _)); (rename News _ _ _ _ => nC); k_dflt (refine' Fn.use (box_spec D' aP bP tP uP hbP) ?B ?F ?X ?N ?T ?hk ?hd ?hu ?_); (case N => exact nw_one nC (List.Mem.head _)); k_extra "my_side"; intro v' n' h' tk' F' N' O'; obtain ⟨e1', aB, bB, tB, uB, e2', hbB⟩ := O'; subst e1'; subst e2'; (try k_sweep); (try dsimp only))
  k_with "call ref" => (guard_hyp zg81 : True); (k_here; (k_dflt (show wpAny _ _ (call (Value.ref 462) [Value.ref _]) _ _ _)); (rename News _ _ _ _ => nC); k_dflt (refine' slant_spec _ _ _ _ _ hbB _ _ _ _ _ _ _ _ _ _ _ _ _ _ _ B ?zzF X nC T rfl ?hd ?hu ?_); (case zzF => k_asm); (case hd => omega); (case hu => omega); intro v' n' h' tk' F' N' e1'; subst e1'; (try k_sweep); (try dsimp only))
  k_with "eval ListComp" => (guard_hyp zg81 : True); (k_here; k_dflt ((refine' LCg.ListComp_U (cl := [(Str.ofString "matrix", c)]) (F₀ := ?zzF) ?zz0 ?zz1 ?zz2 ?zz3 ?zz4 ?_ ?zz5); (case zzF => k_asm); (case zz0 => kernel_rfl); (case zz1 => decide); (case zz2 => rfl); (case zz3 => decide); (case zz4 => rfl); (case zz5 => (intro _; rfl))))
  k_with "CompSrc" => (guard_hyp zg81 : True); (k_here; (rename News _ _ _ _ => nC); k_dflt ((k_dflt ((refine' LCg.CompSrc.ledger ?zz1 ?zz2 nC (List.Mem.head _) ?zz3 ?_); (case zz1 => rfl); (case zz2 => k_asm); (case zz3 => exact Nat.le_of_ble_eq_true rfl)); intro g'; k_dflt (refine' comp_turns (R := LedI w [(1, 2), (5, 2), (1, 4)]) (fun i y a b k h => LedI.sub k h) ?zhS ?zturn 3 0 [] _ (fun _ h => h) ?_); (case zhS => (intro big hb; exact .inr ⟨_, hb _ (List.Mem.head _), rfl, _, rfl⟩)); (case zturn => (intro i v I oI C oC D ys m₂ h tk E' big hP hb hC hx F' N'; refine' law_turn B X T hd hu ?zzc hso' (MxAt.sub hMx ?zzs) (giv3 (PtAt.ints ?zp1 ?zp2 ?zp3 ?zb1 ?zb2) (PtAt.ints ?zp4 ?zp5 ?zp6 ?zb3 ?zb4) (PtAt.ints ?zp7 ?zp8 ?zp9 ?zb5 ?zb6) hP) hb hC hx F' N'; (case zzc => k_extra "my_mem"); (case zzs => k_extra "my_sub"); (case zp1 => k_extra "my_mem"); (case zp2 => k_extra "my_mem"); (case zp3 => k_extra "my_mem"); (case zp4 => k_extra "my_mem"); (case zp5 => k_extra "my_mem"); (case zp6 => k_extra "my_mem"); (case zp7 => k_extra "my_mem"); (case zp8 => k_extra "my_mem"); (case zp9 => k_extra "my_mem"); (case zb1 => exact Bi.of (by decide)); (case zb2 => exact Bi.of (by decide)); (case zb3 => exact Bi.of (by decide)); (case zb4 => exact Bi.of (by decide)); (case zb5 => exact Bi.of (by decide)); (case zb6 => exact Bi.of (by decide)))); clear nC; intro ysY newsY hlY hbY hbgY hrY; obtain ⟨q1, q2, q3, rfl, hY1, hY2, hY3⟩ := led3 hlY hrY; clear hlY hbY hbgY hrY; unfold LCg.FinE; intro DY hY tkY FY NY oY; clear oY; (replace NY : News h₀ L hY ((DY, listOf #[.ref q1, .ref q2, .ref q3] 3) :: newsY) := NY); try dsimp only)))
  k_with "compareOp NotEq ref ref" => (guard_hyp zg81 : True); (k_here; (rename News _ _ _ _ => nC); k_dflt ((refine' l3_ne (N := nC) (X := X) (hm := ?zm1) (I1 := ?z1) (I2 := ?z2) (I3 := ?z3) (hm' := ?zm2) (J1 := ?z4) (J2 := ?z5) (J3 := ?z6) (F := ?zzF) (e := ?zze) (hu := ?zhu) (h := ?zh)); (case zm2 => k_extra "my_mem"); (case z1 => exact (hY1.sub (by k_extra "my_sub"))); (case z2 => exact (hY2.sub (by k_extra "my_sub"))); (case z3 => exact (hY3.sub (by k_extra "my_sub"))); (case zm1 => k_extra "my_mem"); (case z4 => (refine' (PtAt.ints ?zp1 ?zp2 ?zp3 ?zb1 ?zb2); (case zp1 => k_extra "my_mem"); (case zp2 => k_extra "my_mem"); (case zp3 => k_extra "my_mem"); (case zb1 => exact Bi.of (by decide)); (case zb2 => exact Bi.of (by decide)))); (case z5 => (refine' (PtAt.ints ?zp1 ?zp2 ?zp3 ?zb1 ?zb2); (case zp1 => k_extra "my_mem"); (case zp2 => k_extra "my_mem"); (case zp3 => k_extra "my_mem"); (case zb1 => exact Bi.of (by decide)); (case zb2 => exact Bi.of (by decide)))); (case z6 => (refine' (PtAt.ints ?zp1 ?zp2 ?zp3 ?zb1 ?zb2); (case zp1 => k_extra "my_mem"); (case zp2 => k_extra "my_mem"); (case zp3 => k_extra "my_mem"); (case zb1 => exact Bi.of (by decide)); (case zb2 => exact Bi.of (by decide)))); (case zzF => k_asm); (case zze => exact rfl); (case zhu => ke_room)); (try dsimp only))
  (conv in (execs _ _) => (arg 1; whnf))
  k_steps
  all_goals (rename News _ _ _ _ => nE)
  · exact hret _ _ _ _ (by k_asm) nE
  · refine' Cut0.on ?zzF ⟨_, _, _, rfl, ?zzd, ?zzn, ?zzm⟩ nE
    case zzF => k_asm
    case zzm => with_reducible assumption
    case zzd => k_asm
    case zzn => with_reducible assumption
-- Z4
noncomputable def wsG (l : OpenLaw) : Bool := OpenLaw.wellSaid l
theorem prime_W : (touch wsG) = true := by k_qdec
theorem run_W : PySem.W.Fast.tw6752274879689307559 PySem.Challenge.rw_pf0196_01 = true := by kernel_rfl
theorem eq_W : OpenLaw.wellSaid PySem.Challenge.rw_pf0196_01 = true := by
  show wsG PySem.Challenge.rw_pf0196_01 = true
  rw [PySem.W.Fast.te6752274879689307559]
  exact run_W
-- Z3
theorem fr_script {h₀ h : Heap} {L : Addr} {m : Str → Option Value} {x : Str} {v : Value} (F : Fr h₀ L h m) (e : m x = some v) : Fr h₀ L h (fun y => if y = x then some v else m y) := by
  have : m = fun y => if y = x then some v else m y := by
    funext y
    split
    · rename_i q; rw [q, e]
    · rfl
  rw [← this]
  exact F
end Mine
open Mine
set_option maxRecDepth 100000 in
theorem PySem.Challenge.cw_pf0196_01_holds : PySem.Challenge.rw_pf0196_01.Holds := by
  w_on
  refine holds_law eq_W fun said => ?_
  refine holds_open (q := vw) (loose := lse) (Xt := xtt) (XP := XL vw lvs) (Yf := Hook.obs HK) (Ya := Hook.val HK) (YP := Hook.says HK) (N := 6304) ?hl (Hook.of HK) (Hook.keeps HK) (fun s e => xl_of s (Bool.and_eq_true_iff.mp e).1) XL.keeps (by rfl) (by rfl) (by rfl) (fun s e => recFacts_of (Bool.and_eq_true_iff.mp e).2) (by rfl) (by first | assumption | decide +kernel) (by decide +kernel) ⟨rfl, rfl, rfl, rfl, rfl, by decide +kernel⟩ ?hw ?hc
  case hl => exact left0
  case hw => w_witness2
  w_strict (k_fill
            intro w s₀ s₁ mg mb G Y fa o pm cd doc dV kV ho hd hcd hD hmg hg args vals as hpre hlay hrd hwl hlo
            have KX := kIn_of Y
            have X := (Ground.X G).1
            have V := (Ground.X G).2
            refine Ground.open G ?_
            intro T B D TE TW
            try (refine guard_noD D (by decide +kernel) ?_; clear D)
            obtain ⟨_, _, M⟩ := bmod_of_top T
            have TA := at_of_top T
            try (obtain ⟨_, _, he, B0⟩ := based_of_top T rfl hmg ho hd; have he' : cd = _ := he; subst he'; clear he)
            clear hmg
            wrow_args hpre hlay hrd hwl hlo
            all_goals (
              first | refine callC_kw (enter_call ?_) | refine enter_call ?_ | refine callC_kw (enter_callW ?_) | refine enter_callW ?_ | w_how
              w_top on
              try refine codeAny_mono ?_ (fun _ _ g => GoodW.toG g)
              have K0 := below_caller (Top.heap T)
              w_call any ho hd hcd hD T F
              clear hd TA
              k_drop
              try k_fold))
  rename Below _ _ _ _ => lB
  rename News _ _ _ _ => lN
  rename Fr _ _ _ _ => lF
  rename Top _ _ _ _ _ _ => lT
  rename Frag.In _ _ => lX
  rename IntsAre _ _ => lI
  rename Heap.IsList _ _ _ => lL
  refine' law_body lB (fr_script lF ?he) lX lN lT ?hd ?hu ?hso lL lI ?hln ?hret
  case he => (exact rfl)
  case hd => (exact Nat.le_of_ble_eq_true rfl)
  case hu => (exact Nat.le_of_ble_eq_true rfl)
  case hso => assumption
  case hln => omega
  case hret =>
    intro h' tk' m' news' F' N'
    k_unfold
    (try dsimp only)
    k_steps
