import PyProof.Rows.All
import Wide.All
import OpenK.AllK
import Wide.FinOn
import PySem.Challenge.RW_pq1453_01
open PySem PySem.W PyProof.Rows PySem.Calls
set_option Elab.async false
set_option maxRecDepth 100000
set_option maxHeartbeats 0
set_option linter.unusedVariables false
set_option compiler.extract_closed false
namespace Mine
section
noncomputable def view : Program := { PySem.Challenge.rw_pq1453_01.row.prog with main := { PySem.Challenge.rw_pq1453_01.row.prog.main with body := (((PySem.Challenge.rw_pq1453_01.row.prog.main.body.eraseIdx 65).eraseIdx 44).eraseIdx 19).eraseIdx 0 } }
theorem said : OpenLaw.wellSaid PySem.Challenge.rw_pq1453_01 = true := by
  rw [PySem.W.Fast.te9446332074065402090]
  kernel_rfl
theorem top1 (w : World) : (openEnds treeTable PySem.Challenge.rw_pq1453_01.row.prog w 4296).map (fun s => (seen ((recsOf view).map (·.name)) (ownsOf view) [] { s with gens := #[] }, s.heap.bltView)) = some (expectedOf view, bltViewBooted) := by
  unfold openEnds fencedOpening topFrom
  simp only [PySem.W.Fast.te14082659384304107361, PySem.W.Fast.te10274390034422433532, PySem.W.Fast.te14289696077712309145, PySem.W.Fast.te1435165496053646825, PySem.W.Fast.te14364793385576792824]
  kernel_rfl
theorem top2 (w : World) : (openEnds treeTable PySem.Challenge.rw_pq1453_01.row.prog w 4296).map (fun s => s.heap.keysOk (looseW view [Str.ofString "MODES", Str.ofString "STATES_BY_Z"]) ((recsOf view).map (·.name)) ((litsOf view).map (·.1)) ((clssOf view (looseW view [Str.ofString "MODES", Str.ofString "STATES_BY_Z"])).map (·.name)) && s.heap.accountedOkI (importedModules PySem.Challenge.rw_pq1453_01.row.prog.main.body) && s.heap.isNs mainGlobals && s.heap.isNs builtinsNs && tablesOk view s.heap && (xlAt view [] s && recOk (RowW.records PySem.Challenge.rw_pq1453_01.row.toRowW) s) && (if true then s.gens.size == 0 else !leftWithCleanup s.gens)) = some true := by
  unfold openEnds fencedOpening topFrom
  simp only [PySem.W.Fast.te14082659384304107361, PySem.W.Fast.te10274390034422433532, PySem.W.Fast.te14289696077712309145, PySem.W.Fast.te1435165496053646825, PySem.W.Fast.te14364793385576792824]
  kernel_rfl
theorem top4 (w : World) : (openEnds treeTable PySem.Challenge.rw_pq1453_01.row.prog w 4296).map (fun s => tabsOk view s) = some true := by
  unfold openEnds fencedOpening topFrom
  simp only [PySem.W.Fast.te14082659384304107361, PySem.W.Fast.te10274390034422433532, PySem.W.Fast.te14289696077712309145, PySem.W.Fast.te1435165496053646825, PySem.W.Fast.te14364793385576792824]
  kernel_rfl
theorem top3 (w : World) : (openEnds treeTable PySem.Challenge.rw_pq1453_01.row.prog w 4296).map (fun s => (pinSeenD view (drecsOf view) s, plainSeenE view (looseW view [Str.ofString "MODES", Str.ofString "STATES_BY_Z"]) s, plainSeenD view [Str.ofString "MODES", Str.ofString "STATES_BY_Z"] s, wideSeen view s, clsSeenW view [Str.ofString "MODES", Str.ofString "STATES_BY_Z"] s)) = some (pinGoodD (drecsOf view), plainGoodE view (looseW view [Str.ofString "MODES", Str.ofString "STATES_BY_Z"]), plainGoodD view [Str.ofString "MODES", Str.ofString "STATES_BY_Z"], wideGood view, clsGoodW view [Str.ofString "MODES", Str.ofString "STATES_BY_Z"]) := by
  unfold openEnds fencedOpening topFrom
  simp only [PySem.W.Fast.te14082659384304107361, PySem.W.Fast.te10274390034422433532, PySem.W.Fast.te14289696077712309145, PySem.W.Fast.te1435165496053646825, PySem.W.Fast.te14364793385576792824]
  kernel_rfl
theorem tops {S A B C D R Y : Type} {o : Option S} {a : S → A} {b : S → B} {c : S → C} {d : S → D} {r : S → R} {y : S → Y} {a' : A} {b' : B} {c' : C} {d' : D} {r' : R} {y' : Y}
    (h1 : o.map (fun s => (a s, b s)) = some (a', b')) (h2 : o.map c = some c') (h5 : o.map d = some d') (h3 : o.map r = some r') (h4 : o.map y = some y') : o.map (fun s => ((a s, b s, c s, d s, r s), y s)) = some ((a', b', c', d', r'), y') := by
  cases o with
  | none => cases h1
  | some s =>
    have e1 := Prod.mk.inj (Option.some.inj h1)
    exact congrArg some (Prod.ext (Prod.ext e1.1 (Prod.ext e1.2 (Prod.ext (Option.some.inj h2) (Prod.ext (Option.some.inj h5) (Option.some.inj h3))))) (Option.some.inj h4))
local macro_rules | `(tactic| o_head $H) => `(tactic| (refine holds_open (q := Mine.view) (loose := [Str.ofString "MODES", Str.ofString "STATES_BY_Z"]) (Xt := fun s => xlAt Mine.view [] s && recOk (RowW.records PySem.Challenge.rw_pq1453_01.row.toRowW) s) (XP := XL Mine.view []) (Yf := Hook.obs $H) (Ya := Hook.val $H) (YP := Hook.says $H) (N := 4296) ?hl (Hook.of $H) (Hook.keeps $H) (fun s e => xl_of s (Bool.and_eq_true_iff.mp e).1) XL.keeps (by rfl) (by rfl) (by rfl) (fun s e => recFacts_of (Bool.and_eq_true_iff.mp e).2) (by rfl) (by first | assumption | decide +kernel) (by decide +kernel) ⟨rfl, rfl, rfl, rfl, rfl, by decide +kernel⟩ ?hw ?hc; (case hl => refine fun w => tops (Mine.top1 w) (Mine.top2 w) (Mine.top4 w) (Mine.top3 w) ?_; unfold openEnds fencedOpening topFrom; simp only [PySem.W.Fast.te14082659384304107361, PySem.W.Fast.te10274390034422433532, PySem.W.Fast.te14289696077712309145, PySem.W.Fast.te1435165496053646825, PySem.W.Fast.te14364793385576792824]; kernel_rfl)))
local macro_rules | `(tactic| o_law) => `(tactic| refine holds_law Mine.said fun _ => ?_)
open_top hd for PySem.Challenge.rw_pq1453_01
theorem names_ok : namesOk Mine.view (looseW Mine.view [Str.ofString "MODES", Str.ofString "STATES_BY_Z"]) (namesW Mine.view [Str.ofString "MODES", Str.ofString "STATES_BY_Z"]) = true := by kernel_rfl
theorem imps_ok : importsNone Mine.view = true := by kernel_rfl
end

theorem filled : PySem.Challenge.rw_pq1453_01.Holds → ∀ P, Mine.hd.heap_1 P = Mine.hd.heap_1 P := by
  k_fill
  intro _ _; rfl



theorem or_nat {x y : Int} (hx : 0 ≤ x) (hy : 0 ≤ y) : Builtin.bitOr x y = ((x.toNat ||| y.toNat : Nat) : Int) := by
  have e1 : ¬ 0 ≤ Builtin.bitNot x := by rw [kbt_not]; omega
  have e2 : ¬ 0 ≤ Builtin.bitNot y := by rw [kbt_not]; omega
  have h : Builtin.bitOr x y = Builtin.bitNot (Builtin.bitAnd (Builtin.bitNot x) (Builtin.bitNot y)) := rfl
  have q (z : Int) : Builtin.bitNot (Builtin.bitNot z) = z := by rw [kbt_not, kbt_not]; omega
  rw [h, bitAnd_nn e1 e2, q, q, q]

theorem or_bound {x y : Int} (k : Nat) (hx : 0 ≤ x) (hx1 : x < 2 ^ k) (hy : 0 ≤ y) (hy1 : y < 2 ^ k) : 0 ≤ Builtin.bitOr x y ∧ Builtin.bitOr x y < 2 ^ k := by
  rw [or_nat hx hy]
  have c := kbt_cast k
  have h : x.toNat ||| y.toNat < 2 ^ k := Nat.or_lt_two_pow (by omega) (by omega)
  omega
theorem or_odd {x y : Int} (hx : 0 ≤ x) (hy : 0 ≤ y) : Builtin.bitOr x y % 2 = if x % 2 = 1 ∨ y % 2 = 1 then 1 else 0 := by
  rw [or_nat hx hy]
  have h := @Nat.or_mod_two_eq_one x.toNat y.toNat
  have h2 : (x.toNat ||| y.toNat) % 2 = 0 ∨ (x.toNat ||| y.toNat) % 2 = 1 := by omega
  split
  · rename_i q
    have : (x.toNat ||| y.toNat) % 2 = 1 := h.mpr (by omega)
    omega
  · rename_i q
    have : ¬ (x.toNat ||| y.toNat) % 2 = 1 := fun z => q (by have := h.mp z; omega)
    omega
theorem and_bound {x y : Int} (hy : 0 ≤ y) : 0 ≤ Builtin.bitAnd x y ∧ Builtin.bitAnd x y ≤ y := bitAnd_range x hy
theorem and_odd {x y : Int} : Builtin.bitAnd x y % 2 = if x % 2 = 1 ∧ y % 2 = 1 then 1 else 0 := by
  rw [kbt_halves]
  split <;> omega
theorem or_hi_lo {h l : Int} (k : Nat) (h0 : 0 ≤ h) (l0 : 0 ≤ l) (l1 : l < 2 ^ k) : Builtin.bitOr (h * 2 ^ k) l = h * 2 ^ k + l := by
  have c := kbt_cast k
  have hp : (0 : Int) ≤ h * 2 ^ k := Int.mul_nonneg h0 (Int.le_of_lt (kbt_pos k))
  rw [or_nat hp l0]
  have e : (h * 2 ^ k).toNat = 2 ^ k * h.toNat := by
    have : ((2 ^ k * h.toNat : Nat) : Int) = h * 2 ^ k := by
      rw [Int.natCast_mul, c, Int.toNat_of_nonneg h0, Int.mul_comm]
    omega
  rw [e, ← Nat.two_pow_add_eq_or_of_lt (by omega : l.toNat < 2 ^ k), Int.natCast_add, Int.natCast_mul, c, Int.toNat_of_nonneg h0, Int.toNat_of_nonneg l0, Int.mul_comm]
theorem or_hi_lo' {h l : Int} (k : Nat) (h0 : 0 ≤ h) (l0 : 0 ≤ l) (l1 : l < 2 ^ k) : Builtin.bitOr l (h * 2 ^ k) = h * 2 ^ k + l := by
  rw [bitOr_comm, or_hi_lo k h0 l0 l1]
theorem and_240 {a : Int} (h0 : 0 ≤ a) (h1 : a < 256) : Builtin.bitAnd a 240 = a / 16 * 16 := by
  have h : ∀ n : Fin 256, ((n.1 &&& 240 : Nat)) = n.1 / 16 * 16 := by decide +kernel
  rw [bitAnd_pp h0 (by decide)]
  have h2 : a.toNat &&& 240 = a.toNat / 16 * 16 := h ⟨a.toNat, by omega⟩
  have e : (240 : Int).toNat = 240 := rfl
  rw [e, h2]
  omega
/-- `hi & 240 | lo & 15` -/
theorem join_nib {a v : Int} (a0 : 0 ≤ a) (a1 : a < 256) (v0 : 0 ≤ v) (v1 : v < 16) : Builtin.bitOr (Builtin.bitAnd a 240) v = a / 16 * 16 + v := by
  rw [and_240 a0 a1]
  exact or_hi_lo 4 (by omega) v0 (by omega)
theorem pair_join {h l : Int} (h0 : 0 ≤ h) (l0 : 0 ≤ l) (l1 : l < 256) : Builtin.bitOr (h * 2 ^ (8 : Int).toNat) l = 256 * h + l := by
  have := or_hi_lo 8 h0 l0 (by omega)
  rw [show (8 : Int).toNat = 8 from rfl, this]
  omega
theorem szyx_fact (x : Int) {z : Int} (hz : z = 64 ∨ z = 0) : 0 ≤ Builtin.bitOr (Builtin.bitAnd x (Builtin.bitOr 128 40)) z ∧ Builtin.bitOr (Builtin.bitAnd x (Builtin.bitOr 128 40)) z < 256 ∧ Builtin.bitOr (Builtin.bitAnd x (Builtin.bitOr 128 40)) z % 2 = 0 := by
  have e : Builtin.bitOr 128 40 = 168 := by decide
  rw [e]
  have a := and_bound (x := x) (y := 168) (by decide)
  have b := @and_odd x 168
  have c := or_bound 8 a.1 (by omega) (show 0 ≤ z by omega) (by omega)
  have d := or_odd a.1 (show 0 ≤ z by omega)
  refine ⟨c.1, by omega, ?_⟩
  rw [d, if_neg]
  split at b <;> omega
theorem high_fact (x y : Int) : 0 ≤ Builtin.bitOr (Builtin.bitAnd x 40) (Builtin.bitAnd y 16) ∧ Builtin.bitOr (Builtin.bitAnd x 40) (Builtin.bitAnd y 16) < 256 ∧ Builtin.bitOr (Builtin.bitAnd x 40) (Builtin.bitAnd y 16) % 2 = 0 := by
  have a := and_bound (x := x) (y := 40) (by decide)
  have b := and_bound (x := y) (y := 16) (by decide)
  have a2 := @and_odd x 40
  have b2 := @and_odd y 16
  have c := or_bound 8 a.1 (by omega) b.1 (by omega)
  have d := or_odd a.1 b.1
  refine ⟨c.1, by omega, ?_⟩
  rw [d, if_neg]
  split at a2 <;> split at b2 <;> omega
theorem word_fact (x : Int) {z : Int} (hz : z = 64 ∨ z = 0) : 0 ≤ Builtin.bitOr (Builtin.bitAnd x 128) z ∧ Builtin.bitOr (Builtin.bitAnd x 128) z < 256 ∧ Builtin.bitOr (Builtin.bitAnd x 128) z % 2 = 0 := by
  have a := and_bound (x := x) (y := 128) (by decide)
  have a2 := @and_odd x 128
  have c := or_bound 8 a.1 (by omega) (show 0 ≤ z by omega) (by omega)
  have d := or_odd a.1 (show 0 ≤ z by omega)
  refine ⟨c.1, by omega, ?_⟩
  rw [d, if_neg]
  split at a2 <;> omega
theorem hi_byte (x : Int) : Builtin.bitAnd (x.fdiv (2 ^ Int.toNat 8)) 255 = x / 256 % 256 := by
  rw [bitAnd_m8, show (2 : Int) ^ Int.toNat 8 = 256 from rfl, Int.fdiv_eq_ediv_of_nonneg _ (by decide)]
theorem idx_fact {x : Int} {ms : List Int} (hm : ms.length = 16) : (x.fmod (ms.length : Int)).toNat = (x % 16).toNat := by
  rw [hm, Int.fmod_eq_emod_of_nonneg _ (by decide)]
  rfl
theorem or_more {x y : Int} (hx : 0 ≤ x ∧ x < 256) (hy : 0 ≤ y ∧ y < 256) : 0 ≤ Builtin.bitOr x y ∧ Builtin.bitOr x y < 256 ∧ Builtin.bitOr x y % 2 = if x % 2 = 1 ∨ y % 2 = 1 then 1 else 0 :=
  have c := or_bound 8 hx.1 (by omega) hy.1 (by omega)
  ⟨c.1, by omega, or_odd hx.1 hy.1⟩
theorem or_even {x y : Int} (hx : 0 ≤ x ∧ x < 256 ∧ x % 2 = 0) (hy : 0 ≤ y ∧ y < 256 ∧ y % 2 = 0) : 0 ≤ Builtin.bitOr x y ∧ Builtin.bitOr x y < 256 ∧ Builtin.bitOr x y % 2 = 0 := by
  have h := or_more ⟨hx.1, hx.2.1⟩ ⟨hy.1, hy.2.1⟩
  refine ⟨h.1, h.2.1, ?_⟩
  rw [h.2.2, if_neg (by omega)]
theorem or_last {x q : Int} (hx : 0 ≤ x ∧ x < 256 ∧ x % 2 = 0) (hq : q = 1 ∨ q = 0) : 0 ≤ Builtin.bitOr x q ∧ Builtin.bitOr x q < 256 ∧ Builtin.bitOr x q % 2 = q := by
  have h := or_more ⟨hx.1, hx.2.1⟩ (show 0 ≤ q ∧ q < 256 by omega)
  refine ⟨h.1, h.2.1, ?_⟩
  rw [h.2.2]
  split <;> omega
theorem even_lit {p : Int} (hp : p = 4 ∨ p = 0 ∨ p = 2) : 0 ≤ p ∧ p < 256 ∧ p % 2 = 0 := by omega
theorem and_16 (m : Int) : 0 ≤ Builtin.bitAnd m 16 ∧ Builtin.bitAnd m 16 < 256 ∧ Builtin.bitAnd m 16 % 2 = 0 := by
  have a := and_bound (x := m) (y := 16) (by decide)
  have b := @and_odd m 16
  refine ⟨a.1, by omega, ?_⟩
  split at b <;> omega
/-- the flags of a byte taken away -/
theorem flags_sub8 {y m p q : Int} (hy : 0 ≤ y ∧ y < 256 ∧ y % 2 = 0) (hp : p = 4 ∨ p = 0) (hq : q = 1 ∨ q = 0) :
    0 ≤ Builtin.bitOr (Builtin.bitOr (Builtin.bitOr (Builtin.bitOr y (Builtin.bitAnd m 16)) p) 2) q ∧ Builtin.bitOr (Builtin.bitOr (Builtin.bitOr (Builtin.bitOr y (Builtin.bitAnd m 16)) p) 2) q < 256 ∧ Builtin.bitOr (Builtin.bitOr (Builtin.bitOr (Builtin.bitOr y (Builtin.bitAnd m 16)) p) 2) q % 2 = q :=
  or_last (or_even (or_even (or_even hy (and_16 m)) (even_lit (by omega))) (even_lit (by omega))) hq

theorem flags_sbc {y z p q : Int} (hy : 0 ≤ y ∧ y < 256 ∧ y % 2 = 0) (hz : 0 ≤ z ∧ z < 256 ∧ z % 2 = 0) (hp : p = 4 ∨ p = 0) (hq : q = 1 ∨ q = 0) :
    0 ≤ Builtin.bitOr (Builtin.bitOr (Builtin.bitOr (Builtin.bitOr y z) p) 2) q ∧ Builtin.bitOr (Builtin.bitOr (Builtin.bitOr (Builtin.bitOr y z) p) 2) q < 256 ∧ Builtin.bitOr (Builtin.bitOr (Builtin.bitOr (Builtin.bitOr y z) p) 2) q % 2 = q :=
  or_last (or_even (or_even (or_even hy hz) (even_lit (by omega))) (even_lit (by omega))) hq
theorem flags_adc {y z p q : Int} (hy : 0 ≤ y ∧ y < 256 ∧ y % 2 = 0) (hz : 0 ≤ z ∧ z < 256 ∧ z % 2 = 0) (hp : p = 4 ∨ p = 0) (hq : q = 1 ∨ q = 0) :
    0 ≤ Builtin.bitOr (Builtin.bitOr (Builtin.bitOr y z) p) q ∧ Builtin.bitOr (Builtin.bitOr (Builtin.bitOr y z) p) q < 256 ∧ Builtin.bitOr (Builtin.bitOr (Builtin.bitOr y z) p) q % 2 = q :=
  or_last (or_even (or_even hy hz) (even_lit (by omega))) hq
theorem flags_rot {y z : Int} (f : Int) (hy : 0 ≤ y ∧ y < 256 ∧ y % 2 = 0) (hz : 0 ≤ z ∧ z < 256 ∧ z % 2 = 0) :
    0 ≤ Builtin.bitOr (Builtin.bitOr y z) (Builtin.bitAnd f 1) ∧ Builtin.bitOr (Builtin.bitOr y z) (Builtin.bitAnd f 1) < 256 := by
  have a := and_bound (x := f) (y := 1) (by decide)
  have h := or_last (or_even hy hz) (q := Builtin.bitAnd f 1) (by omega)
  exact ⟨h.1, h.2.1⟩
theorem shl_and15 (x : Int) : (Builtin.bitAnd x 15).natAbs < 2 ^ 64 := by
  rw [bitAnd_m4]
  omega
theorem rot_a1 {a v : Int} (a0 : 0 ≤ a) (a1 : a < 256) (v0 : 0 ≤ v) (v1 : v < 256) : Builtin.bitOr (Builtin.bitAnd a 240) (v.fdiv (2 ^ Int.toNat 4)) = a / 16 * 16 + v / 16 := by
  rw [show (2 : Int) ^ Int.toNat 4 = 16 from rfl, Int.fdiv_eq_ediv_of_nonneg _ (by decide)]
  exact join_nib a0 a1 (by omega) (by omega)
theorem rot_a2 {a : Int} (v : Int) (a0 : 0 ≤ a) (a1 : a < 256) : Builtin.bitOr (Builtin.bitAnd a 240) (Builtin.bitAnd v 15) = a / 16 * 16 + v % 16 := by
  rw [bitAnd_m4]
  exact join_nib a0 a1 (by omega) (by omega)
theorem rot_z1 (v a : Int) : Builtin.bitOr (Builtin.bitAnd v 15 * 2 ^ Int.toNat 4) (Builtin.bitAnd a 15) % 256 = v % 16 * 16 + a % 16 := by
  rw [bitAnd_m4, bitAnd_m4, show (2 : Int) ^ Int.toNat 4 = 2 ^ 4 from rfl, or_hi_lo 4 (by omega) (by omega) (by omega)]
  omega
theorem rot_z2 {v : Int} (a : Int) (v0 : 0 ≤ v) (v1 : v < 256) : Builtin.bitOr (Builtin.bitAnd a 15 * 2 ^ Int.toNat 4) (v.fdiv (2 ^ Int.toNat 4)) % 256 = a % 16 * 16 + v / 16 := by
  rw [bitAnd_m4, show (2 : Int) ^ Int.toNat 4 = 2 ^ 4 from rfl, show (2 : Int) ^ 4 = 16 from rfl, Int.fdiv_eq_ediv_of_nonneg _ (by decide)]
  rw [show (16 : Int) = 2 ^ 4 from rfl, or_hi_lo 4 (by omega) (by omega) (by omega)]
  omega


theorem load_done {r6 y p : Int} (h1 : 0 ≤ y ∧ y < 256 ∧ y % 2 = 0) (hp : p = 4 ∨ p = 0) : 0 ≤ Builtin.bitOr (Builtin.bitOr y p) (Builtin.bitAnd r6 1) ∧ Builtin.bitOr (Builtin.bitOr y p) (Builtin.bitAnd r6 1) < 256 :=
  flags_rot r6 h1 (even_lit (by omega))
theorem fdiv_6 (x : Int) : x.fdiv (2 ^ Int.toNat 6) = x / 64 := by
  rw [show (2 : Int) ^ Int.toNat 6 = 64 from rfl, Int.fdiv_eq_ediv_of_nonneg _ (by decide)]
theorem fdiv_3 (x : Int) : x.fdiv (2 ^ Int.toNat 3) = x / 8 := by
  rw [show (2 : Int) ^ Int.toNat 3 = 8 from rfl, Int.fdiv_eq_ediv_of_nonneg _ (by decide)]
theorem fdiv_8 (x : Int) : x.fdiv (2 ^ Int.toNat 8) = x / 256 := by
  rw [show (2 : Int) ^ Int.toNat 8 = 256 from rfl, Int.fdiv_eq_ediv_of_nonneg _ (by decide)]
theorem fdiv_16 (x : Int) : x.fdiv (2 ^ Int.toNat 16) = x / 65536 := by
  rw [show (2 : Int) ^ Int.toNat 16 = 65536 from rfl, Int.fdiv_eq_ediv_of_nonneg _ (by decide)]


theorem at_is {y z : Int} (hy : y = 8) (hz : z = 0) : Builtin.bitOr y (z * 2 ^ Int.toNat 8) = 8 := by
  subst hy; subst hz; decide






/-- what a call of a def leaves behind, seen from the def's own frame: the ledger `pre` has become `led`. -/
def Fin (g : Heap) (s : Shared) (P : Value → List (Addr × Obj) → Prop) (v : Value) (s' : Shared) : Prop :=
  ∃ L' m' led h' tk', s' = { s with heap := h', toks := tk' } ∧ Fr g L' h' m' ∧ News g L' h' led ∧ P v led

theorem fin_of {g : Heap} {s : Shared} {P : Value → List (Addr × Obj) → Prop} {v : Value} {h' : Heap} {tk' : Nat} {L' : Addr} {m' : Str → Option Value} {led led' : List (Addr × Obj)}
    (F : Fr g L' h' m') (N : News g L' h' led') (hs : ∀ p ∈ led, p ∈ led') (hP : P v led) : Fin g s P v { s with heap := h', toks := tk' } :=
  ⟨L', m', led, h', tk', rfl, F, fun p hp => N p (hs p hp), hP⟩

inductive Apart (as : List Addr) : List (Addr × Obj) → List (Addr × Obj) → Prop
  | nil : Apart as [] []
  | drop {p r r'} : p.1 ∈ as → Apart as r r' → Apart as (p :: r) r'
  | keep {p r r'} : (∀ a ∈ as, p.1 ≠ a) → Apart as r r' → Apart as (p :: r) (p :: r')

theorem Apart.sub {as : List Addr} : ∀ {l l' : List (Addr × Obj)}, Apart as l l' → ∀ p ∈ l', p ∈ l ∧ ∀ a ∈ as, p.1 ≠ a
  | _, _, .nil => fun _ h => nomatch h
  | _, _, .drop _ r => fun p hp => ⟨.tail _ (r.sub p hp).1, (r.sub p hp).2⟩
  | _, _, .keep h r => fun p hp => by
    rcases List.mem_cons.mp hp with rfl | hp
    · exact ⟨.head _, h⟩
    · exact ⟨.tail _ (r.sub p hp).1, (r.sub p hp).2⟩

section
variable {prog : Program} {w : World} {A A₀ : Around} {s : Shared} {K : Frag} {L : Addr} {h₀ base : Heap} {m mg mb : Str → Option Value} {news pre rest : List (Addr × Obj)} {p : Program} {loose : List Str} {mean : ExcName → Option Value}
  {env : Env} {outer : List Env} {R : Result → Shared → Prop} {name qual : Str} {params : Arguments} {body : List Stmt} {scope : Scope} {dV kV doc pm cdv ct oc : Value} {an od : Option Addr} {osl : Array (Option Value)} {f : Addr} {args : Args} {binds : List (Str × Value)}
  {P : Value → List (Addr × Obj) → Prop}

/-- entering a def with the touched objects alone in the ledger: all else stands in the def's base heap, so it is there afterwards. -/
theorem enter_part (B : Below A₀ base outer h₀) (F : Fr h₀ L s.heap m) (X₀ : K.In h₀) (N : News h₀ L s.heap news) (T : Top p loose mean mg mb h₀) (hA : A.frames = some (env :: outer)) (hf : env.frame = some L) (hke : env.scope.kind = .function)
    (hpre : ∀ p ∈ pre, p ∈ news) (hap : Apart (pre.map (·.1)) news rest)
    (ho : K.lookup f = some ⟨oc, od, .func (fnOf name qual params body scope dV kV doc pm an cdv ct), osl⟩) (hcd : codeIn K cdv qual = true) (hroom : A.depth < recursionLimit)
    (hbind : BindsTo s (fnOf name qual params body scope dV kV doc pm an cdv ct) args binds) (hloc : ∀ y ∈ binds, scope.names.lookup y.1 = some .local)
    (h : ∀ g L' h₁, Fr g L' h₁ (fun y => binds.reverse.lookup y) → News g L' h₁ pre → Below A base (env :: outer) g → K.In g → Top p loose mean mg mb g →
      wpAny (model prog w) (A.deeper (envOf qual scope L' f cdv)) (execs body (envOf qual scope L' f cdv))
        (fun fl s' => Fin g s P (match fl with | .ret v => v | _ => .none) s') (fun _ _ => False)
        { s with heap := h₁, toks := s.toks + binds.length })
    (ret : ∀ v led h' tk', P v led → (∀ p ∈ led, ∀ q ∈ rest, p.1 ≠ q.1) → Fr h₀ L h' m → News h₀ L h' (led ++ rest) → R (.ok (.ret v)) { s with heap := h', toks := tk' })
    (hco : scope.isCoroutine = false) (hgen : scope.isGenerator = false) (hk : scope.kind = .function)
    (hcell : ∀ x ∈ scope.names, x.2 ≠ .cell) : codeAny (model prog w) A (.call (.ref f) args) R s := by
  have Np : News h₀ L s.heap pre := fun p hp => N p (hpre p hp)
  obtain ⟨FG, BG, st, lv⟩ := groundX (R := R) B F Np hA hf hke
  have hsub := hap.sub
  have hX : K.In s.heap := X₀.keeps F.keep
  refine codeAny_call_def (fd := fnOf name qual params body scope dV kV doc pm an cdv ct) (body := body) (binds := binds) hroom (hX _ _ ho) rfl (T.nolimit.keeps F.keep) (codeRec_of hX hcd) rfl hbind hcell hloc (fun h₁ hns hk₁ => ?_) hco hgen hk
  refine wpAny_mono (h _ s.heap.objs.size h₁ ⟨hns, fun b o e => hk₁ b o (of_hideAll _ e), Nat.le_of_eq (hideAll_size _ _)⟩
    (fun p hp => ⟨hk₁ _ _ (Np p hp).1, Nat.ne_of_lt (Heap.lt_size (Np p hp).1), hideAll_none _ (List.mem_map_of_mem hp)⟩) BG (X₀.keeps st) (T.keeps st)) (fun fl s' hl => ?_) fun _ _ y => y.elim
  obtain ⟨L₂, m₂, led, h', tk', rfl, F₂, N₂, hP⟩ := hl
  refine lv _ _ ⟨L₂, m₂, led, F₂, N₂, fun Fh Nh => ret _ _ _ _ hP (fun p hp q hq e => ?_) Fh fun q hq => ?_⟩
  · have z := hsub q hq
    have y := hideAll_get (pre.map (·.1)) (N q z.1).1 fun e => z.2 _ e rfl
    rw [← e, (N₂ p hp).2.2] at y
    cases y
  rcases List.mem_append.mp hq with hq | hq
  · exact Nh q hq
  · have z := hsub q hq
    have y := N q z.1
    refine ⟨F₂.keep _ _ (hideAll_get _ y.1 fun e => ?_), y.2⟩
    exact z.2 _ e rfl
end


/-- the contract of a def of the text: called on `vs` where the ledger holds `pre`, it comes back with a value `v` and the ledger `led` in `pre`'s place, as `P v led` says; the rest of the ledger stays. -/
def Does (w : World) (k : Nat) (f : Addr) (vs : List Value) (pre : List (Addr × Obj)) (P : Value → List (Addr × Obj) → Prop) : Prop :=
  ∀ (mean : ExcName → Option Value) (mg mb : Str → Option Value) (dp un : Nat) (gd : Option (List Code)) (cn : Str) (cs : Scope) (a : Addr) (ccd : Value) (cl : List (Str × Addr)) (outer : List Env) (A₀ : Around) (base h₀ : Heap) (L : Addr) (m : Str → Option Value)
    (news rest : List (Addr × Obj)) (s : Shared) (Q E : Value → Shared → Prop),
    Below A₀ base outer h₀ → Fr h₀ L s.heap m → (Mine.hd.heap_1 w.params).In h₀ → News h₀ L s.heap news → Top Mine.view (looseW Mine.view [Str.ofString "MODES", Str.ofString "STATES_BY_Z"]) mean mg mb h₀ → cs.kind = .function →
    (∀ p ∈ pre, p ∈ news) → Apart (pre.map (·.1)) news rest → dp + k < recursionLimit → un + 8 * k < cLine →
    (∀ v led h' tk', P v led → (∀ p ∈ led, ∀ q ∈ rest, p.1 ≠ q.1) → Fr h₀ L h' m → News h₀ L h' (led ++ rest) → Q v { s with heap := h', toks := tk' }) →
    wpAny (model PySem.Challenge.rw_pq1453_01.row.prog w) (ktrTop dp un gd cn cs L a ccd cl outer) (call (.ref f) vs) Q E s

/-- the same, seen from within: the body's run. -/
theorem does_of {w : World} {k : Nat} {f : Addr} {vs : List Value} {pre : List (Addr × Obj)} {P : Value → List (Addr × Obj) → Prop}
    {name qual : Str} {params : Arguments} {body : List Stmt} {scope : Scope} {dV kV doc pm cdv ct oc : Value} {an od : Option Addr} {osl : Array (Option Value)} {binds : List (Str × Value)}
    (hk1 : 0 < k)
    (ho : (Mine.hd.heap_1 w.params).lookup f = some ⟨oc, od, .func (fnOf name qual params body scope dV kV doc pm an cdv ct), osl⟩) (hcd : codeIn (Mine.hd.heap_1 w.params) cdv qual = true)
    (hbind : ∀ s, BindsTo s (fnOf name qual params body scope dV kV doc pm an cdv ct) ⟨vs, []⟩ binds) (hloc : ∀ y ∈ binds, scope.names.lookup y.1 = some .local)
    (h : ∀ (mean : ExcName → Option Value) (mg mb : Str → Option Value) (dp un : Nat) (gd : Option (List Code)) (cn : Str) (cs : Scope) (a : Addr) (ccd : Value) (cl : List (Str × Addr)) (outer : List Env) (base : Heap) (L₀ : Addr)
      (s : Shared) (g : Heap) (L' : Addr) (h₁ : Heap), dp + k < recursionLimit → un + 8 * k < cLine → cs.kind = .function →
      Fr g L' h₁ (fun y => binds.reverse.lookup y) → News g L' h₁ pre → Below (ktrTop dp un gd cn cs L₀ a ccd cl outer) base (envX cn cs L₀ a ccd cl :: outer) g → (Mine.hd.heap_1 w.params).In g →
      Top Mine.view (looseW Mine.view [Str.ofString "MODES", Str.ofString "STATES_BY_Z"]) mean mg mb g →
      wpAny (model PySem.Challenge.rw_pq1453_01.row.prog w) ((ktrTop dp un gd cn cs L₀ a ccd cl outer).deeper (envOf qual scope L' f cdv)) (execs body (envOf qual scope L' f cdv))
        (fun fl s' => Fin g s P (match fl with | .ret v => v | _ => .none) s') (fun _ _ => False)
        { s with heap := h₁, toks := s.toks + binds.length })
    (hco : scope.isCoroutine = false) (hgen : scope.isGenerator = false) (hk : scope.kind = .function)
    (hcell : ∀ x ∈ scope.names, x.2 ≠ .cell) : Does w k f vs pre P := by
  intro mean mg mb dp un gd cn cs a ccd cl outer A₀ base h₀ L m news rest s Q E B F X N T hcs hpre hap hdp hun ret
  refine wpAny_call (enter_part (env := envX cn cs L a ccd cl) (P := P) B F X N T rfl rfl hcs hpre hap ho hcd (by show dp < _; omega) (hbind s) hloc ?_ ?_ hco hgen hk hcell)
  · exact fun g L' h₁ F' N' B' X' T' => h mean mg mb dp un gd cn cs a ccd cl outer base L s g L' h₁ hdp hun hcs F' N' B' X' T'
  · exact fun v led h' tk' hP hd Fh Nh => ret v led h' tk' hP hd Fh Nh
theorem use_does {w : World} {k : Nat} {f : Addr} {vs : List Value} {pre : List (Addr × Obj)} {P : Value → List (Addr × Obj) → Prop} (D : Does w k f vs pre P)
    {mean : ExcName → Option Value} {mg mb : Str → Option Value} {dp un : Nat} {gd : Option (List Code)} {cn : Str} {cs : Scope} {a : Addr} {ccd : Value} {cl : List (Str × Addr)} {outer : List Env} {A₀ : Around} {base h₀ : Heap} {L : Addr} {m : Str → Option Value}
    {news rest : List (Addr × Obj)} {s : Shared} {Q E : Value → Shared → Prop}
    (B : Below A₀ base outer h₀) (F : Fr h₀ L s.heap m) (X : (Mine.hd.heap_1 w.params).In h₀) (N : News h₀ L s.heap news) (T : Top Mine.view (looseW Mine.view [Str.ofString "MODES", Str.ofString "STATES_BY_Z"]) mean mg mb h₀) (hk : cs.kind = .function)
    (hpre : ∀ p ∈ pre, p ∈ news) (hap : Apart (pre.map (·.1)) news rest) (hd : dp + k < recursionLimit) (hu : un + 8 * k < cLine)
    (ret : ∀ v led, P v led → ∀ h' tk', Fr h₀ L h' m → News h₀ L h' (led ++ rest) → Q v { s with heap := h', toks := tk' }) :
    wpAny (model PySem.Challenge.rw_pq1453_01.row.prog w) (ktrTop dp un gd cn cs L a ccd cl outer) (call (.ref f) vs) Q E s :=
  D mean mg mb dp un gd cn cs a ccd cl outer A₀ base h₀ L m news rest s Q E B F X N T hk hpre hap hd hu fun v led h' tk' hP _ Fh Nh => ret v led hP h' tk' Fh Nh

theorem apart_nil : ∀ {l : List (Addr × Obj)}, Apart [] l l
  | [] => .nil
  | _ :: _ => .keep (fun _ h => nomatch h) apart_nil

/-- a call of a def that touches no object of the ledger. -/
theorem use_pure {w : World} {k : Nat} {f : Addr} {vs : List Value} {P : Value → List (Addr × Obj) → Prop} (D : Does w k f vs [] P)
    {mean : ExcName → Option Value} {mg mb : Str → Option Value} {dp un : Nat} {gd : Option (List Code)} {cn : Str} {cs : Scope} {a : Addr} {ccd : Value} {cl : List (Str × Addr)} {outer : List Env} {A₀ : Around} {base h₀ : Heap} {L : Addr} {m : Str → Option Value}
    {news : List (Addr × Obj)} {s : Shared} {Q E : Value → Shared → Prop}
    (B : Below A₀ base outer h₀) (F : Fr h₀ L s.heap m) (X : (Mine.hd.heap_1 w.params).In h₀) (N : News h₀ L s.heap news) (T : Top Mine.view (looseW Mine.view [Str.ofString "MODES", Str.ofString "STATES_BY_Z"]) mean mg mb h₀) (hk : cs.kind = .function)
    (hd : dp + k < recursionLimit) (hu : un + 8 * k < cLine)
    (ret : ∀ v led, P v led → ∀ h' tk', Fr h₀ L h' m → News h₀ L h' news → Q v { s with heap := h', toks := tk' }) :
    wpAny (model PySem.Challenge.rw_pq1453_01.row.prog w) (ktrTop dp un gd cn cs L a ccd cl outer) (call (.ref f) vs) Q E s :=
  D mean mg mb dp un gd cn cs a ccd cl outer A₀ base h₀ L m news news s Q E B F X N T hk (fun _ h => nomatch h) apart_nil hd hu fun v led h' tk' hP _ Fh Nh => ret v led hP h' tk' Fh fun p hp => Nh p (List.mem_append_right _ hp)

/-- a call that leaves what it looks at as it was. -/
theorem use_read {w : World} {k : Nat} {f : Addr} {vs : List Value} {pre : List (Addr × Obj)} {P : Value → Prop} (D : Does w k f vs pre fun v led => led = pre ∧ P v)
    {mean : ExcName → Option Value} {mg mb : Str → Option Value} {dp un : Nat} {gd : Option (List Code)} {cn : Str} {cs : Scope} {a : Addr} {ccd : Value} {cl : List (Str × Addr)} {outer : List Env} {A₀ : Around} {base h₀ : Heap} {L : Addr} {m : Str → Option Value}
    {news : List (Addr × Obj)} {s : Shared} {Q E : Value → Shared → Prop}
    (B : Below A₀ base outer h₀) (F : Fr h₀ L s.heap m) (X : (Mine.hd.heap_1 w.params).In h₀) (N : News h₀ L s.heap news) (T : Top Mine.view (looseW Mine.view [Str.ofString "MODES", Str.ofString "STATES_BY_Z"]) mean mg mb h₀) (hk : cs.kind = .function)
    (hpre : ∀ p ∈ pre, p ∈ news) (hd : dp + k < recursionLimit) (hu : un + 8 * k < cLine)
    (ret : ∀ v, P v → ∀ h' tk', Fr h₀ L h' m → News h₀ L h' news → Q v { s with heap := h', toks := tk' }) :
    wpAny (model PySem.Challenge.rw_pq1453_01.row.prog w) (ktrTop dp un gd cn cs L a ccd cl outer) (call (.ref f) vs) Q E s := by
  have part : ∀ (l : List (Addr × Obj)), ∃ rest, Apart (pre.map (·.1)) l rest ∧ ∀ p ∈ l, p.1 ∈ pre.map (·.1) ∨ p ∈ rest := by
    intro l
    induction l with
    | nil => exact ⟨[], .nil, fun _ h => nomatch h⟩
    | cons p r ih =>
      obtain ⟨rest, a, b⟩ := ih
      by_cases h : p.1 ∈ pre.map (·.1)
      · refine ⟨rest, .drop h a, fun q hq => ?_⟩
        rcases List.mem_cons.mp hq with rfl | hq
        · exact .inl h
        · exact b q hq
      · refine ⟨p :: rest, .keep (fun x hx e => h (e ▸ hx)) a, fun q hq => ?_⟩
        rcases List.mem_cons.mp hq with rfl | hq
        · exact .inr (.head _)
        · exact (b q hq).imp id fun z => .tail _ z
  obtain ⟨rest, hap, hall⟩ := part news
  refine D mean mg mb dp un gd cn cs a ccd cl outer A₀ base h₀ L m news rest s Q E B F X N T hk hpre hap hd hu fun v led h' tk' hP _ Fh Nh => ret v hP.2 h' tk' Fh fun p hp => ?_
  obtain ⟨rfl, _⟩ := hP
  rcases hall p hp with z | z
  · obtain ⟨q, hq, e⟩ := List.mem_map.mp z
    have y1 := (N q (hpre q hq)).1
    have y2 := (N p hp).1
    rw [e, y2] at y1
    have e2 : p = q := Prod.ext e.symm (Option.some.inj y1)
    rw [e2]
    exact Nh q (List.mem_append_left _ hq)
  · exact Nh p (List.mem_append_right _ z)

/-- the object of a Cpu's fields. -/
abbrev cpuD (w : World) (q0 q1 q2 q3 q4 q5 q6 q7 q8 q9 q10 q11 q12 q13 : Tok) (r sa : Addr) (ix iy sp pc i ref iff1 iff2 mode halted held states : Value) : Obj :=
  dictOf [⟨PyData.keyHash w.params (Str.ofString "r"), .str (Str.ofString "r") q0, .ref r⟩, ⟨PyData.keyHash w.params (Str.ofString "s"), .str (Str.ofString "s") q1, .ref sa⟩,
    ⟨PyData.keyHash w.params (Str.ofString "ix"), .str (Str.ofString "ix") q2, ix⟩, ⟨PyData.keyHash w.params (Str.ofString "iy"), .str (Str.ofString "iy") q3, iy⟩,
    ⟨PyData.keyHash w.params (Str.ofString "sp"), .str (Str.ofString "sp") q4, sp⟩, ⟨PyData.keyHash w.params (Str.ofString "pc"), .str (Str.ofString "pc") q5, pc⟩,
    ⟨PyData.keyHash w.params (Str.ofString "i"), .str (Str.ofString "i") q6, i⟩, ⟨PyData.keyHash w.params (Str.ofString "ref"), .str (Str.ofString "ref") q7, ref⟩,
    ⟨PyData.keyHash w.params (Str.ofString "iff1"), .str (Str.ofString "iff1") q8, iff1⟩, ⟨PyData.keyHash w.params (Str.ofString "iff2"), .str (Str.ofString "iff2") q9, iff2⟩,
    ⟨PyData.keyHash w.params (Str.ofString "mode"), .str (Str.ofString "mode") q10, mode⟩, ⟨PyData.keyHash w.params (Str.ofString "is_halted"), .str (Str.ofString "is_halted") q11, halted⟩,
    ⟨PyData.keyHash w.params (Str.ofString "is_held"), .str (Str.ofString "is_held") q12, held⟩, ⟨PyData.keyHash w.params (Str.ofString "states"), .str (Str.ofString "states") q13, states⟩] 14
abbrev regs (r0 r1 r2 r3 r4 r5 r6 r7 : Int) (t0 t1 t2 t3 t4 t5 t6 t7 : Tok) (n : Nat) : Obj :=
  W.listOf #[.int r0 t0, .int r1 t1, .int r2 t2, .int r3 t3, .int r4 t4, .int r5 t5, .int r6 t6, .int r7 t7] n


section
local macro_rules | `(tactic| k_ne) => `(tactic| (refine neN ?_; (try dsimp only); first | (with_reducible assumption) | (refine Ne.symm ?_; with_reducible assumption) | omega))

theorem parity_does (w : World) (x : Int) (t : Tok) : Does w 2 147 [(.int x t)] [] (fun v led => led = [] ∧ ∃ y u, v = .int y u ∧ 0 ≤ y ∧ y < 256 ∧ y % 2 = 0) := by
  k_dflt (refine' does_of (binds := [(Str.ofString "v", (.int x t))]) (by decide) ?ho ?hcd ?hb ?hl ?_ ?c1 ?c2 ?c3 ?c4; (case ho => k_is); (case hcd => k_is); (case hb => intro s9; exact BindsTo.of_eq rfl); (case hl => exact locs rfl); (case c1 => exact rfl); (case c2 => exact rfl); (case c3 => exact rfl); (case c4 => decide); intro mean9 mg9 mb9 dp9 un9 gd9 cn9 cs9 a9 ccd9 cl9 outer9 base9 L9 s9 g' L' h' hdp9 hun9 hcs9 F' N' B' X' T'; (try dsimp only); (try k_fold))
  k_steps
  all_goals (k_dflt (apply fin_of; (case F => k_asm); (case N => k_asm); (case' hP => refine' ⟨rfl, _, _, rfl, ?_⟩); (case hs => kcj_all); (try dsimp only); (first | done | (exact ⟨by decide, by decide, by decide⟩))))

theorem peek_does (w : World) {ma : Addr} {vs : List Value} {ms : List Int} {nm : Nat} (hi : IntsAre vs ms) (hm : ms.length = 16) (hb : ∀ j : Nat, 0 ≤ ms.getD j 0 ∧ ms.getD j 0 < 256) (x : Int) (t : Tok) : Does w 2 84 [(.ref ma), (.int x t)] [(ma, W.listOf vs.toArray nm)] (fun v led => led = [(ma, W.listOf vs.toArray nm)] ∧ ∃ y u, v = .int y u ∧ y = ms.getD (x % 16).toNat 0 ∧ 0 ≤ y ∧ y < 256) := by
  k_dflt (refine' does_of (binds := [(Str.ofString "memory", (.ref ma)), (Str.ofString "at", (.int x t))]) (by decide) ?ho ?hcd ?hb ?hl ?_ ?c1 ?c2 ?c3 ?c4; (case ho => k_is); (case hcd => k_is); (case hb => intro s9; exact BindsTo.of_eq rfl); (case hl => exact locs rfl); (case c1 => exact rfl); (case c2 => exact rfl); (case c3 => exact rfl); (case c4 => decide); intro mean9 mg9 mb9 dp9 un9 gd9 cn9 cs9 a9 ccd9 cl9 outer9 base9 L9 s9 g' L' h' hdp9 hun9 hcs9 F' N' B' X' T'; (try dsimp only); (try k_fold))
  k_steps
  all_goals (k_dflt (apply fin_of; (case F => k_asm); (case N => k_asm); (case' hP => refine' ⟨rfl, _, _, rfl, ?_⟩); (case hs => kcj_all); (try dsimp only); (first | done | (exact ⟨congrArg (fun z => ms.getD z 0) (idx_fact hm), (hb _).1, (hb _).2⟩))))

theorem poke_does (w : World) {ma : Addr} {vs : List Value} {ms : List Int} {nm : Nat} (hi : IntsAre vs ms) (hm : ms.length = 16) (x : Int) (t : Tok) (y : Int) (ty : Tok) : Does w 2 91 [(.ref ma), (.int x t), (.int y ty)] [(ma, W.listOf vs.toArray nm)] (fun v led => v = .none ∧ ∃ j z u n', led = [(ma, W.listOf (vs.set j (.int z u)).toArray n')] ∧ j = (x % 16).toNat ∧ z = y % 256) := by
  k_dflt (refine' does_of (binds := [(Str.ofString "memory", (.ref ma)), (Str.ofString "at", (.int x t)), (Str.ofString "octet", (.int y ty))]) (by decide) ?ho ?hcd ?hb ?hl ?_ ?c1 ?c2 ?c3 ?c4; (case ho => k_is); (case hcd => k_is); (case hb => intro s9; exact BindsTo.of_eq rfl); (case hl => exact locs rfl); (case c1 => exact rfl); (case c2 => exact rfl); (case c3 => exact rfl); (case c4 => decide); intro mean9 mg9 mb9 dp9 un9 gd9 cn9 cs9 a9 ccd9 cl9 outer9 base9 L9 s9 g' L' h' hdp9 hun9 hcs9 F' N' B' X' T'; (try dsimp only); (try k_fold))
  k_steps
  all_goals (k_dflt (apply fin_of; (case F => k_asm); (case N => k_asm); (case' hP => refine' ⟨rfl, _, _, _, _, rfl, ?_⟩); (case hs => kcj_all); (try dsimp only); (first | done | (exact ⟨idx_fact hm, bitAnd_m8 y⟩))))
end


abbrev PP : Program := PySem.Challenge.rw_pq1453_01.row.prog
abbrev Led := List (Addr × Obj)
abbrev Loc := List (Str × Value)
inductive Ar
  | v (x : Value)
  | i (n : Int)
inductive AIs : Ar → Value → Prop
  | v {x} : AIs (.v x) x
  | i {n t} : AIs (.i n) (.int n t)
inductive ArgsAre : List Ar → List Value → Prop
  | nil : ArgsAre [] []
  | cons {a as x xs} : AIs a x → ArgsAre as xs → ArgsAre (a :: as) (x :: xs)
def Ar.at : Ar → Tok → Value
  | .v x, _ => x
  | .i n, t => .int n t
def vals : List Ar → (Nat → Tok) → List Value
  | [], _ => []
  | a :: as, τ => a.at (τ 0) :: vals as (fun i => τ (i + 1))
theorem ArgsAre.vals : ∀ {as vs}, ArgsAre as vs → ∃ τ, vs = Mine.vals as τ
  | _, _, .nil => ⟨fun _ => 0, rfl⟩
  | _, _, .cons h r => by
    obtain ⟨τ, rfl⟩ := r.vals
    cases h with
    | v => exact ⟨fun i => τ (i - 1), rfl⟩
    | i => rename_i n t; exact ⟨fun i => match i with | 0 => t | i + 1 => τ i, rfl⟩

/-- what a def's body stands on while it runs: it may call `k` deep. -/
structure Dy (w : World) (k : Nat) where
  (mean : ExcName → Option Value) (mg mb : Str → Option Value) (dp un : Nat) (gd : Option (List Code)) (outer : List Env) (A₀ : Around) (base g : Heap) (L : Addr) (s : Shared)
  B : Below A₀ base outer g
  X : (Mine.hd.heap_1 w.params).In g
  T : Top Mine.view (looseW Mine.view [Str.ofString "MODES", Str.ofString "STATES_BY_Z"]) mean mg mb g
  hd : dp + k < recursionLimit
  hu : un + 8 * k < cLine
structure Kode where
  (cn : Str) (cs : Scope) (a : Addr) (ccd : Value) (cl : List (Str × Addr))
  hk : cs.kind = .function

section
variable {w : World} {k : Nat}
/-- no exception leaves. -/
abbrev NoE := { E : Value → Shared → Prop // E = fun _ _ => False }
def Dy.A (d : Dy w k) (K : Kode) : Around := ktrTop d.dp d.un d.gd K.cn K.cs d.L K.a K.ccd K.cl d.outer
def en (d : Dy w k) (K : Kode) : Env := envX K.cn K.cs d.L K.a K.ccd K.cl
def St (d : Dy w k) (l : Loc) (led : Led) (s : Shared) : Prop :=
  Fr d.g d.L s.heap (fun y => l.lookup y) ∧ News d.g d.L s.heap led ∧ (led.map (·.1)).Nodup ∧ ∃ h t, s = { d.s with heap := h, toks := t }
/-- the run of `p` from the locals `l` and the ledger `led` ends as `Q` says. -/
def W {α : Type} (d : Dy w k) (K : Kode) (l : Loc) (led : Led) (p : Sem α) (Q : α → Loc → Led → Prop) : Prop :=
  ∀ (s : Shared) (E : NoE) (Q' : α → Shared → Prop), St d l led s → (∀ a l' led' s', Q a l' led' → St d l' led' s' → Q' a s') → wpAny (model PP w) (d.A K) p Q' E.1 s
/-- `e` has the value `a`, and nothing changes. -/
def Ev (d : Dy w k) (K : Kode) (l : Loc) (led : Led) (e : Expr) (a : Ar) : Prop :=
  ∀ (s : Shared) (E : NoE) (Q' : Value → Shared → Prop), St d l led s → (∀ x s', AIs a x → St d l led s' → Q' x s') → wpAny (model PP w) (d.A K) (eval e (en d K)) Q' E.1 s
/-- the test `e` says `b`, and nothing changes. -/
def Tv (d : Dy w k) (K : Kode) (l : Loc) (led : Led) (e : Expr) (b : Bool) : Prop :=
  ∀ (s : Shared) (E : NoE) (Q' : Bool → Shared → Prop), St d l led s → (∀ s', St d l led s' → Q' b s') → wpAny (model PP w) (d.A K) (isTrue e (en d K) (eval e (en d K))) Q' E.1 s
def Evs (d : Dy w k) (K : Kode) (l : Loc) (led : Led) (es : List Expr) (as : List Ar) : Prop :=
  ∀ (s : Shared) (pos : Pos) (E : NoE) (Q' : List Value → Shared → Prop), St d l led s → (∀ xs s', ArgsAre as xs → St d l led s' → Q' xs s') → wpAny (model PP w) (d.A K) (spliced (backTo pos (starEach es (en d K)))) Q' E.1 s

variable {d : Dy w k} {K : Kode} {l l' : Loc} {led led' : Led}
theorem St.tok {s : Shared} {t : Nat} (h : St d l led s) : St d l led { s with toks := t } := by
  obtain ⟨F, N, n, h', t', rfl⟩ := h; exact ⟨F, N, n, h', t, rfl⟩
theorem St.put {s : Shared} {h : Heap} {t : Nat} (hs : St d l led s) (F : Fr d.g d.L h (fun y => l'.lookup y)) (N : News d.g d.L h led') (n : (led'.map (·.1)).Nodup) : St d l' led' { s with heap := h, toks := t } := by
  obtain ⟨_, _, _, h', t', rfl⟩ := hs; exact ⟨F, N, n, h, t, rfl⟩
theorem St.heap {s : Shared} {h : Heap} (hs : St d l led s) (F : Fr d.g d.L h (fun y => l'.lookup y)) (N : News d.g d.L h led') (n : (led'.map (·.1)).Nodup) : St d l' led' { s with heap := h } := by
  obtain ⟨_, _, _, h', t', rfl⟩ := hs; exact ⟨F, N, n, h, t', rfl⟩

/- locals -/
inductive SetL (x : Str) (v : Value) : Loc → Loc → Prop
  | nil : SetL x v [] [(x, v)]
  | here {u r} : SetL x v ((x, u) :: r) ((x, v) :: r)
  | there {y u r r'} (h : (x == y) = false) : SetL x v r r' → SetL x v ((y, u) :: r) ((y, u) :: r')
theorem str_beq {a b : Str} : (a == b) = decide (a = b) := by
  by_cases h : a = b
  · subst h; simp
  · simp [h]
theorem SetL.look {x : Str} {v : Value} : ∀ {l l' : Loc}, SetL x v l l' → (fun y => l'.lookup y) = fun y => if y = x then some v else l.lookup y
  | _, _, .nil => by
    funext y; simp only [List.lookup_cons, List.lookup_nil, str_beq]
    by_cases h : y = x <;> simp [h]
  | _, _, .here => by
    funext y; simp only [List.lookup_cons, str_beq]
    by_cases h : y = x <;> simp [h]
  | _, _, .there (y := z) hne r => by
    have ih := r.look
    funext y
    have ihy := congrFun ih y
    simp only [List.lookup_cons, str_beq] at ihy hne ⊢
    have hxz : x ≠ z := of_decide_eq_false hne
    by_cases h : y = z
    · subst h; simp [Ne.symm hxz]
    · simp [h, ihy]

/- ledger -/
inductive UpL (a : Addr) (o o' : Obj) : Led → Led → Prop
  | here {r} : UpL a o o' ((a, o) :: r) ((a, o') :: r)
  | there {p r r'} : UpL a o o' r r' → UpL a o o' (p :: r) (p :: r')
theorem UpL.keys {a o o'} : ∀ {l l' : Led}, UpL a o o' l l' → l'.map (·.1) = l.map (·.1)
  | _, _, .here => rfl
  | _, _, .there r => by simp only [List.map_cons, r.keys]
theorem UpL.mem {a o o'} : ∀ {l l' : Led}, UpL a o o' l l' → (a, o) ∈ l
  | _, _, .here => .head _
  | _, _, .there r => .tail _ r.mem
theorem UpL.upd {a o o'} : ∀ {l l' : Led}, UpL a o o' l l' → (l.map (·.1)).Nodup → Upd a o o' l l'
  | _, _, .here, n => .head fun p hp e => (List.nodup_cons.mp n).1 (List.mem_map.mpr ⟨p, hp, e⟩)
  | _, _, .there r, n => .tail (fun e => (List.nodup_cons.mp n).1 (List.mem_map.mpr ⟨_, r.mem, e.symm⟩)) (r.upd (List.nodup_cons.mp n).2)
inductive Del (x : Addr × Obj) : Led → Led → Prop
  | here {l : Led} : Del x (x :: l) l
  | there {y : Addr × Obj} {l l' : Led} : Del x l l' → Del x (y :: l) (y :: l')
inductive Sel : Led → Led → Led → Prop
  | nil {l : Led} : Sel l [] l
  | cons {x : Addr × Obj} {l l' p r : Led} : Del x l l' → Sel l' p r → Sel l (x :: p) r
theorem Del.perm {x} : ∀ {l l' : Led}, Del x l l' → l.Perm (x :: l')
  | _, _, .here => .refl _
  | _, _, .there r => (List.Perm.cons _ r.perm).trans (.swap _ _ _)
theorem Sel.perm : ∀ {l p r : Led}, Sel l p r → l.Perm (p ++ r)
  | _, _, _, .nil => .refl _
  | _, _, _, .cons h r => h.perm.trans (.cons _ r.perm)
theorem nodup_app {p r : Led} (n : ((p ++ r).map (·.1)).Nodup) : (p.map (·.1)).Nodup ∧ (r.map (·.1)).Nodup ∧ ∀ x ∈ p, ∀ y ∈ r, x.1 ≠ y.1 := by
  rw [List.map_append, List.nodup_append] at n
  exact ⟨n.1, n.2.1, fun x hx y hy => n.2.2 _ (List.mem_map_of_mem hx) _ (List.mem_map_of_mem hy)⟩
theorem nodup_app' {p r : Led} (n : (p.map (·.1)).Nodup) (n' : (r.map (·.1)).Nodup) (h : ∀ x ∈ p, ∀ y ∈ r, x.1 ≠ y.1) : ((p ++ r).map (·.1)).Nodup := by
  rw [List.map_append, List.nodup_append]
  refine ⟨n, n', fun a ha b hb => ?_⟩
  obtain ⟨x, hx, rfl⟩ := List.mem_map.mp ha
  obtain ⟨y, hy, rfl⟩ := List.mem_map.mp hb
  exact h x hx y hy
theorem Apart.all {as : List Addr} : ∀ {l : Led}, (∀ p ∈ l, ∀ a ∈ as, p.1 ≠ a) → Apart as l l
  | [], _ => .nil
  | p :: r, h => .keep (h p (.head _)) (Apart.all fun q hq => h q (.tail _ hq))
theorem Apart.app {as : List Addr} : ∀ {p l : Led}, (∀ q ∈ p, q.1 ∈ as) → (∀ q ∈ l, ∀ a ∈ as, q.1 ≠ a) → Apart as (p ++ l) l
  | [], _, _, h => Apart.all h
  | q :: p, _, h, h' => .drop (h q (.head _)) (Apart.app (fun q hq => h q (.tail _ hq)) h')

/- contracts -/
def DoesW (w : World) (k : Nat) (f : Addr) (as : List Ar) (pre : Led) (S : (Value → Led → Prop) → Prop) : Prop :=
  (pre.map (·.1)).Nodup → ∀ τ R, S R → Does w k f (vals as τ) pre (fun v led => (led.map (·.1)).Nodup ∧ R v led)
def retv : Flow → Value
  | .ret v => v
  | _ => .none
/-- the end of a contract's body. -/
def End (S : (Value → Led → Prop) → Prop) (f : Flow) (_ : Loc) (led : Led) : Prop :=
  ∀ R, S R → ∃ led' junk, Sel led led' junk ∧ R (retv f) led'
theorem St.perm {s : Shared} (h : St d l led s) (p : led.Perm led') : St d l led' s :=
  ⟨h.1, fun q hq => h.2.1 q (p.mem_iff.mpr hq), (p.map _).nodup_iff.mp h.2.2.1, h.2.2.2⟩

theorem W.does {k' : Nat} {f : Addr} {as : List Ar} {vs : List Value} {pre rest : Led} {S : (Value → Led → Prop) → Prop} {Q : Value → Loc → Led → Prop}
    (D : DoesW w k' f as pre S) (hk : k' ≤ k) (ha : ArgsAre as vs) (sel : Sel led pre rest) (h : S (fun v led' => Q v l (led' ++ rest))) : W d K l led (call (.ref f) vs) Q := by
  intro s E Q' hs hq
  obtain ⟨τ, rfl⟩ := ha.vals
  have hs' := hs.perm sel.perm
  obtain ⟨n1, n2, n3⟩ := nodup_app hs'.2.2.1
  have h1 := d.hd
  have h2 := d.hu
  refine D n1 τ _ h d.mean d.mg d.mb d.dp d.un d.gd K.cn K.cs K.a K.ccd K.cl d.outer d.A₀ d.base d.g d.L (fun y => l.lookup y) (pre ++ rest) rest s Q' E.1 d.B hs.1 d.X hs'.2.1 d.T K.hk
    (fun p hp => List.mem_append_left _ hp) (Apart.app (fun q hq => List.mem_map_of_mem hq) fun q hq a ha e => ?_) (by omega) (by omega) fun v led' h' tk' hP hd Fh Nh => ?_
  · obtain ⟨x, hx, rfl⟩ := List.mem_map.mp ha
    exact n3 x hx q hq e.symm
  · exact hq _ _ _ _ hP.2 (hs.put Fh Nh (nodup_app' hP.1 n2 hd))

theorem does_ofW {f : Addr} {as : List Ar} {pre : Led} {S : (Value → Led → Prop) → Prop}
    {name qual : Str} {params : Arguments} {body : List Stmt} {scope : Scope} {dV kV doc pm cdv ct oc : Value} {an od : Option Addr} {osl : Array (Option Value)} (binds : (Nat → Tok) → Loc)
    (ho : (Mine.hd.heap_1 w.params).lookup f = some ⟨oc, od, .func (fnOf name qual params body scope dV kV doc pm an cdv ct), osl⟩) (hcd : codeIn (Mine.hd.heap_1 w.params) cdv qual = true)
    (hbind : ∀ τ s, BindsTo s (fnOf name qual params body scope dV kV doc pm an cdv ct) ⟨vals as τ, []⟩ (binds τ)) (hloc : ∀ τ, ∀ y ∈ binds τ, scope.names.lookup y.1 = some .local)
    (hco : scope.isCoroutine = false) (hgen : scope.isGenerator = false) (hk : scope.kind = .function) (hcell : ∀ x ∈ scope.names, x.2 ≠ .cell)
    (h : ∀ (d : Dy w k) τ, W d ⟨qual, scope, f, cdv, [], hk⟩ (binds τ).reverse pre (execs body (en d ⟨qual, scope, f, cdv, [], hk⟩)) (End S)) : DoesW w (k + 1) f as pre S := by
  intro nd τ R hS
  refine does_of (Nat.succ_pos k) ho hcd (hbind τ) (hloc τ) ?_ hco hgen hk hcell
  intro mean mg mb dp un gd cn cs a ccd cl outer base L₀ s g L' h₁ hdp hun hcs F N B X T
  refine h ⟨mean, mg, mb, dp + 1, un + 3, gd, envX cn cs L₀ a ccd cl :: outer, ktrTop dp un gd cn cs L₀ a ccd cl outer, base, g, L', s, B, X, T, by omega, by omega⟩ τ _ ⟨_, rfl⟩ _ ⟨F, N, nd, h₁, _, rfl⟩ fun fl l led s' hE hst => ?_
  obtain ⟨led', junk, sel, hR⟩ := hE R hS
  have hst' := hst.perm sel.perm
  obtain ⟨F', N', n', h', t', e⟩ := hst'
  refine ⟨L', _, led', h', t', e, by rw [e] at F'; exact F', fun p hp => by rw [e] at N'; exact N' p (List.mem_append_left _ hp), (nodup_app n').1, ?_⟩
  cases fl <;> exact hR
end


section
variable {w : World} {k : Nat} {d : Dy w k} {K : Kode} {l l' : Loc} {led led' : Led} {α : Type}

/- pure expressions -/
theorem Ev.int {i : Int} {j : Nat} {pos : Pos} : Ev d K l led (.Constant (.int i) j pos) (.i i) :=
  fun s E Q' hs hq => wpAny_Constant_int (hq _ _ .i hs.tok)
theorem Ev.name {x : Str} {pos : Pos} {v : Value} (hv : l.lookup x = some v) (hx : (en d K).kindOf x = some .local) (hd : (x == ("__debug__" : Str)) = false) : Ev d K l led (.Name x pos) (.v v) :=
  fun s E Q' hs hq => nameX_L (m := fun y => l.lookup y) hs.1 hv (hq _ _ .v hs) K.hk hx hd
theorem Ev.nameI {x : Str} {pos : Pos} {n : Int} {t : Tok} (hv : l.lookup x = some (.int n t)) (hx : (en d K).kindOf x = some .local) (hd : (x == ("__debug__" : Str)) = false) : Ev d K l led (.Name x pos) (.i n) :=
  fun s E Q' hs hq => nameX_L (m := fun y => l.lookup y) hs.1 hv (hq _ _ .i hs) K.hk hx hd
/-- a name of the text's top, as the head left it. -/
def GlobIs (w : World) (x : Str) (v : Value) : Prop := nsIn (Mine.hd.heap_1 w.params) mainGlobals x = some (some v)
theorem Ev.glob {x : Str} {pos : Pos} {v : Value} (hv : GlobIs w x v) (hx : (en d K).kindOf x = some .globalImplicit) (hd : (x == ("__debug__" : Str)) = false) : Ev d K l led (.Name x pos) (.v v) :=
  fun s E Q' hs hq => nameX_K hs.1 d.X (topRead_of d.T) hv (hq _ _ .v hs) K.hk hx hd
theorem Ev.globI {x : Str} {pos : Pos} {n : Int} {t : Tok} (hv : GlobIs w x (.int n t)) (hx : (en d K).kindOf x = some .globalImplicit) (hd : (x == ("__debug__" : Str)) = false) : Ev d K l led (.Name x pos) (.i n) :=
  fun s E Q' hs hq => nameX_K hs.1 d.X (topRead_of d.T) hv (hq _ _ .i hs) K.hk hx hd
theorem Ev.bin {a b : Expr} {x y z : Int} {op : Operator} {pos : Pos} (ha : Ev d K l led a (.i x)) (hb : Ev d K l led b (.i y))
    (hop : ∀ (s : Shared) E (Q' : Value → Shared → Prop) t u, Q' (.int z s.toks) { s with toks := s.toks + 1 } → wpAny (model PP w) (d.A K) (binaryOp op (.int x t) (.int y u)) Q' E s) : Ev d K l led (.BinOp a op b pos) (.i z) := by
  intro s E Q' hs hq
  refine wpAny_BinOp (ha _ _ _ hs fun x' s' hx hs' => ?_)
  cases hx
  refine hb _ _ _ hs' fun y' s'' hy hs'' => ?_
  cases hy
  exact hop _ _ _ _ _ (hq _ _ .i hs''.tok)
theorem Ev.and {a b : Expr} {x y : Int} {pos : Pos} (ha : Ev d K l led a (.i x)) (hb : Ev d K l led b (.i y)) : Ev d K l led (.BinOp a .BitAnd b pos) (.i (Builtin.bitAnd x y)) := .bin ha hb fun _ _ _ _ _ h => and_int h
theorem Ev.or {a b : Expr} {x y : Int} {pos : Pos} (ha : Ev d K l led a (.i x)) (hb : Ev d K l led b (.i y)) : Ev d K l led (.BinOp a .BitOr b pos) (.i (Builtin.bitOr x y)) := .bin ha hb fun _ _ _ _ _ h => or_int h
theorem Ev.xor {a b : Expr} {x y : Int} {pos : Pos} (ha : Ev d K l led a (.i x)) (hb : Ev d K l led b (.i y)) : Ev d K l led (.BinOp a .BitXor b pos) (.i (Builtin.bitXor x y)) := .bin ha hb fun _ _ _ _ _ h => xor_int h
theorem Ev.add {a b : Expr} {x y : Int} {pos : Pos} (ha : Ev d K l led a (.i x)) (hb : Ev d K l led b (.i y)) : Ev d K l led (.BinOp a .Add b pos) (.i (x + y)) := .bin ha hb fun _ _ _ _ _ h => PyProof.Rows.add_int h
theorem Ev.sub {a b : Expr} {x y : Int} {pos : Pos} (ha : Ev d K l led a (.i x)) (hb : Ev d K l led b (.i y)) : Ev d K l led (.BinOp a .Sub b pos) (.i (x - y)) := .bin ha hb fun _ _ _ _ _ h => PyProof.Rows.sub_int h
theorem Ev.mul {a b : Expr} {x y : Int} {pos : Pos} (hm : IntMulOk x y) (ha : Ev d K l led a (.i x)) (hb : Ev d K l led b (.i y)) : Ev d K l led (.BinOp a .Mult b pos) (.i (x * y)) := .bin ha hb fun _ _ _ _ _ h => PyProof.Rows.mul_int h hm
theorem Ev.mod {a b : Expr} {x y : Int} {pos : Pos} (hm : y ≠ 0) (ha : Ev d K l led a (.i x)) (hb : Ev d K l led b (.i y)) : Ev d K l led (.BinOp a .Mod b pos) (.i (x.fmod y)) := .bin ha hb fun _ _ _ _ _ h => PyProof.Rows.mod_int' hm h
theorem Ev.fdiv {a b : Expr} {x y : Int} {pos : Pos} (hm : y ≠ 0) (hp : Builtin.divisionGoesByPylong x y = false) (ha : Ev d K l led a (.i x)) (hb : Ev d K l led b (.i y)) : Ev d K l led (.BinOp a .FloorDiv b pos) (.i (x.fdiv y)) := .bin ha hb fun _ _ _ _ _ h => floordiv_int hm h (.inl hp)
theorem Ev.shr {a b : Expr} {x y : Int} {pos : Pos} (hm : 0 ≤ y) (ha : Ev d K l led a (.i x)) (hb : Ev d K l led b (.i y)) : Ev d K l led (.BinOp a .RShift b pos) (.i (x.fdiv (2 ^ y.toNat))) := .bin ha hb fun _ _ _ _ _ h => rshift_int hm h
theorem Ev.shl {a b : Expr} {x y : Int} {pos : Pos} (h1 : 0 ≤ y) (h2 : y ≤ 1000000) (h3 : x.natAbs < 2 ^ 64) (ha : Ev d K l led a (.i x)) (hb : Ev d K l led b (.i y)) : Ev d K l led (.BinOp a .LShift b pos) (.i (x * 2 ^ y.toNat)) := .bin ha hb fun _ _ _ _ _ h => lshift_int_small h1 h2 h3 h
theorem Ev.eq {e : Expr} {x y : Int} (h : Ev d K l led e (.i x)) (hxy : x = y) : Ev d K l led e (.i y) := hxy ▸ h

/- attributes -/
structure GetOk (w : World) (C : Addr) (name : Str) : Prop where
  hg : plainGet (Mine.hd.heap_1 w.params) C name = true
  hh : hasDictIn (Mine.hd.heap_1 w.params) C = true
  ha : ∃ at', findIn (Mine.hd.heap_1 w.params) (.ref C) name = some at' ∧ noGet (Mine.hd.heap_1 w.params) at' = true
structure PutOk (w : World) (C : Addr) (name : Str) : Prop where
  hs : findIn (Mine.hd.heap_1 w.params) (.ref C) "__setattr__" = some (some (.builtin "object.__setattr__"))
  hp : plainOver (Mine.hd.heap_1 w.params) C = true
  ht : takerIn (Mine.hd.heap_1 w.params) C name = some none
  hh : hasDictIn (Mine.hd.heap_1 w.params) C = true
def GetC (o : Obj) (name : Str) (v : Value) : Prop := ∃ es n, o = dictOf es n ∧ getL name es = some (some v) ∧ handedIn v = true
def PutC (w : World) (o : Obj) (name : Str) (v : Value) (o' : Obj) : Prop := ∀ t : Tok, ∃ es n es' n', o = dictOf es n ∧ o' = dictOf es' n' ∧ (getL name es).isSome = true ∧
  (putL name (PyData.keyHash w.params name) (.str name t) v es, putN name es n) = (es', n') ∧ es'.length ≤ 1000
theorem getAttr_ {c C cd : Addr} {attr : Str} {o : Obj} {v : Value} {s : Shared} {E} {Q' : Value → Shared → Prop} (ok : GetOk w C attr) (hs : St d l led s) (h1 : (c, instObj C cd) ∈ led) (h2 : (cd, o) ∈ led) (hv : GetC o attr v)
    (hq : ∀ s', St d l led s' → Q' v s') : wpAny (model PP w) (d.A K) (getAttr (.ref c) attr true) Q' E s := by
  obtain ⟨es, n, rfl, h3, h4⟩ := hv
  obtain ⟨at', a1, a2⟩ := ok.ha
  exact get_own hs.1 d.X (InstAt.of_news hs.2.1 h1 h2) ok.hg ok.hh a1 a2 h3 h4 (hq _ hs.tok)
theorem Ev.attr {x attr : Str} {xp pos : Pos} {c C cd : Addr} {o : Obj} {v : Value} (ok : GetOk w C attr) (hx : Ev d K l led (.Name x xp) (.v (.ref c))) (h1 : (c, instObj C cd) ∈ led) (h2 : (cd, o) ∈ led) (hv : GetC o attr v) :
    Ev d K l led (.Attribute (.Name x xp) attr pos) (.v v) := by
  intro s E Q' hs hq
  refine Attribute_name (hx _ _ _ hs fun x' s' hx' hs' => ?_)
  cases hx'
  exact getAttr_ ok hs' h1 h2 hv fun s'' hs'' => hq _ _ .v hs''
theorem Ev.attrI {x attr : Str} {xp pos : Pos} {c C cd : Addr} {o : Obj} {n : Int} {t : Tok} (ok : GetOk w C attr) (hx : Ev d K l led (.Name x xp) (.v (.ref c))) (h1 : (c, instObj C cd) ∈ led) (h2 : (cd, o) ∈ led) (hv : GetC o attr (.int n t)) :
    Ev d K l led (.Attribute (.Name x xp) attr pos) (.i n) :=
  fun s E Q' hs hq => Ev.attr ok hx h1 h2 hv s E Q' hs fun x s' hx' hs' => hq x s' (by cases hx'; exact .i) hs'
def ItemOf (o : Obj) (i : Int) (v : Value) : Prop := ∃ vs n, o = W.listOf (List.toArray vs) n ∧ 0 ≤ i ∧ i < 2 ^ 63 ∧ vs[i.toNat]? = some v
theorem Ev.item {a b : Expr} {pos : Pos} {r : Addr} {o : Obj} {i : Int} {v : Value} (ha : Ev d K l led a (.v (.ref r))) (hb : Ev d K l led b (.i i)) (h1 : (r, o) ∈ led) (hv : ItemOf o i v)
    (hs' : ∀ u, subscripted b false (.ref r) (.int i u) = operate [.ref r, .int i u] (getItem (.ref r) (.int i u))) : Ev d K l led (.Subscript a b pos) (.v v) := by
  intro s E Q' hs hq
  refine Subscript_ (ha _ _ _ hs fun x s1 hx hs1 => ?_)
  cases hx
  refine hb _ _ _ hs1 fun y s2 hy hs2 => ?_
  cases hy
  obtain ⟨vs, n, rfl, h2, h3, h4⟩ := hv
  exact item_litK (News.isList hs2.2.1 h1) h2 h3 h4 (hq _ _ .v hs2) (hs' _)
theorem Ev.itemI {a b : Expr} {pos : Pos} {r : Addr} {o : Obj} {i n : Int} {t : Tok} (ha : Ev d K l led a (.v (.ref r))) (hb : Ev d K l led b (.i i)) (h1 : (r, o) ∈ led) (hv : ItemOf o i (.int n t))
    (hs' : ∀ u, subscripted b false (.ref r) (.int i u) = operate [.ref r, .int i u] (getItem (.ref r) (.int i u))) : Ev d K l led (.Subscript a b pos) (.i n) :=
  fun s E Q' hs hq => Ev.item ha hb h1 hv hs' s E Q' hs fun x s' hx' hs' => hq x s' (by cases hx'; exact .i) hs'
theorem Ev.topItemI {a b : Expr} {pos : Pos} {r : Addr} {i n : Int} {t : Tok} {vs : List Value} {nn : Nat} {dd : Option Addr} {sl : Array (Option Value)} (ha : Ev d K l led a (.v (.ref r))) (hb : Ev d K l led b (.i i))
    (h1 : (Mine.hd.heap_1 w.params).lookup r = some ⟨.type "list", dd, .seq vs.toArray nn, sl⟩) (h2 : 0 ≤ i) (h3 : i < 2 ^ 63) (h4 : vs[i.toNat]? = some (.int n t))
    (hs' : ∀ u, subscripted b false (.ref r) (.int i u) = operate [.ref r, .int i u] (getItem (.ref r) (.int i u))) : Ev d K l led (.Subscript a b pos) (.i n) := by
  intro s E Q' hs hq
  refine Subscript_ (ha _ _ _ hs fun x s1 hx hs1 => ?_)
  cases hx
  refine hb _ _ _ hs1 fun y s2 hy hs2 => ?_
  cases hy
  exact topList_K hs2.1 d.X h1 h2 h3 h4 (hq _ _ .i hs2) (hs' _)

/- tests -/
theorem Tv.cmp {a b : Expr} {op : CmpOp} {x y : Int} {c : Bool} {pos : Pos} (ha : Ev d K l led a (.i x)) (hb : Ev d K l led b (.i y)) (hm : behindInMarks op b = false)
    (hop : ∀ (s : Shared) E (Q' : Value → Shared → Prop) t u, Q' (.bool c) s → wpAny (model PP w) (d.A K) (compareOp op (.int x t) (.int y u)) Q' E s) : Tv d K l led (.Compare a [op] [b] pos) c := by
  intro s E Q' hs hq
  refine wpAny_isTrue_Compare1 (ha _ _ _ hs fun x' s' hx hs' => ?_) hm
  cases hx
  refine hb _ _ _ hs' fun y' s'' hy hs'' => ?_
  cases hy
  exact hop _ _ _ _ _ (wpAny_truthy_bool (hq _ hs''))
theorem Tv.eq {a b : Expr} {x y : Int} {c : Bool} {pos : Pos} (ha : Ev d K l led a (.i x)) (hb : Ev d K l led b (.i y)) (hm : behindInMarks .Eq b = false) (hc : (x == y) = c) : Tv d K l led (.Compare a [.Eq] [b] pos) c :=
  .cmp ha hb hm fun _ _ _ _ _ h => PyProof.Rows.eq_int (hc ▸ h)
theorem Tv.ne {a b : Expr} {x y : Int} {c : Bool} {pos : Pos} (ha : Ev d K l led a (.i x)) (hb : Ev d K l led b (.i y)) (hm : behindInMarks .NotEq b = false) (hc : (x != y) = c) : Tv d K l led (.Compare a [.NotEq] [b] pos) c :=
  .cmp ha hb hm fun _ _ _ _ _ h => PyProof.Rows.ne_int (hc ▸ h)
theorem Tv.lt {a b : Expr} {x y : Int} {c : Bool} {pos : Pos} (ha : Ev d K l led a (.i x)) (hb : Ev d K l led b (.i y)) (hm : behindInMarks .Lt b = false) (hc : decide (x < y) = c) : Tv d K l led (.Compare a [.Lt] [b] pos) c :=
  .cmp ha hb hm fun _ _ _ _ _ h => PyProof.Rows.lt_int (hc ▸ h)
theorem Tv.gt {a b : Expr} {x y : Int} {c : Bool} {pos : Pos} (ha : Ev d K l led a (.i x)) (hb : Ev d K l led b (.i y)) (hm : behindInMarks .Gt b = false) (hc : decide (y < x) = c) : Tv d K l led (.Compare a [.Gt] [b] pos) c :=
  .cmp ha hb hm fun _ _ _ _ _ h => PyProof.Rows.gt_int (hc ▸ h)
theorem Tv.andF {x : Expr} {rest : List Expr} {pos : Pos} (h : Tv d K l led x false) : Tv d K l led (.BoolOp .And (x :: rest) pos) false :=
  fun s E Q' hs hq => isTrue_and (h _ _ _ hs fun s' hs' => hq _ hs')
theorem Tv.andT {x y : Expr} {rest : List Expr} {b : Bool} {pos : Pos} (h : Tv d K l led x true) (h' : Tv d K l led (.BoolOp .And (y :: rest) pos) b) : Tv d K l led (.BoolOp .And (x :: y :: rest) pos) b :=
  fun s E Q' hs hq => isTrue_and (h _ _ _ hs fun s' hs' => h' _ _ _ hs' hq)
theorem Tv.and1 {x : Expr} {b : Bool} {pos : Pos} (h : Tv d K l led x b) : Tv d K l led (.BoolOp .And [x] pos) b :=
  fun s E Q' hs hq => isTrue_and (h _ _ _ hs fun s' hs' => by
    cases b
    · exact hq _ hs'
    · exact isTrue_and_nil (hq _ hs'))
theorem Tv.num {e : Expr} {n : Int} {c : Bool} (h : Ev d K l led e (.i n)) (he : isTrue e (en d K) (eval e (en d K)) = (do let v ← eval e (en d K); standAt e.pos; holding [v] (truthy v))) (hc : (n != 0) = c) : Tv d K l led e c := by
  intro s E Q' hs hq
  refine isTrue_plain (h _ _ _ hs fun x s' hx hs' => ?_) he
  cases hx
  exact PyProof.Rows.truthy_int (hc ▸ hq _ hs')
theorem Ev.ifT {t a b : Expr} {pos : Pos} {x : Ar} (ht : Tv d K l led t true) (ha : Ev d K l led a x) : Ev d K l led (.IfExp t a b pos) x :=
  fun s E Q' hs hq => wpAny_IfExp (ht _ _ _ hs fun s' hs' => ha _ _ _ hs' hq)
theorem Ev.ifF {t a b : Expr} {pos : Pos} {x : Ar} (ht : Tv d K l led t false) (hb : Ev d K l led b x) : Ev d K l led (.IfExp t a b pos) x :=
  fun s E Q' hs hq => wpAny_IfExp (ht _ _ _ hs fun s' hs' => hb _ _ _ hs' hq)
/-- an IfExp whose test is not known: the value is either. -/
theorem Ev.ifB {t a b : Expr} {pos : Pos} {x y : Int} {c : Bool} (ht : Tv d K l led t c) (ha : Ev d K l led a (.i x)) (hb : Ev d K l led b (.i y)) : Ev d K l led (.IfExp t a b pos) (.i (bif c then x else y)) := by
  cases c
  · exact .ifF ht hb
  · exact .ifT ht ha

/- lists of arguments -/
theorem Evs.nil : Evs d K l led [] [] := fun s pos E Q' hs hq => args_nil (hq _ _ .nil hs)
theorem Evs.cons {e : Expr} {es : List Expr} {a : Ar} {as : List Ar} (h : Ev d K l led e a) (h' : Evs d K l led es as) (he : starEach (e :: es) (en d K) = (false, eval e (en d K)) :: starEach es (en d K)) : Evs d K l led (e :: es) (a :: as) :=
  fun s pos E Q' hs hq => args_cons (h _ _ _ hs fun x s' hx hs' => h' _ _ _ _ hs' fun xs s'' hxs hs'' => hq _ _ (.cons hx hxs) hs'') he

/- runs -/
theorem W.ev {e : Expr} {v : Value} {Q : Value → Loc → Led → Prop} (h : Ev d K l led e (.v v)) (hq : Q v l led) : W d K l led (eval e (en d K)) Q :=
  fun s E Q' hs hQ => h _ _ _ hs fun x s' hx hs' => hQ _ _ _ _ (by cases hx; exact hq) hs'
theorem W.evI {e : Expr} {n : Int} {Q : Value → Loc → Led → Prop} (h : Ev d K l led e (.i n)) (hq : ∀ t, Q (.int n t) l led) : W d K l led (eval e (en d K)) Q :=
  fun s E Q' hs hQ => h _ _ _ hs fun x s' hx hs' => hQ _ _ _ _ (by cases hx; exact hq _) hs'
theorem W.bin {a b : Expr} {op : Operator} {pos : Pos} {Q : Value → Loc → Led → Prop} (h : W d K l led (eval a (en d K)) fun x l led => W d K l led (eval b (en d K)) fun y l led => W d K l led (binaryOp op x y) Q) : W d K l led (eval (.BinOp a op b pos) (en d K)) Q :=
  fun s E Q' hs hq => wpAny_BinOp (h _ _ _ hs fun x l s1 s' hx hs' => hx _ _ _ hs' fun y l s1 s' hy hs' => hy _ _ _ hs' hq)
theorem W.args_nil {pos : Pos} {Q : List Value → Loc → Led → Prop} (h : Q [] l led) : W d K l led (spliced (backTo pos (starEach [] (en d K)))) Q :=
  fun s E Q' hs hq => PyProof.Rows.args_nil (hq _ _ _ _ h hs)
theorem W.args_cons {e : Expr} {rest : List Expr} {pos : Pos} {Q : List Value → Loc → Led → Prop}
    (he : starEach (e :: rest) (en d K) = (false, eval e (en d K)) :: starEach rest (en d K))
    (h : W d K l led (eval e (en d K)) fun v l led => W d K l led (spliced (backTo pos (starEach rest (en d K)))) fun vs => Q (v :: vs)) : W d K l led (spliced (backTo pos (starEach (e :: rest) (en d K)))) Q :=
  fun s E Q' hs hq => PyProof.Rows.args_cons (h _ _ _ hs fun v l led s' hv hs' => hv _ _ _ hs' fun vs l led s' hvs hs' => hq _ _ _ _ hvs hs') he
theorem W.args {es : List Expr} {as : List Ar} {pos : Pos} {Q : List Value → Loc → Led → Prop} (h : Evs d K l led es as) (hq : ∀ vs, ArgsAre as vs → Q vs l led) : W d K l led (spliced (backTo pos (starEach es (en d K)))) Q :=
  fun s E Q' hs hQ => h _ _ _ _ hs fun xs s' hxs hs' => hQ _ _ _ _ (hq _ hxs) hs'
theorem W.callee {f e : Expr} {rest : List Expr} {pos : Pos} {a : Addr} {Q : Value → Loc → Led → Prop} (hf : Ev d K l led f (.v (.ref a))) (hk : keepIn (Mine.hd.heap_1 w.params) (.ref a) = true)
    (he : starEach (e :: rest) (en d K) = (false, eval e (en d K)) :: starEach rest (en d K)) (hplain : (backTo pos (starEach rest (en d K))).any (·.1) = false)
    (hc : eval (.Call f (e :: rest) [] pos) (en d K) = (do callWith pos (← eval f (en d K)) [] (backTo pos (starEach (e :: rest) (en d K))) (backToKw pos (keywordEach [] (en d K)))))
    (h : W d K l led (spliced (backTo pos (starEach (e :: rest) (en d K)))) fun vs l led => W d K l led (call (.ref a) vs) Q) : W d K l led (eval (.Call f (e :: rest) [] pos) (en d K)) Q := by
  intro s E Q' hs hq
  refine Call_ (hf _ _ _ hs fun x s' hx hs' => ?_) hc
  cases hx
  exact callWith_K d.X hk (h _ _ _ hs' fun vs l led s'' hvs hs'' => ⟨d.X.keeps hs''.1.keep, hvs _ _ _ hs'' hq⟩) he hplain
/-- a call of a def whose arguments are plain. -/
theorem W.call {f e : Expr} {rest : List Expr} {pos : Pos} {a : Addr} {as : List Ar} {k' : Nat} {pre rs : Led} {S : (Value → Led → Prop) → Prop} {Q : Value → Loc → Led → Prop}
    (D : DoesW w k' a as pre S) (hk' : k' ≤ k) (hf : Ev d K l led f (.v (.ref a))) (hk : keepIn (Mine.hd.heap_1 w.params) (.ref a) = true)
    (he : starEach (e :: rest) (en d K) = (false, eval e (en d K)) :: starEach rest (en d K)) (hplain : (backTo pos (starEach rest (en d K))).any (·.1) = false)
    (hc : eval (.Call f (e :: rest) [] pos) (en d K) = (do callWith pos (← eval f (en d K)) [] (backTo pos (starEach (e :: rest) (en d K))) (backToKw pos (keywordEach [] (en d K)))))
    (ha : Evs d K l led (e :: rest) as) (sel : Sel led pre rs) (h : S (fun v led' => Q v l (led' ++ rs))) : W d K l led (eval (.Call f (e :: rest) [] pos) (en d K)) Q :=
  .callee hf hk he hplain hc (.args ha fun vs hvs => .does D hk' hvs sel h)

/- statements -/
def Then (d : Dy w k) (K : Kode) (rest : List Stmt) (Q : Flow → Loc → Led → Prop) (f : Flow) (l : Loc) (led : Led) : Prop :=
  match f with
  | .next => W d K l led (execs rest (en d K)) Q
  | f => Q f l led
theorem Then.next {rest : List Stmt} {Q : Flow → Loc → Led → Prop} (h : W d K l led (execs rest (en d K)) Q) : Then d K rest Q .next l led := h
theorem Then.ret {rest : List Stmt} {Q : Flow → Loc → Led → Prop} {v : Value} (h : Q (.ret v) l led) : Then d K rest Q (.ret v) l led := h
theorem W.nil {Q : Flow → Loc → Led → Prop} (h : Q .next l led) : W d K l led (execs [] (en d K)) Q := fun s E Q' hs hq => wpAny_execs_nil (hq _ _ _ _ h hs)
theorem W.cons {st : Stmt} {rest : List Stmt} {Q : Flow → Loc → Led → Prop} (h : W d K l led (exec st (en d K)) (Then d K rest Q)) : W d K l led (execs (st :: rest) (en d K)) Q :=
  fun s E Q' hs hq => wpAny_execs_cons (h _ _ _ hs fun f l led s' hf hs' => by
    cases f <;> first | exact hf _ _ _ hs' hq | exact hq _ _ _ _ hf hs')
theorem W.ifT {t : Expr} {a b : List Stmt} {pos : Pos} {Q : Flow → Loc → Led → Prop} (ht : Tv d K l led t true) (h : W d K l led (execs a (en d K)) Q) : W d K l led (exec (.If t a b pos) (en d K)) Q :=
  fun s E Q' hs hq => wpAny_If (ht _ _ _ hs fun s' hs' => h _ _ _ hs' hq)
theorem W.ifF {t : Expr} {a b : List Stmt} {pos : Pos} {Q : Flow → Loc → Led → Prop} (ht : Tv d K l led t false) (h : W d K l led (execs b (en d K)) Q) : W d K l led (exec (.If t a b pos) (en d K)) Q :=
  fun s E Q' hs hq => wpAny_If (ht _ _ _ hs fun s' hs' => h _ _ _ hs' hq)
theorem W.ret {e : Expr} {pos : Pos} {Q : Flow → Loc → Led → Prop} (h : W d K l led (eval e (en d K)) fun v => Q (.ret v)) : W d K l led (exec (.Return (some e) pos) (en d K)) Q :=
  fun s E Q' hs hq => wpAny_Return_some (h _ _ _ hs fun v l led s' hv hs' => hq _ _ _ _ hv hs')
theorem W.expr {e : Expr} {pos : Pos} {Q : Flow → Loc → Led → Prop} (hi : interactive (en d K) = false) (hsw : swapsWith e none pos.line (en d K) = pure false) (h : W d K l led (eval e (en d K)) fun v l led => v = .none ∧ Q .next l led) : W d K l led (exec (.Expr e pos) (en d K)) Q :=
  fun s E Q' hs hq => wpAny_Expr (h _ _ _ hs fun v l led s' hv hs' => by obtain ⟨rfl, hv⟩ := hv; exact hq _ _ _ _ hv hs') hi hsw
theorem W.exprR {e : Expr} {pos : Pos} {Q : Flow → Loc → Led → Prop} (hi : interactive (en d K) = false) (hsw : swapsWith e none pos.line (en d K) = pure false) (h : W d K l led (eval e (en d K)) fun v l led => (∀ a, v ≠ .ref a) ∧ Q .next l led) : W d K l led (exec (.Expr e pos) (en d K)) Q :=
  fun s E Q' hs hq => wpAny_Expr (h _ _ _ hs fun v l led s' hv hs' => by
    obtain ⟨hn, hv⟩ := hv
    cases v <;> first | exact hq _ _ _ _ hv hs' | exact (hn _ rfl).elim) hi hsw
/-- a local laid. -/
theorem W.store {x : Str} {v : Value} {Q : Unit → Loc → Led → Prop} (hx : (en d K).kindOf x = some .local) (hl : SetL x v l l') (h : Q () l' led) : W d K l led (storeName (en d K) x v) Q := by
  intro s E Q' hs hq
  refine storeX_L hs.1 hs.2.1 (fun h' F N => hq _ _ _ _ h (hs.put (by rw [hl.look]; exact F) N hs.2.2.1)) K.hk hx
theorem W.asg {x : Str} {xp pos : Pos} {e : Expr} {Q : Flow → Loc → Led → Prop} (hsw : swapsWith e (some (.Name x xp)) pos.line (en d K) = pure false)
    (h : W d K l led (eval e (en d K)) fun v l led => W d K l led (storeName (en d K) x v) fun _ => Q .next) : W d K l led (exec (.Assign [.Name x xp] e pos) (en d K)) Q :=
  fun s E Q' hs hq => wpAny_Assign_Name (h _ _ _ hs fun v l led s' hv hs' => hv _ _ _ hs' fun _ l led s' hv hs' => hq _ _ _ _ hv hs') hsw
theorem W.assignSub {o i e : Expr} {xp pos : Pos} {Q : Flow → Loc → Led → Prop} (hsw : swapsWith e (some (.Subscript o i xp)) pos.line (en d K) = pure false)
    (h : W d K l led (eval e (en d K)) fun v l led => W d K l led (eval o (en d K)) fun ov l led => W d K l led (eval i (en d K)) fun iv l led => W d K l led (setItem ov iv v) fun _ => Q .next) : W d K l led (exec (.Assign [.Subscript o i xp] e pos) (en d K)) Q :=
  fun s E Q' hs hq => wpAny_Assign_Subscript (h _ _ _ hs fun v l led s' hv hs' => hv _ _ _ hs' fun _ l led s' hv hs' => hv _ _ _ hs' fun _ l led s' hv hs' => hv _ _ _ hs' fun _ l led s' hv hs' => hq _ _ _ _ hv hs') hsw
theorem W.assignAttr {o e : Expr} {attr : Str} {xp pos : Pos} {Q : Flow → Loc → Led → Prop} (hsw : swapsWith e (some (.Attribute o attr xp)) pos.line (en d K) = pure false)
    (h : W d K l led (eval e (en d K)) fun v l led => W d K l led (eval o (en d K)) fun ov l led => W d K l led (setAttr ov attr v) fun _ => Q .next) : W d K l led (exec (.Assign [.Attribute o attr xp] e pos) (en d K)) Q :=
  fun s E Q' hs hq => plainObj_wpAny_Assign_Attribute (h _ _ _ hs fun v l led s' hv hs' => hv _ _ _ hs' fun _ l led s' hv hs' => hv _ _ _ hs' fun _ l led s' hv hs' => hq _ _ _ _ hv hs') hsw
theorem W.putAttr {c C cd : Addr} {attr : Str} {o o' : Obj} {v : Value} {Q : Unit → Loc → Led → Prop} (ok : PutOk w C attr) (h1 : (c, instObj C cd) ∈ led) (_ : (cd, o) ∈ led) (hp : PutC w o attr v o') (U : UpL cd o o' led led') (h : Q () l led') :
    W d K l led (setAttr (.ref c) attr v) Q := by
  intro s E Q' hs hq
  obtain ⟨es, n, es', n', rfl, rfl, p1, p2, p3⟩ := hp (s.toks + 1)
  exact set_dict hs.1 d.X hs.2.1 (InstAt.of_news hs.2.1 h1 U.mem) rfl ok.hs ok.hp ok.ht ok.hh p1 p2 (U.upd hs.2.2.1) p3 fun h' F N => hq _ _ _ _ h (hs.put F N (U.keys ▸ hs.2.2.1))
def PutI (o : Obj) (i : Int) (v : Value) (o' : Obj) : Prop := ∃ its n q, o = W.listOf its n ∧ o' = W.listOf (List.toArray q) n ∧ 0 ≤ i ∧ i < 2 ^ 63 ∧ ki_setL its.toList i.toNat v = some q
theorem W.putItem {r : Addr} {i : Int} {t : Tok} {o o' : Obj} {v : Value} {Q : Unit → Loc → Led → Prop} (_ : (r, o) ∈ led) (hp : PutI o i v o') (U : UpL r o o' led led') (h : Q () l led') : W d K l led (setItem (.ref r) (.int i t) v) Q := by
  intro s E Q' hs hq
  obtain ⟨its, n, q, rfl, rfl, p1, p2, p3⟩ := hp
  exact ki_set hs.1 hs.2.1 p1 p2 p3 (U.upd hs.2.2.1) fun h' F N => hq _ _ _ _ h (hs.heap F N (U.keys ▸ hs.2.2.1))

/- tuples -/
abbrev tupObj (vs : List Value) : Obj := { cls := .type "tuple", data := .seq vs.toArray }
theorem W.tuple {elts : List Expr} {j : Nat} {pos : Pos} {Q : Value → Loc → Led → Prop} (h : W d K l led (spliced (backTo pos (starEach elts (en d K)))) fun vs l led => vs.length ≤ sizeLine ∧ ∀ t, Q (.ref t) l ((t, tupObj vs) :: led)) : W d K l led (eval (.Tuple elts j pos) (en d K)) Q :=
  fun s E Q' hs hq => Tuple_ (h _ _ _ hs fun vs l led s' hv hs' => kup_newTuple hs'.1 hs'.2.1 (fun D h' F N l1 => hq _ _ _ _ (hv.2 D) (hs'.heap F N (List.nodup_cons.mpr ⟨fun hm => by
    obtain ⟨p, hp, e⟩ := List.mem_map.mp hm
    exact absurd (l1 p hp) (by rw [e]; exact Nat.lt_irrefl _), hs'.2.2.1⟩))) hv.1)
theorem W.assignTup {elts : List Expr} {j : Nat} {tp pos : Pos} {e : Expr} {Q : Flow → Loc → Led → Prop} (h1 : swapsWithSole [.Tuple elts j tp] e pos.line (en d K) = pure false) (h2 : swappedStores [.Tuple elts j tp] e (en d K) = pure none)
    (h : W d K l led (eval e (en d K)) fun v l led => W d K l led (assign (.Tuple elts j tp) (en d K) v) fun _ => Q .next) : W d K l led (exec (.Assign [.Tuple elts j tp] e pos) (en d K)) Q :=
  fun s E Q' hs hq => Assign_Tuple (h _ _ _ hs fun v l led s' hv hs' => hv _ _ _ hs' fun _ l led s' hv hs' => hq _ _ _ _ hv hs') h1 h2
theorem W.assignSwap {elts : List Expr} {j : Nat} {tp pos : Pos} {e : Expr} {names : List Str} {Q : Flow → Loc → Led → Prop} (h1 : swapsWithSole [.Tuple elts j tp] e pos.line (en d K) = pure false) (h2 : swappedStores [.Tuple elts j tp] e (en d K) = pure (some names))
    (h : W d K l led (eval e (en d K)) fun v l led => W d K l led (unpackItems v names.length none) fun items l led => W d K l led (assignInOrder (names.reverse.map fun n => bindName (en d K) n) items.reverse) fun _ => Q .next) : W d K l led (exec (.Assign [.Tuple elts j tp] e pos) (en d K)) Q :=
  fun s E Q' hs hq => Assign_Tuple_swapped (h _ _ _ hs fun v l led s' hv hs' => hv _ _ _ hs' fun items l led s' hv hs' => hv _ _ _ hs' fun _ l led s' hv hs' => hq _ _ _ _ hv hs') h1 h2
theorem W.unpack {elts : List Expr} {j : Nat} {pos : Pos} {t : Addr} {vs : List Value} {Q : Unit → Loc → Led → Prop} (h1 : (t, tupObj vs) ∈ led) (hn : (assignEach elts (en d K)).length = vs.length) (hst : (assignEach elts (en d K)).findIdx? (·.1) = none)
    (h : W d K l led (assignInOrder ((assignEach elts (en d K)).map (·.2)) vs) Q) : W d K l led (assign (.Tuple elts j pos) (en d K) (.ref t)) Q :=
  fun s E Q' hs hq => unpackN_ hs.1 hs.2.1 (News.isTup hs.2.1 h1) rfl (by simpa using hn) hst fun h' F N => by
    have := h _ E Q' (hs.heap F N hs.2.2.1) hq
    simpa using this
theorem W.unpItems {n : Nat} {t : Addr} {vs : List Value} {Q : List Value → Loc → Led → Prop} (h1 : (t, tupObj vs) ∈ led) (hn : n = vs.length) (h : Q vs l led) : W d K l led (unpackItems (.ref t) n none) Q :=
  fun s E Q' hs hq => unpackItemsN_ hs.1 hs.2.1 (News.isTup hs.2.1 h1) rfl (by simpa using hn) fun h' F N => hq _ _ _ _ (by simpa using h) (hs.heap F N hs.2.2.1)
theorem W.ord_nil {Q : Unit → Loc → Led → Prop} (h : Q () l led) : W d K l led (assignInOrder [] []) Q := fun s E Q' hs hq => assignInOrder_nil (hq _ _ _ _ h hs)
theorem W.ord_cons {t : Value → Sem Unit} {ts : List (Value → Sem Unit)} {x : Value} {xs : List Value} {Q : Unit → Loc → Led → Prop} (h : W d K l led (t x) fun _ l led => W d K l led (assignInOrder ts xs) Q) : W d K l led (assignInOrder (t :: ts) (x :: xs)) Q :=
  fun s E Q' hs hq => assignInOrder_cons (h _ _ _ hs fun _ l led s' hv hs' => hv _ _ _ hs' hq)
theorem W.bindNm {x : Str} {v : Value} {Q : Unit → Loc → Led → Prop} (h : W d K l led (storeName (en d K) x v) Q) : W d K l led (bindName (en d K) x v) Q := fun s E Q' hs hq => bindName_ (h _ _ _ hs hq)
theorem W.assName {x : Str} {pos : Pos} {v : Value} {Q : Unit → Loc → Led → Prop} (h : W d K l led (storeName (en d K) x v) Q) : W d K l led (assign (.Name x pos) (en d K) v) Q := fun s E Q' hs hq => PyProof.Rows.assign_Name (h _ _ _ hs hq)
theorem W.assSub {o i : Expr} {pos : Pos} {v : Value} {Q : Unit → Loc → Led → Prop} (h : W d K l led (eval o (en d K)) fun ov l led => W d K l led (eval i (en d K)) fun iv l led => W d K l led (setItem ov iv v) Q) : W d K l led (assign (.Subscript o i pos) (en d K) v) Q :=
  fun s E Q' hs hq => kas_sub (h _ _ _ hs fun _ l led s' hv hs' => hv _ _ _ hs' fun _ l led s' hv hs' => hv _ _ _ hs' hq)
theorem W.assAttr {o : Expr} {attr : Str} {pos : Pos} {v : Value} {Q : Unit → Loc → Led → Prop} (h : W d K l led (eval o (en d K)) fun ov l led => W d K l led (PySem.setAttr ov attr v) Q) : W d K l led (assign (.Attribute o attr pos) (en d K) v) Q :=
  fun s E Q' hs hq => kas_attr (h _ _ _ hs fun _ l led s' hv hs' => hv _ _ _ hs' hq)
end


section
variable {w : World} {k : Nat} {d : Dy w k} {K : Kode} {l l' : Loc} {led led' : Led} {α : Type}
theorem W.calleeP {f e : Expr} {rest : List Expr} {pos : Pos} {a : Addr} {as : List Ar} {Q : Value → Loc → Led → Prop} (hf : Ev d K l led f (.v (.ref a))) (hk : keepIn (Mine.hd.heap_1 w.params) (.ref a) = true)
    (he : starEach (e :: rest) (en d K) = (false, eval e (en d K)) :: starEach rest (en d K)) (hplain : (backTo pos (starEach rest (en d K))).any (·.1) = false)
    (hc : eval (.Call f (e :: rest) [] pos) (en d K) = (do callWith pos (← eval f (en d K)) [] (backTo pos (starEach (e :: rest) (en d K))) (backToKw pos (keywordEach [] (en d K)))))
    (ha : Evs d K l led (e :: rest) as) (h : ∀ vs, ArgsAre as vs → W d K l led (PySem.call (.ref a) vs) Q) : W d K l led (eval (.Call f (e :: rest) [] pos) (en d K)) Q :=
  .callee hf hk he hplain hc (.args ha h)
theorem bif_or {c : Bool} {x y : Int} : (bif c then x else y) = x ∨ (bif c then x else y) = y := by cases c <;> simp
theorem End.mk {S : (Value → Led → Prop) → Prop} {f : Flow} {l : Loc} {led : Led} (h : ∀ R, S R → ∃ led' junk, Sel led led' junk ∧ R (retv f) led') : End S f l led := h
theorem End.mk2 {led led' junk : Led} {R : Value → Led → Prop} {v : Value} (h : R v led') (sel : Sel led led' junk) : ∃ led' junk, Sel led led' junk ∧ R v led' := ⟨_, _, sel, h⟩
theorem W.drop {x : Addr × Obj} {p : Sem α} {Q : α → Loc → Led → Prop} (h : W d K l led p Q) : W d K l (x :: led) p Q :=
  fun s E Q' hs hq => h s E Q' ⟨hs.1, fun q hq => hs.2.1 q (.tail _ hq), (List.nodup_cons.mp hs.2.2.1).2, hs.2.2.2⟩ hq
theorem W.mono {p : Sem α} {Q Q₂ : α → Loc → Led → Prop} (h : W d K l led p Q) (hq : ∀ a l led, Q a l led → Q₂ a l led) : W d K l led p Q₂ :=
  fun s E Q' hs h' => h s E Q' hs fun a l led s' ha hs' => h' _ _ _ _ (hq _ _ _ ha) hs'
theorem W.tupSwap {elts es : List Expr} {j j' : Nat} {tp tp' pos : Pos} {names : List Str} {Q : Flow → Loc → Led → Prop} (h1 : swapsWithSole [.Tuple elts j tp] (.Tuple es j' tp') pos.line (en d K) = pure false) (h2 : swappedStores [.Tuple elts j tp] (.Tuple es j' tp') (en d K) = pure (some names))
    (h : W d K l led (spliced (backTo tp' (starEach es (en d K)))) fun vs l led => (vs.length ≤ sizeLine ∧ names.length = vs.length) ∧ W d K l led (assignInOrder (names.reverse.map fun n => PySem.bindName (en d K) n) vs.reverse) fun _ => Q .next) :
    W d K l led (exec (.Assign [.Tuple elts j tp] (.Tuple es j' tp') pos) (en d K)) Q :=
  .assignSwap h1 h2 (.tuple (h.mono fun vs l led hv => ⟨hv.1.1, fun t => .unpItems (.head _) hv.1.2 (.drop hv.2)⟩))
theorem W.tupAss {elts es : List Expr} {j j' : Nat} {tp tp' pos : Pos} {Q : Flow → Loc → Led → Prop} (h1 : swapsWithSole [.Tuple elts j tp] (.Tuple es j' tp') pos.line (en d K) = pure false) (h2 : swappedStores [.Tuple elts j tp] (.Tuple es j' tp') (en d K) = pure none)
    (h3 : (assignEach elts (en d K)).findIdx? (·.1) = none)
    (h : W d K l led (spliced (backTo tp' (starEach es (en d K)))) fun vs l led => (vs.length ≤ sizeLine ∧ (assignEach elts (en d K)).length = vs.length) ∧ W d K l led (assignInOrder ((assignEach elts (en d K)).map (·.2)) vs) fun _ => Q .next) :
    W d K l led (exec (.Assign [.Tuple elts j tp] (.Tuple es j' tp') pos) (en d K)) Q :=
  .assignTup h1 h2 (.tuple (h.mono fun vs l led hv => ⟨hv.1.1, fun t => .unpack (.head _) hv.1.2 h3 (.drop hv.2)⟩))
theorem W.unpackD {elts : List Expr} {j : Nat} {pos : Pos} {t : Addr} {vs : List Value} {Q : Unit → Loc → Led → Prop} (hn : (assignEach elts (en d K)).length = vs.length) (hst : (assignEach elts (en d K)).findIdx? (·.1) = none)
    (h : W d K l led (assignInOrder ((assignEach elts (en d K)).map (·.2)) vs) Q) : W d K l ((t, tupObj vs) :: led) (assign (.Tuple elts j pos) (en d K) (.ref t)) Q :=
  .unpack (.head _) hn hst (.drop h)
theorem W.ordE_cons {tg : Expr} {rest : List Expr} {x : Value} {xs : List Value} {Q : Unit → Loc → Led → Prop} (he : assignEach (tg :: rest) (en d K) = (false, assign tg (en d K)) :: assignEach rest (en d K))
    (h : W d K l led (assign tg (en d K) x) fun _ l led => W d K l led (assignInOrder ((assignEach rest (en d K)).map (·.2)) xs) Q) : W d K l led (assignInOrder ((assignEach (tg :: rest) (en d K)).map (·.2)) (x :: xs)) Q := by
  rw [he]; exact W.ord_cons h
theorem W.ordE_nil {Q : Unit → Loc → Led → Prop} (h : Q () l led) : W d K l led (assignInOrder ((assignEach [] (en d K)).map (·.2)) []) Q := W.ord_nil h
theorem W.swap2 {a b : Str} {x y : Value} {Q : Unit → Loc → Led → Prop} (h : W d K l led (storeName (en d K) b y) fun _ l led => W d K l led (storeName (en d K) a x) Q) : W d K l led (assignInOrder ([a, b].reverse.map fun n => PySem.bindName (en d K) n) [x, y].reverse) Q :=
  .ord_cons (.bindNm (h.mono fun _ l led h => .ord_cons (.bindNm (h.mono fun _ l led h => .ord_nil h))))
theorem W.swap3 {a b c : Str} {x y z : Value} {Q : Unit → Loc → Led → Prop} (h : W d K l led (storeName (en d K) c z) fun _ l led => W d K l led (storeName (en d K) b y) fun _ l led => W d K l led (storeName (en d K) a x) Q) : W d K l led (assignInOrder ([a, b, c].reverse.map fun n => PySem.bindName (en d K) n) [x, y, z].reverse) Q :=
  .ord_cons (.bindNm (h.mono fun _ l led h => .ord_cons (.bindNm (h.mono fun _ l led h => .ord_cons (.bindNm (h.mono fun _ l led h => .ord_nil h))))))
theorem W.opOr {x y : Int} {a b : Tok} {Q : Value → Loc → Led → Prop} (h : ∀ t, Q (.int (Builtin.bitOr x y) t) l led) : W d K l led (binaryOp .BitOr (.int x a) (.int y b)) Q := fun s E Q' hs hq => or_int (hq _ _ _ _ (h _) hs.tok)
theorem W.opAnd {x y : Int} {a b : Tok} {Q : Value → Loc → Led → Prop} (h : ∀ t, Q (.int (Builtin.bitAnd x y) t) l led) : W d K l led (binaryOp .BitAnd (.int x a) (.int y b)) Q := fun s E Q' hs hq => and_int (hq _ _ _ _ (h _) hs.tok)
theorem W.opAdd {x y : Int} {a b : Tok} {Q : Value → Loc → Led → Prop} (h : ∀ t, Q (.int (x + y) t) l led) : W d K l led (binaryOp .Add (.int x a) (.int y b)) Q := fun s E Q' hs hq => PyProof.Rows.add_int (hq _ _ _ _ (h _) hs.tok)
theorem W.opShl {x y : Int} {a b : Tok} {Q : Value → Loc → Led → Prop} (h1 : 0 ≤ y) (h2 : y ≤ 1000000) (h3 : x.natAbs < 2 ^ 64) (h : ∀ t, Q (.int (x * 2 ^ y.toNat) t) l led) : W d K l led (binaryOp .LShift (.int x a) (.int y b)) Q := fun s E Q' hs hq => lshift_int_small h1 h2 h3 (hq _ _ _ _ (h _) hs.tok)
/- tests with calls in them -/
theorem W.ifW {t : Expr} {a b : List Stmt} {pos : Pos} {Q : Flow → Loc → Led → Prop} (h : W d K l led (isTrue t (en d K) (eval t (en d K))) fun c l led => if c then W d K l led (execs a (en d K)) Q else W d K l led (execs b (en d K)) Q) : W d K l led (exec (.If t a b pos) (en d K)) Q :=
  fun s E Q' hs hq => wpAny_If (h _ _ _ hs fun c l led s' hc hs' => by
    cases c
    · exact hc _ _ _ hs' hq
    · exact hc _ _ _ hs' hq)
theorem W.tcmp {a b : Expr} {op : CmpOp} {pos : Pos} {whole : Sem Value} {Q : Bool → Loc → Led → Prop} (hm : behindInMarks op b = false)
    (h : W d K l led (eval a (en d K)) fun x l led => W d K l led (eval b (en d K)) fun y l led => W d K l led (compareOp op x y) fun c l led => W d K l led (truthy c) Q) : W d K l led (isTrue (.Compare a [op] [b] pos) (en d K) whole) Q :=
  fun s E Q' hs hq => wpAny_isTrue_Compare1 (h _ _ _ hs fun x l led s' hx hs' => hx _ _ _ hs' fun y l led s' hy hs' => hy _ _ _ hs' fun c l led s' hc hs' => hc _ _ _ hs' hq) hm
theorem W.tv {e : Expr} {c : Bool} {Q : Bool → Loc → Led → Prop} (h : Tv d K l led e c) (hq : Q c l led) : W d K l led (isTrue e (en d K) (eval e (en d K))) Q := fun s E Q' hs hQ => h _ _ _ hs fun s' hs' => hQ _ _ _ _ hq hs'
theorem W.tor {x : Expr} {rest : List Expr} {pos : Pos} {whole : Sem Value} {Q : Bool → Loc → Led → Prop} (h : W d K l led (isTrue x (en d K) (eval x (en d K))) fun c l led => if c then Q true l led else W d K l led (isTrue (.BoolOp .Or rest pos) (en d K) whole) Q) : W d K l led (isTrue (.BoolOp .Or (x :: rest) pos) (en d K) whole) Q :=
  fun s E Q' hs hq => isTrue_or (h _ _ _ hs fun c l led s' hc hs' => by
    cases c
    · exact hc _ _ _ hs' hq
    · exact hq _ _ _ _ hc hs')
theorem W.tor0 {pos : Pos} {whole : Sem Value} {Q : Bool → Loc → Led → Prop} (h : Q false l led) : W d K l led (isTrue (.BoolOp .Or [] pos) (en d K) whole) Q := fun s E Q' hs hq => isTrue_or_nil (hq _ _ _ _ h hs)
theorem W.tand {x : Expr} {rest : List Expr} {pos : Pos} {whole : Sem Value} {Q : Bool → Loc → Led → Prop} (h : W d K l led (isTrue x (en d K) (eval x (en d K))) fun c l led => if c then W d K l led (isTrue (.BoolOp .And rest pos) (en d K) whole) Q else Q false l led) : W d K l led (isTrue (.BoolOp .And (x :: rest) pos) (en d K) whole) Q :=
  fun s E Q' hs hq => isTrue_and (h _ _ _ hs fun c l led s' hc hs' => by
    cases c
    · exact hq _ _ _ _ hc hs'
    · exact hc _ _ _ hs' hq)
theorem W.tand0 {pos : Pos} {whole : Sem Value} {Q : Bool → Loc → Led → Prop} (h : Q true l led) : W d K l led (isTrue (.BoolOp .And [] pos) (en d K) whole) Q := fun s E Q' hs hq => isTrue_and_nil (hq _ _ _ _ h hs)
theorem W.cmpNe {x y : Int} {a b : Tok} {Q : Value → Loc → Led → Prop} (h : Q (.bool (x != y)) l led) : W d K l led (compareOp .NotEq (.int x a) (.int y b)) Q := fun s E Q' hs hq => PyProof.Rows.ne_int (hq _ _ _ _ h hs)
theorem W.cmpEq {x y : Int} {a b : Tok} {Q : Value → Loc → Led → Prop} (h : Q (.bool (x == y)) l led) : W d K l led (compareOp .Eq (.int x a) (.int y b)) Q := fun s E Q' hs hq => PyProof.Rows.eq_int (hq _ _ _ _ h hs)
theorem W.truB {c : Bool} {Q : Bool → Loc → Led → Prop} (h : Q c l led) : W d K l led (truthy (.bool c)) Q := fun s E Q' hs hq => wpAny_truthy_bool (hq _ _ _ _ h hs)
theorem iteF {c : Bool} {a b : Prop} (hc : c = false) (h : b) : if c = true then a else b := by subst hc; exact h
theorem iteT {c : Bool} {a b : Prop} (hc : c = true) (h : a) : if c = true then a else b := by subst hc; exact h

/- contracts in the old form -/
theorem Does.mono {k : Nat} {f : Addr} {vs : List Value} {pre : Led} {P P' : Value → Led → Prop} (D : Does w k f vs pre P) (h : ∀ v led, P v led → P' v led) : Does w k f vs pre P' :=
  fun mean mg mb dp un gd cn cs a ccd cl outer A₀ base h₀ L m news rest s Q E B F X N T hk hpre hap hd hu ret =>
    D mean mg mb dp un gd cn cs a ccd cl outer A₀ base h₀ L m news rest s Q E B F X N T hk hpre hap hd hu fun v led h' tk' hP => ret v led h' tk' (h v led hP)
theorem parity_W (w : World) {x : Int} : DoesW w 2 147 [.i x] [] (fun R => ∀ y u, 0 ≤ y ∧ y < 256 ∧ y % 2 = 0 → R (.int y u) []) :=
  fun nd τ R hR => (parity_does w x (τ 0)).mono (by rintro v led ⟨rfl, y, u, rfl, h⟩; exact ⟨nd, hR _ _ h⟩)
theorem peek_W (w : World) {ma : Addr} {vs : List Value} {ms : List Int} {nm : Nat} {x : Int} (hc : IntsAre vs ms ∧ ms.length = 16 ∧ ∀ j : Nat, 0 ≤ ms.getD j 0 ∧ ms.getD j 0 < 256) :
    DoesW w 2 84 [.v (.ref ma), .i x] [(ma, W.listOf vs.toArray nm)] (fun R => ∀ u, R (.int (ms.getD (x % 16).toNat 0) u) [(ma, W.listOf vs.toArray nm)]) :=
  fun nd τ R hR => (peek_does w hc.1 hc.2.1 hc.2.2 x (τ 1)).mono (by rintro v led ⟨rfl, y, u, rfl, rfl, _⟩; exact ⟨nd, hR _⟩)
theorem poke_W (w : World) {ma : Addr} {vs : List Value} {ms : List Int} {nm : Nat} {x y : Int} (hc : IntsAre vs ms ∧ ms.length = 16) :
    DoesW w 2 91 [.v (.ref ma), .i x, .i y] [(ma, W.listOf vs.toArray nm)] (fun R => ∀ u n', R .none [(ma, W.listOf (vs.set (x % 16).toNat (.int (y % 256) u)).toArray n')]) :=
  fun nd τ R hR => (poke_does w hc.1 hc.2 x (τ 1) y (τ 2)).mono (by rintro v led ⟨rfl, j, z, u, n', rfl, rfl, rfl⟩; exact ⟨nd, hR _ _⟩)
end

theorem gl_REG_B (w : World) : GlobIs w "REG_B" (.int 0 189) := by unfold GlobIs; k_is
theorem gl_REG_C (w : World) : GlobIs w "REG_C" (.int 1 191) := by unfold GlobIs; k_is
theorem gl_REG_F (w : World) : GlobIs w "REG_F" (.int 6 193) := by unfold GlobIs; k_is
theorem gl_REG_A (w : World) : GlobIs w "REG_A" (.int 7 195) := by unfold GlobIs; k_is
theorem gl_S (w : World) : GlobIs w "S" (.int 128 375) := by unfold GlobIs; k_is
theorem gl_Z (w : World) : GlobIs w "Z" (.int 64 377) := by unfold GlobIs; k_is
theorem gl_Y (w : World) : GlobIs w "Y" (.int 32 379) := by unfold GlobIs; k_is
theorem gl_H (w : World) : GlobIs w "H" (.int 16 381) := by unfold GlobIs; k_is
theorem gl_X (w : World) : GlobIs w "X" (.int 8 383) := by unfold GlobIs; k_is
theorem gl_PV (w : World) : GlobIs w "PV" (.int 4 385) := by unfold GlobIs; k_is
theorem gl_N (w : World) : GlobIs w "N" (.int 2 387) := by unfold GlobIs; k_is
theorem gl_C (w : World) : GlobIs w "C" (.int 1 389) := by unfold GlobIs; k_is
theorem gl_YX (w : World) : GlobIs w "YX" (.int 40 391) := by unfold GlobIs; k_is
theorem gl_BC (w : World) : GlobIs w "BC" (.int 0 540) := by unfold GlobIs; k_is
theorem gl_DE (w : World) : GlobIs w "DE" (.int 1 542) := by unfold GlobIs; k_is
theorem gl_HL (w : World) : GlobIs w "HL" (.int 2 544) := by unfold GlobIs; k_is
theorem gl_NOTHING (w : World) : GlobIs w "NOTHING" (.int 6 546) := by unfold GlobIs; k_is
theorem gl_STATES_OF_NONE (w : World) : GlobIs w "STATES_OF_NONE" (.int 8 548) := by unfold GlobIs; k_is
theorem gl_cpu_row (w : World) : GlobIs w "cpu_row" (.ref 63) := by unfold GlobIs; k_is
theorem gl_pair (w : World) : GlobIs w "pair" (.ref 70) := by unfold GlobIs; k_is
theorem gl_set_pair (w : World) : GlobIs w "set_pair" (.ref 77) := by unfold GlobIs; k_is
theorem gl_peek (w : World) : GlobIs w "peek" (.ref 84) := by unfold GlobIs; k_is
theorem gl_poke (w : World) : GlobIs w "poke" (.ref 91) := by unfold GlobIs; k_is
theorem gl_peek16 (w : World) : GlobIs w "peek16" (.ref 98) := by unfold GlobIs; k_is
theorem gl_poke16 (w : World) : GlobIs w "poke16" (.ref 105) := by unfold GlobIs; k_is
theorem gl_fetch (w : World) : GlobIs w "fetch" (.ref 112) := by unfold GlobIs; k_is
theorem gl_fetch16 (w : World) : GlobIs w "fetch16" (.ref 119) := by unfold GlobIs; k_is
theorem gl_parity (w : World) : GlobIs w "parity" (.ref 147) := by unfold GlobIs; k_is
theorem gl_szyx (w : World) : GlobIs w "szyx" (.ref 154) := by unfold GlobIs; k_is
theorem gl_sub8 (w : World) : GlobIs w "sub8" (.ref 161) := by unfold GlobIs; k_is
theorem gl_neg (w : World) : GlobIs w "neg" (.ref 168) := by unfold GlobIs; k_is
theorem gl_high_flags (w : World) : GlobIs w "high_flags" (.ref 175) := by unfold GlobIs; k_is
theorem gl_word_flags (w : World) : GlobIs w "word_flags" (.ref 182) := by unfold GlobIs; k_is
theorem gl_adc16 (w : World) : GlobIs w "adc16" (.ref 189) := by unfold GlobIs; k_is
theorem gl_sbc16 (w : World) : GlobIs w "sbc16" (.ref 196) := by unfold GlobIs; k_is
theorem gl_rrd (w : World) : GlobIs w "rrd" (.ref 203) := by unfold GlobIs; k_is
theorem gl_rld (w : World) : GlobIs w "rld" (.ref 210) := by unfold GlobIs; k_is
theorem gl_load_flags (w : World) : GlobIs w "load_flags" (.ref 217) := by unfold GlobIs; k_is
theorem gl_do_ed (w : World) : GlobIs w "do_ed" (.ref 254) := by unfold GlobIs; k_is
theorem gl_add_words (w : World) : GlobIs w "add_words" (.ref 268) := by unfold GlobIs; k_is
theorem gl_load_words (w : World) : GlobIs w "load_words" (.ref 275) := by unfold GlobIs; k_is
theorem gl_do_special (w : World) : GlobIs w "do_special" (.ref 282) := by unfold GlobIs; k_is
theorem gl_MODES (w : World) : GlobIs w "MODES" (.ref 246) := by unfold GlobIs; k_is
theorem gl_STATES_BY_Z (w : World) : GlobIs w "STATES_BY_Z" (.ref 247) := by unfold GlobIs; k_is
theorem kp_cpu_row (w : World) : keepIn (Mine.hd.heap_1 w.params) (.ref 63) = true := by k_is
theorem kp_pair (w : World) : keepIn (Mine.hd.heap_1 w.params) (.ref 70) = true := by k_is
theorem kp_set_pair (w : World) : keepIn (Mine.hd.heap_1 w.params) (.ref 77) = true := by k_is
theorem kp_peek (w : World) : keepIn (Mine.hd.heap_1 w.params) (.ref 84) = true := by k_is
theorem kp_poke (w : World) : keepIn (Mine.hd.heap_1 w.params) (.ref 91) = true := by k_is
theorem kp_peek16 (w : World) : keepIn (Mine.hd.heap_1 w.params) (.ref 98) = true := by k_is
theorem kp_poke16 (w : World) : keepIn (Mine.hd.heap_1 w.params) (.ref 105) = true := by k_is
theorem kp_fetch (w : World) : keepIn (Mine.hd.heap_1 w.params) (.ref 112) = true := by k_is
theorem kp_fetch16 (w : World) : keepIn (Mine.hd.heap_1 w.params) (.ref 119) = true := by k_is
theorem kp_parity (w : World) : keepIn (Mine.hd.heap_1 w.params) (.ref 147) = true := by k_is
theorem kp_szyx (w : World) : keepIn (Mine.hd.heap_1 w.params) (.ref 154) = true := by k_is
theorem kp_sub8 (w : World) : keepIn (Mine.hd.heap_1 w.params) (.ref 161) = true := by k_is
theorem kp_neg (w : World) : keepIn (Mine.hd.heap_1 w.params) (.ref 168) = true := by k_is
theorem kp_high_flags (w : World) : keepIn (Mine.hd.heap_1 w.params) (.ref 175) = true := by k_is
theorem kp_word_flags (w : World) : keepIn (Mine.hd.heap_1 w.params) (.ref 182) = true := by k_is
theorem kp_adc16 (w : World) : keepIn (Mine.hd.heap_1 w.params) (.ref 189) = true := by k_is
theorem kp_sbc16 (w : World) : keepIn (Mine.hd.heap_1 w.params) (.ref 196) = true := by k_is
theorem kp_rrd (w : World) : keepIn (Mine.hd.heap_1 w.params) (.ref 203) = true := by k_is
theorem kp_rld (w : World) : keepIn (Mine.hd.heap_1 w.params) (.ref 210) = true := by k_is
theorem kp_load_flags (w : World) : keepIn (Mine.hd.heap_1 w.params) (.ref 217) = true := by k_is
theorem kp_do_ed (w : World) : keepIn (Mine.hd.heap_1 w.params) (.ref 254) = true := by k_is
theorem kp_add_words (w : World) : keepIn (Mine.hd.heap_1 w.params) (.ref 268) = true := by k_is
theorem kp_load_words (w : World) : keepIn (Mine.hd.heap_1 w.params) (.ref 275) = true := by k_is
theorem kp_do_special (w : World) : keepIn (Mine.hd.heap_1 w.params) (.ref 282) = true := by k_is
theorem get_r (w : World) : GetOk w 31 "r" := ⟨by k_is, by k_is, ⟨_, by k_is, by k_is⟩⟩
theorem get_sp (w : World) : GetOk w 31 "sp" := ⟨by k_is, by k_is, ⟨_, by k_is, by k_is⟩⟩
theorem get_pc (w : World) : GetOk w 31 "pc" := ⟨by k_is, by k_is, ⟨_, by k_is, by k_is⟩⟩
theorem get_i (w : World) : GetOk w 31 "i" := ⟨by k_is, by k_is, ⟨_, by k_is, by k_is⟩⟩
theorem get_ref (w : World) : GetOk w 31 "ref" := ⟨by k_is, by k_is, ⟨_, by k_is, by k_is⟩⟩
theorem get_iff2 (w : World) : GetOk w 31 "iff2" := ⟨by k_is, by k_is, ⟨_, by k_is, by k_is⟩⟩
theorem get_mode (w : World) : GetOk w 31 "mode" := ⟨by k_is, by k_is, ⟨_, by k_is, by k_is⟩⟩
theorem put_sp (w : World) : PutOk w 31 "sp" := ⟨by k_is, by k_is, by k_is, by k_is⟩
theorem put_pc (w : World) : PutOk w 31 "pc" := ⟨by k_is, by k_is, by k_is, by k_is⟩
theorem put_i (w : World) : PutOk w 31 "i" := ⟨by k_is, by k_is, by k_is, by k_is⟩
theorem put_ref (w : World) : PutOk w 31 "ref" := ⟨by k_is, by k_is, by k_is, by k_is⟩
theorem put_mode (w : World) : PutOk w 31 "mode" := ⟨by k_is, by k_is, by k_is, by k_is⟩
theorem gc_r (w : World) {r sa : Addr} {q0 q1 q2 q3 q4 q5 q6 q7 q8 q9 q10 q11 q12 q13 : Tok} {ix iy sp pc vi vr f1 f2 vm b1 b2 st : Value} : GetC (cpuD w q0 q1 q2 q3 q4 q5 q6 q7 q8 q9 q10 q11 q12 q13 r sa ix iy sp pc vi vr f1 f2 vm b1 b2 st) "r" (.ref r) := ⟨_, _, rfl, rfl, rfl⟩
theorem gc_sp (w : World) {r sa : Addr} {q0 q1 q2 q3 q4 q5 q6 q7 q8 q9 q10 q11 q12 q13 : Tok} {ix iy sp pc vi vr f1 f2 vm b1 b2 st : Value} (hv : handedIn sp = true) : GetC (cpuD w q0 q1 q2 q3 q4 q5 q6 q7 q8 q9 q10 q11 q12 q13 r sa ix iy sp pc vi vr f1 f2 vm b1 b2 st) "sp" sp := ⟨_, _, rfl, rfl, hv⟩
theorem gc_pc (w : World) {r sa : Addr} {q0 q1 q2 q3 q4 q5 q6 q7 q8 q9 q10 q11 q12 q13 : Tok} {ix iy sp pc vi vr f1 f2 vm b1 b2 st : Value} (hv : handedIn pc = true) : GetC (cpuD w q0 q1 q2 q3 q4 q5 q6 q7 q8 q9 q10 q11 q12 q13 r sa ix iy sp pc vi vr f1 f2 vm b1 b2 st) "pc" pc := ⟨_, _, rfl, rfl, hv⟩
theorem gc_i (w : World) {r sa : Addr} {q0 q1 q2 q3 q4 q5 q6 q7 q8 q9 q10 q11 q12 q13 : Tok} {ix iy sp pc vi vr f1 f2 vm b1 b2 st : Value} (hv : handedIn vi = true) : GetC (cpuD w q0 q1 q2 q3 q4 q5 q6 q7 q8 q9 q10 q11 q12 q13 r sa ix iy sp pc vi vr f1 f2 vm b1 b2 st) "i" vi := ⟨_, _, rfl, rfl, hv⟩
theorem gc_ref (w : World) {r sa : Addr} {q0 q1 q2 q3 q4 q5 q6 q7 q8 q9 q10 q11 q12 q13 : Tok} {ix iy sp pc vi vr f1 f2 vm b1 b2 st : Value} (hv : handedIn vr = true) : GetC (cpuD w q0 q1 q2 q3 q4 q5 q6 q7 q8 q9 q10 q11 q12 q13 r sa ix iy sp pc vi vr f1 f2 vm b1 b2 st) "ref" vr := ⟨_, _, rfl, rfl, hv⟩
theorem gc_iff2 (w : World) {r sa : Addr} {q0 q1 q2 q3 q4 q5 q6 q7 q8 q9 q10 q11 q12 q13 : Tok} {ix iy sp pc vi vr f1 f2 vm b1 b2 st : Value} (hv : handedIn f2 = true) : GetC (cpuD w q0 q1 q2 q3 q4 q5 q6 q7 q8 q9 q10 q11 q12 q13 r sa ix iy sp pc vi vr f1 f2 vm b1 b2 st) "iff2" f2 := ⟨_, _, rfl, rfl, hv⟩
theorem gc_mode (w : World) {r sa : Addr} {q0 q1 q2 q3 q4 q5 q6 q7 q8 q9 q10 q11 q12 q13 : Tok} {ix iy sp pc vi vr f1 f2 vm b1 b2 st : Value} (hv : handedIn vm = true) : GetC (cpuD w q0 q1 q2 q3 q4 q5 q6 q7 q8 q9 q10 q11 q12 q13 r sa ix iy sp pc vi vr f1 f2 vm b1 b2 st) "mode" vm := ⟨_, _, rfl, rfl, hv⟩
theorem pc_sp (w : World) {r sa : Addr} {q0 q1 q2 q3 q4 q5 q6 q7 q8 q9 q10 q11 q12 q13 : Tok} {ix iy sp pc vi vr f1 f2 vm b1 b2 st v : Value} : PutC w (cpuD w q0 q1 q2 q3 q4 q5 q6 q7 q8 q9 q10 q11 q12 q13 r sa ix iy sp pc vi vr f1 f2 vm b1 b2 st) "sp" v (cpuD w q0 q1 q2 q3 q4 q5 q6 q7 q8 q9 q10 q11 q12 q13 r sa ix iy v pc vi vr f1 f2 vm b1 b2 st) := fun t => ⟨_, _, _, _, rfl, rfl, rfl, rfl, Nat.le_of_ble_eq_true rfl⟩
theorem pc_pc (w : World) {r sa : Addr} {q0 q1 q2 q3 q4 q5 q6 q7 q8 q9 q10 q11 q12 q13 : Tok} {ix iy sp pc vi vr f1 f2 vm b1 b2 st v : Value} : PutC w (cpuD w q0 q1 q2 q3 q4 q5 q6 q7 q8 q9 q10 q11 q12 q13 r sa ix iy sp pc vi vr f1 f2 vm b1 b2 st) "pc" v (cpuD w q0 q1 q2 q3 q4 q5 q6 q7 q8 q9 q10 q11 q12 q13 r sa ix iy sp v vi vr f1 f2 vm b1 b2 st) := fun t => ⟨_, _, _, _, rfl, rfl, rfl, rfl, Nat.le_of_ble_eq_true rfl⟩
theorem pc_i (w : World) {r sa : Addr} {q0 q1 q2 q3 q4 q5 q6 q7 q8 q9 q10 q11 q12 q13 : Tok} {ix iy sp pc vi vr f1 f2 vm b1 b2 st v : Value} : PutC w (cpuD w q0 q1 q2 q3 q4 q5 q6 q7 q8 q9 q10 q11 q12 q13 r sa ix iy sp pc vi vr f1 f2 vm b1 b2 st) "i" v (cpuD w q0 q1 q2 q3 q4 q5 q6 q7 q8 q9 q10 q11 q12 q13 r sa ix iy sp pc v vr f1 f2 vm b1 b2 st) := fun t => ⟨_, _, _, _, rfl, rfl, rfl, rfl, Nat.le_of_ble_eq_true rfl⟩
theorem pc_ref (w : World) {r sa : Addr} {q0 q1 q2 q3 q4 q5 q6 q7 q8 q9 q10 q11 q12 q13 : Tok} {ix iy sp pc vi vr f1 f2 vm b1 b2 st v : Value} : PutC w (cpuD w q0 q1 q2 q3 q4 q5 q6 q7 q8 q9 q10 q11 q12 q13 r sa ix iy sp pc vi vr f1 f2 vm b1 b2 st) "ref" v (cpuD w q0 q1 q2 q3 q4 q5 q6 q7 q8 q9 q10 q11 q12 q13 r sa ix iy sp pc vi v f1 f2 vm b1 b2 st) := fun t => ⟨_, _, _, _, rfl, rfl, rfl, rfl, Nat.le_of_ble_eq_true rfl⟩
theorem pc_mode (w : World) {r sa : Addr} {q0 q1 q2 q3 q4 q5 q6 q7 q8 q9 q10 q11 q12 q13 : Tok} {ix iy sp pc vi vr f1 f2 vm b1 b2 st v : Value} : PutC w (cpuD w q0 q1 q2 q3 q4 q5 q6 q7 q8 q9 q10 q11 q12 q13 r sa ix iy sp pc vi vr f1 f2 vm b1 b2 st) "mode" v (cpuD w q0 q1 q2 q3 q4 q5 q6 q7 q8 q9 q10 q11 q12 q13 r sa ix iy sp pc vi vr f1 f2 v b1 b2 st) := fun t => ⟨_, _, _, _, rfl, rfl, rfl, rfl, Nat.le_of_ble_eq_true rfl⟩
theorem ir_0 {r0 r1 r2 r3 r4 r5 r6 r7 : Int} {t0 t1 t2 t3 t4 t5 t6 t7 : Tok} {nr : Nat} : ItemOf (regs r0 r1 r2 r3 r4 r5 r6 r7 t0 t1 t2 t3 t4 t5 t6 t7 nr) 0 (.int r0 t0) := ⟨[.int r0 t0, .int r1 t1, .int r2 t2, .int r3 t3, .int r4 t4, .int r5 t5, .int r6 t6, .int r7 t7], _, rfl, by decide, by decide, rfl⟩
theorem pr_0 {y : Int} {u : Tok} {r0 r1 r2 r3 r4 r5 r6 r7 : Int} {t0 t1 t2 t3 t4 t5 t6 t7 : Tok} {nr : Nat} : PutI (regs r0 r1 r2 r3 r4 r5 r6 r7 t0 t1 t2 t3 t4 t5 t6 t7 nr) 0 (.int y u) (regs y r1 r2 r3 r4 r5 r6 r7 u t1 t2 t3 t4 t5 t6 t7 nr) := ⟨#[.int r0 t0, .int r1 t1, .int r2 t2, .int r3 t3, .int r4 t4, .int r5 t5, .int r6 t6, .int r7 t7], _, [.int y u, .int r1 t1, .int r2 t2, .int r3 t3, .int r4 t4, .int r5 t5, .int r6 t6, .int r7 t7], rfl, rfl, by decide, by decide, rfl⟩
theorem ir_1 {r0 r1 r2 r3 r4 r5 r6 r7 : Int} {t0 t1 t2 t3 t4 t5 t6 t7 : Tok} {nr : Nat} : ItemOf (regs r0 r1 r2 r3 r4 r5 r6 r7 t0 t1 t2 t3 t4 t5 t6 t7 nr) 1 (.int r1 t1) := ⟨[.int r0 t0, .int r1 t1, .int r2 t2, .int r3 t3, .int r4 t4, .int r5 t5, .int r6 t6, .int r7 t7], _, rfl, by decide, by decide, rfl⟩
theorem pr_1 {y : Int} {u : Tok} {r0 r1 r2 r3 r4 r5 r6 r7 : Int} {t0 t1 t2 t3 t4 t5 t6 t7 : Tok} {nr : Nat} : PutI (regs r0 r1 r2 r3 r4 r5 r6 r7 t0 t1 t2 t3 t4 t5 t6 t7 nr) 1 (.int y u) (regs r0 y r2 r3 r4 r5 r6 r7 t0 u t2 t3 t4 t5 t6 t7 nr) := ⟨#[.int r0 t0, .int r1 t1, .int r2 t2, .int r3 t3, .int r4 t4, .int r5 t5, .int r6 t6, .int r7 t7], _, [.int r0 t0, .int y u, .int r2 t2, .int r3 t3, .int r4 t4, .int r5 t5, .int r6 t6, .int r7 t7], rfl, rfl, by decide, by decide, rfl⟩
theorem ir_2 {r0 r1 r2 r3 r4 r5 r6 r7 : Int} {t0 t1 t2 t3 t4 t5 t6 t7 : Tok} {nr : Nat} : ItemOf (regs r0 r1 r2 r3 r4 r5 r6 r7 t0 t1 t2 t3 t4 t5 t6 t7 nr) 2 (.int r2 t2) := ⟨[.int r0 t0, .int r1 t1, .int r2 t2, .int r3 t3, .int r4 t4, .int r5 t5, .int r6 t6, .int r7 t7], _, rfl, by decide, by decide, rfl⟩
theorem pr_2 {y : Int} {u : Tok} {r0 r1 r2 r3 r4 r5 r6 r7 : Int} {t0 t1 t2 t3 t4 t5 t6 t7 : Tok} {nr : Nat} : PutI (regs r0 r1 r2 r3 r4 r5 r6 r7 t0 t1 t2 t3 t4 t5 t6 t7 nr) 2 (.int y u) (regs r0 r1 y r3 r4 r5 r6 r7 t0 t1 u t3 t4 t5 t6 t7 nr) := ⟨#[.int r0 t0, .int r1 t1, .int r2 t2, .int r3 t3, .int r4 t4, .int r5 t5, .int r6 t6, .int r7 t7], _, [.int r0 t0, .int r1 t1, .int y u, .int r3 t3, .int r4 t4, .int r5 t5, .int r6 t6, .int r7 t7], rfl, rfl, by decide, by decide, rfl⟩
theorem ir_3 {r0 r1 r2 r3 r4 r5 r6 r7 : Int} {t0 t1 t2 t3 t4 t5 t6 t7 : Tok} {nr : Nat} : ItemOf (regs r0 r1 r2 r3 r4 r5 r6 r7 t0 t1 t2 t3 t4 t5 t6 t7 nr) 3 (.int r3 t3) := ⟨[.int r0 t0, .int r1 t1, .int r2 t2, .int r3 t3, .int r4 t4, .int r5 t5, .int r6 t6, .int r7 t7], _, rfl, by decide, by decide, rfl⟩
theorem pr_3 {y : Int} {u : Tok} {r0 r1 r2 r3 r4 r5 r6 r7 : Int} {t0 t1 t2 t3 t4 t5 t6 t7 : Tok} {nr : Nat} : PutI (regs r0 r1 r2 r3 r4 r5 r6 r7 t0 t1 t2 t3 t4 t5 t6 t7 nr) 3 (.int y u) (regs r0 r1 r2 y r4 r5 r6 r7 t0 t1 t2 u t4 t5 t6 t7 nr) := ⟨#[.int r0 t0, .int r1 t1, .int r2 t2, .int r3 t3, .int r4 t4, .int r5 t5, .int r6 t6, .int r7 t7], _, [.int r0 t0, .int r1 t1, .int r2 t2, .int y u, .int r4 t4, .int r5 t5, .int r6 t6, .int r7 t7], rfl, rfl, by decide, by decide, rfl⟩
theorem ir_4 {r0 r1 r2 r3 r4 r5 r6 r7 : Int} {t0 t1 t2 t3 t4 t5 t6 t7 : Tok} {nr : Nat} : ItemOf (regs r0 r1 r2 r3 r4 r5 r6 r7 t0 t1 t2 t3 t4 t5 t6 t7 nr) 4 (.int r4 t4) := ⟨[.int r0 t0, .int r1 t1, .int r2 t2, .int r3 t3, .int r4 t4, .int r5 t5, .int r6 t6, .int r7 t7], _, rfl, by decide, by decide, rfl⟩
theorem pr_4 {y : Int} {u : Tok} {r0 r1 r2 r3 r4 r5 r6 r7 : Int} {t0 t1 t2 t3 t4 t5 t6 t7 : Tok} {nr : Nat} : PutI (regs r0 r1 r2 r3 r4 r5 r6 r7 t0 t1 t2 t3 t4 t5 t6 t7 nr) 4 (.int y u) (regs r0 r1 r2 r3 y r5 r6 r7 t0 t1 t2 t3 u t5 t6 t7 nr) := ⟨#[.int r0 t0, .int r1 t1, .int r2 t2, .int r3 t3, .int r4 t4, .int r5 t5, .int r6 t6, .int r7 t7], _, [.int r0 t0, .int r1 t1, .int r2 t2, .int r3 t3, .int y u, .int r5 t5, .int r6 t6, .int r7 t7], rfl, rfl, by decide, by decide, rfl⟩
theorem ir_5 {r0 r1 r2 r3 r4 r5 r6 r7 : Int} {t0 t1 t2 t3 t4 t5 t6 t7 : Tok} {nr : Nat} : ItemOf (regs r0 r1 r2 r3 r4 r5 r6 r7 t0 t1 t2 t3 t4 t5 t6 t7 nr) 5 (.int r5 t5) := ⟨[.int r0 t0, .int r1 t1, .int r2 t2, .int r3 t3, .int r4 t4, .int r5 t5, .int r6 t6, .int r7 t7], _, rfl, by decide, by decide, rfl⟩
theorem pr_5 {y : Int} {u : Tok} {r0 r1 r2 r3 r4 r5 r6 r7 : Int} {t0 t1 t2 t3 t4 t5 t6 t7 : Tok} {nr : Nat} : PutI (regs r0 r1 r2 r3 r4 r5 r6 r7 t0 t1 t2 t3 t4 t5 t6 t7 nr) 5 (.int y u) (regs r0 r1 r2 r3 r4 y r6 r7 t0 t1 t2 t3 t4 u t6 t7 nr) := ⟨#[.int r0 t0, .int r1 t1, .int r2 t2, .int r3 t3, .int r4 t4, .int r5 t5, .int r6 t6, .int r7 t7], _, [.int r0 t0, .int r1 t1, .int r2 t2, .int r3 t3, .int r4 t4, .int y u, .int r6 t6, .int r7 t7], rfl, rfl, by decide, by decide, rfl⟩
theorem ir_6 {r0 r1 r2 r3 r4 r5 r6 r7 : Int} {t0 t1 t2 t3 t4 t5 t6 t7 : Tok} {nr : Nat} : ItemOf (regs r0 r1 r2 r3 r4 r5 r6 r7 t0 t1 t2 t3 t4 t5 t6 t7 nr) 6 (.int r6 t6) := ⟨[.int r0 t0, .int r1 t1, .int r2 t2, .int r3 t3, .int r4 t4, .int r5 t5, .int r6 t6, .int r7 t7], _, rfl, by decide, by decide, rfl⟩
theorem pr_6 {y : Int} {u : Tok} {r0 r1 r2 r3 r4 r5 r6 r7 : Int} {t0 t1 t2 t3 t4 t5 t6 t7 : Tok} {nr : Nat} : PutI (regs r0 r1 r2 r3 r4 r5 r6 r7 t0 t1 t2 t3 t4 t5 t6 t7 nr) 6 (.int y u) (regs r0 r1 r2 r3 r4 r5 y r7 t0 t1 t2 t3 t4 t5 u t7 nr) := ⟨#[.int r0 t0, .int r1 t1, .int r2 t2, .int r3 t3, .int r4 t4, .int r5 t5, .int r6 t6, .int r7 t7], _, [.int r0 t0, .int r1 t1, .int r2 t2, .int r3 t3, .int r4 t4, .int r5 t5, .int y u, .int r7 t7], rfl, rfl, by decide, by decide, rfl⟩
theorem ir_7 {r0 r1 r2 r3 r4 r5 r6 r7 : Int} {t0 t1 t2 t3 t4 t5 t6 t7 : Tok} {nr : Nat} : ItemOf (regs r0 r1 r2 r3 r4 r5 r6 r7 t0 t1 t2 t3 t4 t5 t6 t7 nr) 7 (.int r7 t7) := ⟨[.int r0 t0, .int r1 t1, .int r2 t2, .int r3 t3, .int r4 t4, .int r5 t5, .int r6 t6, .int r7 t7], _, rfl, by decide, by decide, rfl⟩
theorem pr_7 {y : Int} {u : Tok} {r0 r1 r2 r3 r4 r5 r6 r7 : Int} {t0 t1 t2 t3 t4 t5 t6 t7 : Tok} {nr : Nat} : PutI (regs r0 r1 r2 r3 r4 r5 r6 r7 t0 t1 t2 t3 t4 t5 t6 t7 nr) 7 (.int y u) (regs r0 r1 r2 r3 r4 r5 r6 y t0 t1 t2 t3 t4 t5 t6 u nr) := ⟨#[.int r0 t0, .int r1 t1, .int r2 t2, .int r3 t3, .int r4 t4, .int r5 t5, .int r6 t6, .int r7 t7], _, [.int r0 t0, .int r1 t1, .int r2 t2, .int r3 t3, .int r4 t4, .int r5 t5, .int r6 t6, .int y u], rfl, rfl, by decide, by decide, rfl⟩


theorem getD_set_same {ms : List Int} {j : Nat} {z : Int} (h : j < ms.length) : (ms.set j z).getD j 0 = z := by simp [List.getD_eq_getElem?_getD, h]
theorem getD_set_other {ms : List Int} {i j : Nat} {z : Int} (h : i ≠ j) : (ms.set j z).getD i 0 = ms.getD i 0 := by simp [List.getD_eq_getElem?_getD, List.getElem?_set_ne (Ne.symm h)]
theorem bounds_set {ms : List Int} {j : Nat} {z : Int} (hb : ∀ i : Nat, 0 ≤ ms.getD i 0 ∧ ms.getD i 0 < 256) (z0 : 0 ≤ z) (z1 : z < 256) : ∀ i : Nat, 0 ≤ (ms.set j z).getD i 0 ∧ (ms.set j z).getD i 0 < 256 := by
  intro i
  by_cases h : i = j
  · subst h
    by_cases hl : i < ms.length
    · rw [getD_set_same hl]; exact ⟨z0, z1⟩
    · have e : (ms.set i z).length ≤ i := by rw [List.length_set]; omega
      rw [List.getD_eq_getElem?_getD, List.getElem?_eq_none e]
      decide
  · rw [getD_set_other h]; exact hb i


local macro_rules | `(tactic| k_ne) => `(tactic| (refine neN ?_; (try dsimp only); first | (with_reducible assumption) | (refine Ne.symm ?_; with_reducible assumption) | omega))
section
variable {prog : Program} {w : World} {A : Around} {E : Value → Shared → Prop} {s : Shared} {h₀ : Heap} {L D : Addr} {m : Str → Option Value} {news : List (Addr × Obj)} {vs : List Value} {ms : List Int} {n : Nat} {k z : Int} {u : Tok} {j : Nat}
/-- an item at the place that was last stored to -/
theorem item_at {value slice : PySem.Expr} {Q : Value → Shared → Prop} (N : News h₀ L s.heap news) (hm : (D, W.listOf vs.toArray n) ∈ news) (hi : IntsAre vs (ms.set j z)) (hl : ms.length = 16) (hk : k.toNat = j) (h0 : 0 ≤ k) (h1 : k < 16) (h : ∀ t, Q (.int z t) s)
    (hs : subscripted slice false (.ref D) (.int k u) = operate [.ref D, .int k u] (getItem (.ref D) (.int k u))) :
    wpAny (model prog w) A (subscriptTail value slice (.ref D) (.int k u)) Q E s :=
  ksa_sub N hm hi h0 (by rw [List.length_set]; omega) (by omega) (fun t => by rw [hk, getD_set_same (by omega)]; exact h t) hs
theorem list_copy16 {b : Addr} {Q : Value → Shared → Prop} (F : Fr h₀ L s.heap m) (N : News h₀ L s.heap news) (hb : (b, W.listOf vs.toArray n) ∈ news) (hi : IntsAre vs ms) (hl : ms.length = 16)
    (h : ∀ D c h', Fr h₀ L h' m → News h₀ L h' ((D, W.listOf vs.toArray c) :: news) → (∀ q ∈ news, q.1 < D) → Q (.ref D) { s with heap := h' }) : wpAny (model prog w) A (call (.type "list") [.ref b]) Q E s :=
  list_copyK F N (PySem.IsL.isList (n := n) (N _ hb).1) h (by have e := hi.length; rw [sizeLine_eq, List.size_toArray]; omega)
/-- an item whose value is known -/
theorem item_known {value slice : PySem.Expr} {Q : Value → Shared → Prop} (N : News h₀ L s.heap news) (hm : (D, W.listOf vs.toArray n) ∈ news) (hi : IntsAre vs ms) (hl : ms.length = 16) (h0 : 0 ≤ k) (h1 : k < 16) (hv : ms.getD k.toNat 0 = z) (h : ∀ t, Q (.int z t) s)
    (hs : subscripted slice false (.ref D) (.int k u) = operate [.ref D, .int k u] (getItem (.ref D) (.int k u))) :
    wpAny (model prog w) A (subscriptTail value slice (.ref D) (.int k u)) Q E s :=
  ksa_sub N hm hi h0 (by omega) (by omega) (fun t => by rw [hv]; exact h t) hs
theorem lists_same {a b : Addr} {xs ys : List Value} {ns ns' : List Int} {n' : Nat} {Q : Value → Shared → Prop} (N : News h₀ L s.heap news) (ha : (a, W.listOf xs.toArray n) ∈ news) (hb : (b, W.listOf ys.toArray n') ∈ news) (hi : IntsAre xs ns) (hj : IntsAre ys ns') (hu : A.units + 64 < cLine) (e : ns = ns') (h : Q (.bool false) s) :
    wpAny (model prog w) A (compareOp .NotEq (.ref a) (.ref b)) Q E s :=
  ke_ne_ints (PySem.IsL.isList (n := n) (N _ ha).1) (PySem.IsL.isList (n := n') (N _ hb).1) hi hj hu (by rw [decide_eq_true e]; exact h)
theorem lists_same_eq {a b : Addr} {xs ys : List Value} {ns ns' : List Int} {n' : Nat} {Q : Value → Shared → Prop} (N : News h₀ L s.heap news) (ha : (a, W.listOf xs.toArray n) ∈ news) (hb : (b, W.listOf ys.toArray n') ∈ news) (hi : IntsAre xs ns) (hj : IntsAre ys ns') (hu : A.units + 64 < cLine) (e : ns = ns') (h : Q (.bool true) s) :
    wpAny (model prog w) A (compareOp .Eq (.ref a) (.ref b)) Q E s :=
  ke_eq_ints (PySem.IsL.isList (n := n) (N _ ha).1) (PySem.IsL.isList (n := n') (N _ hb).1) hi hj hu (by rw [decide_eq_true e]; exact h)
end
theorem subL_of {all : List (Addr × Obj)} : ∀ {l : List (Addr × Obj)}, (∀ p ∈ l, p ∈ all) → SubL l all
  | [], _ => trivial
  | p :: _, h => ⟨h p (.head _), subL_of fun q hq => h q (.tail _ hq)⟩
theorem endW {h₀ : Heap} {L : Addr} {its : List (Addr × Obj)} {rest : (Str → Option Value) → List (Addr × Obj) → Prop} {s₁ : Shared} {h' : Heap} {tk : Nat} {m' : Str → Option Value} {all news' : List (Addr × Obj)} (F : Fr h₀ L h' m') (N : News h₀ L h' all)
    (hI : SubL its all) (ap : Apart (its.map (·.1)) all news') (r : rest m' news') : UnrEndW h₀ L s₁ its rest { s₁ with heap := h', toks := tk } :=
  ⟨h', tk, m', news', rfl, F, fun p hp => by
    rcases List.mem_append.mp hp with hp | hp
    · exact N p (hI.mem p hp)
    · exact N p (ap.sub p hp).1, fun p hp q hq => (ap.sub p hp).2 q.1 (List.mem_map_of_mem hq), r⟩
theorem fdiv_c2 (x : Int) : x.fdiv 2 = x / 2 := Int.fdiv_eq_ediv_of_nonneg _ (by decide)
theorem fdiv_c16 (x : Int) : x.fdiv 16 = x / 16 := Int.fdiv_eq_ediv_of_nonneg _ (by decide)
theorem fdiv_c65536 (x : Int) : x.fdiv 65536 = x / 65536 := Int.fdiv_eq_ediv_of_nonneg _ (by decide)
theorem fmod_c2 (x : Int) : x.fmod 2 = x % 2 := Int.fmod_eq_emod_of_nonneg _ (by decide)
theorem fmod_c16 (x : Int) : x.fmod 16 = x % 16 := Int.fmod_eq_emod_of_nonneg _ (by decide)
theorem fmod_c256 (x : Int) : x.fmod 256 = x % 256 := Int.fmod_eq_emod_of_nonneg _ (by decide)
theorem fmod_c65536 (x : Int) : x.fmod 65536 = x % 65536 := Int.fmod_eq_emod_of_nonneg _ (by decide)
theorem fmod_low {a b : Int} (h : 0 < b) : 0 ≤ a.fmod b := by rw [Int.fmod_eq_emod_of_nonneg _ (by omega)]; exact Int.emod_nonneg _ (by omega)
theorem fmod_high {a b : Int} (h : 0 < b) : a.fmod b < b := by rw [Int.fmod_eq_emod_of_nonneg _ (by omega)]; exact Int.emod_lt_of_pos _ h
theorem two_eq {a b c d : Int} (h : a = c) (h' : b = d) : [a, b] = [c, d] := by rw [h, h']
theorem fin_eq {a b : Int} (h : a = b) : Value.bool (a == b) = Value.bool true := by rw [h]; simp
theorem mem2 {vs : List Value} {ms : List Int} (a b : Tok) (hi : IntsAre vs ms) (hm : ms.length = 16) (hb : ∀ i : Nat, 0 ≤ ms.getD i 0 ∧ ms.getD i 0 < 256) :
    IntsAre ((vs.set 0 (.int 8 a)).set 1 (.int 0 b)) ((ms.set 0 8).set 1 0) ∧ ((ms.set 0 8).set 1 0).length = 16 ∧ (∀ i : Nat, 0 ≤ ((ms.set 0 8).set 1 0).getD i 0 ∧ ((ms.set 0 8).set 1 0).getD i 0 < 256) ∧ ((ms.set 0 8).set 1 0).getD 0 0 = 8 ∧ ((ms.set 0 8).set 1 0).getD 1 0 = 0 :=
  ⟨ints_set (ints_set hi 0) 1, by simp [hm], bounds_set (bounds_set hb (by decide) (by decide)) (by decide) (by decide), by rw [getD_set_other (by decide), getD_set_same (by omega)], by rw [getD_set_same (by simp [hm])]⟩
section
variable {prog : Program} {w : World} {A : Around} {E : Value → Shared → Prop} {s : Shared} {h₀ : Heap} {L D : Addr} {news : List (Addr × Obj)} {vs : List Value} {ms : List Int} {n : Nat} {z : Int} {u : Tok}
theorem item_lit0 {value slice : PySem.Expr} {Q : Value → Shared → Prop} {a b : Int} {t t' : Tok} (N : News h₀ L s.heap news) (hm : (D, W.listOf #[.int a t, .int b t'] n) ∈ news) (h : ∀ t, Q (.int a t) s)
    (hs : subscripted slice false (.ref D) (.int 0 u) = operate [.ref D, .int 0 u] (getItem (.ref D) (.int 0 u))) : wpAny (model prog w) A (subscriptTail value slice (.ref D) (.int 0 u)) Q E s :=
  ksa_sub (vs := [.int a t, .int b t']) (ns := [a, b]) N hm (by l_ints) (by decide) (by simp) (by decide) (fun t => h t) hs
theorem item_lit1 {value slice : PySem.Expr} {Q : Value → Shared → Prop} {a b : Int} {t t' : Tok} (N : News h₀ L s.heap news) (hm : (D, W.listOf #[.int a t, .int b t'] n) ∈ news) (h : ∀ t, Q (.int b t) s)
    (hs : subscripted slice false (.ref D) (.int 1 u) = operate [.ref D, .int 1 u] (getItem (.ref D) (.int 1 u))) : wpAny (model prog w) A (subscriptTail value slice (.ref D) (.int 1 u)) Q E s :=
  ksa_sub (vs := [.int a t, .int b t']) (ns := [a, b]) N hm (by l_ints) (by decide) (by simp) (by decide) (fun t => h t) hs
theorem item8 {value slice : PySem.Expr} {Q : Value → Shared → Prop} (N : News h₀ L s.heap news) (hm : (D, W.listOf vs.toArray n) ∈ news) (hi : IntsAre vs ms) (hl : ms.length = 16) (hv : ms.getD 8 0 = z) (h : ∀ t, Q (.int z t) s)
    (hs : subscripted slice false (.ref D) (.int 8 u) = operate [.ref D, .int 8 u] (getItem (.ref D) (.int 8 u))) : wpAny (model prog w) A (subscriptTail value slice (.ref D) (.int 8 u)) Q E s :=
  ksa_sub N hm hi (by decide) (by omega) (by decide) (fun t => by rw [show (8 : Int).toNat = 8 from rfl, hv]; exact h t) hs
theorem item9 {value slice : PySem.Expr} {Q : Value → Shared → Prop} (N : News h₀ L s.heap news) (hm : (D, W.listOf vs.toArray n) ∈ news) (hi : IntsAre vs ms) (hl : ms.length = 16) (hv : ms.getD 9 0 = z) (h : ∀ t, Q (.int z t) s)
    (hs : subscripted slice false (.ref D) (.int 9 u) = operate [.ref D, .int 9 u] (getItem (.ref D) (.int 9 u))) : wpAny (model prog w) A (subscriptTail value slice (.ref D) (.int 9 u)) Q E s :=
  ksa_sub N hm hi (by decide) (by omega) (by decide) (fun t => by rw [show (9 : Int).toNat = 9 from rfl, hv]; exact h t) hs
end
section
variable {prog : Program} {w : World} {A : Around} {E : Value → Shared → Prop} {s : Shared} {h₀ : Heap} {L D r : Addr} {m : Str → Option Value} {news rest : List (Addr × Obj)}
/-- `xs[a:b] = ys` of two written lists -/
theorem set_slice {l sl b : Addr} {items new : Array Value} {n nb : Nat} {vl vu : Value} {lo hi : Option Int} {Q : Unit → Shared → Prop} {a c : Int}
    (ho : s.heap.get? l = some (W.listOf items n)) (hb : s.heap.get? b = some (W.listOf new nb)) (hne : l ≠ b)
    (hs : s.heap.IsSliceOf sl vl vu .none) (pl : IsPart vl lo) (pu : IsPart vu hi) (hsz : items.size + new.size ≤ sizeLine) (hbnd : sliceBounds lo hi none items.size = (a, c, 1))
    (hQ : Q () { s with heap := s.heap.update l (Obj.mapSeq fun xs => xs.extract 0 a.toNat ++ new ++ xs.extract (max a c).toNat xs.size) }) :
    wpAny (model prog w) A (setItem (.ref l) (.ref sl) (.ref b)) Q E s := by
  have hl : s.heap.IsList l items := PySem.IsL.isList (n := n) ho
  have hlb : s.heap.IsList b new := PySem.IsL.isList (n := nb) hb
  obtain ⟨os, hos, hcs, hds⟩ := id hs
  have hTs : s.TypeIs (.ref sl) "slice" := ⟨os, hos, hcs⟩
  unfold setItem
  try with_reducible refine wpAny_holding ?_
  first | refine wpAny_bind (wpAny_pure ?_) | skip
  refine wpAny_bind (wpAny_sequenceKey hl.typeIs (by decide) ?_)
  refine wpAny_bind (wpAny_callSpecial?_slot (name := Str.ofString "__setitem__") hl.typeIs slot_list_setitem
    (wpAny_call_entry slot_list_setitem hl.typeIs entry_list_setitem ?_ (args_list_setitem _ _ _)))
  show wpAny _ _ (Builtin.List.listSubscript? (.ref sl) >>= _) _ _ s
  refine wpAny_bind ?_
  unfold Builtin.List.listSubscript?
  refine wpAny_bind (wpAny_specialOf hTs slice_no_index ?_)
  simp only [Option.isNone_none, if_true]
  refine wpAny_pure ?_
  show wpAny _ _ (typeOf (.ref sl) >>= _) _ _ s
  refine wpAny_bind (wpAny_typeOf hTs ?_)
  rw [if_neg (by decide)]
  rw [listSliceParts_eq]
  have hstep : ¬ ((rawPart none == rawInt 0) = true) := Bool.false_ne_true
  refine wpAny_bind (wpAny_bind (wpAny_field hos hds (x := .none) rfl (wpAny_bind (wpAny_listPart .none ?_))))
  rw [if_neg hstep]
  refine wpAny_bind (wpAny_field hos hds (x := vl) rfl (wpAny_bind (wpAny_listPart pl ?_)))
  refine wpAny_bind (wpAny_field hos hds (x := vu) rfl (wpAny_bind (wpAny_listPart pu (wpAny_pure ?_))))
  have hsame : Builtin.List.listSameRef (.ref l) (.ref b) = false := by
    show (l == b) = false
    simpa using hne
  rw [hsame]
  simp only [Bool.false_eq_true, if_false]
  refine wpAny_bind (m := Builtin.List.listAllItems (.ref b) _) ?_
  unfold Builtin.List.listAllItems
  refine wpAny_bind (wpAny_typeOf hlb.typeIs ?_)
  rw [if_pos (by decide)]
  unfold Builtin.List.listItems
  refine wpAny_bind (wpAny_seqItems hb rfl (wpAny_pure ?_))
  refine wpAny_bind (wpAny_bind (wpAny_seqItems ho rfl (wpAny_pure ?_)))
  refine wpAny_bind (wpAny_of_eq (sliceIndices_raw lo hi none items.size (by simp)) ?_)
  rw [hbnd]
  rw [if_pos (show ((a, c, (1 : Int)).2.2 == 1) = true from rfl)]
  refine wpAny_bind (wpAny_rule ?_)
  rw [if_neg (by unfold Builtin.List.listTooLong; simp only [decide_eq_true_eq]; omega)]
  refine wpAny_bind (listUpdate_at ho rfl ?_ (by omega) (by simp only [Array.size_append, Array.size_extract]; omega))
  refine wpAny_bind (wpAny_letGo ?_)
  exact wpAny_pure ⟨.none, rfl, wpAny_pure hQ⟩
theorem set_slice46 {x0 x1 x2 x3 x4 x5 x6 x7 a b : Value} {n nb : Nat} {t u : Tok} {Q : Unit → Shared → Prop} {g : Heap} {x8 x9 x10 x11} (F : Fr h₀ L g m) (N : News h₀ L g news) (hr : (r, W.listOf #[x0, x1, x2, x3, x4, x5, x6, x7] n) ∈ news) (hb : (D, W.listOf #[a, b] nb) ∈ news) (hne : r ≠ D) (hap : Apart [r] news rest)
    (h : ∀ h', Fr h₀ L h' m → News h₀ L h' ((r, W.listOf #[x0, x1, x2, x3, a, b, x6, x7] n) :: rest) → Q () ⟨h', x8, x9, x10, x11⟩) :
    wpAny (model prog w) A (setItem (.ref r) (.ref g.objs.size) (.ref D)) Q E ⟨g.push { cls := .type "slice", data := .fields #[.int 4 t, .int 6 u, .none] }, x8, x9, x10, x11⟩ := by
  have F1 := F.push { cls := .type "slice", data := .fields #[.int 4 t, .int 6 u, .none] }
  have N1 : News h₀ L (g.push { cls := .type "slice", data := .fields #[.int 4 t, .int 6 u, .none] }) news := N.grown fun _ _ e => Heap.get?_push_of_some _ e
  refine set_slice (s := ⟨g.push { cls := .type "slice", data := .fields #[.int 4 t, .int 6 u, .none] }, x8, x9, x10, x11⟩) (lo := some 4) (hi := some 6) (a := 4) (c := 6) (N1 _ hr).1 (N1 _ hb).1 hne (Heap.IsSliceOf.new ..) (.int 4 t) (.int 6 u) (by show 8 + 2 ≤ sizeLine; decide) (by rfl) ?_
  refine h _ (F1.change (Heap.SameBut.update ..) (N1 _ hr).2.1 (N1 _ hr).2.2) ?_
  intro p hp
  rcases List.mem_cons.mp hp with rfl | hp
  · refine ⟨?_, (N1 _ hr).2⟩
    have q := PySem.IsL.update (N1 _ hr).1 (fun xs => xs.extract 0 (4 : Int).toNat ++ #[a, b] ++ xs.extract (max (4 : Int) 6).toNat xs.size)
    exact q
  · have z := hap.sub p hp
    exact ⟨((Heap.SameBut.update ..).2 _ (z.2 r (.head _))).trans (N1 p z.1).1, (N1 p z.1).2⟩
end
section
variable {prog : Program} {w : World} {A : Around} {E : Value → Shared → Prop} {s : Shared} {h₀ : Heap} {L D r R l : Addr} {m : Str → Option Value} {news rest : List (Addr × Obj)} {env : Env}
/-- what a draw of a comprehension leaves: an octet, and the reel one further. -/
def TakeEnd (R l : Addr) (lobj : Obj) (rest : List (Addr × Obj)) (k : Int) (y : Value) (news' : List (Addr × Obj)) : Prop :=
  ∃ z uz k' t' nn', y = .int z uz ∧ news' = (R, W.listOf #[.int k' t', .ref l] nn') :: (l, lobj) :: rest ∧ k' = k + 1 ∧ 0 ≤ z ∧ z < 256
/-- the draws of a comprehension, one after another. -/
theorem comp_take {elt : PySem.Expr} {x : Str} {scope : Scope} {cl : List (Str × Addr)} {Fin : Shared → List Value → List (Addr × Obj) → Prop} {b : Int} {t u v : Tok} {n : Nat} {s₁ : Shared} {k0 : Int} {t0 : Tok} {nn0 : Nat} {lobj : Obj}
    (hh : A.handled = none) (F : Fr h₀ L s₁.heap m) (N : News h₀ L s₁.heap news) (hr : IsRange s₁.heap r 0 b 1 t u v) (hsm : Builtin.Range.small 0 b 1 = true) (hn : Builtin.Range.rangeSize 0 b 1 = ((n : Nat) : Int)) (hsz : n ≤ sizeLine)
    (hp1 : (R, W.listOf #[.int k0 t0, .ref l] nn0) ∈ news) (hp2 : (l, lobj) ∈ news) (ap : Apart [R, l] news rest)
    (turn : ∀ (i : Nat) (ys : List Value) (zs : List Int) (k : Int) (tk0 : Tok) (nn : Nat), i < n → k = k0 + (i : Int) → IntsAre ys zs → ∀ (v : Value) (I : Addr) (oI : Obj) (C : Addr) (oC : Obj) (D : Addr) (m₂ : Str → Option Value) (h : Heap) (tk : Nat) (E' : Value → Shared → Prop),
      LCg.NsObj oC m₂ → m₂ x = some v → Fr h₀ L h m → News h₀ L h ((I, oI) :: (C, oC) :: (D, LCg.lst ys) :: (R, W.listOf #[.int k tk0, .ref l] nn) :: (l, lobj) :: rest) →
      LCg.Off3 I C D ((R, W.listOf #[.int k tk0, .ref l] nn) :: (l, lobj) :: rest) → ((@Ne Nat I C) ∧ (@Ne Nat I D) ∧ (@Ne Nat C D)) →
      wpAny (model prog w) A (eval elt (compEnvC scope cl C env)) (LCg.CompEnd h₀ L m { s₁ with heap := h, toks := tk } I oI C oC D (LCg.lst ys) (fun _ => True) (TakeEnd R l lobj rest k)) E' { s₁ with heap := h, toks := tk })
    (fin : ∀ (g : Heap) (ys : List Value) (zs : List Int) (k : Int) (t' : Tok) (nn' : Nat), IntsAre ys zs → zs.length = n → (∀ z ∈ zs, 0 ≤ z ∧ z < 256) → k = k0 + (n : Int) → Fin { s₁ with heap := g } ys ((R, W.listOf #[.int k t', .ref l] nn') :: (l, lobj) :: rest)) :
    LCg.CompSrc prog w A h₀ L m env elt x scope cl Fin (.ref r) s₁ := by
  have N' : News h₀ L s₁.heap ((R, W.listOf #[.int k0 t0, .ref l] nn0) :: (l, lobj) :: rest) := fun p hp => by
    rcases List.mem_cons.mp hp with rfl | hp
    · exact N _ hp1
    · rcases List.mem_cons.mp hp with rfl | hp
      · exact N _ hp2
      · exact N _ (ap.sub p hp).1
  refine LCg.CompSrc.range hh F N' hr hsm hn hsz fun g => ?_
  have main : ∀ (j i : Nat) (ys : List Value) (zs : List Int) (k : Int) (tk0 : Tok) (nn : Nat), i + j = n → k = k0 + (i : Int) → IntsAre ys zs → zs.length = i → (∀ z ∈ zs, 0 ≤ z ∧ z < 256) →
      LCg.CompRest prog w A h₀ L m env elt x scope cl { s₁ with heap := g } (fun _ => True) (fun i v => ∃ t, v = .int (0 + (i : Int)) t) (Fin { s₁ with heap := g }) j i ys ((R, W.listOf #[.int k tk0, .ref l] nn) :: (l, lobj) :: rest) := by
    intro j
    induction j with
    | zero =>
      intro i ys zs k tk0 nn hij hk hI hlen hb
      exact LCg.CompRest.zero (fin g ys zs k tk0 nn hI (by omega) hb (by omega))
    | succ j ih =>
      intro i ys zs k tk0 nn hij hk hI hlen hb
      refine LCg.CompRest.succ fun v I oI C oC D m₂ h tk E' _ hC hx Fh Nh off ne => ?_
      refine wpAny_mono (turn i ys zs k tk0 nn (by omega) hk hI v I oI C oC D m₂ h tk E' hC hx Fh Nh off ne) (fun y s' hE => ?_) fun _ _ e => e
      obtain ⟨h', tk', news', rfl, F', N'', off', hS, z, uz, k', t', nn', rfl, rfl, hk', z0, z1⟩ := hE
      refine ⟨h', tk', _, rfl, F', N'', off', hS, ih (i + 1) (ys ++ [.int z uz]) (zs ++ [z]) k' t' nn' (by omega) (by omega) (hI.append (.cons z uz .nil)) (by simp [hlen]) ?_⟩
      intro q hq
      rcases List.mem_append.mp hq with hq | hq
      · exact hb q hq
      · rw [List.mem_singleton.mp hq]; exact ⟨z0, z1⟩
  exact main n 0 [] [] k0 t0 nn0 (by omega) (by omega) .nil rfl (by simp)
end
theorem octets_getD {zs : List Int} (h : ∀ z ∈ zs, 0 ≤ z ∧ z < 256) (i : Nat) : 0 ≤ zs.getD i 0 ∧ zs.getD i 0 < 256 := by
  by_cases hl : i < zs.length
  · rw [List.getD_eq_getElem?_getD, List.getElem?_eq_getElem hl]
    exact h _ (List.getElem_mem hl)
  · rw [List.getD_eq_getElem?_getD, List.getElem?_eq_none (by omega)]
    decide
theorem ints_cons_inv {vs : List Value} {z : Int} {zs : List Int} (h : IntsAre vs (z :: zs)) : ∃ t ws, vs = .int z t :: ws ∧ IntsAre ws zs := by
  cases h with
  | cons n t h => exact ⟨t, _, rfl, h⟩
theorem ints_nil_inv {vs : List Value} (h : IntsAre vs []) : vs = [] := by cases h; rfl
/-- eight octets, written out. -/
theorem eight {vs : List Value} {zs : List Int} (h : IntsAre vs zs) (hl : zs.length = 8) (hb : ∀ z ∈ zs, 0 ≤ z ∧ z < 256) : ∃ r0 r1 r2 r3 r4 r5 r6 r7 : Int, ∃ t0 t1 t2 t3 t4 t5 t6 t7 : Tok,
    vs = [.int r0 t0, .int r1 t1, .int r2 t2, .int r3 t3, .int r4 t4, .int r5 t5, .int r6 t6, .int r7 t7] ∧ 0 ≤ r0 ∧ r0 < 256 ∧ 0 ≤ r1 ∧ r1 < 256 ∧ 0 ≤ r2 ∧ r2 < 256 ∧ 0 ≤ r3 ∧ r3 < 256 ∧ 0 ≤ r4 ∧ r4 < 256 ∧ 0 ≤ r5 ∧ r5 < 256 ∧ 0 ≤ r6 ∧ r6 < 256 ∧ 0 ≤ r7 ∧ r7 < 256 := by
  match zs, hl with
  | [r0, r1, r2, r3, r4, r5, r6, r7], _ =>
    obtain ⟨t0, w0, rfl, h0⟩ := ints_cons_inv h
    obtain ⟨t1, w1, rfl, h1⟩ := ints_cons_inv h0
    obtain ⟨t2, w2, rfl, h2⟩ := ints_cons_inv h1
    obtain ⟨t3, w3, rfl, h3⟩ := ints_cons_inv h2
    obtain ⟨t4, w4, rfl, h4⟩ := ints_cons_inv h3
    obtain ⟨t5, w5, rfl, h5⟩ := ints_cons_inv h4
    obtain ⟨t6, w6, rfl, h6⟩ := ints_cons_inv h5
    obtain ⟨t7, w7, rfl, h7⟩ := ints_cons_inv h6
    obtain rfl := ints_nil_inv h7
    have b0 := hb r0 (by simp)
    have b1 := hb r1 (by simp)
    have b2 := hb r2 (by simp)
    have b3 := hb r3 (by simp)
    have b4 := hb r4 (by simp)
    have b5 := hb r5 (by simp)
    have b6 := hb r6 (by simp)
    have b7 := hb r7 (by simp)
    exact ⟨r0, r1, r2, r3, r4, r5, r6, r7, t0, t1, t2, t3, t4, t5, t6, t7, rfl, b0.1, b0.2, b1.1, b1.2, b2.1, b2.2, b3.1, b3.2, b4.1, b4.2, b5.1, b5.2, b6.1, b6.2, b7.1, b7.2⟩
theorem ints_rep8 (tk : Tok) : IntsAre ((List.replicate (Int.toNat 8) [Value.int 0 tk]).flatten) [0, 0, 0, 0, 0, 0, 0, 0] :=
  .cons 0 tk (.cons 0 tk (.cons 0 tk (.cons 0 tk (.cons 0 tk (.cons 0 tk (.cons 0 tk (.cons 0 tk .nil)))))))
section
variable {prog : Program} {w : World} {A : Around} {E : Value → Shared → Prop} {s : Shared} {h₀ : Heap} {L D : Addr} {news : List (Addr × Obj)} {n : Nat} {k : Int} {u : Tok}
/-- the octet that is no order. -/
theorem none_item {value slice : PySem.Expr} {Q : Value → Shared → Prop} {a b c : Int} {ta tb tc td te : Tok} (N : News h₀ L s.heap news) (hm : (D, W.listOf #[.int a ta, .int (192 + b) tb, .int (128 + c) tc, .int 119 td, .int 127 te] n) ∈ news)
    (k0 : 0 ≤ k) (k1 : k < 5) (a0 : 0 ≤ a) (a1 : a < 64) (b0 : 0 ≤ b) (b1 : b < 64) (c0 : 0 ≤ c) (c1 : c < 32)
    (h : ∀ x t, ((0 ≤ x ∧ x < 64) ∨ (192 ≤ x ∧ x < 256) ∨ (128 ≤ x ∧ x < 160) ∨ x = 119 ∨ x = 127) → Q (.int x t) s)
    (hs : subscripted slice false (.ref D) (.int k u) = operate [.ref D, .int k u] (getItem (.ref D) (.int k u))) : wpAny (model prog w) A (subscriptTail value slice (.ref D) (.int k u)) Q E s := by
  refine ksa_sub (vs := [.int a ta, .int (192 + b) tb, .int (128 + c) tc, .int 119 td, .int 127 te]) (ns := [a, 192 + b, 128 + c, 119, 127]) N hm (.cons _ _ (.cons _ _ (.cons _ _ (.cons _ _ (.cons _ _ .nil))))) k0 (by simp; omega) (by omega) (fun t => h _ t ?_) hs
  have e : k = 0 ∨ k = 1 ∨ k = 2 ∨ k = 3 ∨ k = 4 := by omega
  rcases e with rfl | rfl | rfl | rfl | rfl
  · exact .inl ⟨a0, a1⟩
  · exact .inr (.inl ⟨by show 192 ≤ 192 + b; omega, by show 192 + b < 256; omega⟩)
  · exact .inr (.inr (.inl ⟨by show 128 ≤ 128 + c; omega, by show 128 + c < 160; omega⟩))
  · exact .inr (.inr (.inr (.inl rfl)))
  · exact .inr (.inr (.inr (.inr rfl)))
end


section
variable {w : World} {k : Nat} {d : Dy w k} {K : Kode} {l l' : Loc} {led led' : Led} {α : Type}
theorem new_nodup {D : Addr} {o : Obj} {s : Shared} (hs : St d l led s) (l1 : ∀ p ∈ led, p.1 < D) : (((D, o) :: led).map (·.1)).Nodup :=
  List.nodup_cons.mpr ⟨fun hm => by
    obtain ⟨p, hp, e⟩ := List.mem_map.mp hm
    exact absurd (l1 p hp) (by rw [e]; exact Nat.lt_irrefl _), hs.2.2.1⟩
theorem St.drop {x : Addr × Obj} {s : Shared} (hs : St d l (x :: led) s) : St d l led s := ⟨hs.1, fun q hq => hs.2.1 q (.tail _ hq), (List.nodup_cons.mp hs.2.2.1).2, hs.2.2.2⟩

/- a slice of a written list -/
theorem W.slice {a lo hi : Expr} {i j : Int} {p1 p2 : Pos} {r : Addr} {xs zs : List Value} {n : Nat} {Q : Value → Loc → Led → Prop} (ha : Ev d K l led a (.v (.ref r))) (hlo : Ev d K l led lo (.i i)) (hhi : Ev d K l led hi (.i j)) (h1 : (r, W.listOf xs.toArray n) ∈ led)
    (e : kms_pick xs (some i) (some j) = zs) (hz : xs.length ≤ sizeLine)
    (hs' : ∀ L', subscripted (.Slice (some lo) (some hi) none p1) false (.ref r) (.ref L') = operate [.ref L', .ref r] (getItem (.ref r) (.ref L')))
    (h : ∀ D, Q (.ref D) l ((D, W.listOf zs.toArray 0) :: led)) : W d K l led (eval (.Subscript a (.Slice (some lo) (some hi) none p1) p2) (en d K)) Q := by
  intro s E Q' hs hq
  refine Subscript_ (ha _ _ _ hs fun x s1 hx hs1 => ?_)
  cases hx
  refine wpAny_Slice (evalPart_some_step (hlo _ _ _ hs1 fun x s2 hx hs2 => evalPart_some_step (hhi _ _ _ hs2 fun y s3 hy hs3 => evalPart_none_step ?_)))
  cases hx
  cases hy
  refine kba_turn (value' := PySem.Expr.Name (PySem.Str.ofString "_") ⟨0, 0, 0, 0⟩) (fun _ => rfl) ?_
  exact kms_slice_lit hs3.1 hs3.2.1 (News.isList hs3.2.1 h1) (.int _ _) (.int _ _) e (fun D h' F N l1 => hq _ _ _ _ (h D) (hs3.heap F N (new_nodup hs3 l1))) (hs' _) (fun _ => rfl) (by rw [List.size_toArray]; exact hz)
/- `r[4:6] = b` of written lists -/
theorem W.asgSlice {o lo hi e : Expr} {p1 xp pos : Pos} {r D : Addr} {x0 x1 x2 x3 x4 x5 x6 x7 a b : Value} {n nb : Nat} {rest : Led} {Q : Flow → Loc → Led → Prop} (hsw : swapsWith e (some (.Subscript o (.Slice (some lo) (some hi) none p1) xp)) pos.line (en d K) = pure false)
    (he : Ev d K l led e (.v (.ref D))) (ho : Ev d K l led o (.v (.ref r))) (hlo : Ev d K l led lo (.i 4)) (hhi : Ev d K l led hi (.i 6)) (sel : Sel led [(r, W.listOf #[x0, x1, x2, x3, x4, x5, x6, x7] n), (D, W.listOf #[a, b] nb)] rest)
    (h : Q .next l ((r, W.listOf #[x0, x1, x2, x3, a, b, x6, x7] n) :: (D, W.listOf #[a, b] nb) :: rest)) : W d K l led (exec (.Assign [.Subscript o (.Slice (some lo) (some hi) none p1) xp] e pos) (en d K)) Q := by
  intro s E Q' hs hq
  refine wpAny_Assign_Subscript (he _ _ _ hs fun x s1 hx hs1 => ?_) hsw
  cases hx
  refine ho _ _ _ hs1 fun x s2 hx hs2 => ?_
  cases hx
  refine wpAny_Slice (evalPart_some_step (hlo _ _ _ hs2 fun x s3 hx hs3 => evalPart_some_step (hhi _ _ _ hs3 fun y s4 hy hs4 => evalPart_none_step ?_)))
  cases hx
  cases hy
  have hs5 := hs4.perm sel.perm
  have nd := hs5.2.2.1
  simp only [List.cons_append, List.nil_append, List.map_cons] at nd
  obtain ⟨n1, n2⟩ := List.nodup_cons.mp nd
  have hne : r ≠ D := fun e => n1 (e ▸ .head _)
  refine set_slice46 hs5.1 hs5.2.1 (.head _) (.tail _ (.head _)) hne (rest := (D, W.listOf #[a, b] nb) :: rest) (.drop (.head _) (Apart.all fun p hp x hx e => ?_)) fun h' F N => hq _ _ _ _ h (hs5.heap (led' := (r, W.listOf #[x0, x1, x2, x3, a, b, x6, x7] n) :: (D, W.listOf #[a, b] nb) :: rest) F N nd)
  rw [List.mem_singleton.mp hx] at e
  exact n1 (e ▸ List.mem_map_of_mem (f := (·.1)) hp)

/- an octet of the memory -/
theorem Ev.mem {a b : Expr} {pos : Pos} {r : Addr} {vs : List Value} {ms : List Int} {n : Nat} {i : Int} (ha : Ev d K l led a (.v (.ref r))) (hb : Ev d K l led b (.i i)) (h1 : (r, W.listOf vs.toArray n) ∈ led) (hi : IntsAre vs ms) (hm : ms.length = 16) (h0 : 0 ≤ i) (h16 : i < 16)
    (hs' : ∀ u, subscripted b false (.ref r) (.int i u) = operate [.ref r, .int i u] (getItem (.ref r) (.int i u))) : Ev d K l led (.Subscript a b pos) (.i (ms.getD i.toNat 0)) := by
  intro s E Q' hs hq
  refine Subscript_ (ha _ _ _ hs fun x s1 hx hs1 => ?_)
  cases hx
  refine hb _ _ _ hs1 fun y s2 hy hs2 => ?_
  cases hy
  exact item_known hs2.2.1 h1 hi hm h0 h16 rfl (fun t => hq _ _ .i hs2) (hs' _)
theorem ki_setL_set : ∀ {l : List Value} {j : Nat} {v : Value}, j < l.length → ki_setL l j v = some (l.set j v)
  | _ :: _, 0, _, _ => rfl
  | x :: r, j + 1, v, h => by
    have := ki_setL_set (l := r) (j := j) (v := v) (Nat.lt_of_succ_lt_succ h)
    simp only [ki_setL, this, List.set_cons_succ]
theorem PutI.mem {vs : List Value} {ms : List Int} {n : Nat} {i : Int} {v : Value} (hi : IntsAre vs ms) (hm : ms.length = 16) (h0 : 0 ≤ i) (h16 : i < 16) : PutI (W.listOf vs.toArray n) i v (W.listOf (vs.set i.toNat v).toArray n) :=
  ⟨_, _, vs.set i.toNat v, rfl, rfl, h0, by omega, by
    have := hi.length
    simpa using ki_setL_set (l := vs) (j := i.toNat) (v := v) (by omega)⟩
/- lists that hold the same -/
theorem W.neLists {a b : Addr} {xs ys : List Value} {ns ns' : List Int} {n n' : Nat} {Q : Value → Loc → Led → Prop} (hk : 8 ≤ k) (ha : (a, W.listOf xs.toArray n) ∈ led) (hb : (b, W.listOf ys.toArray n') ∈ led) (hi : IntsAre xs ns) (hj : IntsAre ys ns') (e : ns = ns') (h : Q (.bool false) l led) :
    W d K l led (compareOp .NotEq (.ref a) (.ref b)) Q :=
  fun s E Q' hs hq => lists_same hs.2.1 ha hb hi hj (by have := d.hu; show d.un + 64 < cLine; omega) e (hq _ _ _ _ h hs)
theorem W.eqLists {a b : Addr} {xs ys : List Value} {ns ns' : List Int} {n n' : Nat} {Q : Value → Loc → Led → Prop} (hk : 8 ≤ k) (ha : (a, W.listOf xs.toArray n) ∈ led) (hb : (b, W.listOf ys.toArray n') ∈ led) (hi : IntsAre xs ns) (hj : IntsAre ys ns') (e : ns = ns') (h : Q (.bool true) l led) :
    W d K l led (compareOp .Eq (.ref a) (.ref b)) Q :=
  fun s E Q' hs hq => lists_same_eq hs.2.1 ha hb hi hj (by have := d.hu; show d.un + 64 < cLine; omega) e (hq _ _ _ _ h hs)
theorem Ev.cmpEq {a b : Expr} {x y : Int} {pos : Pos} (ha : Ev d K l led a (.i x)) (hb : Ev d K l led b (.i y)) (hm : behindInMarks .Eq b = false) (hc : (x == y) = true) : Ev d K l led (.Compare a [.Eq] [b] pos) (.v (.bool true)) := by
  intro s E Q' hs hq
  refine wpAny_Compare1 (ha _ _ _ hs fun x' s' hx hs' => hb _ _ _ hs' fun y' s'' hy hs'' => ?_) hm
  cases hx; cases hy
  exact PyProof.Rows.eq_int (hc ▸ hq _ _ .v hs'')
theorem Tv.or0 {pos : Pos} : Tv d K l led (.BoolOp .Or [] pos) false := fun s E Q' hs hq => isTrue_or_nil (hq _ hs)
theorem Tv.orF {x : Expr} {rest : List Expr} {pos : Pos} (h : Tv d K l led x false) (h' : Tv d K l led (.BoolOp .Or rest pos) false) : Tv d K l led (.BoolOp .Or (x :: rest) pos) false :=
  fun s E Q' hs hq => isTrue_or (h _ _ _ hs fun s' hs' => h' _ _ _ hs' hq)
/- names of the language -/
def BuiltIs (w : World) (x : Str) (v : Value) : Prop := nsIn (Mine.hd.heap_1 w.params) mainGlobals x = some none ∧ bootBuiltins x = some v ∧ x ≠ "__name__"
theorem Ev.built {x : Str} {pos : Pos} {v : Value} (hv : BuiltIs w x v) (hx : (en d K).kindOf x = some .globalImplicit) (hd : (x == ("__debug__" : Str)) = false) : Ev d K l led (.Name x pos) (.v v) :=
  fun s E Q' hs hq => nameX_B hs.1 d.X (topRead_of d.T) hv.1 hv.2.1 hv.2.2 (hq _ _ .v hs) K.hk hx hd
theorem W.callTy {f e : Expr} {rest : List Expr} {pos : Pos} {T : String} {Q : Value → Loc → Led → Prop} (hf : Ev d K l led f (.v (.type T)))
    (he : starEach (e :: rest) (en d K) = (false, eval e (en d K)) :: starEach rest (en d K)) (hplain : (backTo pos (starEach rest (en d K))).any (·.1) = false)
    (hc : eval (.Call f (e :: rest) [] pos) (en d K) = (do callWith pos (← eval f (en d K)) [] (backTo pos (starEach (e :: rest) (en d K))) (backToKw pos (keywordEach [] (en d K)))))
    (h : W d K l led (spliced (backTo pos (starEach (e :: rest) (en d K)))) fun vs l led => W d K l led (PySem.call (.type T) vs) Q) : W d K l led (eval (.Call f (e :: rest) [] pos) (en d K)) Q := by
  intro s E Q' hs hq
  refine Call_ (hf _ _ _ hs fun x s' hx hs' => ?_) hc
  cases hx
  exact PyProof.Rows.callWith_type1 (h _ _ _ hs' fun vs l led s'' hvs hs'' => hvs _ _ _ hs'' hq) he hplain
theorem W.listCopy {r : Addr} {vs : List Value} {ms : List Int} {n : Nat} {Q : Value → Loc → Led → Prop} (h1 : (r, W.listOf vs.toArray n) ∈ led) (hi : IntsAre vs ms) (hm : ms.length = 16) (h : ∀ D c, Q (.ref D) l ((D, W.listOf vs.toArray c) :: led)) : W d K l led (PySem.call (.type "list") [.ref r]) Q :=
  fun s E Q' hs hq => list_copy16 hs.1 hs.2.1 h1 hi hm fun D c h' F N l1 => hq _ _ _ _ (h D c) (hs.heap F N (new_nodup hs l1))

/- loops over a tuple -/
def Lq (it ax : Addr) (lo : Obj) (o : Obj) (Q : Flow → Loc → Led → Prop) (go : Loc → Led → Prop) (f : Flow) (l : Loc) (led : Led) : Prop :=
  match f with
  | .ret v => Q (.ret v) l led
  | .brk => Q .next l led
  | _ => ∃ led', Sel led [(it, o)] led' ∧ (ax, lo) ∈ led' ∧ go l led'
def Lp (d : Dy w k) (K : Kode) (tg : Expr) (body : List Stmt) (it ax : Addr) (lo : Obj) (Q : Flow → Loc → Led → Prop) : List Value → Loc → Led → Prop
  | [], l, led => Q .next l led
  | v :: vs, l, led => ∀ o, W d K l ((it, o) :: led) (assign tg (en d K) v) fun _ l led => W d K l led (execs body (en d K)) (Lq it ax lo o Q (Lp d K tg body it ax lo Q vs))
theorem Lq.next {it ax : Addr} {lo o : Obj} {Q : Flow → Loc → Led → Prop} {go : Loc → Led → Prop} (sel : Sel led [(it, o)] led') (hk : (ax, lo) ∈ led') (h : go l led') : Lq it ax lo o Q go .next l led := ⟨_, sel, hk, h⟩
theorem Lq.ret {it ax : Addr} {lo o : Obj} {Q : Flow → Loc → Led → Prop} {go : Loc → Led → Prop} {v : Value} (h : Q (.ret v) l led) : Lq it ax lo o Q go (.ret v) l led := h
theorem Lp.nil {tg : Expr} {body : List Stmt} {it ax : Addr} {lo : Obj} {Q : Flow → Loc → Led → Prop} (h : Q .next l led) : Lp d K tg body it ax lo Q [] l led := h
theorem Lp.cons {tg : Expr} {body : List Stmt} {it ax : Addr} {lo : Obj} {Q : Flow → Loc → Led → Prop} {v : Value} {vs : List Value} (h : ∀ o, W d K l ((it, o) :: led) (assign tg (en d K) v) fun _ l led => W d K l led (execs body (en d K)) (Lq it ax lo o Q (Lp d K tg body it ax lo Q vs))) : Lp d K tg body it ax lo Q (v :: vs) l led := h
theorem Lp.items {tg : Expr} {body : List Stmt} {it ax : Addr} {lo : Obj} {Q : Flow → Loc → Led → Prop} {E : NoE} {Q' : Flow → Shared → Prop} (hq : ∀ f l' led' s', Q f l' led' → St d l' led' s' → Q' f s') {s0 : Shared} (hs0 : ∃ h t, s0 = { d.s with heap := h, toks := t }) :
    ∀ (vs : List Value) (l : Loc) (led : Led), (led.map (·.1)).Nodup → it ∉ led.map (·.1) → Lp d K tg body it ax lo Q vs l led → ItemsRest PP w (d.A K) E.1 d.g (en d K) tg body Q' s0 [(it, "tuple_iterator")] [(ax, lo)] (vs.map .val) (fun y => l.lookup y) led
  | [], l, led, nd, _, h => fun h' tk F N => hq _ _ _ _ h ⟨F, N, nd, by obtain ⟨_, _, rfl⟩ := hs0; exact ⟨_, _, rfl⟩⟩
  | v :: vs, l, led, nd, hit, h => by
    intro v' h' tk hv F
    refine .cons fun o ho => .nil fun N => ?_
    cases hv
    have nd' : (((it, o) :: led).map (·.1)).Nodup := List.nodup_cons.mpr ⟨hit, nd⟩
    refine h o _ E _ ⟨F, N, nd', by obtain ⟨_, _, rfl⟩ := hs0; exact ⟨_, _, rfl⟩⟩ fun _ l1 led1 s1 h1 hs1 => h1 _ E _ hs1 fun f l2 led2 s2 h2 hs2 => ?_
    have key : (∃ led', Sel led2 [(it, o)] led' ∧ (ax, lo) ∈ led' ∧ Lp d K tg body it ax lo Q vs l2 led') → UnrEndW d.g (en d K).locals { s0 with heap := h', toks := tk } [(it, o)] (fun m' n' => SubL [(ax, lo)] n' ∧ ItemsRest PP w (d.A K) E.1 d.g (en d K) tg body Q' s0 [(it, "tuple_iterator")] [(ax, lo)] (vs.map .val) m' n') s2 := by
      rintro ⟨led', sel, hax, hgo⟩
      have hs3 := hs2.perm sel.perm
      obtain ⟨F3, N3, n3, h3, t3, e3⟩ := hs3
      have n4 := nodup_app (p := [(it, o)]) n3
      have e4 : s2 = { s0 with heap := s2.heap, toks := s2.toks } := by obtain ⟨_, _, rfl⟩ := hs0; subst e3; rfl
      exact ⟨s2.heap, s2.toks, _, led', e4, F3, N3, fun p hp q hq => (n4.2.2 q hq p hp).symm, ⟨hax, trivial⟩, Lp.items hq hs0 vs l2 led' n4.2.1 (fun hm => by
        obtain ⟨p, hp, e⟩ := List.mem_map.mp hm
        exact n4.2.2 (it, o) (.head _) p hp e.symm) hgo⟩
    cases f with
    | ret v => exact hq _ _ _ _ h2 hs2
    | brk => exact hq _ _ _ _ h2 hs2
    | next => exact key h2
    | cont => exact key h2
theorem W.forTup {tg iter : Expr} {body : List Stmt} {pos : Pos} {Q : Flow → Loc → Led → Prop} (hfs : ∀ x, foldedSetIterable iter (en d K) x = pure x)
    (h : W d K l led (eval iter (en d K)) fun v l led => ∃ t vs, v = .ref t ∧ (t, tupObj vs) ∈ led ∧ ∀ it, Lp d K tg body it t (tupObj vs) Q vs l led) : W d K l led (exec (.For tg iter body [] pos) (en d K)) Q := by
  intro s E Q' hs hq
  refine For_turns (h₀ := d.g) (env := en d K) hs.1 (h _ _ _ hs fun v l1 led1 s1 h1 hs1 => ?_) hfs (by rw [E.2]; exact PassesOwn.never)
  obtain ⟨t, vs, rfl, hm, hl⟩ := h1
  refine iter_tupTurns (env := en d K) rfl hs1.1 hs1.2.1 hm rfl rfl fun I hI => Lp.items hq hs1.2.2.2 vs l1 led1 hs1.2.2.1 (fun hm => ?_) (hl I)
  obtain ⟨p, hp, e⟩ := List.mem_map.mp hm
  exact absurd (hI p hp) (by rw [e]; exact Nat.lt_irrefl _)
theorem W.tupFor {elts : List Expr} {j : Nat} {pos : Pos} {Q : Value → Loc → Led → Prop} (h : W d K l led (spliced (backTo pos (starEach elts (en d K)))) fun vs l led => vs.length ≤ sizeLine ∧ ∀ t, Q (.ref t) l ((t, tupObj vs) :: led)) : W d K l led (eval (.Tuple elts j pos) (en d K)) Q := .tuple h

/- loops over range(n) -/
def Rq (it : Addr) (o : Obj) (Q : Flow → Loc → Led → Prop) (go : Loc → Led → Prop) (f : Flow) (l : Loc) (led : Led) : Prop :=
  match f with
  | .ret v => Q (.ret v) l led
  | .brk => Q .next l led
  | _ => ∃ led', Sel led [(it, o)] led' ∧ go l led'
def Rp (d : Dy w k) (K : Kode) (x : Str) (body : List Stmt) (it : Addr) (Q : Flow → Loc → Led → Prop) : Nat → Nat → Loc → Led → Prop
  | 0, _, l, led => Q .next l led
  | n + 1, i, l, led => ∀ o t, ∃ l', SetL x (.int (i : Int) t) l l' ∧ W d K l' ((it, o) :: led) (execs body (en d K)) (Rq it o Q (Rp d K x body it Q n (i + 1)))
theorem Rq.next {it : Addr} {o : Obj} {Q : Flow → Loc → Led → Prop} {go : Loc → Led → Prop} (sel : Sel led [(it, o)] led') (h : go l led') : Rq it o Q go .next l led := ⟨_, sel, h⟩
theorem Rq.ret {it : Addr} {o : Obj} {Q : Flow → Loc → Led → Prop} {go : Loc → Led → Prop} {v : Value} (h : Q (.ret v) l led) : Rq it o Q go (.ret v) l led := h
theorem Rp.zero {x : Str} {body : List Stmt} {it : Addr} {Q : Flow → Loc → Led → Prop} {i : Nat} (h : Q .next l led) : Rp d K x body it Q 0 i l led := h
theorem Rp.succ {x : Str} {body : List Stmt} {it : Addr} {Q : Flow → Loc → Led → Prop} {n i : Nat} (h : ∀ o t, ∃ l', SetL x (.int (i : Int) t) l l' ∧ W d K l' ((it, o) :: led) (execs body (en d K)) (Rq it o Q (Rp d K x body it Q n (i + 1)))) : Rp d K x body it Q (n + 1) i l led := h
theorem Rp.rest {x : Str} {body : List Stmt} {it : Addr} {Q : Flow → Loc → Led → Prop} {E : NoE} {Q' : Flow → Shared → Prop} (hq : ∀ f l' led' s', Q f l' led' → St d l' led' s' → Q' f s') {s0 : Shared} (hs0 : ∃ h t, s0 = { d.s with heap := h, toks := t }) (N0 : Nat) :
    ∀ (n i : Nat) (l : Loc) (led : Led), (led.map (·.1)).Nodup → it ∉ led.map (·.1) → Rp d K x body it Q n i l led → RangeRest PP w (d.A K) E.1 d.g (en d K) x body Q' s0 it 0 N0 n i (fun y => l.lookup y) led
  | 0, i, l, led, nd, _, h => fun h' tk F N => hq _ _ _ _ h ⟨F, N, nd, by obtain ⟨_, _, rfl⟩ := hs0; exact ⟨_, _, rfl⟩⟩
  | n + 1, i, l, led, nd, hit, h => by
    intro t h' tk F N
    obtain ⟨l', hl, hW⟩ := h (itR (0 + ((i + 1 : Nat) : Int)) ((N0 : Int) - ((i + 1 : Nat) : Int))) t
    have nd' : (((it, itR (0 + ((i + 1 : Nat) : Int)) ((N0 : Int) - ((i + 1 : Nat) : Int))) :: led).map (·.1)).Nodup := List.nodup_cons.mpr ⟨hit, nd⟩
    rw [Int.zero_add] at F
    refine hW _ E _ ⟨by rw [hl.look]; exact F, N, nd', by obtain ⟨_, _, rfl⟩ := hs0; exact ⟨_, _, rfl⟩⟩ fun f l2 led2 s2 h2 hs2 => ?_
    have key : (∃ led', Sel led2 [(it, itR (0 + ((i + 1 : Nat) : Int)) ((N0 : Int) - ((i + 1 : Nat) : Int)))] led' ∧ Rp d K x body it Q n (i + 1) l2 led') → UnrEnd d.g (en d K).locals { s0 with heap := h', toks := tk } it (itR (0 + ((i + 1 : Nat) : Int)) ((N0 : Int) - ((i + 1 : Nat) : Int))) (RangeRest PP w (d.A K) E.1 d.g (en d K) x body Q' s0 it 0 N0 n (i + 1)) s2 := by
      rintro ⟨led', sel, hgo⟩
      have hs3 := hs2.perm sel.perm
      obtain ⟨F3, N3, n3, h3, t3, e3⟩ := hs3
      have n4 := nodup_app (p := [(it, _)]) n3
      have e4 : s2 = { s0 with heap := s2.heap, toks := s2.toks } := by obtain ⟨_, _, rfl⟩ := hs0; subst e3; rfl
      exact ⟨s2.heap, s2.toks, _, led', e4, F3, N3, fun p hp => (n4.2.2 _ (.head _) p hp).symm, Rp.rest hq hs0 N0 n (i + 1) l2 led' n4.2.1 (fun hm => by
        obtain ⟨p, hp, e⟩ := List.mem_map.mp hm
        exact n4.2.2 _ (.head _) p hp e.symm) hgo⟩
    cases f with
    | ret v => exact hq _ _ _ _ h2 hs2
    | brk => exact hq _ _ _ _ h2 hs2
    | next => exact key h2
    | cont => exact key h2
theorem W.forRange {x : Str} {px pos pc : Pos} {f e : Expr} {n : Nat} {body : List Stmt} {Q : Flow → Loc → Led → Prop} (hx : (en d K).kindOf x = some .local)
    (hp : ((en d K).scope.kind == .class || ((en d K).scope.kind == .module && (en d K).locals != (en d K).globals)) = false) (hfs : ∀ v, foldedSetIterable (.Call f [e] [] pc) (en d K) v = pure v)
    (hf : Ev d K l led f (.v (.type "range"))) (ha : Ev d K l led e (.i (n : Int)))
    (he : starEach [e] (en d K) = (false, eval e (en d K)) :: starEach [] (en d K)) (hplain : (backTo pc (starEach [] (en d K))).any (·.1) = false)
    (hc : eval (.Call f [e] [] pc) (en d K) = (do callWith pc (← eval f (en d K)) [] (backTo pc (starEach [e] (en d K))) (backToKw pc (keywordEach [] (en d K)))))
    (h1 : Builtin.Range.small 0 n 1 = true) (h2 : Builtin.Range.rangeSize 0 n 1 = (n : Int))
    (h : ∀ it, Rp d K x body it Q n 0 l led) : W d K l led (exec (.For (.Name x px) (.Call f [e] [] pc) body [] pos) (en d K)) Q := by
  intro s E Q' hs hq
  refine For_invVF (h₀ := d.g) (env := en d K) hs.1 hx hp ?_ hfs (by rw [E.2]; exact PassesOwn.never)
  refine Call_ (hf _ _ _ hs fun v s1 hv hs1 => ?_) hc
  cases hv
  refine PyProof.Rows.callWith_type1 (PyProof.Rows.args_cons (ha _ _ _ hs1 fun v s2 hv hs2 => PyProof.Rows.args_nil ?_) he) he hplain
  cases hv
  refine range1_rows hs2.1 hs2.2.1 fun h' tk t₁ u₁ v₁ hr F N _ => ?_
  have hs3 : St d l led { s2 with heap := h', toks := tk } := hs2.put F N hs2.2.2.1
  refine iter_rangeUnr (env := en d K) rfl hr h1 h2 hs3.1 hs3.2.1 fun I hI => Rp.rest hq hs3.2.2.2 n n 0 l led hs3.2.2.1 (fun hm => ?_) (h I)
  obtain ⟨p, hp, e⟩ := List.mem_map.mp hm
  exact absurd (hI p hp) (by rw [e]; exact Nat.lt_irrefl _)
end


section
variable {w : World} {k : Nat} {d : Dy w k} {K : Kode} {l l' : Loc} {led led' : Led} {α : Type}
theorem W.neTup2 {a b : Addr} {x y x' y' : Int} {t u t' u' : Tok} {Q : Value → Loc → Led → Prop} (hk : 8 ≤ k) (ha : (a, tupObj [.int x t, .int y u]) ∈ led) (hb : (b, tupObj [.int x' t', .int y' u']) ∈ led) (h1 : x = x') (h2 : y = y') (h : Q (.bool false) l led) :
    W d K l led (compareOp .NotEq (.ref a) (.ref b)) Q := by
  subst h1 h2
  intro s E Q' hs hq
  refine ne_dataH (reads_tuple_at (News.get hs.2.1 ha) rfl rfl (.cons (.int _ _) (.cons (.int _ _) .nil))) (reads_tuple_at (News.get hs.2.1 hb) rfl rfl (.cons (.int _ _) (.cons (.int _ _) .nil))) rfl rfl (by have := d.hu; show d.un + 64 < cLine; omega) ?_
  have e : (!PyData.eqv (.tuple [.int x, .int y]) (.tuple [.int x, .int y])) = false := by
    simp [PyData.eqv, PyData.eqvAll]
  rw [e]
  exact hq _ _ _ _ h hs
theorem W.addLists {a b : Addr} {xs ys : List Value} {ns ms : List Int} {n n' : Nat} {Q : Value → Loc → Led → Prop} (ha : (a, W.listOf xs.toArray n) ∈ led) (hb : (b, W.listOf ys.toArray n') ∈ led) (hi : IntsAre xs ns) (hj : IntsAre ys ms) (hz : ns.length + ms.length ≤ sizeLine)
    (h : ∀ D us, IntsAre us (ns ++ ms) → Q (.ref D) l ((D, W.listOf us.toArray 0) :: led)) : W d K l led (binaryOp .Add (.ref a) (.ref b)) Q :=
  fun s E Q' hs hq => kmk_add_ints hs.1 hs.2.1 (News.isList hs.2.1 ha) (News.isList hs.2.1 hb) hi hj (fun D us h' F N l1 hu => hq _ _ _ _ (h D us hu) (hs.heap F N (new_nodup hs l1))) hz
theorem W.newList {elts : List Expr} {pos : Pos} {Q : Value → Loc → Led → Prop} (h : W d K l led (spliced (backTo pos (starEach elts (en d K)))) fun vs l led => vs.length ≤ sizeLine ∧ ∀ D, Q (.ref D) l ((D, W.listOf vs.toArray 0) :: led)) : W d K l led (eval (.List elts pos) (en d K)) Q :=
  fun s E Q' hs hq => List_ (h _ _ _ hs fun vs l led s' hv hs' => newList_K hs'.1 hs'.2.1 (fun D h' F N l1 => hq _ _ _ _ (hv.2 D) (hs'.heap F N (new_nodup hs' l1))) hv.1)
theorem Tv.flag {e : Expr} {c : Bool} (h : Ev d K l led e (.v (.bool c))) (he : isTrue e (en d K) (eval e (en d K)) = (do let v ← eval e (en d K); standAt e.pos; holding [v] (truthy v))) : Tv d K l led e c := by
  intro s E Q' hs hq
  refine isTrue_plain (h _ _ _ hs fun x s' hx hs' => ?_) he
  cases hx
  exact wpAny_truthy_bool (hq _ hs')
theorem W.bAnd {e₁ e₂ : Expr} {rest : List Expr} {pos : Pos} {Q : Value → Loc → Led → Prop} (h : W d K l led (eval e₁ (en d K)) fun v l led => W d K l led (truthy v) fun c l led => if c = true then W d K l led (eval (.BoolOp .And (e₂ :: rest) pos) (en d K)) Q else Q v l led) :
    W d K l led (eval (.BoolOp .And (e₁ :: e₂ :: rest) pos) (en d K)) Q :=
  fun s E Q' hs hq => BoolOp_and (h _ _ _ hs fun v l led s' hv hs' => hv _ _ _ hs' fun c l led s' hc hs' => by
    cases c
    · exact hq _ _ _ _ hc hs'
    · exact hc _ _ _ hs' hq)
theorem W.b1 {e : Expr} {op : BoolOp} {pos : Pos} {Q : Value → Loc → Led → Prop} (h : W d K l led (eval e (en d K)) Q) : W d K l led (eval (.BoolOp op [e] pos) (en d K)) Q := fun s E Q' hs hq => BoolOp_one (h _ _ _ hs hq)
theorem W.cmp1 {a b : Expr} {op : CmpOp} {pos : Pos} {Q : Value → Loc → Led → Prop} (hm : behindInMarks op b = false) (h : W d K l led (eval a (en d K)) fun x l led => W d K l led (eval b (en d K)) fun y l led => W d K l led (compareOp op x y) Q) : W d K l led (eval (.Compare a [op] [b] pos) (en d K)) Q :=
  fun s E Q' hs hq => wpAny_Compare1 (h _ _ _ hs fun x l led s' hx hs' => hx _ _ _ hs' fun y l led s' hy hs' => hy _ _ _ hs' hq) hm
theorem Ev.neB {a b : Expr} {x y : Int} {pos : Pos} (ha : Ev d K l led a (.i x)) (hb : Ev d K l led b (.i y)) (hm : behindInMarks .NotEq b = false) : Ev d K l led (.Compare a [.NotEq] [b] pos) (.v (.bool (x != y))) := by
  intro s E Q' hs hq
  refine wpAny_Compare1 (ha _ _ _ hs fun x' s' hx hs' => hb _ _ _ hs' fun y' s'' hy hs'' => ?_) hm
  cases hx; cases hy
  exact PyProof.Rows.ne_int (hq _ _ .v hs'')
theorem Ev.intB {f e : Expr} {pos : Pos} {b : Bool} (hf : Ev d K l led f (.v (.type "int"))) (ha : Ev d K l led e (.v (.bool b)))
    (he : starEach [e] (en d K) = (false, eval e (en d K)) :: starEach [] (en d K)) (hplain : (backTo pos (starEach [] (en d K))).any (·.1) = false)
    (hc : eval (.Call f [e] [] pos) (en d K) = (do callWith pos (← eval f (en d K)) [] (backTo pos (starEach [e] (en d K))) (backToKw pos (keywordEach [] (en d K))))) : Ev d K l led (.Call f [e] [] pos) (.i (bif b then 1 else 0)) := by
  intro s E Q' hs hq
  refine Call_ (hf _ _ _ hs fun v s1 hv hs1 => ?_) hc
  cases hv
  refine PyProof.Rows.callWith_type1 (PyProof.Rows.args_cons (ha _ _ _ hs1 fun v s2 hv hs2 => PyProof.Rows.args_nil ?_) he) he hplain
  cases hv
  refine call_int_bool (hq _ _ ?_ hs2.tok)
  cases b <;> exact .i
end

section
local macro_rules | `(tactic| k_ne) => `(tactic| (refine neN ?_; (try dsimp only); first | (with_reducible assumption) | (refine Ne.symm ?_; with_reducible assumption) | omega))
local macro_rules | `(tactic| k_steps) => `(tactic| repeat' (first | (k_unfold; (try dsimp only)) | walk1 | (dsimp only; walk1) | (leave1; (try dsimp only)) | fail))
local macro_rules | `(tactic| walk_at "call ref") => `(tactic| (k_here; k_dflt (refine wpAny_call ?_; refine' code_def ?k1 ?k2 ?k3 ?k4 ?k5 ?kA ?kF ?kK ?k6 ?k7 ?k8 ?k9 ?kB ?_ ?c2 ?c3 ?c4 ?c5; (case kA => exact rfl); (case kF => exact rfl); (case kK => first | exact rfl | assumption); (case k1 => k_asm); (case k2 => k_asm); (case k3 => k_asm); (case k4 => k_asm); (case k5 => k_asm); (case k6 => k_is); (case k7 => k_is); (case k8 => ktr_room); (case k9 => exact BindsTo.of_eq rfl); (case c5 => decide); (case kB => exact locs rfl); (case c2 => exact rfl); (case c3 => exact rfl); (case c4 => exact rfl); k_whole; intro g' L' h' FG' F' N' B' X' T'; (try dsimp only); (try k_lift B'); (try k_fold))))
local macro_rules | `(tactic| walk_at "execs nil") => `(tactic| (k_here; with_reducible refine wpAny_execs_nil ?_))
local macro_rules | `(tactic| walk_at "execs cons") => `(tactic| (k_here; with_reducible refine wpAny_execs_cons ?_))
local macro_rules | `(tactic| walk_at "exec If") => `(tactic| (k_here; with_reducible refine wpAny_If ?_))
local macro_rules | `(tactic| walk_at "storeName") => `(tactic| (k_here; dsimp only))
local macro_rules | `(tactic| ktu_off) => `(tactic| exact Or.inl (by k_ne))

theorem take_does (w : World) {R l : Addr} {k : Int} {t tm : Tok} {n nl : Nat} {vs : List Value} {ms : List Int} {many : Int} (o1 : @LT.lt Nat _ l R) (hi : IntsAre vs ms) (hl : ms.length ≤ 63) (hk : 0 ≤ k) (hk1 : k < 1000) (h0 : 0 < many) : Does w 4 331 [(.ref R), (.int many tm)] [(R, W.listOf #[.int k t, .ref l] n), (l, W.listOf vs.toArray nl)] (fun v led => ∃ x k' u t' n', v = .int x u ∧ led = [(R, W.listOf #[.int k' t', .ref l] n'), (l, W.listOf vs.toArray nl)] ∧ k' = k + 1 ∧ 0 ≤ x ∧ x < many) := by
  k_dflt (refine' does_of (binds := [(Str.ofString "reel", (.ref R)), (Str.ofString "many", (.int many tm))]) (by decide) ?ho ?hcd ?hb ?hl ?_ ?c1 ?c2 ?c3 ?c4; (case ho => k_is); (case hcd => k_is); (case hb => intro s9; exact BindsTo.of_eq rfl); (case hl => exact locs rfl); (case c1 => exact rfl); (case c2 => exact rfl); (case c3 => exact rfl); (case c4 => decide); intro mean9 mg9 mb9 dp9 un9 gd9 cn9 cs9 a9 ccd9 cl9 outer9 base9 L9 s9 g' L' h' hdp9 hun9 hcs9 F' N' B' X' T'; (try dsimp only); (try k_fold))
  k_steps
  all_goals (k_dflt (apply fin_of; (case F => k_asm); (case N => k_asm); (case' hP => refine' ⟨_, _, _, _, _, rfl, rfl, ?_⟩); (case hs => kcj_all); (try dsimp only); (first | done | (exact ⟨rfl, fmod_low h0, fmod_high h0⟩))))

theorem take_W (w : World) {R l : Addr} {k many : Int} {t : Tok} {n nl : Nat} {vs : List Value} {ms : List Int} (hc : @LT.lt Nat _ l R ∧ IntsAre vs ms ∧ ms.length ≤ 63 ∧ 0 ≤ k ∧ k < 1000 ∧ 0 < many) : DoesW w 4 331 [.v (.ref R), .i many] [(R, W.listOf #[.int k t, .ref l] n), (l, W.listOf vs.toArray nl)] (fun R' => ∀ x u t' n', 0 ≤ x → x < many → R' (.int x u) [(R, W.listOf #[.int (k + 1) t', .ref l] n'), (l, W.listOf vs.toArray nl)]) :=
  fun nd τ R' hR => (take_does w hc.1 hc.2.1 hc.2.2.1 hc.2.2.2.1 hc.2.2.2.2.1 hc.2.2.2.2.2).mono (by
    rintro v led ⟨x, k', u, t', n', rfl, rfl, rfl, h1, h2⟩
    exact ⟨nd, hR _ _ _ _ h1 h2⟩)
theorem use_W {w : World} {k : Nat} {f : Addr} {as : List Ar} {vs : List Value} {pre : Led} {S : (Value → Led → Prop) → Prop} (D : DoesW w k f as pre S) (nd : (pre.map (·.1)).Nodup) (ha : ArgsAre as vs)
    {mean : ExcName → Option Value} {mg mb : Str → Option Value} {dp un : Nat} {gd : Option (List Code)} {cn : Str} {cs : Scope} {a : Addr} {ccd : Value} {cl : List (Str × Addr)} {outer : List Env} {A₀ : Around} {base h₀ : Heap} {L : Addr} {m : Str → Option Value}
    {news rest : List (Addr × Obj)} {s : Shared} {Q E : Value → Shared → Prop}
    (B : Below A₀ base outer h₀) (F : Fr h₀ L s.heap m) (X : (Mine.hd.heap_1 w.params).In h₀) (N : News h₀ L s.heap news) (T : Top Mine.view (looseW Mine.view [Str.ofString "MODES", Str.ofString "STATES_BY_Z"]) mean mg mb h₀) (hk : cs.kind = .function)
    (hpre : ∀ p ∈ pre, p ∈ news) (hap : Apart (pre.map (·.1)) news rest) (hd : dp + k < recursionLimit) (hu : un + 8 * k < cLine)
    (ret : S (fun v led => ∀ h' tk', Fr h₀ L h' m → News h₀ L h' (led ++ rest) → Q v { s with heap := h', toks := tk' })) :
    wpAny (model PySem.Challenge.rw_pq1453_01.row.prog w) (ktrTop dp un gd cn cs L a ccd cl outer) (call (.ref f) vs) Q E s := by
  obtain ⟨τ, rfl⟩ := ha.vals
  exact use_does (D nd τ _ ret) B F X N T hk hpre hap hd hu fun v led hP h' tk' Fh Nh => hP.2 h' tk' Fh Nh
theorem ne_lt {news : Led} {D a : Addr} {o : Obj} (l : ∀ p ∈ news, p.1 < D) (m : (a, o) ∈ news) : @Ne Nat a D := Nat.ne_of_lt (l _ m)
theorem lt_all {news : Led} {D a : Addr} {o : Obj} (l : ∀ p ∈ news, p.1 < D) (m : (a, o) ∈ news) : @LT.lt Nat _ a D := l _ m
theorem lt_next {news : Led} {d x : Addr} (l1 : ∀ p ∈ news, p.1 < d) (l2 : @LT.lt Nat _ d x) : ∀ p ∈ ((d, dictOf [] 0) :: news : Led), p.1 < x := fun p hp => by
  rcases List.mem_cons.mp hp with rfl | hp
  · exact l2
  · exact Nat.lt_trans (l1 p hp) l2
theorem ne_off1 {news : Led} {D a : Addr} {o : Obj} (l : LCg.Off1 D news) (m : (a, o) ∈ news) : @Ne Nat a D := by
  induction news with
  | nil => cases m
  | cons p r ih =>
    rcases List.mem_cons.mp m with rfl | m
    · exact l.1
    · exact ih l.2 m
theorem ne_off3a {news : Led} {I C D a : Addr} {o : Obj} (l : LCg.Off3 I C D news) (m : (a, o) ∈ news) : @Ne Nat a I := (l.mem _ m).1
theorem ne_off3b {news : Led} {I C D a : Addr} {o : Obj} (l : LCg.Off3 I C D news) (m : (a, o) ∈ news) : @Ne Nat a C := (l.mem _ m).2.1
theorem ne_off3c {news : Led} {I C D a : Addr} {o : Obj} (l : LCg.Off3 I C D news) (m : (a, o) ∈ news) : @Ne Nat a D := (l.mem _ m).2.2
theorem nd_nil : ([] : List Addr).Nodup := List.nodup_nil
theorem nd_cons {a : Addr} {l : List Addr} (h : ∀ b ∈ l, @Ne Nat a b) (r : l.Nodup) : (a :: l).Nodup := List.nodup_cons.mpr ⟨fun m => h _ m rfl, r⟩
theorem all_nil {a : Addr} : ∀ b ∈ ([] : List Addr), @Ne Nat a b := fun _ h => nomatch h
theorem all_cons {a b : Addr} {l : List Addr} (h : @Ne Nat a b) (r : ∀ c ∈ l, @Ne Nat a c) : ∀ c ∈ b :: l, @Ne Nat a c := fun c hc => by
  rcases List.mem_cons.mp hc with rfl | hc
  · exact h
  · exact r _ hc
theorem eight_k {vs : List Value} {zs : List Int} (h : IntsAre vs zs) (hl : zs.length = 8) (hb : ∀ z ∈ zs, 0 ≤ z ∧ z < 256) {G : List Value → Prop}
    (k : ∀ r0 r1 r2 r3 r4 r5 r6 r7 t0 t1 t2 t3 t4 t5 t6 t7, (0 ≤ r0 ∧ r0 < 256) → (0 ≤ r1 ∧ r1 < 256) → (0 ≤ r2 ∧ r2 < 256) → (0 ≤ r3 ∧ r3 < 256) → (0 ≤ r4 ∧ r4 < 256) → (0 ≤ r5 ∧ r5 < 256) → (0 ≤ r6 ∧ r6 < 256) → (0 ≤ r7 ∧ r7 < 256) → G [.int r0 t0, .int r1 t1, .int r2 t2, .int r3 t3, .int r4 t4, .int r5 t5, .int r6 t6, .int r7 t7]) : G vs := by
  obtain ⟨r0, r1, r2, r3, r4, r5, r6, r7, t0, t1, t2, t3, t4, t5, t6, t7, rfl, a0, b0, a1, b1, a2, b2, a3, b3, a4, b4, a5, b5, a6, b6, a7, b7⟩ := eight h hl hb
  exact k _ _ _ _ _ _ _ _ _ _ _ _ _ _ _ _ ⟨a0, b0⟩ ⟨a1, b1⟩ ⟨a2, b2⟩ ⟨a3, b3⟩ ⟨a4, b4⟩ ⟨a5, b5⟩ ⟨a6, b6⟩ ⟨a7, b7⟩

section
variable {w : World} {k : Nat} {d : Dy w k} {K : Kode} {l l' : Loc} {led led' : Led} {α : Type}
theorem eight_all {G : List Value → Tok → Nat → Prop}
    (k : ∀ r0 r1 r2 r3 r4 r5 r6 r7 t0 t1 t2 t3 t4 t5 t6 t7 t' nn', (0 ≤ r0 ∧ r0 < 256) → (0 ≤ r1 ∧ r1 < 256) → (0 ≤ r2 ∧ r2 < 256) → (0 ≤ r3 ∧ r3 < 256) → (0 ≤ r4 ∧ r4 < 256) → (0 ≤ r5 ∧ r5 < 256) → (0 ≤ r6 ∧ r6 < 256) → (0 ≤ r7 ∧ r7 < 256) → G [.int r0 t0, .int r1 t1, .int r2 t2, .int r3 t3, .int r4 t4, .int r5 t5, .int r6 t6, .int r7 t7] t' nn') :
    ∀ (ys : List Value) (zs : List Int) (t' : Tok) (nn' : Nat), IntsAre ys zs → zs.length = 8 → (∀ z ∈ zs, 0 ≤ z ∧ z < 256) → G ys t' nn' := fun ys zs t' nn' h hl hb =>
  eight_k h hl hb (G := fun ys => G ys t' nn') fun r0 r1 r2 r3 r4 r5 r6 r7 t0 t1 t2 t3 t4 t5 t6 t7 a b c d e f g h => k r0 r1 r2 r3 r4 r5 r6 r7 t0 t1 t2 t3 t4 t5 t6 t7 t' nn' a b c d e f g h
theorem Ev.cell {x : Str} {pos : Pos} {v : Value} {c : Addr} {o : Obj} (hc : K.cl.lookup x = some c) (hm : (c, o) ∈ led) (hd : o.data = .cell (some v)) (hx : (en d K).kindOf x = some .cell) (hb : (x == ("__debug__" : Str)) = false) : Ev d K l led (.Name x pos) (.v v) :=
  fun s E Q' hs hq => nameX_C hs.2.1 hc hm hd (hq _ _ .v hs) K.hk hx hb
theorem gl_take (w : World) : GlobIs w "_law_take" (.ref 331) := by unfold GlobIs; k_is
theorem kp_take (w : World) : keepIn (Mine.hd.heap_1 w.params) (.ref 331) = true := by k_is
theorem turn_take {m : Str → Option Value} {s : Shared} {I C D R b ca : Addr} {oI oC oca : Obj} {ys vs : List Value} {ms : List Int} {k0 : Int} {t0 : Tok} {nn nl : Nat} {rest : Led} {scope : Scope} {cl' : List (Str × Addr)} {p1 p2 p3 p4 : Pos} {j : Nat} {E' : Value → Shared → Prop}
    (hk4 : 4 ≤ k) (F : Fr d.g d.L s.heap m) (N : News d.g d.L s.heap ((I, oI) :: (C, oC) :: (D, LCg.lst ys) :: (R, W.listOf #[.int k0 t0, .ref b] nn) :: (b, W.listOf vs.toArray nl) :: (ca, oca) :: rest))
    (off : LCg.Off3 I C D ((R, W.listOf #[.int k0 t0, .ref b] nn) :: (b, W.listOf vs.toArray nl) :: (ca, oca) :: rest)) (nd : (R :: b :: ca :: rest.map (·.1)).Nodup)
    (hcl : cl'.lookup (Str.ofString "reel") = some ca) (hd : oca.data = .cell (some (.ref R))) (hbR : @LT.lt Nat _ b R) (hi : IntsAre vs ms) (hl : ms.length ≤ 63) (h0 : 0 ≤ k0) (h1 : k0 < 1000)
    (g1 : (compEnvC scope cl' C (en d K)).scope.kind = .function) (g2 : (compEnvC scope cl' C (en d K)).kindOf (Str.ofString "_law_take") = some .globalImplicit) (g3 : (compEnvC scope cl' C (en d K)).kindOf (Str.ofString "reel") = some .free ∨ (compEnvC scope cl' C (en d K)).kindOf (Str.ofString "reel") = some .cell) :
    wpAny (model PP w) (d.A K) (eval (.Call (.Name (Str.ofString "_law_take") p1) [.Name (Str.ofString "reel") p2, .Constant (.int 256) j p3] [] p4) (compEnvC scope cl' C (en d K)))
      (LCg.CompEnd d.g d.L m s I oI C oC D (LCg.lst ys) (fun _ => True) (TakeEnd R b (W.listOf vs.toArray nl) ((ca, oca) :: rest) k0)) E' s := by
  refine Call_ (LCgL.ld_global F d.X d.T (gl_take w) ?_ rfl g1 g2) rfl
  refine callWith_K d.X (kp_take w) ?_
  have reel : ∀ {Q : Value → Shared → Prop}, Q (.ref R) s → wpAny (model PP w) (d.A K) (eval (.Name (Str.ofString "reel") p2) (compEnvC scope cl' C (en d K))) Q E' s := fun h => by
    rcases g3 with g3 | g3
    · exact lcf_free (o := oca) N hcl (by simp) hd h g1 g3
    · exact lcf_cell (o := oca) N hcl (by simp) hd h g1 g3
  refine PyProof.Rows.args_cons (reel ?_)
  refine PyProof.Rows.args_cons (wpAny_Constant_int ?_)
  refine PyProof.Rows.args_nil ⟨d.X.keeps F.keep, ?_⟩
  have n1 := List.nodup_cons.mp nd
  have n2 := List.nodup_cons.mp n1.2
  have n3 := List.nodup_cons.mp n2.2
  have hRb : R ≠ b := fun e => n1.1 (e ▸ .head _)
  have N' : News d.g d.L s.heap ((R, W.listOf #[.int k0 t0, .ref b] nn) :: (b, W.listOf vs.toArray nl) :: (I, oI) :: (C, oC) :: (D, LCg.lst ys) :: (ca, oca) :: rest) := fun p hp => N p (by
    simp only [List.mem_cons] at hp ⊢
    rcases hp with h | h | h | h | h | h | h <;> simp [h])
  have h2 := d.hd
  have h3 := d.hu
  refine use_W (take_W w (t := t0) (n := nn) (nl := nl) ⟨hbR, hi, hl, h0, h1, by decide⟩) (nd_cons (all_cons hRb all_nil) (nd_cons all_nil nd_nil)) (.cons .v (.cons .i .nil)) (s := { s with toks := s.toks + 1 }) (news := (R, W.listOf #[.int k0 t0, .ref b] nn) :: (b, W.listOf vs.toArray nl) :: (I, oI) :: (C, oC) :: (D, LCg.lst ys) :: (ca, oca) :: rest) (rest := (I, oI) :: (C, oC) :: (D, LCg.lst ys) :: (ca, oca) :: rest)
    d.B F d.X N' d.T K.hk ?_ ?_ (by omega) (by omega) ?_
  · intro p hp
    simp only [List.mem_cons, List.not_mem_nil, or_false] at hp ⊢
    rcases hp with h | h <;> simp [h]
  · refine .drop (.head _) (.drop (.tail _ (.head _)) (Apart.all fun p hp a ha => ?_))
    have o1 := off.1
    have o2 := off.2.1
    simp only [List.map_cons, List.map_nil, List.mem_cons, List.not_mem_nil, or_false] at hp ha
    rcases ha with rfl | rfl
    · rcases hp with rfl | rfl | rfl | rfl | hp
      · exact o1.1.symm
      · exact o1.2.1.symm
      · exact o1.2.2.symm
      · exact fun e => n1.1 (by rw [← e]; simp)
      · exact fun e => n1.1 (by rw [← e]; exact .tail _ (.tail _ (List.mem_map_of_mem (f := (·.1)) hp)))
    · rcases hp with rfl | rfl | rfl | rfl | hp
      · exact o2.1.symm
      · exact o2.2.1.symm
      · exact o2.2.2.symm
      · exact fun e => n2.1 (by rw [← e]; simp)
      · exact fun e => n2.1 (by rw [← e]; exact .tail _ (List.mem_map_of_mem (f := (·.1)) hp))
  · intro x u t' n' x0 x1 h' tk' Fh Nh
    refine ⟨h', tk', (R, W.listOf #[.int (k0 + 1) t', .ref b] n') :: (b, W.listOf vs.toArray nl) :: (ca, oca) :: rest, rfl, Fh, fun p hp => Nh p ?_, ?_, trivial, x, u, k0 + 1, t', n', rfl, rfl, rfl, x0, x1⟩
    · simp only [List.mem_cons, List.mem_append, List.not_mem_nil, or_false] at hp ⊢
      rcases hp with h | h | h | h | h | h | h <;> simp [h]
    · exact ⟨off.1, off.2.1, off.2.2.1, off.2.2.2⟩
theorem ca_nodup {D R b ca : Addr} {o1 o2 o3 oD : Obj} {rest : Led} (o : LCg.Off1 D ((R, o1) :: (b, o2) :: (ca, o3) :: rest)) (nd : (R :: b :: ca :: rest.map (·.1)).Nodup) {o1' : Obj} : (((D, oD) :: (R, o1') :: (b, o2) :: (ca, o3) :: rest : Led).map (·.1)).Nodup :=
  List.nodup_cons.mpr ⟨fun hm => by
    simp only [List.map_cons, List.mem_cons] at hm
    rcases hm with h | h | h | h
    · exact o.1 h.symm
    · exact o.2.1 h.symm
    · exact o.2.2.1 h.symm
    · obtain ⟨p, hp, e⟩ := List.mem_map.mp h
      exact ne_off1 o.2.2.2 (o := p.2) hp e, nd⟩
theorem W.compE {x : Str} {px pos pc p1 p2 p3 p4 : Pos} {j : Nat} {f e : Expr} {n : Nat} {scope : Scope} {cl' : List (Str × Addr)} {R b ca : Addr} {oca : Obj} {vs : List Value} {ms : List Int} {k0 : Int} {t0 : Tok} {nn nl : Nat} {rest : Led} {Q : Value → Loc → Led → Prop}
    (hk4 : 4 ≤ k) (hclos : closureFor scope (en d K) = pure cl') (hcell : ∀ y ∈ scope.names, y.2 ≠ .cell) (hkind : scope.kind = .function) (hnames : ∀ y ∈ scope.names, y.2 = .local → scope.names.lookup y.1 = some .local) (hx : scope.names.lookup x = some .local)
    (hfs : ∀ v, foldedSetIterable (.Call f [e] [] pc) (en d K) v = pure v) (hf : Ev d K l led f (.v (.type "range"))) (ha : Ev d K l led e (.i (n : Int)))
    (he : starEach [e] (en d K) = (false, eval e (en d K)) :: starEach [] (en d K)) (hplain : (backTo pc (starEach [] (en d K))).any (·.1) = false)
    (hc : eval (.Call f [e] [] pc) (en d K) = (do callWith pc (← eval f (en d K)) [] (backTo pc (starEach [e] (en d K))) (backToKw pc (keywordEach [] (en d K)))))
    (h1 : Builtin.Range.small 0 n 1 = true) (h2 : Builtin.Range.rangeSize 0 n 1 = (n : Int)) (h3 : n ≤ sizeLine)
    (sel : Sel led [(R, W.listOf #[.int k0 t0, .ref b] nn), (b, W.listOf vs.toArray nl), (ca, oca)] rest)
    (hcl : cl'.lookup (Str.ofString "reel") = some ca) (hd : oca.data = .cell (some (.ref R))) (hbR : @LT.lt Nat _ b R) (hi : IntsAre vs ms) (hl : ms.length ≤ 63) (k1 : 0 ≤ k0) (k2 : k0 + n < 1000)
    (g1 : ∀ C, (compEnvC scope cl' C (en d K)).scope.kind = .function) (g2 : ∀ C, (compEnvC scope cl' C (en d K)).kindOf (Str.ofString "_law_take") = some .globalImplicit) (g3 : ∀ C, (compEnvC scope cl' C (en d K)).kindOf (Str.ofString "reel") = some .free ∨ (compEnvC scope cl' C (en d K)).kindOf (Str.ofString "reel") = some .cell)
    (h : ∀ D ys zs t' nn', IntsAre ys zs → zs.length = n → (∀ z ∈ zs, 0 ≤ z ∧ z < 256) → Q (.ref D) l ((D, LCg.lst ys) :: (R, W.listOf #[.int (k0 + n) t', .ref b] nn') :: (b, W.listOf vs.toArray nl) :: (ca, oca) :: rest)) :
    W d K l led (eval (.ListComp (.Call (.Name (Str.ofString "_law_take") p1) [.Name (Str.ofString "reel") p2, .Constant (.int 256) j p3] [] p4) [⟨.Name x px, .Call f [e] [] pc, [], 0⟩] scope pos) (en d K)) Q := by
  intro s E Q' hs hq
  refine LCg.ListComp_U (h₀ := d.g) (L := d.L) hs.1 hclos hcell hkind hnames hx ?_ hfs
  refine Call_ (hf _ _ _ hs fun v s1 hv hs1 => ?_) hc
  cases hv
  refine PyProof.Rows.callWith_type1 (PyProof.Rows.args_cons (ha _ _ _ hs1 fun v s2 hv hs2 => PyProof.Rows.args_nil ?_) he) he hplain
  cases hv
  have hs2' := hs2.perm sel.perm
  have nd : (R :: b :: ca :: rest.map (·.1)).Nodup := hs2'.2.2.1
  refine range1_rows hs2'.1 hs2'.2.1 fun h' tk t₁ u₁ v₁ hr F N _ => ?_
  have n1 := List.nodup_cons.mp nd
  have n2 := List.nodup_cons.mp n1.2
  refine comp_take (n := n) (k0 := k0) (t0 := t0) (nn0 := nn) (lobj := W.listOf vs.toArray nl) (rest := (ca, oca) :: rest) (R := R) (l := b) rfl F N hr h1 h2 h3 (.head _) (.tail _ (.head _))
    (.drop (.head _) (.drop (.tail _ (.head _)) (Apart.all fun p hp a ha e => ?_))) (fun i ys zs kk tk0 nn' hin hkk hI v I oI C oC D m₂ hh tkk E' hC hx' Fh Nh off ne => turn_take hk4 Fh Nh off nd hcl hd hbR hi hl (by omega) (by omega) (g1 C) (g2 C) (g3 C))
    (fun g ys zs kk t' nn' hI hlen hb hkk => fun D hh tkk Fh Nh o1 => hq _ _ _ _ (h D ys zs t' nn' hI hlen hb) (by subst hkk; exact hs2.put Fh Nh (ca_nodup o1 nd)))
  simp only [List.map_cons, List.map_nil, List.mem_cons, List.not_mem_nil, or_false] at ha
  have hp' : p.1 ∈ ca :: rest.map (·.1) := by
    rcases List.mem_cons.mp hp with rfl | hp
    · exact .head _
    · exact .tail _ (List.mem_map_of_mem (f := (·.1)) hp)
  rcases ha with rfl | rfl
  · exact n1.1 (.tail _ (e ▸ hp'))
  · exact n2.1 (e ▸ hp')
theorem W.compA {x : Str} {px pos pc p1 p2 p3 p4 : Pos} {j : Nat} {f e : Expr} {n : Nat} {scope : Scope} {cl' : List (Str × Addr)} {R b ca : Addr} {oca : Obj} {vs : List Value} {ms : List Int} {k0 : Int} {t0 : Tok} {nn nl : Nat} {rest : Led} {y : Str} {py spos : Pos} {Q : Flow → Loc → Led → Prop}
    (hk4 : 4 ≤ k) (hclos : closureFor scope (en d K) = pure cl') (hcell : ∀ y ∈ scope.names, y.2 ≠ .cell) (hkind : scope.kind = .function) (hnames : ∀ y ∈ scope.names, y.2 = .local → scope.names.lookup y.1 = some .local) (hx : scope.names.lookup x = some .local)
    (hsw : swapsWith (.ListComp (.Call (.Name (Str.ofString "_law_take") p1) [.Name (Str.ofString "reel") p2, .Constant (.int 256) j p3] [] p4) [⟨.Name x px, .Call f [e] [] pc, [], 0⟩] scope pos) (some (.Name y py)) spos.line (en d K) = pure true) (hy : (en d K).kindOf y = some .local) (hp : ((en d K).scope.kind == .class || ((en d K).scope.kind == .module && (en d K).locals != (en d K).globals)) = false)
    (hfs : ∀ v, foldedSetIterable (.Call f [e] [] pc) (en d K) v = pure v) (hf : Ev d K l led f (.v (.type "range"))) (ha : Ev d K l led e (.i (n : Int)))
    (he : starEach [e] (en d K) = (false, eval e (en d K)) :: starEach [] (en d K)) (hplain : (backTo pc (starEach [] (en d K))).any (·.1) = false)
    (hc : eval (.Call f [e] [] pc) (en d K) = (do callWith pc (← eval f (en d K)) [] (backTo pc (starEach [e] (en d K))) (backToKw pc (keywordEach [] (en d K)))))
    (h1 : Builtin.Range.small 0 n 1 = true) (h2 : Builtin.Range.rangeSize 0 n 1 = (n : Int)) (h3 : n ≤ sizeLine)
    (sel : Sel led [(R, W.listOf #[.int k0 t0, .ref b] nn), (b, W.listOf vs.toArray nl), (ca, oca)] rest)
    (hcl : cl'.lookup (Str.ofString "reel") = some ca) (hd : oca.data = .cell (some (.ref R))) (hbR : @LT.lt Nat _ b R) (hi : IntsAre vs ms) (hl : ms.length ≤ 63) (k1 : 0 ≤ k0) (k2 : k0 + n < 1000)
    (g1 : ∀ C, (compEnvC scope cl' C (en d K)).scope.kind = .function) (g2 : ∀ C, (compEnvC scope cl' C (en d K)).kindOf (Str.ofString "_law_take") = some .globalImplicit) (g3 : ∀ C, (compEnvC scope cl' C (en d K)).kindOf (Str.ofString "reel") = some .free ∨ (compEnvC scope cl' C (en d K)).kindOf (Str.ofString "reel") = some .cell)
    (h : ∀ D ys zs t' nn', IntsAre ys zs → zs.length = n → (∀ z ∈ zs, 0 ≤ z ∧ z < 256) → ∃ l', SetL y (.ref D) l l' ∧ Q .next l' ((D, LCg.lst ys) :: (R, W.listOf #[.int (k0 + n) t', .ref b] nn') :: (b, W.listOf vs.toArray nl) :: (ca, oca) :: rest)) :
    W d K l led (exec (.Assign [.Name y py] (.ListComp (.Call (.Name (Str.ofString "_law_take") p1) [.Name (Str.ofString "reel") p2, .Constant (.int 256) j p3] [] p4) [⟨.Name x px, .Call f [e] [] pc, [], 0⟩] scope pos) spos) (en d K)) Q := by
  intro s E Q' hs hq
  refine LCg.Assign_ListComp_U (h₀ := d.g) (L := d.L) hs.1 rfl hsw hclos hcell hkind hnames hx hy hp ?_ hfs
  refine Call_ (hf _ _ _ hs fun v s1 hv hs1 => ?_) hc
  cases hv
  refine PyProof.Rows.callWith_type1 (PyProof.Rows.args_cons (ha _ _ _ hs1 fun v s2 hv hs2 => PyProof.Rows.args_nil ?_) he) he hplain
  cases hv
  have hs2' := hs2.perm sel.perm
  have nd : (R :: b :: ca :: rest.map (·.1)).Nodup := hs2'.2.2.1
  refine range1_rows hs2'.1 hs2'.2.1 fun h' tk t₁ u₁ v₁ hr F N _ => ?_
  have n1 := List.nodup_cons.mp nd
  have n2 := List.nodup_cons.mp n1.2
  refine comp_take (n := n) (k0 := k0) (t0 := t0) (nn0 := nn) (lobj := W.listOf vs.toArray nl) (rest := (ca, oca) :: rest) (R := R) (l := b) rfl F N hr h1 h2 h3 (.head _) (.tail _ (.head _))
    (.drop (.head _) (.drop (.tail _ (.head _)) (Apart.all fun p hp a ha e => ?_))) (fun i ys zs kk tk0 nn' hin hkk hI v I oI C oC D m₂ hh tkk E' hC hx' Fh Nh off ne => turn_take hk4 Fh Nh off nd hcl hd hbR hi hl (by omega) (by omega) (g1 C) (g2 C) (g3 C))
    (fun g ys zs kk t' nn' hI hlen hb hkk => fun D hh tkk Fh Nh o1 => by
      obtain ⟨l', hl', hQ⟩ := h D ys zs t' nn' hI hlen hb
      subst hkk
      exact hq _ _ _ _ hQ (hs2.put (by rw [hl'.look]; exact Fh) Nh (ca_nodup o1 nd)))
  simp only [List.map_cons, List.map_nil, List.mem_cons, List.not_mem_nil, or_false] at ha
  have hp' : p.1 ∈ ca :: rest.map (·.1) := by
    rcases List.mem_cons.mp hp with rfl | hp
    · exact .head _
    · exact .tail _ (List.mem_map_of_mem (f := (·.1)) hp)
  rcases ha with rfl | rfl
  · exact n1.1 (.tail _ (e ▸ hp'))
  · exact n2.1 (e ▸ hp')

theorem W.sub {a b : Expr} {pos : Pos} {Q : Value → Loc → Led → Prop} (h : W d K l led (eval a (en d K)) fun o l led => W d K l led (eval b (en d K)) fun i l led => W d K l led (subscriptTail a b o i) Q) : W d K l led (eval (.Subscript a b pos) (en d K)) Q :=
  fun s E Q' hs hq => Subscript_ (h _ _ _ hs fun o l led s' ho hs' => ho _ _ _ hs' fun i l led s' hi hs' => hi _ _ _ hs' hq)
theorem W.noneItem {value slice : Expr} {D : Addr} {n : Nat} {i a b c : Int} {u ta tb tc td te : Tok} {Q : Value → Loc → Led → Prop} (hm : (D, W.listOf #[.int a ta, .int (192 + b) tb, .int (128 + c) tc, .int 119 td, .int 127 te] n) ∈ led) (h0 : 0 ≤ i) (h5 : i < 5) (a0 : 0 ≤ a) (a1 : a < 64) (b0 : 0 ≤ b) (b1 : b < 64) (c0 : 0 ≤ c) (c1 : c < 32)
    (hs' : subscripted slice false (.ref D) (.int i u) = operate [.ref D, .int i u] (getItem (.ref D) (.int i u)))
    (h : ∀ x t, ((0 ≤ x ∧ x < 64) ∨ (192 ≤ x ∧ x < 256) ∨ (128 ≤ x ∧ x < 160) ∨ x = 119 ∨ x = 127) → Q (.int x t) l led) : W d K l led (subscriptTail value slice (.ref D) (.int i u)) Q :=
  fun s E Q' hs hq => none_item hs.2.1 hm h0 h5 a0 a1 b0 b1 c0 c1 (fun x t hx => hq _ _ _ _ (h x t hx) hs) hs'
theorem W.tnot {x : Expr} {pos : Pos} {whole : Sem Value} {Q : Bool → Loc → Led → Prop} (h : W d K l led (isTrue x (en d K) (eval x (en d K))) fun c => Q (!c)) : W d K l led (isTrue (.UnaryOp .Not x pos) (en d K) whole) Q :=
  fun s E Q' hs hq => isTrue_not (h _ _ _ hs fun c l led s' hc hs' => hq _ _ _ _ hc hs')
theorem W.tplain {e : Expr} {whole : Sem Value} {Q : Bool → Loc → Led → Prop} (he : isTrue e (en d K) whole = (do let v ← whole; standAt e.pos; holding [v] (truthy v))) (h : W d K l led whole fun v l led => W d K l led (truthy v) Q) : W d K l led (isTrue e (en d K) whole) Q :=
  fun s E Q' hs hq => isTrue_plain (h _ _ _ hs fun v l led s' hv hs' => hv _ _ _ hs' hq) he
end
end

section
theorem getD_b {ms : List Int} {i : Nat} (hb : ∀ j : Nat, 0 ≤ ms.getD j 0 ∧ ms.getD j 0 < 256) : 0 ≤ ms.getD i 0 ∧ ms.getD i 0 < 256 := hb i
theorem getD_small {ms : List Int} {i : Nat} (hb : ∀ j : Nat, 0 ≤ ms.getD j 0 ∧ ms.getD j 0 < 256) : (ms.getD i 0).natAbs < 2 ^ 64 := by
  have h := hb i
  omega
local macro_rules | `(tactic| wtm_at "W mem") => `(tactic| first | exact List.Mem.head _ | (refine' List.Mem.tail _ ?_; wtm_at "W mem"))
local macro_rules | `(tactic| wtm_at "W setl") => `(tactic| first | exact SetL.here | exact SetL.nil | (refine' SetL.there ?a9 ?b9; (case a9 => decide); (case b9 => wtm_at "W setl")))
local macro_rules | `(tactic| wtm_at "W up") => `(tactic| first | exact UpL.here | (refine' UpL.there ?a9; (case a9 => wtm_at "W up")))
local macro_rules | `(tactic| wtm_at "W del") => `(tactic| first | exact Del.here | (refine' Del.there ?a9; (case a9 => wtm_at "W del")))
local macro_rules | `(tactic| wtm_at "W sel") => `(tactic| first | exact Sel.nil | (refine' Sel.cons ?a9 ?b9; (case a9 => wtm_at "W del"); (case b9 => wtm_at "W sel")))
local macro_rules | `(tactic| wtm_at "W as") => `(tactic| first | assumption | exact ArgsAre.nil | (refine' ArgsAre.cons ?a9 ?b9; (case a9 => first | exact AIs.i | exact AIs.v); (case b9 => wtm_at "W as")))
local macro_rules | `(tactic| wtm_at "W gi") => `(tactic| with_reducible first | exact gl_REG_B _ | exact gl_REG_C _ | exact gl_REG_F _ | exact gl_REG_A _ | exact gl_S _ | exact gl_Z _ | exact gl_Y _ | exact gl_H _ | exact gl_X _ | exact gl_PV _ | exact gl_N _ | exact gl_C _ | exact gl_YX _ | exact gl_BC _ | exact gl_DE _ | exact gl_HL _ | exact gl_NOTHING _ | exact gl_STATES_OF_NONE _)
local macro_rules | `(tactic| wtm_at "W gr") => `(tactic| with_reducible first | wtm_at "W grx" | exact gl_cpu_row _ | exact gl_pair _ | exact gl_set_pair _ | exact gl_peek _ | exact gl_poke _ | exact gl_peek16 _ | exact gl_poke16 _ | exact gl_fetch _ | exact gl_fetch16 _ | exact gl_parity _ | exact gl_szyx _ | exact gl_sub8 _ | exact gl_neg _ | exact gl_high_flags _ | exact gl_word_flags _ | exact gl_adc16 _ | exact gl_sbc16 _ | exact gl_rrd _ | exact gl_rld _ | exact gl_load_flags _ | exact gl_do_ed _ | exact gl_add_words _ | exact gl_load_words _ | exact gl_do_special _ | exact gl_MODES _ | exact gl_STATES_BY_Z _)
local macro_rules | `(tactic| wtm_at "W keep") => `(tactic| with_reducible first | wtm_at "W keepx" | exact kp_cpu_row _ | exact kp_pair _ | exact kp_set_pair _ | exact kp_peek _ | exact kp_poke _ | exact kp_peek16 _ | exact kp_poke16 _ | exact kp_fetch _ | exact kp_fetch16 _ | exact kp_parity _ | exact kp_szyx _ | exact kp_sub8 _ | exact kp_neg _ | exact kp_high_flags _ | exact kp_word_flags _ | exact kp_adc16 _ | exact kp_sbc16 _ | exact kp_rrd _ | exact kp_rld _ | exact kp_load_flags _ | exact kp_do_ed _ | exact kp_add_words _ | exact kp_load_words _ | exact kp_do_special _)
local macro_rules | `(tactic| wtm_at "W dec") => `(tactic| first | rfl | decide | wtm_at "W decx" | (simp only [beq_iff_eq, bne_iff_ne, ne_eq, decide_eq_true_eq, beq_eq_false_iff_ne, bne_eq_false_iff_eq, decide_eq_false_iff_not, fdiv_6, fdiv_3, bitAnd_m3] <;> omega))
local macro_rules | `(tactic| wtm_at "W get") => `(tactic| with_reducible first | wtm_at "W getx" | exact get_r _ | exact get_sp _ | exact get_pc _ | exact get_i _ | exact get_ref _ | exact get_iff2 _ | exact get_mode _)
local macro_rules | `(tactic| wtm_at "W gc") => `(tactic| with_reducible first | wtm_at "W gcx" | exact gc_r _ | exact gc_sp _ rfl | exact gc_pc _ rfl | exact gc_i _ rfl | exact gc_ref _ rfl | exact gc_iff2 _ rfl | exact gc_mode _ rfl)
local macro_rules | `(tactic| wtm_at "W put") => `(tactic| with_reducible first | wtm_at "W putx" | exact put_pc _ | exact put_sp _ | exact put_i _ | exact put_ref _ | exact put_mode _)
local macro_rules | `(tactic| wtm_at "W pc") => `(tactic| with_reducible first | wtm_at "W pcx" | exact pc_pc _ | exact pc_sp _ | exact pc_i _ | exact pc_ref _ | exact pc_mode _)
local macro_rules | `(tactic| wtm_at "W it") => `(tactic| first | exact ir_0 | exact ir_1 | exact ir_2 | exact ir_3 | exact ir_4 | exact ir_5 | exact ir_6 | exact ir_7)
local macro_rules | `(tactic| wtm_at "W pi") => `(tactic| first | wtm_at "W pix" | exact pr_0 | exact pr_1 | exact pr_2 | exact pr_3 | exact pr_4 | exact pr_5 | exact pr_6 | exact pr_7)
local macro_rules | `(tactic| wtm_at "W ev") => `(tactic| first | (with_reducible exact Ev.int) | ((with_reducible refine' Ev.nameI ?x9 ?y9 ?z9); (case x9 => exact rfl); (case y9 => exact rfl); (case z9 => exact rfl)) | ((with_reducible refine' Ev.name ?x9 ?y9 ?z9); (case x9 => exact rfl); (case y9 => exact rfl); (case z9 => exact rfl)) | ((with_reducible refine' Ev.globI ?x9 ?y9 ?z9); (case x9 => wtm_at "W gi"); (case y9 => exact rfl); (case z9 => exact rfl)) | ((with_reducible refine' Ev.glob ?x9 ?y9 ?z9); (case x9 => wtm_at "W gr"); (case y9 => exact rfl); (case z9 => exact rfl)) | ((with_reducible refine' Ev.and ?a9 ?b9); (case a9 => wtm_at "W ev"); (case b9 => wtm_at "W ev")) | ((with_reducible refine' Ev.or ?a9 ?b9); (case a9 => wtm_at "W ev"); (case b9 => wtm_at "W ev")) | ((with_reducible refine' Ev.xor ?a9 ?b9); (case a9 => wtm_at "W ev"); (case b9 => wtm_at "W ev")) | ((with_reducible refine' Ev.add ?a9 ?b9); (case a9 => wtm_at "W ev"); (case b9 => wtm_at "W ev")) | ((with_reducible refine' Ev.sub ?a9 ?b9); (case a9 => wtm_at "W ev"); (case b9 => wtm_at "W ev")) | ((with_reducible refine' Ev.shr ?c9 ?a9 ?b9); (case a9 => wtm_at "W ev"); (case b9 => wtm_at "W ev"); (case c9 => decide)) | ((with_reducible refine' Ev.shl ?c9 ?d9 ?e9 ?a9 ?b9); (case a9 => wtm_at "W ev"); (case b9 => wtm_at "W ev"); (case c9 => decide); (case d9 => decide); (case e9 => wtm_at "W shl")) | ((with_reducible refine' Ev.mul ?c9 ?a9 ?b9); (case a9 => wtm_at "W ev"); (case b9 => wtm_at "W ev"); (case c9 => mul_fits)) | ((with_reducible refine' Ev.mod ?c9 ?a9 ?b9); (case a9 => wtm_at "W ev"); (case b9 => wtm_at "W ev"); (case c9 => decide)) | ((with_reducible refine' Ev.fdiv ?c9 ?d9 ?a9 ?b9); (case a9 => wtm_at "W ev"); (case b9 => wtm_at "W ev"); (case c9 => decide); (case d9 => exact PyProof.noPylong_of_log2 (by decide +kernel))) | ((with_reducible refine' Ev.attrI ?o9 ?x9 ?m9 ?n9 ?g9); (case o9 => wtm_at "W get"); (case x9 => wtm_at "W ev"); (case m9 => wtm_at "W mem"); (case n9 => wtm_at "W mem"); (case g9 => wtm_at "W gc")) | ((with_reducible refine' Ev.attr ?o9 ?x9 ?m9 ?n9 ?g9); (case o9 => wtm_at "W get"); (case x9 => wtm_at "W ev"); (case m9 => wtm_at "W mem"); (case n9 => wtm_at "W mem"); (case g9 => wtm_at "W gc")) | ((with_reducible refine' Ev.cmpEq ?a9 ?b9 ?m9 ?c9); (case a9 => wtm_at "W ev"); (case b9 => wtm_at "W ev"); (case m9 => with_unfolding_all rfl); (case c9 => wtm_at "W dec")) | wtm_at "W evx" | ((with_reducible refine' Ev.itemI ?a9 ?b9 ?m9 ?v9 ?s9); (case a9 => wtm_at "W ev"); (case b9 => wtm_at "W ev"); (case m9 => wtm_at "W mem"); (case v9 => wtm_at "W it"); (case s9 => exact fun _ => by with_unfolding_all rfl)) | ((with_reducible refine' Ev.topItemI ?a9 ?b9 ?c9 ?d9 ?e9 ?f9 ?s9); (case a9 => wtm_at "W ev"); (case b9 => wtm_at "W ev"); (case c9 => k_is); (case d9 => decide); (case e9 => decide); (case f9 => exact rfl); (case s9 => exact fun _ => by with_unfolding_all rfl)) | ((with_reducible refine' Ev.ifT ?t9 ?a9); (case t9 => wtm_at "W tv"); (case a9 => wtm_at "W ev")) | ((with_reducible refine' Ev.ifF ?t9 ?a9); (case t9 => wtm_at "W tv"); (case a9 => wtm_at "W ev")) | ((with_reducible refine' Ev.ifB ?t9 ?a9 ?b9); (case t9 => wtm_at "W tv"); (case a9 => wtm_at "W ev"); (case b9 => wtm_at "W ev")))
local macro_rules | `(tactic| wtm_at "W shl") => `(tactic| first | decide | omega | exact shl_and15 _ | exact getD_small (by assumption))
local macro_rules | `(tactic| wtm_at "W tv") => `(tactic| first | ((with_reducible refine' Tv.eq ?a9 ?b9 ?m9 ?c9); (case a9 => wtm_at "W ev"); (case b9 => wtm_at "W ev"); (case m9 => with_unfolding_all rfl); (case c9 => wtm_at "W dec")) | ((with_reducible refine' Tv.ne ?a9 ?b9 ?m9 ?c9); (case a9 => wtm_at "W ev"); (case b9 => wtm_at "W ev"); (case m9 => with_unfolding_all rfl); (case c9 => wtm_at "W dec")) | ((with_reducible refine' Tv.lt ?a9 ?b9 ?m9 ?c9); (case a9 => wtm_at "W ev"); (case b9 => wtm_at "W ev"); (case m9 => with_unfolding_all rfl); (case c9 => wtm_at "W dec")) | ((with_reducible refine' Tv.gt ?a9 ?b9 ?m9 ?c9); (case a9 => wtm_at "W ev"); (case b9 => wtm_at "W ev"); (case m9 => with_unfolding_all rfl); (case c9 => wtm_at "W dec")) | ((with_reducible refine' Tv.andF ?a9); (case a9 => wtm_at "W tv")) | ((with_reducible refine' Tv.andT ?a9 ?b9); (case a9 => wtm_at "W tv"); (case b9 => wtm_at "W tv")) | ((with_reducible refine' Tv.and1 ?a9); (case a9 => wtm_at "W tv")) | wtm_at "W tvx" | ((with_reducible refine' Tv.num ?a9 ?b9 ?c9); (case a9 => wtm_at "W ev"); (case b9 => rfl); (case c9 => wtm_at "W dec")))
local macro_rules | `(tactic| wtm_at "W evs") => `(tactic| first | (with_reducible exact Evs.nil) | ((with_reducible refine' Evs.cons ?a9 ?b9 ?c9); (case a9 => wtm_at "W ev"); (case c9 => rfl); (case b9 => wtm_at "W evs")))
local macro_rules | `(tactic| wtm_at "W side") => `(tactic| first | assumption | wtm_at "W sidex" | exact getD_b (by assumption) | exact ⟨by wtm_at "W side", by wtm_at "W side"⟩ | omega | exact ints_set (by assumption) _ | ((simp only [List.length_set]); assumption) | ((simp only [bitAnd_m1]); omega))
local macro_rules | `(tactic| wtm_at "W step") => `(tactic| first | (with_reducible refine' W.cons ?_) | (with_reducible refine' Then.next ?_) | (with_reducible refine' Then.ret ?_) | (with_reducible refine' W.nil ?_) | ((with_reducible refine' W.ifT ?t9 ?_); (case t9 => wtm_at "W tv")) | ((with_reducible refine' W.ifF ?t9 ?_); (case t9 => wtm_at "W tv")) | (with_reducible refine' W.ret ?_) | ((with_reducible refine' W.asg ?s9 ?_); (case s9 => rfl)) | wtm_at "W stepa" | ((with_reducible refine' W.assignSub ?s9 ?_); (case s9 => rfl)) | ((with_reducible refine' W.assignAttr ?s9 ?_); (case s9 => rfl)) | ((with_reducible refine' W.tupSwap ?s9 ?r9 ?_); (case s9 => rfl); (case r9 => exact rfl)) | ((with_reducible refine' W.tupAss ?s9 ?r9 ?u9 ?_); (case s9 => rfl); (case r9 => rfl); (case u9 => rfl)) | ((with_reducible refine' W.assignTup ?s9 ?r9 ?_); (case s9 => rfl); (case r9 => rfl)) | ((with_reducible refine' W.exprR ?s9 ?r9 ?_); (case s9 => rfl); (case r9 => rfl)) | wtm_at "W stepx" | wtm_at "W stepy" | wtm_at "W stepe" | wtm_at "W stepc" | wtm_at "W stept")
local macro_rules | `(tactic| wtm_at "W stepe") => `(tactic| first | ((with_reducible refine' W.store ?k9 ?s9 ?_); (case k9 => rfl); (case s9 => wtm_at "W setl")) | ((with_reducible refine' W.evI ?e9 ?_); (case e9 => wtm_at "W ev"); intro t9) | ((with_reducible refine' W.ev ?e9 ?_); (case e9 => wtm_at "W ev")) | (with_reducible refine' W.bin ?_) | ((with_reducible refine' W.opOr ?_); intro t9) | ((with_reducible refine' W.opShl ?a9 ?b9 ?c9 ?_); (case a9 => decide); (case b9 => decide); (case c9 => wtm_at "W shl"); intro t9) | ((with_reducible refine' W.calleeP ?f9 ?k9 ?a9 ?b9 ?c9 ?e9 ?_); (case f9 => wtm_at "W ev"); (case k9 => wtm_at "W keep"); (case a9 => rfl); (case b9 => rfl); (case c9 => rfl); (case e9 => wtm_at "W evs"); intro vs9 hvs9) | ((with_reducible refine' W.callee ?f9 ?k9 ?a9 ?b9 ?c9 ?_); (case f9 => wtm_at "W ev"); (case k9 => wtm_at "W keep"); (case a9 => rfl); (case b9 => rfl); (case c9 => rfl)) | (with_reducible refine' W.args_nil ?_) | ((with_reducible refine' W.args_cons ?a9 ?_); (case a9 => rfl)))
local macro_rules | `(tactic| wtm_at "W stepc") => `(tactic| ((with_reducible refine' W.does ?D9 ?hk9 ?ha9 ?sel9 ?h9); (case ha9 => wtm_at "W as"); (case' D9 => wtm_at "W con"); (case hk9 => decide); (case sel9 => wtm_at "W sel"); (try (case hc => wtm_at "W side")); (try (case D9 => wtm_at "W side")); (case' h9 => (intros; (try dsimp only [List.cons_append, List.nil_append])))))
local macro_rules | `(tactic| wtm_at "W stept") => `(tactic| first | (with_reducible refine' W.tuple ?_) | ((with_reducible refine' W.unpackD ?n9 ?s9 ?_); (case n9 => rfl); (case s9 => rfl)) | ((with_reducible refine' W.unpack ?m9 ?n9 ?s9 ?_); (case m9 => wtm_at "W mem"); (case n9 => rfl); (case s9 => rfl)) | ((with_reducible refine' W.ordE_cons ?e9 ?_); (case e9 => rfl)) | (with_reducible refine' W.ordE_nil ?_) | ((with_reducible show W _ _ _ _ (assignInOrder _ _) _); first | (refine' W.swap2 ?_) | (refine' W.swap3 ?_)) | (with_reducible refine' W.assName ?_) | (with_reducible refine' W.assSub ?_) | (with_reducible refine' W.assAttr ?_) | ((with_reducible refine' W.putItem ?m9 ?p9 ?u9 ?_); (case m9 => wtm_at "W mem"); (case p9 => wtm_at "W pi"); (case u9 => wtm_at "W up")) | ((with_reducible refine' W.putAttr ?o9 ?m9 ?n9 ?p9 ?u9 ?_); (case o9 => wtm_at "W put"); (case m9 => wtm_at "W mem"); (case n9 => wtm_at "W mem"); (case p9 => wtm_at "W pc"); (case u9 => wtm_at "W up")) | ((with_reducible refine' And.intro ?v9 ?_); (case v9 => first | (exact fun _ h => nomatch h) | exact ⟨Nat.le_of_ble_eq_true rfl, by rfl⟩)) | ((with_reducible refine' And.intro ?v9 ?_); (case v9 => exact Nat.le_of_ble_eq_true rfl); intro tp9))
local macro_rules | `(tactic| wtm_at "W grx") => `(tactic| fail)
local macro_rules | `(tactic| wtm_at "W keepx") => `(tactic| fail)
local macro_rules | `(tactic| wtm_at "W putx") => `(tactic| fail)
local macro_rules | `(tactic| wtm_at "W pcx") => `(tactic| fail)
local macro_rules | `(tactic| wtm_at "W stepy") => `(tactic| fail)
local macro_rules | `(tactic| wtm_at "W getx") => `(tactic| fail)
local macro_rules | `(tactic| wtm_at "W gcx") => `(tactic| fail)
local macro_rules | `(tactic| wtm_at "W stepx") => `(tactic| fail)
local macro_rules | `(tactic| wtm_at "W stepa") => `(tactic| fail)
local macro_rules | `(tactic| wtm_at "W evx") => `(tactic| fail)
local macro_rules | `(tactic| wtm_at "W tvx") => `(tactic| fail)
local macro_rules | `(tactic| wtm_at "W decx") => `(tactic| fail)
local macro_rules | `(tactic| wtm_at "W pix") => `(tactic| fail)
local macro_rules | `(tactic| wtm_at "W sidex") => `(tactic| fail)

theorem szyx_W (w : World) {x : Int} : DoesW w 2 154 [.i x] [] (fun R => ∀ y u, 0 ≤ y ∧ y < 256 ∧ y % 2 = 0 → R (.int y u) []) := by
  k_dflt (refine' does_ofW (fun τ => [(Str.ofString "v", .int x (τ 0))]) ?ho ?hcd ?hb ?hl ?c1 ?c2 ?c3 ?c4 ?h9; (case ho => k_is); (case hcd => k_is); (case hb => exact fun τ s => BindsTo.of_eq rfl); (case hl => exact fun τ => locs rfl); (case c1 => exact rfl); (case c2 => exact rfl); (case c3 => exact rfl); (case c4 => decide))
  intro d9 τ9
  repeat' wtm_at "W step"
  all_goals (refine End.mk ?_; intro R hR; refine' End.mk2 (hR _ _ ?f9) ?slf9; (case slf9 => wtm_at "W sel"); (case f9 => exact szyx_fact _ bif_or))

theorem high_W (w : World) {x y r : Int} : DoesW w 2 175 [.i x, .i y, .i r] [] (fun R => ∀ y u, 0 ≤ y ∧ y < 256 ∧ y % 2 = 0 → R (.int y u) []) := by
  k_dflt (refine' does_ofW (fun τ => [(Str.ofString "x", .int x (τ 0)), (Str.ofString "y", .int y (τ 1)), (Str.ofString "r", .int r (τ 2))]) ?ho ?hcd ?hb ?hl ?c1 ?c2 ?c3 ?c4 ?h9; (case ho => k_is); (case hcd => k_is); (case hb => exact fun τ s => BindsTo.of_eq rfl); (case hl => exact fun τ => locs rfl); (case c1 => exact rfl); (case c2 => exact rfl); (case c3 => exact rfl); (case c4 => decide))
  intro d9 τ9
  repeat' wtm_at "W step"
  all_goals (refine End.mk ?_; intro R hR; refine' End.mk2 (hR _ _ ?f9) ?slf9; (case slf9 => wtm_at "W sel"); (case f9 => exact high_fact _ _))

theorem word_W (w : World) {x : Int} : DoesW w 2 182 [.i x] [] (fun R => ∀ y u, 0 ≤ y ∧ y < 256 ∧ y % 2 = 0 → R (.int y u) []) := by
  k_dflt (refine' does_ofW (fun τ => [(Str.ofString "r", .int x (τ 0))]) ?ho ?hcd ?hb ?hl ?c1 ?c2 ?c3 ?c4 ?h9; (case ho => k_is); (case hcd => k_is); (case hb => exact fun τ s => BindsTo.of_eq rfl); (case hl => exact fun τ => locs rfl); (case c1 => exact rfl); (case c2 => exact rfl); (case c3 => exact rfl); (case c4 => decide))
  intro d9 τ9
  repeat' wtm_at "W step"
  all_goals (refine End.mk ?_; intro R hR; refine' End.mk2 (hR _ _ ?f9) ?slf9; (case slf9 => wtm_at "W sel"); (case f9 => exact word_fact _ bif_or))

theorem pair0_W (w : World) {c cd r sa : Addr} {q0 q1 q2 q3 q4 q5 q6 q7 q8 q9 q10 q11 q12 q13 : Tok} {ix iy sp pc vi vr f1 f2 vm b1 b2 st : Value} {r0 r1 r2 r3 r4 r5 r6 r7 : Int} {t0 t1 t2 t3 t4 t5 t6 t7 : Tok} {nr : Nat} (hc : (0 ≤ r0 ∧ r0 < 256) ∧ (0 ≤ r1 ∧ r1 < 256)) : DoesW w 2 70 [.v (.ref c), .i 0] [(c, instObj 31 cd), (cd, cpuD w q0 q1 q2 q3 q4 q5 q6 q7 q8 q9 q10 q11 q12 q13 r sa ix iy sp pc vi vr f1 f2 vm b1 b2 st), (r, regs r0 r1 r2 r3 r4 r5 r6 r7 t0 t1 t2 t3 t4 t5 t6 t7 nr)] (fun R => ∀ u, R (.int (256 * r0 + r1) u) [(c, instObj 31 cd), (cd, cpuD w q0 q1 q2 q3 q4 q5 q6 q7 q8 q9 q10 q11 q12 q13 r sa ix iy sp pc vi vr f1 f2 vm b1 b2 st), (r, regs r0 r1 r2 r3 r4 r5 r6 r7 t0 t1 t2 t3 t4 t5 t6 t7 nr)]) := by
  k_dflt (refine' does_ofW (fun τ => [(Str.ofString "cpu", (.ref c)), (Str.ofString "p", .int 0 (τ 1))]) ?ho ?hcd ?hb ?hl ?c1 ?c2 ?c3 ?c4 ?h9; (case ho => k_is); (case hcd => k_is); (case hb => exact fun τ s => BindsTo.of_eq rfl); (case hl => exact fun τ => locs rfl); (case c1 => exact rfl); (case c2 => exact rfl); (case c3 => exact rfl); (case c4 => decide))
  intro d9 τ9
  have hk0 := hc.1.1
  have hk1 := hc.1.2
  have hk2 := hc.2.1
  have hk3 := hc.2.2
  repeat' wtm_at "W step"
  all_goals (refine End.mk ?_; intro R hR; rw [← pair_join (h := r0) (l := r1) (by omega) (by omega) (by omega)] at hR; refine' End.mk2 (hR _) ?slf9; (case slf9 => wtm_at "W sel"))

theorem set_pair0_W (w : World) {c cd r sa : Addr} {q0 q1 q2 q3 q4 q5 q6 q7 q8 q9 q10 q11 q12 q13 : Tok} {ix iy sp pc vi vr f1 f2 vm b1 b2 st : Value} {r0 r1 r2 r3 r4 r5 r6 r7 : Int} {t0 t1 t2 t3 t4 t5 t6 t7 : Tok} {nr : Nat} {x : Int} : DoesW w 2 77 [.v (.ref c), .i 0, .i x] [(c, instObj 31 cd), (cd, cpuD w q0 q1 q2 q3 q4 q5 q6 q7 q8 q9 q10 q11 q12 q13 r sa ix iy sp pc vi vr f1 f2 vm b1 b2 st), (r, regs r0 r1 r2 r3 r4 r5 r6 r7 t0 t1 t2 t3 t4 t5 t6 t7 nr)] (fun R => ∀ u1 u2, R .none [(c, instObj 31 cd), (cd, cpuD w q0 q1 q2 q3 q4 q5 q6 q7 q8 q9 q10 q11 q12 q13 r sa ix iy sp pc vi vr f1 f2 vm b1 b2 st), (r, regs (x / 256 % 256) (x % 256) r2 r3 r4 r5 r6 r7 u1 u2 t2 t3 t4 t5 t6 t7 nr)]) := by
  k_dflt (refine' does_ofW (fun τ => [(Str.ofString "cpu", (.ref c)), (Str.ofString "p", .int 0 (τ 1)), (Str.ofString "value", .int x (τ 2))]) ?ho ?hcd ?hb ?hl ?c1 ?c2 ?c3 ?c4 ?h9; (case ho => k_is); (case hcd => k_is); (case hb => exact fun τ s => BindsTo.of_eq rfl); (case hl => exact fun τ => locs rfl); (case c1 => exact rfl); (case c2 => exact rfl); (case c3 => exact rfl); (case c4 => decide))
  intro d9 τ9
  repeat' wtm_at "W step"
  all_goals (refine End.mk ?_; intro R hR; rw [← hi_byte x, ← bitAnd_m8 x] at hR; refine' End.mk2 (hR _ _) ?slf9; (case slf9 => wtm_at "W sel"))

theorem pair1_W (w : World) {c cd r sa : Addr} {q0 q1 q2 q3 q4 q5 q6 q7 q8 q9 q10 q11 q12 q13 : Tok} {ix iy sp pc vi vr f1 f2 vm b1 b2 st : Value} {r0 r1 r2 r3 r4 r5 r6 r7 : Int} {t0 t1 t2 t3 t4 t5 t6 t7 : Tok} {nr : Nat} (hc : (0 ≤ r2 ∧ r2 < 256) ∧ (0 ≤ r3 ∧ r3 < 256)) : DoesW w 2 70 [.v (.ref c), .i 1] [(c, instObj 31 cd), (cd, cpuD w q0 q1 q2 q3 q4 q5 q6 q7 q8 q9 q10 q11 q12 q13 r sa ix iy sp pc vi vr f1 f2 vm b1 b2 st), (r, regs r0 r1 r2 r3 r4 r5 r6 r7 t0 t1 t2 t3 t4 t5 t6 t7 nr)] (fun R => ∀ u, R (.int (256 * r2 + r3) u) [(c, instObj 31 cd), (cd, cpuD w q0 q1 q2 q3 q4 q5 q6 q7 q8 q9 q10 q11 q12 q13 r sa ix iy sp pc vi vr f1 f2 vm b1 b2 st), (r, regs r0 r1 r2 r3 r4 r5 r6 r7 t0 t1 t2 t3 t4 t5 t6 t7 nr)]) := by
  k_dflt (refine' does_ofW (fun τ => [(Str.ofString "cpu", (.ref c)), (Str.ofString "p", .int 1 (τ 1))]) ?ho ?hcd ?hb ?hl ?c1 ?c2 ?c3 ?c4 ?h9; (case ho => k_is); (case hcd => k_is); (case hb => exact fun τ s => BindsTo.of_eq rfl); (case hl => exact fun τ => locs rfl); (case c1 => exact rfl); (case c2 => exact rfl); (case c3 => exact rfl); (case c4 => decide))
  intro d9 τ9
  have hk0 := hc.1.1
  have hk1 := hc.1.2
  have hk2 := hc.2.1
  have hk3 := hc.2.2
  repeat' wtm_at "W step"
  all_goals (refine End.mk ?_; intro R hR; rw [← pair_join (h := r2) (l := r3) (by omega) (by omega) (by omega)] at hR; refine' End.mk2 (hR _) ?slf9; (case slf9 => wtm_at "W sel"))

theorem set_pair1_W (w : World) {c cd r sa : Addr} {q0 q1 q2 q3 q4 q5 q6 q7 q8 q9 q10 q11 q12 q13 : Tok} {ix iy sp pc vi vr f1 f2 vm b1 b2 st : Value} {r0 r1 r2 r3 r4 r5 r6 r7 : Int} {t0 t1 t2 t3 t4 t5 t6 t7 : Tok} {nr : Nat} {x : Int} : DoesW w 2 77 [.v (.ref c), .i 1, .i x] [(c, instObj 31 cd), (cd, cpuD w q0 q1 q2 q3 q4 q5 q6 q7 q8 q9 q10 q11 q12 q13 r sa ix iy sp pc vi vr f1 f2 vm b1 b2 st), (r, regs r0 r1 r2 r3 r4 r5 r6 r7 t0 t1 t2 t3 t4 t5 t6 t7 nr)] (fun R => ∀ u1 u2, R .none [(c, instObj 31 cd), (cd, cpuD w q0 q1 q2 q3 q4 q5 q6 q7 q8 q9 q10 q11 q12 q13 r sa ix iy sp pc vi vr f1 f2 vm b1 b2 st), (r, regs r0 r1 (x / 256 % 256) (x % 256) r4 r5 r6 r7 t0 t1 u1 u2 t4 t5 t6 t7 nr)]) := by
  k_dflt (refine' does_ofW (fun τ => [(Str.ofString "cpu", (.ref c)), (Str.ofString "p", .int 1 (τ 1)), (Str.ofString "value", .int x (τ 2))]) ?ho ?hcd ?hb ?hl ?c1 ?c2 ?c3 ?c4 ?h9; (case ho => k_is); (case hcd => k_is); (case hb => exact fun τ s => BindsTo.of_eq rfl); (case hl => exact fun τ => locs rfl); (case c1 => exact rfl); (case c2 => exact rfl); (case c3 => exact rfl); (case c4 => decide))
  intro d9 τ9
  repeat' wtm_at "W step"
  all_goals (refine End.mk ?_; intro R hR; rw [← hi_byte x, ← bitAnd_m8 x] at hR; refine' End.mk2 (hR _ _) ?slf9; (case slf9 => wtm_at "W sel"))

theorem pair2_W (w : World) {c cd r sa : Addr} {q0 q1 q2 q3 q4 q5 q6 q7 q8 q9 q10 q11 q12 q13 : Tok} {ix iy sp pc vi vr f1 f2 vm b1 b2 st : Value} {r0 r1 r2 r3 r4 r5 r6 r7 : Int} {t0 t1 t2 t3 t4 t5 t6 t7 : Tok} {nr : Nat} (hc : (0 ≤ r4 ∧ r4 < 256) ∧ (0 ≤ r5 ∧ r5 < 256)) : DoesW w 2 70 [.v (.ref c), .i 2] [(c, instObj 31 cd), (cd, cpuD w q0 q1 q2 q3 q4 q5 q6 q7 q8 q9 q10 q11 q12 q13 r sa ix iy sp pc vi vr f1 f2 vm b1 b2 st), (r, regs r0 r1 r2 r3 r4 r5 r6 r7 t0 t1 t2 t3 t4 t5 t6 t7 nr)] (fun R => ∀ u, R (.int (256 * r4 + r5) u) [(c, instObj 31 cd), (cd, cpuD w q0 q1 q2 q3 q4 q5 q6 q7 q8 q9 q10 q11 q12 q13 r sa ix iy sp pc vi vr f1 f2 vm b1 b2 st), (r, regs r0 r1 r2 r3 r4 r5 r6 r7 t0 t1 t2 t3 t4 t5 t6 t7 nr)]) := by
  k_dflt (refine' does_ofW (fun τ => [(Str.ofString "cpu", (.ref c)), (Str.ofString "p", .int 2 (τ 1))]) ?ho ?hcd ?hb ?hl ?c1 ?c2 ?c3 ?c4 ?h9; (case ho => k_is); (case hcd => k_is); (case hb => exact fun τ s => BindsTo.of_eq rfl); (case hl => exact fun τ => locs rfl); (case c1 => exact rfl); (case c2 => exact rfl); (case c3 => exact rfl); (case c4 => decide))
  intro d9 τ9
  have hk0 := hc.1.1
  have hk1 := hc.1.2
  have hk2 := hc.2.1
  have hk3 := hc.2.2
  repeat' wtm_at "W step"
  all_goals (refine End.mk ?_; intro R hR; rw [← pair_join (h := r4) (l := r5) (by omega) (by omega) (by omega)] at hR; refine' End.mk2 (hR _) ?slf9; (case slf9 => wtm_at "W sel"))

theorem set_pair2_W (w : World) {c cd r sa : Addr} {q0 q1 q2 q3 q4 q5 q6 q7 q8 q9 q10 q11 q12 q13 : Tok} {ix iy sp pc vi vr f1 f2 vm b1 b2 st : Value} {r0 r1 r2 r3 r4 r5 r6 r7 : Int} {t0 t1 t2 t3 t4 t5 t6 t7 : Tok} {nr : Nat} {x : Int} : DoesW w 2 77 [.v (.ref c), .i 2, .i x] [(c, instObj 31 cd), (cd, cpuD w q0 q1 q2 q3 q4 q5 q6 q7 q8 q9 q10 q11 q12 q13 r sa ix iy sp pc vi vr f1 f2 vm b1 b2 st), (r, regs r0 r1 r2 r3 r4 r5 r6 r7 t0 t1 t2 t3 t4 t5 t6 t7 nr)] (fun R => ∀ u1 u2, R .none [(c, instObj 31 cd), (cd, cpuD w q0 q1 q2 q3 q4 q5 q6 q7 q8 q9 q10 q11 q12 q13 r sa ix iy sp pc vi vr f1 f2 vm b1 b2 st), (r, regs r0 r1 r2 r3 (x / 256 % 256) (x % 256) r6 r7 t0 t1 t2 t3 u1 u2 t6 t7 nr)]) := by
  k_dflt (refine' does_ofW (fun τ => [(Str.ofString "cpu", (.ref c)), (Str.ofString "p", .int 2 (τ 1)), (Str.ofString "value", .int x (τ 2))]) ?ho ?hcd ?hb ?hl ?c1 ?c2 ?c3 ?c4 ?h9; (case ho => k_is); (case hcd => k_is); (case hb => exact fun τ s => BindsTo.of_eq rfl); (case hl => exact fun τ => locs rfl); (case c1 => exact rfl); (case c2 => exact rfl); (case c3 => exact rfl); (case c4 => decide))
  intro d9 τ9
  repeat' wtm_at "W step"
  all_goals (refine End.mk ?_; intro R hR; rw [← hi_byte x, ← bitAnd_m8 x] at hR; refine' End.mk2 (hR _ _) ?slf9; (case slf9 => wtm_at "W sel"))

theorem pair3_W (w : World) {c cd r sa : Addr} {q0 q1 q2 q3 q4 q5 q6 q7 q8 q9 q10 q11 q12 q13 : Tok} {ix iy pc vi vr f1 f2 vm b1 b2 st : Value} {r0 r1 r2 r3 r4 r5 r6 r7 : Int} {t0 t1 t2 t3 t4 t5 t6 t7 : Tok} {nr : Nat} {vsp : Int} {tsp : Tok} : DoesW w 2 70 [.v (.ref c), .i 3] [(c, instObj 31 cd), (cd, cpuD w q0 q1 q2 q3 q4 q5 q6 q7 q8 q9 q10 q11 q12 q13 r sa ix iy (.int vsp tsp) pc vi vr f1 f2 vm b1 b2 st), (r, regs r0 r1 r2 r3 r4 r5 r6 r7 t0 t1 t2 t3 t4 t5 t6 t7 nr)] (fun R => ∀ u, R (.int vsp u) [(c, instObj 31 cd), (cd, cpuD w q0 q1 q2 q3 q4 q5 q6 q7 q8 q9 q10 q11 q12 q13 r sa ix iy (.int vsp tsp) pc vi vr f1 f2 vm b1 b2 st), (r, regs r0 r1 r2 r3 r4 r5 r6 r7 t0 t1 t2 t3 t4 t5 t6 t7 nr)]) := by
  k_dflt (refine' does_ofW (fun τ => [(Str.ofString "cpu", (.ref c)), (Str.ofString "p", .int 3 (τ 1))]) ?ho ?hcd ?hb ?hl ?c1 ?c2 ?c3 ?c4 ?h9; (case ho => k_is); (case hcd => k_is); (case hb => exact fun τ s => BindsTo.of_eq rfl); (case hl => exact fun τ => locs rfl); (case c1 => exact rfl); (case c2 => exact rfl); (case c3 => exact rfl); (case c4 => decide))
  intro d9 τ9
  repeat' wtm_at "W step"
  all_goals (refine End.mk ?_; intro R hR; refine' End.mk2 (hR _) ?slf9; (case slf9 => wtm_at "W sel"))

theorem set_pair3_W (w : World) {c cd r sa : Addr} {q0 q1 q2 q3 q4 q5 q6 q7 q8 q9 q10 q11 q12 q13 : Tok} {ix iy sp pc vi vr f1 f2 vm b1 b2 st : Value} {r0 r1 r2 r3 r4 r5 r6 r7 : Int} {t0 t1 t2 t3 t4 t5 t6 t7 : Tok} {nr : Nat} {x : Int} : DoesW w 2 77 [.v (.ref c), .i 3, .i x] [(c, instObj 31 cd), (cd, cpuD w q0 q1 q2 q3 q4 q5 q6 q7 q8 q9 q10 q11 q12 q13 r sa ix iy sp pc vi vr f1 f2 vm b1 b2 st), (r, regs r0 r1 r2 r3 r4 r5 r6 r7 t0 t1 t2 t3 t4 t5 t6 t7 nr)] (fun R => ∀ u, R .none [(c, instObj 31 cd), (cd, cpuD w q0 q1 q2 q3 q4 q5 q6 q7 q8 q9 q10 q11 q12 q13 r sa ix iy (.int (x % 65536) u) pc vi vr f1 f2 vm b1 b2 st), (r, regs r0 r1 r2 r3 r4 r5 r6 r7 t0 t1 t2 t3 t4 t5 t6 t7 nr)]) := by
  k_dflt (refine' does_ofW (fun τ => [(Str.ofString "cpu", (.ref c)), (Str.ofString "p", .int 3 (τ 1)), (Str.ofString "value", .int x (τ 2))]) ?ho ?hcd ?hb ?hl ?c1 ?c2 ?c3 ?c4 ?h9; (case ho => k_is); (case hcd => k_is); (case hb => exact fun τ s => BindsTo.of_eq rfl); (case hl => exact fun τ => locs rfl); (case c1 => exact rfl); (case c2 => exact rfl); (case c3 => exact rfl); (case c4 => decide))
  intro d9 τ9
  repeat' wtm_at "W step"
  all_goals (refine End.mk ?_; intro R hR; rw [← bitAnd_m16 x] at hR; refine' End.mk2 (hR _) ?slf9; (case slf9 => wtm_at "W sel"))
theorem flags_sub8c {y m a b c : Int} {p : Bool} (hy : 0 ≤ y ∧ y < 256 ∧ y % 2 = 0) :
    (0 ≤ Builtin.bitOr (Builtin.bitOr (Builtin.bitOr (Builtin.bitOr y (Builtin.bitAnd m 16)) (bif p then 4 else 0)) 2) (bif decide (a - b - c < 0) then 1 else 0) ∧ Builtin.bitOr (Builtin.bitOr (Builtin.bitOr (Builtin.bitOr y (Builtin.bitAnd m 16)) (bif p then 4 else 0)) 2) (bif decide (a - b - c < 0) then 1 else 0) < 256) ∧ Builtin.bitOr (Builtin.bitOr (Builtin.bitOr (Builtin.bitOr y (Builtin.bitAnd m 16)) (bif p then 4 else 0)) 2) (bif decide (a - b - c < 0) then 1 else 0) % 2 = (bif decide (a - b - c < 0) then 1 else 0) :=
  have h := flags_sub8 (m := m) hy (p := bif p then 4 else 0) (q := bif decide (a - b - c < 0) then 1 else 0) bif_or bif_or
  ⟨⟨h.1, h.2.1⟩, h.2.2⟩
theorem neg_fin {a y : Int} (h : (0 ≤ y ∧ y < 256) ∧ y % 2 = (bif decide (0 - a - 0 < 0) then 1 else 0)) (hc : 0 ≤ a ∧ a < 256) : (0 ≤ y ∧ y < 256) ∧ y % 2 = (if a = 0 then 0 else 1) := by
  rw [Int.sub_zero] at h
  refine ⟨h.1, h.2.trans ?_⟩
  by_cases h0 : a = 0
  · subst h0; rfl
  · rw [decide_eq_true (show 0 - a < 0 by omega), if_neg h0]; rfl
theorem adc_fin {x y c wf hf : Int} {p : Bool} (hc : (0 ≤ x ∧ x < 65536) ∧ (0 ≤ y ∧ y < 65536) ∧ (0 ≤ c ∧ c < 2)) (hw : 0 ≤ wf ∧ wf < 256 ∧ wf % 2 = 0) (hh : 0 ≤ hf ∧ hf < 256 ∧ hf % 2 = 0) :
    (0 ≤ Builtin.bitOr (Builtin.bitOr (Builtin.bitOr wf hf) (bif p then 4 else 0)) ((x + y + c).fdiv (2 ^ Int.toNat 16)) ∧ Builtin.bitOr (Builtin.bitOr (Builtin.bitOr wf hf) (bif p then 4 else 0)) ((x + y + c).fdiv (2 ^ Int.toNat 16)) < 256) ∧ Builtin.bitOr (Builtin.bitOr (Builtin.bitOr wf hf) (bif p then 4 else 0)) ((x + y + c).fdiv (2 ^ Int.toNat 16)) % 2 = (x + y + c) / 65536 := by
  rw [fdiv_16]
  have h := flags_adc hw hh (p := bif p then 4 else 0) bif_or (q := (x + y + c) / 65536) (by omega)
  exact ⟨⟨h.1, h.2.1⟩, h.2.2⟩
theorem sbc_fin {wf hf : Int} {p q : Bool} (hw : 0 ≤ wf ∧ wf < 256 ∧ wf % 2 = 0) (hh : 0 ≤ hf ∧ hf < 256 ∧ hf % 2 = 0) :
    0 ≤ Builtin.bitOr (Builtin.bitOr (Builtin.bitOr (Builtin.bitOr wf hf) (bif p then 4 else 0)) 2) (bif q then 1 else 0) ∧ Builtin.bitOr (Builtin.bitOr (Builtin.bitOr (Builtin.bitOr wf hf) (bif p then 4 else 0)) 2) (bif q then 1 else 0) < 256 :=
  have h := flags_sbc hw hh (p := bif p then 4 else 0) (q := bif q then 1 else 0) bif_or bif_or
  ⟨h.1, h.2.1⟩
section
local macro_rules | `(tactic| wtm_at "W con") => `(tactic| first | apply parity_W | apply peek_W | apply poke_W | apply szyx_W | apply high_W | apply word_W | apply pair0_W | apply set_pair0_W | apply pair1_W | apply set_pair1_W | apply pair2_W | apply set_pair2_W | apply pair3_W | apply set_pair3_W)

theorem sub8_W (w : World) {a b c : Int} : DoesW w 3 161 [.i a, .i b, .i c] [] (fun R => ∀ tp y u1 u2, (0 ≤ y ∧ y < 256) ∧ y % 2 = (bif decide (a - b - c < 0) then 1 else 0) → R (.ref tp) [(tp, tupObj [.int ((a - b - c) % 256) u1, .int y u2])]) := by
  k_dflt (refine' does_ofW (fun τ => [(Str.ofString "a", .int a (τ 0)), (Str.ofString "b", .int b (τ 1)), (Str.ofString "carry", .int c (τ 2))]) ?ho ?hcd ?hb ?hl ?c1 ?c2 ?c3 ?c4 ?h9; (case ho => k_is); (case hcd => k_is); (case hb => exact fun τ s => BindsTo.of_eq rfl); (case hl => exact fun τ => locs rfl); (case c1 => exact rfl); (case c2 => exact rfl); (case c3 => exact rfl); (case c4 => decide))
  intro d9 τ9
  repeat' wtm_at "W step"
  all_goals (refine End.mk ?_; intro R hR; rw [← bitAnd_m8 (a - b - c)] at hR; refine' End.mk2 (hR _ _ _ _ ?f9) ?slf9; (case slf9 => wtm_at "W sel"); (case f9 => exact flags_sub8c (by assumption)))
local macro_rules | `(tactic| wtm_at "W con") => `(tactic| first | apply sub8_W)

theorem neg_W (w : World) {a : Int} (hc : 0 ≤ a ∧ a < 256) : DoesW w 4 168 [.i a] [] (fun R => ∀ tp y u1 u2, (0 ≤ y ∧ y < 256) ∧ y % 2 = (if a = 0 then 0 else 1) → R (.ref tp) [(tp, tupObj [.int ((0 - a) % 256) u1, .int y u2])]) := by
  k_dflt (refine' does_ofW (fun τ => [(Str.ofString "a", .int a (τ 0))]) ?ho ?hcd ?hb ?hl ?c1 ?c2 ?c3 ?c4 ?h9; (case ho => k_is); (case hcd => k_is); (case hb => exact fun τ s => BindsTo.of_eq rfl); (case hl => exact fun τ => locs rfl); (case c1 => exact rfl); (case c2 => exact rfl); (case c3 => exact rfl); (case c4 => decide))
  intro d9 τ9
  have hk0 := hc.1
  have hk1 := hc.2
  repeat' wtm_at "W step"
  all_goals (refine End.mk ?_; intro R hR; rw [← Int.sub_zero (0 - a)] at hR; refine' End.mk2 (hR _ _ _ _ ?f9) ?slf9; (case slf9 => wtm_at "W sel"); (case f9 => exact neg_fin (by assumption) hc))

theorem adc16_W (w : World) {x y c : Int} (hc : (0 ≤ x ∧ x < 65536) ∧ (0 ≤ y ∧ y < 65536) ∧ (0 ≤ c ∧ c < 2)) : DoesW w 3 189 [.i x, .i y, .i c] [] (fun R => ∀ tp z u1 u2, (0 ≤ z ∧ z < 256) ∧ z % 2 = (x + y + c) / 65536 → R (.ref tp) [(tp, tupObj [.int ((x + y + c) % 65536) u1, .int z u2])]) := by
  k_dflt (refine' does_ofW (fun τ => [(Str.ofString "x", .int x (τ 0)), (Str.ofString "y", .int y (τ 1)), (Str.ofString "carry", .int c (τ 2))]) ?ho ?hcd ?hb ?hl ?c1 ?c2 ?c3 ?c4 ?h9; (case ho => k_is); (case hcd => k_is); (case hb => exact fun τ s => BindsTo.of_eq rfl); (case hl => exact fun τ => locs rfl); (case c1 => exact rfl); (case c2 => exact rfl); (case c3 => exact rfl); (case c4 => decide))
  intro d9 τ9
  have hk0 := hc.1.1
  have hk1 := hc.1.2
  have hk2 := hc.2.1.1
  have hk3 := hc.2.1.2
  have hk4 := hc.2.2.1
  have hk5 := hc.2.2.2
  repeat' wtm_at "W step"
  all_goals (refine End.mk ?_; intro R hR; rw [← bitAnd_m16 (x + y + c)] at hR; refine' End.mk2 (hR _ _ _ _ ?f9) ?slf9; (case slf9 => wtm_at "W sel"); (case f9 => exact adc_fin hc (by assumption) (by assumption)))

theorem sbc16_W (w : World) {x y c : Int} : DoesW w 3 196 [.i x, .i y, .i c] [] (fun R => ∀ tp z u1 u2, (0 ≤ z ∧ z < 256) → R (.ref tp) [(tp, tupObj [.int ((x - y - c) % 65536) u1, .int z u2])]) := by
  k_dflt (refine' does_ofW (fun τ => [(Str.ofString "x", .int x (τ 0)), (Str.ofString "y", .int y (τ 1)), (Str.ofString "carry", .int c (τ 2))]) ?ho ?hcd ?hb ?hl ?c1 ?c2 ?c3 ?c4 ?h9; (case ho => k_is); (case hcd => k_is); (case hb => exact fun τ s => BindsTo.of_eq rfl); (case hl => exact fun τ => locs rfl); (case c1 => exact rfl); (case c2 => exact rfl); (case c3 => exact rfl); (case c4 => decide))
  intro d9 τ9
  repeat' wtm_at "W step"
  all_goals (refine End.mk ?_; intro R hR; rw [← bitAnd_m16 (x - y - c)] at hR; refine' End.mk2 (hR _ _ _ _ ?f9) ?slf9; (case slf9 => wtm_at "W sel"); (case f9 => exact sbc_fin (by assumption) (by assumption)))

theorem rrd_W (w : World) {a v f : Int} (hc : 0 ≤ a ∧ a < 256) : DoesW w 3 203 [.i a, .i v, .i f] [] (fun R => ∀ tp z u1 u2 u3, (0 ≤ z ∧ z < 256) → R (.ref tp) [(tp, tupObj [.int (a / 16 * 16 + v % 16) u1, .int (Builtin.bitOr (Builtin.bitAnd a 15 * 2 ^ Int.toNat 4) (v.fdiv (2 ^ Int.toNat 4))) u2, .int z u3])]) := by
  k_dflt (refine' does_ofW (fun τ => [(Str.ofString "a", .int a (τ 0)), (Str.ofString "v", .int v (τ 1)), (Str.ofString "f", .int f (τ 2))]) ?ho ?hcd ?hb ?hl ?c1 ?c2 ?c3 ?c4 ?h9; (case ho => k_is); (case hcd => k_is); (case hb => exact fun τ s => BindsTo.of_eq rfl); (case hl => exact fun τ => locs rfl); (case c1 => exact rfl); (case c2 => exact rfl); (case c3 => exact rfl); (case c4 => decide))
  intro d9 τ9
  have hk0 := hc.1
  have hk1 := hc.2
  repeat' wtm_at "W step"
  all_goals (refine End.mk ?_; intro R hR; rw [← rot_a2 v hc.1 hc.2] at hR; refine' End.mk2 (hR _ _ _ _ _ ?f9) ?slf9; (case slf9 => wtm_at "W sel"); (case f9 => exact flags_rot f (by assumption) (by assumption)))

theorem rld_W (w : World) {a v f : Int} (hc : (0 ≤ a ∧ a < 256) ∧ (0 ≤ v ∧ v < 256)) : DoesW w 3 210 [.i a, .i v, .i f] [] (fun R => ∀ tp z u1 u2 u3, (0 ≤ z ∧ z < 256) → R (.ref tp) [(tp, tupObj [.int (a / 16 * 16 + v / 16) u1, .int (Builtin.bitOr (Builtin.bitAnd v 15 * 2 ^ Int.toNat 4) (Builtin.bitAnd a 15)) u2, .int z u3])]) := by
  k_dflt (refine' does_ofW (fun τ => [(Str.ofString "a", .int a (τ 0)), (Str.ofString "v", .int v (τ 1)), (Str.ofString "f", .int f (τ 2))]) ?ho ?hcd ?hb ?hl ?c1 ?c2 ?c3 ?c4 ?h9; (case ho => k_is); (case hcd => k_is); (case hb => exact fun τ s => BindsTo.of_eq rfl); (case hl => exact fun τ => locs rfl); (case c1 => exact rfl); (case c2 => exact rfl); (case c3 => exact rfl); (case c4 => decide))
  intro d9 τ9
  have hk0 := hc.1.1
  have hk1 := hc.1.2
  have hk2 := hc.2.1
  have hk3 := hc.2.2
  repeat' wtm_at "W step"
  all_goals (refine End.mk ?_; intro R hR; rw [← rot_a1 hc.1.1 hc.1.2 hc.2.1 hc.2.2] at hR; refine' End.mk2 (hR _ _ _ _ _ ?f9) ?slf9; (case slf9 => wtm_at "W sel"); (case f9 => exact flags_rot f (by assumption) (by assumption)))

theorem load_flags_W (w : World) {v g f : Int} : DoesW w 3 217 [.i v, .i g, .i f] [] (fun R => ∀ z u, (0 ≤ z ∧ z < 256) → R (.int z u) []) := by
  k_dflt (refine' does_ofW (fun τ => [(Str.ofString "v", .int v (τ 0)), (Str.ofString "iff2", .int g (τ 1)), (Str.ofString "f", .int f (τ 2))]) ?ho ?hcd ?hb ?hl ?c1 ?c2 ?c3 ?c4 ?h9; (case ho => k_is); (case hcd => k_is); (case hb => exact fun τ s => BindsTo.of_eq rfl); (case hl => exact fun τ => locs rfl); (case c1 => exact rfl); (case c2 => exact rfl); (case c3 => exact rfl); (case c4 => decide))
  intro d9 τ9
  repeat' wtm_at "W step"
  all_goals (refine End.mk ?_; intro R hR; refine' End.mk2 (hR _ _ ?f9) ?slf9; (case slf9 => wtm_at "W sel"); (case f9 => exact load_done (by assumption) bif_or))

theorem fetch_W (w : World) {c cd r sa : Addr} {q0 q1 q2 q3 q4 q5 q6 q7 q8 q9 q10 q11 q12 q13 : Tok} {ix iy sp vi vr f1 f2 vm b1 b2 st : Value} {p : Int} {tpc : Tok} {ma : Addr} {vs : List Value} {ms : List Int} {nm : Nat} (hc : IntsAre vs ms ∧ ms.length = 16 ∧ ∀ j : Nat, 0 ≤ ms.getD j 0 ∧ ms.getD j 0 < 256) : DoesW w 3 112 [.v (.ref c), .v (.ref ma)] [(c, instObj 31 cd), (cd, cpuD w q0 q1 q2 q3 q4 q5 q6 q7 q8 q9 q10 q11 q12 q13 r sa ix iy sp (.int p tpc) vi vr f1 f2 vm b1 b2 st), (ma, W.listOf vs.toArray nm)] (fun R => ∀ u u', R (.int (ms.getD (p % 16).toNat 0) u) [(c, instObj 31 cd), (cd, cpuD w q0 q1 q2 q3 q4 q5 q6 q7 q8 q9 q10 q11 q12 q13 r sa ix iy sp (.int (Builtin.bitAnd (p + 1) 65535) u') vi vr f1 f2 vm b1 b2 st), (ma, W.listOf vs.toArray nm)]) := by
  k_dflt (refine' does_ofW (fun τ => [(Str.ofString "cpu", (.ref c)), (Str.ofString "memory", (.ref ma))]) ?ho ?hcd ?hb ?hl ?c1 ?c2 ?c3 ?c4 ?h9; (case ho => k_is); (case hcd => k_is); (case hb => exact fun τ s => BindsTo.of_eq rfl); (case hl => exact fun τ => locs rfl); (case c1 => exact rfl); (case c2 => exact rfl); (case c3 => exact rfl); (case c4 => decide))
  intro d9 τ9
  have hk0 := hc.1
  have hk1 := hc.2.1
  have hk2 := hc.2.2
  repeat' wtm_at "W step"
  all_goals (refine End.mk ?_; intro R hR; refine' End.mk2 (hR _ _) ?slf9; (case slf9 => wtm_at "W sel"))
local macro_rules | `(tactic| wtm_at "W con") => `(tactic| first | apply fetch_W)

theorem fetch16_W (w : World) {c cd r sa : Addr} {q0 q1 q2 q3 q4 q5 q6 q7 q8 q9 q10 q11 q12 q13 : Tok} {ix iy sp vi vr f1 f2 vm b1 b2 st : Value} {tpc : Tok} {ma : Addr} {vs : List Value} {ms : List Int} {nm : Nat} (hc : IntsAre vs ms ∧ ms.length = 16 ∧ (∀ j : Nat, 0 ≤ ms.getD j 0 ∧ ms.getD j 0 < 256) ∧ ms.getD 0 0 = 8 ∧ ms.getD 1 0 = 0) : DoesW w 4 119 [.v (.ref c), .v (.ref ma)] [(c, instObj 31 cd), (cd, cpuD w q0 q1 q2 q3 q4 q5 q6 q7 q8 q9 q10 q11 q12 q13 r sa ix iy sp (.int 0 tpc) vi vr f1 f2 vm b1 b2 st), (ma, W.listOf vs.toArray nm)] (fun R => ∀ u u', R (.int 8 u) [(c, instObj 31 cd), (cd, cpuD w q0 q1 q2 q3 q4 q5 q6 q7 q8 q9 q10 q11 q12 q13 r sa ix iy sp (.int 2 u') vi vr f1 f2 vm b1 b2 st), (ma, W.listOf vs.toArray nm)]) := by
  k_dflt (refine' does_ofW (fun τ => [(Str.ofString "cpu", (.ref c)), (Str.ofString "memory", (.ref ma))]) ?ho ?hcd ?hb ?hl ?c1 ?c2 ?c3 ?c4 ?h9; (case ho => k_is); (case hcd => k_is); (case hb => exact fun τ s => BindsTo.of_eq rfl); (case hl => exact fun τ => locs rfl); (case c1 => exact rfl); (case c2 => exact rfl); (case c3 => exact rfl); (case c4 => decide))
  intro d9 τ9
  have hk0 := hc.1
  have hk1 := hc.2.1
  have hk2 := hc.2.2.1
  have hk3 := hc.2.2.2.1
  have hk4 := hc.2.2.2.2
  repeat' wtm_at "W step"
  all_goals (refine End.mk ?_; intro R hR; rw [← at_is (y := ms.getD 0 0) (z := ms.getD 1 0) hc.2.2.2.1 hc.2.2.2.2] at hR; refine' End.mk2 (hR _ _) ?slf9; (case slf9 => wtm_at "W sel"))

theorem peek16_W (w : World) {ma : Addr} {vs : List Value} {ms : List Int} {nm : Nat} (hc : IntsAre vs ms ∧ ms.length = 16 ∧ ∀ j : Nat, 0 ≤ ms.getD j 0 ∧ ms.getD j 0 < 256) : DoesW w 3 98 [.v (.ref ma), .i 8] [(ma, W.listOf vs.toArray nm)] (fun R => ∀ u, R (.int (ms.getD 9 0 * 2 ^ 8 + ms.getD 8 0) u) [(ma, W.listOf vs.toArray nm)]) := by
  k_dflt (refine' does_ofW (fun τ => [(Str.ofString "memory", (.ref ma)), (Str.ofString "at", .int 8 (τ 1))]) ?ho ?hcd ?hb ?hl ?c1 ?c2 ?c3 ?c4 ?h9; (case ho => k_is); (case hcd => k_is); (case hb => exact fun τ s => BindsTo.of_eq rfl); (case hl => exact fun τ => locs rfl); (case c1 => exact rfl); (case c2 => exact rfl); (case c3 => exact rfl); (case c4 => decide))
  intro d9 τ9
  have hk0 := hc.1
  have hk1 := hc.2.1
  have hk2 := hc.2.2
  repeat' wtm_at "W step"
  all_goals (refine End.mk ?_; intro R hR; rw [← or_hi_lo' 8 (hc.2.2 9).1 (hc.2.2 8).1 (hc.2.2 8).2] at hR; refine' End.mk2 (hR _) ?slf9; (case slf9 => wtm_at "W sel"))

theorem poke16_W (w : World) {ma : Addr} {vs : List Value} {ms : List Int} {nm : Nat} {x : Int} (hc : IntsAre vs ms ∧ ms.length = 16) : DoesW w 3 105 [.v (.ref ma), .i 8, .i x] [(ma, W.listOf vs.toArray nm)] (fun R => ∀ u1 u2 n', R .none [(ma, W.listOf ((vs.set 8 (.int (Builtin.bitAnd x 255 % 256) u1)).set 9 (.int (Builtin.bitAnd (x.fdiv (2 ^ Int.toNat 8)) 255 % 256) u2)).toArray n')]) := by
  k_dflt (refine' does_ofW (fun τ => [(Str.ofString "memory", (.ref ma)), (Str.ofString "at", .int 8 (τ 1)), (Str.ofString "value", .int x (τ 2))]) ?ho ?hcd ?hb ?hl ?c1 ?c2 ?c3 ?c4 ?h9; (case ho => k_is); (case hcd => k_is); (case hb => exact fun τ s => BindsTo.of_eq rfl); (case hl => exact fun τ => locs rfl); (case c1 => exact rfl); (case c2 => exact rfl); (case c3 => exact rfl); (case c4 => decide))
  intro d9 τ9
  have hk0 := hc.1
  have hk1 := hc.2
  repeat' wtm_at "W step"
  all_goals (refine End.mk ?_; intro R hR; refine' End.mk2 (hR _ _ _) ?slf9; (case slf9 => wtm_at "W sel"))
end
theorem adc_end {X Y r z : Int} (h : (0 ≤ z ∧ z < 256) ∧ z % 2 = (X + Y + Builtin.bitAnd r 1) / 65536) : (X + Y + Builtin.bitAnd r 1) % 65536 / 256 % 256 = (X + Y + r % 2) % 65536 / 256 ∧ (X + Y + Builtin.bitAnd r 1) % 65536 % 256 = (X + Y + r % 2) % 256 ∧ 0 ≤ z ∧ z < 256 ∧ z % 2 = (X + Y + r % 2) / 65536 := by
  rw [bitAnd_m1] at *
  exact ⟨by omega, by omega, h.1.1, h.1.2, h.2⟩
theorem sbc_end {X Y r z : Int} (h : 0 ≤ z ∧ z < 256) : (X - Y - Builtin.bitAnd r 1) % 65536 / 256 % 256 = (X - Y - r % 2) % 65536 / 256 ∧ (X - Y - Builtin.bitAnd r 1) % 65536 % 256 = (X - Y - r % 2) % 256 ∧ 0 ≤ z ∧ z < 256 := by
  rw [bitAnd_m1]
  exact ⟨by omega, by omega, h.1, h.2⟩
section
local macro_rules | `(tactic| wtm_at "W con") => `(tactic| first | apply parity_W | apply peek_W | apply poke_W | apply szyx_W | apply high_W | apply word_W | apply pair0_W | apply set_pair0_W | apply pair1_W | apply set_pair1_W | apply pair2_W | apply set_pair2_W | apply pair3_W | apply set_pair3_W | apply sub8_W | apply neg_W | apply adc16_W | apply sbc16_W | apply rrd_W | apply rld_W | apply load_flags_W | apply fetch_W | apply fetch16_W | apply peek16_W | apply poke16_W)

theorem in_adc0_W (w : World) {c cd r sa : Addr} {q0 q1 q2 q3 q4 q5 q6 q7 q8 q9 q10 q11 q12 q13 : Tok} {ix iy sp pc vi vr f1 f2 vm b1 b2 st : Value} {r0 r1 r2 r3 r4 r5 r6 r7 : Int} {t0 t1 t2 t3 t4 t5 t6 t7 : Tok} {nr : Nat} (hc : (0 ≤ r0 ∧ r0 < 256) ∧ (0 ≤ r1 ∧ r1 < 256) ∧ (0 ≤ r4 ∧ r4 < 256) ∧ (0 ≤ r5 ∧ r5 < 256)) : DoesW w 5 268 [.v (.ref c), .i 1] [(c, instObj 31 cd), (cd, cpuD w q0 q1 q2 q3 q4 q5 q6 q7 q8 q9 q10 q11 q12 q13 r sa ix iy sp pc vi vr f1 f2 vm b1 b2 st), (r, regs r0 r1 r2 r3 r4 r5 r6 r7 t0 t1 t2 t3 t4 t5 t6 t7 nr)] (fun R => ∀ y4 y5 y6 u4 u5 u6 , (y4 = ((256 * r4 + r5) + (256 * r0 + r1) + r6 % 2) % 65536 / 256 ∧ y5 = ((256 * r4 + r5) + (256 * r0 + r1) + r6 % 2) % 256 ∧ 0 ≤ y6 ∧ y6 < 256 ∧ y6 % 2 = ((256 * r4 + r5) + (256 * r0 + r1) + r6 % 2) / 65536) → R .none [(c, instObj 31 cd), (cd, cpuD w q0 q1 q2 q3 q4 q5 q6 q7 q8 q9 q10 q11 q12 q13 r sa ix iy sp pc vi vr f1 f2 vm b1 b2 st), (r, regs r0 r1 r2 r3 y4 y5 y6 r7 t0 t1 t2 t3 u4 u5 u6 t7 nr)]) := by
  k_dflt (refine' does_ofW (fun τ => [(Str.ofString "cpu", (.ref c)), (Str.ofString "y", .int 1 (τ 1))]) ?ho ?hcd ?hb ?hl ?c1 ?c2 ?c3 ?c4 ?h9; (case ho => k_is); (case hcd => k_is); (case hb => exact fun τ s => BindsTo.of_eq rfl); (case hl => exact fun τ => locs rfl); (case c1 => exact rfl); (case c2 => exact rfl); (case c3 => exact rfl); (case c4 => decide))
  intro d9 τ9
  have hk0 := hc.1.1
  have hk1 := hc.1.2
  have hk2 := hc.2.1.1
  have hk3 := hc.2.1.2
  have hk4 := hc.2.2.1.1
  have hk5 := hc.2.2.1.2
  have hk6 := hc.2.2.2.1
  have hk7 := hc.2.2.2.2
  repeat' wtm_at "W step"
  all_goals (refine End.mk ?_; intro R hR; refine' End.mk2 (hR _ _ _ _ _ _ ?f9) ?slf9; (case slf9 => wtm_at "W sel"); (case f9 => exact adc_end (by assumption)))

theorem in_sbc0_W (w : World) {c cd r sa : Addr} {q0 q1 q2 q3 q4 q5 q6 q7 q8 q9 q10 q11 q12 q13 : Tok} {ix iy sp pc vi vr f1 f2 vm b1 b2 st : Value} {r0 r1 r2 r3 r4 r5 r6 r7 : Int} {t0 t1 t2 t3 t4 t5 t6 t7 : Tok} {nr : Nat} (hc : (0 ≤ r0 ∧ r0 < 256) ∧ (0 ≤ r1 ∧ r1 < 256) ∧ (0 ≤ r4 ∧ r4 < 256) ∧ (0 ≤ r5 ∧ r5 < 256)) : DoesW w 5 268 [.v (.ref c), .i 0] [(c, instObj 31 cd), (cd, cpuD w q0 q1 q2 q3 q4 q5 q6 q7 q8 q9 q10 q11 q12 q13 r sa ix iy sp pc vi vr f1 f2 vm b1 b2 st), (r, regs r0 r1 r2 r3 r4 r5 r6 r7 t0 t1 t2 t3 t4 t5 t6 t7 nr)] (fun R => ∀ y4 y5 y6 u4 u5 u6 , (y4 = ((256 * r4 + r5) - (256 * r0 + r1) - r6 % 2) % 65536 / 256 ∧ y5 = ((256 * r4 + r5) - (256 * r0 + r1) - r6 % 2) % 256 ∧ 0 ≤ y6 ∧ y6 < 256) → R .none [(c, instObj 31 cd), (cd, cpuD w q0 q1 q2 q3 q4 q5 q6 q7 q8 q9 q10 q11 q12 q13 r sa ix iy sp pc vi vr f1 f2 vm b1 b2 st), (r, regs r0 r1 r2 r3 y4 y5 y6 r7 t0 t1 t2 t3 u4 u5 u6 t7 nr)]) := by
  k_dflt (refine' does_ofW (fun τ => [(Str.ofString "cpu", (.ref c)), (Str.ofString "y", .int 0 (τ 1))]) ?ho ?hcd ?hb ?hl ?c1 ?c2 ?c3 ?c4 ?h9; (case ho => k_is); (case hcd => k_is); (case hb => exact fun τ s => BindsTo.of_eq rfl); (case hl => exact fun τ => locs rfl); (case c1 => exact rfl); (case c2 => exact rfl); (case c3 => exact rfl); (case c4 => decide))
  intro d9 τ9
  have hk0 := hc.1.1
  have hk1 := hc.1.2
  have hk2 := hc.2.1.1
  have hk3 := hc.2.1.2
  have hk4 := hc.2.2.1.1
  have hk5 := hc.2.2.1.2
  have hk6 := hc.2.2.2.1
  have hk7 := hc.2.2.2.2
  repeat' wtm_at "W step"
  all_goals (refine End.mk ?_; intro R hR; refine' End.mk2 (hR _ _ _ _ _ _ ?f9) ?slf9; (case slf9 => wtm_at "W sel"); (case f9 => exact sbc_end (by assumption)))

theorem in_store0_W (w : World) {c cd r sa : Addr} {q0 q1 q2 q3 q4 q5 q6 q7 q8 q9 q10 q11 q12 q13 : Tok} {ix iy sp vi vr f1 f2 vm b1 b2 st : Value} {r0 r1 r2 r3 r4 r5 r6 r7 : Int} {t0 t1 t2 t3 t4 t5 t6 t7 : Tok} {nr : Nat} {tpc : Tok} {ma : Addr} {vs : List Value} {ms : List Int} {nm : Nat} (hc : IntsAre vs ms ∧ ms.length = 16 ∧ (∀ j : Nat, 0 ≤ ms.getD j 0 ∧ ms.getD j 0 < 256) ∧ ms.getD 0 0 = 8 ∧ ms.getD 1 0 = 0 ∧ (0 ≤ r0 ∧ r0 < 256) ∧ (0 ≤ r1 ∧ r1 < 256)) : DoesW w 6 275 [.v (.ref c), .v (.ref ma), .i 0] [(c, instObj 31 cd), (cd, cpuD w q0 q1 q2 q3 q4 q5 q6 q7 q8 q9 q10 q11 q12 q13 r sa ix iy sp (.int 0 tpc) vi vr f1 f2 vm b1 b2 st), (r, regs r0 r1 r2 r3 r4 r5 r6 r7 t0 t1 t2 t3 t4 t5 t6 t7 nr), (ma, W.listOf vs.toArray nm)] (fun R => ∀ up z1 z2 u1 u2 n2 , (z1 = (256 * r0 + r1) % 256 ∧ z2 = (256 * r0 + r1) / 256 % 256) → R .none [(c, instObj 31 cd), (cd, cpuD w q0 q1 q2 q3 q4 q5 q6 q7 q8 q9 q10 q11 q12 q13 r sa ix iy sp (.int 2 up) vi vr f1 f2 vm b1 b2 st), (r, regs r0 r1 r2 r3 r4 r5 r6 r7 t0 t1 t2 t3 t4 t5 t6 t7 nr), (ma, W.listOf ((vs.set 8 (.int z1 u1)).set 9 (.int z2 u2)).toArray n2)]) := by
  k_dflt (refine' does_ofW (fun τ => [(Str.ofString "cpu", (.ref c)), (Str.ofString "memory", (.ref ma)), (Str.ofString "y", .int 0 (τ 2))]) ?ho ?hcd ?hb ?hl ?c1 ?c2 ?c3 ?c4 ?h9; (case ho => k_is); (case hcd => k_is); (case hb => exact fun τ s => BindsTo.of_eq rfl); (case hl => exact fun τ => locs rfl); (case c1 => exact rfl); (case c2 => exact rfl); (case c3 => exact rfl); (case c4 => decide))
  intro d9 τ9
  have hk0 := hc.1
  have hk1 := hc.2.1
  have hk2 := hc.2.2.1
  have hk3 := hc.2.2.2.1
  have hk4 := hc.2.2.2.2.1
  have hk5 := hc.2.2.2.2.2.1.1
  have hk6 := hc.2.2.2.2.2.1.2
  have hk7 := hc.2.2.2.2.2.2.1
  have hk8 := hc.2.2.2.2.2.2.2
  repeat' wtm_at "W step"
  all_goals (refine End.mk ?_; intro R hR; refine' End.mk2 (hR _ _ _ _ _ _ ?f9) ?slf9; (case slf9 => wtm_at "W sel"); (case f9 => ((simp only [bitAnd_m8, fdiv_8]); omega)))

theorem in_load0_W (w : World) {c cd r sa : Addr} {q0 q1 q2 q3 q4 q5 q6 q7 q8 q9 q10 q11 q12 q13 : Tok} {ix iy sp vi vr f1 f2 vm b1 b2 st : Value} {r0 r1 r2 r3 r4 r5 r6 r7 : Int} {t0 t1 t2 t3 t4 t5 t6 t7 : Tok} {nr : Nat} {tpc : Tok} {ma : Addr} {vs : List Value} {ms : List Int} {nm : Nat} (hc : IntsAre vs ms ∧ ms.length = 16 ∧ (∀ j : Nat, 0 ≤ ms.getD j 0 ∧ ms.getD j 0 < 256) ∧ ms.getD 0 0 = 8 ∧ ms.getD 1 0 = 0) : DoesW w 6 275 [.v (.ref c), .v (.ref ma), .i 1] [(c, instObj 31 cd), (cd, cpuD w q0 q1 q2 q3 q4 q5 q6 q7 q8 q9 q10 q11 q12 q13 r sa ix iy sp (.int 0 tpc) vi vr f1 f2 vm b1 b2 st), (r, regs r0 r1 r2 r3 r4 r5 r6 r7 t0 t1 t2 t3 t4 t5 t6 t7 nr), (ma, W.listOf vs.toArray nm)] (fun R => ∀ up y1 y2 u1 u2 , (y1 = ms.getD 9 0 ∧ y2 = ms.getD 8 0) → R .none [(c, instObj 31 cd), (cd, cpuD w q0 q1 q2 q3 q4 q5 q6 q7 q8 q9 q10 q11 q12 q13 r sa ix iy sp (.int 2 up) vi vr f1 f2 vm b1 b2 st), (r, regs y1 y2 r2 r3 r4 r5 r6 r7 u1 u2 t2 t3 t4 t5 t6 t7 nr), (ma, W.listOf vs.toArray nm)]) := by
  k_dflt (refine' does_ofW (fun τ => [(Str.ofString "cpu", (.ref c)), (Str.ofString "memory", (.ref ma)), (Str.ofString "y", .int 1 (τ 2))]) ?ho ?hcd ?hb ?hl ?c1 ?c2 ?c3 ?c4 ?h9; (case ho => k_is); (case hcd => k_is); (case hb => exact fun τ s => BindsTo.of_eq rfl); (case hl => exact fun τ => locs rfl); (case c1 => exact rfl); (case c2 => exact rfl); (case c3 => exact rfl); (case c4 => decide))
  intro d9 τ9
  have hk0 := hc.1
  have hk1 := hc.2.1
  have hk2 := hc.2.2.1
  have hk3 := hc.2.2.2.1
  have hk4 := hc.2.2.2.2
  repeat' wtm_at "W step"
  all_goals (refine End.mk ?_; intro R hR; refine' End.mk2 (hR _ _ _ _ _ ?f9) ?slf9; (case slf9 => wtm_at "W sel"); (case f9 => (have h8 := hc.2.2.1 8; have h9 := hc.2.2.1 9; omega)))

theorem in_adc1_W (w : World) {c cd r sa : Addr} {q0 q1 q2 q3 q4 q5 q6 q7 q8 q9 q10 q11 q12 q13 : Tok} {ix iy sp pc vi vr f1 f2 vm b1 b2 st : Value} {r0 r1 r2 r3 r4 r5 r6 r7 : Int} {t0 t1 t2 t3 t4 t5 t6 t7 : Tok} {nr : Nat} (hc : (0 ≤ r2 ∧ r2 < 256) ∧ (0 ≤ r3 ∧ r3 < 256) ∧ (0 ≤ r4 ∧ r4 < 256) ∧ (0 ≤ r5 ∧ r5 < 256)) : DoesW w 5 268 [.v (.ref c), .i 3] [(c, instObj 31 cd), (cd, cpuD w q0 q1 q2 q3 q4 q5 q6 q7 q8 q9 q10 q11 q12 q13 r sa ix iy sp pc vi vr f1 f2 vm b1 b2 st), (r, regs r0 r1 r2 r3 r4 r5 r6 r7 t0 t1 t2 t3 t4 t5 t6 t7 nr)] (fun R => ∀ y4 y5 y6 u4 u5 u6 , (y4 = ((256 * r4 + r5) + (256 * r2 + r3) + r6 % 2) % 65536 / 256 ∧ y5 = ((256 * r4 + r5) + (256 * r2 + r3) + r6 % 2) % 256 ∧ 0 ≤ y6 ∧ y6 < 256 ∧ y6 % 2 = ((256 * r4 + r5) + (256 * r2 + r3) + r6 % 2) / 65536) → R .none [(c, instObj 31 cd), (cd, cpuD w q0 q1 q2 q3 q4 q5 q6 q7 q8 q9 q10 q11 q12 q13 r sa ix iy sp pc vi vr f1 f2 vm b1 b2 st), (r, regs r0 r1 r2 r3 y4 y5 y6 r7 t0 t1 t2 t3 u4 u5 u6 t7 nr)]) := by
  k_dflt (refine' does_ofW (fun τ => [(Str.ofString "cpu", (.ref c)), (Str.ofString "y", .int 3 (τ 1))]) ?ho ?hcd ?hb ?hl ?c1 ?c2 ?c3 ?c4 ?h9; (case ho => k_is); (case hcd => k_is); (case hb => exact fun τ s => BindsTo.of_eq rfl); (case hl => exact fun τ => locs rfl); (case c1 => exact rfl); (case c2 => exact rfl); (case c3 => exact rfl); (case c4 => decide))
  intro d9 τ9
  have hk0 := hc.1.1
  have hk1 := hc.1.2
  have hk2 := hc.2.1.1
  have hk3 := hc.2.1.2
  have hk4 := hc.2.2.1.1
  have hk5 := hc.2.2.1.2
  have hk6 := hc.2.2.2.1
  have hk7 := hc.2.2.2.2
  repeat' wtm_at "W step"
  all_goals (refine End.mk ?_; intro R hR; refine' End.mk2 (hR _ _ _ _ _ _ ?f9) ?slf9; (case slf9 => wtm_at "W sel"); (case f9 => exact adc_end (by assumption)))

theorem in_sbc1_W (w : World) {c cd r sa : Addr} {q0 q1 q2 q3 q4 q5 q6 q7 q8 q9 q10 q11 q12 q13 : Tok} {ix iy sp pc vi vr f1 f2 vm b1 b2 st : Value} {r0 r1 r2 r3 r4 r5 r6 r7 : Int} {t0 t1 t2 t3 t4 t5 t6 t7 : Tok} {nr : Nat} (hc : (0 ≤ r2 ∧ r2 < 256) ∧ (0 ≤ r3 ∧ r3 < 256) ∧ (0 ≤ r4 ∧ r4 < 256) ∧ (0 ≤ r5 ∧ r5 < 256)) : DoesW w 5 268 [.v (.ref c), .i 2] [(c, instObj 31 cd), (cd, cpuD w q0 q1 q2 q3 q4 q5 q6 q7 q8 q9 q10 q11 q12 q13 r sa ix iy sp pc vi vr f1 f2 vm b1 b2 st), (r, regs r0 r1 r2 r3 r4 r5 r6 r7 t0 t1 t2 t3 t4 t5 t6 t7 nr)] (fun R => ∀ y4 y5 y6 u4 u5 u6 , (y4 = ((256 * r4 + r5) - (256 * r2 + r3) - r6 % 2) % 65536 / 256 ∧ y5 = ((256 * r4 + r5) - (256 * r2 + r3) - r6 % 2) % 256 ∧ 0 ≤ y6 ∧ y6 < 256) → R .none [(c, instObj 31 cd), (cd, cpuD w q0 q1 q2 q3 q4 q5 q6 q7 q8 q9 q10 q11 q12 q13 r sa ix iy sp pc vi vr f1 f2 vm b1 b2 st), (r, regs r0 r1 r2 r3 y4 y5 y6 r7 t0 t1 t2 t3 u4 u5 u6 t7 nr)]) := by
  k_dflt (refine' does_ofW (fun τ => [(Str.ofString "cpu", (.ref c)), (Str.ofString "y", .int 2 (τ 1))]) ?ho ?hcd ?hb ?hl ?c1 ?c2 ?c3 ?c4 ?h9; (case ho => k_is); (case hcd => k_is); (case hb => exact fun τ s => BindsTo.of_eq rfl); (case hl => exact fun τ => locs rfl); (case c1 => exact rfl); (case c2 => exact rfl); (case c3 => exact rfl); (case c4 => decide))
  intro d9 τ9
  have hk0 := hc.1.1
  have hk1 := hc.1.2
  have hk2 := hc.2.1.1
  have hk3 := hc.2.1.2
  have hk4 := hc.2.2.1.1
  have hk5 := hc.2.2.1.2
  have hk6 := hc.2.2.2.1
  have hk7 := hc.2.2.2.2
  repeat' wtm_at "W step"
  all_goals (refine End.mk ?_; intro R hR; refine' End.mk2 (hR _ _ _ _ _ _ ?f9) ?slf9; (case slf9 => wtm_at "W sel"); (case f9 => exact sbc_end (by assumption)))

theorem in_store1_W (w : World) {c cd r sa : Addr} {q0 q1 q2 q3 q4 q5 q6 q7 q8 q9 q10 q11 q12 q13 : Tok} {ix iy sp vi vr f1 f2 vm b1 b2 st : Value} {r0 r1 r2 r3 r4 r5 r6 r7 : Int} {t0 t1 t2 t3 t4 t5 t6 t7 : Tok} {nr : Nat} {tpc : Tok} {ma : Addr} {vs : List Value} {ms : List Int} {nm : Nat} (hc : IntsAre vs ms ∧ ms.length = 16 ∧ (∀ j : Nat, 0 ≤ ms.getD j 0 ∧ ms.getD j 0 < 256) ∧ ms.getD 0 0 = 8 ∧ ms.getD 1 0 = 0 ∧ (0 ≤ r2 ∧ r2 < 256) ∧ (0 ≤ r3 ∧ r3 < 256)) : DoesW w 6 275 [.v (.ref c), .v (.ref ma), .i 2] [(c, instObj 31 cd), (cd, cpuD w q0 q1 q2 q3 q4 q5 q6 q7 q8 q9 q10 q11 q12 q13 r sa ix iy sp (.int 0 tpc) vi vr f1 f2 vm b1 b2 st), (r, regs r0 r1 r2 r3 r4 r5 r6 r7 t0 t1 t2 t3 t4 t5 t6 t7 nr), (ma, W.listOf vs.toArray nm)] (fun R => ∀ up z1 z2 u1 u2 n2 , (z1 = (256 * r2 + r3) % 256 ∧ z2 = (256 * r2 + r3) / 256 % 256) → R .none [(c, instObj 31 cd), (cd, cpuD w q0 q1 q2 q3 q4 q5 q6 q7 q8 q9 q10 q11 q12 q13 r sa ix iy sp (.int 2 up) vi vr f1 f2 vm b1 b2 st), (r, regs r0 r1 r2 r3 r4 r5 r6 r7 t0 t1 t2 t3 t4 t5 t6 t7 nr), (ma, W.listOf ((vs.set 8 (.int z1 u1)).set 9 (.int z2 u2)).toArray n2)]) := by
  k_dflt (refine' does_ofW (fun τ => [(Str.ofString "cpu", (.ref c)), (Str.ofString "memory", (.ref ma)), (Str.ofString "y", .int 2 (τ 2))]) ?ho ?hcd ?hb ?hl ?c1 ?c2 ?c3 ?c4 ?h9; (case ho => k_is); (case hcd => k_is); (case hb => exact fun τ s => BindsTo.of_eq rfl); (case hl => exact fun τ => locs rfl); (case c1 => exact rfl); (case c2 => exact rfl); (case c3 => exact rfl); (case c4 => decide))
  intro d9 τ9
  have hk0 := hc.1
  have hk1 := hc.2.1
  have hk2 := hc.2.2.1
  have hk3 := hc.2.2.2.1
  have hk4 := hc.2.2.2.2.1
  have hk5 := hc.2.2.2.2.2.1.1
  have hk6 := hc.2.2.2.2.2.1.2
  have hk7 := hc.2.2.2.2.2.2.1
  have hk8 := hc.2.2.2.2.2.2.2
  repeat' wtm_at "W step"
  all_goals (refine End.mk ?_; intro R hR; refine' End.mk2 (hR _ _ _ _ _ _ ?f9) ?slf9; (case slf9 => wtm_at "W sel"); (case f9 => ((simp only [bitAnd_m8, fdiv_8]); omega)))

theorem in_load1_W (w : World) {c cd r sa : Addr} {q0 q1 q2 q3 q4 q5 q6 q7 q8 q9 q10 q11 q12 q13 : Tok} {ix iy sp vi vr f1 f2 vm b1 b2 st : Value} {r0 r1 r2 r3 r4 r5 r6 r7 : Int} {t0 t1 t2 t3 t4 t5 t6 t7 : Tok} {nr : Nat} {tpc : Tok} {ma : Addr} {vs : List Value} {ms : List Int} {nm : Nat} (hc : IntsAre vs ms ∧ ms.length = 16 ∧ (∀ j : Nat, 0 ≤ ms.getD j 0 ∧ ms.getD j 0 < 256) ∧ ms.getD 0 0 = 8 ∧ ms.getD 1 0 = 0) : DoesW w 6 275 [.v (.ref c), .v (.ref ma), .i 3] [(c, instObj 31 cd), (cd, cpuD w q0 q1 q2 q3 q4 q5 q6 q7 q8 q9 q10 q11 q12 q13 r sa ix iy sp (.int 0 tpc) vi vr f1 f2 vm b1 b2 st), (r, regs r0 r1 r2 r3 r4 r5 r6 r7 t0 t1 t2 t3 t4 t5 t6 t7 nr), (ma, W.listOf vs.toArray nm)] (fun R => ∀ up y1 y2 u1 u2 , (y1 = ms.getD 9 0 ∧ y2 = ms.getD 8 0) → R .none [(c, instObj 31 cd), (cd, cpuD w q0 q1 q2 q3 q4 q5 q6 q7 q8 q9 q10 q11 q12 q13 r sa ix iy sp (.int 2 up) vi vr f1 f2 vm b1 b2 st), (r, regs r0 r1 y1 y2 r4 r5 r6 r7 t0 t1 u1 u2 t4 t5 t6 t7 nr), (ma, W.listOf vs.toArray nm)]) := by
  k_dflt (refine' does_ofW (fun τ => [(Str.ofString "cpu", (.ref c)), (Str.ofString "memory", (.ref ma)), (Str.ofString "y", .int 3 (τ 2))]) ?ho ?hcd ?hb ?hl ?c1 ?c2 ?c3 ?c4 ?h9; (case ho => k_is); (case hcd => k_is); (case hb => exact fun τ s => BindsTo.of_eq rfl); (case hl => exact fun τ => locs rfl); (case c1 => exact rfl); (case c2 => exact rfl); (case c3 => exact rfl); (case c4 => decide))
  intro d9 τ9
  have hk0 := hc.1
  have hk1 := hc.2.1
  have hk2 := hc.2.2.1
  have hk3 := hc.2.2.2.1
  have hk4 := hc.2.2.2.2
  repeat' wtm_at "W step"
  all_goals (refine End.mk ?_; intro R hR; refine' End.mk2 (hR _ _ _ _ _ ?f9) ?slf9; (case slf9 => wtm_at "W sel"); (case f9 => (have h8 := hc.2.2.1 8; have h9 := hc.2.2.1 9; omega)))

theorem in_adc2_W (w : World) {c cd r sa : Addr} {q0 q1 q2 q3 q4 q5 q6 q7 q8 q9 q10 q11 q12 q13 : Tok} {ix iy sp pc vi vr f1 f2 vm b1 b2 st : Value} {r0 r1 r2 r3 r4 r5 r6 r7 : Int} {t0 t1 t2 t3 t4 t5 t6 t7 : Tok} {nr : Nat} (hc : (0 ≤ r4 ∧ r4 < 256) ∧ (0 ≤ r5 ∧ r5 < 256)) : DoesW w 5 268 [.v (.ref c), .i 5] [(c, instObj 31 cd), (cd, cpuD w q0 q1 q2 q3 q4 q5 q6 q7 q8 q9 q10 q11 q12 q13 r sa ix iy sp pc vi vr f1 f2 vm b1 b2 st), (r, regs r0 r1 r2 r3 r4 r5 r6 r7 t0 t1 t2 t3 t4 t5 t6 t7 nr)] (fun R => ∀ y4 y5 y6 u4 u5 u6 , (y4 = ((256 * r4 + r5) + (256 * r4 + r5) + r6 % 2) % 65536 / 256 ∧ y5 = ((256 * r4 + r5) + (256 * r4 + r5) + r6 % 2) % 256 ∧ 0 ≤ y6 ∧ y6 < 256 ∧ y6 % 2 = ((256 * r4 + r5) + (256 * r4 + r5) + r6 % 2) / 65536) → R .none [(c, instObj 31 cd), (cd, cpuD w q0 q1 q2 q3 q4 q5 q6 q7 q8 q9 q10 q11 q12 q13 r sa ix iy sp pc vi vr f1 f2 vm b1 b2 st), (r, regs r0 r1 r2 r3 y4 y5 y6 r7 t0 t1 t2 t3 u4 u5 u6 t7 nr)]) := by
  k_dflt (refine' does_ofW (fun τ => [(Str.ofString "cpu", (.ref c)), (Str.ofString "y", .int 5 (τ 1))]) ?ho ?hcd ?hb ?hl ?c1 ?c2 ?c3 ?c4 ?h9; (case ho => k_is); (case hcd => k_is); (case hb => exact fun τ s => BindsTo.of_eq rfl); (case hl => exact fun τ => locs rfl); (case c1 => exact rfl); (case c2 => exact rfl); (case c3 => exact rfl); (case c4 => decide))
  intro d9 τ9
  have hk0 := hc.1.1
  have hk1 := hc.1.2
  have hk2 := hc.2.1
  have hk3 := hc.2.2
  repeat' wtm_at "W step"
  all_goals (refine End.mk ?_; intro R hR; refine' End.mk2 (hR _ _ _ _ _ _ ?f9) ?slf9; (case slf9 => wtm_at "W sel"); (case f9 => exact adc_end (by assumption)))

theorem in_store2_W (w : World) {c cd r sa : Addr} {q0 q1 q2 q3 q4 q5 q6 q7 q8 q9 q10 q11 q12 q13 : Tok} {ix iy sp vi vr f1 f2 vm b1 b2 st : Value} {r0 r1 r2 r3 r4 r5 r6 r7 : Int} {t0 t1 t2 t3 t4 t5 t6 t7 : Tok} {nr : Nat} {tpc : Tok} {ma : Addr} {vs : List Value} {ms : List Int} {nm : Nat} (hc : IntsAre vs ms ∧ ms.length = 16 ∧ (∀ j : Nat, 0 ≤ ms.getD j 0 ∧ ms.getD j 0 < 256) ∧ ms.getD 0 0 = 8 ∧ ms.getD 1 0 = 0 ∧ (0 ≤ r4 ∧ r4 < 256) ∧ (0 ≤ r5 ∧ r5 < 256)) : DoesW w 6 275 [.v (.ref c), .v (.ref ma), .i 4] [(c, instObj 31 cd), (cd, cpuD w q0 q1 q2 q3 q4 q5 q6 q7 q8 q9 q10 q11 q12 q13 r sa ix iy sp (.int 0 tpc) vi vr f1 f2 vm b1 b2 st), (r, regs r0 r1 r2 r3 r4 r5 r6 r7 t0 t1 t2 t3 t4 t5 t6 t7 nr), (ma, W.listOf vs.toArray nm)] (fun R => ∀ up z1 z2 u1 u2 n2 , (z1 = (256 * r4 + r5) % 256 ∧ z2 = (256 * r4 + r5) / 256 % 256) → R .none [(c, instObj 31 cd), (cd, cpuD w q0 q1 q2 q3 q4 q5 q6 q7 q8 q9 q10 q11 q12 q13 r sa ix iy sp (.int 2 up) vi vr f1 f2 vm b1 b2 st), (r, regs r0 r1 r2 r3 r4 r5 r6 r7 t0 t1 t2 t3 t4 t5 t6 t7 nr), (ma, W.listOf ((vs.set 8 (.int z1 u1)).set 9 (.int z2 u2)).toArray n2)]) := by
  k_dflt (refine' does_ofW (fun τ => [(Str.ofString "cpu", (.ref c)), (Str.ofString "memory", (.ref ma)), (Str.ofString "y", .int 4 (τ 2))]) ?ho ?hcd ?hb ?hl ?c1 ?c2 ?c3 ?c4 ?h9; (case ho => k_is); (case hcd => k_is); (case hb => exact fun τ s => BindsTo.of_eq rfl); (case hl => exact fun τ => locs rfl); (case c1 => exact rfl); (case c2 => exact rfl); (case c3 => exact rfl); (case c4 => decide))
  intro d9 τ9
  have hk0 := hc.1
  have hk1 := hc.2.1
  have hk2 := hc.2.2.1
  have hk3 := hc.2.2.2.1
  have hk4 := hc.2.2.2.2.1
  have hk5 := hc.2.2.2.2.2.1.1
  have hk6 := hc.2.2.2.2.2.1.2
  have hk7 := hc.2.2.2.2.2.2.1
  have hk8 := hc.2.2.2.2.2.2.2
  repeat' wtm_at "W step"
  all_goals (refine End.mk ?_; intro R hR; refine' End.mk2 (hR _ _ _ _ _ _ ?f9) ?slf9; (case slf9 => wtm_at "W sel"); (case f9 => ((simp only [bitAnd_m8, fdiv_8]); omega)))

theorem in_load2_W (w : World) {c cd r sa : Addr} {q0 q1 q2 q3 q4 q5 q6 q7 q8 q9 q10 q11 q12 q13 : Tok} {ix iy sp vi vr f1 f2 vm b1 b2 st : Value} {r0 r1 r2 r3 r4 r5 r6 r7 : Int} {t0 t1 t2 t3 t4 t5 t6 t7 : Tok} {nr : Nat} {tpc : Tok} {ma : Addr} {vs : List Value} {ms : List Int} {nm : Nat} (hc : IntsAre vs ms ∧ ms.length = 16 ∧ (∀ j : Nat, 0 ≤ ms.getD j 0 ∧ ms.getD j 0 < 256) ∧ ms.getD 0 0 = 8 ∧ ms.getD 1 0 = 0) : DoesW w 6 275 [.v (.ref c), .v (.ref ma), .i 5] [(c, instObj 31 cd), (cd, cpuD w q0 q1 q2 q3 q4 q5 q6 q7 q8 q9 q10 q11 q12 q13 r sa ix iy sp (.int 0 tpc) vi vr f1 f2 vm b1 b2 st), (r, regs r0 r1 r2 r3 r4 r5 r6 r7 t0 t1 t2 t3 t4 t5 t6 t7 nr), (ma, W.listOf vs.toArray nm)] (fun R => ∀ up y1 y2 u1 u2 , (y1 = ms.getD 9 0 ∧ y2 = ms.getD 8 0) → R .none [(c, instObj 31 cd), (cd, cpuD w q0 q1 q2 q3 q4 q5 q6 q7 q8 q9 q10 q11 q12 q13 r sa ix iy sp (.int 2 up) vi vr f1 f2 vm b1 b2 st), (r, regs r0 r1 r2 r3 y1 y2 r6 r7 t0 t1 t2 t3 u1 u2 t6 t7 nr), (ma, W.listOf vs.toArray nm)]) := by
  k_dflt (refine' does_ofW (fun τ => [(Str.ofString "cpu", (.ref c)), (Str.ofString "memory", (.ref ma)), (Str.ofString "y", .int 5 (τ 2))]) ?ho ?hcd ?hb ?hl ?c1 ?c2 ?c3 ?c4 ?h9; (case ho => k_is); (case hcd => k_is); (case hb => exact fun τ s => BindsTo.of_eq rfl); (case hl => exact fun τ => locs rfl); (case c1 => exact rfl); (case c2 => exact rfl); (case c3 => exact rfl); (case c4 => decide))
  intro d9 τ9
  have hk0 := hc.1
  have hk1 := hc.2.1
  have hk2 := hc.2.2.1
  have hk3 := hc.2.2.2.1
  have hk4 := hc.2.2.2.2
  repeat' wtm_at "W step"
  all_goals (refine End.mk ?_; intro R hR; refine' End.mk2 (hR _ _ _ _ _ ?f9) ?slf9; (case slf9 => wtm_at "W sel"); (case f9 => (have h8 := hc.2.2.1 8; have h9 := hc.2.2.1 9; omega)))

theorem in_adc3_W (w : World) {c cd r sa : Addr} {q0 q1 q2 q3 q4 q5 q6 q7 q8 q9 q10 q11 q12 q13 : Tok} {ix iy pc vi vr f1 f2 vm b1 b2 st : Value} {r0 r1 r2 r3 r4 r5 r6 r7 : Int} {t0 t1 t2 t3 t4 t5 t6 t7 : Tok} {nr : Nat} {vsp : Int} {tsp : Tok} (hc : (0 ≤ r4 ∧ r4 < 256) ∧ (0 ≤ r5 ∧ r5 < 256) ∧ (0 ≤ vsp ∧ vsp < 65536)) : DoesW w 5 268 [.v (.ref c), .i 7] [(c, instObj 31 cd), (cd, cpuD w q0 q1 q2 q3 q4 q5 q6 q7 q8 q9 q10 q11 q12 q13 r sa ix iy (.int vsp tsp) pc vi vr f1 f2 vm b1 b2 st), (r, regs r0 r1 r2 r3 r4 r5 r6 r7 t0 t1 t2 t3 t4 t5 t6 t7 nr)] (fun R => ∀ y4 y5 y6 u4 u5 u6 , (y4 = ((256 * r4 + r5) + vsp + r6 % 2) % 65536 / 256 ∧ y5 = ((256 * r4 + r5) + vsp + r6 % 2) % 256 ∧ 0 ≤ y6 ∧ y6 < 256 ∧ y6 % 2 = ((256 * r4 + r5) + vsp + r6 % 2) / 65536) → R .none [(c, instObj 31 cd), (cd, cpuD w q0 q1 q2 q3 q4 q5 q6 q7 q8 q9 q10 q11 q12 q13 r sa ix iy (.int vsp tsp) pc vi vr f1 f2 vm b1 b2 st), (r, regs r0 r1 r2 r3 y4 y5 y6 r7 t0 t1 t2 t3 u4 u5 u6 t7 nr)]) := by
  k_dflt (refine' does_ofW (fun τ => [(Str.ofString "cpu", (.ref c)), (Str.ofString "y", .int 7 (τ 1))]) ?ho ?hcd ?hb ?hl ?c1 ?c2 ?c3 ?c4 ?h9; (case ho => k_is); (case hcd => k_is); (case hb => exact fun τ s => BindsTo.of_eq rfl); (case hl => exact fun τ => locs rfl); (case c1 => exact rfl); (case c2 => exact rfl); (case c3 => exact rfl); (case c4 => decide))
  intro d9 τ9
  have hk0 := hc.1.1
  have hk1 := hc.1.2
  have hk2 := hc.2.1.1
  have hk3 := hc.2.1.2
  have hk4 := hc.2.2.1
  have hk5 := hc.2.2.2
  repeat' wtm_at "W step"
  all_goals (refine End.mk ?_; intro R hR; refine' End.mk2 (hR _ _ _ _ _ _ ?f9) ?slf9; (case slf9 => wtm_at "W sel"); (case f9 => exact adc_end (by assumption)))

theorem in_sbc3_W (w : World) {c cd r sa : Addr} {q0 q1 q2 q3 q4 q5 q6 q7 q8 q9 q10 q11 q12 q13 : Tok} {ix iy pc vi vr f1 f2 vm b1 b2 st : Value} {r0 r1 r2 r3 r4 r5 r6 r7 : Int} {t0 t1 t2 t3 t4 t5 t6 t7 : Tok} {nr : Nat} {vsp : Int} {tsp : Tok} (hc : (0 ≤ r4 ∧ r4 < 256) ∧ (0 ≤ r5 ∧ r5 < 256) ∧ (0 ≤ vsp ∧ vsp < 65536)) : DoesW w 5 268 [.v (.ref c), .i 6] [(c, instObj 31 cd), (cd, cpuD w q0 q1 q2 q3 q4 q5 q6 q7 q8 q9 q10 q11 q12 q13 r sa ix iy (.int vsp tsp) pc vi vr f1 f2 vm b1 b2 st), (r, regs r0 r1 r2 r3 r4 r5 r6 r7 t0 t1 t2 t3 t4 t5 t6 t7 nr)] (fun R => ∀ y4 y5 y6 u4 u5 u6 , (y4 = ((256 * r4 + r5) - vsp - r6 % 2) % 65536 / 256 ∧ y5 = ((256 * r4 + r5) - vsp - r6 % 2) % 256 ∧ 0 ≤ y6 ∧ y6 < 256) → R .none [(c, instObj 31 cd), (cd, cpuD w q0 q1 q2 q3 q4 q5 q6 q7 q8 q9 q10 q11 q12 q13 r sa ix iy (.int vsp tsp) pc vi vr f1 f2 vm b1 b2 st), (r, regs r0 r1 r2 r3 y4 y5 y6 r7 t0 t1 t2 t3 u4 u5 u6 t7 nr)]) := by
  k_dflt (refine' does_ofW (fun τ => [(Str.ofString "cpu", (.ref c)), (Str.ofString "y", .int 6 (τ 1))]) ?ho ?hcd ?hb ?hl ?c1 ?c2 ?c3 ?c4 ?h9; (case ho => k_is); (case hcd => k_is); (case hb => exact fun τ s => BindsTo.of_eq rfl); (case hl => exact fun τ => locs rfl); (case c1 => exact rfl); (case c2 => exact rfl); (case c3 => exact rfl); (case c4 => decide))
  intro d9 τ9
  have hk0 := hc.1.1
  have hk1 := hc.1.2
  have hk2 := hc.2.1.1
  have hk3 := hc.2.1.2
  have hk4 := hc.2.2.1
  have hk5 := hc.2.2.2
  repeat' wtm_at "W step"
  all_goals (refine End.mk ?_; intro R hR; refine' End.mk2 (hR _ _ _ _ _ _ ?f9) ?slf9; (case slf9 => wtm_at "W sel"); (case f9 => exact sbc_end (by assumption)))

theorem in_store3_W (w : World) {c cd r sa : Addr} {q0 q1 q2 q3 q4 q5 q6 q7 q8 q9 q10 q11 q12 q13 : Tok} {ix iy vi vr f1 f2 vm b1 b2 st : Value} {r0 r1 r2 r3 r4 r5 r6 r7 : Int} {t0 t1 t2 t3 t4 t5 t6 t7 : Tok} {nr : Nat} {tpc : Tok} {vsp : Int} {tsp : Tok} {ma : Addr} {vs : List Value} {ms : List Int} {nm : Nat} (hc : IntsAre vs ms ∧ ms.length = 16 ∧ (∀ j : Nat, 0 ≤ ms.getD j 0 ∧ ms.getD j 0 < 256) ∧ ms.getD 0 0 = 8 ∧ ms.getD 1 0 = 0) : DoesW w 6 275 [.v (.ref c), .v (.ref ma), .i 6] [(c, instObj 31 cd), (cd, cpuD w q0 q1 q2 q3 q4 q5 q6 q7 q8 q9 q10 q11 q12 q13 r sa ix iy (.int vsp tsp) (.int 0 tpc) vi vr f1 f2 vm b1 b2 st), (r, regs r0 r1 r2 r3 r4 r5 r6 r7 t0 t1 t2 t3 t4 t5 t6 t7 nr), (ma, W.listOf vs.toArray nm)] (fun R => ∀ up z1 z2 u1 u2 n2 , (z1 = vsp % 256 ∧ z2 = vsp / 256 % 256) → R .none [(c, instObj 31 cd), (cd, cpuD w q0 q1 q2 q3 q4 q5 q6 q7 q8 q9 q10 q11 q12 q13 r sa ix iy (.int vsp tsp) (.int 2 up) vi vr f1 f2 vm b1 b2 st), (r, regs r0 r1 r2 r3 r4 r5 r6 r7 t0 t1 t2 t3 t4 t5 t6 t7 nr), (ma, W.listOf ((vs.set 8 (.int z1 u1)).set 9 (.int z2 u2)).toArray n2)]) := by
  k_dflt (refine' does_ofW (fun τ => [(Str.ofString "cpu", (.ref c)), (Str.ofString "memory", (.ref ma)), (Str.ofString "y", .int 6 (τ 2))]) ?ho ?hcd ?hb ?hl ?c1 ?c2 ?c3 ?c4 ?h9; (case ho => k_is); (case hcd => k_is); (case hb => exact fun τ s => BindsTo.of_eq rfl); (case hl => exact fun τ => locs rfl); (case c1 => exact rfl); (case c2 => exact rfl); (case c3 => exact rfl); (case c4 => decide))
  intro d9 τ9
  have hk0 := hc.1
  have hk1 := hc.2.1
  have hk2 := hc.2.2.1
  have hk3 := hc.2.2.2.1
  have hk4 := hc.2.2.2.2
  repeat' wtm_at "W step"
  all_goals (refine End.mk ?_; intro R hR; refine' End.mk2 (hR _ _ _ _ _ _ ?f9) ?slf9; (case slf9 => wtm_at "W sel"); (case f9 => ((simp only [bitAnd_m8, fdiv_8]); omega)))

theorem in_load3_W (w : World) {c cd r sa : Addr} {q0 q1 q2 q3 q4 q5 q6 q7 q8 q9 q10 q11 q12 q13 : Tok} {ix iy vi vr f1 f2 vm b1 b2 st : Value} {r0 r1 r2 r3 r4 r5 r6 r7 : Int} {t0 t1 t2 t3 t4 t5 t6 t7 : Tok} {nr : Nat} {tpc : Tok} {vsp : Int} {tsp : Tok} {ma : Addr} {vs : List Value} {ms : List Int} {nm : Nat} (hc : IntsAre vs ms ∧ ms.length = 16 ∧ (∀ j : Nat, 0 ≤ ms.getD j 0 ∧ ms.getD j 0 < 256) ∧ ms.getD 0 0 = 8 ∧ ms.getD 1 0 = 0) : DoesW w 6 275 [.v (.ref c), .v (.ref ma), .i 7] [(c, instObj 31 cd), (cd, cpuD w q0 q1 q2 q3 q4 q5 q6 q7 q8 q9 q10 q11 q12 q13 r sa ix iy (.int vsp tsp) (.int 0 tpc) vi vr f1 f2 vm b1 b2 st), (r, regs r0 r1 r2 r3 r4 r5 r6 r7 t0 t1 t2 t3 t4 t5 t6 t7 nr), (ma, W.listOf vs.toArray nm)] (fun R => ∀ up y1 u1 , (y1 = ms.getD 8 0 + 256 * ms.getD 9 0) → R .none [(c, instObj 31 cd), (cd, cpuD w q0 q1 q2 q3 q4 q5 q6 q7 q8 q9 q10 q11 q12 q13 r sa ix iy (.int y1 u1) (.int 2 up) vi vr f1 f2 vm b1 b2 st), (r, regs r0 r1 r2 r3 r4 r5 r6 r7 t0 t1 t2 t3 t4 t5 t6 t7 nr), (ma, W.listOf vs.toArray nm)]) := by
  k_dflt (refine' does_ofW (fun τ => [(Str.ofString "cpu", (.ref c)), (Str.ofString "memory", (.ref ma)), (Str.ofString "y", .int 7 (τ 2))]) ?ho ?hcd ?hb ?hl ?c1 ?c2 ?c3 ?c4 ?h9; (case ho => k_is); (case hcd => k_is); (case hb => exact fun τ s => BindsTo.of_eq rfl); (case hl => exact fun τ => locs rfl); (case c1 => exact rfl); (case c2 => exact rfl); (case c3 => exact rfl); (case c4 => decide))
  intro d9 τ9
  have hk0 := hc.1
  have hk1 := hc.2.1
  have hk2 := hc.2.2.1
  have hk3 := hc.2.2.2.1
  have hk4 := hc.2.2.2.2
  repeat' wtm_at "W step"
  all_goals (refine End.mk ?_; intro R hR; refine' End.mk2 (hR _ _ _ ?f9) ?slf9; (case slf9 => wtm_at "W sel"); (case f9 => (have h8 := hc.2.2.1 8; have h9 := hc.2.2.1 9; omega)))

theorem in_put0_W (w : World) {c cd r sa : Addr} {q0 q1 q2 q3 q4 q5 q6 q7 q8 q9 q10 q11 q12 q13 : Tok} {ix iy sp pc vi vr f1 f2 vm b1 b2 st : Value} {r0 r1 r2 r3 r4 r5 r6 r7 : Int} {t0 t1 t2 t3 t4 t5 t6 t7 : Tok} {nr : Nat} {ma : Addr} : DoesW w 5 282 [.v (.ref c), .v (.ref ma), .i 0] [(c, instObj 31 cd), (cd, cpuD w q0 q1 q2 q3 q4 q5 q6 q7 q8 q9 q10 q11 q12 q13 r sa ix iy sp pc vi vr f1 f2 vm b1 b2 st), (r, regs r0 r1 r2 r3 r4 r5 r6 r7 t0 t1 t2 t3 t4 t5 t6 t7 nr)] (fun R => ∀ u u7, R (.int 9 u) [(c, instObj 31 cd), (cd, cpuD w q0 q1 q2 q3 q4 q5 q6 q7 q8 q9 q10 q11 q12 q13 r sa ix iy sp pc (.int r7 u7) vr f1 f2 vm b1 b2 st), (r, regs r0 r1 r2 r3 r4 r5 r6 r7 t0 t1 t2 t3 t4 t5 t6 t7 nr)]) := by
  k_dflt (refine' does_ofW (fun τ => [(Str.ofString "cpu", (.ref c)), (Str.ofString "memory", (.ref ma)), (Str.ofString "y", .int 0 (τ 2))]) ?ho ?hcd ?hb ?hl ?c1 ?c2 ?c3 ?c4 ?h9; (case ho => k_is); (case hcd => k_is); (case hb => exact fun τ s => BindsTo.of_eq rfl); (case hl => exact fun τ => locs rfl); (case c1 => exact rfl); (case c2 => exact rfl); (case c3 => exact rfl); (case c4 => decide))
  intro d9 τ9
  repeat' wtm_at "W step"
  all_goals (refine End.mk ?_; intro R hR; refine' End.mk2 (hR _ _) ?slf9; (case slf9 => wtm_at "W sel"))

theorem in_put1_W (w : World) {c cd r sa : Addr} {q0 q1 q2 q3 q4 q5 q6 q7 q8 q9 q10 q11 q12 q13 : Tok} {ix iy sp pc vi vr f1 f2 vm b1 b2 st : Value} {r0 r1 r2 r3 r4 r5 r6 r7 : Int} {t0 t1 t2 t3 t4 t5 t6 t7 : Tok} {nr : Nat} {ma : Addr} : DoesW w 5 282 [.v (.ref c), .v (.ref ma), .i 1] [(c, instObj 31 cd), (cd, cpuD w q0 q1 q2 q3 q4 q5 q6 q7 q8 q9 q10 q11 q12 q13 r sa ix iy sp pc vi vr f1 f2 vm b1 b2 st), (r, regs r0 r1 r2 r3 r4 r5 r6 r7 t0 t1 t2 t3 t4 t5 t6 t7 nr)] (fun R => ∀ u u7, R (.int 9 u) [(c, instObj 31 cd), (cd, cpuD w q0 q1 q2 q3 q4 q5 q6 q7 q8 q9 q10 q11 q12 q13 r sa ix iy sp pc vi (.int r7 u7) f1 f2 vm b1 b2 st), (r, regs r0 r1 r2 r3 r4 r5 r6 r7 t0 t1 t2 t3 t4 t5 t6 t7 nr)]) := by
  k_dflt (refine' does_ofW (fun τ => [(Str.ofString "cpu", (.ref c)), (Str.ofString "memory", (.ref ma)), (Str.ofString "y", .int 1 (τ 2))]) ?ho ?hcd ?hb ?hl ?c1 ?c2 ?c3 ?c4 ?h9; (case ho => k_is); (case hcd => k_is); (case hb => exact fun τ s => BindsTo.of_eq rfl); (case hl => exact fun τ => locs rfl); (case c1 => exact rfl); (case c2 => exact rfl); (case c3 => exact rfl); (case c4 => decide))
  intro d9 τ9
  repeat' wtm_at "W step"
  all_goals (refine End.mk ?_; intro R hR; refine' End.mk2 (hR _ _) ?slf9; (case slf9 => wtm_at "W sel"))

theorem in_take2_W (w : World) {c cd r sa : Addr} {q0 q1 q2 q3 q4 q5 q6 q7 q8 q9 q10 q11 q12 q13 : Tok} {ix iy sp pc vr f1 vm b1 b2 st : Value} {r0 r1 r2 r3 r4 r5 r6 r7 : Int} {t0 t1 t2 t3 t4 t5 t6 t7 : Tok} {nr : Nat} {g : Int} {tg tf2 : Tok} {ma : Addr} : DoesW w 5 282 [.v (.ref c), .v (.ref ma), .i 2] [(c, instObj 31 cd), (cd, cpuD w q0 q1 q2 q3 q4 q5 q6 q7 q8 q9 q10 q11 q12 q13 r sa ix iy sp pc (.int g tg) vr f1 (.int 0 tf2) vm b1 b2 st), (r, regs r0 r1 r2 r3 r4 r5 r6 r7 t0 t1 t2 t3 t4 t5 t6 t7 nr)] (fun R => ∀ y6 u u6 u7, (0 ≤ y6 ∧ y6 < 256) → R (.int 9 u) [(c, instObj 31 cd), (cd, cpuD w q0 q1 q2 q3 q4 q5 q6 q7 q8 q9 q10 q11 q12 q13 r sa ix iy sp pc (.int g tg) vr f1 (.int 0 tf2) vm b1 b2 st), (r, regs r0 r1 r2 r3 r4 r5 y6 g t0 t1 t2 t3 t4 t5 u6 u7 nr)]) := by
  k_dflt (refine' does_ofW (fun τ => [(Str.ofString "cpu", (.ref c)), (Str.ofString "memory", (.ref ma)), (Str.ofString "y", .int 2 (τ 2))]) ?ho ?hcd ?hb ?hl ?c1 ?c2 ?c3 ?c4 ?h9; (case ho => k_is); (case hcd => k_is); (case hb => exact fun τ s => BindsTo.of_eq rfl); (case hl => exact fun τ => locs rfl); (case c1 => exact rfl); (case c2 => exact rfl); (case c3 => exact rfl); (case c4 => decide))
  intro d9 τ9
  repeat' wtm_at "W step"
  all_goals (refine End.mk ?_; intro R hR; refine' End.mk2 (hR _ _ _ _ ?f9) ?slf9; (case slf9 => wtm_at "W sel"); (case f9 => assumption))

theorem in_take3_W (w : World) {c cd r sa : Addr} {q0 q1 q2 q3 q4 q5 q6 q7 q8 q9 q10 q11 q12 q13 : Tok} {ix iy sp pc vi f1 vm b1 b2 st : Value} {r0 r1 r2 r3 r4 r5 r6 r7 : Int} {t0 t1 t2 t3 t4 t5 t6 t7 : Tok} {nr : Nat} {g : Int} {tg tf2 : Tok} {ma : Addr} : DoesW w 5 282 [.v (.ref c), .v (.ref ma), .i 3] [(c, instObj 31 cd), (cd, cpuD w q0 q1 q2 q3 q4 q5 q6 q7 q8 q9 q10 q11 q12 q13 r sa ix iy sp pc vi (.int g tg) f1 (.int 0 tf2) vm b1 b2 st), (r, regs r0 r1 r2 r3 r4 r5 r6 r7 t0 t1 t2 t3 t4 t5 t6 t7 nr)] (fun R => ∀ y6 u u6 u7, (0 ≤ y6 ∧ y6 < 256) → R (.int 9 u) [(c, instObj 31 cd), (cd, cpuD w q0 q1 q2 q3 q4 q5 q6 q7 q8 q9 q10 q11 q12 q13 r sa ix iy sp pc vi (.int g tg) f1 (.int 0 tf2) vm b1 b2 st), (r, regs r0 r1 r2 r3 r4 r5 y6 g t0 t1 t2 t3 t4 t5 u6 u7 nr)]) := by
  k_dflt (refine' does_ofW (fun τ => [(Str.ofString "cpu", (.ref c)), (Str.ofString "memory", (.ref ma)), (Str.ofString "y", .int 3 (τ 2))]) ?ho ?hcd ?hb ?hl ?c1 ?c2 ?c3 ?c4 ?h9; (case ho => k_is); (case hcd => k_is); (case hb => exact fun τ s => BindsTo.of_eq rfl); (case hl => exact fun τ => locs rfl); (case c1 => exact rfl); (case c2 => exact rfl); (case c3 => exact rfl); (case c4 => decide))
  intro d9 τ9
  repeat' wtm_at "W step"
  all_goals (refine End.mk ?_; intro R hR; refine' End.mk2 (hR _ _ _ _ ?f9) ?slf9; (case slf9 => wtm_at "W sel"); (case f9 => assumption))

theorem in_turn4_W (w : World) {c cd r sa : Addr} {q0 q1 q2 q3 q4 q5 q6 q7 q8 q9 q10 q11 q12 q13 : Tok} {ix iy sp pc vi vr f1 f2 vm b1 b2 st : Value} {r0 r1 r2 r3 r4 r5 r6 r7 : Int} {t0 t1 t2 t3 t4 t5 t6 t7 : Tok} {nr : Nat} {ma : Addr} {vs : List Value} {ms : List Int} {nm : Nat} (hc : (IntsAre vs ms ∧ ms.length = 16 ∧ ∀ j : Nat, 0 ≤ ms.getD j 0 ∧ ms.getD j 0 < 256) ∧ (0 ≤ r4 ∧ r4 < 256) ∧ (0 ≤ r5 ∧ r5 < 256) ∧ (0 ≤ r7 ∧ r7 < 256)) : DoesW w 5 282 [.v (.ref c), .v (.ref ma), .i 4] [(c, instObj 31 cd), (cd, cpuD w q0 q1 q2 q3 q4 q5 q6 q7 q8 q9 q10 q11 q12 q13 r sa ix iy sp pc vi vr f1 f2 vm b1 b2 st), (r, regs r0 r1 r2 r3 r4 r5 r6 r7 t0 t1 t2 t3 t4 t5 t6 t7 nr), (ma, W.listOf vs.toArray nm)] (fun R => ∀ y6 z u u6 u7 u3 n2, ((0 ≤ y6 ∧ y6 < 256) ∧ z = r7 % 16 * 16 + ms.getD ((256 * r4 + r5) % 16).toNat 0 / 16) → R (.int 18 u) [(c, instObj 31 cd), (cd, cpuD w q0 q1 q2 q3 q4 q5 q6 q7 q8 q9 q10 q11 q12 q13 r sa ix iy sp pc vi vr f1 f2 vm b1 b2 st), (r, regs r0 r1 r2 r3 r4 r5 y6 (r7 / 16 * 16 + ms.getD ((256 * r4 + r5) % 16).toNat 0 % 16) t0 t1 t2 t3 t4 t5 u6 u7 nr), (ma, W.listOf (vs.set ((256 * r4 + r5) % 16).toNat (.int z u3)).toArray n2)]) := by
  k_dflt (refine' does_ofW (fun τ => [(Str.ofString "cpu", (.ref c)), (Str.ofString "memory", (.ref ma)), (Str.ofString "y", .int 4 (τ 2))]) ?ho ?hcd ?hb ?hl ?c1 ?c2 ?c3 ?c4 ?h9; (case ho => k_is); (case hcd => k_is); (case hb => exact fun τ s => BindsTo.of_eq rfl); (case hl => exact fun τ => locs rfl); (case c1 => exact rfl); (case c2 => exact rfl); (case c3 => exact rfl); (case c4 => decide))
  intro d9 τ9
  have hk0 := hc.1.1
  have hk1 := hc.1.2.1
  have hk2 := hc.1.2.2
  have hk3 := hc.2.1.1
  have hk4 := hc.2.1.2
  have hk5 := hc.2.2.1.1
  have hk6 := hc.2.2.1.2
  have hk7 := hc.2.2.2.1
  have hk8 := hc.2.2.2.2
  repeat' wtm_at "W step"
  all_goals (refine End.mk ?_; intro R hR; refine' End.mk2 (hR _ _ _ _ _ _ _ ?f9) ?slf9; (case slf9 => wtm_at "W sel"); (case f9 => exact ⟨by assumption, rot_z2 _ (hc.1.2.2 _).1 (hc.1.2.2 _).2⟩))

theorem in_turn5_W (w : World) {c cd r sa : Addr} {q0 q1 q2 q3 q4 q5 q6 q7 q8 q9 q10 q11 q12 q13 : Tok} {ix iy sp pc vi vr f1 f2 vm b1 b2 st : Value} {r0 r1 r2 r3 r4 r5 r6 r7 : Int} {t0 t1 t2 t3 t4 t5 t6 t7 : Tok} {nr : Nat} {ma : Addr} {vs : List Value} {ms : List Int} {nm : Nat} (hc : (IntsAre vs ms ∧ ms.length = 16 ∧ ∀ j : Nat, 0 ≤ ms.getD j 0 ∧ ms.getD j 0 < 256) ∧ (0 ≤ r4 ∧ r4 < 256) ∧ (0 ≤ r5 ∧ r5 < 256) ∧ (0 ≤ r7 ∧ r7 < 256)) : DoesW w 5 282 [.v (.ref c), .v (.ref ma), .i 5] [(c, instObj 31 cd), (cd, cpuD w q0 q1 q2 q3 q4 q5 q6 q7 q8 q9 q10 q11 q12 q13 r sa ix iy sp pc vi vr f1 f2 vm b1 b2 st), (r, regs r0 r1 r2 r3 r4 r5 r6 r7 t0 t1 t2 t3 t4 t5 t6 t7 nr), (ma, W.listOf vs.toArray nm)] (fun R => ∀ y6 z u u6 u7 u3 n2, ((0 ≤ y6 ∧ y6 < 256) ∧ z = ms.getD ((256 * r4 + r5) % 16).toNat 0 % 16 * 16 + r7 % 16) → R (.int 18 u) [(c, instObj 31 cd), (cd, cpuD w q0 q1 q2 q3 q4 q5 q6 q7 q8 q9 q10 q11 q12 q13 r sa ix iy sp pc vi vr f1 f2 vm b1 b2 st), (r, regs r0 r1 r2 r3 r4 r5 y6 (r7 / 16 * 16 + ms.getD ((256 * r4 + r5) % 16).toNat 0 / 16) t0 t1 t2 t3 t4 t5 u6 u7 nr), (ma, W.listOf (vs.set ((256 * r4 + r5) % 16).toNat (.int z u3)).toArray n2)]) := by
  k_dflt (refine' does_ofW (fun τ => [(Str.ofString "cpu", (.ref c)), (Str.ofString "memory", (.ref ma)), (Str.ofString "y", .int 5 (τ 2))]) ?ho ?hcd ?hb ?hl ?c1 ?c2 ?c3 ?c4 ?h9; (case ho => k_is); (case hcd => k_is); (case hb => exact fun τ s => BindsTo.of_eq rfl); (case hl => exact fun τ => locs rfl); (case c1 => exact rfl); (case c2 => exact rfl); (case c3 => exact rfl); (case c4 => decide))
  intro d9 τ9
  have hk0 := hc.1.1
  have hk1 := hc.1.2.1
  have hk2 := hc.1.2.2
  have hk3 := hc.2.1.1
  have hk4 := hc.2.1.2
  have hk5 := hc.2.2.1.1
  have hk6 := hc.2.2.1.2
  have hk7 := hc.2.2.2.1
  have hk8 := hc.2.2.2.2
  repeat' wtm_at "W step"
  all_goals (refine End.mk ?_; intro R hR; refine' End.mk2 (hR _ _ _ _ _ _ _ ?f9) ?slf9; (case slf9 => wtm_at "W sel"); (case f9 => exact ⟨by assumption, rot_z1 _ _⟩))

theorem in_no6_W (w : World) {c ma : Addr} : DoesW w 5 282 [.v (.ref c), .v (.ref ma), .i 6] [] (fun R => ∀ u, R (.int 8 u) []) := by
  k_dflt (refine' does_ofW (fun τ => [(Str.ofString "cpu", (.ref c)), (Str.ofString "memory", (.ref ma)), (Str.ofString "y", .int 6 (τ 2))]) ?ho ?hcd ?hb ?hl ?c1 ?c2 ?c3 ?c4 ?h9; (case ho => k_is); (case hcd => k_is); (case hb => exact fun τ s => BindsTo.of_eq rfl); (case hl => exact fun τ => locs rfl); (case c1 => exact rfl); (case c2 => exact rfl); (case c3 => exact rfl); (case c4 => decide))
  intro d9 τ9
  repeat' wtm_at "W step"
  all_goals (refine End.mk ?_; intro R hR; refine' End.mk2 (hR _) ?slf9; (case slf9 => wtm_at "W sel"))

theorem in_no7_W (w : World) {c ma : Addr} : DoesW w 5 282 [.v (.ref c), .v (.ref ma), .i 7] [] (fun R => ∀ u, R (.int 8 u) []) := by
  k_dflt (refine' does_ofW (fun τ => [(Str.ofString "cpu", (.ref c)), (Str.ofString "memory", (.ref ma)), (Str.ofString "y", .int 7 (τ 2))]) ?ho ?hcd ?hb ?hl ?c1 ?c2 ?c3 ?c4 ?h9; (case ho => k_is); (case hcd => k_is); (case hb => exact fun τ s => BindsTo.of_eq rfl); (case hl => exact fun τ => locs rfl); (case c1 => exact rfl); (case c2 => exact rfl); (case c3 => exact rfl); (case c4 => decide))
  intro d9 τ9
  repeat' wtm_at "W step"
  all_goals (refine End.mk ?_; intro R hR; refine' End.mk2 (hR _) ?slf9; (case slf9 => wtm_at "W sel"))
end
section
local macro_rules | `(tactic| wtm_at "W con") => `(tactic| first | apply in_adc0_W | apply in_sbc0_W | apply in_store0_W | apply in_load0_W | apply in_adc1_W | apply in_sbc1_W | apply in_store1_W | apply in_load1_W | apply in_adc2_W | apply in_store2_W | apply in_load2_W | apply in_adc3_W | apply in_sbc3_W | apply in_store3_W | apply in_load3_W | apply in_put0_W | apply in_put1_W | apply in_take2_W | apply in_take3_W | apply in_turn4_W | apply in_turn5_W | apply in_no6_W | apply in_no7_W | apply neg_W)

theorem ed_adc0_W (w : World) {c cd r sa : Addr} {q0 q1 q2 q3 q4 q5 q6 q7 q8 q9 q10 q11 q12 q13 : Tok} {ix iy sp pc vi vr f1 f2 vm b1 b2 st : Value} {r0 r1 r2 r3 r4 r5 r6 r7 : Int} {t0 t1 t2 t3 t4 t5 t6 t7 : Tok} {nr : Nat} {ma po : Addr} (hc : (0 ≤ r0 ∧ r0 < 256) ∧ (0 ≤ r1 ∧ r1 < 256) ∧ (0 ≤ r4 ∧ r4 < 256) ∧ (0 ≤ r5 ∧ r5 < 256)) : DoesW w 7 254 [.v (.ref c), .v (.ref ma), .v (.ref po), .i 74] [(c, instObj 31 cd), (cd, cpuD w q0 q1 q2 q3 q4 q5 q6 q7 q8 q9 q10 q11 q12 q13 r sa ix iy sp pc vi vr f1 f2 vm b1 b2 st), (r, regs r0 r1 r2 r3 r4 r5 r6 r7 t0 t1 t2 t3 t4 t5 t6 t7 nr)] (fun R => ∀ y4 y5 y6 u4 u5 u6 u , (y4 = ((256 * r4 + r5) + (256 * r0 + r1) + r6 % 2) % 65536 / 256 ∧ y5 = ((256 * r4 + r5) + (256 * r0 + r1) + r6 % 2) % 256 ∧ 0 ≤ y6 ∧ y6 < 256 ∧ y6 % 2 = ((256 * r4 + r5) + (256 * r0 + r1) + r6 % 2) / 65536) → R (.int 15 u) [(c, instObj 31 cd), (cd, cpuD w q0 q1 q2 q3 q4 q5 q6 q7 q8 q9 q10 q11 q12 q13 r sa ix iy sp pc vi vr f1 f2 vm b1 b2 st), (r, regs r0 r1 r2 r3 y4 y5 y6 r7 t0 t1 t2 t3 u4 u5 u6 t7 nr)]) := by
  k_dflt (refine' does_ofW (fun τ => [(Str.ofString "cpu", (.ref c)), (Str.ofString "memory", (.ref ma)), (Str.ofString "ports", (.ref po)), (Str.ofString "octet", .int 74 (τ 3))]) ?ho ?hcd ?hb ?hl ?c1 ?c2 ?c3 ?c4 ?h9; (case ho => k_is); (case hcd => k_is); (case hb => exact fun τ s => BindsTo.of_eq rfl); (case hl => exact fun τ => locs rfl); (case c1 => exact rfl); (case c2 => exact rfl); (case c3 => exact rfl); (case c4 => decide))
  intro d9 τ9
  have hk0 := hc.1.1
  have hk1 := hc.1.2
  have hk2 := hc.2.1.1
  have hk3 := hc.2.1.2
  have hk4 := hc.2.2.1.1
  have hk5 := hc.2.2.1.2
  have hk6 := hc.2.2.2.1
  have hk7 := hc.2.2.2.2
  repeat' wtm_at "W step"
  all_goals (refine End.mk ?_; intro R hR; refine' End.mk2 (hR _ _ _ _ _ _ _ ?f9) ?slf9; (case slf9 => wtm_at "W sel"); (case f9 => assumption))

theorem ed_sbc0_W (w : World) {c cd r sa : Addr} {q0 q1 q2 q3 q4 q5 q6 q7 q8 q9 q10 q11 q12 q13 : Tok} {ix iy sp pc vi vr f1 f2 vm b1 b2 st : Value} {r0 r1 r2 r3 r4 r5 r6 r7 : Int} {t0 t1 t2 t3 t4 t5 t6 t7 : Tok} {nr : Nat} {ma po : Addr} (hc : (0 ≤ r0 ∧ r0 < 256) ∧ (0 ≤ r1 ∧ r1 < 256) ∧ (0 ≤ r4 ∧ r4 < 256) ∧ (0 ≤ r5 ∧ r5 < 256)) : DoesW w 7 254 [.v (.ref c), .v (.ref ma), .v (.ref po), .i 66] [(c, instObj 31 cd), (cd, cpuD w q0 q1 q2 q3 q4 q5 q6 q7 q8 q9 q10 q11 q12 q13 r sa ix iy sp pc vi vr f1 f2 vm b1 b2 st), (r, regs r0 r1 r2 r3 r4 r5 r6 r7 t0 t1 t2 t3 t4 t5 t6 t7 nr)] (fun R => ∀ y4 y5 y6 u4 u5 u6 u , (y4 = ((256 * r4 + r5) - (256 * r0 + r1) - r6 % 2) % 65536 / 256 ∧ y5 = ((256 * r4 + r5) - (256 * r0 + r1) - r6 % 2) % 256 ∧ 0 ≤ y6 ∧ y6 < 256) → R (.int 15 u) [(c, instObj 31 cd), (cd, cpuD w q0 q1 q2 q3 q4 q5 q6 q7 q8 q9 q10 q11 q12 q13 r sa ix iy sp pc vi vr f1 f2 vm b1 b2 st), (r, regs r0 r1 r2 r3 y4 y5 y6 r7 t0 t1 t2 t3 u4 u5 u6 t7 nr)]) := by
  k_dflt (refine' does_ofW (fun τ => [(Str.ofString "cpu", (.ref c)), (Str.ofString "memory", (.ref ma)), (Str.ofString "ports", (.ref po)), (Str.ofString "octet", .int 66 (τ 3))]) ?ho ?hcd ?hb ?hl ?c1 ?c2 ?c3 ?c4 ?h9; (case ho => k_is); (case hcd => k_is); (case hb => exact fun τ s => BindsTo.of_eq rfl); (case hl => exact fun τ => locs rfl); (case c1 => exact rfl); (case c2 => exact rfl); (case c3 => exact rfl); (case c4 => decide))
  intro d9 τ9
  have hk0 := hc.1.1
  have hk1 := hc.1.2
  have hk2 := hc.2.1.1
  have hk3 := hc.2.1.2
  have hk4 := hc.2.2.1.1
  have hk5 := hc.2.2.1.2
  have hk6 := hc.2.2.2.1
  have hk7 := hc.2.2.2.2
  repeat' wtm_at "W step"
  all_goals (refine End.mk ?_; intro R hR; refine' End.mk2 (hR _ _ _ _ _ _ _ ?f9) ?slf9; (case slf9 => wtm_at "W sel"); (case f9 => assumption))

theorem ed_store0_W (w : World) {c cd r sa : Addr} {q0 q1 q2 q3 q4 q5 q6 q7 q8 q9 q10 q11 q12 q13 : Tok} {ix iy sp vi vr f1 f2 vm b1 b2 st : Value} {r0 r1 r2 r3 r4 r5 r6 r7 : Int} {t0 t1 t2 t3 t4 t5 t6 t7 : Tok} {nr : Nat} {tpc : Tok} {ma : Addr} {vs : List Value} {ms : List Int} {nm : Nat} {po : Addr} (hc : IntsAre vs ms ∧ ms.length = 16 ∧ (∀ j : Nat, 0 ≤ ms.getD j 0 ∧ ms.getD j 0 < 256) ∧ ms.getD 0 0 = 8 ∧ ms.getD 1 0 = 0 ∧ (0 ≤ r0 ∧ r0 < 256) ∧ (0 ≤ r1 ∧ r1 < 256)) : DoesW w 7 254 [.v (.ref c), .v (.ref ma), .v (.ref po), .i 67] [(c, instObj 31 cd), (cd, cpuD w q0 q1 q2 q3 q4 q5 q6 q7 q8 q9 q10 q11 q12 q13 r sa ix iy sp (.int 0 tpc) vi vr f1 f2 vm b1 b2 st), (r, regs r0 r1 r2 r3 r4 r5 r6 r7 t0 t1 t2 t3 t4 t5 t6 t7 nr), (ma, W.listOf vs.toArray nm)] (fun R => ∀ up z1 z2 u1 u2 n2 u , (z1 = (256 * r0 + r1) % 256 ∧ z2 = (256 * r0 + r1) / 256 % 256) → R (.int 20 u) [(c, instObj 31 cd), (cd, cpuD w q0 q1 q2 q3 q4 q5 q6 q7 q8 q9 q10 q11 q12 q13 r sa ix iy sp (.int 2 up) vi vr f1 f2 vm b1 b2 st), (r, regs r0 r1 r2 r3 r4 r5 r6 r7 t0 t1 t2 t3 t4 t5 t6 t7 nr), (ma, W.listOf ((vs.set 8 (.int z1 u1)).set 9 (.int z2 u2)).toArray n2)]) := by
  k_dflt (refine' does_ofW (fun τ => [(Str.ofString "cpu", (.ref c)), (Str.ofString "memory", (.ref ma)), (Str.ofString "ports", (.ref po)), (Str.ofString "octet", .int 67 (τ 3))]) ?ho ?hcd ?hb ?hl ?c1 ?c2 ?c3 ?c4 ?h9; (case ho => k_is); (case hcd => k_is); (case hb => exact fun τ s => BindsTo.of_eq rfl); (case hl => exact fun τ => locs rfl); (case c1 => exact rfl); (case c2 => exact rfl); (case c3 => exact rfl); (case c4 => decide))
  intro d9 τ9
  have hk0 := hc.1
  have hk1 := hc.2.1
  have hk2 := hc.2.2.1
  have hk3 := hc.2.2.2.1
  have hk4 := hc.2.2.2.2.1
  have hk5 := hc.2.2.2.2.2.1.1
  have hk6 := hc.2.2.2.2.2.1.2
  have hk7 := hc.2.2.2.2.2.2.1
  have hk8 := hc.2.2.2.2.2.2.2
  repeat' wtm_at "W step"
  all_goals (refine End.mk ?_; intro R hR; refine' End.mk2 (hR _ _ _ _ _ _ _ ?f9) ?slf9; (case slf9 => wtm_at "W sel"); (case f9 => assumption))

theorem ed_load0_W (w : World) {c cd r sa : Addr} {q0 q1 q2 q3 q4 q5 q6 q7 q8 q9 q10 q11 q12 q13 : Tok} {ix iy sp vi vr f1 f2 vm b1 b2 st : Value} {r0 r1 r2 r3 r4 r5 r6 r7 : Int} {t0 t1 t2 t3 t4 t5 t6 t7 : Tok} {nr : Nat} {tpc : Tok} {ma : Addr} {vs : List Value} {ms : List Int} {nm : Nat} {po : Addr} (hc : IntsAre vs ms ∧ ms.length = 16 ∧ (∀ j : Nat, 0 ≤ ms.getD j 0 ∧ ms.getD j 0 < 256) ∧ ms.getD 0 0 = 8 ∧ ms.getD 1 0 = 0) : DoesW w 7 254 [.v (.ref c), .v (.ref ma), .v (.ref po), .i 75] [(c, instObj 31 cd), (cd, cpuD w q0 q1 q2 q3 q4 q5 q6 q7 q8 q9 q10 q11 q12 q13 r sa ix iy sp (.int 0 tpc) vi vr f1 f2 vm b1 b2 st), (r, regs r0 r1 r2 r3 r4 r5 r6 r7 t0 t1 t2 t3 t4 t5 t6 t7 nr), (ma, W.listOf vs.toArray nm)] (fun R => ∀ up y1 y2 u1 u2 u , (y1 = ms.getD 9 0 ∧ y2 = ms.getD 8 0) → R (.int 20 u) [(c, instObj 31 cd), (cd, cpuD w q0 q1 q2 q3 q4 q5 q6 q7 q8 q9 q10 q11 q12 q13 r sa ix iy sp (.int 2 up) vi vr f1 f2 vm b1 b2 st), (r, regs y1 y2 r2 r3 r4 r5 r6 r7 u1 u2 t2 t3 t4 t5 t6 t7 nr), (ma, W.listOf vs.toArray nm)]) := by
  k_dflt (refine' does_ofW (fun τ => [(Str.ofString "cpu", (.ref c)), (Str.ofString "memory", (.ref ma)), (Str.ofString "ports", (.ref po)), (Str.ofString "octet", .int 75 (τ 3))]) ?ho ?hcd ?hb ?hl ?c1 ?c2 ?c3 ?c4 ?h9; (case ho => k_is); (case hcd => k_is); (case hb => exact fun τ s => BindsTo.of_eq rfl); (case hl => exact fun τ => locs rfl); (case c1 => exact rfl); (case c2 => exact rfl); (case c3 => exact rfl); (case c4 => decide))
  intro d9 τ9
  have hk0 := hc.1
  have hk1 := hc.2.1
  have hk2 := hc.2.2.1
  have hk3 := hc.2.2.2.1
  have hk4 := hc.2.2.2.2
  repeat' wtm_at "W step"
  all_goals (refine End.mk ?_; intro R hR; refine' End.mk2 (hR _ _ _ _ _ _ ?f9) ?slf9; (case slf9 => wtm_at "W sel"); (case f9 => assumption))

theorem ed_adc1_W (w : World) {c cd r sa : Addr} {q0 q1 q2 q3 q4 q5 q6 q7 q8 q9 q10 q11 q12 q13 : Tok} {ix iy sp pc vi vr f1 f2 vm b1 b2 st : Value} {r0 r1 r2 r3 r4 r5 r6 r7 : Int} {t0 t1 t2 t3 t4 t5 t6 t7 : Tok} {nr : Nat} {ma po : Addr} (hc : (0 ≤ r2 ∧ r2 < 256) ∧ (0 ≤ r3 ∧ r3 < 256) ∧ (0 ≤ r4 ∧ r4 < 256) ∧ (0 ≤ r5 ∧ r5 < 256)) : DoesW w 7 254 [.v (.ref c), .v (.ref ma), .v (.ref po), .i 90] [(c, instObj 31 cd), (cd, cpuD w q0 q1 q2 q3 q4 q5 q6 q7 q8 q9 q10 q11 q12 q13 r sa ix iy sp pc vi vr f1 f2 vm b1 b2 st), (r, regs r0 r1 r2 r3 r4 r5 r6 r7 t0 t1 t2 t3 t4 t5 t6 t7 nr)] (fun R => ∀ y4 y5 y6 u4 u5 u6 u , (y4 = ((256 * r4 + r5) + (256 * r2 + r3) + r6 % 2) % 65536 / 256 ∧ y5 = ((256 * r4 + r5) + (256 * r2 + r3) + r6 % 2) % 256 ∧ 0 ≤ y6 ∧ y6 < 256 ∧ y6 % 2 = ((256 * r4 + r5) + (256 * r2 + r3) + r6 % 2) / 65536) → R (.int 15 u) [(c, instObj 31 cd), (cd, cpuD w q0 q1 q2 q3 q4 q5 q6 q7 q8 q9 q10 q11 q12 q13 r sa ix iy sp pc vi vr f1 f2 vm b1 b2 st), (r, regs r0 r1 r2 r3 y4 y5 y6 r7 t0 t1 t2 t3 u4 u5 u6 t7 nr)]) := by
  k_dflt (refine' does_ofW (fun τ => [(Str.ofString "cpu", (.ref c)), (Str.ofString "memory", (.ref ma)), (Str.ofString "ports", (.ref po)), (Str.ofString "octet", .int 90 (τ 3))]) ?ho ?hcd ?hb ?hl ?c1 ?c2 ?c3 ?c4 ?h9; (case ho => k_is); (case hcd => k_is); (case hb => exact fun τ s => BindsTo.of_eq rfl); (case hl => exact fun τ => locs rfl); (case c1 => exact rfl); (case c2 => exact rfl); (case c3 => exact rfl); (case c4 => decide))
  intro d9 τ9
  have hk0 := hc.1.1
  have hk1 := hc.1.2
  have hk2 := hc.2.1.1
  have hk3 := hc.2.1.2
  have hk4 := hc.2.2.1.1
  have hk5 := hc.2.2.1.2
  have hk6 := hc.2.2.2.1
  have hk7 := hc.2.2.2.2
  repeat' wtm_at "W step"
  all_goals (refine End.mk ?_; intro R hR; refine' End.mk2 (hR _ _ _ _ _ _ _ ?f9) ?slf9; (case slf9 => wtm_at "W sel"); (case f9 => assumption))

theorem ed_sbc1_W (w : World) {c cd r sa : Addr} {q0 q1 q2 q3 q4 q5 q6 q7 q8 q9 q10 q11 q12 q13 : Tok} {ix iy sp pc vi vr f1 f2 vm b1 b2 st : Value} {r0 r1 r2 r3 r4 r5 r6 r7 : Int} {t0 t1 t2 t3 t4 t5 t6 t7 : Tok} {nr : Nat} {ma po : Addr} (hc : (0 ≤ r2 ∧ r2 < 256) ∧ (0 ≤ r3 ∧ r3 < 256) ∧ (0 ≤ r4 ∧ r4 < 256) ∧ (0 ≤ r5 ∧ r5 < 256)) : DoesW w 7 254 [.v (.ref c), .v (.ref ma), .v (.ref po), .i 82] [(c, instObj 31 cd), (cd, cpuD w q0 q1 q2 q3 q4 q5 q6 q7 q8 q9 q10 q11 q12 q13 r sa ix iy sp pc vi vr f1 f2 vm b1 b2 st), (r, regs r0 r1 r2 r3 r4 r5 r6 r7 t0 t1 t2 t3 t4 t5 t6 t7 nr)] (fun R => ∀ y4 y5 y6 u4 u5 u6 u , (y4 = ((256 * r4 + r5) - (256 * r2 + r3) - r6 % 2) % 65536 / 256 ∧ y5 = ((256 * r4 + r5) - (256 * r2 + r3) - r6 % 2) % 256 ∧ 0 ≤ y6 ∧ y6 < 256) → R (.int 15 u) [(c, instObj 31 cd), (cd, cpuD w q0 q1 q2 q3 q4 q5 q6 q7 q8 q9 q10 q11 q12 q13 r sa ix iy sp pc vi vr f1 f2 vm b1 b2 st), (r, regs r0 r1 r2 r3 y4 y5 y6 r7 t0 t1 t2 t3 u4 u5 u6 t7 nr)]) := by
  k_dflt (refine' does_ofW (fun τ => [(Str.ofString "cpu", (.ref c)), (Str.ofString "memory", (.ref ma)), (Str.ofString "ports", (.ref po)), (Str.ofString "octet", .int 82 (τ 3))]) ?ho ?hcd ?hb ?hl ?c1 ?c2 ?c3 ?c4 ?h9; (case ho => k_is); (case hcd => k_is); (case hb => exact fun τ s => BindsTo.of_eq rfl); (case hl => exact fun τ => locs rfl); (case c1 => exact rfl); (case c2 => exact rfl); (case c3 => exact rfl); (case c4 => decide))
  intro d9 τ9
  have hk0 := hc.1.1
  have hk1 := hc.1.2
  have hk2 := hc.2.1.1
  have hk3 := hc.2.1.2
  have hk4 := hc.2.2.1.1
  have hk5 := hc.2.2.1.2
  have hk6 := hc.2.2.2.1
  have hk7 := hc.2.2.2.2
  repeat' wtm_at "W step"
  all_goals (refine End.mk ?_; intro R hR; refine' End.mk2 (hR _ _ _ _ _ _ _ ?f9) ?slf9; (case slf9 => wtm_at "W sel"); (case f9 => assumption))

theorem ed_store1_W (w : World) {c cd r sa : Addr} {q0 q1 q2 q3 q4 q5 q6 q7 q8 q9 q10 q11 q12 q13 : Tok} {ix iy sp vi vr f1 f2 vm b1 b2 st : Value} {r0 r1 r2 r3 r4 r5 r6 r7 : Int} {t0 t1 t2 t3 t4 t5 t6 t7 : Tok} {nr : Nat} {tpc : Tok} {ma : Addr} {vs : List Value} {ms : List Int} {nm : Nat} {po : Addr} (hc : IntsAre vs ms ∧ ms.length = 16 ∧ (∀ j : Nat, 0 ≤ ms.getD j 0 ∧ ms.getD j 0 < 256) ∧ ms.getD 0 0 = 8 ∧ ms.getD 1 0 = 0 ∧ (0 ≤ r2 ∧ r2 < 256) ∧ (0 ≤ r3 ∧ r3 < 256)) : DoesW w 7 254 [.v (.ref c), .v (.ref ma), .v (.ref po), .i 83] [(c, instObj 31 cd), (cd, cpuD w q0 q1 q2 q3 q4 q5 q6 q7 q8 q9 q10 q11 q12 q13 r sa ix iy sp (.int 0 tpc) vi vr f1 f2 vm b1 b2 st), (r, regs r0 r1 r2 r3 r4 r5 r6 r7 t0 t1 t2 t3 t4 t5 t6 t7 nr), (ma, W.listOf vs.toArray nm)] (fun R => ∀ up z1 z2 u1 u2 n2 u , (z1 = (256 * r2 + r3) % 256 ∧ z2 = (256 * r2 + r3) / 256 % 256) → R (.int 20 u) [(c, instObj 31 cd), (cd, cpuD w q0 q1 q2 q3 q4 q5 q6 q7 q8 q9 q10 q11 q12 q13 r sa ix iy sp (.int 2 up) vi vr f1 f2 vm b1 b2 st), (r, regs r0 r1 r2 r3 r4 r5 r6 r7 t0 t1 t2 t3 t4 t5 t6 t7 nr), (ma, W.listOf ((vs.set 8 (.int z1 u1)).set 9 (.int z2 u2)).toArray n2)]) := by
  k_dflt (refine' does_ofW (fun τ => [(Str.ofString "cpu", (.ref c)), (Str.ofString "memory", (.ref ma)), (Str.ofString "ports", (.ref po)), (Str.ofString "octet", .int 83 (τ 3))]) ?ho ?hcd ?hb ?hl ?c1 ?c2 ?c3 ?c4 ?h9; (case ho => k_is); (case hcd => k_is); (case hb => exact fun τ s => BindsTo.of_eq rfl); (case hl => exact fun τ => locs rfl); (case c1 => exact rfl); (case c2 => exact rfl); (case c3 => exact rfl); (case c4 => decide))
  intro d9 τ9
  have hk0 := hc.1
  have hk1 := hc.2.1
  have hk2 := hc.2.2.1
  have hk3 := hc.2.2.2.1
  have hk4 := hc.2.2.2.2.1
  have hk5 := hc.2.2.2.2.2.1.1
  have hk6 := hc.2.2.2.2.2.1.2
  have hk7 := hc.2.2.2.2.2.2.1
  have hk8 := hc.2.2.2.2.2.2.2
  repeat' wtm_at "W step"
  all_goals (refine End.mk ?_; intro R hR; refine' End.mk2 (hR _ _ _ _ _ _ _ ?f9) ?slf9; (case slf9 => wtm_at "W sel"); (case f9 => assumption))

theorem ed_load1_W (w : World) {c cd r sa : Addr} {q0 q1 q2 q3 q4 q5 q6 q7 q8 q9 q10 q11 q12 q13 : Tok} {ix iy sp vi vr f1 f2 vm b1 b2 st : Value} {r0 r1 r2 r3 r4 r5 r6 r7 : Int} {t0 t1 t2 t3 t4 t5 t6 t7 : Tok} {nr : Nat} {tpc : Tok} {ma : Addr} {vs : List Value} {ms : List Int} {nm : Nat} {po : Addr} (hc : IntsAre vs ms ∧ ms.length = 16 ∧ (∀ j : Nat, 0 ≤ ms.getD j 0 ∧ ms.getD j 0 < 256) ∧ ms.getD 0 0 = 8 ∧ ms.getD 1 0 = 0) : DoesW w 7 254 [.v (.ref c), .v (.ref ma), .v (.ref po), .i 91] [(c, instObj 31 cd), (cd, cpuD w q0 q1 q2 q3 q4 q5 q6 q7 q8 q9 q10 q11 q12 q13 r sa ix iy sp (.int 0 tpc) vi vr f1 f2 vm b1 b2 st), (r, regs r0 r1 r2 r3 r4 r5 r6 r7 t0 t1 t2 t3 t4 t5 t6 t7 nr), (ma, W.listOf vs.toArray nm)] (fun R => ∀ up y1 y2 u1 u2 u , (y1 = ms.getD 9 0 ∧ y2 = ms.getD 8 0) → R (.int 20 u) [(c, instObj 31 cd), (cd, cpuD w q0 q1 q2 q3 q4 q5 q6 q7 q8 q9 q10 q11 q12 q13 r sa ix iy sp (.int 2 up) vi vr f1 f2 vm b1 b2 st), (r, regs r0 r1 y1 y2 r4 r5 r6 r7 t0 t1 u1 u2 t4 t5 t6 t7 nr), (ma, W.listOf vs.toArray nm)]) := by
  k_dflt (refine' does_ofW (fun τ => [(Str.ofString "cpu", (.ref c)), (Str.ofString "memory", (.ref ma)), (Str.ofString "ports", (.ref po)), (Str.ofString "octet", .int 91 (τ 3))]) ?ho ?hcd ?hb ?hl ?c1 ?c2 ?c3 ?c4 ?h9; (case ho => k_is); (case hcd => k_is); (case hb => exact fun τ s => BindsTo.of_eq rfl); (case hl => exact fun τ => locs rfl); (case c1 => exact rfl); (case c2 => exact rfl); (case c3 => exact rfl); (case c4 => decide))
  intro d9 τ9
  have hk0 := hc.1
  have hk1 := hc.2.1
  have hk2 := hc.2.2.1
  have hk3 := hc.2.2.2.1
  have hk4 := hc.2.2.2.2
  repeat' wtm_at "W step"
  all_goals (refine End.mk ?_; intro R hR; refine' End.mk2 (hR _ _ _ _ _ _ ?f9) ?slf9; (case slf9 => wtm_at "W sel"); (case f9 => assumption))

theorem ed_adc2_W (w : World) {c cd r sa : Addr} {q0 q1 q2 q3 q4 q5 q6 q7 q8 q9 q10 q11 q12 q13 : Tok} {ix iy sp pc vi vr f1 f2 vm b1 b2 st : Value} {r0 r1 r2 r3 r4 r5 r6 r7 : Int} {t0 t1 t2 t3 t4 t5 t6 t7 : Tok} {nr : Nat} {ma po : Addr} (hc : (0 ≤ r4 ∧ r4 < 256) ∧ (0 ≤ r5 ∧ r5 < 256)) : DoesW w 7 254 [.v (.ref c), .v (.ref ma), .v (.ref po), .i 106] [(c, instObj 31 cd), (cd, cpuD w q0 q1 q2 q3 q4 q5 q6 q7 q8 q9 q10 q11 q12 q13 r sa ix iy sp pc vi vr f1 f2 vm b1 b2 st), (r, regs r0 r1 r2 r3 r4 r5 r6 r7 t0 t1 t2 t3 t4 t5 t6 t7 nr)] (fun R => ∀ y4 y5 y6 u4 u5 u6 u , (y4 = ((256 * r4 + r5) + (256 * r4 + r5) + r6 % 2) % 65536 / 256 ∧ y5 = ((256 * r4 + r5) + (256 * r4 + r5) + r6 % 2) % 256 ∧ 0 ≤ y6 ∧ y6 < 256 ∧ y6 % 2 = ((256 * r4 + r5) + (256 * r4 + r5) + r6 % 2) / 65536) → R (.int 15 u) [(c, instObj 31 cd), (cd, cpuD w q0 q1 q2 q3 q4 q5 q6 q7 q8 q9 q10 q11 q12 q13 r sa ix iy sp pc vi vr f1 f2 vm b1 b2 st), (r, regs r0 r1 r2 r3 y4 y5 y6 r7 t0 t1 t2 t3 u4 u5 u6 t7 nr)]) := by
  k_dflt (refine' does_ofW (fun τ => [(Str.ofString "cpu", (.ref c)), (Str.ofString "memory", (.ref ma)), (Str.ofString "ports", (.ref po)), (Str.ofString "octet", .int 106 (τ 3))]) ?ho ?hcd ?hb ?hl ?c1 ?c2 ?c3 ?c4 ?h9; (case ho => k_is); (case hcd => k_is); (case hb => exact fun τ s => BindsTo.of_eq rfl); (case hl => exact fun τ => locs rfl); (case c1 => exact rfl); (case c2 => exact rfl); (case c3 => exact rfl); (case c4 => decide))
  intro d9 τ9
  have hk0 := hc.1.1
  have hk1 := hc.1.2
  have hk2 := hc.2.1
  have hk3 := hc.2.2
  repeat' wtm_at "W step"
  all_goals (refine End.mk ?_; intro R hR; refine' End.mk2 (hR _ _ _ _ _ _ _ ?f9) ?slf9; (case slf9 => wtm_at "W sel"); (case f9 => assumption))

theorem ed_store2_W (w : World) {c cd r sa : Addr} {q0 q1 q2 q3 q4 q5 q6 q7 q8 q9 q10 q11 q12 q13 : Tok} {ix iy sp vi vr f1 f2 vm b1 b2 st : Value} {r0 r1 r2 r3 r4 r5 r6 r7 : Int} {t0 t1 t2 t3 t4 t5 t6 t7 : Tok} {nr : Nat} {tpc : Tok} {ma : Addr} {vs : List Value} {ms : List Int} {nm : Nat} {po : Addr} (hc : IntsAre vs ms ∧ ms.length = 16 ∧ (∀ j : Nat, 0 ≤ ms.getD j 0 ∧ ms.getD j 0 < 256) ∧ ms.getD 0 0 = 8 ∧ ms.getD 1 0 = 0 ∧ (0 ≤ r4 ∧ r4 < 256) ∧ (0 ≤ r5 ∧ r5 < 256)) : DoesW w 7 254 [.v (.ref c), .v (.ref ma), .v (.ref po), .i 99] [(c, instObj 31 cd), (cd, cpuD w q0 q1 q2 q3 q4 q5 q6 q7 q8 q9 q10 q11 q12 q13 r sa ix iy sp (.int 0 tpc) vi vr f1 f2 vm b1 b2 st), (r, regs r0 r1 r2 r3 r4 r5 r6 r7 t0 t1 t2 t3 t4 t5 t6 t7 nr), (ma, W.listOf vs.toArray nm)] (fun R => ∀ up z1 z2 u1 u2 n2 u , (z1 = (256 * r4 + r5) % 256 ∧ z2 = (256 * r4 + r5) / 256 % 256) → R (.int 20 u) [(c, instObj 31 cd), (cd, cpuD w q0 q1 q2 q3 q4 q5 q6 q7 q8 q9 q10 q11 q12 q13 r sa ix iy sp (.int 2 up) vi vr f1 f2 vm b1 b2 st), (r, regs r0 r1 r2 r3 r4 r5 r6 r7 t0 t1 t2 t3 t4 t5 t6 t7 nr), (ma, W.listOf ((vs.set 8 (.int z1 u1)).set 9 (.int z2 u2)).toArray n2)]) := by
  k_dflt (refine' does_ofW (fun τ => [(Str.ofString "cpu", (.ref c)), (Str.ofString "memory", (.ref ma)), (Str.ofString "ports", (.ref po)), (Str.ofString "octet", .int 99 (τ 3))]) ?ho ?hcd ?hb ?hl ?c1 ?c2 ?c3 ?c4 ?h9; (case ho => k_is); (case hcd => k_is); (case hb => exact fun τ s => BindsTo.of_eq rfl); (case hl => exact fun τ => locs rfl); (case c1 => exact rfl); (case c2 => exact rfl); (case c3 => exact rfl); (case c4 => decide))
  intro d9 τ9
  have hk0 := hc.1
  have hk1 := hc.2.1
  have hk2 := hc.2.2.1
  have hk3 := hc.2.2.2.1
  have hk4 := hc.2.2.2.2.1
  have hk5 := hc.2.2.2.2.2.1.1
  have hk6 := hc.2.2.2.2.2.1.2
  have hk7 := hc.2.2.2.2.2.2.1
  have hk8 := hc.2.2.2.2.2.2.2
  repeat' wtm_at "W step"
  all_goals (refine End.mk ?_; intro R hR; refine' End.mk2 (hR _ _ _ _ _ _ _ ?f9) ?slf9; (case slf9 => wtm_at "W sel"); (case f9 => assumption))

theorem ed_load2_W (w : World) {c cd r sa : Addr} {q0 q1 q2 q3 q4 q5 q6 q7 q8 q9 q10 q11 q12 q13 : Tok} {ix iy sp vi vr f1 f2 vm b1 b2 st : Value} {r0 r1 r2 r3 r4 r5 r6 r7 : Int} {t0 t1 t2 t3 t4 t5 t6 t7 : Tok} {nr : Nat} {tpc : Tok} {ma : Addr} {vs : List Value} {ms : List Int} {nm : Nat} {po : Addr} (hc : IntsAre vs ms ∧ ms.length = 16 ∧ (∀ j : Nat, 0 ≤ ms.getD j 0 ∧ ms.getD j 0 < 256) ∧ ms.getD 0 0 = 8 ∧ ms.getD 1 0 = 0) : DoesW w 7 254 [.v (.ref c), .v (.ref ma), .v (.ref po), .i 107] [(c, instObj 31 cd), (cd, cpuD w q0 q1 q2 q3 q4 q5 q6 q7 q8 q9 q10 q11 q12 q13 r sa ix iy sp (.int 0 tpc) vi vr f1 f2 vm b1 b2 st), (r, regs r0 r1 r2 r3 r4 r5 r6 r7 t0 t1 t2 t3 t4 t5 t6 t7 nr), (ma, W.listOf vs.toArray nm)] (fun R => ∀ up y1 y2 u1 u2 u , (y1 = ms.getD 9 0 ∧ y2 = ms.getD 8 0) → R (.int 20 u) [(c, instObj 31 cd), (cd, cpuD w q0 q1 q2 q3 q4 q5 q6 q7 q8 q9 q10 q11 q12 q13 r sa ix iy sp (.int 2 up) vi vr f1 f2 vm b1 b2 st), (r, regs r0 r1 r2 r3 y1 y2 r6 r7 t0 t1 t2 t3 u1 u2 t6 t7 nr), (ma, W.listOf vs.toArray nm)]) := by
  k_dflt (refine' does_ofW (fun τ => [(Str.ofString "cpu", (.ref c)), (Str.ofString "memory", (.ref ma)), (Str.ofString "ports", (.ref po)), (Str.ofString "octet", .int 107 (τ 3))]) ?ho ?hcd ?hb ?hl ?c1 ?c2 ?c3 ?c4 ?h9; (case ho => k_is); (case hcd => k_is); (case hb => exact fun τ s => BindsTo.of_eq rfl); (case hl => exact fun τ => locs rfl); (case c1 => exact rfl); (case c2 => exact rfl); (case c3 => exact rfl); (case c4 => decide))
  intro d9 τ9
  have hk0 := hc.1
  have hk1 := hc.2.1
  have hk2 := hc.2.2.1
  have hk3 := hc.2.2.2.1
  have hk4 := hc.2.2.2.2
  repeat' wtm_at "W step"
  all_goals (refine End.mk ?_; intro R hR; refine' End.mk2 (hR _ _ _ _ _ _ ?f9) ?slf9; (case slf9 => wtm_at "W sel"); (case f9 => assumption))

theorem ed_adc3_W (w : World) {c cd r sa : Addr} {q0 q1 q2 q3 q4 q5 q6 q7 q8 q9 q10 q11 q12 q13 : Tok} {ix iy pc vi vr f1 f2 vm b1 b2 st : Value} {r0 r1 r2 r3 r4 r5 r6 r7 : Int} {t0 t1 t2 t3 t4 t5 t6 t7 : Tok} {nr : Nat} {vsp : Int} {tsp : Tok} {ma po : Addr} (hc : (0 ≤ r4 ∧ r4 < 256) ∧ (0 ≤ r5 ∧ r5 < 256) ∧ (0 ≤ vsp ∧ vsp < 65536)) : DoesW w 7 254 [.v (.ref c), .v (.ref ma), .v (.ref po), .i 122] [(c, instObj 31 cd), (cd, cpuD w q0 q1 q2 q3 q4 q5 q6 q7 q8 q9 q10 q11 q12 q13 r sa ix iy (.int vsp tsp) pc vi vr f1 f2 vm b1 b2 st), (r, regs r0 r1 r2 r3 r4 r5 r6 r7 t0 t1 t2 t3 t4 t5 t6 t7 nr)] (fun R => ∀ y4 y5 y6 u4 u5 u6 u , (y4 = ((256 * r4 + r5) + vsp + r6 % 2) % 65536 / 256 ∧ y5 = ((256 * r4 + r5) + vsp + r6 % 2) % 256 ∧ 0 ≤ y6 ∧ y6 < 256 ∧ y6 % 2 = ((256 * r4 + r5) + vsp + r6 % 2) / 65536) → R (.int 15 u) [(c, instObj 31 cd), (cd, cpuD w q0 q1 q2 q3 q4 q5 q6 q7 q8 q9 q10 q11 q12 q13 r sa ix iy (.int vsp tsp) pc vi vr f1 f2 vm b1 b2 st), (r, regs r0 r1 r2 r3 y4 y5 y6 r7 t0 t1 t2 t3 u4 u5 u6 t7 nr)]) := by
  k_dflt (refine' does_ofW (fun τ => [(Str.ofString "cpu", (.ref c)), (Str.ofString "memory", (.ref ma)), (Str.ofString "ports", (.ref po)), (Str.ofString "octet", .int 122 (τ 3))]) ?ho ?hcd ?hb ?hl ?c1 ?c2 ?c3 ?c4 ?h9; (case ho => k_is); (case hcd => k_is); (case hb => exact fun τ s => BindsTo.of_eq rfl); (case hl => exact fun τ => locs rfl); (case c1 => exact rfl); (case c2 => exact rfl); (case c3 => exact rfl); (case c4 => decide))
  intro d9 τ9
  have hk0 := hc.1.1
  have hk1 := hc.1.2
  have hk2 := hc.2.1.1
  have hk3 := hc.2.1.2
  have hk4 := hc.2.2.1
  have hk5 := hc.2.2.2
  repeat' wtm_at "W step"
  all_goals (refine End.mk ?_; intro R hR; refine' End.mk2 (hR _ _ _ _ _ _ _ ?f9) ?slf9; (case slf9 => wtm_at "W sel"); (case f9 => assumption))

theorem ed_sbc3_W (w : World) {c cd r sa : Addr} {q0 q1 q2 q3 q4 q5 q6 q7 q8 q9 q10 q11 q12 q13 : Tok} {ix iy pc vi vr f1 f2 vm b1 b2 st : Value} {r0 r1 r2 r3 r4 r5 r6 r7 : Int} {t0 t1 t2 t3 t4 t5 t6 t7 : Tok} {nr : Nat} {vsp : Int} {tsp : Tok} {ma po : Addr} (hc : (0 ≤ r4 ∧ r4 < 256) ∧ (0 ≤ r5 ∧ r5 < 256) ∧ (0 ≤ vsp ∧ vsp < 65536)) : DoesW w 7 254 [.v (.ref c), .v (.ref ma), .v (.ref po), .i 114] [(c, instObj 31 cd), (cd, cpuD w q0 q1 q2 q3 q4 q5 q6 q7 q8 q9 q10 q11 q12 q13 r sa ix iy (.int vsp tsp) pc vi vr f1 f2 vm b1 b2 st), (r, regs r0 r1 r2 r3 r4 r5 r6 r7 t0 t1 t2 t3 t4 t5 t6 t7 nr)] (fun R => ∀ y4 y5 y6 u4 u5 u6 u , (y4 = ((256 * r4 + r5) - vsp - r6 % 2) % 65536 / 256 ∧ y5 = ((256 * r4 + r5) - vsp - r6 % 2) % 256 ∧ 0 ≤ y6 ∧ y6 < 256) → R (.int 15 u) [(c, instObj 31 cd), (cd, cpuD w q0 q1 q2 q3 q4 q5 q6 q7 q8 q9 q10 q11 q12 q13 r sa ix iy (.int vsp tsp) pc vi vr f1 f2 vm b1 b2 st), (r, regs r0 r1 r2 r3 y4 y5 y6 r7 t0 t1 t2 t3 u4 u5 u6 t7 nr)]) := by
  k_dflt (refine' does_ofW (fun τ => [(Str.ofString "cpu", (.ref c)), (Str.ofString "memory", (.ref ma)), (Str.ofString "ports", (.ref po)), (Str.ofString "octet", .int 114 (τ 3))]) ?ho ?hcd ?hb ?hl ?c1 ?c2 ?c3 ?c4 ?h9; (case ho => k_is); (case hcd => k_is); (case hb => exact fun τ s => BindsTo.of_eq rfl); (case hl => exact fun τ => locs rfl); (case c1 => exact rfl); (case c2 => exact rfl); (case c3 => exact rfl); (case c4 => decide))
  intro d9 τ9
  have hk0 := hc.1.1
  have hk1 := hc.1.2
  have hk2 := hc.2.1.1
  have hk3 := hc.2.1.2
  have hk4 := hc.2.2.1
  have hk5 := hc.2.2.2
  repeat' wtm_at "W step"
  all_goals (refine End.mk ?_; intro R hR; refine' End.mk2 (hR _ _ _ _ _ _ _ ?f9) ?slf9; (case slf9 => wtm_at "W sel"); (case f9 => assumption))

theorem ed_store3_W (w : World) {c cd r sa : Addr} {q0 q1 q2 q3 q4 q5 q6 q7 q8 q9 q10 q11 q12 q13 : Tok} {ix iy vi vr f1 f2 vm b1 b2 st : Value} {r0 r1 r2 r3 r4 r5 r6 r7 : Int} {t0 t1 t2 t3 t4 t5 t6 t7 : Tok} {nr : Nat} {tpc : Tok} {vsp : Int} {tsp : Tok} {ma : Addr} {vs : List Value} {ms : List Int} {nm : Nat} {po : Addr} (hc : IntsAre vs ms ∧ ms.length = 16 ∧ (∀ j : Nat, 0 ≤ ms.getD j 0 ∧ ms.getD j 0 < 256) ∧ ms.getD 0 0 = 8 ∧ ms.getD 1 0 = 0) : DoesW w 7 254 [.v (.ref c), .v (.ref ma), .v (.ref po), .i 115] [(c, instObj 31 cd), (cd, cpuD w q0 q1 q2 q3 q4 q5 q6 q7 q8 q9 q10 q11 q12 q13 r sa ix iy (.int vsp tsp) (.int 0 tpc) vi vr f1 f2 vm b1 b2 st), (r, regs r0 r1 r2 r3 r4 r5 r6 r7 t0 t1 t2 t3 t4 t5 t6 t7 nr), (ma, W.listOf vs.toArray nm)] (fun R => ∀ up z1 z2 u1 u2 n2 u , (z1 = vsp % 256 ∧ z2 = vsp / 256 % 256) → R (.int 20 u) [(c, instObj 31 cd), (cd, cpuD w q0 q1 q2 q3 q4 q5 q6 q7 q8 q9 q10 q11 q12 q13 r sa ix iy (.int vsp tsp) (.int 2 up) vi vr f1 f2 vm b1 b2 st), (r, regs r0 r1 r2 r3 r4 r5 r6 r7 t0 t1 t2 t3 t4 t5 t6 t7 nr), (ma, W.listOf ((vs.set 8 (.int z1 u1)).set 9 (.int z2 u2)).toArray n2)]) := by
  k_dflt (refine' does_ofW (fun τ => [(Str.ofString "cpu", (.ref c)), (Str.ofString "memory", (.ref ma)), (Str.ofString "ports", (.ref po)), (Str.ofString "octet", .int 115 (τ 3))]) ?ho ?hcd ?hb ?hl ?c1 ?c2 ?c3 ?c4 ?h9; (case ho => k_is); (case hcd => k_is); (case hb => exact fun τ s => BindsTo.of_eq rfl); (case hl => exact fun τ => locs rfl); (case c1 => exact rfl); (case c2 => exact rfl); (case c3 => exact rfl); (case c4 => decide))
  intro d9 τ9
  have hk0 := hc.1
  have hk1 := hc.2.1
  have hk2 := hc.2.2.1
  have hk3 := hc.2.2.2.1
  have hk4 := hc.2.2.2.2
  repeat' wtm_at "W step"
  all_goals (refine End.mk ?_; intro R hR; refine' End.mk2 (hR _ _ _ _ _ _ _ ?f9) ?slf9; (case slf9 => wtm_at "W sel"); (case f9 => assumption))

theorem ed_load3_W (w : World) {c cd r sa : Addr} {q0 q1 q2 q3 q4 q5 q6 q7 q8 q9 q10 q11 q12 q13 : Tok} {ix iy vi vr f1 f2 vm b1 b2 st : Value} {r0 r1 r2 r3 r4 r5 r6 r7 : Int} {t0 t1 t2 t3 t4 t5 t6 t7 : Tok} {nr : Nat} {tpc : Tok} {vsp : Int} {tsp : Tok} {ma : Addr} {vs : List Value} {ms : List Int} {nm : Nat} {po : Addr} (hc : IntsAre vs ms ∧ ms.length = 16 ∧ (∀ j : Nat, 0 ≤ ms.getD j 0 ∧ ms.getD j 0 < 256) ∧ ms.getD 0 0 = 8 ∧ ms.getD 1 0 = 0) : DoesW w 7 254 [.v (.ref c), .v (.ref ma), .v (.ref po), .i 123] [(c, instObj 31 cd), (cd, cpuD w q0 q1 q2 q3 q4 q5 q6 q7 q8 q9 q10 q11 q12 q13 r sa ix iy (.int vsp tsp) (.int 0 tpc) vi vr f1 f2 vm b1 b2 st), (r, regs r0 r1 r2 r3 r4 r5 r6 r7 t0 t1 t2 t3 t4 t5 t6 t7 nr), (ma, W.listOf vs.toArray nm)] (fun R => ∀ up y1 u1 u , (y1 = ms.getD 8 0 + 256 * ms.getD 9 0) → R (.int 20 u) [(c, instObj 31 cd), (cd, cpuD w q0 q1 q2 q3 q4 q5 q6 q7 q8 q9 q10 q11 q12 q13 r sa ix iy (.int y1 u1) (.int 2 up) vi vr f1 f2 vm b1 b2 st), (r, regs r0 r1 r2 r3 r4 r5 r6 r7 t0 t1 t2 t3 t4 t5 t6 t7 nr), (ma, W.listOf vs.toArray nm)]) := by
  k_dflt (refine' does_ofW (fun τ => [(Str.ofString "cpu", (.ref c)), (Str.ofString "memory", (.ref ma)), (Str.ofString "ports", (.ref po)), (Str.ofString "octet", .int 123 (τ 3))]) ?ho ?hcd ?hb ?hl ?c1 ?c2 ?c3 ?c4 ?h9; (case ho => k_is); (case hcd => k_is); (case hb => exact fun τ s => BindsTo.of_eq rfl); (case hl => exact fun τ => locs rfl); (case c1 => exact rfl); (case c2 => exact rfl); (case c3 => exact rfl); (case c4 => decide))
  intro d9 τ9
  have hk0 := hc.1
  have hk1 := hc.2.1
  have hk2 := hc.2.2.1
  have hk3 := hc.2.2.2.1
  have hk4 := hc.2.2.2.2
  repeat' wtm_at "W step"
  all_goals (refine End.mk ?_; intro R hR; refine' End.mk2 (hR _ _ _ _ ?f9) ?slf9; (case slf9 => wtm_at "W sel"); (case f9 => assumption))

theorem ed_put0_W (w : World) {c cd r sa : Addr} {q0 q1 q2 q3 q4 q5 q6 q7 q8 q9 q10 q11 q12 q13 : Tok} {ix iy sp pc vi vr f1 f2 vm b1 b2 st : Value} {r0 r1 r2 r3 r4 r5 r6 r7 : Int} {t0 t1 t2 t3 t4 t5 t6 t7 : Tok} {nr : Nat} {ma : Addr} {po : Addr} : DoesW w 7 254 [.v (.ref c), .v (.ref ma), .v (.ref po), .i 71] [(c, instObj 31 cd), (cd, cpuD w q0 q1 q2 q3 q4 q5 q6 q7 q8 q9 q10 q11 q12 q13 r sa ix iy sp pc vi vr f1 f2 vm b1 b2 st), (r, regs r0 r1 r2 r3 r4 r5 r6 r7 t0 t1 t2 t3 t4 t5 t6 t7 nr)] (fun R => ∀ u u7, R (.int 9 u) [(c, instObj 31 cd), (cd, cpuD w q0 q1 q2 q3 q4 q5 q6 q7 q8 q9 q10 q11 q12 q13 r sa ix iy sp pc (.int r7 u7) vr f1 f2 vm b1 b2 st), (r, regs r0 r1 r2 r3 r4 r5 r6 r7 t0 t1 t2 t3 t4 t5 t6 t7 nr)]) := by
  k_dflt (refine' does_ofW (fun τ => [(Str.ofString "cpu", (.ref c)), (Str.ofString "memory", (.ref ma)), (Str.ofString "ports", (.ref po)), (Str.ofString "octet", .int 71 (τ 3))]) ?ho ?hcd ?hb ?hl ?c1 ?c2 ?c3 ?c4 ?h9; (case ho => k_is); (case hcd => k_is); (case hb => exact fun τ s => BindsTo.of_eq rfl); (case hl => exact fun τ => locs rfl); (case c1 => exact rfl); (case c2 => exact rfl); (case c3 => exact rfl); (case c4 => decide))
  intro d9 τ9
  repeat' wtm_at "W step"
  all_goals (refine End.mk ?_; intro R hR; refine' End.mk2 (hR _ _) ?slf9; (case slf9 => wtm_at "W sel"))

theorem ed_put1_W (w : World) {c cd r sa : Addr} {q0 q1 q2 q3 q4 q5 q6 q7 q8 q9 q10 q11 q12 q13 : Tok} {ix iy sp pc vi vr f1 f2 vm b1 b2 st : Value} {r0 r1 r2 r3 r4 r5 r6 r7 : Int} {t0 t1 t2 t3 t4 t5 t6 t7 : Tok} {nr : Nat} {ma : Addr} {po : Addr} : DoesW w 7 254 [.v (.ref c), .v (.ref ma), .v (.ref po), .i 79] [(c, instObj 31 cd), (cd, cpuD w q0 q1 q2 q3 q4 q5 q6 q7 q8 q9 q10 q11 q12 q13 r sa ix iy sp pc vi vr f1 f2 vm b1 b2 st), (r, regs r0 r1 r2 r3 r4 r5 r6 r7 t0 t1 t2 t3 t4 t5 t6 t7 nr)] (fun R => ∀ u u7, R (.int 9 u) [(c, instObj 31 cd), (cd, cpuD w q0 q1 q2 q3 q4 q5 q6 q7 q8 q9 q10 q11 q12 q13 r sa ix iy sp pc vi (.int r7 u7) f1 f2 vm b1 b2 st), (r, regs r0 r1 r2 r3 r4 r5 r6 r7 t0 t1 t2 t3 t4 t5 t6 t7 nr)]) := by
  k_dflt (refine' does_ofW (fun τ => [(Str.ofString "cpu", (.ref c)), (Str.ofString "memory", (.ref ma)), (Str.ofString "ports", (.ref po)), (Str.ofString "octet", .int 79 (τ 3))]) ?ho ?hcd ?hb ?hl ?c1 ?c2 ?c3 ?c4 ?h9; (case ho => k_is); (case hcd => k_is); (case hb => exact fun τ s => BindsTo.of_eq rfl); (case hl => exact fun τ => locs rfl); (case c1 => exact rfl); (case c2 => exact rfl); (case c3 => exact rfl); (case c4 => decide))
  intro d9 τ9
  repeat' wtm_at "W step"
  all_goals (refine End.mk ?_; intro R hR; refine' End.mk2 (hR _ _) ?slf9; (case slf9 => wtm_at "W sel"))

theorem ed_take2_W (w : World) {c cd r sa : Addr} {q0 q1 q2 q3 q4 q5 q6 q7 q8 q9 q10 q11 q12 q13 : Tok} {ix iy sp pc vr f1 vm b1 b2 st : Value} {r0 r1 r2 r3 r4 r5 r6 r7 : Int} {t0 t1 t2 t3 t4 t5 t6 t7 : Tok} {nr : Nat} {g : Int} {tg tf2 : Tok} {ma : Addr} {po : Addr} : DoesW w 7 254 [.v (.ref c), .v (.ref ma), .v (.ref po), .i 87] [(c, instObj 31 cd), (cd, cpuD w q0 q1 q2 q3 q4 q5 q6 q7 q8 q9 q10 q11 q12 q13 r sa ix iy sp pc (.int g tg) vr f1 (.int 0 tf2) vm b1 b2 st), (r, regs r0 r1 r2 r3 r4 r5 r6 r7 t0 t1 t2 t3 t4 t5 t6 t7 nr)] (fun R => ∀ y6 u u6 u7, (0 ≤ y6 ∧ y6 < 256) → R (.int 9 u) [(c, instObj 31 cd), (cd, cpuD w q0 q1 q2 q3 q4 q5 q6 q7 q8 q9 q10 q11 q12 q13 r sa ix iy sp pc (.int g tg) vr f1 (.int 0 tf2) vm b1 b2 st), (r, regs r0 r1 r2 r3 r4 r5 y6 g t0 t1 t2 t3 t4 t5 u6 u7 nr)]) := by
  k_dflt (refine' does_ofW (fun τ => [(Str.ofString "cpu", (.ref c)), (Str.ofString "memory", (.ref ma)), (Str.ofString "ports", (.ref po)), (Str.ofString "octet", .int 87 (τ 3))]) ?ho ?hcd ?hb ?hl ?c1 ?c2 ?c3 ?c4 ?h9; (case ho => k_is); (case hcd => k_is); (case hb => exact fun τ s => BindsTo.of_eq rfl); (case hl => exact fun τ => locs rfl); (case c1 => exact rfl); (case c2 => exact rfl); (case c3 => exact rfl); (case c4 => decide))
  intro d9 τ9
  repeat' wtm_at "W step"
  all_goals (refine End.mk ?_; intro R hR; refine' End.mk2 (hR _ _ _ _ ?f9) ?slf9; (case slf9 => wtm_at "W sel"); (case f9 => assumption))

theorem ed_take3_W (w : World) {c cd r sa : Addr} {q0 q1 q2 q3 q4 q5 q6 q7 q8 q9 q10 q11 q12 q13 : Tok} {ix iy sp pc vi f1 vm b1 b2 st : Value} {r0 r1 r2 r3 r4 r5 r6 r7 : Int} {t0 t1 t2 t3 t4 t5 t6 t7 : Tok} {nr : Nat} {g : Int} {tg tf2 : Tok} {ma : Addr} {po : Addr} : DoesW w 7 254 [.v (.ref c), .v (.ref ma), .v (.ref po), .i 95] [(c, instObj 31 cd), (cd, cpuD w q0 q1 q2 q3 q4 q5 q6 q7 q8 q9 q10 q11 q12 q13 r sa ix iy sp pc vi (.int g tg) f1 (.int 0 tf2) vm b1 b2 st), (r, regs r0 r1 r2 r3 r4 r5 r6 r7 t0 t1 t2 t3 t4 t5 t6 t7 nr)] (fun R => ∀ y6 u u6 u7, (0 ≤ y6 ∧ y6 < 256) → R (.int 9 u) [(c, instObj 31 cd), (cd, cpuD w q0 q1 q2 q3 q4 q5 q6 q7 q8 q9 q10 q11 q12 q13 r sa ix iy sp pc vi (.int g tg) f1 (.int 0 tf2) vm b1 b2 st), (r, regs r0 r1 r2 r3 r4 r5 y6 g t0 t1 t2 t3 t4 t5 u6 u7 nr)]) := by
  k_dflt (refine' does_ofW (fun τ => [(Str.ofString "cpu", (.ref c)), (Str.ofString "memory", (.ref ma)), (Str.ofString "ports", (.ref po)), (Str.ofString "octet", .int 95 (τ 3))]) ?ho ?hcd ?hb ?hl ?c1 ?c2 ?c3 ?c4 ?h9; (case ho => k_is); (case hcd => k_is); (case hb => exact fun τ s => BindsTo.of_eq rfl); (case hl => exact fun τ => locs rfl); (case c1 => exact rfl); (case c2 => exact rfl); (case c3 => exact rfl); (case c4 => decide))
  intro d9 τ9
  repeat' wtm_at "W step"
  all_goals (refine End.mk ?_; intro R hR; refine' End.mk2 (hR _ _ _ _ ?f9) ?slf9; (case slf9 => wtm_at "W sel"); (case f9 => assumption))

theorem ed_turn4_W (w : World) {c cd r sa : Addr} {q0 q1 q2 q3 q4 q5 q6 q7 q8 q9 q10 q11 q12 q13 : Tok} {ix iy sp pc vi vr f1 f2 vm b1 b2 st : Value} {r0 r1 r2 r3 r4 r5 r6 r7 : Int} {t0 t1 t2 t3 t4 t5 t6 t7 : Tok} {nr : Nat} {ma : Addr} {vs : List Value} {ms : List Int} {nm : Nat} {po : Addr} (hc : (IntsAre vs ms ∧ ms.length = 16 ∧ ∀ j : Nat, 0 ≤ ms.getD j 0 ∧ ms.getD j 0 < 256) ∧ (0 ≤ r4 ∧ r4 < 256) ∧ (0 ≤ r5 ∧ r5 < 256) ∧ (0 ≤ r7 ∧ r7 < 256)) : DoesW w 7 254 [.v (.ref c), .v (.ref ma), .v (.ref po), .i 103] [(c, instObj 31 cd), (cd, cpuD w q0 q1 q2 q3 q4 q5 q6 q7 q8 q9 q10 q11 q12 q13 r sa ix iy sp pc vi vr f1 f2 vm b1 b2 st), (r, regs r0 r1 r2 r3 r4 r5 r6 r7 t0 t1 t2 t3 t4 t5 t6 t7 nr), (ma, W.listOf vs.toArray nm)] (fun R => ∀ y6 z u u6 u7 u3 n2, ((0 ≤ y6 ∧ y6 < 256) ∧ z = r7 % 16 * 16 + ms.getD ((256 * r4 + r5) % 16).toNat 0 / 16) → R (.int 18 u) [(c, instObj 31 cd), (cd, cpuD w q0 q1 q2 q3 q4 q5 q6 q7 q8 q9 q10 q11 q12 q13 r sa ix iy sp pc vi vr f1 f2 vm b1 b2 st), (r, regs r0 r1 r2 r3 r4 r5 y6 (r7 / 16 * 16 + ms.getD ((256 * r4 + r5) % 16).toNat 0 % 16) t0 t1 t2 t3 t4 t5 u6 u7 nr), (ma, W.listOf (vs.set ((256 * r4 + r5) % 16).toNat (.int z u3)).toArray n2)]) := by
  k_dflt (refine' does_ofW (fun τ => [(Str.ofString "cpu", (.ref c)), (Str.ofString "memory", (.ref ma)), (Str.ofString "ports", (.ref po)), (Str.ofString "octet", .int 103 (τ 3))]) ?ho ?hcd ?hb ?hl ?c1 ?c2 ?c3 ?c4 ?h9; (case ho => k_is); (case hcd => k_is); (case hb => exact fun τ s => BindsTo.of_eq rfl); (case hl => exact fun τ => locs rfl); (case c1 => exact rfl); (case c2 => exact rfl); (case c3 => exact rfl); (case c4 => decide))
  intro d9 τ9
  have hk0 := hc.1.1
  have hk1 := hc.1.2.1
  have hk2 := hc.1.2.2
  have hk3 := hc.2.1.1
  have hk4 := hc.2.1.2
  have hk5 := hc.2.2.1.1
  have hk6 := hc.2.2.1.2
  have hk7 := hc.2.2.2.1
  have hk8 := hc.2.2.2.2
  repeat' wtm_at "W step"
  all_goals (refine End.mk ?_; intro R hR; refine' End.mk2 (hR _ _ _ _ _ _ _ ?f9) ?slf9; (case slf9 => wtm_at "W sel"); (case f9 => assumption))

theorem ed_turn5_W (w : World) {c cd r sa : Addr} {q0 q1 q2 q3 q4 q5 q6 q7 q8 q9 q10 q11 q12 q13 : Tok} {ix iy sp pc vi vr f1 f2 vm b1 b2 st : Value} {r0 r1 r2 r3 r4 r5 r6 r7 : Int} {t0 t1 t2 t3 t4 t5 t6 t7 : Tok} {nr : Nat} {ma : Addr} {vs : List Value} {ms : List Int} {nm : Nat} {po : Addr} (hc : (IntsAre vs ms ∧ ms.length = 16 ∧ ∀ j : Nat, 0 ≤ ms.getD j 0 ∧ ms.getD j 0 < 256) ∧ (0 ≤ r4 ∧ r4 < 256) ∧ (0 ≤ r5 ∧ r5 < 256) ∧ (0 ≤ r7 ∧ r7 < 256)) : DoesW w 7 254 [.v (.ref c), .v (.ref ma), .v (.ref po), .i 111] [(c, instObj 31 cd), (cd, cpuD w q0 q1 q2 q3 q4 q5 q6 q7 q8 q9 q10 q11 q12 q13 r sa ix iy sp pc vi vr f1 f2 vm b1 b2 st), (r, regs r0 r1 r2 r3 r4 r5 r6 r7 t0 t1 t2 t3 t4 t5 t6 t7 nr), (ma, W.listOf vs.toArray nm)] (fun R => ∀ y6 z u u6 u7 u3 n2, ((0 ≤ y6 ∧ y6 < 256) ∧ z = ms.getD ((256 * r4 + r5) % 16).toNat 0 % 16 * 16 + r7 % 16) → R (.int 18 u) [(c, instObj 31 cd), (cd, cpuD w q0 q1 q2 q3 q4 q5 q6 q7 q8 q9 q10 q11 q12 q13 r sa ix iy sp pc vi vr f1 f2 vm b1 b2 st), (r, regs r0 r1 r2 r3 r4 r5 y6 (r7 / 16 * 16 + ms.getD ((256 * r4 + r5) % 16).toNat 0 / 16) t0 t1 t2 t3 t4 t5 u6 u7 nr), (ma, W.listOf (vs.set ((256 * r4 + r5) % 16).toNat (.int z u3)).toArray n2)]) := by
  k_dflt (refine' does_ofW (fun τ => [(Str.ofString "cpu", (.ref c)), (Str.ofString "memory", (.ref ma)), (Str.ofString "ports", (.ref po)), (Str.ofString "octet", .int 111 (τ 3))]) ?ho ?hcd ?hb ?hl ?c1 ?c2 ?c3 ?c4 ?h9; (case ho => k_is); (case hcd => k_is); (case hb => exact fun τ s => BindsTo.of_eq rfl); (case hl => exact fun τ => locs rfl); (case c1 => exact rfl); (case c2 => exact rfl); (case c3 => exact rfl); (case c4 => decide))
  intro d9 τ9
  have hk0 := hc.1.1
  have hk1 := hc.1.2.1
  have hk2 := hc.1.2.2
  have hk3 := hc.2.1.1
  have hk4 := hc.2.1.2
  have hk5 := hc.2.2.1.1
  have hk6 := hc.2.2.1.2
  have hk7 := hc.2.2.2.1
  have hk8 := hc.2.2.2.2
  repeat' wtm_at "W step"
  all_goals (refine End.mk ?_; intro R hR; refine' End.mk2 (hR _ _ _ _ _ _ _ ?f9) ?slf9; (case slf9 => wtm_at "W sel"); (case f9 => assumption))

theorem ed_no6_W (w : World) {c ma : Addr} {po : Addr} : DoesW w 7 254 [.v (.ref c), .v (.ref ma), .v (.ref po), .i 119] [] (fun R => ∀ u, R (.int 8 u) []) := by
  k_dflt (refine' does_ofW (fun τ => [(Str.ofString "cpu", (.ref c)), (Str.ofString "memory", (.ref ma)), (Str.ofString "ports", (.ref po)), (Str.ofString "octet", .int 119 (τ 3))]) ?ho ?hcd ?hb ?hl ?c1 ?c2 ?c3 ?c4 ?h9; (case ho => k_is); (case hcd => k_is); (case hb => exact fun τ s => BindsTo.of_eq rfl); (case hl => exact fun τ => locs rfl); (case c1 => exact rfl); (case c2 => exact rfl); (case c3 => exact rfl); (case c4 => decide))
  intro d9 τ9
  repeat' wtm_at "W step"
  all_goals (refine End.mk ?_; intro R hR; refine' End.mk2 (hR _) ?slf9; (case slf9 => wtm_at "W sel"))

theorem ed_no7_W (w : World) {c ma : Addr} {po : Addr} : DoesW w 7 254 [.v (.ref c), .v (.ref ma), .v (.ref po), .i 127] [] (fun R => ∀ u, R (.int 8 u) []) := by
  k_dflt (refine' does_ofW (fun τ => [(Str.ofString "cpu", (.ref c)), (Str.ofString "memory", (.ref ma)), (Str.ofString "ports", (.ref po)), (Str.ofString "octet", .int 127 (τ 3))]) ?ho ?hcd ?hb ?hl ?c1 ?c2 ?c3 ?c4 ?h9; (case ho => k_is); (case hcd => k_is); (case hb => exact fun τ s => BindsTo.of_eq rfl); (case hl => exact fun τ => locs rfl); (case c1 => exact rfl); (case c2 => exact rfl); (case c3 => exact rfl); (case c4 => decide))
  intro d9 τ9
  repeat' wtm_at "W step"
  all_goals (refine End.mk ?_; intro R hR; refine' End.mk2 (hR _) ?slf9; (case slf9 => wtm_at "W sel"))

theorem ed_neg68_W (w : World) {c cd r sa : Addr} {q0 q1 q2 q3 q4 q5 q6 q7 q8 q9 q10 q11 q12 q13 : Tok} {ix iy sp pc vi vr f1 f2 vm b1 b2 st : Value} {r0 r1 r2 r3 r4 r5 r6 r7 : Int} {t0 t1 t2 t3 t4 t5 t6 t7 : Tok} {nr : Nat} {ma po : Addr} (hc : 0 ≤ r7 ∧ r7 < 256) : DoesW w 7 254 [.v (.ref c), .v (.ref ma), .v (.ref po), .i 68] [(c, instObj 31 cd), (cd, cpuD w q0 q1 q2 q3 q4 q5 q6 q7 q8 q9 q10 q11 q12 q13 r sa ix iy sp pc vi vr f1 f2 vm b1 b2 st), (r, regs r0 r1 r2 r3 r4 r5 r6 r7 t0 t1 t2 t3 t4 t5 t6 t7 nr)] (fun R => ∀ y6 u u6 u7, ((0 ≤ y6 ∧ y6 < 256) ∧ y6 % 2 = if r7 = 0 then 0 else 1) → R (.int 8 u) [(c, instObj 31 cd), (cd, cpuD w q0 q1 q2 q3 q4 q5 q6 q7 q8 q9 q10 q11 q12 q13 r sa ix iy sp pc vi vr f1 f2 vm b1 b2 st), (r, regs r0 r1 r2 r3 r4 r5 y6 ((0 - r7) % 256) t0 t1 t2 t3 t4 t5 u6 u7 nr)]) := by
  k_dflt (refine' does_ofW (fun τ => [(Str.ofString "cpu", (.ref c)), (Str.ofString "memory", (.ref ma)), (Str.ofString "ports", (.ref po)), (Str.ofString "octet", .int 68 (τ 3))]) ?ho ?hcd ?hb ?hl ?c1 ?c2 ?c3 ?c4 ?h9; (case ho => k_is); (case hcd => k_is); (case hb => exact fun τ s => BindsTo.of_eq rfl); (case hl => exact fun τ => locs rfl); (case c1 => exact rfl); (case c2 => exact rfl); (case c3 => exact rfl); (case c4 => decide))
  intro d9 τ9
  have hk0 := hc.1
  have hk1 := hc.2
  repeat' wtm_at "W step"
  all_goals (refine End.mk ?_; intro R hR; refine' End.mk2 (hR _ _ _ _ ?f9) ?slf9; (case slf9 => wtm_at "W sel"); (case f9 => assumption))

theorem ed_neg124_W (w : World) {c cd r sa : Addr} {q0 q1 q2 q3 q4 q5 q6 q7 q8 q9 q10 q11 q12 q13 : Tok} {ix iy sp pc vi vr f1 f2 vm b1 b2 st : Value} {r0 r1 r2 r3 r4 r5 r6 r7 : Int} {t0 t1 t2 t3 t4 t5 t6 t7 : Tok} {nr : Nat} {ma po : Addr} (hc : 0 ≤ r7 ∧ r7 < 256) : DoesW w 7 254 [.v (.ref c), .v (.ref ma), .v (.ref po), .i 124] [(c, instObj 31 cd), (cd, cpuD w q0 q1 q2 q3 q4 q5 q6 q7 q8 q9 q10 q11 q12 q13 r sa ix iy sp pc vi vr f1 f2 vm b1 b2 st), (r, regs r0 r1 r2 r3 r4 r5 r6 r7 t0 t1 t2 t3 t4 t5 t6 t7 nr)] (fun R => ∀ y6 u u6 u7, ((0 ≤ y6 ∧ y6 < 256) ∧ y6 % 2 = if r7 = 0 then 0 else 1) → R (.int 8 u) [(c, instObj 31 cd), (cd, cpuD w q0 q1 q2 q3 q4 q5 q6 q7 q8 q9 q10 q11 q12 q13 r sa ix iy sp pc vi vr f1 f2 vm b1 b2 st), (r, regs r0 r1 r2 r3 r4 r5 y6 ((0 - r7) % 256) t0 t1 t2 t3 t4 t5 u6 u7 nr)]) := by
  k_dflt (refine' does_ofW (fun τ => [(Str.ofString "cpu", (.ref c)), (Str.ofString "memory", (.ref ma)), (Str.ofString "ports", (.ref po)), (Str.ofString "octet", .int 124 (τ 3))]) ?ho ?hcd ?hb ?hl ?c1 ?c2 ?c3 ?c4 ?h9; (case ho => k_is); (case hcd => k_is); (case hb => exact fun τ s => BindsTo.of_eq rfl); (case hl => exact fun τ => locs rfl); (case c1 => exact rfl); (case c2 => exact rfl); (case c3 => exact rfl); (case c4 => decide))
  intro d9 τ9
  have hk0 := hc.1
  have hk1 := hc.2
  repeat' wtm_at "W step"
  all_goals (refine End.mk ?_; intro R hR; refine' End.mk2 (hR _ _ _ _ ?f9) ?slf9; (case slf9 => wtm_at "W sel"); (case f9 => assumption))

theorem ed_mode70_W (w : World) {c cd r sa : Addr} {q0 q1 q2 q3 q4 q5 q6 q7 q8 q9 q10 q11 q12 q13 : Tok} {ix iy sp pc vi vr f1 f2 vm b1 b2 st : Value} {ma po : Addr} : DoesW w 7 254 [.v (.ref c), .v (.ref ma), .v (.ref po), .i 70] [(c, instObj 31 cd), (cd, cpuD w q0 q1 q2 q3 q4 q5 q6 q7 q8 q9 q10 q11 q12 q13 r sa ix iy sp pc vi vr f1 f2 vm b1 b2 st)] (fun R => ∀ u u7, R (.int 8 u) [(c, instObj 31 cd), (cd, cpuD w q0 q1 q2 q3 q4 q5 q6 q7 q8 q9 q10 q11 q12 q13 r sa ix iy sp pc vi vr f1 f2 (.int 0 u7) b1 b2 st)]) := by
  k_dflt (refine' does_ofW (fun τ => [(Str.ofString "cpu", (.ref c)), (Str.ofString "memory", (.ref ma)), (Str.ofString "ports", (.ref po)), (Str.ofString "octet", .int 70 (τ 3))]) ?ho ?hcd ?hb ?hl ?c1 ?c2 ?c3 ?c4 ?h9; (case ho => k_is); (case hcd => k_is); (case hb => exact fun τ s => BindsTo.of_eq rfl); (case hl => exact fun τ => locs rfl); (case c1 => exact rfl); (case c2 => exact rfl); (case c3 => exact rfl); (case c4 => decide))
  intro d9 τ9
  repeat' wtm_at "W step"
  all_goals (refine End.mk ?_; intro R hR; refine' End.mk2 (hR _ _) ?slf9; (case slf9 => wtm_at "W sel"))

theorem ed_mode86_W (w : World) {c cd r sa : Addr} {q0 q1 q2 q3 q4 q5 q6 q7 q8 q9 q10 q11 q12 q13 : Tok} {ix iy sp pc vi vr f1 f2 vm b1 b2 st : Value} {ma po : Addr} : DoesW w 7 254 [.v (.ref c), .v (.ref ma), .v (.ref po), .i 86] [(c, instObj 31 cd), (cd, cpuD w q0 q1 q2 q3 q4 q5 q6 q7 q8 q9 q10 q11 q12 q13 r sa ix iy sp pc vi vr f1 f2 vm b1 b2 st)] (fun R => ∀ u u7, R (.int 8 u) [(c, instObj 31 cd), (cd, cpuD w q0 q1 q2 q3 q4 q5 q6 q7 q8 q9 q10 q11 q12 q13 r sa ix iy sp pc vi vr f1 f2 (.int 1 u7) b1 b2 st)]) := by
  k_dflt (refine' does_ofW (fun τ => [(Str.ofString "cpu", (.ref c)), (Str.ofString "memory", (.ref ma)), (Str.ofString "ports", (.ref po)), (Str.ofString "octet", .int 86 (τ 3))]) ?ho ?hcd ?hb ?hl ?c1 ?c2 ?c3 ?c4 ?h9; (case ho => k_is); (case hcd => k_is); (case hb => exact fun τ s => BindsTo.of_eq rfl); (case hl => exact fun τ => locs rfl); (case c1 => exact rfl); (case c2 => exact rfl); (case c3 => exact rfl); (case c4 => decide))
  intro d9 τ9
  repeat' wtm_at "W step"
  all_goals (refine End.mk ?_; intro R hR; refine' End.mk2 (hR _ _) ?slf9; (case slf9 => wtm_at "W sel"))

theorem ed_mode94_W (w : World) {c cd r sa : Addr} {q0 q1 q2 q3 q4 q5 q6 q7 q8 q9 q10 q11 q12 q13 : Tok} {ix iy sp pc vi vr f1 f2 vm b1 b2 st : Value} {ma po : Addr} : DoesW w 7 254 [.v (.ref c), .v (.ref ma), .v (.ref po), .i 94] [(c, instObj 31 cd), (cd, cpuD w q0 q1 q2 q3 q4 q5 q6 q7 q8 q9 q10 q11 q12 q13 r sa ix iy sp pc vi vr f1 f2 vm b1 b2 st)] (fun R => ∀ u u7, R (.int 8 u) [(c, instObj 31 cd), (cd, cpuD w q0 q1 q2 q3 q4 q5 q6 q7 q8 q9 q10 q11 q12 q13 r sa ix iy sp pc vi vr f1 f2 (.int 2 u7) b1 b2 st)]) := by
  k_dflt (refine' does_ofW (fun τ => [(Str.ofString "cpu", (.ref c)), (Str.ofString "memory", (.ref ma)), (Str.ofString "ports", (.ref po)), (Str.ofString "octet", .int 94 (τ 3))]) ?ho ?hcd ?hb ?hl ?c1 ?c2 ?c3 ?c4 ?h9; (case ho => k_is); (case hcd => k_is); (case hb => exact fun τ s => BindsTo.of_eq rfl); (case hl => exact fun τ => locs rfl); (case c1 => exact rfl); (case c2 => exact rfl); (case c3 => exact rfl); (case c4 => decide))
  intro d9 τ9
  repeat' wtm_at "W step"
  all_goals (refine End.mk ?_; intro R hR; refine' End.mk2 (hR _ _) ?slf9; (case slf9 => wtm_at "W sel"))

theorem ed_mode102_W (w : World) {c cd r sa : Addr} {q0 q1 q2 q3 q4 q5 q6 q7 q8 q9 q10 q11 q12 q13 : Tok} {ix iy sp pc vi vr f1 f2 vm b1 b2 st : Value} {ma po : Addr} : DoesW w 7 254 [.v (.ref c), .v (.ref ma), .v (.ref po), .i 102] [(c, instObj 31 cd), (cd, cpuD w q0 q1 q2 q3 q4 q5 q6 q7 q8 q9 q10 q11 q12 q13 r sa ix iy sp pc vi vr f1 f2 vm b1 b2 st)] (fun R => ∀ u u7, R (.int 8 u) [(c, instObj 31 cd), (cd, cpuD w q0 q1 q2 q3 q4 q5 q6 q7 q8 q9 q10 q11 q12 q13 r sa ix iy sp pc vi vr f1 f2 (.int 0 u7) b1 b2 st)]) := by
  k_dflt (refine' does_ofW (fun τ => [(Str.ofString "cpu", (.ref c)), (Str.ofString "memory", (.ref ma)), (Str.ofString "ports", (.ref po)), (Str.ofString "octet", .int 102 (τ 3))]) ?ho ?hcd ?hb ?hl ?c1 ?c2 ?c3 ?c4 ?h9; (case ho => k_is); (case hcd => k_is); (case hb => exact fun τ s => BindsTo.of_eq rfl); (case hl => exact fun τ => locs rfl); (case c1 => exact rfl); (case c2 => exact rfl); (case c3 => exact rfl); (case c4 => decide))
  intro d9 τ9
  repeat' wtm_at "W step"
  all_goals (refine End.mk ?_; intro R hR; refine' End.mk2 (hR _ _) ?slf9; (case slf9 => wtm_at "W sel"))

theorem ed_mode118_W (w : World) {c cd r sa : Addr} {q0 q1 q2 q3 q4 q5 q6 q7 q8 q9 q10 q11 q12 q13 : Tok} {ix iy sp pc vi vr f1 f2 vm b1 b2 st : Value} {ma po : Addr} : DoesW w 7 254 [.v (.ref c), .v (.ref ma), .v (.ref po), .i 118] [(c, instObj 31 cd), (cd, cpuD w q0 q1 q2 q3 q4 q5 q6 q7 q8 q9 q10 q11 q12 q13 r sa ix iy sp pc vi vr f1 f2 vm b1 b2 st)] (fun R => ∀ u u7, R (.int 8 u) [(c, instObj 31 cd), (cd, cpuD w q0 q1 q2 q3 q4 q5 q6 q7 q8 q9 q10 q11 q12 q13 r sa ix iy sp pc vi vr f1 f2 (.int 1 u7) b1 b2 st)]) := by
  k_dflt (refine' does_ofW (fun τ => [(Str.ofString "cpu", (.ref c)), (Str.ofString "memory", (.ref ma)), (Str.ofString "ports", (.ref po)), (Str.ofString "octet", .int 118 (τ 3))]) ?ho ?hcd ?hb ?hl ?c1 ?c2 ?c3 ?c4 ?h9; (case ho => k_is); (case hcd => k_is); (case hb => exact fun τ s => BindsTo.of_eq rfl); (case hl => exact fun τ => locs rfl); (case c1 => exact rfl); (case c2 => exact rfl); (case c3 => exact rfl); (case c4 => decide))
  intro d9 τ9
  repeat' wtm_at "W step"
  all_goals (refine End.mk ?_; intro R hR; refine' End.mk2 (hR _ _) ?slf9; (case slf9 => wtm_at "W sel"))

theorem ed_mode126_W (w : World) {c cd r sa : Addr} {q0 q1 q2 q3 q4 q5 q6 q7 q8 q9 q10 q11 q12 q13 : Tok} {ix iy sp pc vi vr f1 f2 vm b1 b2 st : Value} {ma po : Addr} : DoesW w 7 254 [.v (.ref c), .v (.ref ma), .v (.ref po), .i 126] [(c, instObj 31 cd), (cd, cpuD w q0 q1 q2 q3 q4 q5 q6 q7 q8 q9 q10 q11 q12 q13 r sa ix iy sp pc vi vr f1 f2 vm b1 b2 st)] (fun R => ∀ u u7, R (.int 8 u) [(c, instObj 31 cd), (cd, cpuD w q0 q1 q2 q3 q4 q5 q6 q7 q8 q9 q10 q11 q12 q13 r sa ix iy sp pc vi vr f1 f2 (.int 2 u7) b1 b2 st)]) := by
  k_dflt (refine' does_ofW (fun τ => [(Str.ofString "cpu", (.ref c)), (Str.ofString "memory", (.ref ma)), (Str.ofString "ports", (.ref po)), (Str.ofString "octet", .int 126 (τ 3))]) ?ho ?hcd ?hb ?hl ?c1 ?c2 ?c3 ?c4 ?h9; (case ho => k_is); (case hcd => k_is); (case hb => exact fun τ s => BindsTo.of_eq rfl); (case hl => exact fun τ => locs rfl); (case c1 => exact rfl); (case c2 => exact rfl); (case c3 => exact rfl); (case c4 => decide))
  intro d9 τ9
  repeat' wtm_at "W step"
  all_goals (refine End.mk ?_; intro R hR; refine' End.mk2 (hR _ _) ?slf9; (case slf9 => wtm_at "W sel"))

theorem ed_noneA_W (w : World) {c ma po : Addr} {x : Int} (hc : 0 ≤ x ∧ x < 64) : DoesW w 7 254 [.v (.ref c), .v (.ref ma), .v (.ref po), .i x] [] (fun R => ∀ u, R (.int 8 u) []) := by
  k_dflt (refine' does_ofW (fun τ => [(Str.ofString "cpu", (.ref c)), (Str.ofString "memory", (.ref ma)), (Str.ofString "ports", (.ref po)), (Str.ofString "octet", .int x (τ 3))]) ?ho ?hcd ?hb ?hl ?c1 ?c2 ?c3 ?c4 ?h9; (case ho => k_is); (case hcd => k_is); (case hb => exact fun τ s => BindsTo.of_eq rfl); (case hl => exact fun τ => locs rfl); (case c1 => exact rfl); (case c2 => exact rfl); (case c3 => exact rfl); (case c4 => decide))
  intro d9 τ9
  have hk0 := hc.1
  have hk1 := hc.2
  repeat' wtm_at "W step"
  all_goals (refine End.mk ?_; intro R hR; refine' End.mk2 (hR _) ?slf9; (case slf9 => wtm_at "W sel"))

theorem ed_noneB_W (w : World) {c ma po : Addr} {x : Int} (hc : 192 ≤ x ∧ x < 256) : DoesW w 7 254 [.v (.ref c), .v (.ref ma), .v (.ref po), .i x] [] (fun R => ∀ u, R (.int 8 u) []) := by
  k_dflt (refine' does_ofW (fun τ => [(Str.ofString "cpu", (.ref c)), (Str.ofString "memory", (.ref ma)), (Str.ofString "ports", (.ref po)), (Str.ofString "octet", .int x (τ 3))]) ?ho ?hcd ?hb ?hl ?c1 ?c2 ?c3 ?c4 ?h9; (case ho => k_is); (case hcd => k_is); (case hb => exact fun τ s => BindsTo.of_eq rfl); (case hl => exact fun τ => locs rfl); (case c1 => exact rfl); (case c2 => exact rfl); (case c3 => exact rfl); (case c4 => decide))
  intro d9 τ9
  have hk0 := hc.1
  have hk1 := hc.2
  repeat' wtm_at "W step"
  all_goals (refine End.mk ?_; intro R hR; refine' End.mk2 (hR _) ?slf9; (case slf9 => wtm_at "W sel"))

theorem ed_noneC_W (w : World) {c ma po : Addr} {x : Int} (hc : 128 ≤ x ∧ x < 160) : DoesW w 7 254 [.v (.ref c), .v (.ref ma), .v (.ref po), .i x] [] (fun R => ∀ u, R (.int 8 u) []) := by
  k_dflt (refine' does_ofW (fun τ => [(Str.ofString "cpu", (.ref c)), (Str.ofString "memory", (.ref ma)), (Str.ofString "ports", (.ref po)), (Str.ofString "octet", .int x (τ 3))]) ?ho ?hcd ?hb ?hl ?c1 ?c2 ?c3 ?c4 ?h9; (case ho => k_is); (case hcd => k_is); (case hb => exact fun τ s => BindsTo.of_eq rfl); (case hl => exact fun τ => locs rfl); (case c1 => exact rfl); (case c2 => exact rfl); (case c3 => exact rfl); (case c4 => decide))
  intro d9 τ9
  have hk0 := hc.1
  have hk1 := hc.2
  repeat' wtm_at "W step"
  all_goals (refine End.mk ?_; intro R hR; refine' End.mk2 (hR _) ?slf9; (case slf9 => wtm_at "W sel"))
end
theorem bi_list (w : World) : BuiltIs w "list" (.type "list") := ⟨by k_is, by boot_by_name, by decide⟩
theorem bi_range (w : World) : BuiltIs w "range" (.type "range") := ⟨by k_is, by boot_by_name, by decide⟩
theorem bi_int (w : World) : BuiltIs w "int" (.type "int") := ⟨by k_is, by boot_by_name, by decide⟩
theorem tn8 : (8 : Int).toNat = 8 := rfl
theorem tn9 : (9 : Int).toNat = 9 := rfl
theorem it2_0 {a b : Int} {t u : Tok} {n : Nat} : ItemOf (W.listOf #[.int a t, .int b u] n) 0 (.int a t) := ⟨[.int a t, .int b u], _, rfl, by decide, by decide, rfl⟩
theorem it2_1 {a b : Int} {t u : Tok} {n : Nat} : ItemOf (W.listOf #[.int a t, .int b u] n) 1 (.int b u) := ⟨[.int a t, .int b u], _, rfl, by decide, by decide, rfl⟩
theorem DoesW.mono {w : World} {k : Nat} {f : Addr} {as : List Ar} {pre : Led} {S S' : (Value → Led → Prop) → Prop} (D : DoesW w k f as pre S) (h : ∀ R, S' R → S R) : DoesW w k f as pre S' := fun nd τ R hR => D nd τ R (h R hR)
theorem store_mem {vs : List Value} {ms : List Int} {V z1 z2 : Int} (u1 u2 : Tok) (hi : IntsAre vs ms) (hm : ms.length = 16) (hb : ∀ j : Nat, 0 ≤ ms.getD j 0 ∧ ms.getD j 0 < 256) (m0 : ms.getD 0 0 = 8) (m1 : ms.getD 1 0 = 0) (h1 : z1 = V % 256) (h2 : z2 = V / 256 % 256) :
    IntsAre ((vs.set 8 (.int z1 u1)).set 9 (.int z2 u2)) ((ms.set 8 z1).set 9 z2) ∧ ((ms.set 8 z1).set 9 z2).length = 16 ∧ (∀ j : Nat, 0 ≤ ((ms.set 8 z1).set 9 z2).getD j 0 ∧ ((ms.set 8 z1).set 9 z2).getD j 0 < 256) ∧ ((ms.set 8 z1).set 9 z2).getD 0 0 = 8 ∧ ((ms.set 8 z1).set 9 z2).getD 1 0 = 0 ∧ ((ms.set 8 z1).set 9 z2).getD 8 0 = V % 256 ∧ ((ms.set 8 z1).set 9 z2).getD 9 0 = V / 256 % 256 :=
  ⟨ints_set (ints_set hi 8) 9, by simp [hm], bounds_set (bounds_set hb (by omega) (by omega)) (by omega) (by omega), by rw [getD_set_other (by decide), getD_set_other (by decide), m0], by rw [getD_set_other (by decide), getD_set_other (by decide), m1], by rw [getD_set_other (by decide), getD_set_same (by omega), h1], by rw [getD_set_same (by simp [hm]), h2]⟩
theorem ed_storeS0_W (w : World) {c cd r sa : Addr} {q0 q1 q2 q3 q4 q5 q6 q7 q8 q9 q10 q11 q12 q13 : Tok} {ix iy sp vi vr f1 f2 vm b1 b2 st : Value} {r0 r1 r2 r3 r4 r5 r6 r7 : Int} {t0 t1 t2 t3 t4 t5 t6 t7 : Tok} {nr : Nat} {tpc : Tok} {ma : Addr} {vs : List Value} {ms : List Int} {nm : Nat} {po : Addr} (hc : (IntsAre vs ms ∧ ms.length = 16 ∧ (∀ j : Nat, 0 ≤ ms.getD j 0 ∧ ms.getD j 0 < 256) ∧ ms.getD 0 0 = 8 ∧ ms.getD 1 0 = 0) ∧ (0 ≤ r0 ∧ r0 < 256) ∧ (0 ≤ r1 ∧ r1 < 256)) : DoesW w 7 254 [.v (.ref c), .v (.ref ma), .v (.ref po), .i 67] [(c, instObj 31 cd), (cd, cpuD w q0 q1 q2 q3 q4 q5 q6 q7 q8 q9 q10 q11 q12 q13 r sa ix iy sp (.int 0 tpc) vi vr f1 f2 vm b1 b2 st), (r, regs r0 r1 r2 r3 r4 r5 r6 r7 t0 t1 t2 t3 t4 t5 t6 t7 nr), (ma, W.listOf vs.toArray nm)] (fun R => ∀ up vs' ms' n2 u, IntsAre vs' ms' → ms'.length = 16 → (∀ j : Nat, 0 ≤ ms'.getD j 0 ∧ ms'.getD j 0 < 256) → ms'.getD 0 0 = 8 → ms'.getD 1 0 = 0 → ms'.getD 8 0 = (256 * r0 + r1) % 256 → ms'.getD 9 0 = (256 * r0 + r1) / 256 % 256 → R (.int 20 u) [(c, instObj 31 cd), (cd, cpuD w q0 q1 q2 q3 q4 q5 q6 q7 q8 q9 q10 q11 q12 q13 r sa ix iy sp (.int 2 up) vi vr f1 f2 vm b1 b2 st), (r, regs r0 r1 r2 r3 r4 r5 r6 r7 t0 t1 t2 t3 t4 t5 t6 t7 nr), (ma, W.listOf vs'.toArray n2)]) :=
  (ed_store0_W w ⟨hc.1.1, hc.1.2.1, hc.1.2.2.1, hc.1.2.2.2.1, hc.1.2.2.2.2, hc.2⟩).mono fun R hR up z1 z2 u1 u2 n2 u hz => by
    have h := store_mem u1 u2 hc.1.1 hc.1.2.1 hc.1.2.2.1 hc.1.2.2.2.1 hc.1.2.2.2.2 hz.1 hz.2
    exact hR _ _ _ _ _ h.1 h.2.1 h.2.2.1 h.2.2.2.1 h.2.2.2.2.1 h.2.2.2.2.2.1 h.2.2.2.2.2.2
theorem ed_storeS1_W (w : World) {c cd r sa : Addr} {q0 q1 q2 q3 q4 q5 q6 q7 q8 q9 q10 q11 q12 q13 : Tok} {ix iy sp vi vr f1 f2 vm b1 b2 st : Value} {r0 r1 r2 r3 r4 r5 r6 r7 : Int} {t0 t1 t2 t3 t4 t5 t6 t7 : Tok} {nr : Nat} {tpc : Tok} {ma : Addr} {vs : List Value} {ms : List Int} {nm : Nat} {po : Addr} (hc : (IntsAre vs ms ∧ ms.length = 16 ∧ (∀ j : Nat, 0 ≤ ms.getD j 0 ∧ ms.getD j 0 < 256) ∧ ms.getD 0 0 = 8 ∧ ms.getD 1 0 = 0) ∧ (0 ≤ r2 ∧ r2 < 256) ∧ (0 ≤ r3 ∧ r3 < 256)) : DoesW w 7 254 [.v (.ref c), .v (.ref ma), .v (.ref po), .i 83] [(c, instObj 31 cd), (cd, cpuD w q0 q1 q2 q3 q4 q5 q6 q7 q8 q9 q10 q11 q12 q13 r sa ix iy sp (.int 0 tpc) vi vr f1 f2 vm b1 b2 st), (r, regs r0 r1 r2 r3 r4 r5 r6 r7 t0 t1 t2 t3 t4 t5 t6 t7 nr), (ma, W.listOf vs.toArray nm)] (fun R => ∀ up vs' ms' n2 u, IntsAre vs' ms' → ms'.length = 16 → (∀ j : Nat, 0 ≤ ms'.getD j 0 ∧ ms'.getD j 0 < 256) → ms'.getD 0 0 = 8 → ms'.getD 1 0 = 0 → ms'.getD 8 0 = (256 * r2 + r3) % 256 → ms'.getD 9 0 = (256 * r2 + r3) / 256 % 256 → R (.int 20 u) [(c, instObj 31 cd), (cd, cpuD w q0 q1 q2 q3 q4 q5 q6 q7 q8 q9 q10 q11 q12 q13 r sa ix iy sp (.int 2 up) vi vr f1 f2 vm b1 b2 st), (r, regs r0 r1 r2 r3 r4 r5 r6 r7 t0 t1 t2 t3 t4 t5 t6 t7 nr), (ma, W.listOf vs'.toArray n2)]) :=
  (ed_store1_W w ⟨hc.1.1, hc.1.2.1, hc.1.2.2.1, hc.1.2.2.2.1, hc.1.2.2.2.2, hc.2⟩).mono fun R hR up z1 z2 u1 u2 n2 u hz => by
    have h := store_mem u1 u2 hc.1.1 hc.1.2.1 hc.1.2.2.1 hc.1.2.2.2.1 hc.1.2.2.2.2 hz.1 hz.2
    exact hR _ _ _ _ _ h.1 h.2.1 h.2.2.1 h.2.2.2.1 h.2.2.2.2.1 h.2.2.2.2.2.1 h.2.2.2.2.2.2
theorem ed_storeS2_W (w : World) {c cd r sa : Addr} {q0 q1 q2 q3 q4 q5 q6 q7 q8 q9 q10 q11 q12 q13 : Tok} {ix iy sp vi vr f1 f2 vm b1 b2 st : Value} {r0 r1 r2 r3 r4 r5 r6 r7 : Int} {t0 t1 t2 t3 t4 t5 t6 t7 : Tok} {nr : Nat} {tpc : Tok} {ma : Addr} {vs : List Value} {ms : List Int} {nm : Nat} {po : Addr} (hc : (IntsAre vs ms ∧ ms.length = 16 ∧ (∀ j : Nat, 0 ≤ ms.getD j 0 ∧ ms.getD j 0 < 256) ∧ ms.getD 0 0 = 8 ∧ ms.getD 1 0 = 0) ∧ (0 ≤ r4 ∧ r4 < 256) ∧ (0 ≤ r5 ∧ r5 < 256)) : DoesW w 7 254 [.v (.ref c), .v (.ref ma), .v (.ref po), .i 99] [(c, instObj 31 cd), (cd, cpuD w q0 q1 q2 q3 q4 q5 q6 q7 q8 q9 q10 q11 q12 q13 r sa ix iy sp (.int 0 tpc) vi vr f1 f2 vm b1 b2 st), (r, regs r0 r1 r2 r3 r4 r5 r6 r7 t0 t1 t2 t3 t4 t5 t6 t7 nr), (ma, W.listOf vs.toArray nm)] (fun R => ∀ up vs' ms' n2 u, IntsAre vs' ms' → ms'.length = 16 → (∀ j : Nat, 0 ≤ ms'.getD j 0 ∧ ms'.getD j 0 < 256) → ms'.getD 0 0 = 8 → ms'.getD 1 0 = 0 → ms'.getD 8 0 = (256 * r4 + r5) % 256 → ms'.getD 9 0 = (256 * r4 + r5) / 256 % 256 → R (.int 20 u) [(c, instObj 31 cd), (cd, cpuD w q0 q1 q2 q3 q4 q5 q6 q7 q8 q9 q10 q11 q12 q13 r sa ix iy sp (.int 2 up) vi vr f1 f2 vm b1 b2 st), (r, regs r0 r1 r2 r3 r4 r5 r6 r7 t0 t1 t2 t3 t4 t5 t6 t7 nr), (ma, W.listOf vs'.toArray n2)]) :=
  (ed_store2_W w ⟨hc.1.1, hc.1.2.1, hc.1.2.2.1, hc.1.2.2.2.1, hc.1.2.2.2.2, hc.2⟩).mono fun R hR up z1 z2 u1 u2 n2 u hz => by
    have h := store_mem u1 u2 hc.1.1 hc.1.2.1 hc.1.2.2.1 hc.1.2.2.2.1 hc.1.2.2.2.2 hz.1 hz.2
    exact hR _ _ _ _ _ h.1 h.2.1 h.2.2.1 h.2.2.2.1 h.2.2.2.2.1 h.2.2.2.2.2.1 h.2.2.2.2.2.2
theorem ed_storeS3_W (w : World) {c cd r sa : Addr} {q0 q1 q2 q3 q4 q5 q6 q7 q8 q9 q10 q11 q12 q13 : Tok} {ix iy vi vr f1 f2 vm b1 b2 st : Value} {r0 r1 r2 r3 r4 r5 r6 r7 : Int} {t0 t1 t2 t3 t4 t5 t6 t7 : Tok} {nr : Nat} {tpc : Tok} {vsp : Int} {tsp : Tok} {ma : Addr} {vs : List Value} {ms : List Int} {nm : Nat} {po : Addr} (hc : IntsAre vs ms ∧ ms.length = 16 ∧ (∀ j : Nat, 0 ≤ ms.getD j 0 ∧ ms.getD j 0 < 256) ∧ ms.getD 0 0 = 8 ∧ ms.getD 1 0 = 0) : DoesW w 7 254 [.v (.ref c), .v (.ref ma), .v (.ref po), .i 115] [(c, instObj 31 cd), (cd, cpuD w q0 q1 q2 q3 q4 q5 q6 q7 q8 q9 q10 q11 q12 q13 r sa ix iy (.int vsp tsp) (.int 0 tpc) vi vr f1 f2 vm b1 b2 st), (r, regs r0 r1 r2 r3 r4 r5 r6 r7 t0 t1 t2 t3 t4 t5 t6 t7 nr), (ma, W.listOf vs.toArray nm)] (fun R => ∀ up vs' ms' n2 u, IntsAre vs' ms' → ms'.length = 16 → (∀ j : Nat, 0 ≤ ms'.getD j 0 ∧ ms'.getD j 0 < 256) → ms'.getD 0 0 = 8 → ms'.getD 1 0 = 0 → ms'.getD 8 0 = vsp % 256 → ms'.getD 9 0 = vsp / 256 % 256 → R (.int 20 u) [(c, instObj 31 cd), (cd, cpuD w q0 q1 q2 q3 q4 q5 q6 q7 q8 q9 q10 q11 q12 q13 r sa ix iy (.int vsp tsp) (.int 2 up) vi vr f1 f2 vm b1 b2 st), (r, regs r0 r1 r2 r3 r4 r5 r6 r7 t0 t1 t2 t3 t4 t5 t6 t7 nr), (ma, W.listOf vs'.toArray n2)]) :=
  (ed_store3_W w hc).mono fun R hR up z1 z2 u1 u2 n2 u hz => by
    have h := store_mem u1 u2 hc.1 hc.2.1 hc.2.2.1 hc.2.2.2.1 hc.2.2.2.2 hz.1 hz.2
    exact hR _ _ _ _ _ h.1 h.2.1 h.2.2.1 h.2.2.2.1 h.2.2.2.2.1 h.2.2.2.2.2.1 h.2.2.2.2.2.2
section
local macro_rules | `(tactic| wtm_at "W stepa") => `(tactic| ((with_reducible refine' W.asgSlice ?s9 ?e9 ?o9 ?l9 ?h9 ?x9 ?_); (case s9 => rfl); (case e9 => wtm_at "W ev"); (case o9 => wtm_at "W ev"); (case l9 => wtm_at "W ev"); (case h9 => wtm_at "W ev"); (case x9 => wtm_at "W sel")))
local macro_rules | `(tactic| wtm_at "W stepx") => `(tactic| first | ((with_reducible refine' W.forRange (n := 3) ?a9 ?b9 ?c9 ?f9 ?e9 ?g9 ?h9 ?i9 ?j9 ?k9 ?_); (case a9 => rfl); (case b9 => rfl); (case c9 => exact fun _ => rfl); (case f9 => exact Ev.built (bi_range _) rfl rfl); (case e9 => exact Ev.int); (case g9 => rfl); (case h9 => rfl); (case i9 => rfl); (case j9 => decide); (case k9 => decide); intro it9) | ((with_reducible refine' W.forTup ?s9 ?_); (case s9 => exact fun _ => rfl)) | ((with_reducible refine' Lp.cons ?_); intro o9) | (with_reducible refine' Lp.nil ?_) | ((with_reducible refine' Lq.next ?s9 ?m9 ?_); (case s9 => wtm_at "W sel"); (case m9 => wtm_at "W mem")) | (with_reducible refine' Lq.ret ?_) | ((with_reducible refine' Rp.succ ?_); intro o9 t9; refine' ⟨_, ?l9, ?_⟩; (case l9 => wtm_at "W setl")) | (with_reducible refine' Rp.zero ?_) | ((with_reducible refine' Rq.next ?s9 ?_); (case s9 => wtm_at "W sel")) | (with_reducible refine' Rq.ret ?_) | ((with_reducible show ∃ _ _, _ ∧ _ ∧ _); refine' ⟨_, _, rfl, ?m9, fun it9 => ?_⟩; (case m9 => wtm_at "W mem")) | (with_reducible refine' W.ifW ?_) | ((with_reducible refine' W.tv ?t9 ?_); (case t9 => wtm_at "W tv")) | (with_reducible refine' W.tor ?_) | (with_reducible refine' W.tor0 ?_) | ((with_reducible refine' W.tcmp ?m9 ?_); (case m9 => with_unfolding_all rfl)) | (with_reducible refine' W.cmpNe ?_) | (with_reducible refine' W.truB ?_) | ((with_reducible refine' iteF ?c9 ?_); (case c9 => wtm_at "W dec")) | ((with_reducible refine' iteT ?c9 ?_); (case c9 => wtm_at "W dec")) | ((with_reducible refine' W.slice ?a9 ?b9 ?c9 ?m9 ?e9 ?z9 ?s9 ?_); (case a9 => wtm_at "W ev"); (case b9 => wtm_at "W ev"); (case c9 => wtm_at "W ev"); (case m9 => wtm_at "W mem"); (case e9 => kl_lit); (case z9 => exact Nat.le_of_ble_eq_true rfl); (case s9 => exact fun _ => by with_unfolding_all rfl); intro sl9) | ((with_reducible refine' W.neLists ?k9 ?m9 ?n9 ?i9 ?j9 ?e9 ?_); (case k9 => decide); (case m9 => wtm_at "W mem"); (case n9 => wtm_at "W mem"); (case i9 => wtm_at "W ints"); (case j9 => wtm_at "W ints"); (case e9 => first | rfl | exact two_eq (by omega) (by omega))) | ((with_reducible refine' W.callTy ?f9 ?a9 ?b9 ?c9 ?_); (case f9 => exact Ev.built (bi_list _) rfl rfl); (case a9 => rfl); (case b9 => rfl); (case c9 => rfl)) | ((with_reducible refine' W.listCopy ?m9 ?i9 ?l9 ?_); (case m9 => wtm_at "W mem"); (case i9 => assumption); (case l9 => wtm_at "W side"); intro lc9 n9))
local macro_rules | `(tactic| wtm_at "W ints") => `(tactic| first | assumption | wtm_at "W intsx" | l_ints)
local macro_rules | `(tactic| wtm_at "W intsx") => `(tactic| fail)
local macro_rules | `(tactic| wtm_at "W evx") => `(tactic| first | ((with_reducible refine' Ev.mem ?a9 ?b9 ?m9 ?i9 ?l9 ?x9 ?y9 ?s9); (case a9 => wtm_at "W ev"); (case b9 => wtm_at "W ev"); (case m9 => wtm_at "W mem"); (case i9 => assumption); (case l9 => assumption); (case x9 => decide); (case y9 => decide); (case s9 => exact fun _ => by with_unfolding_all rfl)) | ((with_reducible refine' Ev.itemI ?a9 ?b9 ?m9 ?v9 ?s9); (case a9 => wtm_at "W ev"); (case b9 => wtm_at "W ev"); (case m9 => wtm_at "W mem"); (case v9 => first | exact it2_0 | exact it2_1); (case s9 => exact fun _ => by with_unfolding_all rfl)))
local macro_rules | `(tactic| wtm_at "W tvx") => `(tactic| first | ((with_reducible refine' Tv.orF ?a9 ?b9); (case a9 => wtm_at "W tv"); (case b9 => wtm_at "W tv")) | (with_reducible exact Tv.or0))
local macro_rules | `(tactic| wtm_at "W decx") => `(tactic| ((try simp only [beq_iff_eq, bne_iff_ne, ne_eq, decide_eq_true_eq, beq_eq_false_iff_ne, bne_eq_false_iff_eq, decide_eq_false_iff_not, fdiv_c2, fdiv_c16, fmod_c2, fmod_c16, fmod_c256, fmod_c65536, fdiv_c65536, tn8, tn9]) <;> omega))
local macro_rules | `(tactic| wtm_at "W pix") => `(tactic| exact PutI.mem (by wtm_at "W side") (by wtm_at "W side") (by decide) (by decide))
local macro_rules | `(tactic| wtm_at "W sidex") => `(tactic| first | exact mem2 _ _ (by assumption) (by assumption) (by assumption))
section
local macro_rules | `(tactic| wtm_at "W con") => `(tactic| first | apply ed_adc0_W | apply ed_adc1_W | apply ed_adc2_W | apply ed_adc3_W | apply ed_sbc0_W | apply ed_sbc1_W | apply ed_sbc3_W | apply ed_storeS0_W | apply ed_storeS1_W | apply ed_storeS2_W | apply ed_storeS3_W | apply ed_load0_W | apply ed_load1_W | apply ed_load2_W | apply ed_load3_W)

theorem words0_W (w : World) {c cd r sa : Addr} {q0 q1 q2 q3 q4 q5 q6 q7 q8 q9 q10 q11 q12 q13 : Tok} {ix iy pc vi vr f1 f2 vm b1 b2 st : Value} {r0 r1 r2 r3 r4 r5 r6 r7 : Int} {t0 t1 t2 t3 t4 t5 t6 t7 : Tok} {nr : Nat} {vsp : Int} {tsp : Tok} {ma : Addr} {vs : List Value} {ms : List Int} {nm : Nat} {po : Addr} {cy : Int} (hc : IntsAre vs ms ∧ ms.length = 16 ∧ (∀ j : Nat, 0 ≤ ms.getD j 0 ∧ ms.getD j 0 < 256) ∧ (0 ≤ r0 ∧ r0 < 256) ∧ (0 ≤ r1 ∧ r1 < 256) ∧ (0 ≤ r2 ∧ r2 < 256) ∧ (0 ≤ r3 ∧ r3 < 256) ∧ (0 ≤ r4 ∧ r4 < 256) ∧ (0 ≤ r5 ∧ r5 < 256) ∧ (0 ≤ r6 ∧ r6 < 256) ∧ (0 ≤ vsp ∧ vsp < 65536) ∧ (0 ≤ cy ∧ cy < 2)) : DoesW w 20 345 [.v (.ref c), .v (.ref ma), .v (.ref po), .i 0, .i cy] [(c, instObj 31 cd), (cd, cpuD w q0 q1 q2 q3 q4 q5 q6 q7 q8 q9 q10 q11 q12 q13 r sa ix iy (.int vsp tsp) pc vi vr f1 f2 vm b1 b2 st), (r, regs r0 r1 r2 r3 r4 r5 r6 r7 t0 t1 t2 t3 t4 t5 t6 t7 nr), (ma, W.listOf vs.toArray nm)] (fun R => R (.bool true) []) := by
  k_dflt (refine' does_ofW (fun τ => [(Str.ofString "cpu", (.ref c)), (Str.ofString "memory", (.ref ma)), (Str.ofString "ports", (.ref po)), (Str.ofString "which", .int 0 (τ 3)), (Str.ofString "carry", .int cy (τ 4))]) ?ho ?hcd ?hb ?hl ?c1 ?c2 ?c3 ?c4 ?h9; (case ho => k_is); (case hcd => k_is); (case hb => exact fun τ s => BindsTo.of_eq rfl); (case hl => exact fun τ => locs rfl); (case c1 => exact rfl); (case c2 => exact rfl); (case c3 => exact rfl); (case c4 => decide))
  intro d9 τ9
  have hk0 := hc.1
  have hk1 := hc.2.1
  have hk2 := hc.2.2.1
  have hk3 := hc.2.2.2.1.1
  have hk4 := hc.2.2.2.1.2
  have hk5 := hc.2.2.2.2.1.1
  have hk6 := hc.2.2.2.2.1.2
  have hk7 := hc.2.2.2.2.2.1.1
  have hk8 := hc.2.2.2.2.2.1.2
  have hk9 := hc.2.2.2.2.2.2.1.1
  have hk10 := hc.2.2.2.2.2.2.1.2
  have hk11 := hc.2.2.2.2.2.2.2.1.1
  have hk12 := hc.2.2.2.2.2.2.2.1.2
  have hk13 := hc.2.2.2.2.2.2.2.2.1.1
  have hk14 := hc.2.2.2.2.2.2.2.2.1.2
  have hk15 := hc.2.2.2.2.2.2.2.2.2.1.1
  have hk16 := hc.2.2.2.2.2.2.2.2.2.1.2
  have hk17 := hc.2.2.2.2.2.2.2.2.2.2.1.1
  have hk18 := hc.2.2.2.2.2.2.2.2.2.2.1.2
  have hk19 := hc.2.2.2.2.2.2.2.2.2.2.2.1
  have hk20 := hc.2.2.2.2.2.2.2.2.2.2.2.2
  repeat' wtm_at "W step"
  all_goals (refine End.mk ?_; intro R hR; refine' End.mk2 (hR) ?slf9; (case slf9 => wtm_at "W sel"))

theorem words1_W (w : World) {c cd r sa : Addr} {q0 q1 q2 q3 q4 q5 q6 q7 q8 q9 q10 q11 q12 q13 : Tok} {ix iy pc vi vr f1 f2 vm b1 b2 st : Value} {r0 r1 r2 r3 r4 r5 r6 r7 : Int} {t0 t1 t2 t3 t4 t5 t6 t7 : Tok} {nr : Nat} {vsp : Int} {tsp : Tok} {ma : Addr} {vs : List Value} {ms : List Int} {nm : Nat} {po : Addr} {cy : Int} (hc : IntsAre vs ms ∧ ms.length = 16 ∧ (∀ j : Nat, 0 ≤ ms.getD j 0 ∧ ms.getD j 0 < 256) ∧ (0 ≤ r0 ∧ r0 < 256) ∧ (0 ≤ r1 ∧ r1 < 256) ∧ (0 ≤ r2 ∧ r2 < 256) ∧ (0 ≤ r3 ∧ r3 < 256) ∧ (0 ≤ r4 ∧ r4 < 256) ∧ (0 ≤ r5 ∧ r5 < 256) ∧ (0 ≤ r6 ∧ r6 < 256) ∧ (0 ≤ vsp ∧ vsp < 65536) ∧ (0 ≤ cy ∧ cy < 2)) : DoesW w 20 345 [.v (.ref c), .v (.ref ma), .v (.ref po), .i 1, .i cy] [(c, instObj 31 cd), (cd, cpuD w q0 q1 q2 q3 q4 q5 q6 q7 q8 q9 q10 q11 q12 q13 r sa ix iy (.int vsp tsp) pc vi vr f1 f2 vm b1 b2 st), (r, regs r0 r1 r2 r3 r4 r5 r6 r7 t0 t1 t2 t3 t4 t5 t6 t7 nr), (ma, W.listOf vs.toArray nm)] (fun R => R (.bool true) []) := by
  k_dflt (refine' does_ofW (fun τ => [(Str.ofString "cpu", (.ref c)), (Str.ofString "memory", (.ref ma)), (Str.ofString "ports", (.ref po)), (Str.ofString "which", .int 1 (τ 3)), (Str.ofString "carry", .int cy (τ 4))]) ?ho ?hcd ?hb ?hl ?c1 ?c2 ?c3 ?c4 ?h9; (case ho => k_is); (case hcd => k_is); (case hb => exact fun τ s => BindsTo.of_eq rfl); (case hl => exact fun τ => locs rfl); (case c1 => exact rfl); (case c2 => exact rfl); (case c3 => exact rfl); (case c4 => decide))
  intro d9 τ9
  have hk0 := hc.1
  have hk1 := hc.2.1
  have hk2 := hc.2.2.1
  have hk3 := hc.2.2.2.1.1
  have hk4 := hc.2.2.2.1.2
  have hk5 := hc.2.2.2.2.1.1
  have hk6 := hc.2.2.2.2.1.2
  have hk7 := hc.2.2.2.2.2.1.1
  have hk8 := hc.2.2.2.2.2.1.2
  have hk9 := hc.2.2.2.2.2.2.1.1
  have hk10 := hc.2.2.2.2.2.2.1.2
  have hk11 := hc.2.2.2.2.2.2.2.1.1
  have hk12 := hc.2.2.2.2.2.2.2.1.2
  have hk13 := hc.2.2.2.2.2.2.2.2.1.1
  have hk14 := hc.2.2.2.2.2.2.2.2.1.2
  have hk15 := hc.2.2.2.2.2.2.2.2.2.1.1
  have hk16 := hc.2.2.2.2.2.2.2.2.2.1.2
  have hk17 := hc.2.2.2.2.2.2.2.2.2.2.1.1
  have hk18 := hc.2.2.2.2.2.2.2.2.2.2.1.2
  have hk19 := hc.2.2.2.2.2.2.2.2.2.2.2.1
  have hk20 := hc.2.2.2.2.2.2.2.2.2.2.2.2
  repeat' wtm_at "W step"
  all_goals (refine End.mk ?_; intro R hR; refine' End.mk2 (hR) ?slf9; (case slf9 => wtm_at "W sel"))

theorem words2_W (w : World) {c cd r sa : Addr} {q0 q1 q2 q3 q4 q5 q6 q7 q8 q9 q10 q11 q12 q13 : Tok} {ix iy pc vi vr f1 f2 vm b1 b2 st : Value} {r0 r1 r2 r3 r4 r5 r6 r7 : Int} {t0 t1 t2 t3 t4 t5 t6 t7 : Tok} {nr : Nat} {vsp : Int} {tsp : Tok} {ma : Addr} {vs : List Value} {ms : List Int} {nm : Nat} {po : Addr} {cy : Int} (hc : IntsAre vs ms ∧ ms.length = 16 ∧ (∀ j : Nat, 0 ≤ ms.getD j 0 ∧ ms.getD j 0 < 256) ∧ (0 ≤ r0 ∧ r0 < 256) ∧ (0 ≤ r1 ∧ r1 < 256) ∧ (0 ≤ r2 ∧ r2 < 256) ∧ (0 ≤ r3 ∧ r3 < 256) ∧ (0 ≤ r4 ∧ r4 < 256) ∧ (0 ≤ r5 ∧ r5 < 256) ∧ (0 ≤ r6 ∧ r6 < 256) ∧ (0 ≤ vsp ∧ vsp < 65536) ∧ (0 ≤ cy ∧ cy < 2)) : DoesW w 20 345 [.v (.ref c), .v (.ref ma), .v (.ref po), .i 2, .i cy] [(c, instObj 31 cd), (cd, cpuD w q0 q1 q2 q3 q4 q5 q6 q7 q8 q9 q10 q11 q12 q13 r sa ix iy (.int vsp tsp) pc vi vr f1 f2 vm b1 b2 st), (r, regs r0 r1 r2 r3 r4 r5 r6 r7 t0 t1 t2 t3 t4 t5 t6 t7 nr), (ma, W.listOf vs.toArray nm)] (fun R => R (.bool true) []) := by
  k_dflt (refine' does_ofW (fun τ => [(Str.ofString "cpu", (.ref c)), (Str.ofString "memory", (.ref ma)), (Str.ofString "ports", (.ref po)), (Str.ofString "which", .int 2 (τ 3)), (Str.ofString "carry", .int cy (τ 4))]) ?ho ?hcd ?hb ?hl ?c1 ?c2 ?c3 ?c4 ?h9; (case ho => k_is); (case hcd => k_is); (case hb => exact fun τ s => BindsTo.of_eq rfl); (case hl => exact fun τ => locs rfl); (case c1 => exact rfl); (case c2 => exact rfl); (case c3 => exact rfl); (case c4 => decide))
  intro d9 τ9
  have hk0 := hc.1
  have hk1 := hc.2.1
  have hk2 := hc.2.2.1
  have hk3 := hc.2.2.2.1.1
  have hk4 := hc.2.2.2.1.2
  have hk5 := hc.2.2.2.2.1.1
  have hk6 := hc.2.2.2.2.1.2
  have hk7 := hc.2.2.2.2.2.1.1
  have hk8 := hc.2.2.2.2.2.1.2
  have hk9 := hc.2.2.2.2.2.2.1.1
  have hk10 := hc.2.2.2.2.2.2.1.2
  have hk11 := hc.2.2.2.2.2.2.2.1.1
  have hk12 := hc.2.2.2.2.2.2.2.1.2
  have hk13 := hc.2.2.2.2.2.2.2.2.1.1
  have hk14 := hc.2.2.2.2.2.2.2.2.1.2
  have hk15 := hc.2.2.2.2.2.2.2.2.2.1.1
  have hk16 := hc.2.2.2.2.2.2.2.2.2.1.2
  have hk17 := hc.2.2.2.2.2.2.2.2.2.2.1.1
  have hk18 := hc.2.2.2.2.2.2.2.2.2.2.1.2
  have hk19 := hc.2.2.2.2.2.2.2.2.2.2.2.1
  have hk20 := hc.2.2.2.2.2.2.2.2.2.2.2.2
  repeat' wtm_at "W step"
  all_goals (refine End.mk ?_; intro R hR; refine' End.mk2 (hR) ?slf9; (case slf9 => wtm_at "W sel"))

theorem words3_W (w : World) {c cd r sa : Addr} {q0 q1 q2 q3 q4 q5 q6 q7 q8 q9 q10 q11 q12 q13 : Tok} {ix iy pc vi vr f1 f2 vm b1 b2 st : Value} {r0 r1 r2 r3 r4 r5 r6 r7 : Int} {t0 t1 t2 t3 t4 t5 t6 t7 : Tok} {nr : Nat} {vsp : Int} {tsp : Tok} {ma : Addr} {vs : List Value} {ms : List Int} {nm : Nat} {po : Addr} {cy : Int} (hc : IntsAre vs ms ∧ ms.length = 16 ∧ (∀ j : Nat, 0 ≤ ms.getD j 0 ∧ ms.getD j 0 < 256) ∧ (0 ≤ r0 ∧ r0 < 256) ∧ (0 ≤ r1 ∧ r1 < 256) ∧ (0 ≤ r2 ∧ r2 < 256) ∧ (0 ≤ r3 ∧ r3 < 256) ∧ (0 ≤ r4 ∧ r4 < 256) ∧ (0 ≤ r5 ∧ r5 < 256) ∧ (0 ≤ r6 ∧ r6 < 256) ∧ (0 ≤ vsp ∧ vsp < 65536) ∧ (0 ≤ cy ∧ cy < 2)) : DoesW w 20 345 [.v (.ref c), .v (.ref ma), .v (.ref po), .i 3, .i cy] [(c, instObj 31 cd), (cd, cpuD w q0 q1 q2 q3 q4 q5 q6 q7 q8 q9 q10 q11 q12 q13 r sa ix iy (.int vsp tsp) pc vi vr f1 f2 vm b1 b2 st), (r, regs r0 r1 r2 r3 r4 r5 r6 r7 t0 t1 t2 t3 t4 t5 t6 t7 nr), (ma, W.listOf vs.toArray nm)] (fun R => R (.bool true) []) := by
  k_dflt (refine' does_ofW (fun τ => [(Str.ofString "cpu", (.ref c)), (Str.ofString "memory", (.ref ma)), (Str.ofString "ports", (.ref po)), (Str.ofString "which", .int 3 (τ 3)), (Str.ofString "carry", .int cy (τ 4))]) ?ho ?hcd ?hb ?hl ?c1 ?c2 ?c3 ?c4 ?h9; (case ho => k_is); (case hcd => k_is); (case hb => exact fun τ s => BindsTo.of_eq rfl); (case hl => exact fun τ => locs rfl); (case c1 => exact rfl); (case c2 => exact rfl); (case c3 => exact rfl); (case c4 => decide))
  intro d9 τ9
  have hk0 := hc.1
  have hk1 := hc.2.1
  have hk2 := hc.2.2.1
  have hk3 := hc.2.2.2.1.1
  have hk4 := hc.2.2.2.1.2
  have hk5 := hc.2.2.2.2.1.1
  have hk6 := hc.2.2.2.2.1.2
  have hk7 := hc.2.2.2.2.2.1.1
  have hk8 := hc.2.2.2.2.2.1.2
  have hk9 := hc.2.2.2.2.2.2.1.1
  have hk10 := hc.2.2.2.2.2.2.1.2
  have hk11 := hc.2.2.2.2.2.2.2.1.1
  have hk12 := hc.2.2.2.2.2.2.2.1.2
  have hk13 := hc.2.2.2.2.2.2.2.2.1.1
  have hk14 := hc.2.2.2.2.2.2.2.2.1.2
  have hk15 := hc.2.2.2.2.2.2.2.2.2.1.1
  have hk16 := hc.2.2.2.2.2.2.2.2.2.1.2
  have hk17 := hc.2.2.2.2.2.2.2.2.2.2.1.1
  have hk18 := hc.2.2.2.2.2.2.2.2.2.2.1.2
  have hk19 := hc.2.2.2.2.2.2.2.2.2.2.2.1
  have hk20 := hc.2.2.2.2.2.2.2.2.2.2.2.2
  repeat' wtm_at "W step"
  all_goals (refine End.mk ?_; intro R hR; refine' End.mk2 (hR) ?slf9; (case slf9 => wtm_at "W sel"))
end
theorem at_j {x : Int} {j : Nat} (h : j = (x % 16).toNat) : (x.fmod 16).toNat = j := by rw [fmod_c16]; exact h.symm
theorem Ev.memAt {w : World} {k : Nat} {d : Dy w k} {K : Kode} {l : Loc} {led : Led} {a b : Expr} {pos : Pos} {r : Addr} {vs : List Value} {ms : List Int} {n j : Nat} {i z : Int} (ha : Ev d K l led a (.v (.ref r))) (hb : Ev d K l led b (.i i)) (h1 : (r, W.listOf vs.toArray n) ∈ led) (hi : IntsAre vs (ms.set j z)) (hm : ms.length = 16) (hj : i.toNat = j) (h0 : 0 ≤ i) (h16 : i < 16)
    (hs' : ∀ u, subscripted b false (.ref r) (.int i u) = operate [.ref r, .int i u] (getItem (.ref r) (.int i u))) : Ev d K l led (.Subscript a b pos) (.i z) := by
  have h := Ev.mem (pos := pos) ha hb h1 hi (by rw [List.length_set]; exact hm) h0 h16 hs'
  rw [hj, getD_set_same (by omega)] at h
  exact h
theorem Ev.tt {w : World} {k : Nat} {d : Dy w k} {K : Kode} {l : Loc} {led : Led} {b : Bool} {j : Nat} {pos : Pos} : Ev d K l led (.Constant (.bool b) j pos) (.v (.bool b)) := fun s E Q' hs hq => fun _ _ _ => hq _ _ .v hs
theorem turn_mem {vs : List Value} {ms : List Int} {j : Nat} {z z' : Int} (u : Tok) (hi : IntsAre vs (ms.set j z)) : IntsAre (vs.set j (.int z' u)) (ms.set j z') := by
  have q := ints_set (x := z') (u := u) hi j
  rw [List.set_set] at q
  exact q
theorem set_getD {ms : List Int} {j : Nat} (h : j < ms.length) : ms.set j (ms.getD j 0) = ms := by rw [List.getD_eq_getElem?_getD, List.getElem?_eq_getElem h]; exact List.set_getElem_self h
theorem rot111_W (w : World) {c cd r sa : Addr} {q0 q1 q2 q3 q4 q5 q6 q7 q8 q9 q10 q11 q12 q13 : Tok} {ix iy sp pc vi vr f1 f2 vm b1 b2 st : Value} {r0 r1 r2 r3 r4 r5 r6 : Int} {t0 t1 t2 t3 t4 t5 t6 t7 : Tok} {nr : Nat} {ma : Addr} {vs : List Value} {ms : List Int} {nm : Nat} {po : Addr} {j : Nat} {ah al zh zl : Int} (hc : IntsAre vs (ms.set j (16 * zh + zl)) ∧ ms.length = 16 ∧ (∀ j : Nat, 0 ≤ ms.getD j 0 ∧ ms.getD j 0 < 256) ∧ j = ((256 * r4 + r5) % 16).toNat ∧ (0 ≤ ah ∧ ah < 16) ∧ (0 ≤ al ∧ al < 16) ∧ (0 ≤ zh ∧ zh < 16) ∧ (0 ≤ zl ∧ zl < 16) ∧ (0 ≤ r4 ∧ r4 < 256) ∧ (0 ≤ r5 ∧ r5 < 256)) : DoesW w 7 254 [.v (.ref c), .v (.ref ma), .v (.ref po), .i 111] [(c, instObj 31 cd), (cd, cpuD w q0 q1 q2 q3 q4 q5 q6 q7 q8 q9 q10 q11 q12 q13 r sa ix iy sp pc vi vr f1 f2 vm b1 b2 st), (r, regs r0 r1 r2 r3 r4 r5 r6 (16 * ah + al) t0 t1 t2 t3 t4 t5 t6 t7 nr), (ma, W.listOf vs.toArray nm)] (fun R => ∀ y6 vs' u u6 u7 n2, (0 ≤ y6 ∧ y6 < 256) → IntsAre vs' (ms.set j (16 * zl + al)) → R (.int 18 u) [(c, instObj 31 cd), (cd, cpuD w q0 q1 q2 q3 q4 q5 q6 q7 q8 q9 q10 q11 q12 q13 r sa ix iy sp pc vi vr f1 f2 vm b1 b2 st), (r, regs r0 r1 r2 r3 r4 r5 y6 (16 * ah + zh) t0 t1 t2 t3 t4 t5 u6 u7 nr), (ma, W.listOf vs'.toArray n2)]) := by
  obtain ⟨hi, hm, hb, hj, ha, hl, hzh, hzl, h4, h5⟩ := hc
  have hjl : j < ms.length := by omega
  have hbs := bounds_set (j := j) (z := 16 * zh + zl) hb (by omega) (by omega)
  refine (ed_turn5_W w ⟨⟨hi, by simp [hm], hbs⟩, h4, h5, by omega, by omega⟩).mono fun R hR y6 z u u6 u7 u3 n2 hz => ?_
  obtain ⟨h6, hz⟩ := hz
  rw [← hj, getD_set_same hjl] at hz ⊢
  have e : (16 * ah + al) / 16 * 16 + (16 * zh + zl) / 16 = (16 * ah + zh) := by omega
  have e' : z = (16 * zl + al) := by omega
  rw [e, e']
  exact hR _ _ _ _ _ _ h6 (turn_mem u3 hi)
theorem rot103_W (w : World) {c cd r sa : Addr} {q0 q1 q2 q3 q4 q5 q6 q7 q8 q9 q10 q11 q12 q13 : Tok} {ix iy sp pc vi vr f1 f2 vm b1 b2 st : Value} {r0 r1 r2 r3 r4 r5 r6 : Int} {t0 t1 t2 t3 t4 t5 t6 t7 : Tok} {nr : Nat} {ma : Addr} {vs : List Value} {ms : List Int} {nm : Nat} {po : Addr} {j : Nat} {ah al zh zl : Int} (hc : IntsAre vs (ms.set j (16 * zh + zl)) ∧ ms.length = 16 ∧ (∀ j : Nat, 0 ≤ ms.getD j 0 ∧ ms.getD j 0 < 256) ∧ j = ((256 * r4 + r5) % 16).toNat ∧ (0 ≤ ah ∧ ah < 16) ∧ (0 ≤ al ∧ al < 16) ∧ (0 ≤ zh ∧ zh < 16) ∧ (0 ≤ zl ∧ zl < 16) ∧ (0 ≤ r4 ∧ r4 < 256) ∧ (0 ≤ r5 ∧ r5 < 256)) : DoesW w 7 254 [.v (.ref c), .v (.ref ma), .v (.ref po), .i 103] [(c, instObj 31 cd), (cd, cpuD w q0 q1 q2 q3 q4 q5 q6 q7 q8 q9 q10 q11 q12 q13 r sa ix iy sp pc vi vr f1 f2 vm b1 b2 st), (r, regs r0 r1 r2 r3 r4 r5 r6 (16 * ah + al) t0 t1 t2 t3 t4 t5 t6 t7 nr), (ma, W.listOf vs.toArray nm)] (fun R => ∀ y6 vs' u u6 u7 n2, (0 ≤ y6 ∧ y6 < 256) → IntsAre vs' (ms.set j (16 * al + zh)) → R (.int 18 u) [(c, instObj 31 cd), (cd, cpuD w q0 q1 q2 q3 q4 q5 q6 q7 q8 q9 q10 q11 q12 q13 r sa ix iy sp pc vi vr f1 f2 vm b1 b2 st), (r, regs r0 r1 r2 r3 r4 r5 y6 (16 * ah + zl) t0 t1 t2 t3 t4 t5 u6 u7 nr), (ma, W.listOf vs'.toArray n2)]) := by
  obtain ⟨hi, hm, hb, hj, ha, hl, hzh, hzl, h4, h5⟩ := hc
  have hjl : j < ms.length := by omega
  have hbs := bounds_set (j := j) (z := 16 * zh + zl) hb (by omega) (by omega)
  refine (ed_turn4_W w ⟨⟨hi, by simp [hm], hbs⟩, h4, h5, by omega, by omega⟩).mono fun R hR y6 z u u6 u7 u3 n2 hz => ?_
  obtain ⟨h6, hz⟩ := hz
  rw [← hj, getD_set_same hjl] at hz ⊢
  have e : (16 * ah + al) / 16 * 16 + (16 * zh + zl) % 16 = (16 * ah + zl) := by omega
  have e' : z = (16 * al + zh) := by omega
  rw [e, e']
  exact hR _ _ _ _ _ _ h6 (turn_mem u3 hi)
section
local macro_rules | `(tactic| wtm_at "W evx") => `(tactic| first | (with_reducible exact Ev.tt) | ((with_reducible refine' Ev.memAt ?a9 ?b9 ?m9 ?i9 ?l9 ?j9 ?x9 ?y9 ?s9); (case a9 => wtm_at "W ev"); (case b9 => wtm_at "W ev"); (case m9 => wtm_at "W mem"); (case i9 => assumption); (case l9 => assumption); (case j9 => exact at_j (by assumption)); (case x9 => exact fmod_low (by decide)); (case y9 => exact fmod_high (by decide)); (case s9 => exact fun _ => by with_unfolding_all rfl)) | ((with_reducible refine' Ev.mem ?a9 ?b9 ?m9 ?i9 ?l9 ?x9 ?y9 ?s9); (case a9 => wtm_at "W ev"); (case b9 => wtm_at "W ev"); (case m9 => wtm_at "W mem"); (case i9 => assumption); (case l9 => assumption); (case x9 => decide); (case y9 => decide); (case s9 => exact fun _ => by with_unfolding_all rfl)) | ((with_reducible refine' Ev.itemI ?a9 ?b9 ?m9 ?v9 ?s9); (case a9 => wtm_at "W ev"); (case b9 => wtm_at "W ev"); (case m9 => wtm_at "W mem"); (case v9 => first | exact it2_0 | exact it2_1); (case s9 => exact fun _ => by with_unfolding_all rfl)))
local macro_rules | `(tactic| wtm_at "W con") => `(tactic| first | apply rot111_W | apply rot103_W)

theorem halves_W (w : World) {c cd r sa : Addr} {q0 q1 q2 q3 q4 q5 q6 q7 q8 q9 q10 q11 q12 q13 : Tok} {ix iy sp pc vi vr f1 f2 vm b1 b2 st : Value} {r0 r1 r2 r3 r4 r5 r6 : Int} {t0 t1 t2 t3 t4 t5 t6 t7 : Tok} {nr : Nat} {ma : Addr} {vs : List Value} {ms : List Int} {nm : Nat} {po : Addr} {j : Nat} {ah al zh zl : Int} (hc : IntsAre vs (ms.set j (16 * zh + zl)) ∧ ms.length = 16 ∧ (∀ j : Nat, 0 ≤ ms.getD j 0 ∧ ms.getD j 0 < 256) ∧ j = ((256 * r4 + r5) % 16).toNat ∧ (0 ≤ ah ∧ ah < 16) ∧ (0 ≤ al ∧ al < 16) ∧ (0 ≤ zh ∧ zh < 16) ∧ (0 ≤ zl ∧ zl < 16) ∧ (0 ≤ r4 ∧ r4 < 256) ∧ (0 ≤ r5 ∧ r5 < 256)) : DoesW w 20 338 [.v (.ref c), .v (.ref ma), .v (.ref po)] [(c, instObj 31 cd), (cd, cpuD w q0 q1 q2 q3 q4 q5 q6 q7 q8 q9 q10 q11 q12 q13 r sa ix iy sp pc vi vr f1 f2 vm b1 b2 st), (r, regs r0 r1 r2 r3 r4 r5 r6 (16 * ah + al) t0 t1 t2 t3 t4 t5 t6 t7 nr), (ma, W.listOf vs.toArray nm)] (fun R => ∀ y6 vs' u6 u7 n2, ((0 ≤ y6 ∧ y6 < 256) ∧ IntsAre vs' (ms.set j (16 * zh + zl))) → R (.bool true) [(c, instObj 31 cd), (cd, cpuD w q0 q1 q2 q3 q4 q5 q6 q7 q8 q9 q10 q11 q12 q13 r sa ix iy sp pc vi vr f1 f2 vm b1 b2 st), (r, regs r0 r1 r2 r3 r4 r5 y6 (16 * ah + al) t0 t1 t2 t3 t4 t5 u6 u7 nr), (ma, W.listOf vs'.toArray n2)]) := by
  k_dflt (refine' does_ofW (fun τ => [(Str.ofString "cpu", (.ref c)), (Str.ofString "memory", (.ref ma)), (Str.ofString "ports", (.ref po))]) ?ho ?hcd ?hb ?hl ?c1 ?c2 ?c3 ?c4 ?h9; (case ho => k_is); (case hcd => k_is); (case hb => exact fun τ s => BindsTo.of_eq rfl); (case hl => exact fun τ => locs rfl); (case c1 => exact rfl); (case c2 => exact rfl); (case c3 => exact rfl); (case c4 => decide))
  intro d9 τ9
  have hk0 := hc.1
  have hk1 := hc.2.1
  have hk2 := hc.2.2.1
  have hk3 := hc.2.2.2.1
  have hk4 := hc.2.2.2.2.1.1
  have hk5 := hc.2.2.2.2.1.2
  have hk6 := hc.2.2.2.2.2.1.1
  have hk7 := hc.2.2.2.2.2.1.2
  have hk8 := hc.2.2.2.2.2.2.1.1
  have hk9 := hc.2.2.2.2.2.2.1.2
  have hk10 := hc.2.2.2.2.2.2.2.1.1
  have hk11 := hc.2.2.2.2.2.2.2.1.2
  have hk12 := hc.2.2.2.2.2.2.2.2.1.1
  have hk13 := hc.2.2.2.2.2.2.2.2.1.2
  have hk14 := hc.2.2.2.2.2.2.2.2.2.1
  have hk15 := hc.2.2.2.2.2.2.2.2.2.2
  repeat' wtm_at "W step"
  all_goals (refine End.mk ?_; intro R hR; refine' End.mk2 (hR _ _ _ _ _ ?f9) ?slf9; (case slf9 => wtm_at "W sel"); (case f9 => exact ⟨by assumption, by assumption⟩))

theorem halvesL_W (w : World) {c cd r sa : Addr} {q0 q1 q2 q3 q4 q5 q6 q7 q8 q9 q10 q11 q12 q13 : Tok} {ix iy sp pc vi vr f1 f2 vm b1 b2 st : Value} {r0 r1 r2 r3 r4 r5 r6 r7 : Int} {t0 t1 t2 t3 t4 t5 t6 t7 : Tok} {nr : Nat} {ma : Addr} {vs : List Value} {ms : List Int} {nm : Nat} {po : Addr} (hc : IntsAre vs ms ∧ ms.length = 16 ∧ (∀ j : Nat, 0 ≤ ms.getD j 0 ∧ ms.getD j 0 < 256) ∧ (0 ≤ r4 ∧ r4 < 256) ∧ (0 ≤ r5 ∧ r5 < 256) ∧ (0 ≤ r7 ∧ r7 < 256)) : DoesW w 20 338 [.v (.ref c), .v (.ref ma), .v (.ref po)] [(c, instObj 31 cd), (cd, cpuD w q0 q1 q2 q3 q4 q5 q6 q7 q8 q9 q10 q11 q12 q13 r sa ix iy sp pc vi vr f1 f2 vm b1 b2 st), (r, regs r0 r1 r2 r3 r4 r5 r6 r7 t0 t1 t2 t3 t4 t5 t6 t7 nr), (ma, W.listOf vs.toArray nm)] (fun R => ∀ y6 vs' u6 u7 n2, (0 ≤ y6 ∧ y6 < 256) → IntsAre vs' ms → R (.bool true) [(c, instObj 31 cd), (cd, cpuD w q0 q1 q2 q3 q4 q5 q6 q7 q8 q9 q10 q11 q12 q13 r sa ix iy sp pc vi vr f1 f2 vm b1 b2 st), (r, regs r0 r1 r2 r3 r4 r5 y6 r7 t0 t1 t2 t3 t4 t5 u6 u7 nr), (ma, W.listOf vs'.toArray n2)]) := by
  obtain ⟨hi, hm, hb, h4, h5, h7⟩ := hc
  have hj : ((256 * r4 + r5) % 16).toNat < ms.length := by omega
  have hz := hb ((256 * r4 + r5) % 16).toNat
  have e1 : 16 * (ms.getD ((256 * r4 + r5) % 16).toNat 0 / 16) + ms.getD ((256 * r4 + r5) % 16).toNat 0 % 16 = ms.getD ((256 * r4 + r5) % 16).toNat 0 := by omega
  have e2 : 16 * (r7 / 16) + r7 % 16 = r7 := by omega
  have D := halves_W w (q0 := q0) (q1 := q1) (q2 := q2) (q3 := q3) (q4 := q4) (q5 := q5) (q6 := q6) (q7 := q7) (q8 := q8) (q9 := q9) (q10 := q10) (q11 := q11) (q12 := q12) (q13 := q13) (ix := ix) (iy := iy) (sp := sp) (pc := pc) (vi := vi) (vr := vr) (f1 := f1) (f2 := f2) (vm := vm) (b1 := b1) (b2 := b2) (st := st) (r0 := r0) (r1 := r1) (r2 := r2) (r3 := r3) (r4 := r4) (r5 := r5) (r6 := r6) (t0 := t0) (t1 := t1) (t2 := t2) (t3 := t3) (t4 := t4) (t5 := t5) (t6 := t6) (t7 := t7) (nr := nr) (nm := nm) (po := po) (sa := sa) (c := c) (cd := cd) (r := r) (ma := ma) (vs := vs) (ms := ms) (ah := r7 / 16) (al := r7 % 16) (zh := ms.getD ((256 * r4 + r5) % 16).toNat 0 / 16) (zl := ms.getD ((256 * r4 + r5) % 16).toNat 0 % 16) (j := ((256 * r4 + r5) % 16).toNat) ⟨by rw [e1, set_getD hj]; exact hi, hm, hb, rfl, by omega, by omega, by omega, by omega, h4, h5⟩
  rw [e1, e2, set_getD hj] at D
  exact D.mono fun R hR y6 vs' u6 u7 n2 h => hR _ _ _ _ _ h.1 h.2
end
theorem ne_bit {y r : Int} (h : (0 ≤ y ∧ y < 256) ∧ y % 2 = if r = 0 then 0 else 1) : (y.fmod 2 != bif r != 0 then 1 else 0) = false := by
  rw [fmod_c2, h.2]
  by_cases h0 : r = 0
  · subst h0; rfl
  · have : (r != 0) = true := by simpa using h0
    rw [this, if_neg h0]; rfl
theorem gs_s (w : World) : GetOk w 31 "s" := ⟨by k_is, by k_is, ⟨_, by k_is, by k_is⟩⟩
theorem gs_ix (w : World) : GetOk w 31 "ix" := ⟨by k_is, by k_is, ⟨_, by k_is, by k_is⟩⟩
theorem gs_iy (w : World) : GetOk w 31 "iy" := ⟨by k_is, by k_is, ⟨_, by k_is, by k_is⟩⟩
theorem gs_iff1 (w : World) : GetOk w 31 "iff1" := ⟨by k_is, by k_is, ⟨_, by k_is, by k_is⟩⟩
theorem gs_is_halted (w : World) : GetOk w 31 "is_halted" := ⟨by k_is, by k_is, ⟨_, by k_is, by k_is⟩⟩
theorem gs_is_held (w : World) : GetOk w 31 "is_held" := ⟨by k_is, by k_is, ⟨_, by k_is, by k_is⟩⟩
theorem gs_states (w : World) : GetOk w 31 "states" := ⟨by k_is, by k_is, ⟨_, by k_is, by k_is⟩⟩
theorem gx_s (w : World) {r sa : Addr} {q0 q1 q2 q3 q4 q5 q6 q7 q8 q9 q10 q11 q12 q13 : Tok} {ix iy sp pc vi vr f1 f2 vm b1 b2 st : Value} : GetC (cpuD w q0 q1 q2 q3 q4 q5 q6 q7 q8 q9 q10 q11 q12 q13 r sa ix iy sp pc vi vr f1 f2 vm b1 b2 st) "s" (.ref sa) := ⟨_, _, rfl, rfl, rfl⟩
theorem gx_ix (w : World) {r sa : Addr} {q0 q1 q2 q3 q4 q5 q6 q7 q8 q9 q10 q11 q12 q13 : Tok} {ix iy sp pc vi vr f1 f2 vm b1 b2 st : Value} (hv : handedIn ix = true) : GetC (cpuD w q0 q1 q2 q3 q4 q5 q6 q7 q8 q9 q10 q11 q12 q13 r sa ix iy sp pc vi vr f1 f2 vm b1 b2 st) "ix" ix := ⟨_, _, rfl, rfl, hv⟩
theorem gx_iy (w : World) {r sa : Addr} {q0 q1 q2 q3 q4 q5 q6 q7 q8 q9 q10 q11 q12 q13 : Tok} {ix iy sp pc vi vr f1 f2 vm b1 b2 st : Value} (hv : handedIn iy = true) : GetC (cpuD w q0 q1 q2 q3 q4 q5 q6 q7 q8 q9 q10 q11 q12 q13 r sa ix iy sp pc vi vr f1 f2 vm b1 b2 st) "iy" iy := ⟨_, _, rfl, rfl, hv⟩
theorem gx_iff1 (w : World) {r sa : Addr} {q0 q1 q2 q3 q4 q5 q6 q7 q8 q9 q10 q11 q12 q13 : Tok} {ix iy sp pc vi vr f1 f2 vm b1 b2 st : Value} (hv : handedIn f1 = true) : GetC (cpuD w q0 q1 q2 q3 q4 q5 q6 q7 q8 q9 q10 q11 q12 q13 r sa ix iy sp pc vi vr f1 f2 vm b1 b2 st) "iff1" f1 := ⟨_, _, rfl, rfl, hv⟩
theorem gx_is_halted (w : World) {r sa : Addr} {q0 q1 q2 q3 q4 q5 q6 q7 q8 q9 q10 q11 q12 q13 : Tok} {ix iy sp pc vi vr f1 f2 vm b1 b2 st : Value} (hv : handedIn b1 = true) : GetC (cpuD w q0 q1 q2 q3 q4 q5 q6 q7 q8 q9 q10 q11 q12 q13 r sa ix iy sp pc vi vr f1 f2 vm b1 b2 st) "is_halted" b1 := ⟨_, _, rfl, rfl, hv⟩
theorem gx_is_held (w : World) {r sa : Addr} {q0 q1 q2 q3 q4 q5 q6 q7 q8 q9 q10 q11 q12 q13 : Tok} {ix iy sp pc vi vr f1 f2 vm b1 b2 st : Value} (hv : handedIn b2 = true) : GetC (cpuD w q0 q1 q2 q3 q4 q5 q6 q7 q8 q9 q10 q11 q12 q13 r sa ix iy sp pc vi vr f1 f2 vm b1 b2 st) "is_held" b2 := ⟨_, _, rfl, rfl, hv⟩
theorem gx_states (w : World) {r sa : Addr} {q0 q1 q2 q3 q4 q5 q6 q7 q8 q9 q10 q11 q12 q13 : Tok} {ix iy sp pc vi vr f1 f2 vm b1 b2 st : Value} (hv : handedIn st = true) : GetC (cpuD w q0 q1 q2 q3 q4 q5 q6 q7 q8 q9 q10 q11 q12 q13 r sa ix iy sp pc vi vr f1 f2 vm b1 b2 st) "states" st := ⟨_, _, rfl, rfl, hv⟩
theorem regs_ints {r0 r1 r2 r3 r4 r5 r6 r7 : Int} {t0 t1 t2 t3 t4 t5 t6 t7 : Tok} : IntsAre [.int r0 t0, .int r1 t1, .int r2 t2, .int r3 t3, .int r4 t4, .int r5 t5, .int r6 t6, .int r7 t7] [r0, r1, r2, r3, r4, r5, r6, r7] := by l_ints
theorem ed_none_W (w : World) {c ma po : Addr} {x : Int} (hc : (0 ≤ x ∧ x < 64) ∨ (192 ≤ x ∧ x < 256) ∨ (128 ≤ x ∧ x < 160) ∨ x = 119 ∨ x = 127) : DoesW w 7 254 [.v (.ref c), .v (.ref ma), .v (.ref po), .i x] [] (fun R => ∀ u, R (.int 8 u) []) := by
  rcases hc with h | h | h | rfl | rfl
  · exact ed_noneA_W w h
  · exact ed_noneB_W w h
  · exact ed_noneC_W w h
  · exact ed_no6_W w
  · exact ed_no7_W w
section
local macro_rules | `(tactic| wtm_at "W intsx") => `(tactic| first | exact regs_ints | l_ints)
local macro_rules | `(tactic| wtm_at "W stepy") => `(tactic| first | (with_reducible refine' W.newList ?_) | ((with_reducible refine' W.addLists ?m9 ?n9 ?i9 ?j9 ?z9 ?_); (case m9 => wtm_at "W mem"); (case n9 => wtm_at "W mem"); (case i9 => wtm_at "W ints"); (case j9 => wtm_at "W ints"); (case z9 => wtm_at "W size"); intro al9 us9 hus9) | ((with_reducible refine' W.neTup2 ?k9 ?m9 ?n9 ?a9 ?b9 ?_); (case k9 => decide); (case m9 => wtm_at "W mem"); (case n9 => wtm_at "W mem"); (case a9 => omega); (case b9 => omega)) | ((with_reducible refine' W.eqLists ?k9 ?m9 ?n9 ?i9 ?j9 ?e9 ?_); (case k9 => decide); (case m9 => wtm_at "W mem"); (case n9 => wtm_at "W mem"); (case i9 => wtm_at "W ints"); (case j9 => wtm_at "W ints"); (case e9 => rfl)) | (with_reducible refine' W.bAnd ?_) | (with_reducible refine' W.b1 ?_) | ((with_reducible refine' W.cmp1 ?m9 ?_); (case m9 => with_unfolding_all rfl)) | (with_reducible refine' W.cmpEq ?_))
local macro_rules | `(tactic| wtm_at "W getx") => `(tactic| with_reducible first | exact gs_s _ | exact gs_ix _ | exact gs_iy _ | exact gs_iff1 _ | exact gs_is_halted _ | exact gs_is_held _ | exact gs_states _)
local macro_rules | `(tactic| wtm_at "W gcx") => `(tactic| with_reducible first | exact gx_s _ | exact gx_ix _ rfl | exact gx_iy _ rfl | exact gx_iff1 _ rfl | exact gx_is_halted _ rfl | exact gx_is_held _ rfl | exact gx_states _ rfl)
local macro_rules | `(tactic| wtm_at "W tvx") => `(tactic| first | ((with_reducible refine' Tv.orF ?a9 ?b9); (case a9 => wtm_at "W tv"); (case b9 => wtm_at "W tv")) | (with_reducible exact Tv.or0) | ((with_reducible refine' Tv.flag ?a9 ?b9); (case a9 => wtm_at "W ev"); (case b9 => rfl)))
local macro_rules | `(tactic| wtm_at "W size") => `(tactic| first | exact Nat.le_of_ble_eq_true rfl | ((simp only [sizeLine_eq, List.length_append, List.length_cons, List.length_nil]); omega))
local macro_rules | `(tactic| wtm_at "W con") => `(tactic| fail)

theorem row_W (w : World) {c cd r sa : Addr} {q0 q1 q2 q3 q4 q5 q6 q7 q8 q9 q10 q11 q12 q13 : Tok} {ix iy sp pc vi vr f1 vm st : Int} {tix tiy tsp tpc tvi tvr tf1 tf2 tvm tst : Tok} {r0 r1 r2 r3 r4 r5 r6 r7 : Int} {t0 t1 t2 t3 t4 t5 t6 t7 : Tok} {nr : Nat} {ss : List Value} {zs : List Int} {ns : Nat} (hc : IntsAre ss zs ∧ zs.length = 8) : DoesW w 2 63 [.v (.ref c)] [(c, instObj 31 cd), (cd, cpuD w q0 q1 q2 q3 q4 q5 q6 q7 q8 q9 q10 q11 q12 q13 r sa (.int ix tix) (.int iy tiy) (.int sp tsp) (.int pc tpc) (.int vi tvi) (.int vr tvr) (.int f1 tf1) (.int 0 tf2) (.int vm tvm) (.bool false) (.bool false) (.int st tst)), (r, regs r0 r1 r2 r3 r4 r5 r6 r7 t0 t1 t2 t3 t4 t5 t6 t7 nr), (sa, W.listOf ss.toArray ns)] (fun R => ∀ D us n, IntsAre us ([r0, r1, r2, r3, r4, r5, r6, r7] ++ zs ++ [ix, iy, sp, pc, vi, vr, f1, 0, vm] ++ [0, 0, st]) → R (.ref D) ((D, W.listOf us.toArray n) :: [(c, instObj 31 cd), (cd, cpuD w q0 q1 q2 q3 q4 q5 q6 q7 q8 q9 q10 q11 q12 q13 r sa (.int ix tix) (.int iy tiy) (.int sp tsp) (.int pc tpc) (.int vi tvi) (.int vr tvr) (.int f1 tf1) (.int 0 tf2) (.int vm tvm) (.bool false) (.bool false) (.int st tst)), (r, regs r0 r1 r2 r3 r4 r5 r6 r7 t0 t1 t2 t3 t4 t5 t6 t7 nr), (sa, W.listOf ss.toArray ns)])) := by
  k_dflt (refine' does_ofW (fun τ => [(Str.ofString "cpu", (.ref c))]) ?ho ?hcd ?hb ?hl ?c1 ?c2 ?c3 ?c4 ?h9; (case ho => k_is); (case hcd => k_is); (case hb => exact fun τ s => BindsTo.of_eq rfl); (case hl => exact fun τ => locs rfl); (case c1 => exact rfl); (case c2 => exact rfl); (case c3 => exact rfl); (case c4 => decide))
  intro d9 τ9
  have hk0 := hc.1
  have hk1 := hc.2
  repeat' wtm_at "W step"
  all_goals (refine End.mk ?_; intro R hR; refine' End.mk2 (hR _ _ _ ?f9) ?slf9; (case slf9 => wtm_at "W sel"); (case f9 => assumption))
local macro_rules | `(tactic| wtm_at "W evx") => `(tactic| first | (with_reducible exact Ev.tt) | ((with_reducible refine' Ev.intB ?f9 ?a9 ?b9 ?c9 ?d9); (case f9 => exact Ev.built (bi_int _) rfl rfl); (case a9 => exact Ev.neB (by wtm_at "W ev") (by wtm_at "W ev") (by with_unfolding_all rfl)); (case b9 => rfl); (case c9 => rfl); (case d9 => rfl)))
local macro_rules | `(tactic| wtm_at "W decx") => `(tactic| first | ((try simp only [beq_iff_eq, bne_iff_ne, ne_eq, decide_eq_true_eq, beq_eq_false_iff_ne, bne_eq_false_iff_eq, decide_eq_false_iff_not, fmod_c2, fmod_c256]) <;> omega) | exact ne_bit (by assumption))
local macro_rules | `(tactic| wtm_at "W con") => `(tactic| first | apply row_W | apply ed_neg68_W | apply ed_neg124_W | apply ed_put0_W | apply ed_put1_W | apply ed_take2_W | apply ed_take3_W | apply ed_mode70_W | apply ed_mode86_W | apply ed_mode94_W | apply ed_mode102_W | apply ed_mode118_W | apply ed_mode126_W | apply ed_none_W)

theorem others_W (w : World) {c cd r sa : Addr} {q0 q1 q2 q3 q4 q5 q6 q7 q8 q9 q10 q11 q12 q13 : Tok} {ix iy sp pc vi vr f1 vm st : Int} {tix tiy tsp tpc tvi tvr tf1 tf2 tvm tst : Tok} {r0 r1 r2 r3 r4 r5 r6 r7 : Int} {t0 t1 t2 t3 t4 t5 t6 t7 : Tok} {nr : Nat} {ss : List Value} {zs : List Int} {ns : Nat} {ma : Addr} {vs : List Value} {ms : List Int} {nm : Nat} {po : Addr} {x : Int} (hc : IntsAre vs ms ∧ ms.length = 16 ∧ IntsAre ss zs ∧ zs.length = 8 ∧ (0 ≤ r7 ∧ r7 < 256) ∧ ((0 ≤ x ∧ x < 64) ∨ (192 ≤ x ∧ x < 256) ∨ (128 ≤ x ∧ x < 160) ∨ x = 119 ∨ x = 127)) : DoesW w 20 352 [.v (.ref c), .v (.ref ma), .v (.ref po), .i x] [(c, instObj 31 cd), (cd, cpuD w q0 q1 q2 q3 q4 q5 q6 q7 q8 q9 q10 q11 q12 q13 r sa (.int ix tix) (.int iy tiy) (.int sp tsp) (.int pc tpc) (.int vi tvi) (.int vr tvr) (.int f1 tf1) (.int 0 tf2) (.int vm tvm) (.bool false) (.bool false) (.int st tst)), (r, regs r0 r1 r2 r3 r4 r5 r6 r7 t0 t1 t2 t3 t4 t5 t6 t7 nr), (sa, W.listOf ss.toArray ns), (ma, W.listOf vs.toArray nm)] (fun R => ∀ y6 y7 ya yb u6 u7 ua ub uc, ((0 ≤ y6 ∧ y6 < 256) ∧ y7 = r7) → R (.bool true) [(c, instObj 31 cd), (cd, cpuD w q0 q1 q2 q3 q4 q5 q6 q7 q8 q9 q10 q11 q12 q13 r sa (.int ix tix) (.int iy tiy) (.int sp tsp) (.int pc tpc) (.int ya ua) (.int yb ub) (.int f1 tf1) (.int 0 tf2) (.int 2 uc) (.bool false) (.bool false) (.int st tst)), (r, regs r0 r1 r2 r3 r4 r5 y6 y7 t0 t1 t2 t3 t4 t5 u6 u7 nr), (sa, W.listOf ss.toArray ns), (ma, W.listOf vs.toArray nm)]) := by
  k_dflt (refine' does_ofW (fun τ => [(Str.ofString "cpu", (.ref c)), (Str.ofString "memory", (.ref ma)), (Str.ofString "ports", (.ref po)), (Str.ofString "none", .int x (τ 3))]) ?ho ?hcd ?hb ?hl ?c1 ?c2 ?c3 ?c4 ?h9; (case ho => k_is); (case hcd => k_is); (case hb => exact fun τ s => BindsTo.of_eq rfl); (case hl => exact fun τ => locs rfl); (case c1 => exact rfl); (case c2 => exact rfl); (case c3 => exact rfl); (case c4 => decide))
  intro d9 τ9
  have hk0 := hc.1
  have hk1 := hc.2.1
  have hk2 := hc.2.2.1
  have hk3 := hc.2.2.2.1
  have hk4 := hc.2.2.2.2.1.1
  have hk5 := hc.2.2.2.2.1.2
  have hk6 := hc.2.2.2.2.2
  repeat' wtm_at "W step"
  all_goals (refine End.mk ?_; intro R hR; refine' End.mk2 (hR _ _ _ _ _ _ _ _ _ ?f9) ?slf9; (case slf9 => wtm_at "W sel"); (case f9 => exact ⟨by assumption, by omega⟩))
end
theorem gl_half (w : World) : GlobIs w "_law_halves_right" (.ref 338) := by unfold GlobIs; k_is
theorem gl_word (w : World) : GlobIs w "_law_words_right" (.ref 345) := by unfold GlobIs; k_is
theorem gl_oth (w : World) : GlobIs w "_law_others_right" (.ref 352) := by unfold GlobIs; k_is
theorem kp_half (w : World) : keepIn (Mine.hd.heap_1 w.params) (.ref 338) = true := by k_is
theorem kp_word (w : World) : keepIn (Mine.hd.heap_1 w.params) (.ref 345) = true := by k_is
theorem kp_oth (w : World) : keepIn (Mine.hd.heap_1 w.params) (.ref 352) = true := by k_is
theorem put_r (w : World) : PutOk w 31 "r" := ⟨by k_is, by k_is, by k_is, by k_is⟩
theorem pc_r (w : World) {r sa : Addr} {q0 q1 q2 q3 q4 q5 q6 q7 q8 q9 q10 q11 q12 q13 : Tok} {ix iy sp pc vi vr f1 f2 vm b1 b2 st : Value} {r' : Addr} : PutC w (cpuD w q0 q1 q2 q3 q4 q5 q6 q7 q8 q9 q10 q11 q12 q13 r sa ix iy sp pc vi vr f1 f2 vm b1 b2 st) "r" (.ref r') (cpuD w q0 q1 q2 q3 q4 q5 q6 q7 q8 q9 q10 q11 q12 q13 r' sa ix iy sp pc vi vr f1 f2 vm b1 b2 st) := fun t => ⟨_, _, _, _, rfl, rfl, rfl, rfl, Nat.le_of_ble_eq_true rfl⟩
theorem get_outs (w : World) : GetOk w 52 "outs" := ⟨by k_is, by k_is, ⟨_, by k_is, by k_is⟩⟩
abbrev portsD (w : World) (q0 q1 q2 : Tok) (i : Value) (a : Value) (o : Addr) : Obj := dictOf [⟨PyData.keyHash w.params (Str.ofString "ins"), .str (Str.ofString "ins") q0, i⟩, ⟨PyData.keyHash w.params (Str.ofString "at"), .str (Str.ofString "at") q1, a⟩, ⟨PyData.keyHash w.params (Str.ofString "outs"), .str (Str.ofString "outs") q2, .ref o⟩] 3
theorem gc_outs {w : World} {q0 q1 q2 : Tok} {i a : Value} {o : Addr} : GetC (portsD w q0 q1 q2 i a o) "outs" (.ref o) := ⟨_, _, rfl, rfl, rfl⟩
theorem words_W (w : World) {c cd r sa : Addr} {q0 q1 q2 q3 q4 q5 q6 q7 q8 q9 q10 q11 q12 q13 : Tok} {ix iy pc vi vr f1 f2 vm b1 b2 st : Value} {r0 r1 r2 r3 r4 r5 r6 r7 : Int} {t0 t1 t2 t3 t4 t5 t6 t7 : Tok} {nr : Nat} {vsp : Int} {tsp : Tok} {ma : Addr} {vs : List Value} {ms : List Int} {nm : Nat} {po : Addr} {cy x : Int} (hc : (IntsAre vs ms ∧ ms.length = 16 ∧ (∀ j : Nat, 0 ≤ ms.getD j 0 ∧ ms.getD j 0 < 256) ∧ (0 ≤ r0 ∧ r0 < 256) ∧ (0 ≤ r1 ∧ r1 < 256) ∧ (0 ≤ r2 ∧ r2 < 256) ∧ (0 ≤ r3 ∧ r3 < 256) ∧ (0 ≤ r4 ∧ r4 < 256) ∧ (0 ≤ r5 ∧ r5 < 256) ∧ (0 ≤ r6 ∧ r6 < 256) ∧ (0 ≤ vsp ∧ vsp < 65536) ∧ (0 ≤ cy ∧ cy < 2)) ∧ 0 ≤ x ∧ x < 4) : DoesW w 20 345 [.v (.ref c), .v (.ref ma), .v (.ref po), .i x, .i cy] [(c, instObj 31 cd), (cd, cpuD w q0 q1 q2 q3 q4 q5 q6 q7 q8 q9 q10 q11 q12 q13 r sa ix iy (.int vsp tsp) pc vi vr f1 f2 vm b1 b2 st), (r, regs r0 r1 r2 r3 r4 r5 r6 r7 t0 t1 t2 t3 t4 t5 t6 t7 nr), (ma, W.listOf vs.toArray nm)] (fun R => R (.bool true) []) := by
  obtain ⟨h, h1, h2⟩ := hc
  have hx : x = 0 ∨ x = 1 ∨ x = 2 ∨ x = 3 := by omega
  rcases hx with rfl | rfl | rfl | rfl
  · exact words0_W w h
  · exact words1_W w h
  · exact words2_W w h
  · exact words3_W w h
theorem tail_wrap {w : World} {P : (Addr → Kode) → List Stmt → Prop} {name qual : Str} {params : Arguments} {s1 : Stmt} {tail : List Stmt} {scope : Scope} {dV kV doc pm cdv ct oc : Value} {an od : Option Addr} {osl : Array (Option Value)} (hk : scope.kind = .function)
    (ho : (Mine.hd.heap_1 w.params).lookup 357 = some ⟨oc, od, .func (fnOf name qual params (s1 :: tail) scope dV kV doc pm an cdv ct), osl⟩) (h : P (fun ca => ⟨qual, scope, 357, cdv, [(Str.ofString "reel", ca)], hk⟩) tail) : ∃ K ss, P K ss := ⟨_, _, h⟩
local macro_rules | `(tactic| wtm_at "W stepa") => `(tactic| ((with_reducible refine' W.compA (n := 16) ?q1 ?q2 ?q3 ?q4 ?q5 ?q6 ?u1 ?u2 ?u3 ?q7 ?q8 ?q9 ?s1 ?s2 ?s3 ?s4 ?s5 ?s6 ?s7 ?s8 ?s9 ?v1 ?v2 ?v3 ?v4 ?v5 ?v6 ?v7 ?v8 ?_); (case q1 => decide); (case q2 => with_unfolding_all rfl); (case q3 => decide); (case q4 => rfl); (case q5 => decide); (case q6 => rfl); (case u1 => with_unfolding_all rfl); (case u2 => rfl); (case u3 => rfl); (case q7 => exact fun _ => rfl); (case q8 => exact Ev.built (bi_range _) rfl rfl); (case q9 => exact Ev.int); (case s1 => rfl); (case s2 => rfl); (case s3 => rfl); (case s4 => decide); (case s5 => decide); (case s6 => exact Nat.le_of_ble_eq_true rfl); (case s8 => exact rfl); (case s7 => wtm_at "W sel"); (case s9 => assumption); (case v1 => assumption); (case v2 => assumption); (case v3 => assumption); (case v4 => omega); (case v5 => omega); (case v6 => exact fun _ => rfl); (case v7 => exact fun _ => rfl); (case v8 => first | exact fun _ => Or.inl rfl | exact fun _ => Or.inr rfl); intro D9 ys9 zs9 t9 n9 hI9 hl9 hb9; have hB9 := octets_getD hb9; clear hb9; refine' ⟨_, ?l9, ?_⟩; (case l9 => wtm_at "W setl")))
local macro_rules | `(tactic| wtm_at "W stepy") => `(tactic| first | ((with_reducible refine' W.compE (n := 8) ?q1 ?q2 ?q3 ?q4 ?q5 ?q6 ?q7 ?q8 ?q9 ?s1 ?s2 ?s3 ?s4 ?s5 ?s6 ?s7 ?s8 ?s9 ?v1 ?v2 ?v3 ?v4 ?v5 ?v6 ?v7 ?v8 ?_); (case q1 => decide); (case q2 => with_unfolding_all rfl); (case q3 => decide); (case q4 => rfl); (case q5 => decide); (case q6 => rfl); (case q7 => exact fun _ => rfl); (case q8 => exact Ev.built (bi_range _) rfl rfl); (case q9 => exact Ev.int); (case s1 => rfl); (case s2 => rfl); (case s3 => rfl); (case s4 => decide); (case s5 => decide); (case s6 => exact Nat.le_of_ble_eq_true rfl); (case s8 => exact rfl); (case s7 => wtm_at "W sel"); (case s9 => assumption); (case v1 => assumption); (case v2 => assumption); (case v3 => assumption); (case v4 => omega); (case v5 => omega); (case v6 => exact fun _ => rfl); (case v7 => exact fun _ => rfl); (case v8 => first | exact fun _ => Or.inl rfl | exact fun _ => Or.inr rfl); intro D9; (refine' eight_all ?_); intros) | ((with_reducible refine' W.noneItem ?m9 ?a9 ?b9 ?c9 ?d9 ?e9 ?f9 ?g9 ?h9 ?s9 ?_); (case m9 => wtm_at "W mem"); (case a9 => omega); (case b9 => omega); (case c9 => omega); (case d9 => omega); (case e9 => omega); (case f9 => omega); (case g9 => omega); (case h9 => omega); (case s9 => with_unfolding_all rfl); intro x9 t9 hx9) | (with_reducible refine' W.newList ?_) | (with_reducible refine' W.sub ?_) | (with_reducible refine' W.tnot ?_) | ((with_reducible refine' W.tplain ?e9 ?_); (case e9 => rfl)) | (with_reducible refine' W.bAnd ?_) | (with_reducible refine' W.b1 ?_) | ((with_reducible refine' W.cmp1 ?m9 ?_); (case m9 => with_unfolding_all rfl)) | ((with_reducible refine' W.opAdd ?_); intro t9) | ((with_reducible refine' W.eqLists ?k9 ?m9 ?n9 ?i9 ?j9 ?e9 ?_); (case k9 => decide); (case m9 => wtm_at "W mem"); (case n9 => wtm_at "W mem"); (case i9 => exact IntsAre.nil); (case j9 => exact IntsAre.nil); (case e9 => rfl)))
local macro_rules | `(tactic| wtm_at "W getx") => `(tactic| exact get_outs _)
local macro_rules | `(tactic| wtm_at "W gcx") => `(tactic| exact gc_outs)
local macro_rules | `(tactic| wtm_at "W grx") => `(tactic| first | exact gl_take _ | exact gl_half _ | exact gl_oth _ | exact gl_word _)
local macro_rules | `(tactic| wtm_at "W keepx") => `(tactic| first | exact kp_take _ | exact kp_half _ | exact kp_oth _ | exact kp_word _)
local macro_rules | `(tactic| wtm_at "W putx") => `(tactic| exact put_r _)
local macro_rules | `(tactic| wtm_at "W pcx") => `(tactic| exact pc_r _)
local macro_rules | `(tactic| wtm_at "W evx") => `(tactic| first | (with_reducible exact Ev.tt) | ((with_reducible refine' Ev.cell ?c9 ?m9 ?d9 ?x9 ?b9); (case c9 => exact rfl); (case m9 => wtm_at "W mem"); (case d9 => assumption); (case x9 => exact rfl); (case b9 => exact rfl)))
local macro_rules | `(tactic| wtm_at "W con") => `(tactic| first | apply take_W | apply halvesL_W | apply others_W | apply words_W)
theorem look3 {x1 x2 x3 : Str} {v1 v2 v3 : Value} {m0 : Str → Option Value} (h : m0 = fun y => if y = x1 then some v1 else none) : (fun y => if y = x3 then some v3 else if y = x2 then some v2 else m0 y) = fun y => [(x3, v3), (x2, v2), (x1, v1)].lookup y := by
  subst h
  funext y
  simp only [List.lookup_cons, List.lookup_nil, str_beq]
  by_cases h3 : y = x3
  · rw [if_pos h3, decide_eq_true h3]
  · rw [if_neg h3, decide_eq_false h3]
    by_cases h2 : y = x2
    · rw [if_pos h2, decide_eq_true h2]
    · rw [if_neg h2, decide_eq_false h2]
      by_cases h1 : y = x1
      · rw [if_pos h1, decide_eq_true h1]
      · rw [if_neg h1, decide_eq_false h1]
theorem tail_use {w : World} {mean : ExcName → Option Value} {mg mb : Str → Option Value} {dp un : Nat} {gd : Option (List Code)} {cn : Str} {cs : Scope} {L a : Addr} {ccd : Value} {outer : List Env} {A₀ : Around} {base g : Heap} {m : Str → Option Value} {news : Led} {s : Shared} {Q : Flow → Shared → Prop} {E : Value → Shared → Prop} {sts : List Stmt} {ca R b c cd r sa p pd o : Addr} {q0 q1 q2 q3 q4 q5 q6 q7 q8 q9 q10 q11 q12 q13 e0 e1 e2 k0t : Tok} {tix tiy tsp tpc tvi tvr tf1 tf2 tvm tst : Tok} {ei ea sv : Value} {oca : Obj} {vs ss : List Value} {ms zs : List Int} {nn nl ns no : Nat}
    (B : Below A₀ base outer g) (F : Fr g L s.heap m) (X : (Mine.hd.heap_1 w.params).In g) (N : News g L s.heap news) (T : Top Mine.view (looseW Mine.view [Str.ofString "MODES", Str.ofString "STATES_BY_Z"]) mean mg mb g) (hk : cs.kind = .function)
    (hpre : ∀ q ∈ ([(ca, oca), (R, W.listOf #[.int 0 k0t, .ref b] nn), (b, W.listOf vs.toArray nl), (c, instObj 31 cd), (cd, cpuD w q0 q1 q2 q3 q4 q5 q6 q7 q8 q9 q10 q11 q12 q13 r sa (.int 0 tix) (.int 0 tiy) (.int 0 tsp) (.int 0 tpc) (.int 0 tvi) (.int 0 tvr) (.int 0 tf1) (.int 0 tf2) (.int 0 tvm) (.bool false) (.bool false) (.int 0 tst)), (sa, W.listOf ss.toArray ns), (p, instObj 52 pd), (pd, portsD w e0 e1 e2 ei ea o), (o, W.listOf #[] no)] : Led), q ∈ news) (hm : m = fun y => [(Str.ofString "ports", .ref p), (Str.ofString "cpu", .ref c), (Str.ofString "script", sv)].lookup y) (nd : (([(ca, oca), (R, W.listOf #[.int 0 k0t, .ref b] nn), (b, W.listOf vs.toArray nl), (c, instObj 31 cd), (cd, cpuD w q0 q1 q2 q3 q4 q5 q6 q7 q8 q9 q10 q11 q12 q13 r sa (.int 0 tix) (.int 0 tiy) (.int 0 tsp) (.int 0 tpc) (.int 0 tvi) (.int 0 tvr) (.int 0 tf1) (.int 0 tf2) (.int 0 tvm) (.bool false) (.bool false) (.int 0 tst)), (sa, W.listOf ss.toArray ns), (p, instObj 52 pd), (pd, portsD w e0 e1 e2 ei ea o), (o, W.listOf #[] no)] : Led).map (·.1)).Nodup) (hd : dp + 24 < recursionLimit) (hu : un + 8 * 24 < cLine)
    (h1 : oca.data = .cell (some (.ref R))) (h2 : @LT.lt Nat _ b R) (h3 : IntsAre vs ms) (h4 : ms.length ≤ 63) (h5 : IntsAre ss zs) (h6 : zs.length = 8)
    (hW : ∀ (d : Dy w 24) (ca R b c cd r sa p pd o : Addr) (q0 q1 q2 q3 q4 q5 q6 q7 q8 q9 q10 q11 q12 q13 e0 e1 e2 k0t : Tok) (tix tiy tsp tpc tvi tvr tf1 tf2 tvm tst : Tok) (ei ea sv : Value) (oca : Obj) (vs ss : List Value) (ms zs : List Int) (nn nl ns no : Nat), oca.data = .cell (some (.ref R)) → @LT.lt Nat _ b R → IntsAre vs ms → ms.length ≤ 63 → IntsAre ss zs → zs.length = 8 → W d ⟨cn, cs, a, ccd, [(Str.ofString "reel", ca)], hk⟩ [(Str.ofString "ports", .ref p), (Str.ofString "cpu", .ref c), (Str.ofString "script", sv)] [(ca, oca), (R, W.listOf #[.int 0 k0t, .ref b] nn), (b, W.listOf vs.toArray nl), (c, instObj 31 cd), (cd, cpuD w q0 q1 q2 q3 q4 q5 q6 q7 q8 q9 q10 q11 q12 q13 r sa (.int 0 tix) (.int 0 tiy) (.int 0 tsp) (.int 0 tpc) (.int 0 tvi) (.int 0 tvr) (.int 0 tf1) (.int 0 tf2) (.int 0 tvm) (.bool false) (.bool false) (.int 0 tst)), (sa, W.listOf ss.toArray ns), (p, instObj 52 pd), (pd, portsD w e0 e1 e2 ei ea o), (o, W.listOf #[] no)] (execs sts (en d ⟨cn, cs, a, ccd, [(Str.ofString "reel", ca)], hk⟩)) (fun f _ _ => f = .ret (.bool true)))
    (hQ : ∀ h' tk' m', Fr g L h' m' → Q (.ret (.bool true)) { s with heap := h', toks := tk' }) :
    wpAny (model PySem.Challenge.rw_pq1453_01.row.prog w) (ktrTop dp un gd cn cs L a ccd [(Str.ofString "reel", ca)] outer) (execs sts (envX cn cs L a ccd [(Str.ofString "reel", ca)])) Q E s := by
  subst hm
  refine wpAny_mono (E := fun _ _ => False) (hW ⟨mean, mg, mb, dp, un, gd, outer, A₀, base, g, L, s, B, X, T, hd, hu⟩ ca R b c cd r sa p pd o q0 q1 q2 q3 q4 q5 q6 q7 q8 q9 q10 q11 q12 q13 e0 e1 e2 k0t tix tiy tsp tpc tvi tvr tf1 tf2 tvm tst ei ea sv oca vs ss ms zs nn nl ns no h1 h2 h3 h4 h5 h6 s ⟨_, rfl⟩ (fun f s' => ∃ h' tk' m', f = .ret (.bool true) ∧ Fr g L h' m' ∧ s' = { s with heap := h', toks := tk' }) ⟨F, fun q hq => N q (hpre q hq), nd, s.heap, s.toks, rfl⟩ fun f l led s' hf hs' => ?_) (fun f s' h => ?_) fun _ _ h => h.elim
  · obtain ⟨F', _, _, h', t', e⟩ := hs'
    exact ⟨h', t', _, hf, by rw [e] at F'; exact F', e⟩
  · obtain ⟨h', t', m', rfl, F', rfl⟩ := h
    exact hQ _ _ _ F'
local macro_rules | `(tactic| k_steps) => `(tactic| repeat' (first | (k_unfold; (try dsimp only)) | walk1 | (dsimp only; walk1) | (leave1; (try dsimp only)) | (k_end; kc_close) | fail))
local macro_rules | `(tactic| walk_at "execs nil") => `(tactic| (k_here; with_reducible refine wpAny_execs_nil ?_))
local macro_rules | `(tactic| walk_at "execs cons") => `(tactic| (k_here; with_reducible refine wpAny_execs_cons ?_))
local macro_rules | `(tactic| walk_at "exec If") => `(tactic| (k_here; with_reducible refine wpAny_If ?_))
local macro_rules | `(tactic| walk_at "storeName") => `(tactic| (k_here; dsimp only))
local macro_rules | `(tactic| walk_at "setAttr ref") => `(tactic| (k_here; dsimp only))
local macro_rules | `(tactic| walk_at "FinE") => `(tactic| ((unfold LCg.FinE); intro D' h' tk' F' N' o1'; (try simp only [LCg.Off1, and_true] at o1'); (repeat (obtain ⟨n9, o1'⟩ := o1')); (try simp only [List.nil_append, List.cons_append] at N'); (try dsimp only)))
local macro_rules | `(tactic| walk_at "FinA") => `(tactic| ((unfold LCg.FinA); intro D' h' tk' F' N' o1'; (try simp only [LCg.Off1, and_true] at o1'); (repeat (obtain ⟨n9, o1'⟩ := o1')); (try simp only [List.nil_append, List.cons_append] at N'); (try dsimp only)))
local macro_rules | `(tactic| k_ne) => `(tactic| (refine neN ?_; (try dsimp only); first | (with_reducible assumption) | (refine Ne.symm ?_; with_reducible assumption) | omega))
local macro_rules | `(tactic| ktu_off) => `(tactic| exact Or.inl (by k_ne))
local macro_rules | `(tactic| wtm_at "N nd") => `(tactic| first | exact nd_nil | (refine nd_cons ?a9 ?b9; (case a9 => wtm_at "N al"); (case b9 => wtm_at "N nd")))
local macro_rules | `(tactic| wtm_at "N al") => `(tactic| first | exact all_nil | (refine all_cons ?a9 ?b9; (case a9 => k_ne); (case b9 => wtm_at "N al")))
local macro_rules | `(tactic| walk_at "execs cons") => `(tactic| (k_here; (with_reducible show wpAny _ _ (execs (Stmt.Assign [Expr.Attribute _ _ _] (Expr.ListComp _ _ _ _) _ :: _) _) _ _ _); k_dflt (refine' tail_use ?k1 ?k2 ?k3 ?k4 ?k5 ?kK ?kp ?km ?kn ?kd ?ku ?h1 ?h2 ?h3 ?h4 ?h5 ?h6 ?hW ?_; (case k1 => k_asm); (case k2 => k_asm); (case k3 => k_asm); (case k4 => k_asm); (case k5 => k_asm); (case kK => exact rfl); (case kp => kcj_all); (case km => wtm_at "N look"); (case kn => ((try dsimp only [List.map]); wtm_at "N nd")); (case kd => decide); (case ku => decide); (case h1 => assumption); (case h2 => omega); (case h3 => with_reducible assumption); (case h4 => first | (with_reducible assumption) | ((simp only [List.length_map]); omega)); (case h5 => exact ints_rep8 _); (case h6 => rfl); (case hW => (intros; (try dsimp only); (repeat' wtm_at "W step"); (all_goals rfl)))); intros))
local macro_rules | `(tactic| wtm_at "N look") => `(tactic| exact look3 rfl)
local macro_rules | `(tactic| k_qdec) => `(tactic| first | exact Mine.names_ok | exact Mine.imps_ok)
theorem law : PySem.Challenge.rw_pq1453_01.Holds :=
  Mine.hd (by
    k_go0
    (all_goals try k_fold)
    k_steps)
end
end
end Mine
theorem PySem.Challenge.cw_pq1453_01_holds : PySem.Challenge.rw_pq1453_01.Holds :=
  Mine.law
