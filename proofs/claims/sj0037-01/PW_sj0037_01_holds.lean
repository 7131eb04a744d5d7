import PyProof.Rows.All
import Wide.All
import OpenK.AllK
import Wide.FinOn
import PySem.Challenge.RW_sj0037_01
set_option Elab.async false

-- part Head
section
open PySem PySem.W PyProof.Rows
set_option Elab.async false
-- 'hd' proves nothing (it asks for False): it is there for the two texts that its making writes down, the view and the fragment of the top's heap.
-- The proof itself asks the library's own 'holds_open', in the part S14.
namespace Mine.Lit.PySem.W
theorem holds_open {r : OpenRow} {q : Program} {loose : List PySem.Str} {Xt : Shared → Bool} {XP : (PySem.Str → Option Value) → Heap → Prop} {α : Type} {Yf : Shared → α} {Ya : World → α} {YP : World → Heap → Prop} {d : DefRec} {kwd : List (PySem.Str × PySem.Expr)} {N : Nat}
    (_ : ∀ _ : World, N = N) (_ : ∀ w s, Yf s = Ya w → YP w s.heap) (_ : ∀ w h h', YP w h → (∀ b o, h.get? b = some o → h'.get? b = some o) → YP w h')
    (_ : ∀ s, Xt s = true → XP (s.heap.nsMap mainGlobals) s.heap) (_ : ∀ mg h h', XP mg h → (∀ b o, h.get? b = some o → h'.get? b = some o) → XP mg h')
    (_ : defOf q r.name = some (d, kwd)) (_ : r.prog.theDef r.name = some (d.params, d.body, d.scope)) (_ : kwWritten? d.params.kwonlyargs d.params.kw_defaults = some kwd) (_ : ∀ s, Xt s = true → RecFacts r.records s.heap) (_ : (!r.writes || r.records.isEmpty) = true)
    (no : False) (_ : (chainsOk q && opensWell r.prog && (frees r.toRowW && r.within.isEmpty)) = true) (_ : r.prog.bare) (_ : True) (_ : True) : r.Holds := no.elim
end Mine.Lit.PySem.W
namespace Mine.Lit
set_option maxRecDepth 100000 in
set_option maxHeartbeats 8000000 in
theorem hd (no : False) : PySem.Challenge.rw_sj0037_01.Holds := by
  w_on
  refine holds_law no.elim fun _ => ?_
  k_head
  case hw => trivial
  case hc => trivial
end Mine.Lit
end

-- part Om
section
set_option linter.all false
set_option Elab.async false
namespace Mine
theorem om0 {x0 : Nat} {x1 : Nat} {x2 : Nat} (a0 : x0 < x1) (a1 : x2 = x1) : x0 < x2 := Nat.lt_of_lt_of_eq a0 (id (Eq.symm a1))
theorem om1 {x0 : Nat} {x1 : Nat} {x2 : Nat} (a0 : x0 < x1) (a1 : x1 < x2) : x0 < x2 := Nat.lt_trans a0 a1
theorem om2 {x0 : Nat} {x1 : Nat} (a0 : x0 < (x1 + 1)) (a1 : ¬ (x0 = x1)) : x0 < x1 := by lia
theorem om3   : 2 > 0 := Nat.zero_lt_two
theorem om4 {x0 : Nat} {x1 : Nat} (a0 : x0 < x1) : x0 < x1 := Nat.lt_of_succ_le a0
theorem om5 {x0 : Nat} {x1 : Nat} {x2 : Nat} (a0 : x0 < (x1 + 1)) (a1 : x2 < x0) : x2 < x1 := by lia
theorem om6 {x0 : Nat}  : ((2 * x0) / 2) = x0 := by lia
theorem om7 {x0 : Nat} {x1 : Nat} {p0 : Prop} (a0 : x0 ≤ x1) : (x1 < x0 → p0) := by lia
theorem om8 {x0 : Nat} {x1 : Nat} {x2 : Nat} (a0 : x0 < 100) (a1 : x1 = (2 ^ 20)) (a2 : x2 = x0) : x2 < x1 := by lia
theorem om9 {x0 : Nat}  : x0 < (x0 + 1) := Nat.lt_add_one x0
theorem om10 {x0 : Nat}  : (-(1 : Int)) ≤ ((x0 : Nat) : Int) := Int.neg_ofNat_le_natCast 1 x0
theorem om11 {x0 : Nat}  : 0 ≤ x0 := Nat.zero_le x0
theorem om12 {x0 : Nat} {x1 : Nat} (a0 : ¬ (x0 < x1)) : x1 ≤ x0 := Nat.le_of_not_lt a0
theorem om13 {x0 : Nat} {x1 : Nat} (a0 : x0 < x1) : ¬ (x0 = x1) := Nat.ne_of_lt a0
theorem om14 {x0 : Nat} {x1 : Nat} (a0 : (x0 + 1) < x1) : x0 < x1 := Nat.lt_of_succ_lt a0
theorem om15 {x0 : Nat} {x1 : Nat} (a0 : x0 < (2 ^ 20)) (a1 : x0 = x1) : x1 ≤ 16777216 := by lia
theorem om16 {x0 : Nat} {x1 : Nat} {x2 : Nat} (a0 : x0 < 18) (a1 : x1 = (2 ^ 20)) (a2 : x2 = x0) : x2 < x1 := by lia
theorem om17 {x0 : Nat} {x1 : Nat} {x2 : Nat} (a0 : x0 < x1) (a1 : x1 ≤ x2) : x0 < x2 := Nat.lt_of_lt_of_le a0 a1
theorem om18 {x0 : Nat} {x1 : Nat} {p0 : Prop} (a0 : x0 < x1) (a1 : x1 ≤ x0) : p0 := by lia
theorem om19 {x0 : Nat} {x1 : Nat} (a0 : x0 < 18) (a1 : x1 = (2 ^ 20)) : x0 < x1 := by lia
theorem om20 {x0 : Nat} {x1 : Nat} (a0 : x0 < 900) (a1 : x1 = (2 ^ 20)) : x0 < x1 := by lia
theorem om21 {x0 : Nat}  : (0 : Int) ≤ ((x0 : Nat) : Int) := Int.natCast_nonneg x0
theorem om22 {x0 : Nat} {x1 : Nat} (a0 : x0 < (x1 + 1)) (a1 : ¬ (x0 < x1)) : x0 = x1 := Nat.eq_of_lt_succ_of_not_lt a0 a1
theorem om23 {x0 : Nat} {x1 : Nat} (a0 : x0 < x1) : x0 < (x1 + 1) := Nat.lt_add_right 1 a0
theorem om24 {x0 : Nat} {x1 : Nat}  : (((2 * x0) + (x1 % 2)) / 2) = x0 := by lia
theorem om25 {x0 : Nat} {x1 : Nat} {x2 : Nat} (a0 : ((2 * x0) + 2) < x1) (a1 : x2 = x0) : x2 < x1 := by lia
theorem om26 {x0 : Nat} {x1 : Nat} {x2 : Nat} (a0 : x0 < x1) (a1 : x1 = x2) : x0 < x2 := Nat.lt_of_lt_of_eq a0 a1
theorem om27 {x0 : Nat} {x1 : Nat} {x2 : Nat} (a0 : x0 < x1) (a1 : x2 = x0) : x2 < x1 := lt_of_eq_of_lt a1 a0
theorem om28 {x0 : Nat} {x1 : Nat} {x2 : Nat} (a0 : x0 < x1) (a1 : x2 = x1) (a2 : x2 ≤ x0) : False := by lia
theorem om29 {x0 : Nat} {x1 : Nat} {x2 : Nat} {x3 : Nat} (a0 : x0 < x1) (a1 : x1 < x2) (a2 : x3 = x2) : x0 < x3 := by lia
theorem om30 {x0 : Nat}  : x0 ≤ (x0 + 1) := Nat.le_add_right x0 1
theorem om31 {x0 : Nat} {x1 : Nat} {p0 : Prop} (a0 : x0 = (x1 + 1)) : (x0 < x1 → p0) := by lia
theorem om32 {x0 : Nat} {x1 : Nat} (a0 : x0 < (x1 + 1)) : x0 ≤ x1 := Nat.le_of_lt_succ a0
theorem om33 {x0 : Nat} {x1 : Nat} (a0 : x0 < x1) : x0 ≠ x1 := Nat.ne_of_lt a0
theorem om34 {x0 : Nat} {x1 : Nat} (a0 : x0 < x1) : (x0 + 1) ≤ x1 := Nat.succ_le_of_lt a0
theorem om35 {x0 : Nat} {x1 : Nat} (a0 : x0 = (x1 + 1)) : x1 < x0 := by lia
theorem om36 {x0 : Nat} {x1 : Nat} (a0 : x0 = (x1 + 1)) : x0 ≠ x1 := by lia
theorem om37 {x0 : Nat} {x1 : Nat} (a0 : (x0 + 1) ≤ x1) : x0 ≤ x1 := Nat.le_of_succ_le a0
theorem om38 {x0 : Nat} {x1 : Nat} (a0 : x0 ≤ x1) : x0 ≤ (x1 + 1) := Nat.le_add_right_of_le a0
theorem om39 {x0 : Nat} {x1 : Nat} (a0 : ¬ (x0 ≤ x1)) : x1 < x0 := Nat.lt_of_not_le a0
theorem om40 {x0 : Nat} {x1 : Nat} {x2 : Nat} (a0 : x0 < (x1 + 1)) (a1 : x2 = x1) (a2 : ¬ (x0 = x1)) : x0 < x2 := by lia
theorem om41 {x0 : Nat} {x1 : Nat} {x2 : Nat} (a0 : x0 < x1) (a1 : x2 ≤ x0) : x2 < x1 := Nat.lt_of_le_of_lt a1 a0
theorem om42 {x0 : Nat} {x1 : Nat} {x2 : Nat} {x3 : Nat} (a0 : x0 < x1) (a1 : x1 < x2) (a2 : x2 < x3) : x0 < x3 := by lia
theorem om43 {x0 : Nat} (a0 : x0 ≤ 128) : x0 ≤ 1000 := by lia
theorem om44 {x0 : Nat} {x1 : Nat} (a0 : ((2 * x0) + 2) < x1) : x0 < x1 := by lia
theorem om45 {x0 : Nat} {x1 : Nat} (a0 : x0 < x1) : x0 ≤ (x1 - 1) := Nat.le_sub_one_of_lt a0
theorem om46 {x0 : Nat} {x1 : Nat} (a0 : x0 ≤ x1) (a1 : ¬ (x0 = 0)) : (x0 - 1) < x1 := by lia
theorem om47 {x0 : Nat} {x1 : Nat} (a0 : x0 ≤ x1) : x0 ≤ x1 := String.Pos.Raw.mk_le_mk.mp a0
theorem om48 {x0 : Nat} {x1 : Nat} {x2 : Nat} (a0 : x0 < x1) (a1 : x1 ≤ x2) : x0 ≠ x2 := by lia
theorem om49 {x0 : Nat} {x1 : Nat} {x2 : Nat} (a0 : x0 < x1) (a1 : x1 ≤ x2) : x2 ≠ x0 := by lia
theorem om50 {x0 : Nat} {x1 : Nat} {x2 : Nat} (a0 : x0 = (x1 + 5)) (a1 : x0 ≤ x2) : ¬ (((x1 ≤ x2) ∧ (x2 ≤ (x1 + 4)))) := by lia
theorem om51 {x0 : Nat} {x1 : Nat} {x2 : Nat} (a0 : x0 ≤ x1) (a1 : x1 ≤ x2) : x0 ≤ x2 := Nat.le_trans a0 a1
theorem om52 {x0 : Nat} {x1 : Nat} {x2 : Nat} (a0 : ((x0 = (2 * x1)) ∨ (x2 = (2 * x1)))) : (((x0 / 2) = x1) ∨ ((x2 / 2) = x1)) := by lia
theorem om53 {x0 : Nat} {x1 : Nat} {x2 : Nat} {x3 : Nat} (a0 : x0 < (x1 + 1)) (a1 : x2 < x0) (a2 : x3 < x2) : x3 < x1 := by lia
theorem om54 {x0 : Nat} {x1 : Nat} {x2 : Nat} {x3 : Nat} (a0 : x0 < x1) (a1 : x1 < x2) (a2 : x3 = x0) : x3 < x2 := by lia
theorem om55 {x0 : Nat} {p0 : Prop}  : (x0 < x0 → p0) := by lia
theorem om56 {x0 : Nat} {x1 : Nat} {p0 : Prop} {x2 : Nat} (a0 : x0 < x1) (a1 : x0 = x1) : ((p0) ∨ (x0 = x2)) := by lia
theorem om57 {x0 : Nat} {x1 : Nat} {x2 : Nat} {p0 : Prop} (a0 : x0 = (x1 + 5)) (a1 : x0 ≤ x2) : (x2 < x1 → p0) := by lia
theorem om58 {x0 : Int} {x1 : Nat} (a0 : (Int.toNat x0) < x1) (a1 : x1 < (2 ^ 20)) : x0 < ((2 : Int) ^ 63) := by lia
theorem om59 {x0 : Int} (a0 : x0 < ((2 : Int) ^ 20)) : x0 < ((2 : Int) ^ 62) := by lia
theorem om60 {x0 : Int} (a0 : (0 : Int) ≤ x0) : ¬ (x0 < (0 : Int)) := Int.not_lt_of_ge a0
theorem om61 {x0 : Nat} {x1 : Nat} (a0 : x0 < x1) : 0 < x1 := Nat.zero_lt_of_lt a0
theorem om62 {x0 : Nat} {x1 : Nat} (a0 : x0 < x1) : ((x1 - 1) + 1) = x1 := by lia
theorem om63 {x0 : Nat} {x1 : Nat} (a0 : x0 < x1) : x0 ≤ x1 := Nat.le_of_succ_le a0
theorem om64 {x0 : Nat} {x1 : Nat} (a0 : x0 = (x1 + 5)) : ¬ (((x1 ≤ x0) ∧ (x0 ≤ (x1 + 4)))) := by lia
theorem om65 {x0 : Nat} {x1 : Nat} (a0 : x0 = x1) : (0 + x0) = x1 := by lia
theorem om66 {x0 : Nat} {x1 : Nat} (a0 : ¬ (x0 ≤ x1)) : x1 ≤ x0 := Nat.le_of_not_ge a0
theorem om67 {x0 : Nat} {x1 : Nat}  : ((x0 + 1) + x1) = (x0 + (x1 + 1)) := Nat.succ_add_eq_add_succ x0 x1
theorem om68 {x0 : Nat} {x1 : Nat} {x2 : Nat} (a0 : x0 < (x1 + 1)) (a1 : x2 < x0) : x2 ≠ x1 := by lia
theorem om69 {x0 : Nat} {x1 : Nat} {x2 : Nat} (a0 : x0 < x1) (a1 : x1 < x2) : (x0 + 1) < x2 := om41 a1 a0
theorem om70 {x0 : Nat} {x1 : Nat} {x2 : Nat} (a0 : x0 < x1) (a1 : x2 = (x1 + 1)) : x0 < x2 := by lia
theorem om71 {x0 : Nat} {x1 : Nat} {x2 : Nat} (a0 : x0 < x1) : (((2 * x0) + (x2 % 2)) / 2) < x1 := by lia
theorem om72 {x0 : Nat} {x1 : Nat} {x2 : Nat} (a0 : x0 < x1) : ¬ (((x2 ≤ x1) ∧ (x1 ≤ x0))) := by lia
theorem om73 {x0 : Nat} {x1 : Nat} {x2 : Nat} (a0 : (x0 + (x1 + 1)) = x2) : ((x0 + 1) + x1) = x2 := by lia
theorem om74 {x0 : Nat} {x1 : Nat} {x2 : Nat} {x3 : Nat} (a0 : x0 = (x1 + 5)) (a1 : x0 ≤ x2) (a2 : x3 = x2) (a3 : x3 ≤ (x1 + 4)) : False := by lia
theorem om75 {x0 : Nat} {x1 : Nat} {x2 : Nat} {x3 : Nat} (a0 : (x0 + (x1 + 1)) ≤ x2) (a1 : x3 = x1) : (x0 + x3) ≤ x2 := by lia
theorem om76 {x0 : Nat} {x1 : Nat} {x2 : Nat} {x3 : Nat} (a0 : x0 ≤ x1) (a1 : x2 ≤ x3) : (x0 + x2) ≤ (x1 + x3) := Nat.add_le_add a0 a1
theorem om77 {x0 : Nat} {p0 : Prop} {p1 : Prop} (a0 : x0 < 0) : (p0 → p1) := by lia
theorem om78 {x0 : Nat} {x1 : Nat} {p0 : Prop} (a0 : x0 < (x1 + 1)) (a1 : x1 < x0) : p0 := by lia
theorem om79 {x0 : Nat} {p0 : Prop} {x1 : Nat} (a0 : x0 < 0) : (p0 → x1 = 0) := by lia
theorem om80 {x0 : Nat} {p0 : Prop} {x1 : Nat} {x2 : Nat} (a0 : x0 < 0) : (p0 → x1 = x2) := by lia
theorem om81 {x0 : Nat} {x1 : Nat} {x2 : Nat} {p0 : Prop} (a0 : x0 < x1) (a1 : x1 ≤ x2) : ¬ (((p0) ∧ (x0 = x2))) := by lia
theorem om82 {x0 : Int} (a0 : (0 : Int) < x0) : x0 ≠ (0 : Int) := Ne.symm (Int.ne_of_lt a0)
theorem om83 {x0 : Int} (a0 : (0 : Int) < x0) : (0 : Int) ≤ x0 := Int.le_of_lt a0
theorem om84 {x0 : Int} (a0 : (-(1 : Int)) ≤ x0) : (-((2 : Int) ^ 62)) ≤ x0 := by lia
theorem om85 {x0 : Nat} {x1 : Nat} (a0 : ((x0 + (10 * (x1 + 1))) + 20) < 900) : (((x0 + 1) + (10 * x1)) + 20) < 900 := by lia
theorem om86 {x0 : Nat} {x1 : Nat} (a0 : ((x0 + 1) + 1) < x1) : x0 < x1 := Nat.lt_of_add_right_lt a0
theorem om87 {x0 : Nat} {x1 : Nat} (a0 : x0 < (2 ^ 20)) (a1 : x0 = x1) : ((x1 : Nat) : Int) < ((2 : Int) ^ 63) := by lia
theorem om88 {x0 : Nat} {x1 : Nat} (a0 : x0 < 100) (a1 : x1 < x0) : ((x1 : Nat) : Int) < (1000 : Int) := by lia
theorem om89 {x0 : Nat} {x1 : Nat} (a0 : x0 < 100) (a1 : x1 = (2 ^ 20)) : x0 < x1 := by lia
theorem om90 {x0 : Nat} {x1 : Nat} (a0 : x0 < 1000) (a1 : x1 = (2 ^ 20)) : x0 < x1 := by lia
theorem om91 {x0 : Nat} {x1 : Nat} (a0 : x0 < 6) (a1 : x1 = (2 ^ 20)) : x0 < x1 := by lia
theorem om92 {x0 : Nat} {x1 : Nat} (a0 : x0 < x1) (a1 : x0 = x1) : False := by lia
theorem om93 {x0 : Nat} {x1 : Nat} (a0 : x0 < x1) (a1 : x1 = (2 ^ 20)) : ((x0 : Nat) : Int) < ((2 : Int) ^ 20) := by lia
theorem om94 {x0 : Nat} {x1 : Nat} (a0 : x0 < x1) (a1 : x1 ≤ 7) : x0 ≤ 7 := by lia
theorem om95 {x0 : Nat} {x1 : Nat} (a0 : x0 < x1) : x1 ≠ x0 := Ne.symm (Nat.ne_of_lt a0)
theorem om96 {x0 : Nat} {x1 : Nat} (a0 : x0 < x1) : (x0 + 1) ≤ (x1 + 1) := Nat.le_add_right_of_le a0
theorem om97 {x0 : Nat} {x1 : Nat} (a0 : ((x0 : Nat) : Int) = ((x1 : Nat) : Int)) : x1 = x0 := Int.ofNat_inj.mp (id (Eq.symm a0))
theorem om98 {x0 : Nat} {x1 : Nat} (a0 : x0 = (x1 + 1)) : x1 ≠ x0 := by lia
theorem om99 {x0 : Nat} {x1 : Nat} (a0 : x0 = (2 ^ 20)) (a1 : x1 ≤ 63) : x1 < x0 := by lia
theorem om100 {x0 : Nat} {x1 : Nat} (a0 : x0 = (2 ^ 20)) : (min 40 x1) < x0 := by lia
theorem om101 {x0 : Nat} {x1 : Nat} (a0 : x0 = x1) : x0 ≤ x1 := Nat.le_of_eq a0
theorem om102 {x0 : Nat} {x1 : Nat} (a0 : (x0 + 1) ≤ x1) : ¬ (x1 = x0) := om95 a0
theorem om103 {x0 : Nat} {x1 : Nat} (a0 : 1 ≤ x0) : (x0 + x1) ≠ 0 := by lia
theorem om104 {x0 : Nat} {x1 : Nat} (a0 : x0 ≤ x1) : x0 < (x1 + 1) := Nat.lt_succ_of_le a0
theorem om105 {x0 : Nat} {x1 : Nat} (a0 : x0 ≤ x1) : ((2 * x0) / 2) ≤ x1 := by lia
theorem om106 {x0 : Nat} {x1 : Nat} (a0 : ¬ (x0 = (x1 + 1))) (a1 : ¬ (x0 ≤ x1)) : ¬ (x0 ≤ (x1 + 1)) := by lia
theorem om107 {x0 : Nat} {x1 : Nat}  : (((2 * x0) + (x1 % 2)) % 2) = (x1 % 2) := by lia
theorem om108 {x0 : Nat} {x1 : Nat}  : ((x0 + x1) + 1) = (x0 + (x1 + 1)) := Nat.add_assoc x0 x1 1
theorem om109 {x0 : Nat} {x1 : Nat}  : ((((x0 : Nat) : Int) = ((x1 : Nat) : Int)) ↔ (x0 = x1)) := Int.ofNat_inj
theorem om110 {x0 : Nat} {x1 : Nat} {x2 : Nat} (a0 : ((x0 + x1) + 200) < 9900) (a1 : x2 = 9900) : (x0 + 1) < x2 := by lia
theorem om111 {x0 : Nat} {x1 : Nat} {x2 : Nat} (a0 : x0 < (x1 - x2)) (a1 : x1 ≤ 7) : (x2 + x0) ≤ 7 := by lia
theorem om112 {x0 : Nat} {x1 : Nat} {x2 : Nat} (a0 : x0 < 900) (a1 : x1 = (2 ^ 20)) (a2 : x2 = (x0 - 1)) : x2 < x1 := by lia
theorem om113 {x0 : Nat} {x1 : Nat} {x2 : Nat} (a0 : x0 < x1) (a1 : x0 = x2) (a2 : x1 ≤ x2) : False := by lia
theorem om114 {x0 : Nat} {x1 : Nat} {x2 : Nat} (a0 : x0 < x1) (a1 : x1 ≤ x2) : ¬ (x2 = x0) := by lia
theorem om115 {x0 : Nat} {x1 : Nat} {x2 : Nat} (a0 : x0 < x1) (a1 : x1 ≤ x2) (a2 : x2 ≤ x0) : False := by lia
theorem om116 {x0 : Nat} {x1 : Nat} {x2 : Nat} (a0 : x0 < x1) (a1 : x2 ≤ x0) : ¬ (x2 = x1) := by lia
theorem om117 {x0 : Nat} {x1 : Nat} {x2 : Nat} (a0 : x0 < x1) : (min x2 x0) < x1 := by lia
theorem om118 {x0 : Nat} {x1 : Nat} {x2 : Nat} (a0 : x0 < x1) : 0 < (((2 * x1) + x2) / 2) := by lia
theorem om119 {x0 : Nat} {x1 : Nat} {x2 : Nat} (a0 : x0 < x1) : x0 < (x1 + x2) := Nat.lt_add_right x2 a0
theorem om120 {x0 : Nat} {x1 : Nat} {x2 : Nat} (a0 : x0 < x1) : ¬ (((x1 ≤ x0) ∧ (x0 ≤ x2))) := by lia
theorem om121 {x0 : Nat} {x1 : Nat} {x2 : Nat} (a0 : (2 + x0) = x1) (a1 : x2 = x1) : 1 ≤ x2 := by lia
theorem om122 {x0 : Nat} {x1 : Nat} {x2 : Nat} (a0 : (x0 + (x1 + 1)) = x2) : ¬ (x0 = x2) := by lia
theorem om123 {x0 : Nat} {x1 : Nat} {x2 : Nat} (a0 : (x0 + x1) = x2) (a1 : x2 < 4) : x0 < 4 := by lia
theorem om124 {x0 : Nat} {x1 : Nat} {x2 : Nat} (a0 : (x0 + x1) = x2) (a1 : 1 ≤ x1) : 1 ≤ x2 := by lia
theorem om125 {x0 : Nat} {x1 : Nat} {x2 : Nat} (a0 : x0 = (1 + (x1 + x2))) : ((1 + x1) + (1 + x2)) = (1 + x0) := by lia
theorem om126 {x0 : Nat} {x1 : Nat} {x2 : Nat} (a0 : x0 = (2 ^ 20)) (a1 : x1 = x2) (a2 : x2 ≤ 7) : x1 < x0 := by lia
theorem om127 {x0 : Nat} {x1 : Nat} {x2 : Nat} (a0 : (x0 + x1) ≤ x2) (a1 : 1 ≤ x0) (a2 : 1 ≤ x1) : 2 ≤ x2 := by lia
theorem om128 {x0 : Nat} {x1 : Nat} {x2 : Nat} (a0 : x0 ≤ x1) : x0 ≤ (x2 + x1) := Nat.le_add_left_of_le a0
theorem om129 {x0 : Nat} {x1 : Nat} {x2 : Nat} (a0 : ((x0 = x1) ∨ (x0 = x2))) (a1 : (x0 % 2) = 0) : ((x1 = (2 * (x0 / 2))) ∨ (x2 = (2 * (x0 / 2)))) := by lia
theorem om130 {x0 : Nat} {x1 : Nat} {x2 : Nat} {x3 : Nat} (a0 : (x0 + 1) < x1) (a1 : (x2 + x3) = x0) : x2 < x1 := by lia
theorem om131 {x0 : Nat} {x1 : Nat} {x2 : Nat} {x3 : Nat} (a0 : x0 < (x1 + 1)) (a1 : x2 < x0) (a2 : x3 < x2) : x3 ≠ x1 := by lia
theorem om132 {x0 : Nat} {x1 : Nat} {x2 : Nat} {x3 : Nat} (a0 : x0 < x1) (a1 : x1 < x2) (a2 : x2 = x3) : x0 < x3 := by lia
theorem om133 {x0 : Nat} {x1 : Nat} {x2 : Nat} {x3 : Nat} (a0 : (2 + x0) = x1) (a1 : x0 < 6) (a2 : x2 = (2 ^ 20)) (a3 : x3 ≤ x1) : x3 < x2 := by lia
theorem om134 {x0 : Nat} {x1 : Nat} {x2 : Nat} {x3 : Nat} (a0 : (x0 + (x1 + 1)) ≤ x2) (a1 : x3 = x1) : ((x0 + 1) + x3) ≤ x2 := by lia
theorem om135 {x0 : Nat} {x1 : Nat} {x2 : Nat} {x3 : Nat} (a0 : x0 ≤ (x1 + 1)) (a1 : x1 ≤ (x2 + x3)) : x0 ≤ (x2 + (x3 + 1)) := by lia
theorem om136 {x0 : Nat} {x1 : Nat} {x2 : Nat} {x3 : Nat} {x4 : Nat} (a0 : (x0 + 1) < x1) (a1 : (x2 + x3) = x0) (a2 : x4 ≤ x3) : x4 < x1 := by lia
theorem om137 {x0 : Nat} {x1 : Nat} {x2 : Nat} {x3 : Nat} {x4 : Nat} (a0 : ((0 + x0) + x1) = x2) (a1 : x0 ≤ x3) (a2 : x1 ≤ x3) (a3 : x4 = (2 * x3)) : x2 ≤ x4 := by lia
theorem om138 {x0 : Nat} {x1 : Nat} {x2 : Nat} {x3 : Nat} {x4 : Nat} (a0 : (2 + x0) = x1) (a1 : x0 < 6) (a2 : x2 = (2 ^ 20)) (a3 : x3 = x1) (a4 : x4 ≤ (x1 + (x3 + 2))) : x4 < x2 := by lia
theorem om139 {x0 : Nat} {x1 : Nat} {x2 : Nat} {x3 : Nat} {x4 : Nat} (a0 : (x0 / 2) = (x1 / 2)) (a1 : x2 = ((2 * x3) + (x0 % 2))) (a2 : x2 = ((2 * x4) + (x1 % 2))) : x0 = x1 := by lia
theorem om140 {x0 : Nat} {x1 : Nat} {x2 : Nat} {x3 : Nat} {x4 : Nat} (a0 : x0 = ((2 * x1) + (x2 % 2))) (a1 : x0 = ((2 * x3) + (x4 % 2))) : x1 = x3 := by lia
theorem om141 {x0 : Nat} {x1 : Nat} {x2 : Nat} {x3 : Nat} {x4 : Nat} (a0 : ((((x0 = x1) ∧ (x2 = x3))) ∨ (((x0 = x3) ∧ (x2 = x1))))) (a1 : (x1 / 2) < x4) (a2 : (x3 / 2) < x4) : (x2 / 2) < x4 := by lia
theorem om142 {x0 : Nat} {x1 : Nat} {x2 : Nat} {x3 : Nat} {x4 : Nat} {x5 : Nat} (a0 : (x0 / 2) < (x1 / 2)) (a1 : x0 = ((2 * x2) + x3)) (a2 : x1 = ((2 * x4) + (x5 % 2))) (a3 : x4 < x2) : False := by lia
theorem om143 {x0 : Nat} {x1 : Nat} {x2 : Nat} {x3 : Nat} {x4 : Nat} {x5 : Nat} (a0 : x0 = (2 * x1)) (a1 : x2 ≤ x1) (a2 : x3 ≤ x1) (a3 : x4 ≤ x2) (a4 : x5 ≤ x3) : (x4 + x5) ≤ x0 := by lia
theorem om144 {x0 : Nat} (a0 : 0 < x0) : (x0 - 1) < x0 := Nat.sub_one_lt_of_lt a0
theorem om145 {x0 : Nat} (a0 : 0 < x0) : (0 : Int) < ((x0 : Nat) : Int) := Int.natCast_pos.mpr a0
theorem om146 {x0 : Nat} (a0 : x0 < (10 ^ 60)) : x0 < (10 ^ 100) := by lia
theorem om147 {x0 : Nat} (a0 : x0 < 1009) : (Int.natAbs ((x0 : Nat) : Int)) < 1009 := om0 a0 rfl
theorem om148 {x0 : Nat} (a0 : x0 < 18) : x0 < 100 := by lia
theorem om149 {x0 : Nat} (a0 : x0 < 900) : x0 < 1000 := by lia
theorem om150 {x0 : Nat} (a0 : 1 ≤ x0) : 0 < x0 := Nat.zero_lt_of_lt a0
theorem om151 {x0 : Nat} (a0 : x0 ≤ 7) : ((x0 : Nat) : Int) < ((2 : Int) ^ 20) := by lia
theorem om152 {x0 : Nat} (a0 : x0 ≤ 7) : x0 ≤ 1000 := by lia
theorem om153 {x0 : Nat}  : (-((x0 : Nat) : Int)) < (1 : Int) := by lia
theorem om154 {x0 : Nat}  : ((2 * x0) % 2) = 0 := Nat.mul_mod_right 2 x0
theorem om155 {x0 : Nat}  : (x0 * 2) = (x0 + x0) := Nat.mul_two x0
theorem om156 {x0 : Nat}  : x0 ≤ (x0 + 4) := Nat.le_add_right x0 4
theorem om157 {x0 : Nat}  : x0 ≤ x0 := om101 rfl
theorem om158   : 1 < 2 := Nat.one_lt_two
theorem om159 {x0 : Nat} {p0 : Prop} {x1 : Nat} {x2 : Nat} {x3 : Nat} {x4 : Nat} {p1 : Prop} {p2 : Prop} (a0 : x0 < 0) : (p0 → (((x1 = x2) ∨ (x3 = x2)) → (x4 = 1 → (p1 → p2)))) := by lia
theorem om160 {x0 : Nat} {p0 : Prop} {p1 : Prop} (a0 : x0 < x0) : ((p0) ∨ (p1)) := by lia
theorem om161 {x0 : Nat} {x1 : Nat} {p0 : Prop} {p1 : Prop} (a0 : x0 < 0) : (((x0 ≤ x1) ∨ (p0)) → p1) := fun a => om77 a0 a0
theorem om162 {x0 : Nat} {x1 : Nat} {p0 : Prop} {p1 : Prop} (a0 : (x0 - 0) ≤ x1) (a1 : x1 < x0) : ((p0) ∧ (p1)) := by lia
theorem om163 {x0 : Nat} {x1 : Nat} {p0 : Prop} {p1 : Prop} (a0 : ¬ (((2 * x0) % 2) = 0)) : (x1 = 1 → (p0 → p1)) := by lia
theorem om164 {x0 : Nat} {p0 : Prop} (a0 : x0 < 0) : p0 := by lia
theorem om165 {x0 : Nat} {x1 : Nat} {p0 : Prop} (a0 : x0 < 0) : (x0 < x1 → p0) := by lia
theorem om166 {x0 : Nat} {x1 : Nat} {p0 : Prop} (a0 : x0 < x1) (a1 : x0 = x1) : p0 := by lia
theorem om167 {x0 : Nat} {x1 : Nat} {p0 : Prop} (a0 : ((x0 ≤ x1) ∨ (((x0 < 0) ∧ (p0))))) : x0 ≤ x1 := by lia
theorem om168 {x0 : Nat} {x1 : Nat} {x2 : Nat} {p0 : Prop} (a0 : x0 < x1) (a1 : x0 = x2) (a2 : x2 = (x1 + 1)) : p0 := by lia
theorem om169 {x0 : Nat} {x1 : Nat} {x2 : Nat} {p0 : Prop} (a0 : x0 < x1) (a1 : x0 = x2) (a2 : x2 = (x1 + 5)) : p0 := by lia
theorem om170 {x0 : Nat} {x1 : Nat} {x2 : Nat} {p0 : Prop} (a0 : x0 < x1) (a1 : x0 = x2) (a2 : x1 ≤ x2) : p0 := by lia
theorem om171 {x0 : Nat} {x1 : Nat} {x2 : Nat} {p0 : Prop} (a0 : (max x0 x1) = x2) : (((x2 / 2) = 0) ∨ ((((x2 / 2) = (x0 / 2)) ∨ ((((x2 / 2) = (x1 / 2)) ∨ (p0)))))) := by lia
theorem om172 {x0 : Nat} {p0 : Prop} {x1 : Nat} {x2 : Nat} {x3 : Nat} (a0 : x0 < 0) : (p0 → ((x1 = x2) ∧ (((x1 = x3) ∧ (1 ≤ x1))))) := by lia
theorem om173 {x0 : Nat} {x1 : Nat} {p0 : Prop} {x2 : Nat} {x3 : Nat} (a0 : x0 < 0) : (((x0 ≤ x1) ∨ (p0)) → x2 = x3) := by lia
theorem om174 {x0 : Nat} {x1 : Nat} {x2 : Nat} {x3 : Nat} {p0 : Prop} (a0 : x0 < x1) (a1 : x1 ≤ x2) (a2 : x3 ≤ x0) : (x2 < x3 → p0) := by lia
theorem om175 {x0 : Nat} {x1 : Nat} {x2 : Nat} {x3 : Nat} {x4 : Nat} {x5 : Nat} {p0 : Prop} (a0 : x0 < x1) (a1 : x1 ≤ x2) (a2 : x2 < x3) (a3 : x3 ≤ x4) (a4 : x5 ≤ x0) : (x4 < x5 → p0) := by lia
theorem om176 {x0 : Nat} {x1 : Nat} {x2 : Nat} {x3 : Nat} {x4 : Nat} {x5 : Nat} {x6 : Nat} {p0 : Prop} (a0 : x0 ≤ x1) (a1 : x1 < x2) (a2 : x2 ≤ x3) (a3 : x3 < x4) (a4 : x4 ≤ x5) (a5 : (x5 + 4) < x6) : (x6 < x0 → p0) := by lia
theorem om177 {x0 : Nat} {x1 : Nat} {x2 : Nat} {x3 : Nat} {x4 : Nat} {x5 : Nat} {x6 : Nat} {p0 : Prop} (a0 : x0 ≤ x1) (a1 : x1 < x2) (a2 : x2 ≤ x3) (a3 : x3 < x4) (a4 : x4 ≤ x5) (a5 : x6 < x0) (a6 : x5 ≤ x6) : p0 := by lia
theorem om178 {x0 : Nat} {x1 : Nat} {x2 : Nat} {x3 : Nat} {x4 : Nat} {x5 : Nat} {x6 : Nat} {x7 : Nat} {p0 : Prop} (a0 : x0 ≤ x1) (a1 : x2 ≤ x3) (a2 : x1 < x2) (a3 : x4 ≤ x5) (a4 : x3 < x4) (a5 : x6 ≤ x7) (a6 : x5 < x6) : (x7 < x0 → p0) := by lia
theorem om179 {x0 : Nat} {x1 : Nat} {x2 : Nat} {x3 : Nat} {x4 : Nat} {x5 : Nat} {x6 : Nat} {x7 : Nat} {x8 : Nat} {x9 : Nat} {p0 : Prop} (a0 : x0 ≤ x1) (a1 : x1 < x2) (a2 : x2 ≤ x3) (a3 : x3 < x4) (a4 : x4 ≤ x5) (a5 : (x5 + 4) < x6) (a6 : x6 < x7) (a7 : x7 ≤ x8) (a8 : x9 < x0) (a9 : ((((x5 ≤ x9) ∧ (x9 ≤ (x5 + 4)))) ∨ (x9 = x8))) : p0 := by lia
theorem om180 {x0 : Int} {x1 : Int} (a0 : ¬ (x0 = x1)) : ((x0 < x1) ↔ (x0 ≤ x1)) := by lia
theorem om181 {x0 : Int} {x1 : Int}  : (x0 + (x1 * (-(1 : Int)))) = (x0 - x1) := by lia
theorem om182 {x0 : Int} {x1 : Int}  : (x0 - (x1 + (1 : Int))) = ((x0 - x1) - (1 : Int)) := Eq.symm (Int.sub_sub x0 x1 1)
theorem om183 {x0 : Int} {x1 : Int} {x2 : Int} {x3 : Int} (a0 : x0 = x1) (a1 : x2 = x3) : ((x0 < x1) ∨ (((x0 = x1) ∧ (x2 ≤ x3)))) := by lia
theorem om184 {x0 : Int} {x1 : Nat} (a0 : (Int.toNat x0) ≤ x1) (a1 : x1 < (2 ^ 20)) : x0 < ((2 : Int) ^ 63) := by lia
theorem om185 {x0 : Int} {x1 : Nat} (a0 : (0 : Int) ≤ x0) (a1 : (Int.toNat x0) < x1) : (((0 : Int) ≤ x0) ∧ (x0 < ((x1 : Nat) : Int))) := by lia
theorem om186 {x0 : Int} {x1 : Nat} (a0 : x0 ≤ (1000 : Int)) (a1 : x1 ≤ 1000) : (((x1 : Nat) : Int) + x0) ≤ ((2 : Int) ^ 27) := by lia
theorem om187 {x0 : Int} {x1 : Nat} {x2 : Nat} (a0 : (Int.toNat x0) < x1) (a1 : x2 < (2 ^ 20)) (a2 : x2 = x1) : x0 < ((2 : Int) ^ 63) := by lia
theorem om188 {x0 : Int} {x1 : Nat} {x2 : Nat} (a0 : (Int.toNat x0) < x1) (a1 : x1 = x2) : x0 < ((x2 : Nat) : Int) := by lia
theorem om189 {x0 : Int} (a0 : (Int.toNat x0) < (2 ^ 20)) : x0 < ((2 : Int) ^ 63) := by lia
theorem om190 {x0 : Int} (a0 : (Int.toNat x0) < (2 ^ 20)) : x0 ≤ (16777216 : Int) := by lia
theorem om191 {x0 : Int} (a0 : (0 : Int) < x0) (a1 : x0 < (1000 : Int)) : (Int.natAbs x0) < (2 ^ 10) := by lia
theorem om192 {x0 : Int} (a0 : (0 : Int) < x0) : (Int.natAbs x0) ≠ 0 := by lia
theorem om193 {x0 : Int} (a0 : (Int.natAbs x0) = 0) : x0 = (0 : Int) := Int.natAbs_eq_zero.mp a0
theorem om194 {x0 : Int} (a0 : (0 : Int) ≤ x0) : (Int.natAbs x0) = (Int.toNat x0) := by lia
theorem om195 {x0 : Int} (a0 : (0 : Int) ≤ x0) : (0 : Int) ≤ x0 := Int.le_of_sub_one_lt a0
theorem om196 {x0 : Int} (a0 : (0 : Int) ≤ x0) : (-((2 : Int) ^ 62)) ≤ x0 := by lia
theorem om197 {x0 : Int} (a0 : (0 : Int) ≤ x0) : (-((2 : Int) ^ 63)) ≤ x0 := by lia
theorem om198 {x0 : Int} (a0 : x0 ≤ ((64 : Int) * (1000 : Int))) : x0 ≤ ((2 : Int) ^ 27) := by lia
theorem om199 {x0 : Int} (a0 : x0 ≤ (1000 : Int)) : x0 ≤ (1000 : Int) := Int.le_def.mpr a0
theorem om200 {x0 : Int}  : (Int.toNat (x0 % ((10 : Int) ^ 60))) < (10 ^ 60) := by lia
theorem om201 {x0 : Int}  : (x0 % ((10 : Int) ^ 60)) = (((Int.toNat (x0 % ((10 : Int) ^ 60))) : Nat) : Int) := by lia
theorem om202 {x0 : Int}  : ((x0 - (1 : Int)) + (1 : Int)) = x0 := Int.sub_add_cancel x0 1
theorem om203 {x0 : Int}  : ((-((-x0) - (1 : Int))) - (1 : Int)) = x0 := by lia
theorem om204 {x0 : Int}  : x0 ≤ x0 := Int.le_refl x0
theorem om205 {x0 : Nat} {x1 : Nat} (a0 : ((2 * x0) + 2) < x1) (a1 : x1 = (2 ^ 20)) : ((x0 : Nat) : Int) < ((2 : Int) ^ 20) := by lia
theorem om206 {x0 : Nat} {x1 : Nat} (a0 : ((x0 + (10 * (x1 + 1))) + 20) < 900) : ((x0 + (10 * x1)) + 20) < 900 := by lia
theorem om207 {x0 : Nat} {x1 : Nat} (a0 : ((x0 + (40 * (x1 + 1))) + 200) < 9900) : (((x0 + 1) + (40 * x1)) + 200) < 9900 := by lia
theorem om208 {x0 : Nat} {x1 : Nat} (a0 : ((x0 + (40 * (x1 + 1))) + 200) < 9900) : (((x0 + 3) + (40 * x1)) + 200) < 9900 := by lia
theorem om209 {x0 : Nat} {x1 : Nat} (a0 : ((x0 + (40 * (x1 + 1))) + 200) < 9900) : ((x0 + (40 * x1)) + 200) < 9900 := by lia
theorem om210 {x0 : Nat} {x1 : Nat} (a0 : ((x0 + x1) + 20) < 900) : x0 < 1000 := by lia
theorem om211 {x0 : Nat} {x1 : Nat} (a0 : (x0 + 1) < (x1 + 1)) : x0 < x1 := Nat.succ_lt_succ_iff.mp a0
theorem om212 {x0 : Nat} {x1 : Nat} (a0 : (x0 + 2) < x1) : x0 < x1 := om86 a0
theorem om213 {x0 : Nat} {x1 : Nat} (a0 : (x0 + 4) < x1) : (x0 + 1) < x1 := by lia
theorem om214 {x0 : Nat} {x1 : Nat} (a0 : (x0 + 4) < x1) : (x0 + 2) < x1 := by lia
theorem om215 {x0 : Nat} {x1 : Nat} (a0 : (x0 + 4) < x1) : (x0 + 3) < x1 := Nat.lt_of_succ_lt a0
theorem om216 {x0 : Nat} {x1 : Nat} (a0 : (x0 - 1) < x1) : x0 ≤ x1 := Nat.le_of_pred_lt a0
theorem om217 {x0 : Nat} {x1 : Nat} (a0 : ((x0 : Nat) : Int) < ((x1 : Nat) : Int)) : x0 < x1 := Int.ofNat_lt.mp a0
theorem om218 {x0 : Nat} {x1 : Nat} (a0 : 0 < x0) (a1 : x0 ≤ x1) : (x0 - 1) < x1 := Nat.sub_one_lt_of_le a0 a1
theorem om219 {x0 : Nat} {x1 : Nat} (a0 : 0 < x0) (a1 : x0 ≤ x1) : ((0 < x0) ∧ (x0 ≤ (x1 + 1))) := by lia
theorem om220 {x0 : Nat} {x1 : Nat} (a0 : 1 < x0) (a1 : x1 = (x0 - 1)) : 0 < x1 := by lia
theorem om221 {x0 : Nat} {x1 : Nat} (a0 : 1 < x0) (a1 : x1 = (x0 - 1)) : (x1 + 1) ≤ x0 := by lia
theorem om222 {x0 : Nat} {x1 : Nat} (a0 : x0 < (x1 + 1)) (a1 : x0 ≠ x1) : x0 < x1 := om40 a0 rfl a1
theorem om223 {x0 : Nat} {x1 : Nat} (a0 : x0 < (2 ^ 20)) (a1 : x1 = x0) : ((x1 : Nat) : Int) < ((2 : Int) ^ 63) := by lia
theorem om224 {x0 : Nat} {x1 : Nat} (a0 : x0 < 18) (a1 : x1 < x0) : x1 < 18 := Nat.lt_trans a1 a0
theorem om225 {x0 : Nat} {x1 : Nat} (a0 : x0 < 18) (a1 : x1 < x0) : x1 ≤ 18 := by lia
theorem om226 {x0 : Nat} {x1 : Nat} (a0 : x0 < 3) (a1 : x1 = (1 + x0)) : x1 < 1000 := by lia
theorem om227 {x0 : Nat} {x1 : Nat} (a0 : x0 < 4) (a1 : x1 = x0) : x1 ≤ 3 := by lia
theorem om228 {x0 : Nat} {x1 : Nat} (a0 : x0 < 6) (a1 : x1 = (2 ^ 20)) : (x0 + 1) < x1 := by lia
theorem om229 {x0 : Nat} {x1 : Nat} (a0 : x0 < 900) (a1 : x1 = (x0 - 1)) : x1 < 1000 := by lia
theorem om230 {x0 : Nat} {x1 : Nat} (a0 : x0 < x1) (a1 : x0 = ((2 * x1) / 2)) : False := by lia
theorem om231 {x0 : Nat} {x1 : Nat} (a0 : x0 < x1) (a1 : x1 = (2 ^ 20)) : (((x0 : Nat) : Int) - (1 : Int)) < ((2 : Int) ^ 20) := by lia
theorem om232 {x0 : Nat} {x1 : Nat} (a0 : x0 < x1) (a1 : x1 ≤ (2 ^ 128)) : x0 < (2 ^ 1000) := by lia
theorem om233 {x0 : Nat} {x1 : Nat} (a0 : x0 < x1) (a1 : x1 ≤ 7) : (((x0 + 1) : Nat) : Int) < ((2 : Int) ^ 20) := by lia
theorem om234 {x0 : Nat} {x1 : Nat} (a0 : x0 < x1) (a1 : x1 ≤ 7) : x0 ≤ 1000 := by lia
theorem om235 {x0 : Nat} {x1 : Nat} (a0 : x0 < x1) : ((x1 + 1) - (x0 + 1)) < ((x1 + 1) - x0) := by lia
theorem om236 {x0 : Nat} {x1 : Nat} (a0 : x0 < x1) : (x1 - (x0 + 1)) < (x1 - x0) := Nat.sub_succ_lt_self x1 x0 a0
theorem om237 {x0 : Nat} {x1 : Nat} (a0 : x0 < x1) : (0 / 2) < x1 := Nat.lt_of_add_left_lt a0
theorem om238 {x0 : Nat} {x1 : Nat} (a0 : x0 < x1) : (0 : Int) < (((x1 : Nat) : Int) - ((x0 : Nat) : Int)) := by lia
theorem om239 {x0 : Nat} {x1 : Nat} (a0 : x0 < x1) : ((x0 + 1) + (x1 - (x0 + 1))) = x1 := Nat.add_sub_of_le a0
theorem om240 {x0 : Nat} {x1 : Nat} (a0 : x0 < x1) : ((x1 - (x0 + 1)) + 1) = ((x1 + 1) - (x0 + 1)) := Eq.symm (Nat.sub_add_comm a0)
theorem om241 {x0 : Nat} {x1 : Nat} (a0 : x0 < x1) : ((((x1 : Nat) : Int) - (1 : Int)) - ((x0 : Nat) : Int)) = ((((x1 - 1) - x0) : Nat) : Int) := by lia
theorem om242 {x0 : Nat} {x1 : Nat} (a0 : x0 < x1) : ¬ (0 = x1) := by lia
theorem om243 {x0 : Nat} {x1 : Nat} (a0 : x0 < x1) : ¬ (x1 = x0) := Nat.ne_of_lt' a0
theorem om244 {x0 : Nat} {x1 : Nat} (a0 : x0 < x1) : ((0 < (x0 + 1)) ∧ ((x0 + 1) ≤ x1)) := if_false_right.mp a0
theorem om245 {x0 : Nat} {x1 : Nat} (a0 : (2 + x0) = x1) (a1 : x0 < 6) : x1 ≤ 7 := by lia
theorem om246 {x0 : Nat} {x1 : Nat} (a0 : (2 + x0) = x1) : 2 ≤ x1 := Nat.le.intro a0
theorem om247 {x0 : Nat} {x1 : Nat} (a0 : (x0 + x1) = 0) (a1 : 1 ≤ x0) : False := by lia
theorem om248 {x0 : Nat} {x1 : Nat} (a0 : (x0 + x1) = 1) : x0 ≤ 1 := Nat.le.intro a0
theorem om249 {x0 : Nat} {x1 : Nat} (a0 : (x0 - x1) = 0) (a1 : ¬ (x0 < x1)) : x0 = x1 := by lia
theorem om250 {x0 : Nat} {x1 : Nat} (a0 : ((x0 : Nat) : Int) = ((x1 : Nat) : Int)) : x0 = x1 := Int.ofNat_inj.mp a0
theorem om251 {x0 : Nat} {x1 : Nat} (a0 : x0 = (2 * x1)) : (x0 % 2) = 0 := by lia
theorem om252 {x0 : Nat} {x1 : Nat} (a0 : x0 = (6 + 1)) (a1 : x0 ≤ x1) : (6 / 2) < x1 := by lia
theorem om253 {x0 : Nat} {x1 : Nat} (a0 : x0 = (6 + 1)) (a1 : x0 ≤ x1) : (8 / 2) < x1 := by lia
theorem om254 {x0 : Nat} {x1 : Nat} (a0 : x0 = (x1 + 1)) : ((2 * x1) / 2) < x0 := by lia
theorem om255 {x0 : Nat} {x1 : Nat} (a0 : x0 = (x1 + 1)) : ¬ (x1 = x0) := om122 (id (Eq.symm a0))
theorem om256 {x0 : Nat} {x1 : Nat} (a0 : x0 = (x1 + 5)) : (x1 + 4) < x0 := by lia
theorem om257 {x0 : Nat} {x1 : Nat} (a0 : x0 = (2 ^ 20)) (a1 : x1 ≤ ((2 ^ 18) + 18)) : ((2 * x1) + 2) < x0 := by lia
theorem om258 {x0 : Nat} {x1 : Nat} (a0 : x0 = (2 ^ 20)) (a1 : x1 ≤ 7) : x1 < x0 := by lia
theorem om259 {x0 : Nat} {x1 : Nat} (a0 : x0 = 0) (a1 : x1 = 0) : (x0 + x1) = 0 := by lia
theorem om260 {x0 : Nat} {x1 : Nat} (a0 : x0 = 2) (a1 : x1 = 3) : x0 < x1 := by lia
theorem om261 {x0 : Nat} {x1 : Nat} (a0 : x0 = 2) (a1 : x1 = 3) : x0 ≠ x1 := by lia
theorem om262 {x0 : Nat} {x1 : Nat} (a0 : x0 = 3) (a1 : x1 = 4) : x0 < x1 := by lia
theorem om263 {x0 : Nat} {x1 : Nat} (a0 : x0 = x1) : x0 < (x1 + 1) := by lia
theorem om264 {x0 : Nat} {x1 : Nat} (a0 : x0 = x1) : (((x1 : Nat) : Int) - ((x0 : Nat) : Int)) ≤ (0 : Int) := by lia
theorem om265 {x0 : Nat} {x1 : Nat} (a0 : x0 = x1) : x0 ≤ (x1 + 0) := Nat.le_of_eq a0
theorem om266 {x0 : Nat} {x1 : Nat} (a0 : (1 + x0) ≤ x1) : 1 ≤ x1 := Nat.le_of_add_right_le a0
theorem om267 {x0 : Nat} {x1 : Nat} (a0 : (x0 + (x1 + 1)) ≤ 4) : x0 < 4 := Nat.lt_of_add_right_lt a0
theorem om268 {x0 : Nat} {x1 : Nat} (a0 : (x0 + (x1 + 1)) ≤ 4) : ((x0 + 1) + x1) ≤ 4 := by lia
theorem om269 {x0 : Nat} {x1 : Nat} (a0 : (x0 + 1) ≤ x1) (a1 : x1 < 100) : x0 < 100 := Nat.lt_trans a0 a1
theorem om270 {x0 : Nat} {x1 : Nat} (a0 : (x0 + 1) ≤ x1) : x0 < x1 := om4 a0
theorem om271 {x0 : Nat} {x1 : Nat} (a0 : (x0 + 1) ≤ x1) : 1 ≤ x1 := Nat.one_le_of_lt a0
theorem om272 {x0 : Nat} {x1 : Nat} (a0 : (x0 + x1) ≤ 1) (a1 : 1 ≤ x0) : x1 = 0 := by lia
theorem om273 {x0 : Nat} {x1 : Nat} (a0 : (x0 + x1) ≤ 1) : x1 ≤ 1 := Nat.le_of_add_left_le a0
theorem om274 {x0 : Nat} {x1 : Nat} (a0 : 1 ≤ x0) (a1 : x0 ≤ x1) : 1 ≤ x1 := Nat.le_trans a0 a1
theorem om275 {x0 : Nat} {x1 : Nat} (a0 : 1 ≤ x0) : (x1 + x0) ≠ 0 := by lia
theorem om276 {x0 : Nat} {x1 : Nat} (a0 : 1 ≤ x0) : 1 ≤ (x1 + x0) := Nat.le_add_left_of_le a0
theorem om277 {x0 : Nat} {x1 : Nat} (a0 : x0 ≤ (x1 * 2)) : x0 ≤ (2 * x1) := by lia
theorem om278 {x0 : Nat} {x1 : Nat} (a0 : x0 ≤ 2) (a1 : x1 ≤ 3) : (max x0 x1) ≤ 3 := by lia
theorem om279 {x0 : Nat} {x1 : Nat} (a0 : x0 ≤ x1) (a1 : ¬ ((x0 - 1) = 0)) : (x0 - 1) < x1 := by lia
theorem om280 {x0 : Nat} {x1 : Nat} (a0 : x0 ≤ x1) : ((2 * x1) - x0) < ((2 * (x1 + 1)) - (x0 + 1)) := by lia
theorem om281 {x0 : Nat} {x1 : Nat} (a0 : x0 ≤ x1) : ((x0 + 1) - (x1 + 1)) = 0 := by lia
theorem om282 {x0 : Nat} {x1 : Nat} (a0 : x0 ≤ x1) : (x0 - (x1 + 1)) = 0 := by lia
theorem om283 {x0 : Nat} {x1 : Nat} (a0 : x0 ≤ x1) : (x0 + 1) ≤ (x1 + 1) := Nat.add_le_add_right a0 1
theorem om284 {x0 : Nat} {x1 : Nat} (a0 : x0 ≤ x1) : ¬ (x1 < x0) := Nat.not_lt.mpr a0
theorem om285 {x0 : Nat} {x1 : Nat} (a0 : ¬ (((0 < x0) ∧ (x0 ≤ x1)))) (a1 : ¬ (x0 = (x1 + 1))) : ¬ (((0 < x0) ∧ (x0 ≤ (x1 + 1)))) := by lia
theorem om286 {x0 : Nat} {x1 : Nat}  : (x0 + x1) < (x0 + (x1 + (0 + 1))) := Nat.lt_add_one (x0 + x1)
theorem om287 {x0 : Nat} {x1 : Nat}  : ((((x0 + x1) : Nat) : Int) - ((x1 : Nat) : Int)) = ((x0 : Nat) : Int) := Int.sub_eq_iff_eq_add.mpr rfl
theorem om288 {x0 : Nat} {x1 : Nat}  : (Int.toNat (((x0 : Nat) : Int) - ((x1 : Nat) : Int))) = (x0 - x1) := Int.toNat_sub x0 x1
theorem om289 {x0 : Nat} {x1 : Nat}  : (x0 - x0) ≤ x1 := by lia
theorem om290 {x0 : Nat} {x1 : Nat}  : x0 ≤ (x0 + x1) := Nat.le_add_right x0 x1
theorem om291 {x0 : Nat} {x1 : Nat} {x2 : Nat} (a0 : ((2 * x0) + 2) < x1) (a1 : x2 < x0) : x2 < x1 := by lia
theorem om292 {x0 : Nat} {x1 : Nat} {x2 : Nat} (a0 : ((x0 + x1) + 2) < x2) : (x1 + 2) < x2 := Nat.lt_of_add_left_lt a0
theorem om293 {x0 : Nat} {x1 : Nat} {x2 : Nat} (a0 : ((x0 + x1) + 2) < x2) : x0 < x2 := by lia
theorem om294 {x0 : Nat} {x1 : Nat} {x2 : Nat} (a0 : ((x0 + x1) + 200) < 9900) (a1 : x2 = 9900) : (x0 + 64) < x2 := by lia
theorem om295 {x0 : Nat} {x1 : Nat} {x2 : Nat} (a0 : ((x0 + x1) + 200) < 9900) (a1 : x2 = 9900) : x0 < x2 := by lia
theorem om296 {x0 : Nat} {x1 : Nat} {x2 : Nat} (a0 : (x0 + 4) < x1) (a1 : x2 < x0) : ¬ (x1 = x2) := by lia
theorem om297 {x0 : Nat} {x1 : Nat} {x2 : Nat} (a0 : (x0 + 4) < x1) (a1 : x2 < x0) : ¬ (x2 = x1) := by lia
theorem om298 {x0 : Nat} {x1 : Nat} {x2 : Nat} (a0 : 0 < x0) (a1 : x1 ≤ (x0 - 1)) (a2 : x2 ≤ x1) : x2 < x0 := by lia
theorem om299 {x0 : Nat} {x1 : Nat} {x2 : Nat} (a0 : x0 < (2 + x1)) (a1 : x1 < 6) (a2 : x2 = (2 ^ 20)) : (x0 + 1) < x2 := by lia
theorem om300 {x0 : Nat} {x1 : Nat} {x2 : Nat} (a0 : x0 < (x1 + 1)) (a1 : x2 < x0) : x2 ≤ x1 := by lia
theorem om301 {x0 : Nat} {x1 : Nat} {x2 : Nat} (a0 : x0 < (x1 + 2)) (a1 : x1 = x2) : (x0 + 1) ≤ (x2 + 2) := le_of_le_of_eq a0 (congrFun (congrArg HAdd.hAdd a1) 2)
theorem om302 {x0 : Nat} {x1 : Nat} {x2 : Nat} (a0 : x0 < (x1 - x2)) (a1 : x1 ≤ 7) : (x2 + x0) ≤ 1000 := by lia
theorem om303 {x0 : Nat} {x1 : Nat} {x2 : Nat} (a0 : x0 < (min x1 x2)) : x0 < x1 := by lia
theorem om304 {x0 : Nat} {x1 : Nat} {x2 : Nat} (a0 : x0 < 0) : (x0 ≤ x1 → x2 = 0) := fun a => om80 a0 a0
theorem om305 {x0 : Nat} {x1 : Nat} {x2 : Nat} (a0 : x0 < 0) : ((x1 ≤ x2) ∧ (x1 ≤ x0)) := by lia
theorem om306 {x0 : Nat} {x1 : Nat} {x2 : Nat} (a0 : x0 < 100) (a1 : x1 = (2 ^ 20)) (a2 : x2 ≤ x0) : x2 < x1 := by lia
theorem om307 {x0 : Nat} {x1 : Nat} {x2 : Nat} (a0 : x0 < 18) (a1 : x1 < x0) (a2 : x2 = (2 ^ 20)) : (x1 + 1) < x2 := by lia
theorem om308 {x0 : Nat} {x1 : Nat} {x2 : Nat} (a0 : x0 < 4) (a1 : x1 = x0) (a2 : x2 = x1) : x2 ≤ 999 := by lia
theorem om309 {x0 : Nat} {x1 : Nat} {x2 : Nat} (a0 : x0 < x1) (a1 : x1 < x2) : x0 ≠ x2 := by lia
theorem om310 {x0 : Nat} {x1 : Nat} {x2 : Nat} (a0 : x0 < x1) (a1 : x1 < x2) : x0 ≤ (x2 - 1) := by lia
theorem om311 {x0 : Nat} {x1 : Nat} {x2 : Nat} (a0 : x0 < x1) (a1 : x1 < x2) : ¬ ((x0 + 1) = x2) := by lia
theorem om312 {x0 : Nat} {x1 : Nat} {x2 : Nat} (a0 : x0 < x1) (a1 : x1 < x2) : ((x0 < x2) ∧ (x1 < x2)) := by lia
theorem om313 {x0 : Nat} {x1 : Nat} {x2 : Nat} (a0 : x0 < x1) (a1 : x0 = x2) : x2 < x1 := lt_of_eq_of_lt (id (Eq.symm a1)) a0
theorem om314 {x0 : Nat} {x1 : Nat} {x2 : Nat} (a0 : x0 < x1) (a1 : x1 = (x2 + 1)) (a2 : ¬ (x0 = x2)) : x0 < x2 := by lia
theorem om315 {x0 : Nat} {x1 : Nat} {x2 : Nat} (a0 : x0 < x1) (a1 : x2 = 0) (a2 : x2 = x1) : False := by lia
theorem om316 {x0 : Nat} {x1 : Nat} {x2 : Nat} (a0 : x0 < x1) (a1 : x2 = x1) : ¬ (x0 = x2) := by lia
theorem om317 {x0 : Nat} {x1 : Nat} {x2 : Nat} (a0 : x0 < x1) (a1 : x1 ≤ x0) : x2 < x1 := by lia
theorem om318 {x0 : Nat} {x1 : Nat} {x2 : Nat} (a0 : x0 < x1) (a1 : x1 ≤ x2) : x0 ≤ x2 := by lia
theorem om319 {x0 : Nat} {x1 : Nat} {x2 : Nat} (a0 : x0 < x1) (a1 : x1 ≤ x2) (a2 : x2 = x0) : False := by lia
theorem om320 {x0 : Nat} {x1 : Nat} {x2 : Nat} (a0 : x0 < x1) (a1 : x2 ≤ x0) : x2 ≠ x1 := by lia
theorem om321 {x0 : Nat} {x1 : Nat} {x2 : Nat} (a0 : x0 < x1) (a1 : x2 ≤ x0) : x2 ≤ (x1 - 1) := by lia
theorem om322 {x0 : Nat} {x1 : Nat} {x2 : Nat} (a0 : x0 < x1) (a1 : x2 ≤ x0) : x2 ≤ x1 := by lia
theorem om323 {x0 : Nat} {x1 : Nat} {x2 : Nat} (a0 : x0 < x1) (a1 : ¬ (x2 < x1)) : x0 ≤ x2 := by lia
theorem om324 {x0 : Nat} {x1 : Nat} {x2 : Nat} (a0 : x0 < x1) : ((x2 = x2) ∧ (x0 < x1)) := ⟨rfl, a0⟩
theorem om325 {x0 : Nat} {x1 : Nat} {x2 : Nat} (a0 : (x0 % 2) = (((2 * x1) + x2) % 2)) (a1 : (x0 / 2) = ((2 * x1) / 2)) : x0 = ((2 * x1) + (x2 % 2)) := by lia
theorem om326 {x0 : Nat} {x1 : Nat} {x2 : Nat} (a0 : (x0 % 2) = ((x1 + 1) % 2)) (a1 : (x0 / 2) = (x1 / 2)) (a2 : (x2 / 2) = (x1 / 2)) (a3 : ¬ (((x2 = 0) ∨ (x2 = x0)))) (a4 : ¬ (((x2 = 1) ∨ (x2 = x1)))) : False := by lia
theorem om327 {x0 : Nat} {x1 : Nat} {x2 : Nat} (a0 : (x0 % 2) = 0) : ((x1 = x1) ∧ ((x2 % 2) = ((x2 + x0) % 2))) := by lia
theorem om328 {x0 : Nat} {x1 : Nat} {x2 : Nat} (a0 : ((0 + x0) + x1) = x2) (a1 : 1 ≤ x0) (a2 : 1 ≤ x1) : ¬ ((((x2 - 1) : Nat) : Int) = (0 : Int)) := by lia
theorem om329 {x0 : Nat} {x1 : Nat} {x2 : Nat} (a0 : (2 + x0) = x1) (a1 : x0 < 6) (a2 : x2 = x1) : (((x2 + 2) : Nat) : Int) < ((2 : Int) ^ 20) := by lia
theorem om330 {x0 : Nat} {x1 : Nat} {x2 : Nat} (a0 : (2 + x0) = x1) (a1 : x0 < 6) (a2 : x2 ≤ x1) : x2 < 900 := by lia
theorem om331 {x0 : Nat} {x1 : Nat} {x2 : Nat} (a0 : x0 = (x1 + 1)) (a1 : x1 = (x2 + 5)) : ¬ (((x2 ≤ x0) ∧ (x0 ≤ (x2 + 4)))) := by lia
theorem om332 {x0 : Nat} {x1 : Nat} {x2 : Nat} (a0 : x0 = (x1 + 5)) (a1 : x2 = x0) (a2 : x2 ≤ (x1 + 4)) : False := by lia
theorem om333 {x0 : Nat} {x1 : Nat} {x2 : Nat} (a0 : x0 = (x1 + 5)) (a1 : x0 ≤ x2) : (x1 + 4) < x2 := by lia
theorem om334 {x0 : Nat} {x1 : Nat} {x2 : Nat} (a0 : x0 = (x1 + x2)) : (x0 - x1) = x2 := Eq.symm (Nat.eq_sub_of_add_eq' (id (Eq.symm a0)))
theorem om335 {x0 : Nat} {x1 : Nat} {x2 : Nat} (a0 : x0 = (2 ^ 20)) (a1 : x1 = (6 + 1)) (a2 : x2 ≤ (x1 + 1)) : x2 < x0 := by lia
theorem om336 {x0 : Nat} {x1 : Nat} {x2 : Nat} (a0 : x0 = (2 ^ 20)) (a1 : x1 ≤ (2 ^ 18)) (a2 : x2 ≤ x1) : (x2 + 1) < x0 := by lia
theorem om337 {x0 : Nat} {x1 : Nat} {x2 : Nat} (a0 : x0 = (2 ^ 20)) (a1 : x1 ≤ (2 ^ 18)) (a2 : x2 ≤ x1) : x2 < x0 := by lia
theorem om338 {x0 : Nat} {x1 : Nat} {x2 : Nat} (a0 : x0 = 2) (a1 : x1 = 4) : ¬ (((x1 ≤ x0) ∧ (x0 ≤ x2))) := by lia
theorem om339 {x0 : Nat} {x1 : Nat} {x2 : Nat} (a0 : x0 = 3) (a1 : x1 = 4) : ¬ (((x1 ≤ x0) ∧ (x0 ≤ x2))) := by lia
theorem om340 {x0 : Nat} {x1 : Nat} {x2 : Nat} (a0 : x0 = x1) (a1 : x1 = x2) : x2 ≤ x0 := by lia
theorem om341 {x0 : Nat} {x1 : Nat} {x2 : Nat} (a0 : x0 = x1) (a1 : x2 ≤ x0) : (min x2 x1) = x2 := by lia
theorem om342 {x0 : Nat} {x1 : Nat} {x2 : Nat} (a0 : x0 = x1) (a1 : x2 ≥ x0) : x1 ≤ x2 := le_of_eq_of_le (id (Eq.symm a0)) a1
theorem om343 {x0 : Nat} {x1 : Nat} {x2 : Nat} (a0 : x0 = x1) (a1 : ¬ (x2 < x1)) : x0 ≤ x2 := by lia
theorem om344 {x0 : Nat} {x1 : Nat} {x2 : Nat} (a0 : x0 = x1) : (x2 + x0) = (x2 + x1) := Nat.add_left_cancel_iff.mpr a0
theorem om345 {x0 : Nat} {x1 : Nat} {x2 : Nat} (a0 : x0 = x1) : (x2 + x0) ≤ (x2 + x1) := Nat.le_of_eq (congrArg (HAdd.hAdd x2) a0)
theorem om346 {x0 : Nat} {x1 : Nat} {x2 : Nat} (a0 : (x0 + (0 + 1)) ≤ (x1 + x2)) : (x0 + 2) ≤ (x1 + (x2 + 1)) := om283 a0
theorem om347 {x0 : Nat} {x1 : Nat} {x2 : Nat} (a0 : (x0 + (x1 + 1)) ≤ 4) (a1 : x2 < x1) : (x0 + (x2 + 1)) < 4 := by lia
theorem om348 {x0 : Nat} {x1 : Nat} {x2 : Nat} (a0 : (x0 + 1) ≤ x1) (a1 : x1 < 900) (a2 : x2 = (2 ^ 20)) : x0 < x2 := by lia
theorem om349 {x0 : Nat} {x1 : Nat} {x2 : Nat} (a0 : (x0 + 1) ≤ x1) : ((3 * (x1 - (x0 + 1))) + (x2 + 2)) < ((3 * (x1 - x0)) + (x2 + 1)) := by lia
theorem om350 {x0 : Nat} {x1 : Nat} {x2 : Nat} (a0 : (x0 + x1) ≤ x2) : x0 ≤ x2 := Nat.le_of_add_right_le a0
theorem om351 {x0 : Nat} {x1 : Nat} {x2 : Nat} (a0 : 1 ≤ x0) (a1 : x0 ≤ x1) (a2 : x1 ≤ x2) : ((1 ≤ x0) ∧ (x0 ≤ x2)) := by lia
theorem om352 {x0 : Nat} {x1 : Nat} {x2 : Nat} (a0 : 1 ≤ x0) (a1 : x1 ≤ x2) : (x1 + 1) ≤ (x0 + x2) := by lia
theorem om353 {x0 : Nat} {x1 : Nat} {x2 : Nat} (a0 : x0 ≤ (x1 + x2)) : ¬ (x2 < (x0 - x1)) := by lia
theorem om354 {x0 : Nat} {x1 : Nat} {x2 : Nat} (a0 : x0 ≤ x1) : x0 ≤ (x1 + x2) := Nat.le_add_right_of_le a0
theorem om355 {x0 : Nat} {x1 : Nat} {x2 : Nat} (a0 : ¬ (x0 < (x1 - x2))) : x1 ≤ (x0 + x2) := by lia
theorem om356 {x0 : Nat} {x1 : Nat} {x2 : Nat} (a0 : ¬ (((x0 = 0) ∨ (x0 = x1)))) (a1 : ¬ (((x0 = 1) ∨ (x0 = x2)))) : 0 < (x0 / 2) := by lia
theorem om357 {x0 : Nat} {x1 : Nat} {x2 : Nat} (a0 : ((x0 = x1) ∨ (x0 = x2))) (a1 : (x1 / 2) < (x2 / 2)) (a2 : 0 < (x1 / 2)) : 0 < (x0 / 2) := by lia
theorem om358 {x0 : Nat} {x1 : Nat} {x2 : Nat} (a0 : ((x0 = x1) ∨ (x0 = x2))) : (((x1 / 2) = (x0 / 2)) ∨ ((x2 / 2) = (x0 / 2))) := by lia
theorem om359 {x0 : Nat} {x1 : Nat} {x2 : Nat} {x3 : Nat} (a0 : ((2 * x0) + 2) < x1) (a1 : x2 < x0) (a2 : x3 < x2) : (x3 + 1) < x1 := by lia
theorem om360 {x0 : Nat} {x1 : Nat} {x2 : Nat} {x3 : Nat} (a0 : ((2 * x0) + 2) < x1) (a1 : x2 < x0) (a2 : x3 < x2) : x3 < x1 := by lia
theorem om361 {x0 : Nat} {x1 : Nat} {x2 : Nat} {x3 : Nat} (a0 : (x0 + 2) < x1) (a1 : x2 = (min x3 x0)) : (x2 + 1) < x1 := by lia
theorem om362 {x0 : Nat} {x1 : Nat} {x2 : Nat} {x3 : Nat} (a0 : (x0 + 2) < x1) (a1 : (x2 + x3) ≤ x0) : (x3 + 1) < x1 := by lia
theorem om363 {x0 : Nat} {x1 : Nat} {x2 : Nat} {x3 : Nat} (a0 : (x0 + 2) < x1) (a1 : (x2 + x3) ≤ x0) : x2 < x1 := by lia
theorem om364 {x0 : Nat} {x1 : Nat} {x2 : Nat} {x3 : Nat} (a0 : (x0 + 4) < x1) (a1 : x1 < x2) (a2 : x3 < x0) : ¬ (x2 = x3) := by lia
theorem om365 {x0 : Nat} {x1 : Nat} {x2 : Nat} {x3 : Nat} (a0 : (x0 + 4) < x1) (a1 : x1 < x2) (a2 : x3 < x0) : ¬ (x3 = x2) := by lia
theorem om366 {x0 : Nat} {x1 : Nat} {x2 : Nat} {x3 : Nat} (a0 : (x0 + 4) < x1) (a1 : x2 < x0) (a2 : x3 < x2) : ¬ (x3 = x1) := by lia
theorem om367 {x0 : Nat} {x1 : Nat} {x2 : Nat} {x3 : Nat} (a0 : (x0 + 4) < x1) (a1 : x2 < x3) (a2 : x3 ≤ x0) : ¬ (x2 = x1) := by lia
theorem om368 {x0 : Nat} {x1 : Nat} {x2 : Nat} {x3 : Nat} (a0 : x0 < (2 + x1)) (a1 : x1 < 6) (a2 : x2 = (2 ^ 20)) (a3 : x3 = x0) : x3 < x2 := by lia
theorem om369 {x0 : Nat} {x1 : Nat} {x2 : Nat} {x3 : Nat} (a0 : x0 < (x1 + 1)) (a1 : x2 < x0) (a2 : x3 = x1) : x2 < x3 := by lia
theorem om370 {x0 : Nat} {x1 : Nat} {x2 : Nat} {x3 : Nat} (a0 : x0 < (x1 + 1)) (a1 : ¬ (x0 ≤ x1)) : x2 = x3 := by lia
theorem om371 {x0 : Nat} {x1 : Nat} {x2 : Nat} {x3 : Nat} (a0 : x0 < (min x1 x2)) (a1 : x2 = x3) : x0 < x3 := by lia
theorem om372 {x0 : Nat} {x1 : Nat} {x2 : Nat} {x3 : Nat} (a0 : x0 < 100) (a1 : x1 < x0) (a2 : x2 < x1) (a3 : x3 ≤ x2) : x3 ≤ 1000 := by lia
theorem om373 {x0 : Nat} {x1 : Nat} {x2 : Nat} {x3 : Nat} (a0 : x0 < 3) (a1 : x1 < x0) (a2 : x2 = (1 + x1)) (a3 : x3 = (2 ^ 20)) : x2 < x3 := by lia
theorem om374 {x0 : Nat} {x1 : Nat} {x2 : Nat} {x3 : Nat} (a0 : x0 < x1) (a1 : x1 < x2) : ¬ (((x2 ≤ x0) ∧ (x0 ≤ x3))) := by lia
theorem om375 {x0 : Nat} {x1 : Nat} {x2 : Nat} {x3 : Nat} (a0 : x0 < x1) (a1 : x1 < x2) : ¬ (((x3 ≤ x2) ∧ (x2 ≤ x0))) := by lia
theorem om376 {x0 : Nat} {x1 : Nat} {x2 : Nat} {x3 : Nat} (a0 : x0 < x1) (a1 : x1 < x2) (a2 : x2 < x3) : (x0 + 1) < x3 := by lia
theorem om377 {x0 : Nat} {x1 : Nat} {x2 : Nat} {x3 : Nat} (a0 : x0 < x1) (a1 : x1 < x2) (a2 : x3 = x2) : (x0 + 1) < x3 := by lia
theorem om378 {x0 : Nat} {x1 : Nat} {x2 : Nat} {x3 : Nat} (a0 : x0 < x1) (a1 : x1 < x2) (a2 : x3 = x2) (a3 : x3 ≤ x0) : False := by lia
theorem om379 {x0 : Nat} {x1 : Nat} {x2 : Nat} {x3 : Nat} (a0 : x0 < x1) (a1 : x1 < x2) (a2 : x3 ≤ x0) : x3 < x2 := by lia
theorem om380 {x0 : Nat} {x1 : Nat} {x2 : Nat} {x3 : Nat} (a0 : x0 < x1) (a1 : x1 < x2) (a2 : x3 ≤ x0) : x3 ≤ x2 := by lia
theorem om381 {x0 : Nat} {x1 : Nat} {x2 : Nat} {x3 : Nat} (a0 : x0 < x1) (a1 : x0 = x1) : x2 = x3 := by lia
theorem om382 {x0 : Nat} {x1 : Nat} {x2 : Nat} {x3 : Nat} (a0 : x0 < x1) (a1 : x1 = (x2 - 1)) (a2 : x3 = (x1 - 1)) : (x3 + 1) ≤ x2 := by lia
theorem om383 {x0 : Nat} {x1 : Nat} {x2 : Nat} {x3 : Nat} (a0 : x0 < x1) (a1 : x1 = x0) : x2 = x3 := by lia
theorem om384 {x0 : Nat} {x1 : Nat} {x2 : Nat} {x3 : Nat} (a0 : x0 < x1) (a1 : x1 = x2) (a2 : x3 = x2) : x0 < x3 := by lia
theorem om385 {x0 : Nat} {x1 : Nat} {x2 : Nat} {x3 : Nat} (a0 : x0 < x1) (a1 : x2 = x0) (a2 : x3 = x1) : x2 ≠ x3 := by lia
theorem om386 {x0 : Nat} {x1 : Nat} {x2 : Nat} {x3 : Nat} (a0 : x0 < x1) (a1 : x1 ≤ x2) (a2 : x3 = x2) : x0 < x3 := by lia
theorem om387 {x0 : Nat} {x1 : Nat} {x2 : Nat} {x3 : Nat} (a0 : x0 < x1) (a1 : x1 ≤ x2) (a2 : x2 ≤ x3) : x0 < x3 := by lia
theorem om388 {x0 : Nat} {x1 : Nat} {x2 : Nat} {x3 : Nat} (a0 : x0 < x1) : (((2 * x0) + (x2 % 2)) / 2) ≠ (((2 * x1) + x3) / 2) := by lia
theorem om389 {x0 : Nat} {x1 : Nat} {x2 : Nat} {x3 : Nat} (a0 : (2 + x0) = x1) (a1 : x0 < 6) (a2 : x2 = (2 ^ 20)) (a3 : x3 = x1) : x3 < x2 := by lia
theorem om390 {x0 : Nat} {x1 : Nat} {x2 : Nat} {x3 : Nat} (a0 : (2 + x0) = x1) (a1 : x0 < 6) (a2 : x2 = x1) (a3 : x3 ≤ ((x1 + 1) + (x2 + 2))) : x3 < 18 := by lia
theorem om391 {x0 : Nat} {x1 : Nat} {x2 : Nat} {x3 : Nat} (a0 : (2 + x0) = x1) (a1 : x0 < 6) (a2 : x2 = x1) (a3 : x3 ≤ (x1 + (x2 + 2))) : x3 < 1000 := by lia
theorem om392 {x0 : Nat} {x1 : Nat} {x2 : Nat} {x3 : Nat} (a0 : (x0 + (0 + 1)) = (x1 + (x2 + x3))) (a1 : 1 ≤ x2) (a2 : 1 ≤ x3) : x1 < x0 := by lia
theorem om393 {x0 : Nat} {x1 : Nat} {x2 : Nat} {x3 : Nat} (a0 : (x0 + (0 + 1)) = (x1 + x2)) (a1 : x2 = (1 + x3)) : x0 = (x1 + x3) := by lia
theorem om394 {x0 : Nat} {x1 : Nat} {x2 : Nat} {x3 : Nat} (a0 : (max x0 x1) = x2) (a1 : (x0 / 2) < x3) (a2 : (x1 / 2) < x3) : (x2 / 2) < x3 := by lia
theorem om395 {x0 : Nat} {x1 : Nat} {x2 : Nat} {x3 : Nat} (a0 : (max x0 x1) = x2) (a1 : (min x0 x1) = x3) (a2 : (x2 / 2) ≤ (x3 / 2)) : (x3 / 2) = (x2 / 2) := by lia
theorem om396 {x0 : Nat} {x1 : Nat} {x2 : Nat} {x3 : Nat} (a0 : (min x0 x1) = x2) (a1 : (x1 / 2) < x3) : (x2 / 2) < x3 := by lia
theorem om397 {x0 : Nat} {x1 : Nat} {x2 : Nat} {x3 : Nat} (a0 : x0 = (6 + 1)) (a1 : x0 ≤ x1) (a2 : x1 ≤ x2) (a3 : x2 ≤ x3) : (10 / 2) < x3 := by lia
theorem om398 {x0 : Nat} {x1 : Nat} {x2 : Nat} {x3 : Nat} (a0 : x0 = (x1 + x2)) (a1 : x2 ≤ x3) : x0 ≤ (x1 + x3) := by lia
theorem om399 {x0 : Nat} {x1 : Nat} {x2 : Nat} {x3 : Nat} (a0 : x0 = (x1 + x2)) (a1 : x3 ≤ x2) : (x1 + x3) ≤ x0 := by lia
theorem om400 {x0 : Nat} {x1 : Nat} {x2 : Nat} {x3 : Nat} (a0 : x0 = (2 ^ 20)) (a1 : x1 = (6 + 1)) (a2 : x2 ≤ (x1 + 1)) (a3 : x3 ≤ (x2 + 1)) : x3 < x0 := by lia
theorem om401 {x0 : Nat} {x1 : Nat} {x2 : Nat} {x3 : Nat} (a0 : x0 = (2 ^ 20)) (a1 : x1 ≤ ((2 ^ 18) + 18)) (a2 : x2 ≤ (2 ^ 18)) (a3 : x3 ≤ x2) : ((x1 + x3) + 2) < x0 := by lia
theorem om402 {x0 : Nat} {x1 : Nat} {x2 : Nat} {x3 : Nat} (a0 : x0 = (2 ^ 20)) (a1 : x1 ≤ (2 ^ 18)) (a2 : x2 ≤ x1) : (min x3 x2) < x0 := by lia
theorem om403 {x0 : Nat} {x1 : Nat} {x2 : Nat} {x3 : Nat} (a0 : (x0 + (x1 + x2)) ≤ x3) (a1 : 0 < x0) (a2 : x3 ≤ x1) : False := by lia
theorem om404 {x0 : Nat} {x1 : Nat} {x2 : Nat} {x3 : Nat} (a0 : (x0 + 0) ≤ x1) (a1 : x1 ≤ x2) (a2 : x2 ≤ x3) (a3 : x3 ≤ 1) : x0 ≤ 1 := by lia
theorem om405 {x0 : Nat} {x1 : Nat} {x2 : Nat} {x3 : Nat} (a0 : 1 ≤ x0) (a1 : x1 = (x0 + x2)) (a2 : x1 ≤ x3) : 0 < x3 := by lia
theorem om406 {x0 : Nat} {x1 : Nat} {x2 : Nat} {x3 : Nat} (a0 : 1 ≤ x0) (a1 : x1 ≤ x2) : ((2 * (x3 + (x0 + x2))) - (x1 + 2)) < ((2 * (x3 + (x0 + x2))) - (x1 + 1)) := by lia
theorem om407 {x0 : Nat} {x1 : Nat} {x2 : Nat} {x3 : Nat} (a0 : ¬ (((x0 < x1) ∨ (((x0 = x1) ∧ (x2 ≤ x3)))))) : x1 ≤ x0 := by lia
theorem om408 {x0 : Nat} {x1 : Nat} {x2 : Nat} {x3 : Nat} (a0 : ((x0 < x1) ∨ (((x0 = x1) ∧ (x2 ≤ x3))))) : x0 ≤ x1 := by lia
theorem om409 {x0 : Nat} {x1 : Nat} {x2 : Nat} {x3 : Nat} (a0 : ((x0 = (2 * x1)) ∨ (x2 = (2 * x1)))) (a1 : (x0 / 2) < x3) (a2 : (x2 / 2) < x3) : x1 < x3 := by lia
theorem om410 {x0 : Nat} {x1 : Nat} {x2 : Nat} {x3 : Nat} (a0 : ((x0 = (2 * x1)) ∨ (x2 = (2 * x1)))) (a1 : ((x3 = x0) ∨ (x3 = x2))) (a2 : (x0 / 2) < (x2 / 2)) (a3 : (x3 / 2) = x1) : x3 = (2 * x1) := by lia
theorem om411 {x0 : Nat} {x1 : Nat} {x2 : Nat} {x3 : Nat} (a0 : ((x0 = x1) ∨ (x0 = x2))) (a1 : (x0 / 2) = x3) : (((x1 / 2) = x3) ∨ ((x2 / 2) = x3)) := by lia
theorem om412 {x0 : Nat} {x1 : Nat} {x2 : Nat} {x3 : Nat} (a0 : ((x0 = x1) ∨ (x0 = x2))) (a1 : x0 = x3) : ((x1 = x3) ∨ (x2 = x3)) := by lia
theorem om413 {x0 : Nat} {x1 : Nat} {x2 : Nat} {x3 : Nat} (a0 : ((((x0 = x1) ∧ (x2 = x3))) ∨ (((x0 = x3) ∧ (x2 = x1))))) (a1 : ((x0 = 1) ∨ (x0 = x2))) (a2 : (x1 / 2) ≠ (x3 / 2)) (a3 : 0 < (x1 / 2)) (a4 : 0 < (x3 / 2)) : False := by lia
theorem om414 {x0 : Nat} {x1 : Nat} {x2 : Nat} {x3 : Nat}  : ((x0 + x1) + (x2 + x3)) = ((x0 + x2) + (x1 + x3)) := Nat.add_add_add_comm x0 x1 x2 x3
theorem om415 {x0 : Nat} {x1 : Nat} {x2 : Nat} {x3 : Nat}  : ((((((x0 : Nat) : Int) < ((x1 : Nat) : Int)) ∨ (((((x0 : Nat) : Int) = ((x1 : Nat) : Int)) ∧ (((x2 : Nat) : Int) ≤ ((x3 : Nat) : Int)))))) ↔ (((x0 < x1) ∨ (((x0 = x1) ∧ (x2 ≤ x3)))))) := by lia
theorem om416 {x0 : Nat} {x1 : Nat} {x2 : Nat} {x3 : Nat} {x4 : Nat} (a0 : ((2 * x0) + 2) < x1) (a1 : x2 < x0) (a2 : x3 < x0) (a3 : x4 ≤ ((x2 + 1) + x3)) : x4 < x1 := by lia
theorem om417 {x0 : Nat} {x1 : Nat} {x2 : Nat} {x3 : Nat} {x4 : Nat} (a0 : (x0 + 2) < x1) (a1 : (x2 + x3) ≤ x0) (a2 : x4 = x2) : (x4 + 1) < x1 := by lia
theorem om418 {x0 : Nat} {x1 : Nat} {x2 : Nat} {x3 : Nat} {x4 : Nat} (a0 : (x0 + 4) < x1) (a1 : x1 < x2) (a2 : x3 < x0) (a3 : x4 < x3) : ¬ (x4 = x2) := by lia
theorem om419 {x0 : Nat} {x1 : Nat} {x2 : Nat} {x3 : Nat} {x4 : Nat} (a0 : x0 < (x1 + 1)) (a1 : x2 < x0) (a2 : x3 < x2) (a3 : x4 = x1) : x3 < x4 := by lia
theorem om420 {x0 : Nat} {x1 : Nat} {x2 : Nat} {x3 : Nat} {x4 : Nat} (a0 : x0 < (x1 + 1)) (a1 : ¬ (x0 ≤ x1)) : ((x2 ≠ x3) ∧ (x4 ≠ x3)) := by lia
theorem om421 {x0 : Nat} {x1 : Nat} {x2 : Nat} {x3 : Nat} {x4 : Nat} (a0 : x0 < 100) (a1 : x1 < 1000) (a2 : x2 = (2 ^ 20)) (a3 : x3 ≤ (x1 + x4)) (a4 : x4 ≤ x0) : x3 < x2 := by lia
theorem om422 {x0 : Nat} {x1 : Nat} {x2 : Nat} {x3 : Nat} {x4 : Nat} (a0 : x0 < 18) (a1 : x1 < x0) (a2 : x2 ≤ (x1 + x3)) (a3 : x3 ≤ x4) : x2 ≤ (x4 + 18) := by lia
theorem om423 {x0 : Nat} {x1 : Nat} {x2 : Nat} {x3 : Nat} {x4 : Nat} (a0 : x0 < 18) (a1 : x1 = (2 ^ 20)) (a2 : x2 ≤ ((x3 + 1) + x4)) (a3 : x3 ≤ 7) (a4 : x4 ≤ x0) : x2 < x1 := by lia
theorem om424 {x0 : Nat} {x1 : Nat} {x2 : Nat} {x3 : Nat} {x4 : Nat} (a0 : x0 < x1) (a1 : x1 < x2) (a2 : x2 < x3) (a3 : x4 = x3) : x0 < x4 := by lia
theorem om425 {x0 : Nat} {x1 : Nat} {x2 : Nat} {x3 : Nat} {x4 : Nat} (a0 : x0 < x1) (a1 : x1 < x2) (a2 : x2 = x3) (a3 : x4 = x3) : x0 < x4 := by lia
theorem om426 {x0 : Nat} {x1 : Nat} {x2 : Nat} {x3 : Nat} {x4 : Nat} (a0 : x0 < x1) (a1 : x1 < x2) (a2 : x2 ≤ x3) : ¬ (((x4 ≤ x3) ∧ (x3 ≤ x0))) := by lia
theorem om427 {x0 : Nat} {x1 : Nat} {x2 : Nat} {x3 : Nat} {x4 : Nat} (a0 : x0 < x1) (a1 : x1 < x2) (a2 : x2 ≤ x3) : ¬ (((((x4 ≤ x1) ∧ (x1 ≤ x0))) ∨ (x1 = x3))) := by lia
theorem om428 {x0 : Nat} {x1 : Nat} {x2 : Nat} {x3 : Nat} {x4 : Nat} (a0 : x0 < x1) (a1 : x1 ≤ x2) (a2 : x2 < x3) (a3 : x3 ≤ x4) : x4 ≠ x0 := by lia
theorem om429 {x0 : Nat} {x1 : Nat} {x2 : Nat} {x3 : Nat} {x4 : Nat} (a0 : x0 < x1) (a1 : x1 ≤ x2) (a2 : x3 = (x4 + 5)) (a3 : x3 ≤ x0) : ¬ (((x4 ≤ x2) ∧ (x2 ≤ (x4 + 4)))) := by lia
theorem om430 {x0 : Nat} {x1 : Nat} {x2 : Nat} {x3 : Nat} {x4 : Nat} (a0 : x0 < x1) (a1 : x1 ≤ x2) (a2 : x2 ≤ x3) (a3 : x3 < x4) : ¬ (x0 = x4) := by lia
theorem om431 {x0 : Nat} {x1 : Nat} {x2 : Nat} {x3 : Nat} {x4 : Nat} (a0 : (x0 % 2) = 1) (a1 : x1 = ((x2 + 1) % 2)) (a2 : x3 = x4) : ((x3 = x4) ∧ (x1 = ((x2 + x0) % 2))) := by lia
theorem om432 {x0 : Nat} {x1 : Nat} {x2 : Nat} {x3 : Nat} {x4 : Nat} (a0 : (2 + x0) = x1) (a1 : x0 < 6) (a2 : x2 < (x3 + 2)) (a3 : x3 = x1) (a4 : x4 ≤ ((x1 + 1) + x2)) : x4 < 900 := by lia
theorem om433 {x0 : Nat} {x1 : Nat} {x2 : Nat} {x3 : Nat} {x4 : Nat} (a0 : (2 + x0) = x1) (a1 : x0 < 6) (a2 : x2 < (x3 + 2)) (a3 : x3 = x1) (a4 : x4 ≤ (x1 + x2)) : x4 < 900 := by lia
theorem om434 {x0 : Nat} {x1 : Nat} {x2 : Nat} {x3 : Nat} {x4 : Nat} (a0 : (x0 + (0 + 1)) = (x1 + x2)) (a1 : x2 = (1 + x3)) (a2 : x4 < x3) : (x1 + x4) < x0 := by lia
theorem om435 {x0 : Nat} {x1 : Nat} {x2 : Nat} {x3 : Nat} {x4 : Nat} (a0 : (x0 + (x1 + 1)) = x2) (a1 : x3 = (x0 + 1)) (a2 : x4 = x1) : (x3 + x4) = x2 := by lia
theorem om436 {x0 : Nat} {x1 : Nat} {x2 : Nat} {x3 : Nat} {x4 : Nat} (a0 : (min x0 x1) = x2) (a1 : (max x0 x1) = x3) (a2 : (x4 / 2) = (x3 / 2)) (a3 : ((x2 = 0) ∨ (x2 = x4))) (a4 : (x0 / 2) ≠ (x1 / 2)) (a5 : 0 < (x0 / 2)) (a6 : 0 < (x1 / 2)) : False := by lia
theorem om437 {x0 : Nat} {x1 : Nat} {x2 : Nat} {x3 : Nat} {x4 : Nat} (a0 : x0 = (2 * x1)) (a1 : x2 ≤ (x3 + (x1 + x4))) (a2 : x3 ≤ x1) : x2 ≤ (x0 + x4) := by lia
theorem om438 {x0 : Nat} {x1 : Nat} {x2 : Nat} {x3 : Nat} {x4 : Nat} (a0 : x0 = ((x1 + x2) + (x3 + x4))) : ((x1 + x3) + (x2 + x4)) = (0 + x0) := by lia
theorem om439 {x0 : Nat} {x1 : Nat} {x2 : Nat} {x3 : Nat} {x4 : Nat} (a0 : x0 = ((x1 + x2) + (x3 + x4))) : ((x1 + x3) + (x2 + x4)) = x0 := by lia
theorem om440 {x0 : Nat} {x1 : Nat} {x2 : Nat} {x3 : Nat} {x4 : Nat} (a0 : x0 = (6 + 1)) (a1 : x0 ≤ x1) (a2 : x1 ≤ x2) (a3 : x2 ≤ x3) (a4 : x3 ≤ x4) : (12 / 2) < x4 := by lia
theorem om441 {x0 : Nat} {x1 : Nat} {x2 : Nat} {x3 : Nat} {x4 : Nat} (a0 : x0 = (x1 + x2)) (a1 : x0 = (x3 + x4)) (a2 : x1 ≤ x4) : x3 ≤ x2 := by lia
theorem om442 {x0 : Nat} {x1 : Nat} {x2 : Nat} {x3 : Nat} {x4 : Nat} (a0 : x0 = (x1 + x2)) (a1 : x0 = (x3 + x4)) (a2 : x2 ≤ x3) : x4 ≤ x1 := by lia
theorem om443 {x0 : Nat} {x1 : Nat} {x2 : Nat} {x3 : Nat} {x4 : Nat} (a0 : x0 = (x1 + x2)) (a1 : x0 ≤ x3) (a2 : x4 ≤ x2) : x4 ≤ x3 := by lia
theorem om444 {x0 : Nat} {x1 : Nat} {x2 : Nat} {x3 : Nat} {x4 : Nat} (a0 : x0 = (2 ^ 20)) (a1 : x1 = (6 + 1)) (a2 : x2 ≤ (x1 + 1)) (a3 : x3 ≤ (x2 + 1)) (a4 : x4 ≤ (x3 + 1)) : x4 < x0 := by lia
theorem om445 {x0 : Nat} {x1 : Nat} {x2 : Nat} {x3 : Nat} {x4 : Nat} (a0 : (x0 + (x1 + 0)) ≤ x2) (a1 : x2 ≤ x3) (a2 : x3 ≤ x4) (a3 : x4 ≤ 1) : (x0 + x1) ≤ 1 := by lia
theorem om446 {x0 : Nat} {x1 : Nat} {x2 : Nat} {x3 : Nat} {x4 : Nat} (a0 : (x0 + (x1 + 1)) ≤ x2) (a1 : x3 = (x0 + 1)) (a2 : x4 = x1) : (x3 + x4) ≤ x2 := by lia
theorem om447 {x0 : Nat} {x1 : Nat} {x2 : Nat} {x3 : Nat} {x4 : Nat} (a0 : (x0 + (x1 + x2)) ≤ x3) (a1 : 0 < x0) (a2 : x3 = x4) (a3 : x4 ≤ (x2 + (1 * x1))) : False := by lia
theorem om448 {x0 : Nat} {x1 : Nat} {x2 : Nat} {x3 : Nat} {x4 : Nat} (a0 : (x0 + 1) ≤ (x1 + x2)) (a1 : x1 ≤ (x3 + (2 ^ x4))) (a2 : x2 ≤ (2 ^ x4)) : x0 ≤ (x3 + (2 ^ (x4 + 1))) := by lia
theorem om449 {x0 : Nat} {x1 : Nat} {x2 : Nat} {x3 : Nat} {x4 : Nat} (a0 : (x0 + 1) ≤ x1) (a1 : x1 = (1 + x2)) (a2 : x3 ≤ x4) : (x3 + x0) ≤ (x4 + (x2 + 0)) := by lia
theorem om450 {x0 : Nat} {x1 : Nat} {x2 : Nat} {x3 : Nat} {x4 : Nat} (a0 : (x0 + x1) ≤ x2) (a1 : x3 = x2) (a2 : x4 ≤ x1) : (x4 + x0) ≤ x3 := by lia
theorem om451 {x0 : Nat} {x1 : Nat} {x2 : Nat} {x3 : Nat} {x4 : Nat} (a0 : ((((x0 = x1) ∧ (x2 = x3))) ∨ (((x0 = x3) ∧ (x2 = x1))))) (a1 : (x1 / 2) < x4) (a2 : (x3 / 2) < x4) : (x0 / 2) < x4 := by lia
theorem om452 {x0 : Nat} {x1 : Nat} {x2 : Nat} {x3 : Nat} {x4 : Nat} {x5 : Nat} (a0 : (x0 + 4) < x1) (a1 : x1 < x2) (a2 : x2 ≤ x3) (a3 : x4 < x5) (a4 : x5 ≤ x0) : ¬ (((((x0 ≤ x4) ∧ (x4 ≤ (x0 + 4)))) ∨ (x4 = x3))) := by lia
theorem om453 {x0 : Nat} {x1 : Nat} {x2 : Nat} {x3 : Nat} {x4 : Nat} {x5 : Nat} (a0 : (x0 + 4) < x1) (a1 : x2 < x3) (a2 : x3 ≤ x0) (a3 : x4 < x5) (a4 : x5 ≤ x2) : ¬ (x4 = x1) := by lia
theorem om454 {x0 : Nat} {x1 : Nat} {x2 : Nat} {x3 : Nat} {x4 : Nat} {x5 : Nat} (a0 : (x0 + (0 + 1)) = (x1 + (x2 + x3))) (a1 : (x4 + 2) = (2 * x0)) (a2 : 1 ≤ x2) (a3 : 1 ≤ x3) (a4 : x5 < x1) : x5 < (x4 / 2) := by lia
theorem om455 {x0 : Nat} {x1 : Nat} {x2 : Nat} {x3 : Nat} {x4 : Nat} {x5 : Nat} (a0 : (x0 + (x1 + x2)) = x3) (a1 : (x3 + 1) < x4) (a2 : x5 ≤ x2) : (x5 + 1) < x4 := by lia
theorem om456 {x0 : Nat} {x1 : Nat} {x2 : Nat} {x3 : Nat} {x4 : Nat} {x5 : Nat} (a0 : (x0 + (x1 + x2)) = x3) (a1 : (x3 + 1) < x4) (a2 : x5 ≤ x2) : x5 < x4 := by lia
theorem om457 {x0 : Nat} {x1 : Nat} {x2 : Nat} {x3 : Nat} {x4 : Nat} {x5 : Nat} (a0 : x0 = (6 + 1)) (a1 : x1 ≤ (x0 + 1)) (a2 : x2 ≤ (x1 + 1)) (a3 : x3 ≤ (x2 + 1)) (a4 : x4 ≤ (x3 + 1)) (a5 : x5 ≤ (x4 + 1)) : x5 < 18 := by lia
theorem om458 {x0 : Nat} {x1 : Nat} {x2 : Nat} {x3 : Nat} {x4 : Nat} {x5 : Nat} (a0 : x0 = (2 ^ 20)) (a1 : x1 = (6 + 1)) (a2 : x2 ≤ (x1 + 1)) (a3 : x3 ≤ (x2 + 1)) (a4 : x4 ≤ (x3 + 1)) (a5 : x5 ≤ (x4 + 1)) : x5 < x0 := by lia
theorem om459 {x0 : Nat} {x1 : Nat} {x2 : Nat} {x3 : Nat} {x4 : Nat} {x5 : Nat} (a0 : (x0 + 1) ≤ x1) (a1 : (x2 + x3) ≤ (x4 + x0)) (a2 : x1 < 100) (a3 : x4 < 1000) (a4 : x5 = (2 ^ 20)) : (x2 + 1) < x5 := by lia
theorem om460 {x0 : Nat} {x1 : Nat} {x2 : Nat} {x3 : Nat} {x4 : Nat} {x5 : Nat} (a0 : (x0 + 1) ≤ x1) (a1 : (x2 + x3) ≤ (x4 + x0)) (a2 : x1 < 100) (a3 : x4 < 1000) (a4 : x5 = (2 ^ 20)) : x2 < x5 := by lia
theorem om461 {x0 : Nat} {x1 : Nat} {x2 : Nat} {x3 : Nat} {x4 : Nat} {x5 : Nat} (a0 : (x0 + x1) ≤ (x2 + x3)) (a1 : x2 < 1000) (a2 : x3 ≤ x4) (a3 : x4 < 100) (a4 : x5 = (2 ^ 20)) : (x0 + 1) < x5 := by lia
theorem om462 {x0 : Nat} {x1 : Nat} {x2 : Nat} {x3 : Nat} {x4 : Nat} {x5 : Nat} {x6 : Nat} (a0 : x0 < x1) (a1 : x1 ≤ x2) (a2 : x2 < x3) (a3 : x3 ≤ x4) (a4 : x4 < x5) (a5 : x5 ≤ x6) : x0 < x6 := by lia
theorem om463 {x0 : Nat} {x1 : Nat} {x2 : Nat} {x3 : Nat} {x4 : Nat} {x5 : Nat} {x6 : Nat} (a0 : x0 < x1) (a1 : x1 ≤ x2) (a2 : x2 < x3) (a3 : x4 ≤ x5) (a4 : x3 ≤ x4) (a5 : x5 < x6) : ¬ (x0 = x6) := by lia
theorem om464 {x0 : Nat} {x1 : Nat} {x2 : Nat} {x3 : Nat} {x4 : Nat} {x5 : Nat} {x6 : Nat} (a0 : x0 = (x1 + x2)) (a1 : x2 ≤ x3) (a2 : x3 ≤ x4) (a3 : x4 ≤ x5) (a4 : x5 ≤ x6) : x0 ≤ (x1 + x6) := by lia
theorem om465 {x0 : Nat} {x1 : Nat} {x2 : Nat} {x3 : Nat} {x4 : Nat} {x5 : Nat} {x6 : Nat} (a0 : x0 ≤ (x1 + x2)) (a1 : x2 ≤ x3) (a2 : x3 ≤ x4) (a3 : x4 ≤ x5) (a4 : x5 ≤ x6) (a5 : x0 = (x1 + x6)) : x0 = (x1 + x2) := by lia
theorem om466 {x0 : Nat} {x1 : Nat} {x2 : Nat} {x3 : Nat} {x4 : Nat} {x5 : Nat} {x6 : Nat} (a0 : x0 ≤ x1) (a1 : x2 < x0) (a2 : x3 ≤ x4) (a3 : x1 < x3) (a4 : x5 ≤ x6) (a5 : x4 < x5) : x6 ≠ x2 := by lia
theorem om467 {x0 : Nat} {x1 : Nat} {x2 : Nat} {x3 : Nat} {x4 : Nat} {x5 : Nat} {x6 : Nat} {x7 : Nat} (a0 : x0 < x1) (a1 : x1 ≤ x2) (a2 : x2 < x3) (a3 : x3 ≤ x4) (a4 : (x4 + 4) < x5) (a5 : x5 < x6) (a6 : x6 ≤ x7) : ¬ (((((x4 ≤ x0) ∧ (x0 ≤ (x4 + 4)))) ∨ (x0 = x7))) := by lia
theorem om468 {x0 : Nat} {x1 : Nat} {x2 : Nat} {x3 : Nat} {x4 : Nat} {x5 : Nat} {x6 : Nat} {x7 : Nat} (a0 : x0 ≤ x1) (a1 : x2 ≤ x3) (a2 : x1 < x2) (a3 : x4 ≤ x5) (a4 : x3 < x4) (a5 : x6 ≤ x7) (a6 : x5 < x6) : x0 ≤ x7 := by lia
theorem om469 {x0 : Nat} {x1 : Nat} {x2 : Nat} {x3 : Nat} {x4 : Nat} {x5 : Nat} {x6 : Nat} {x7 : Nat} {x8 : Nat} (a0 : x0 = (x1 + x2)) (a1 : (x3 / 2) = x0) (a2 : (x4 / 2) = x1) (a3 : (x5 / 2) = x2) (a4 : (x3 % 2) = x6) (a5 : (x4 % 2) = x7) (a6 : (x5 % 2) = x8) (a7 : x6 = (x7 + x8)) : x3 = (x4 + x5) := by lia
theorem om470 {x0 : Nat} (a0 : 0 < (0 + x0)) : 0 < x0 := Nat.lt_add_right_iff_pos.mp a0
theorem om471 {x0 : Nat} (a0 : 0 < x0) : 0 < ((2 * x0) / 2) := by lia
theorem om472 {x0 : Nat} (a0 : 0 < x0) : 0 < x0 := om150 a0
theorem om473 {x0 : Nat} (a0 : 1 < x0) : 0 < x0 := Nat.zero_lt_of_lt a0
theorem om474 {x0 : Nat} (a0 : x0 < 100) : (x0 + 1) < 4096 := by lia
theorem om475 {x0 : Nat} (a0 : x0 < 100) : ((x0 : Nat) : Int) < ((2 : Int) ^ 20) := by lia
theorem om476 {x0 : Nat} (a0 : x0 < 1000) : ((x0 : Nat) : Int) < ((2 : Int) ^ 20) := by lia
theorem om477 {x0 : Nat} (a0 : x0 < 1000) : ((x0 : Nat) : Int) < (1000 : Int) := Int.lt_toNat.mp a0
theorem om478 {x0 : Nat} (a0 : x0 < 18) : ((x0 : Nat) : Int) < ((2 : Int) ^ 20) := by lia
theorem om479 {x0 : Nat} (a0 : x0 < 18) : x0 < 18 := Nat.lt_of_succ_le a0
theorem om480 {x0 : Nat} (a0 : x0 < 18) : x0 ≤ 18 := Nat.le_of_succ_le a0
theorem om481 {x0 : Nat} (a0 : x0 < 2) : ((x0 = 0) ∨ (x0 = 1)) := by lia
theorem om482 {x0 : Nat} (a0 : x0 < 3) : ((x0 : Nat) : Int) < ((2 : Int) ^ 20) := by lia
theorem om483 {x0 : Nat} (a0 : x0 < 6) : (((2 + x0) : Nat) : Int) < ((2 : Int) ^ 20) := by lia
theorem om484 {x0 : Nat} (a0 : x0 < 6) : (x0 + 1) ≤ 6 := Nat.succ_le_of_lt a0
theorem om485 {x0 : Nat} (a0 : (x0 % 2) = 0) : x0 = (2 * (x0 / 2)) := by lia
theorem om486 {x0 : Nat} (a0 : (x0 - 1) = 0) : x0 ≤ (2 ^ 0) := Nat.le_of_sub_eq_zero a0
theorem om487 {x0 : Nat} (a0 : x0 = (2 ^ 20)) : 0 < x0 := Nat.lt_of_sub_eq_succ a0
theorem om488 {x0 : Nat} (a0 : x0 = (2 ^ 20)) : 1 < x0 := by lia
theorem om489 {x0 : Nat} (a0 : x0 = (2 ^ 20)) : 40 < x0 := by lia
theorem om490 {x0 : Nat} (a0 : x0 = 0) : ((x0 : Nat) : Int) = (0 : Int) := Int.ofNat_eq_zero.mpr a0
theorem om491 {x0 : Nat} (a0 : x0 = 0) : x0 = 0 := Eq.symm (Nat.add_right_cancel (congrFun (congrArg HAdd.hAdd (id (Eq.symm a0))) x0))
theorem om492 {x0 : Nat} (a0 : x0 = 3) : ¬ (x0 = 4) := by lia
theorem om493 {x0 : Nat} (a0 : (1 + x0) ≤ 1) (a1 : 1 ≤ x0) : False := by lia
theorem om494 {x0 : Nat} (a0 : 1 ≤ x0) : (x0 - 1) < x0 := om144 a0
theorem om495 {x0 : Nat} (a0 : 1 ≤ x0) : (((x0 : Nat) : Int) - (1 : Int)) = (((x0 - 1) : Nat) : Int) := by lia
theorem om496 {x0 : Nat} (a0 : x0 ≤ (2 ^ 128)) : (x0 - 1) < (2 ^ 1000) := by lia
theorem om497 {x0 : Nat} (a0 : x0 ≤ 1000) : ((x0 : Nat) : Int) ≤ (1000 : Int) := Nat.ToInt.of_le rfl rfl a0
theorem om498 {x0 : Nat} (a0 : x0 ≤ 1000) : x0 ≤ 16777216 := by lia
theorem om499 {x0 : Nat} (a0 : x0 ≤ 3) : (x0 + 1) ≤ 64 := by lia
theorem om500 {x0 : Nat} (a0 : x0 ≤ 4) : (0 + x0) ≤ 4 := by lia
theorem om501 {x0 : Nat} (a0 : x0 ≤ 64) : ((x0 : Nat) : Int) ≤ (64 : Int) := Nat.ToInt.of_le rfl rfl a0
theorem om502 {x0 : Nat} (a0 : ¬ (x0 = 0)) : (x0 / 2) < x0 := Nat.bitwise_rec_lemma a0
theorem om503 {x0 : Nat} (a0 : ¬ (x0 = 0)) : ((x0 - 1) + 1) = x0 := Nat.succ_pred_eq_of_ne_zero a0
theorem om504 {x0 : Nat}  : ((2 * x0) / 2) < (x0 + 1) := by lia
theorem om505 {x0 : Nat}  : ((2 * x0) + 2) = (2 * (x0 + 1)) := Eq.symm (Nat.mul_succ 2 x0)
theorem om506 {x0 : Nat}  : ((1 + x0) + 1) = (1 + (x0 + 1)) := Nat.add_assoc 1 x0 1
theorem om507 {x0 : Nat}  : (1 + x0) = (x0 + 1) := Nat.add_comm 1 x0
theorem om508 {x0 : Nat}  : (Int.toNat ((((x0 : Nat) : Int) - (1 : Int)) - (-(1 : Int)))) = x0 := by lia
theorem om509 {x0 : Nat}  : (Int.toNat (((x0 : Nat) : Int) - (0 : Int))) = x0 := om250 rfl
theorem om510 {x0 : Nat}  : (x0 + 1) ≠ (x0 + 2) := Nat.ne_add_one (x0 + 1)
theorem om511 {x0 : Nat}  : (x0 + 1) ≠ (x0 + 3) := by lia
theorem om512 {x0 : Nat}  : (x0 + 1) ≠ (x0 + 4) := by lia
theorem om513 {x0 : Nat}  : (x0 + 1) ≠ x0 := Ne.symm (Nat.ne_add_one x0)
theorem om514 {x0 : Nat}  : (x0 + 2) ≠ (x0 + 1) := Ne.symm (om255 rfl)
theorem om515 {x0 : Nat}  : (x0 + 2) ≠ (x0 + 3) := Nat.ne_add_one (x0 + 2)
theorem om516 {x0 : Nat}  : (x0 + 2) ≠ (x0 + 4) := by lia
theorem om517 {x0 : Nat}  : (x0 + 2) ≠ x0 := by lia
theorem om518 {x0 : Nat}  : (x0 + 3) ≠ (x0 + 1) := Ne.symm om511
theorem om519 {x0 : Nat}  : (x0 + 3) ≠ (x0 + 2) := om36 rfl
theorem om520 {x0 : Nat}  : (x0 + 3) ≠ (x0 + 4) := Ne.symm om513
theorem om521 {x0 : Nat}  : (x0 + 3) ≠ x0 := Ne.symm (om122 rfl)
theorem om522 {x0 : Nat}  : (x0 + 4) ≠ (x0 + 1) := by lia
theorem om523 {x0 : Nat}  : (x0 + 4) ≠ (x0 + 2) := Ne.symm om516
theorem om524 {x0 : Nat}  : (x0 + 4) ≠ (x0 + 3) := Ne.symm om510
theorem om525 {x0 : Nat}  : (x0 + 4) ≠ x0 := by lia
theorem om526 {x0 : Nat}  : (1 + x0) ≤ (x0 + 1) := by lia
theorem om527 {x0 : Nat}  : (x0 + 1) ≤ (x0 + 4) := by lia
theorem om528 {x0 : Nat}  : (x0 + 2) ≤ (x0 + 4) := by lia
theorem om529 {x0 : Nat}  : (x0 + 3) ≤ (x0 + 4) := Nat.le_succ (x0 + 3)
theorem om530 {x0 : Nat}  : (-(1 : Int)) ≤ (((x0 : Nat) : Int) - (1 : Int)) := Int.le.intro x0 rfl
theorem om531 {x0 : Nat}  : x0 ≤ (x0 + 0) := om265 rfl
theorem om532 {x0 : Nat}  : x0 ≤ (x0 + 2) := Nat.le_add_right x0 2
theorem om533 {x0 : Nat}  : x0 ≤ (x0 + 3) := Nat.le_add_right x0 3
theorem om534 {x0 : Nat}  : ¬ ((x0 + 1) < x0) := Nat.not_succ_lt_self
theorem om535 {x0 : Nat}  : ¬ (((0 < 0) ∧ (0 ≤ x0))) := of_decide_eq_false rfl
theorem om536 {x0 : Nat}  : ¬ (((0 < x0) ∧ (x0 ≤ 0))) := by lia
theorem om537 {x0 : Nat}  : (((1 : Int) < ((x0 : Nat) : Int)) ↔ (1 < x0)) := by lia
theorem om538 {x0 : Nat}  : ((((x0 : Nat) : Int) = (1 : Int)) ↔ (x0 = 1)) := by lia
theorem om539 {x0 : Nat}  : ((((x0 : Nat) : Int) = (3 : Int)) ↔ (x0 = 3)) := by lia
theorem om540 {x0 : Nat}  : ((((x0 : Nat) : Int) = (4 : Int)) ↔ (x0 = 4)) := by lia
theorem om541 {x0 : Nat}  : ((((x0 : Nat) : Int) = (8 : Int)) ↔ (x0 = 8)) := by lia
theorem om542 {x0 : Nat}  : ((x0 ≤ (x0 + 3)) ∧ ((x0 + 3) ≤ (x0 + 4))) := by lia
theorem om543  (a0 : 0 < 0) : False := Nat.not_succ_le_zero 0 a0
theorem om544  (a0 : 1 ≤ 0) : False := Nat.not_succ_le_zero 0 a0
theorem om545   : (0 : Int) < ((2 : Int) ^ 62) := Int.sign_eq_one_iff_pos.mp rfl
theorem om546   : (-(1 : Int)) < ((2 : Int) ^ 20) := Rat.intCast_lt_intCast.mp rfl
theorem om547   : 128 < 1000 := Nat.lt_of_sub_eq_succ rfl
theorem om548   : (0 : Int) ≤ (0 : Int) := Int.zero_le_ofNat 0
theorem om549   : (0 : Int) ≤ (64 : Int) := Int.zero_le_ofNat 64
theorem om550   : (-((2 : Int) ^ 62)) ≤ (0 : Int) := Int.neg_ofNat_le_ofNat (2 ^ 62) 0
theorem om551   : 0 ≤ 1 := Nat.zero_le 1
theorem om552   : 0 ≤ 6 := Nat.zero_le 6
theorem om553   : 6 ≤ 7 := Nat.le_of_ble_eq_true rfl
theorem om554 {x0 : Nat}  : ((x0 ≤ (x0 + 1)) ∧ ((x0 + 1) ≤ (x0 + 4))) := by lia
theorem om555 {x0 : Nat}  : ((x0 ≤ (x0 + 2)) ∧ ((x0 + 2) ≤ (x0 + 4))) := by lia
theorem om556 {x0 : Nat}  : ((x0 ≤ (x0 + 4)) ∧ ((x0 + 4) ≤ (x0 + 4))) := by lia
theorem om557 {x0 : Nat} {x1 : Nat} (a0 : x0 < x1) : ((x1 - 1) - x0) < x1 := by lia
theorem om558 {x0 : Nat} {x1 : Nat} {x2 : Nat} (a0 : x0 < x1) (a1 : x2 = x1) : ((x1 - 1) - x0) < x2 := by lia
theorem om559 {x0 : Nat} {x1 : Nat} {x2 : Nat} (a0 : (x0 - (x1 + 1)) ≤ x2) (a1 : ¬ ((x0 - x1) ≤ x2)) : x2 = ((x0 - 1) - x1) := by lia
theorem om560 {x0 : Nat} {x1 : Nat} {x2 : Nat} {x3 : Nat} (a0 : x0 < ((x1 - 1) - x2)) (a1 : x3 = x1) : x0 < x3 := by lia
theorem om561 {x0 : Nat} {x1 : Nat} {x2 : Nat} {x3 : Nat} {p0 : Prop} (a0 : (x0 - (x1 + 1)) ≤ x2) (a1 : x2 = x3) (a2 : x3 < ((x0 - 1) - x1)) : p0 := by lia
theorem om562 {x0 : Nat} {x1 : Nat} {x2 : Nat} (a0 : (x0 - (x1 + 1)) ≤ x2) (a1 : ¬ (x2 = ((x0 - 1) - x1))) : (x0 - x1) ≤ x2 := by lia
theorem om563 {x0 : Nat} {x1 : Nat} (a0 : ¬ (x0 = x1)) : ¬ (x1 = x0) := by lia
theorem om564 {x0 : Nat} {x1 : Nat} {x2 : Nat} (a0 : ((2 * x0) / 2) < x1) (a1 : x2 = x1) : x0 < x2 := by lia
theorem om565 {x0 : Nat} {x1 : Nat} (a0 : (x0 + 1) < x1) : (x0 + (0 + 1)) < x1 := by lia
theorem om566 {x0 : Nat} {x1 : Nat} (a0 : x0 ≤ x1) : (1 + (max x0 x1)) ≤ (x1 + 1) := by lia
theorem om567 {x0 : Nat} {x1 : Nat} (a0 : x0 ≤ x1) : (1 + (max x1 x0)) ≤ (x1 + 1) := by lia
theorem om568 {x0 : Nat} {x1 : Nat} (a0 : x0 ≤ x1) : (1 + x1) = (1 + (max x0 x1)) := by lia
theorem om569 {x0 : Nat} {x1 : Nat} (a0 : x0 ≤ x1) : (1 + x1) = (1 + (max x1 x0)) := by lia
theorem om570 {x0 : Nat}  : 1 ≤ (1 + x0) := by lia
theorem om571 {x0 : Nat}  : 1 ≤ (x0 + 1) := by lia
theorem om572 {x0 : Nat} {x1 : Nat} {x2 : Nat} {x3 : Nat} (a0 : x0 = (x1 + x2)) : (x3 + x0) = (x1 + (x3 + x2)) := by lia
theorem om573 {x0 : Nat} {x1 : Nat} {x2 : Nat} {x3 : Nat} (a0 : x0 = (x1 + x2)) : (x3 + x0) = ((x3 + x1) + x2) := by lia
theorem om574   : ¬ (0 > 300) := by lia
theorem om575 {x0 : Nat} (a0 : x0 < 10) : ¬ (((x0 / 30) + 1) > 300) := by lia
theorem om576 {x0 : Int} {x1 : Int} (a0 : (-(1 : Int)) ≤ x0) (a1 : (-(1 : Int)) ≤ x1) (a2 : x0 < ((2 : Int) ^ 20)) (a3 : x1 < ((2 : Int) ^ 20)) : (((((((((((-((2 : Int) ^ 63)) ≤ x0) ∧ (x0 < ((2 : Int) ^ 63)))) ∧ ((((-((2 : Int) ^ 63)) ≤ x1) ∧ (x1 < ((2 : Int) ^ 63)))))) ∧ ((((-((2 : Int) ^ 63)) ≤ (-(1 : Int))) ∧ ((-(1 : Int)) < ((2 : Int) ^ 63)))))) ∧ ((((-((2 : Int) ^ 63)) ≤ (x0 - x1)) ∧ ((x0 - x1) < ((2 : Int) ^ 63)))))) ∧ ((((x0 - x1) = (0 : Int)) ∨ ((((-((2 : Int) ^ 63)) ≤ (x1 + ((-(1 : Int)) + (1 : Int)))) ∧ ((x1 + ((-(1 : Int)) + (1 : Int))) < ((2 : Int) ^ 63))))))) := by lia
theorem om577 {x0 : Int} {x1 : Int} {x2 : Int} (a0 : (-(1 : Int)) ≤ x0) (a1 : (-(1 : Int)) ≤ x1) (a2 : x0 < ((2 : Int) ^ 20)) (a3 : x1 < ((2 : Int) ^ 20)) : (((((((((((-((2 : Int) ^ 63)) ≤ x0) ∧ (x0 < ((2 : Int) ^ 63)))) ∧ ((((-((2 : Int) ^ 63)) ≤ x1) ∧ (x1 < ((2 : Int) ^ 63)))))) ∧ ((((-((2 : Int) ^ 63)) ≤ (-(1 : Int))) ∧ ((-(1 : Int)) < ((2 : Int) ^ 63)))))) ∧ ((((-((2 : Int) ^ 63)) ≤ (0 : Int)) ∧ ((0 : Int) < ((2 : Int) ^ 63)))))) ∧ ((((0 : Int) = (0 : Int)) ∨ ((((-((2 : Int) ^ 63)) ≤ x2) ∧ (x2 < ((2 : Int) ^ 63))))))) := by lia
end Mine
end

-- part Mini
section
set_option Elab.async false
namespace Mine

/-- values -/
inductive V where
  | none
  | bool (b : Bool)
  | int (i : Int)
  | ref (n : Nat)
  | obj (n : Nat)
  | pair (a b : V)
  | ext (xs : List Int)
  deriving DecidableEq, Inhabited

/-- objects that the call made and may turn -/
inductive O where
  | list (xs : List V)
  | attrs (vs : List V)
  | dict (es : List ((Int × Int) × Int))
  | set (es : List Int)

structure St where
  loc : List (Option V)
  heap : List O

noncomputable def St.get (st : St) (i : Nat) : Option V := (st.loc[i]?).join
noncomputable def St.put (st : St) (i : Nat) (v : V) : St := ⟨st.loc.set i (some v), st.heap⟩

inductive Bop where
  | add | sub | mul | mod | fdiv | shl | shr | and | or | xor | pow
inductive Cop where
  | lt | le | gt | ge | eq | ne

noncomputable def binI : Bop → Int → Int → Option Int
  | .add, a, b => some (a + b)
  | .sub, a, b => some (a - b)
  | .mul, a, b => if a.natAbs < 2 ^ 62 then some (a * b) else .none
  | .mod, a, b => if 0 < b then some (a % b) else .none
  | .fdiv, a, b => if 0 < b ∧ a.natAbs < 10 ^ 100 ∧ b < 1000 then some (a / b) else .none
  | .shl, a, n => if 0 ≤ n ∧ n ≤ 1000 ∧ a.natAbs < 2 ^ 1000 then some (a * 2 ^ n.toNat) else .none
  | .shr, a, n => if 0 ≤ n then some (a / 2 ^ n.toNat) else .none
  | .and, a, b => if 0 ≤ a ∧ 0 ≤ b then some ((a.toNat &&& b.toNat : Nat) : Int) else .none
  | .or, a, b => if 0 ≤ a ∧ 0 ≤ b then some ((a.toNat ||| b.toNat : Nat) : Int) else .none
  | .xor, a, b => if 0 ≤ a ∧ 0 ≤ b then some ((a.toNat ^^^ b.toNat : Nat) : Int) else .none
  | .pow, a, n => if 0 ≤ n ∧ n ≤ 1000 ∧ a.natAbs < 2 ^ 64 then some (a ^ n.toNat) else .none

noncomputable def cmpI : Cop → Int → Int → Bool
  | .lt, a, b => decide (a < b)
  | .le, a, b => decide (a ≤ b)
  | .gt, a, b => decide (b < a)
  | .ge, a, b => decide (b ≤ a)
  | .eq, a, b => decide (a = b)
  | .ne, a, b => !decide (a = b)

abbrev Hp := List O
noncomputable def lim : Nat := 2 ^ 20

/-- plain items of a list that may be compared -/
noncomputable def V.flat : V → Bool
  | .none => true
  | .int _ => true
  | .pair (.int _) (.int _) => true
  | _ => false

noncomputable def listV (H : Hp) : V → Option (List V)
  | .ref n => match H[n]? with
    | some (.list xs) => some xs
    | _ => .none
  | .ext xs => some (xs.map .int)
  | _ => .none
noncomputable def binV : Bop → V → V → Option V
  | op, .int a, .int b => (binI op a b).map .int
  | _, _, _ => .none
noncomputable def cmpV (H : Hp) : Cop → V → V → Option Bool
  | op, .int a, .int b => some (cmpI op a b)
  | .le, .pair (.int a) (.int b), .pair (.int c) (.int d) => some (decide (a < c ∨ (a = c ∧ b ≤ d)))
  | .ne, .ref m, .ref n => match H[m]?, H[n]? with
    | some (.list xs), some (.list ys) => if xs.all V.flat && ys.all V.flat && decide (xs.length < lim) && decide (ys.length < lim) then some (!decide (xs = ys)) else .none
    | _, _ => .none
  | _, _, _ => .none
noncomputable def attrV (H : Hp) : V → Nat → Option V
  | .obj n, k => match H[n]? with
    | some (.attrs vs) => vs[k]?
    | _ => .none
  | _, _ => .none
noncomputable def subV (H : Hp) : V → V → Option V
  | .ref n, .int k => match H[n]? with
    | some (.list xs) => if 0 ≤ k ∧ xs.length < lim then xs[k.toNat]? else .none
    | _ => .none
  | .pair a b, .int k => if k = 0 then some a else if k = 1 then some b else .none
  | _, _ => .none
noncomputable def lenV (H : Hp) : V → Option Nat
  | .ref n => match H[n]? with
    | some (.list xs) => if xs.length < lim then some xs.length else .none
    | some (.set es) => if es.length < lim then some es.length else .none
    | _ => .none
  | _ => .none
noncomputable def truthV (H : Hp) : V → Option Bool
  | .bool b => some b
  | .ref n => match H[n]? with
    | some (.list xs) => if xs.length < lim then some (!xs.isEmpty) else .none
    | _ => .none
  | _ => .none
noncomputable def dictPut (k : Int × Int) (v : Int) : List ((Int × Int) × Int) → List ((Int × Int) × Int)
  | [] => [(k, v)]
  | e :: es => if e.1 = k then (k, v) :: es else e :: dictPut k v es
noncomputable def setV (H : Hp) : V → V → V → Option Hp
  | .ref n, .int k, v => match H[n]? with
    | some (.list xs) => if 0 ≤ k ∧ k.toNat < xs.length ∧ xs.length < lim then some (H.set n (.list (xs.set k.toNat v))) else .none
    | _ => .none
  | .ref n, .pair (.int a) (.int b), .int v => match H[n]? with
    | some (.dict es) => if es.length < lim ∧ (es.lookup (a, b)).isNone then some (H.set n (.dict (es ++ [((a, b), v)]))) else .none
    | _ => .none
  | _, _, _ => .none
noncomputable def appendV (H : Hp) : V → V → Option Hp
  | .ref n, v => match H[n]? with
    | some (.list xs) => if xs.length < lim then some (H.set n (.list (xs ++ [v]))) else .none
    | _ => .none
  | _, _ => .none
noncomputable def popV (H : Hp) : V → Option (V × Hp)
  | .ref n => match H[n]? with
    | some (.list xs) => if xs.length < lim then xs.getLast?.map fun v => (v, H.set n (.list xs.dropLast)) else .none
    | _ => .none
  | _ => .none
noncomputable def popAtV (H : Hp) : V → V → Option (V × Hp)
  | .ref n, .int k => match H[n]? with
    | some (.list xs) => if 0 ≤ k ∧ xs.length < lim then xs[k.toNat]?.map fun v => (v, H.set n (.list (xs.eraseIdx k.toNat))) else .none
    | _ => .none
  | _, _ => .none
noncomputable def insertV (H : Hp) : V → V → V → Option Hp
  | .ref n, .int k, v => match H[n]? with
    | some (.list xs) => if 0 ≤ k ∧ k.toNat ≤ xs.length ∧ xs.length < lim then some (H.set n (.list (xs.take k.toNat ++ v :: xs.drop k.toNat))) else .none
    | _ => .none
  | _, _, _ => .none
noncomputable def addV (H : Hp) : V → V → Option Hp
  | .ref n, .int i => match H[n]? with
    | some (.set es) => if es.length < 100 ∧ 0 ≤ i ∧ i < 1000 then some (H.set n (.set (if i ∈ es then es else es ++ [i]))) else .none
    | _ => .none
  | _, _ => .none
noncomputable def notInV (H : Hp) : V → V → Option Bool
  | .int i, .ref n => match H[n]? with
    | some (.set es) => if 0 ≤ i ∧ i < 1000 then some (!decide (i ∈ es)) else .none
    | _ => .none
  | _, _ => .none
noncomputable def getV (H : Hp) : V → V → V → Option V
  | .ref n, .pair (.int a) (.int b), d => match H[n]? with
    | some (.dict es) => some (match es.lookup (a, b) with | some v => .int v | .none => d)
    | _ => .none
  | _, _, _ => .none
noncomputable def intsOf : List V → Option (List Int)
  | [] => some []
  | .int i :: vs => (intsOf vs).map (i :: ·)
  | _ :: _ => .none
noncomputable def replV (H : Hp) : V → V → Option (List V)
  | .ref n, .int k => match H[n]? with
    | some (.list [x]) => if 0 ≤ k ∧ k.toNat < lim then some (List.replicate k.toNat x) else .none
    | _ => .none
  | _, _ => .none
noncomputable def setAttrV (H : Hp) : V → Nat → V → Option Hp
  | .obj n, k, v => match H[n]? with
    | some (.attrs vs) => if vs.length = k then some (H.set n (.attrs (vs ++ [v]))) else .none
    | _ => .none
  | _, _, _ => .none
noncomputable def isL (H : Hp) (v : V) : Prop := ∃ n xs, v = .ref n ∧ H[n]? = some (.list xs)
noncomputable def isS (H : Hp) (v : V) : Prop := ∃ n es, v = .ref n ∧ H[n]? = some (.set es)
noncomputable def isD (H : Hp) (v : V) : Prop := ∃ n es, v = .ref n ∧ H[n]? = some (.dict es)
noncomputable def isO (H : Hp) (v : V) : Prop := ∃ n vs, v = .obj n ∧ H[n]? = some (.attrs vs)
noncomputable def rangeUp (a b : Int) : List V := (List.range (b - a).toNat).map fun (k : Nat) => .int (a + k)
noncomputable def rangeDown (a b : Int) : List V := (List.range (a - b).toNat).map fun (k : Nat) => .int (a - k)

mutual
inductive ME where
  | var (i : Nat)
  | none
  | bool (b : Bool)
  | int (i : Int)
  | attr (e : ME) (k : Nat)
  | sub (e i : ME)
  | bin (op : Bop) (a b : ME)
  | repl (a b : ME)
  | cmp (op : Cop) (a b : ME)
  | pair (a b : ME)
  | list0
  | list1 (a : ME)
  | list2 (a b : ME)
  | list3 (a b c : ME)
  | dict0
  | set0
  | len (e : ME)
  | toInt (e : ME)
  | copy (e : ME)
  | max1 (e : ME)
  | max2 (a b : ME)
  | bitlen (e : ME)
  | slice (e : ME) (n : Nat)
  | ite (c : MC) (a b : ME)
  | and (a b : ME)
  | call0 (f : Nat)
  | call1 (f : Nat) (a : ME)
  | call2 (f : Nat) (a b : ME)
  | call3 (f : Nat) (a b c : ME)
  | mcall0 (f : Nat) (o : ME)
  | mcall1 (f : Nat) (o a : ME)
  | mcall2 (f : Nat) (o a b : ME)
  | new
  | append (l x : ME)
  | pop (l : ME)
  | popAt (l i : ME)
  | insert (l i x : ME)
  | add (s x : ME)
  | get (d k x : ME)
inductive MC where
  | cmp (op : Cop) (a b : ME)
  | chain (a b c d : ME)
  | isNone (e : ME)
  | notNone (e : ME)
  | notIn (e s : ME)
  | and (a b : MC)
  | or (a b : MC)
  | not (c : MC)
  | truth (e : ME)
end

inductive MI where
  | seq (e : ME)
  | range1 (a : ME)
  | range2 (a b : ME)
  | rangeD (a b : ME)

mutual
inductive MS where
  | assign (x : Nat) (e : ME)
  | comp (x : Nat) (g : Int → Int) (src : ME)
  | setSub (o i e : ME)
  | setAttr (o : ME) (k : Nat) (e : ME)
  | unpack (x y : Nat) (e : ME)
  | aug (x : Nat) (op : Bop) (e : ME)
  | augSub (o i : ME) (op : Bop) (e : ME)
  | expr (e : ME)
  | ite (c : MC) (a b : MB)
  | while (c : MC) (b : MB)
  | for (x : Nat) (it : MI) (b : MB)
  | ret (e : ME)
  | cont
inductive MB where
  | nil
  | cons (s : MS) (b : MB)
end

inductive Fl where
  | next | cont
  | ret (v : V)

/-- what a call by number does: arguments, heap, what is wanted of the value and the heap -/
abbrev Calls := Nat → List V → Hp → (V → Hp → Prop) → Prop

noncomputable def alloc (o : O) (st : St) (Q : V → St → Prop) : Prop := Q (.ref st.heap.length) ⟨st.loc, st.heap ++ [o]⟩
noncomputable def may {α : Type} (o : Option α) (Q : α → Prop) : Prop := match o with
  | some a => Q a
  | .none => False
theorem may_ex {α : Type} {o : Option α} {Q : α → Prop} (h : may o Q) : ∃ a, o = some a ∧ Q a := match o, h with
  | some a, h => ⟨a, rfl, h⟩
theorem may_of {α : Type} {o : Option α} {a : α} {Q : α → Prop} (e : o = some a) (h : Q a) : may o Q := by rw [e]; exact h

/-- the index of the class's __init__ -/
noncomputable def fInit : Nat := 0

mutual
noncomputable def wpE (Φ : Calls) : ME → St → (V → St → Prop) → Prop
  | .var i, st, Q => may (st.get i) fun v => Q v st
  | .none, st, Q => Q .none st
  | .bool b, st, Q => Q (.bool b) st
  | .int i, st, Q => Q (.int i) st
  | .attr e k, st, Q => wpE Φ e st fun v st => may (attrV st.heap v k) fun w => Q w st
  | .sub e i, st, Q => wpE Φ e st fun v st => wpE Φ i st fun k st => may (subV st.heap v k) fun w => Q w st
  | .bin op a b, st, Q => wpE Φ a st fun x st => wpE Φ b st fun y st => may (binV op x y) fun w => Q w st
  | .repl a b, st, Q => wpE Φ a st fun x st => wpE Φ b st fun y st => may (replV st.heap x y) fun xs => alloc (.list xs) st Q
  | .cmp op a b, st, Q => wpE Φ a st fun x st => wpE Φ b st fun y st => may (cmpV st.heap op x y) fun w => Q (.bool w) st
  | .pair a b, st, Q => wpE Φ a st fun x st => wpE Φ b st fun y st => Q (.pair x y) st
  | .list0, st, Q => alloc (.list []) st Q
  | .list1 a, st, Q => wpE Φ a st fun x st => alloc (.list [x]) st Q
  | .list2 a b, st, Q => wpE Φ a st fun x st => wpE Φ b st fun y st => alloc (.list [x, y]) st Q
  | .list3 a b c, st, Q => wpE Φ a st fun x st => wpE Φ b st fun y st => wpE Φ c st fun z st => alloc (.list [x, y, z]) st Q
  | .dict0, st, Q => alloc (.dict []) st Q
  | .set0, st, Q => alloc (.set []) st Q
  | .len e, st, Q => wpE Φ e st fun v st => may (lenV st.heap v) fun n => Q (.int n) st
  | .toInt e, st, Q => wpE Φ e st fun v st => ∃ i, v = .int i ∧ Q (.int i) st
  | .copy e, st, Q => wpE Φ e st fun v st => may (listV st.heap v) fun xs => xs.length < lim ∧ alloc (.list xs) st Q
  | .max1 e, st, Q => wpE Φ e st fun v st => may (listV st.heap v) fun xs => may (intsOf xs) fun is => is ≠ [] ∧ is.length < lim ∧ ∀ i, i ∈ is → (∀ j, j ∈ is → j ≤ i) → Q (.int i) st
  | .max2 a b, st, Q => wpE Φ a st fun x st => wpE Φ b st fun y st => ∃ i j, x = .int i ∧ y = .int j ∧ Q (.int (if j > i then j else i)) st
  | .bitlen e, st, Q => wpE Φ e st fun v st => ∃ i, v = .int i ∧ 0 ≤ i ∧ Q (.int (if i = 0 then 0 else (i.toNat.log2 + 1 : Nat))) st
  | .slice e n, st, Q => wpE Φ e st fun v st => may (listV st.heap v) fun xs => xs.length < lim ∧ n < lim ∧ alloc (.list (xs.take n)) st Q
  | .ite c a b, st, Q => wpC Φ c st fun t st => if t then wpE Φ a st Q else wpE Φ b st Q
  | .and a b, st, Q => wpE Φ a st fun v st => ∃ t, v = .bool t ∧ if t then wpE Φ b st Q else Q v st
  | .call0 f, st, Q => Φ f [] st.heap fun v h => Q v ⟨st.loc, h⟩
  | .call1 f a, st, Q => wpE Φ a st fun x st => Φ f [x] st.heap fun v h => Q v ⟨st.loc, h⟩
  | .call2 f a b, st, Q => wpE Φ a st fun x st => wpE Φ b st fun y st => Φ f [x, y] st.heap fun v h => Q v ⟨st.loc, h⟩
  | .call3 f a b c, st, Q => wpE Φ a st fun x st => wpE Φ b st fun y st => wpE Φ c st fun z st => Φ f [x, y, z] st.heap fun v h => Q v ⟨st.loc, h⟩
  | .mcall0 f o, st, Q => wpE Φ o st fun x st => isO st.heap x ∧ Φ f [x] st.heap fun v h => Q v ⟨st.loc, h⟩
  | .mcall1 f o a, st, Q => wpE Φ o st fun x st => isO st.heap x ∧ wpE Φ a st fun y st => Φ f [x, y] st.heap fun v h => Q v ⟨st.loc, h⟩
  | .mcall2 f o a b, st, Q => wpE Φ o st fun x st => isO st.heap x ∧ wpE Φ a st fun y st => wpE Φ b st fun z st => Φ f [x, y, z] st.heap fun v h => Q v ⟨st.loc, h⟩
  | .new, st, Q => Φ fInit [.obj st.heap.length] (st.heap ++ [.attrs []]) fun v h => v = .none ∧ Q (.obj st.heap.length) ⟨st.loc, h⟩
  | .append l x, st, Q => wpE Φ l st fun v st => isL st.heap v ∧ wpE Φ x st fun w st => may (appendV st.heap v w) fun h => Q .none ⟨st.loc, h⟩
  | .pop l, st, Q => wpE Φ l st fun v st => may (popV st.heap v) fun r => Q r.1 ⟨st.loc, r.2⟩
  | .popAt l i, st, Q => wpE Φ l st fun v st => isL st.heap v ∧ wpE Φ i st fun k st => may (popAtV st.heap v k) fun r => Q r.1 ⟨st.loc, r.2⟩
  | .insert l i x, st, Q => wpE Φ l st fun v st => isL st.heap v ∧ wpE Φ i st fun k st => wpE Φ x st fun w st => may (insertV st.heap v k w) fun h => Q .none ⟨st.loc, h⟩
  | .add s x, st, Q => wpE Φ s st fun v st => isS st.heap v ∧ wpE Φ x st fun w st => may (addV st.heap v w) fun h => Q .none ⟨st.loc, h⟩
  | .get d k x, st, Q => wpE Φ d st fun v st => isD st.heap v ∧ wpE Φ k st fun kv st => wpE Φ x st fun w st => may (getV st.heap v kv w) fun r => Q r st
noncomputable def wpC (Φ : Calls) : MC → St → (Bool → St → Prop) → Prop
  | .cmp op a b, st, Q => wpE Φ a st fun x st => wpE Φ b st fun y st => may (cmpV st.heap op x y) fun t => Q t st
  | .chain a b c d, st, Q => wpE Φ a st fun x st => wpE Φ b st fun y st => may (cmpV st.heap .lt x y) fun t => if t then
      (wpE Φ c st fun z st => may (cmpV st.heap .lt y z) fun t => if t then (wpE Φ d st fun u st => may (cmpV st.heap .lt z u) fun t => Q t st) else Q false st) else Q false st
  | .isNone e, st, Q => wpE Φ e st fun v st => Q (decide (v = .none)) st
  | .notNone e, st, Q => wpE Φ e st fun v st => Q (!decide (v = .none)) st
  | .notIn e s, st, Q => wpE Φ e st fun v st => wpE Φ s st fun w st => may (notInV st.heap v w) fun t => Q t st
  | .and a b, st, Q => wpC Φ a st fun t st => if t then wpC Φ b st Q else Q false st
  | .or a b, st, Q => wpC Φ a st fun t st => if t then Q true st else wpC Φ b st Q
  | .not c, st, Q => wpC Φ c st fun t st => Q (!t) st
  | .truth e, st, Q => wpE Φ e st fun v st => may (truthV st.heap v) fun t => Q t st
end

noncomputable def wpFor (chk : St → Prop) (x : Nat) (body : St → (Fl → St → Prop) → Prop) : List V → St → (Fl → St → Prop) → Prop
  | [], st, Q => chk st ∧ Q .next st
  | v :: vs, st, Q => chk st ∧ body (st.put x v) fun f st => match f with
      | .next => wpFor chk x body vs st Q
      | .cont => wpFor chk x body vs st Q
      | .ret r => Q (.ret r) st
noncomputable def wpWhile (c : St → (Bool → St → Prop) → Prop) (body : St → (Fl → St → Prop) → Prop) : Nat → St → (Fl → St → Prop) → Prop
  | 0, _, _ => False
  | n + 1, st, Q => c st fun t st => if t then body st (fun f st => match f with
      | .next => wpWhile c body n st Q
      | .cont => wpWhile c body n st Q
      | .ret r => Q (.ret r) st) else Q .next st
noncomputable def wpI (Φ : Calls) : MI → St → ((St → Prop) → List V → St → Prop) → Prop
  | .seq e, st, Q => wpE Φ e st fun v st => match v with
      | .ref n => ∃ xs, st.heap[n]? = some (.list xs) ∧ xs.length < lim ∧ Q (fun st => st.heap[n]? = some (.list xs)) xs st
      | .pair a b => Q (fun _ => True) [a, b] st
      | _ => False
  | .range1 a, st, Q => wpE Φ a st fun x st => ∃ n, x = .int n ∧ -1 ≤ n ∧ n < 2 ^ 20 ∧ Q (fun _ => True) (rangeUp 0 n) st
  | .range2 a b, st, Q => wpE Φ a st fun x st => wpE Φ b st fun y st => ∃ m n, x = .int m ∧ y = .int n ∧ 0 ≤ m ∧ m < 2 ^ 20 ∧ -1 ≤ n ∧ n < 2 ^ 20 ∧ Q (fun _ => True) (rangeUp m n) st
  | .rangeD a b, st, Q => wpE Φ a st fun x st => wpE Φ b st fun y st => ∃ m n, x = .int m ∧ y = .int n ∧ -1 ≤ m ∧ m < 2 ^ 20 ∧ -1 ≤ n ∧ n < 2 ^ 20 ∧ Q (fun _ => True) (rangeDown m n) st

mutual
noncomputable def wpS (Φ : Calls) : MS → St → (Fl → St → Prop) → Prop
  | .assign x e, st, Q => wpE Φ e st fun v st => Q .next (st.put x v)
  | .comp x g src, st, Q => wpE Φ src st fun v st => ∃ (n : Nat) (is : List Int), v = .ref n ∧ st.heap[n]? = some (.list (is.map .int)) ∧ is.length < lim ∧ Q .next (St.put ⟨st.loc, st.heap ++ [.list (is.map fun i => .int (g i))]⟩ x (.ref st.heap.length))
  | .setSub o i e, st, Q => wpE Φ e st fun v st => wpE Φ o st fun ov st => wpE Φ i st fun k st => may (setV st.heap ov k v) fun h => Q .next ⟨st.loc, h⟩
  | .setAttr o k e, st, Q => wpE Φ e st fun v st => wpE Φ o st fun ov st => may (setAttrV st.heap ov k v) fun h => Q .next ⟨st.loc, h⟩
  | .unpack x y e, st, Q => wpE Φ e st fun v st => ∃ a b, v = .pair a b ∧ x ≠ y ∧ Q .next ((st.put x a).put y b)
  | .aug x op e, st, Q => may (st.get x) fun a => wpE Φ e st fun b st => may (binV op a b) fun c => Q .next (st.put x c)
  | .augSub o i op e, st, Q => wpE Φ o st fun ov st => wpE Φ i st fun k st => ∃ n, ov = .ref n ∧ may (subV st.heap ov k) fun a => wpE Φ e st fun b st => may (binV op a b) fun c => may (setV st.heap ov k c) fun h => Q .next ⟨st.loc, h⟩
  | .expr e, st, Q => wpE Φ e st fun v st => v = .none ∧ Q .next st
  | .ite c a b, st, Q => wpC Φ c st fun t st => if t then wpB Φ a st Q else wpB Φ b st Q
  | .while c b, st, Q => ∃ n, wpWhile (fun st Q => wpC Φ c st Q) (fun st Q => wpB Φ b st Q) n st Q
  | .for x it b, st, Q => wpI Φ it st fun chk vs st => wpFor chk x (fun st Q => wpB Φ b st Q) vs st Q
  | .ret e, st, Q => wpE Φ e st fun v st => Q (.ret v) st
  | .cont, st, Q => Q .cont st
noncomputable def wpB (Φ : Calls) : MB → St → (Fl → St → Prop) → Prop
  | .nil, st, Q => Q .next st
  | .cons s b, st, Q => wpS Φ s st fun f st => match f with
      | .next => wpB Φ b st Q
      | .cont => Q .cont st
      | .ret v => Q (.ret v) st
end

structure Def where
  np : Nat
  nl : Nat
  body : MB

/-- the value that a body's end hands back -/
noncomputable def Fl.val : Fl → Option V
  | .next => some .none
  | .cont => .none
  | .ret v => some v

/-- a call, at most d deep -/
noncomputable def wpCall (defs : Nat → Option Def) : Nat → Calls
  | 0 => fun _ _ _ _ => False
  | d + 1 => fun f args H Q => ∃ D, defs f = some D ∧ args.length = D.np ∧
      wpB (wpCall defs d) D.body ⟨args.map some ++ List.replicate (D.nl - D.np) .none, H⟩ fun fl st => may fl.val fun v => Q v st.heap

-- the rules of the expressions, each true by its making
theorem zE0 : wpE Φ (.var i) st Q = (may (st.get i) fun v => Q v st) := rfl
theorem zE1 : wpE Φ .none st Q = (Q .none st) := rfl
theorem zE2 : wpE Φ (.bool b) st Q = (Q (.bool b) st) := rfl
theorem zE3 : wpE Φ (.int i) st Q = (Q (.int i) st) := rfl
theorem zE4 : wpE Φ (.attr e k) st Q = (wpE Φ e st fun v st => may (attrV st.heap v k) fun w => Q w st) := rfl
theorem zE5 : wpE Φ (.sub e i) st Q = (wpE Φ e st fun v st => wpE Φ i st fun k st => may (subV st.heap v k) fun w => Q w st) := rfl
theorem zE6 : wpE Φ (.bin op a b) st Q = (wpE Φ a st fun x st => wpE Φ b st fun y st => may (binV op x y) fun w => Q w st) := rfl
theorem zE7 : wpE Φ (.repl a b) st Q = (wpE Φ a st fun x st => wpE Φ b st fun y st => may (replV st.heap x y) fun xs => alloc (.list xs) st Q) := rfl
theorem zE8 : wpE Φ (.cmp op a b) st Q = (wpE Φ a st fun x st => wpE Φ b st fun y st => may (cmpV st.heap op x y) fun w => Q (.bool w) st) := rfl
theorem zE9 : wpE Φ (.pair a b) st Q = (wpE Φ a st fun x st => wpE Φ b st fun y st => Q (.pair x y) st) := rfl
theorem zE10 : wpE Φ .list0 st Q = (alloc (.list []) st Q) := rfl
theorem zE11 : wpE Φ (.list1 a) st Q = (wpE Φ a st fun x st => alloc (.list [x]) st Q) := rfl
theorem zE12 : wpE Φ (.list2 a b) st Q = (wpE Φ a st fun x st => wpE Φ b st fun y st => alloc (.list [x, y]) st Q) := rfl
theorem zE13 : wpE Φ (.list3 a b c) st Q = (wpE Φ a st fun x st => wpE Φ b st fun y st => wpE Φ c st fun z st => alloc (.list [x, y, z]) st Q) := rfl
theorem zE14 : wpE Φ .dict0 st Q = (alloc (.dict []) st Q) := rfl
theorem zE15 : wpE Φ .set0 st Q = (alloc (.set []) st Q) := rfl
theorem zE16 : wpE Φ (.len e) st Q = (wpE Φ e st fun v st => may (lenV st.heap v) fun n => Q (.int n) st) := rfl
theorem zE17 : wpE Φ (.toInt e) st Q = (wpE Φ e st fun v st => ∃ i, v = .int i ∧ Q (.int i) st) := rfl
theorem zE18 : wpE Φ (.copy e) st Q = (wpE Φ e st fun v st => may (listV st.heap v) fun xs => xs.length < lim ∧ alloc (.list xs) st Q) := rfl
theorem zE19 : wpE Φ (.max1 e) st Q = (wpE Φ e st fun v st => may (listV st.heap v) fun xs => may (intsOf xs) fun is => is ≠ [] ∧ is.length < lim ∧ ∀ i, i ∈ is → (∀ j, j ∈ is → j ≤ i) → Q (.int i) st) := rfl
theorem zE20 : wpE Φ (.max2 a b) st Q = (wpE Φ a st fun x st => wpE Φ b st fun y st => ∃ i j, x = .int i ∧ y = .int j ∧ Q (.int (if j > i then j else i)) st) := rfl
theorem zE21 : wpE Φ (.bitlen e) st Q = (wpE Φ e st fun v st => ∃ i, v = .int i ∧ 0 ≤ i ∧ Q (.int (if i = 0 then 0 else (i.toNat.log2 + 1 : Nat))) st) := rfl
theorem zE22 : wpE Φ (.slice e n) st Q = (wpE Φ e st fun v st => may (listV st.heap v) fun xs => xs.length < lim ∧ n < lim ∧ alloc (.list (xs.take n)) st Q) := rfl
theorem zE23 : wpE Φ (.ite c a b) st Q = (wpC Φ c st fun t st => if t then wpE Φ a st Q else wpE Φ b st Q) := rfl
theorem zE24 : wpE Φ (.and a b) st Q = (wpE Φ a st fun v st => ∃ t, v = .bool t ∧ if t then wpE Φ b st Q else Q v st) := rfl
theorem zE25 : wpE Φ (.call0 f) st Q = (Φ f [] st.heap fun v h => Q v ⟨st.loc, h⟩) := rfl
theorem zE26 : wpE Φ (.call1 f a) st Q = (wpE Φ a st fun x st => Φ f [x] st.heap fun v h => Q v ⟨st.loc, h⟩) := rfl
theorem zE27 : wpE Φ (.call2 f a b) st Q = (wpE Φ a st fun x st => wpE Φ b st fun y st => Φ f [x, y] st.heap fun v h => Q v ⟨st.loc, h⟩) := rfl
theorem zE28 : wpE Φ (.call3 f a b c) st Q = (wpE Φ a st fun x st => wpE Φ b st fun y st => wpE Φ c st fun z st => Φ f [x, y, z] st.heap fun v h => Q v ⟨st.loc, h⟩) := rfl
theorem zE29 : wpE Φ (.mcall0 f o) st Q = (wpE Φ o st fun x st => isO st.heap x ∧ Φ f [x] st.heap fun v h => Q v ⟨st.loc, h⟩) := rfl
theorem zE30 : wpE Φ (.mcall1 f o a) st Q = (wpE Φ o st fun x st => isO st.heap x ∧ wpE Φ a st fun y st => Φ f [x, y] st.heap fun v h => Q v ⟨st.loc, h⟩) := rfl
theorem zE31 : wpE Φ (.mcall2 f o a b) st Q = (wpE Φ o st fun x st => isO st.heap x ∧ wpE Φ a st fun y st => wpE Φ b st fun z st => Φ f [x, y, z] st.heap fun v h => Q v ⟨st.loc, h⟩) := rfl
theorem zE32 : wpE Φ .new st Q = (Φ fInit [.obj st.heap.length] (st.heap ++ [.attrs []]) fun v h => v = .none ∧ Q (.obj st.heap.length) ⟨st.loc, h⟩) := rfl
theorem zE33 : wpE Φ (.append l x) st Q = (wpE Φ l st fun v st => isL st.heap v ∧ wpE Φ x st fun w st => may (appendV st.heap v w) fun h => Q .none ⟨st.loc, h⟩) := rfl
theorem zE34 : wpE Φ (.pop l) st Q = (wpE Φ l st fun v st => may (popV st.heap v) fun r => Q r.1 ⟨st.loc, r.2⟩) := rfl
theorem zE35 : wpE Φ (.popAt l i) st Q = (wpE Φ l st fun v st => isL st.heap v ∧ wpE Φ i st fun k st => may (popAtV st.heap v k) fun r => Q r.1 ⟨st.loc, r.2⟩) := rfl
theorem zE36 : wpE Φ (.insert l i x) st Q = (wpE Φ l st fun v st => isL st.heap v ∧ wpE Φ i st fun k st => wpE Φ x st fun w st => may (insertV st.heap v k w) fun h => Q .none ⟨st.loc, h⟩) := rfl
theorem zE37 : wpE Φ (.add s x) st Q = (wpE Φ s st fun v st => isS st.heap v ∧ wpE Φ x st fun w st => may (addV st.heap v w) fun h => Q .none ⟨st.loc, h⟩) := rfl
theorem zE38 : wpE Φ (.get d k x) st Q = (wpE Φ d st fun v st => isD st.heap v ∧ wpE Φ k st fun kv st => wpE Φ x st fun w st => may (getV st.heap v kv w) fun r => Q r st) := rfl
theorem zC0 : wpC Φ (.cmp op a b) st Q = (wpE Φ a st fun x st => wpE Φ b st fun y st => may (cmpV st.heap op x y) fun t => Q t st) := rfl
theorem zC1 : wpC Φ (.chain a b c d) st Q = (wpE Φ a st fun x st => wpE Φ b st fun y st => may (cmpV st.heap .lt x y) fun t => if t then (wpE Φ c st fun z st => may (cmpV st.heap .lt y z) fun t => if t then (wpE Φ d st fun u st => may (cmpV st.heap .lt z u) fun t => Q t st) else Q false st) else Q false st) := rfl
theorem zC2 : wpC Φ (.isNone e) st Q = (wpE Φ e st fun v st => Q (decide (v = .none)) st) := rfl
theorem zC3 : wpC Φ (.notNone e) st Q = (wpE Φ e st fun v st => Q (!decide (v = .none)) st) := rfl
theorem zC4 : wpC Φ (.notIn e s) st Q = (wpE Φ e st fun v st => wpE Φ s st fun w st => may (notInV st.heap v w) fun t => Q t st) := rfl
theorem zC5 : wpC Φ (.and a b) st Q = (wpC Φ a st fun t st => if t then wpC Φ b st Q else Q false st) := rfl
theorem zC6 : wpC Φ (.or a b) st Q = (wpC Φ a st fun t st => if t then Q true st else wpC Φ b st Q) := rfl
theorem zC7 : wpC Φ (.not c) st Q = (wpC Φ c st fun t st => Q (!t) st) := rfl
theorem zC8 : wpC Φ (.truth e) st Q = (wpE Φ e st fun v st => may (truthV st.heap v) fun t => Q t st) := rfl
-- ∃ and ∧ of many, at once: their terms are shorter than chains
inductive Ex2 {α β : Type} (p : α → β → Prop) : Prop | intro (a : α) (b : β) (h : p a b) : Ex2 p
inductive Ex3 {α β γ : Type} (p : α → β → γ → Prop) : Prop | intro (a : α) (b : β) (c : γ) (h : p a b c) : Ex3 p
inductive Ex4 {α β γ δ : Type} (p : α → β → γ → δ → Prop) : Prop | intro (a : α) (b : β) (c : γ) (d : δ) (h : p a b c d) : Ex4 p
inductive Ex5 {α β γ δ ε : Type} (p : α → β → γ → δ → ε → Prop) : Prop | intro (a : α) (b : β) (c : γ) (d : δ) (e : ε) (h : p a b c d e) : Ex5 p
inductive Ex6 {α β γ δ ε ζ : Type} (p : α → β → γ → δ → ε → ζ → Prop) : Prop | intro (a : α) (b : β) (c : γ) (d : δ) (e : ε) (f : ζ) (h : p a b c d e f) : Ex6 p
inductive Ex7 {α β γ δ ε ζ η : Type} (p : α → β → γ → δ → ε → ζ → η → Prop) : Prop | intro (a : α) (b : β) (c : γ) (d : δ) (e : ε) (f : ζ) (g : η) (h : p a b c d e f g) : Ex7 p
inductive Ex8 {α β γ δ ε ζ η θ : Type} (p : α → β → γ → δ → ε → ζ → η → θ → Prop) : Prop | intro (a : α) (b : β) (c : γ) (d : δ) (e : ε) (f : ζ) (g : η) (h : θ) (h : p a b c d e f g h) : Ex8 p
inductive Ex9 {α β γ δ ε ζ η θ ι : Type} (p : α → β → γ → δ → ε → ζ → η → θ → ι → Prop) : Prop | intro (a : α) (b : β) (c : γ) (d : δ) (e : ε) (f : ζ) (g : η) (h : θ) (i : ι) (h : p a b c d e f g h i) : Ex9 p
inductive An3 (a b c : Prop) : Prop | intro (a₁ : a) (b₁ : b) (c₁ : c) : An3 a b c
inductive An4 (a b c d : Prop) : Prop | intro (a₁ : a) (b₁ : b) (c₁ : c) (d₁ : d) : An4 a b c d
inductive An5 (a b c d e : Prop) : Prop | intro (a₁ : a) (b₁ : b) (c₁ : c) (d₁ : d) (e₁ : e) : An5 a b c d e
inductive An6 (a b c d e f : Prop) : Prop | intro (a₁ : a) (b₁ : b) (c₁ : c) (d₁ : d) (e₁ : e) (f₁ : f) : An6 a b c d e f
inductive An7 (a b c d e f g : Prop) : Prop | intro (a₁ : a) (b₁ : b) (c₁ : c) (d₁ : d) (e₁ : e) (f₁ : f) (g₁ : g) : An7 a b c d e f g
inductive An8 (a b c d e f g h : Prop) : Prop | intro (a₁ : a) (b₁ : b) (c₁ : c) (d₁ : d) (e₁ : e) (f₁ : f) (g₁ : g) (h₁ : h) : An8 a b c d e f g h
inductive An9 (a b c d e f g h i : Prop) : Prop | intro (a₁ : a) (b₁ : b) (c₁ : c) (d₁ : d) (e₁ : e) (f₁ : f) (g₁ : g) (h₁ : h) (i₁ : i) : An9 a b c d e f g h i
inductive An12 (a b c d e f g h i j k l : Prop) : Prop | intro (a₁ : a) (b₁ : b) (c₁ : c) (d₁ : d) (e₁ : e) (f₁ : f) (g₁ : g) (h₁ : h) (i₁ : i) (j₁ : j) (k₁ : k) (l₁ : l) : An12 a b c d e f g h i j k l
inductive An13 (a b c d e f g h i j k l m : Prop) : Prop | intro (a₁ : a) (b₁ : b) (c₁ : c) (d₁ : d) (e₁ : e) (f₁ : f) (g₁ : g) (h₁ : h) (i₁ : i) (j₁ : j) (k₁ : k) (l₁ : l) (m₁ : m) : An13 a b c d e f g h i j k l m
inductive An10 (a b c d e f g h i j : Prop) : Prop | intro (a₁ : a) (b₁ : b) (c₁ : c) (d₁ : d) (e₁ : e) (f₁ : f) (g₁ : g) (h₁ : h) (i₁ : i) (j₁ : j) : An10 a b c d e f g h i j
end Mine
end

-- part S1
section
open PySem PySem.W PyProof.Rows
set_option Elab.async false
set_option linter.unusedVariables false
namespace Mine

inductive All2 {α β : Type} (R : α → β → Prop) : List α → List β → Prop
  | nil : All2 R [] []
  | cons {a b as bs} : R a b → All2 R as bs → All2 R (a :: as) (b :: bs)

section
variable {α β : Type} {R S : α → β → Prop}
theorem All2.mono (h : ∀ a b, R a b → S a b) {as bs} (x : All2 R as bs) : All2 S as bs := by
  induction x with
  | nil => exact .nil
  | cons a _ ih => exact .cons (h _ _ a) ih
theorem All2.length {as bs} (x : All2 R as bs) : as.length = bs.length := by
  induction x with
  | nil => rfl
  | cons _ _ ih => simp [ih]
theorem All2.append {as bs cs ds} (x : All2 R as bs) (y : All2 R cs ds) : All2 R (as ++ cs) (bs ++ ds) := by
  induction x with
  | nil => exact y
  | cons a _ ih => exact .cons a ih
theorem All2.get {as bs} (x : All2 R as bs) : ∀ {i : Nat} {a : α}, as[i]? = some a → ∃ b, bs[i]? = some b ∧ R a b := by
  induction x with
  | nil => intro i a h; simp at h
  | cons q _ ih =>
    intro i a h
    cases i with
    | zero => simp at h; subst h; exact ⟨_, rfl, q⟩
    | succ i => simp at h; simpa using ih h
theorem All2.set {as bs} (x : All2 R as bs) : ∀ (i) {a b}, R a b → All2 R (as.set i a) (bs.set i b) := by
  induction x with
  | nil => intro i a b _; exact .nil
  | cons q x ih =>
    intro i a b h
    cases i with
    | zero => exact .cons h x
    | succ i => exact .cons q (ih i h)
theorem All2.take {as bs} (x : All2 R as bs) : ∀ n, All2 R (as.take n) (bs.take n) := by
  induction x with
  | nil => intro n; simp; exact .nil
  | cons q x ih =>
    intro n
    cases n with
    | zero => exact .nil
    | succ n => exact .cons q (ih n)
theorem All2.drop {as bs} (x : All2 R as bs) : ∀ n, All2 R (as.drop n) (bs.drop n) := by
  induction x with
  | nil => intro n; simp; exact .nil
  | cons q x ih =>
    intro n
    cases n with
    | zero => exact .cons q x
    | succ n => exact ih n
theorem All2.eraseIdx {as bs} (x : All2 R as bs) : ∀ n, All2 R (as.eraseIdx n) (bs.eraseIdx n) := by
  induction x with
  | nil => intro n; exact .nil
  | cons q x ih =>
    intro n
    cases n with
    | zero => exact x
    | succ n => exact .cons q (ih n)
theorem All2.dropLast {as bs} (x : All2 R as bs) : All2 R as.dropLast bs.dropLast := by
  rw [List.dropLast_eq_take, List.dropLast_eq_take, x.length]; exact x.take _
theorem All2.last {as bs} (x : All2 R as bs) {a} (h : as.getLast? = some a) : ∃ b, bs.getLast? = some b ∧ R a b := by
  rw [List.getLast?_eq_getElem?] at h ⊢
  rw [← x.length]; exact x.get h
theorem All2.replicate (n : Nat) {a b} (h : R a b) : All2 R (List.replicate n a) (List.replicate n b) := by
  induction n with
  | zero => exact .nil
  | succ n ih => exact .cons h ih
end

/-- objects that never turn: pairs, instances -/
noncomputable def Imm (C : Addr) (o : Obj) : Prop := (o.cls = .type "tuple" ∧ ∃ its n, o.data = .seq its n) ∨ (o.cls = .ref C ∧ o.data = .plain)

noncomputable def attrName : Nat → Str
  | 0 => "nodes"
  | 1 => "inputs"
  | 2 => "outputs"
  | _ => "table"

section
variable (C : Addr) (B : PySem.Heap) (ρ : List Addr) (h : PySem.Heap)
inductive VR : V → Value → Prop
  | none : VR .none .none
  | bool (b : Bool) : VR (.bool b) (.bool b)
  | int (i : Int) (t : Tok) : VR (.int i) (.int i t)
  | ref {n : Nat} {a : Addr} : ρ[n]? = some a → VR (.ref n) (.ref a)
  | obj {n : Nat} {dx x : Addr} : ρ[n]? = some dx → h.get? x = some (instObj C dx) → VR (.obj n) (.ref x)
  | pair {a b : V} {v w : Value} {x : Addr} {k : Nat} : h.get? x = some { cls := .type "tuple", data := .seq #[v, w] k } → VR a v → VR b w → VR (.pair a b) (.ref x)
  | ext {xs : List Int} {vs : List Value} {a : Addr} : B.IsList a vs.toArray → IntsAre vs xs → VR (.ext xs) (.ref a)

inductive AttrEs : Nat → List V → List DictEntry → Prop
  | nil {k} : AttrEs k [] []
  | cons {k : Nat} {v : V} {vs : List V} {hs : Int} {t : Tok} {val : Value} {es : List DictEntry} : VR C B ρ h v val → AttrEs (k + 1) vs es → AttrEs k (v :: vs) (⟨hs, .str (attrName k) t, val⟩ :: es)

noncomputable def DRel (e : (Int × Int) × Int) (x : List Int × Addr × Value) : Prop := x.1 = [e.1.1, e.1.2] ∧ ∃ t, x.2.2 = .int e.2 t

noncomputable def OA (prog : Program) (w : World) : O → Addr → Prop
  | .list xs, a => ∃ vs n, IsL h a (vs : List Value).toArray n ∧ All2 (VR C B ρ h) xs vs
  | .attrs vs, a => vs.length ≤ 4 ∧ ∃ es n, h.get? a = some (dictOf es n) ∧ AttrEs C B ρ h 0 vs es
  | .dict es, a => (a == sysModules) = false ∧ ∃ xs, h.DictOfH (tupleKind (intKind prog w)) a xs ∧ All2 DRel es xs
  | .set es, a => h.SetOf (intKind prog w) a (fun i => decide (i ∈ es)) es.length
end

noncomputable def LocR (C : Addr) (B : PySem.Heap) (ρ : List Addr) (h : PySem.Heap) (names : List (Str × NameKind)) (m : Str → Option Value) (loc : List (Option V)) : Prop :=
  ∀ (i : Nat) (v : V), loc[i]? = some (some v) → ∃ (x : Str) (val : Value), names[i]? = some (x, NameKind.local) ∧ m x = some val ∧ VR C B ρ h v val

structure Par where
  prog : Program
  w : World
  C : Addr
  B : PySem.Heap

structure Rep (P : Par) (h₀ : PySem.Heap) (L : Addr) (kp : List (Addr × Obj)) (names : List (Str × NameKind)) (ρ : List Addr) (st : St) (h : PySem.Heap) : Prop where
  keep : ∀ b o, h₀.get? b = some o → h.get? b = some o
  above : h₀.objs.size ≤ L
  ns : ∃ m, h.Ns L m ∧ LocR P.C P.B ρ h names m st.loc
  len : ρ.length = st.heap.length
  objs : ∀ (n : Nat) (a : Addr) (ob : O), ρ[n]? = some a → st.heap[n]? = some ob → OA P.C P.B ρ h P.prog P.w ob a
  fresh : ∀ a ∈ ρ, h₀.get? a = none ∧ a ≠ L
  nodup : ρ.Nodup
  kept : ∀ p ∈ kp, h.get? p.1 = some p.2 ∧ p.1 ≠ L ∧ p.1 ∉ ρ ∧ h₀.get? p.1 = none

noncomputable def ImmKeep (C : Addr) (h h' : PySem.Heap) : Prop := ∀ a o, Imm C o → h.get? a = some o → h'.get? a = some o
theorem ImmKeep.refl (C : Addr) (h : PySem.Heap) : ImmKeep C h h := fun _ _ _ e => e
theorem ImmKeep.trans {C : Addr} {h₁ h₂ h₃ : PySem.Heap} (x : ImmKeep C h₁ h₂) (y : ImmKeep C h₂ h₃) : ImmKeep C h₁ h₃ := fun a o i e => y a o i (x a o i e)

theorem imm_inst (C dx : Addr) : Imm C (instObj C dx) := .inr ⟨rfl, rfl⟩
theorem imm_pair (C : Addr) (its : Array Value) (n : Nat) : Imm C { cls := .type "tuple", data := .seq its n } := .inl ⟨rfl, _, _, rfl⟩

section
variable {C : Addr} {B : PySem.Heap} {ρ ρ' : List Addr} {h h' : PySem.Heap}

theorem pre_get {l l' : List Addr} (p : l <+: l') {n : Nat} {a : Addr} (e : l[n]? = some a) : l'[n]? = some a := by
  obtain ⟨t, rfl⟩ := p
  rw [List.getElem?_append_left (by exact (List.getElem?_eq_some_iff.mp e).1)]; exact e

theorem VR.mono (p : ρ <+: ρ') (k : ImmKeep C h h') {v : V} {val : Value} (x : VR C B ρ h v val) : VR C B ρ' h' v val := by
  induction x with
  | none => exact .none
  | bool b => exact .bool b
  | int i t => exact .int i t
  | ref e => exact .ref (pre_get p e)
  | obj e o => exact .obj (pre_get p e) (k _ _ (imm_inst _ _) o)
  | pair o _ _ a b => exact .pair (k _ _ (imm_pair _ _ _) o) a b
  | ext o i => exact .ext o i

theorem AttrEs.mono (p : ρ <+: ρ') (k : ImmKeep C h h') {n : Nat} {vs : List V} {es : List DictEntry} (x : AttrEs C B ρ h n vs es) : AttrEs C B ρ' h' n vs es := by
  induction x with
  | nil => exact .nil
  | cons a _ ih => exact .cons (a.mono p k) ih

theorem tupleKey_mono {prog : Program} {w : World} (k : ImmKeep C h h') {ks : List Int} {a : Addr} (x : IsTupleKey (intKind prog w) h ks a) : IsTupleKey (intKind prog w) h' ks a := by
  obtain ⟨o, its, n, ho, hc, hd, hi⟩ := x
  exact ⟨o, its, n, k a o (.inl ⟨hc, _, _, hd⟩) ho, hc, hd, hi⟩

theorem OA.mono {prog : Program} {w : World} (p : ρ <+: ρ') (k : ImmKeep C h h') {ob : O} {a : Addr} (e : ∀ o, h.get? a = some o → h'.get? a = some o) (x : OA C B ρ h prog w ob a) : OA C B ρ' h' prog w ob a := by
  cases ob with
  | list xs => obtain ⟨vs, n, hl, r⟩ := x; exact ⟨vs, n, e _ hl, r.mono fun _ _ q => q.mono p k⟩
  | attrs vs => obtain ⟨hz, es, n, hl, r⟩ := x; exact ⟨hz, es, n, e _ hl, r.mono p k⟩
  | dict es =>
    obtain ⟨hs, xs, ⟨o, es', ep, ho, hx, hd, ht, hk, hn⟩, r⟩ := x
    exact ⟨hs, xs, ⟨o, es', ep, e _ ho, hx, hd, ht, fun y hy => tupleKey_mono k (hk y hy), hn⟩, r⟩
  | set es =>
    obtain ⟨o, es', ep, t, ho, r⟩ := x
    exact ⟨o, es', ep, t, e _ ho, r⟩

theorem LocR.mono (p : ρ <+: ρ') (k : ImmKeep C h h') {names : List (Str × NameKind)} {m : Str → Option Value} {loc : List (Option V)} (x : LocR C B ρ h names m loc) : LocR C B ρ' h' names m loc := by
  intro i v e
  obtain ⟨x, val, e1, e2, r⟩ := x i v e
  exact ⟨x, val, e1, e2, r.mono p k⟩
end

/-- all but L stays -/
noncomputable def Grow (L : Addr) (h h' : PySem.Heap) : Prop := ∀ a o, a ≠ L → h.get? a = some o → h'.get? a = some o

theorem not_imm_dict {C : Addr} {o : Obj} {es ep} (e : o.data = .dict es ep) : ¬ Imm C o := by
  rintro (⟨_, its, n, h⟩ | ⟨_, h⟩)
  · rw [e] at h; cases h
  · rw [e] at h; cases h

section
variable {P : Par} {h₀ h h' : PySem.Heap} {L : Addr} {kp : List (Addr × Obj)} {names : List (Str × NameKind)} {ρ : List Addr} {st : St}

theorem ns_notImm {m : Str → Option Value} {o : Obj} {C : Addr} (n : h.Ns L m) (e : h.get? L = some o) : ¬ Imm C o := by
  obtain ⟨o', es, ep, e', d, _⟩ := n
  rw [e] at e'; cases e'
  exact not_imm_dict d

theorem Grow.imm {m : Str → Option Value} {C : Addr} (n : h.Ns L m) (g : Grow L h h') : ImmKeep C h h' := fun a o i e => by
  by_cases q : a = L
  · subst q; exact absurd i (ns_notImm n e)
  · exact g a o q e

theorem Rep.L_lt (R : Rep P h₀ L kp names ρ st h) : L < h.objs.size := by
  obtain ⟨m, ⟨o, es, ep, e, _⟩, _⟩ := R.ns
  exact Heap.lt_size e

theorem Rep.frame (R : Rep P h₀ L kp names ρ st h) : ∃ m, Fr h₀ L h m ∧ LocR P.C P.B ρ h names m st.loc := by
  obtain ⟨m, n, l⟩ := R.ns
  exact ⟨m, ⟨n, R.keep, R.above⟩, l⟩

theorem Rep.base_ne_L (R : Rep P h₀ L kp names ρ st h) {b : Addr} {o : Obj} (e : h₀.get? b = some o) : b ≠ L := Nat.ne_of_lt (Nat.lt_of_lt_of_le (Heap.lt_size e) R.above)

theorem oa_there {prog : Program} {w : World} {C : Addr} {B : PySem.Heap} {ob : O} {a : Addr} (x : OA C B ρ h prog w ob a) : ∃ o, h.get? a = some o ∧ ¬ Imm C o ∧ o.isFreed = false := by
  cases ob with
  | list xs =>
    obtain ⟨vs, n, hl, r⟩ := x
    refine ⟨_, hl, ?_, rfl⟩
    rintro (⟨e, _⟩ | ⟨e, _⟩) <;> simp at e
  | attrs vs => obtain ⟨hz, es, n, hl, r⟩ := x; exact ⟨_, hl, not_imm_dict rfl, rfl⟩
  | dict es => obtain ⟨hs, xs, ⟨o, es', ep, ho, hx, hd, ht, hk, hn⟩, r⟩ := x; exact ⟨o, ho, not_imm_dict hd, by obtain ⟨_, _, d, _⟩ := o; cases hd; rfl⟩
  | set es =>
    obtain ⟨o, es', ep, t, ho, hx, hd, r⟩ := x
    refine ⟨o, ho, ?_, by obtain ⟨_, _, d, _⟩ := o; cases hd; rfl⟩
    rintro (⟨_, its, n, q⟩ | ⟨_, q⟩) <;> rw [hd] at q <;> cases q

theorem Rep.get (R : Rep P h₀ L kp names ρ st h) {n : Nat} {ob : O} (e : st.heap[n]? = some ob) : ∃ a, ρ[n]? = some a ∧ OA P.C P.B ρ h P.prog P.w ob a := by
  have hn : n < ρ.length := by rw [R.len]; exact (List.getElem?_eq_some_iff.mp e).1
  exact ⟨ρ[n], List.getElem?_eq_getElem hn, R.objs n _ ob (List.getElem?_eq_getElem hn) e⟩

theorem Rep.obj_at (R : Rep P h₀ L kp names ρ st h) {a : Addr} (m : a ∈ ρ) : ∃ o, h.get? a = some o ∧ ¬ Imm P.C o := by
  obtain ⟨n, hn, rfl⟩ := List.getElem_of_mem m
  have hs : n < st.heap.length := by rw [← R.len]; exact hn
  obtain ⟨o, e, i, _⟩ := oa_there (R.objs n _ _ (List.getElem?_eq_getElem hn) (List.getElem?_eq_getElem hs))
  exact ⟨o, e, i⟩

/-- the heap only grows -/
theorem Rep.grow (R : Rep P h₀ L kp names ρ st h) (g : Grow L h h') (hn : ∀ m, h.Ns L m → h'.Ns L m) : Rep P h₀ L kp names ρ st h' := by
  obtain ⟨m, n, l⟩ := R.ns
  have k : ImmKeep P.C h h' := g.imm n
  refine ⟨fun b o e => g b o (R.base_ne_L e) (R.keep b o e), R.above, ⟨m, hn m n, l.mono (List.prefix_refl _) k⟩, R.len, fun i a ob e1 e2 => ?_, R.fresh, R.nodup, fun p hp => ?_⟩
  · exact (R.objs i a ob e1 e2).mono (List.prefix_refl _) k fun o e => g a o (R.fresh a (List.mem_of_getElem? e1)).2 e
  · obtain ⟨a1, a2, a3, a4⟩ := R.kept p hp
    exact ⟨g _ _ a2 a1, a2, a3, a4⟩

/-- a new object -/
theorem Rep.push (R : Rep P h₀ L kp names ρ st h) {ob : O} {a : Addr} (ho : OA P.C P.B (ρ ++ [a]) h P.prog P.w ob a) (hf : ∀ b o, h₀.get? b = some o → b ≠ a) (hL : a ≠ L) (hr : a ∉ ρ) (hk : ∀ p ∈ kp, p.1 ≠ a) :
    Rep P h₀ L kp names (ρ ++ [a]) ⟨st.loc, st.heap ++ [ob]⟩ h := by
  have pr : ρ <+: ρ ++ [a] := List.prefix_append _ _
  refine ⟨R.keep, R.above, ?_, by simp [R.len], fun i b ob' e1 e2 => ?_, fun b hb => ?_, ?_, fun p hp => ?_⟩
  · obtain ⟨m, n, l⟩ := R.ns; exact ⟨m, n, l.mono pr (.refl _ _)⟩
  · by_cases q : i < ρ.length
    · rw [List.getElem?_append_left q] at e1
      rw [List.getElem?_append_left (by rw [← R.len]; exact q)] at e2
      exact (R.objs i b ob' e1 e2).mono pr (.refl _ _) fun o e => e
    · have q1 : i = ρ.length := by
        have := (List.getElem?_eq_some_iff.mp e1).1
        simp at this; exact om22 this q
      subst q1
      simp at e1
      rw [R.len] at e2
      simp at e2
      subst e1 e2; exact ho
  · rcases List.mem_append.mp hb with hb | hb
    · exact R.fresh b hb
    · rw [List.mem_singleton.mp hb]
      refine ⟨?_, hL⟩
      cases q : h₀.get? a with
      | none => rfl
      | some o => exact absurd rfl (hf a o q)
  · rw [List.nodup_append]
    exact ⟨R.nodup, by simp, fun x hx y hy => by rw [List.mem_singleton.mp hy]; exact fun e => hr (e ▸ hx)⟩
  · obtain ⟨a1, a2, a3, a4⟩ := R.kept p hp
    refine ⟨a1, a2, fun m => ?_, a4⟩
    rcases List.mem_append.mp m with m | m
    · exact a3 m
    · exact hk p hp (List.mem_singleton.mp m)

/-- an object turns -/
theorem Rep.upd (R : Rep P h₀ L kp names ρ st h) {n : Nat} {a : Addr} {ob : O} (e : ρ[n]? = some a) (sb : ∀ b, b ≠ a → h'.get? b = h.get? b) (ho : OA P.C P.B ρ h' P.prog P.w ob a) :
    Rep P h₀ L kp names ρ ⟨st.loc, st.heap.set n ob⟩ h' ∧ ImmKeep P.C h h' := by
  have ha : a ∈ ρ := List.mem_of_getElem? e
  obtain ⟨oa, ea, ia⟩ := R.obj_at ha
  have k : ImmKeep P.C h h' := fun b o i eb => by
    by_cases q : b = a
    · subst q; rw [ea] at eb; cases eb; exact absurd i ia
    · rw [sb b q]; exact eb
  refine ⟨⟨fun b o eb => ?_, R.above, ?_, by simp [R.len], fun i b ob' e1 e2 => ?_, R.fresh, R.nodup, fun p hp => ?_⟩, k⟩
  · have q : b ≠ a := fun q => by rw [q, (R.fresh a ha).1] at eb; cases eb
    rw [sb b q]; exact R.keep b o eb
  · obtain ⟨m, ⟨oL, es, ep, eL, r⟩, l⟩ := R.ns
    exact ⟨m, ⟨oL, es, ep, (sb L (Ne.symm (R.fresh a ha).2)).trans eL, r⟩, l.mono (List.prefix_refl _) k⟩
  · by_cases q : i = n
    · subst q
      rw [e] at e1; cases e1
      have hs : i < st.heap.length := by rw [← R.len]; exact (List.getElem?_eq_some_iff.mp e).1
      rw [List.getElem?_set_self hs] at e2
      cases e2; exact ho
    · rw [List.getElem?_set_ne (Ne.symm q)] at e2
      have hb : b ≠ a := by
        rintro rfl
        have h1 := (List.getElem?_eq_some_iff.mp e1).1
        exact q ((List.getElem?_inj h1 R.nodup).mp (e1.trans e.symm))
      exact (R.objs i b ob' e1 e2).mono (List.prefix_refl _) k fun o eb => by rw [sb b hb]; exact eb
  · obtain ⟨a1, a2, a3, a4⟩ := R.kept p hp
    exact ⟨(sb p.1 fun q => a3 (by rw [q]; exact ha)).trans a1, a2, a3, a4⟩

/-- a name is stored -/
theorem Rep.store (R : Rep P h₀ L kp names ρ st h) {i : Nat} {x : Str} {v : V} {val : Value} {m : Str → Option Value} (hl : LocR P.C P.B ρ h names m st.loc) (hx : names[i]? = some (x, .local)) (hd : (names.map (·.1)).Nodup) (r : VR P.C P.B ρ h v val)
    (hn : h'.Ns L (fun y => if y = x then some val else m y)) (hs : Heap.SameBut L h h') : Rep P h₀ L kp names ρ (st.put i v) h' ∧ ImmKeep P.C h h' := by
  obtain ⟨m₀, n₀, _⟩ := R.ns
  have g : Grow L h h' := fun a o q e => (hs.2 a q).trans e
  have k : ImmKeep P.C h h' := g.imm n₀
  refine ⟨⟨fun b o e => g b o (R.base_ne_L e) (R.keep b o e), R.above, ⟨_, hn, ?_⟩, R.len, fun j a ob e1 e2 => ?_, R.fresh, R.nodup, fun p hp => ?_⟩, k⟩
  · intro j u e
    by_cases q : j = i
    · subst q
      refine ⟨x, val, hx, if_pos rfl, ?_⟩
      have : (st.put j v).loc[j]? = some (some v) := by
        have hj : j < st.loc.length := by
          have := (List.getElem?_eq_some_iff.mp e).1
          simpa [St.put] using this
        simp [St.put, hj]
      rw [this] at e; cases e
      exact r.mono (List.prefix_refl _) k
    · have e' : st.loc[j]? = some (some u) := by
        simp only [St.put] at e
        rwa [List.getElem?_set_ne (Ne.symm q)] at e
      obtain ⟨y, val', e1, e2, r'⟩ := hl j u e'
      refine ⟨y, val', e1, ?_, r'.mono (List.prefix_refl _) k⟩
      have hne : y ≠ x := by
        rintro rfl
        have h1 : (names.map (·.1))[j]? = some y := by rw [List.getElem?_map, e1]; rfl
        have h2 : (names.map (·.1))[i]? = some y := by rw [List.getElem?_map, hx]; rfl
        exact q ((List.getElem?_inj (List.getElem?_eq_some_iff.mp h1).1 hd).mp (h1.trans h2.symm))
      simp only [if_neg hne]; exact e2
  · exact (R.objs j a ob e1 e2).mono (List.prefix_refl _) k fun o e => g a o (R.fresh a (List.mem_of_getElem? e1)).2 e
  · obtain ⟨a1, a2, a3, a4⟩ := R.kept p hp
    exact ⟨g _ _ a2 a1, a2, a3, a4⟩

/-- all but L stays; the names are told anew -/
theorem Rep.move (R : Rep P h₀ L kp names ρ st h) {m : Str → Option Value} {loc : List (Option V)} (g : Grow L h h') (hn : h'.Ns L m) (l : ImmKeep P.C h h' → LocR P.C P.B ρ h' names m loc) : Rep P h₀ L kp names ρ ⟨loc, st.heap⟩ h' ∧ ImmKeep P.C h h' := by
  obtain ⟨m₀, n₀, _⟩ := R.ns
  have k : ImmKeep P.C h h' := g.imm n₀
  refine ⟨⟨fun b o e => g b o (R.base_ne_L e) (R.keep b o e), R.above, ⟨_, hn, l k⟩, R.len, fun j a ob e1 e2 => ?_, R.fresh, R.nodup, fun p hp => ?_⟩, k⟩
  · exact (R.objs j a ob e1 e2).mono (List.prefix_refl _) k fun o e => g a o (R.fresh a (List.mem_of_getElem? e1)).2 e
  · obtain ⟨a1, a2, a3, a4⟩ := R.kept p hp
    exact ⟨g _ _ a2 a1, a2, a3, a4⟩

/-- an object turns, others are made -/
theorem Rep.upd2 (R : Rep P h₀ L kp names ρ st h) {n : Nat} {a : Addr} {ob : O} (e : ρ[n]? = some a) (g : ∀ b o, b ≠ a → b ≠ L → h.get? b = some o → h'.get? b = some o) (hn : ∀ m, h.Ns L m → h'.Ns L m) (ho : OA P.C P.B ρ h' P.prog P.w ob a) :
    Rep P h₀ L kp names ρ ⟨st.loc, st.heap.set n ob⟩ h' ∧ ImmKeep P.C h h' := by
  have ha : a ∈ ρ := List.mem_of_getElem? e
  obtain ⟨oa, ea, ia⟩ := R.obj_at ha
  obtain ⟨m, nL, l⟩ := R.ns
  have k : ImmKeep P.C h h' := fun b o i eb => by
    by_cases q : b = a
    · subst q; rw [ea] at eb; cases eb; exact absurd i ia
    · by_cases q2 : b = L
      · subst q2; exact absurd i (ns_notImm nL eb)
      · exact g b o q q2 eb
  refine ⟨⟨fun b o eb => ?_, R.above, ⟨m, hn m nL, l.mono (List.prefix_refl _) k⟩, by simp [R.len], fun i b ob' e1 e2 => ?_, R.fresh, R.nodup, fun p hp => ?_⟩, k⟩
  · have q : b ≠ a := fun q => by rw [q, (R.fresh a ha).1] at eb; cases eb
    exact g b o q (R.base_ne_L eb) (R.keep b o eb)
  · by_cases q : i = n
    · subst q
      rw [e] at e1; cases e1
      have hs : i < st.heap.length := by rw [← R.len]; exact (List.getElem?_eq_some_iff.mp e).1
      rw [List.getElem?_set_self hs] at e2
      cases e2; exact ho
    · rw [List.getElem?_set_ne (Ne.symm q)] at e2
      have hb : b ≠ a := by
        rintro rfl
        have h1 := (List.getElem?_eq_some_iff.mp e1).1
        exact q ((List.getElem?_inj h1 R.nodup).mp (e1.trans e.symm))
      exact (R.objs i b ob' e1 e2).mono (List.prefix_refl _) k fun o eb => g b o hb (R.fresh b (List.mem_of_getElem? e1)).2 eb
  · obtain ⟨a1, a2, a3, a4⟩ := R.kept p hp
    exact ⟨g p.1 p.2 (fun q => a3 (by rw [q]; exact ha)) a2 a1, a2, a3, a4⟩

/-- the whole of what stands, as a ledger -/
theorem allNews (h₀ h : PySem.Heap) (L : Addr) (hk : ∀ b o, h₀.get? b = some o → h.get? b = some o) : ∃ news : List (Addr × Obj), News h₀ L h news ∧ (news.map (·.1)).Nodup ∧ ∀ a o, a ≠ L → h.get? a = some o → h₀.get? a = some o ∨ (a, o) ∈ news := by
  let f : Nat → Option (Addr × Obj) := fun a => if a = L ∨ (h₀.get? a).isSome = true then none else (h.get? a).map (a, ·)
  have hf : ∀ a p, f a = some p → p.1 = a ∧ h.get? a = some p.2 ∧ a ≠ L ∧ h₀.get? a = none := fun a p e => by
    simp only [f] at e
    split at e
    · cases e
    · rename_i q
      rw [not_or] at q
      obtain ⟨o, ho, rfl⟩ := Option.map_eq_some_iff.mp e
      refine ⟨rfl, ho, q.1, ?_⟩
      cases z : h₀.get? a with
      | none => rfl
      | some _ => rw [z] at q; exact absurd rfl q.2
  refine ⟨(List.range h.objs.size).filterMap f, fun p hp => ?_, ?_, fun a o q e => ?_⟩
  · obtain ⟨a, _, ea⟩ := List.mem_filterMap.mp hp
    obtain ⟨e1, e2, e3, e4⟩ := hf a p ea
    rw [e1]; exact ⟨e2, e3, e4⟩
  · have key : ∀ l : List Nat, l.Nodup → ((l.filterMap f).map (·.1)).Nodup := by
      intro l hl
      induction l with
      | nil => simp
      | cons a l ih =>
        rw [List.nodup_cons] at hl
        rw [List.filterMap_cons]
        split
        · exact ih hl.2
        · rename_i p hp
          rw [List.map_cons, List.nodup_cons]
          refine ⟨fun m => ?_, ih hl.2⟩
          obtain ⟨p', hp', e'⟩ := List.mem_map.mp m
          obtain ⟨b, hb, eb⟩ := List.mem_filterMap.mp hp'
          have e1 := (hf a p hp).1
          have e2 := (hf b p' eb).1
          exact hl.1 (by rw [← e1, ← e', e2]; exact hb)
    exact key _ List.nodup_range
  · cases z : h₀.get? a with
    | some o' => left; have := hk a o' z; rw [e] at this; rw [this]
    | none =>
      right
      refine List.mem_filterMap.mpr ⟨a, List.mem_range.mpr (Heap.lt_size e), ?_⟩
      simp only [f]
      rw [if_neg (by rw [not_or, z]; exact ⟨q, by simp⟩), e]; rfl

theorem Rep.news (R : Rep P h₀ L kp names ρ st h) : ∃ news : List (Addr × Obj), News h₀ L h news ∧ (news.map (·.1)).Nodup ∧
    (∀ a o, a ≠ L → h.get? a = some o → h₀.get? a = some o ∨ (a, o) ∈ news) ∧
    ∀ h' m', Fr h₀ L h' m' → News h₀ L h' news → Grow L h h' := by
  obtain ⟨news, N, nd, cov⟩ := allNews h₀ h L R.keep
  refine ⟨news, N, nd, cov, fun h' m' F' N' a o q e => ?_⟩
  rcases cov a o q e with z | z
  · exact F'.keep a o z
  · exact (N' _ z).1
end
end Mine
end

-- part S2
section
open PySem PySem.W PyProof.Rows
set_option Elab.async false
set_option linter.unusedVariables false
set_option maxRecDepth 20000
namespace Mine

structure Cx where
  P : Par
  h₀ : PySem.Heap
  L : Addr
  kp : List (Addr × Obj)
  qual : Str
  sc : Scope
  fa : Addr
  cd : Value
noncomputable def Cx.env (c : Cx) : Env := envOf c.qual c.sc c.L c.fa c.cd
abbrev Cx.R (c : Cx) (ρ : List Addr) (st : St) (h : PySem.Heap) : Prop := Rep c.P c.h₀ c.L c.kp c.sc.names ρ st h

/-- what is known of the text -/
structure Fx (P : Par) where
  K : Frag
  p : Program
  loose : List Str
  mg : Str → Option Value
  mb : Str → Option Value
  X : K.In P.B
  T : TopRead p loose mg mb P.B
  got : ∀ k, plainGet K P.C (attrName k) = true
  hasd : hasDictIn K P.C = true
  noattr : ∀ k, findIn K (.ref P.C) (attrName k) = some none
  sets : findIn K (.ref P.C) "__setattr__" = some (some (.builtin "object.__setattr__"))
  over : plainOver K P.C = true
  taker : ∀ k, takerIn K P.C (attrName k) = some none

structure Cx.Ok (c : Cx) : Prop where
  base : ∀ b o, c.P.B.get? b = some o → c.h₀.get? b = some o
  kind : c.sc.kind = .function
  nd : (c.sc.names.map (·.1)).Nodup

/-- room for n more calls -/
structure Rm (A : Around) (n : Nat) : Prop where
  hh : A.handled = none
  depth : A.depth + 10 * n + 20 < 900
  units : A.units + 40 * n + 200 < 9900

structure Ev (c : Cx) (s : Shared) (ρ : List Addr) (s' : Shared) (ρ' : List Addr) (st' : St) : Prop where
  rep : c.R ρ' st' s'.heap
  pre : ρ <+: ρ'
  imm : ImmKeep c.P.C s.heap s'.heap
  gens : s'.gens = s.gens
  os : s'.os = s.os

noncomputable def VV (c : Cx) (ρ : List Addr) (s : Shared) (r : V) (v : Value) : Prop := VR c.P.C c.P.B ρ s.heap r v

theorem VV.int_inv {c : Cx} {ρ : List Addr} {s : Shared} {i : Int} {v : Value} (x : VV c ρ s (.int i) v) : ∃ t, v = .int i t := by cases x; exact ⟨_, rfl⟩
theorem VV.bool_inv {c : Cx} {ρ : List Addr} {s : Shared} {b : Bool} {v : Value} (x : VV c ρ s (.bool b) v) : v = .bool b := by cases x; rfl
theorem VV.none_inv {c : Cx} {ρ : List Addr} {s : Shared} {v : Value} (x : VV c ρ s .none v) : v = .none := by cases x; rfl
theorem VV.ref_inv {c : Cx} {ρ : List Addr} {s : Shared} {k : Nat} {v : Value} (x : VV c ρ s (.ref k) v) : ∃ a, v = .ref a ∧ ρ[k]? = some a := by
  cases x with
  | ref e => exact ⟨_, rfl, e⟩
theorem VV.pair_inv {c : Cx} {ρ : List Addr} {s : Shared} {a b : V} {v : Value} (x : VV c ρ s (.pair a b) v) :
    Ex4 fun (t : Addr) (va vb : Value) (k : Nat) => An4 (v = .ref t) (s.heap.get? t = some { cls := .type "tuple", data := .seq #[va, vb] k }) (VV c ρ s a va) (VV c ρ s b vb) := by
  cases x with
  | pair hx ra rb => exact ⟨_, _, _, _, rfl, hx, ra, rb⟩
theorem VV.obj_inv {c : Cx} {ρ : List Addr} {s : Shared} {k : Nat} {v : Value} (x : VV c ρ s (.obj k) v) : Ex2 fun (dx a : Addr) => An3 (v = .ref a) (ρ[k]? = some dx) (s.heap.get? a = some (instObj c.P.C dx)) := by
  cases x with
  | obj e1 e2 => exact ⟨_, _, rfl, e1, e2⟩
inductive PE (c : Cx) (s : Shared) (ρ : List Addr) (Q : V → St → Prop) (v : Value) (s' : Shared) : Prop
  | intro (ρ' : List Addr) (r : V) (st' : St) (ev : Ev c s ρ s' ρ' st') (vv : VV c ρ' s' r v) (q : Q r st') : PE c s ρ Q v s'
inductive PC (c : Cx) (s : Shared) (ρ : List Addr) (Q : Bool → St → Prop) (b : Bool) (s' : Shared) : Prop
  | intro (ρ' : List Addr) (st' : St) (ev : Ev c s ρ s' ρ' st') (q : Q b st') : PC c s ρ Q b s'
inductive FlR (c : Cx) (ρ : List Addr) (s : Shared) : Fl → Flow → Prop
  | next : FlR c ρ s .next .next
  | cont : FlR c ρ s .cont .cont
  | ret {r v} : VV c ρ s r v → FlR c ρ s (.ret r) (.ret v)
inductive PS (c : Cx) (s : Shared) (ρ : List Addr) (Q : Fl → St → Prop) (f : Flow) (s' : Shared) : Prop
  | intro (ρ' : List Addr) (fl : Fl) (st' : St) (ev : Ev c s ρ s' ρ' st') (fr : FlR c ρ' s' fl f) (q : Q fl st') : PS c s ρ Q f s'

section
variable {c : Cx} {s s₁ s₂ : Shared} {ρ ρ₁ ρ₂ : List Addr} {st st₁ st₂ : St}
theorem Ev.refl (R : c.R ρ st s.heap) : Ev c s ρ s ρ st := ⟨R, List.prefix_refl _, .refl _ _, rfl, rfl⟩
theorem Ev.trans (a : Ev c s ρ s₁ ρ₁ st₁) (b : Ev c s₁ ρ₁ s₂ ρ₂ st₂) : Ev c s ρ s₂ ρ₂ st₂ :=
  ⟨b.rep, a.pre.trans b.pre, a.imm.trans b.imm, b.gens.trans a.gens, b.os.trans a.os⟩
theorem Ev.vv (a : Ev c s ρ s₁ ρ₁ st₁) {r : V} {v : Value} (x : VV c ρ s r v) : VV c ρ₁ s₁ r v := x.mono a.pre a.imm
theorem PE.via (a : Ev c s ρ s₁ ρ₁ st₁) {Q : V → St → Prop} {v : Value} {s' : Shared} (x : PE c s₁ ρ₁ Q v s') : PE c s ρ Q v s' :=
  let ⟨ρ', r, st', e, q, h⟩ := x; ⟨ρ', r, st', a.trans e, q, h⟩
theorem PC.via (a : Ev c s ρ s₁ ρ₁ st₁) {Q : Bool → St → Prop} {v : Bool} {s' : Shared} (x : PC c s₁ ρ₁ Q v s') : PC c s ρ Q v s' :=
  let ⟨ρ', st', e, h⟩ := x; ⟨ρ', st', a.trans e, h⟩
theorem PS.via (a : Ev c s ρ s₁ ρ₁ st₁) {Q : Fl → St → Prop} {v : Flow} {s' : Shared} (x : PS c s₁ ρ₁ Q v s') : PS c s ρ Q v s' :=
  let ⟨ρ', r, st', e, q, h⟩ := x; ⟨ρ', r, st', a.trans e, q, h⟩

variable {α : Type} {M : Model} {A : Around} {E : Value → Shared → Prop} {t : Sem α}
theorem seqE {t : Sem Value} {Q : V → St → Prop} {J : Value → Shared → Prop} (h : wpAny M A t (PE c s ρ Q) E s)
    (k : ∀ v s' ρ' r st', Ev c s ρ s' ρ' st' → VV c ρ' s' r v → Q r st' → J v s') : wpAny M A t J E s :=
  wpAny_mono h (fun v s' ⟨ρ', r, st', e, q, h⟩ => k v s' ρ' r st' e q h) fun _ _ x => x
theorem seqC {t : Sem Bool} {Q : Bool → St → Prop} {J : Bool → Shared → Prop} (h : wpAny M A t (PC c s ρ Q) E s)
    (k : ∀ v s' ρ' st', Ev c s ρ s' ρ' st' → Q v st' → J v s') : wpAny M A t J E s :=
  wpAny_mono h (fun v s' ⟨ρ', st', e, h⟩ => k v s' ρ' st' e h) fun _ _ x => x
theorem seqS {t : Sem Flow} {Q : Fl → St → Prop} {J : Flow → Shared → Prop} (h : wpAny M A t (PS c s ρ Q) E s)
    (k : ∀ v s' ρ' r st', Ev c s ρ s' ρ' st' → FlR c ρ' s' r v → Q r st' → J v s') : wpAny M A t J E s :=
  wpAny_mono h (fun v s' ⟨ρ', r, st', e, q, h⟩ => k v s' ρ' r st' e q h) fun _ _ x => x
theorem viaE {t : Sem Value} {Q : V → St → Prop} (a : Ev c s ρ s₁ ρ₁ st₁) (h : wpAny M A t (PE c s₁ ρ₁ Q) E s₁) : wpAny M A t (PE c s ρ Q) E s₁ :=
  wpAny_mono h (fun _ _ x => x.via a) fun _ _ x => x
theorem viaC {t : Sem Bool} {Q : Bool → St → Prop} (a : Ev c s ρ s₁ ρ₁ st₁) (h : wpAny M A t (PC c s₁ ρ₁ Q) E s₁) : wpAny M A t (PC c s ρ Q) E s₁ :=
  wpAny_mono h (fun _ _ x => x.via a) fun _ _ x => x
theorem viaS {t : Sem Flow} {Q : Fl → St → Prop} (a : Ev c s ρ s₁ ρ₁ st₁) (h : wpAny M A t (PS c s₁ ρ₁ Q) E s₁) : wpAny M A t (PS c s ρ Q) E s₁ :=
  wpAny_mono h (fun _ _ x => x.via a) fun _ _ x => x

/-- ends -/
theorem endE (R : c.R ρ st s.heap) {Q : V → St → Prop} {r : V} {v : Value} (x : VV c ρ s r v) (h : Q r st) : PE c s ρ Q v s := ⟨ρ, r, st, .refl R, x, h⟩
theorem endT (R : c.R ρ st s.heap) {Q : V → St → Prop} {r : V} {v : Value} {tk : Nat} (x : VV c ρ s r v) (h : Q r st) : PE c s ρ Q v { s with toks := tk } :=
  ⟨ρ, r, st, ⟨R, List.prefix_refl _, .refl _ _, rfl, rfl⟩, x, h⟩
theorem endC (R : c.R ρ st s.heap) {Q : Bool → St → Prop} {b : Bool} (h : Q b st) : PC c s ρ Q b s := ⟨ρ, st, .refl R, h⟩
theorem endCT (R : c.R ρ st s.heap) {Q : Bool → St → Prop} {b : Bool} {tk : Nat} (h : Q b st) : PC c s ρ Q b { s with toks := tk } :=
  ⟨ρ, st, ⟨R, List.prefix_refl _, .refl _ _, rfl, rfl⟩, h⟩

/-- the heap has grown, nothing new is told -/
theorem Ev.grown (R : c.R ρ st s.heap) {h' : PySem.Heap} {tk : Nat} (g : Grow c.L s.heap h') (hn : ∀ m, s.heap.Ns c.L m → h'.Ns c.L m) : Ev c s ρ { s with heap := h', toks := tk } ρ st := by
  obtain ⟨m, n, _⟩ := R.ns
  exact ⟨R.grow g hn, List.prefix_refl _, g.imm n, rfl, rfl⟩

/-- a new object -/
theorem Ev.new (R : c.R ρ st s.heap) {h' : PySem.Heap} {tk : Nat} {ob : O} {a : Addr} (g : Grow c.L s.heap h') (hn : ∀ m, s.heap.Ns c.L m → h'.Ns c.L m)
    (ho : OA c.P.C c.P.B (ρ ++ [a]) h' c.P.prog c.P.w ob a) (ha : ∀ o, s.heap.get? a ≠ some o) : Ev c s ρ { s with heap := h', toks := tk } (ρ ++ [a]) ⟨st.loc, st.heap ++ [ob]⟩ := by
  obtain ⟨m, n, _⟩ := R.ns
  obtain ⟨oL, _, _, eL, _⟩ := n
  refine ⟨(R.grow g hn).push ho (fun b o e q => ?_) (fun q => ?_) (fun q => ?_) (fun p hp q => ?_), List.prefix_append _ _, g.imm (by exact ⟨oL, _, _, eL, ‹_›⟩), rfl, rfl⟩
  · exact ha o (q ▸ R.keep b o e)
  · exact ha oL (q ▸ eL)
  · obtain ⟨o, e, _⟩ := R.obj_at q; exact ha o e
  · exact ha p.2 (q ▸ (R.kept p hp).1)

theorem push_grow (h : PySem.Heap) (L : Addr) (o : Obj) : Grow L h (h.push o) := fun _ _ _ e => Heap.get?_push_of_some _ e
theorem push_ns (h : PySem.Heap) {L : Addr} (o : Obj) (m : Str → Option Value) (n : h.Ns L m) : (h.push o).Ns L m := n.push o
theorem not_size (h : PySem.Heap) (o : Obj) : h.get? h.objs.size ≠ some o := fun e => Nat.lt_irrefl _ (Heap.lt_size e)

theorem Ev.newList (R : c.R ρ st s.heap) {xs : List V} {vs : List Value} (r : All2 (VV c ρ s) xs vs) : Ev c s ρ { s with heap := s.heap.push { cls := .type "list", data := .seq vs.toArray } } (ρ ++ [s.heap.objs.size]) ⟨st.loc, st.heap ++ [.list xs]⟩ := by
  obtain ⟨m, n, _⟩ := R.ns
  exact Ev.new (tk := s.toks) R (push_grow _ _ _) (push_ns _ _) ⟨vs, 0, IsL.new _ _, r.mono fun _ _ q => VR.mono (List.prefix_append _ _) ((push_grow s.heap c.L _).imm n) q⟩ (not_size _)

theorem new_ref (R : c.R ρ st s.heap) {s' : Shared} {a : Addr} : VV c (ρ ++ [a]) s' (.ref st.heap.length) (.ref a) := by
  refine .ref ?_
  rw [← R.len, List.getElem?_append_right (Nat.le_refl _)]; simp

/-- an object turns -/
theorem Ev.turn (R : c.R ρ st s.heap) {h' : PySem.Heap} {tk : Nat} {n : Nat} {a : Addr} {ob : O} (e : ρ[n]? = some a) (sb : Heap.SameBut a s.heap h') (ho : OA c.P.C c.P.B ρ h' c.P.prog c.P.w ob a) :
    Ev c s ρ { s with heap := h', toks := tk } ρ ⟨st.loc, st.heap.set n ob⟩ := by
  obtain ⟨a1, a2⟩ := R.upd e sb.2 ho
  exact ⟨a1, List.prefix_refl _, a2, rfl, rfl⟩
/-- a list turns -/
theorem Ev.turnList (R : c.R ρ st s.heap) {h' : PySem.Heap} {tk : Nat} {n : Nat} {a : Addr} {xs : List V} {vs : List Value} {k : Nat} (e : ρ[n]? = some a) (sb : Heap.SameBut a s.heap h') (hl : IsL h' a vs.toArray k) (r : All2 (VV c ρ s) xs vs) :
    Ev c s ρ { s with heap := h', toks := tk } ρ ⟨st.loc, st.heap.set n (.list xs)⟩ := by
  have ha : a ∈ ρ := List.mem_of_getElem? e
  obtain ⟨oa, ea, ia⟩ := R.obj_at ha
  have k : ImmKeep c.P.C s.heap h' := fun b o i eb => by
    by_cases q : b = a
    · subst q; rw [ea] at eb; cases eb; exact absurd i ia
    · exact (sb.2 b q).trans eb
  exact Ev.turn R e sb ⟨vs, _, hl, r.mono fun _ _ q => VR.mono (List.prefix_refl _) k q⟩
end
end Mine
end

-- part S3
section
open PySem PySem.W PyProof.Rows
set_option Elab.async false
set_option linter.unusedVariables false
set_option maxRecDepth 20000
namespace Mine

theorem or_xor_and (m : Nat) : ∀ n, m ||| n = (m ^^^ n) + (m &&& n) := by
  induction m using Nat.strongRecOn with
  | _ m ih =>
    intro n
    by_cases h0 : m = 0
    · subst h0; simp
    · have h := ih (m / 2) (by exact om502 h0) (n / 2)
      have e1 : (m ||| n) / 2 = m / 2 ||| n / 2 := Nat.or_div_two
      have e2 : (m ^^^ n) / 2 = m / 2 ^^^ n / 2 := Nat.xor_div_two
      have e3 : (m &&& n) / 2 = m / 2 &&& n / 2 := Nat.and_div_two
      have f1 : (m ||| n) % 2 = m % 2 ||| n % 2 := Nat.or_mod_two_pow (n := 1)
      have f2 : (m ^^^ n) % 2 = m % 2 ^^^ n % 2 := Nat.xor_mod_two_pow (n := 1)
      have f3 : (m &&& n) % 2 = m % 2 &&& n % 2 := Nat.and_mod_two_pow (n := 1)
      have g : m % 2 ||| n % 2 = (m % 2 ^^^ n % 2) + (m % 2 &&& n % 2) := by
        rcases Nat.mod_two_eq_zero_or_one m with a | a <;> rcases Nat.mod_two_eq_zero_or_one n with b | b <;> rw [a, b] <;> rfl
      exact om469 h e1 e2 e3 f1 f2 f3 g
theorem bitAnd_nonneg {a b : Int} (ha : 0 ≤ a) (hb : 0 ≤ b) : Builtin.bitAnd a b = ((a.toNat &&& b.toNat : Nat) : Int) := by
  obtain ⟨m, rfl⟩ := Int.eq_ofNat_of_zero_le ha
  obtain ⟨n, rfl⟩ := Int.eq_ofNat_of_zero_le hb
  rfl
theorem bitOr_nonneg {a b : Int} (ha : 0 ≤ a) (hb : 0 ≤ b) : Builtin.bitOr a b = ((a.toNat ||| b.toNat : Nat) : Int) := by
  obtain ⟨m, rfl⟩ := Int.eq_ofNat_of_zero_le ha
  obtain ⟨n, rfl⟩ := Int.eq_ofNat_of_zero_le hb
  unfold Builtin.bitOr Builtin.bitAnd
  have h1 : decide (0 ≤ Builtin.bitNot (m : Int)) = false := by unfold Builtin.bitNot; simp; exact om153
  have h2 : decide (0 ≤ Builtin.bitNot (n : Int)) = false := by unfold Builtin.bitNot; simp; exact om153
  rw [h1, h2]
  dsimp only
  have e : ∀ k : Nat, (Builtin.bitNot (Builtin.bitNot (k : Int))) = k := fun k => by unfold Builtin.bitNot; exact om203
  rw [e, e, e]
theorem bitXor_nonneg {a b : Int} (ha : 0 ≤ a) (hb : 0 ≤ b) : Builtin.bitXor a b = ((a.toNat ^^^ b.toNat : Nat) : Int) := by
  unfold Builtin.bitXor
  rw [bitOr_nonneg ha hb, bitAnd_nonneg ha hb, or_xor_and]
  exact om287
theorem intBits_le {a : Int} {k : Nat} (h : a.natAbs < 2 ^ k) : Builtin.Int.intBits a ≤ k := by
  unfold Builtin.Int.intBits
  split
  · exact Nat.zero_le _
  · rename_i q
    have : a.natAbs ≠ 0 := by intro z; apply q; simp; exact om193 z
    exact Nat.succ_le_of_lt ((Nat.log2_lt this).mpr h)

section
variable {c : Cx} {A : Around} {E : Value → Shared → Prop} {s : Shared} {ρ : List Addr} {st : St} {Q : V → St → Prop}

theorem St.get_loc {st : St} {i : Nat} {v : V} (e : st.get i = some v) : st.loc[i]? = some (some v) := by
  unfold St.get at e
  cases h : st.loc[i]? with
  | none => rw [h] at e; cases e
  | some o => rw [h] at e; cases o with
    | none => cases e
    | some w => cases e; rfl

theorem leaf_load (ok : c.Ok) (R : c.R ρ st s.heap) {M : Model} {i : Nat} {x : Str} (hx : c.sc.names[i]? = some (x, .local)) (hl : c.sc.names.lookup x = some .local) (h : may (st.get i) fun v => Q v st) :
    wpAny M A (loadName c.env x) (PE c s ρ Q) E s := by
  obtain ⟨v, e, hq⟩ := may_ex h
  obtain ⟨m, F, l⟩ := R.frame
  obtain ⟨x', val, e1, e2, vr⟩ := l i v (St.get_loc e)
  rw [hx] at e1; cases e1
  exact ldn F e2 (endE R vr hq) ok.kind hl

theorem leaf_var (ok : c.Ok) (R : c.R ρ st s.heap) {M : Model} {i : Nat} {x : Str} {pos : Pos} (hx : c.sc.names[i]? = some (x, .local)) (hl : c.sc.names.lookup x = some .local) (hd : (x == ("__debug__" : Str)) = false)
    (h : may (st.get i) fun v => Q v st) : wpAny M A (eval (.Name x pos) c.env) (PE c s ρ Q) E s := wpAny_Name (leaf_load ok R hx hl h) hd

theorem leaf_store (ok : c.Ok) (R : c.R ρ st s.heap) {M : Model} {i : Nat} {x : Str} {v : V} {val : Value} (hx : c.sc.names[i]? = some (x, .local)) (hl : c.sc.names.lookup x = some .local) (r : VV c ρ s v val) :
    wpAny M A (storeName c.env x val) (fun _ s' => Ev c s ρ s' ρ (st.put i v)) E s := by
  obtain ⟨m, F, l⟩ := R.frame
  refine wpAny_storeName_local (env := c.env) hl F.ns (fun h' hn hs => ?_) (by show (c.sc.kind == .class || (c.sc.kind == .module && _)) = false; rw [ok.kind]; rfl)
  obtain ⟨a, b⟩ := R.store l hx ok.nd r hn hs
  exact ⟨a, List.prefix_refl _, b, rfl, rfl⟩

/-- attrs -/
theorem attrName_inj : ∀ j < 4, ∀ k < 4, (attrName j == attrName k) = decide (j = k) := by decide +kernel

theorem attr_get {C : Addr} {B : PySem.Heap} {h : PySem.Heap} : ∀ {vs : List V} {es : List DictEntry} {j k : Nat} {w : V}, AttrEs C B ρ h j vs es → vs[k]? = some w → j + vs.length ≤ 4 → ∃ val, getL (attrName (j + k)) es = some (some val) ∧ VR C B ρ h w val := by
  intro vs es j k w x
  induction x generalizing k with
  | nil => intro h; simp at h
  | @cons j v vs hs t val es r _ ih =>
    intro h hz
    simp only [List.length_cons] at hz
    cases k with
    | zero =>
      simp at h; subst h
      refine ⟨val, ?_, r⟩
      unfold getL
      have : (⟨hs, .str (attrName j) t, val⟩ : DictEntry).key.isStr (attrName (j + 0)) = true := by simp [Value.isStr]
      rw [List.find?_cons, this]
    | succ k =>
      simp at h
      have hk : k < vs.length := (List.getElem?_eq_some_iff.mp h).1
      obtain ⟨val', e, r'⟩ := ih h (by exact om268 hz)
      refine ⟨val', ?_, r'⟩
      have q : (⟨hs, .str (attrName j) t, val⟩ : DictEntry).key.isStr (attrName (j + (k + 1))) = false := by
        simp only [Value.isStr]
        rw [attrName_inj j (by exact om267 hz) _ (by exact om347 hz hk)]; simp
      have q2 : j + 1 + k = j + (k + 1) := by exact om67
      rw [q2] at e
      unfold getL at e ⊢
      rw [List.find?_cons, q]
      dsimp only
      split at e
      · rename_i en he; rw [he]; exact e
      · split at e <;> cases e

theorem leaf_attr (fx : Fx c.P) (ok : c.Ok) (R : c.R ρ st s.heap) {r : V} {v : Value} {k : Nat} (x : VV c ρ s r v) (h : may (attrV st.heap r k) fun w => Q w st) :
    wpAny (model c.P.prog c.P.w) A (getAttr v (attrName k) true) (PE c s ρ Q) E s := by
  obtain ⟨w, e, hq⟩ := may_ex h
  unfold attrV at e
  split at e
  · rename_i n
    split at e
    · rename_i vs hn
      obtain ⟨dx, x, rfl, e1, e2⟩ := x.obj_inv
      obtain ⟨a, ea, oa⟩ := R.get hn
      rw [e1] at ea; cases ea
      obtain ⟨hz, es, ep, hd, r⟩ := oa
      obtain ⟨val, g, rv⟩ := attr_get r e (by exact om500 hz)
      rw [Nat.zero_add] at g
      obtain ⟨m, F, l⟩ := R.frame
      have hv : handedIn val = true := by cases rv <;> rfl
      exact get_own F (fx.X.keeps ok.base) ⟨e2, rfl, rfl, hd⟩ (fx.got k) fx.hasd (fx.noattr k) rfl g hv (endT R rv hq)
    · cases e
  · cases e

theorem leaf_sub (R : c.R ρ st s.heap) {r ri : V} {v vi : Value} {value slice : Expr} (x : VV c ρ s r v) (xi : VV c ρ s ri vi) (hs : subscripted slice false v vi = operate [v, vi] (getItem v vi))
    (h : may (subV st.heap r ri) fun w => Q w st) : wpAny (model c.P.prog c.P.w) A (subscriptTail value slice v vi) (PE c s ρ Q) E s := by
  obtain ⟨w, e, hq⟩ := may_ex h
  unfold subV at e
  split at e
  · rename_i n k
    split at e
    · rename_i xs hn
      split at e
      · rename_i hk
        obtain ⟨_, rfl, e1⟩ := x.ref_inv
        obtain ⟨t, rfl⟩ := xi.int_inv
        obtain ⟨a, ea, vs, ep, hl, rl⟩ := R.get hn
        rw [e1] at ea; cases ea
        obtain ⟨val, ev, rv⟩ := rl.get e
        have hb := (List.getElem?_eq_some_iff.mp e).1
        have hk2 := hk.2
        unfold lim at hk2
        exact tail_any hl.isList.typeIs PySem.slot_list_getitem.lookup (wpAny_getItem_list hl.isList hk.1 (by exact om58 hb hk2) (by simpa using ev) (endE R rv hq)) hs
      · cases e
    · cases e
  · rename_i a b k
    obtain ⟨x, va, vb, ep, rfl, hx, ra, rb⟩ := x.pair_inv
    obtain ⟨t, rfl⟩ := xi.int_inv
    split at e
    · rename_i q; subst q; cases e
      exact item_tupleT (l := [va, vb]) (j := 0) ⟨_, hx, rfl, _, rfl⟩ (by decide) (by decide) (by rfl) rfl (endE R ra hq) hs
    · split at e
      · rename_i q; subst q; cases e
        exact item_tupleT (l := [va, vb]) (j := 1) ⟨_, hx, rfl, _, rfl⟩ (by decide) (by decide) (by rfl) rfl (endE R rb hq) hs
      · cases e
  · cases e

/-- the operations on ints -/
inductive OpR : Operator → Bop → Prop
  | add : OpR .Add .add
  | sub : OpR .Sub .sub
  | mul : OpR .Mult .mul
  | mod : OpR .Mod .mod
  | fdiv : OpR .FloorDiv .fdiv
  | shl : OpR .LShift .shl
  | shr : OpR .RShift .shr
  | and : OpR .BitAnd .and
  | or : OpR .BitOr .or
  | xor : OpR .BitXor .xor
  | pow : OpR .Pow .pow

theorem leaf_bin {M : Unit} {n : Nat} (rm : Rm A n) (R : c.R ρ st s.heap) {op : Operator} {bop : Bop} (o : OpR op bop) {r r' : V} {v v' : Value} (x : VV c ρ s r v) (y : VV c ρ s r' v') (h : may (binV bop r r') fun w => Q w st) :
    wpAny (model c.P.prog c.P.w) A (binaryOp op v v') (PE c s ρ Q) E s := by
  obtain ⟨w, e, hq⟩ := may_ex h
  unfold binV at e
  split at e
  · rename_i a b
    obtain ⟨i, e, rfl⟩ := Option.map_eq_some_iff.mp e
    obtain ⟨_, rfl⟩ := x.int_inv; obtain ⟨_, rfl⟩ := y.int_inv
    cases o <;> simp only [binI] at e
    case add => cases e; exact add_int (endT R (.int _ _) hq)
    case sub => cases e; exact sub_int (endT R (.int _ _) hq)
    case mul =>
      split at e
      · rename_i q; cases e; exact mul_int (endT R (.int _ _) hq) (IntMulOk.of_left (Nat.le_trans (intBits_le q) (by decide)))
      · cases e
    case mod =>
      split at e
      · rename_i q; cases e
        refine mod_int' (by exact om82 q) (endT R ?_ hq)
        rw [Int.fmod_eq_emod_of_nonneg _ (by exact om83 q)]; exact .int _ _
      · cases e
    case fdiv =>
      split at e
      · rename_i q; cases e
        refine floordiv_int (by exact om82 q.1) (endT R ?_ hq) (.inl ?_)
        · rw [Int.fdiv_eq_ediv_of_nonneg _ (by exact om83 q.1)]; exact .int _ _
        · unfold Builtin.divisionGoesByPylong
          have hb : b.natAbs < 2 ^ 10 := by exact om191 q.1 q.2.2
          have hb0 : b.natAbs ≠ 0 := by exact om192 q.1
          have hlog : b.natAbs.log2 < 10 := (Nat.log2_lt hb0).mpr hb
          dsimp only
          rw [Bool.and_eq_false_iff]; left
          rw [decide_eq_false_iff_not]
          split <;> (first | exact om574 | exact om575 hlog)
      · cases e
    case shl =>
      split at e
      · rename_i q; cases e
        refine lshift_int_or rm.hh (fun z => absurd z (by exact om60 q.1)) (fun _ => ?_) (fun _ => endT R (.int _ _) hq)
        have := intBits_le q.2.2
        exact om186 q.2.1 this
      · cases e
    case shr =>
      split at e
      · rename_i q; cases e
        refine rshift_int q (endT R ?_ hq)
        rw [Int.fdiv_eq_ediv_of_nonneg _ (Int.pow_nonneg (by decide))]; exact .int _ _
      · cases e
    case and =>
      split at e
      · rename_i q; cases e
        refine and_int (endT R ?_ hq)
        rw [bitAnd_nonneg q.1 q.2]; exact .int _ _
      · cases e
    case or =>
      split at e
      · rename_i q; cases e
        refine or_int (endT R ?_ hq)
        rw [bitOr_nonneg q.1 q.2]; exact .int _ _
      · cases e
    case xor =>
      split at e
      · rename_i q; cases e
        refine xor_int (endT R ?_ hq)
        rw [bitXor_nonneg q.1 q.2]; exact .int _ _
      · cases e
    case pow =>
      split at e
      · rename_i q; cases e
        refine pow_int q.1 ?_ (endT R (.int _ _) hq)
        have h1 := intBits_le q.2.2
        have h2 : (Builtin.Int.intBits a : Int) * b ≤ 64 * 1000 := Int.mul_le_mul (by exact om501 h1) (by exact om199 q.2.1) (by exact om195 q.1) (by exact om549)
        exact om198 h2
      · cases e
  · cases e
end
end Mine
end

-- part S4a
section
open PySem PySem.W PyProof.Rows
open PySem.SeqAt (shaped)
set_option Elab.async false
set_option linter.unusedVariables false
set_option maxRecDepth 20000
namespace Mine

section
variable {prog : Program} {w : World} {A : Around} {E : Value → Shared → Prop} {s : Shared}
theorem richLe_int {a b : Int} {t u : Tok} {Q : Value → Shared → Prop} (h : Q (.bool (decide (a ≤ b))) s) : wpAny (model prog w) A (richCompare .LtE (.int a t) (.int b u)) Q E s :=
  le_int h

theorem tuple_le_tree {a b : Addr} {x₁ x₂ y₁ y₂ : Int} {t₁ t₂ u₁ u₂ : Tok} {k k' : Nat} {P : Fin → Shared → Prop}
    (ha : s.heap.get? a = some { cls := .type "tuple", data := .seq #[.int x₁ t₁, .int x₂ t₂] k }) (hb : s.heap.get? b = some { cls := .type "tuple", data := .seq #[.int y₁ u₁, .int y₂ u₂] k' })
    (h : P (.done (.ret (.bool (decide (x₁ < y₁ ∨ (x₁ = y₁ ∧ x₂ ≤ y₂)))))) s) :
    wpAny (model prog w) A (Builtin.«tuple.__le__» ⟨[.ref a, .ref b], []⟩) P E s := by
  show wpAny _ _ (isInstance (.ref b) (.type "tuple") >>= _) _ _ s
  refine wpAny_bind (wpAny_isInstance (T := "tuple") ⟨_, hb, rfl⟩ isSubtype_tuple_tuple ?_)
  simp only [Bool.not_true, Bool.false_eq_true, if_false]
  refine wpAny_bind (wpAny_tupleItemsOf ha rfl ?_)
  refine wpAny_bind (wpAny_tupleItemsOf hb rfl ?_)
  refine wpAny_bind ?_
  simp only [List.zip_cons_cons, List.zip_nil_right, List.forIn_cons, List.forIn_nil]
  refine wpAny_bind ?_
  refine wpAny_bind ((intKind prog w).eqBool (a := x₁) (b := y₁) (intKind_is _ _ _ _) (intKind_is _ _ _ _) ?_)
  by_cases e1 : x₁ = y₁
  · rw [decide_eq_true e1]
    simp only [Bool.not_true, Bool.false_eq_true, if_false]
    refine wpAny_pure ?_
    dsimp only
    refine wpAny_bind ?_
    refine wpAny_bind ((intKind prog w).eqBool (a := x₂) (b := y₂) (intKind_is _ _ _ _) (intKind_is _ _ _ _) ?_)
    by_cases e2 : x₂ = y₂
    · rw [decide_eq_true e2]
      simp only [Bool.not_true, Bool.false_eq_true, if_false]
      refine wpAny_pure ?_
      dsimp only
      refine wpAny_pure ?_
      dsimp only
      refine wpAny_pure ?_
      have q : decide (x₁ < y₁ ∨ (x₁ = y₁ ∧ x₂ ≤ y₂)) = true := by simp; exact om183 e1 e2
      rw [q] at h; exact h
    · rw [decide_eq_false e2]
      simp only [Bool.not_false, if_true]
      refine wpAny_bind (wpAny_rule (wpAny_bind (richLe_int ?_)))
      refine wpAny_bind (wpAny_pure (wpAny_pure ?_))
      dsimp only
      refine wpAny_pure ?_
      dsimp only
      refine wpAny_pure ?_
      have q : decide (x₁ < y₁ ∨ (x₁ = y₁ ∧ x₂ ≤ y₂)) = decide (x₂ ≤ y₂) := by simp [e1]
      rw [q] at h; exact h
  · rw [decide_eq_false e1]
    simp only [Bool.not_false, if_true]
    refine wpAny_bind (wpAny_rule (wpAny_bind (richLe_int ?_)))
    refine wpAny_bind (wpAny_pure (wpAny_pure ?_))
    dsimp only
    refine wpAny_pure ?_
    dsimp only
    refine wpAny_pure ?_
    have q : decide (x₁ < y₁ ∨ (x₁ = y₁ ∧ x₂ ≤ y₂)) = decide (x₁ ≤ y₁) := by simp [e1]; exact om180 e1
    rw [q] at h; exact h

theorem le_pair {a b : Addr} {x₁ x₂ y₁ y₂ : Int} {t₁ t₂ u₁ u₂ : Tok} {k k' : Nat} {Q : Value → Shared → Prop} (hu : A.units < cLine)
    (ha : s.heap.get? a = some { cls := .type "tuple", data := .seq #[.int x₁ t₁, .int x₂ t₂] k }) (hb : s.heap.get? b = some { cls := .type "tuple", data := .seq #[.int y₁ u₁, .int y₂ u₂] k' })
    (h : Q (.bool (decide (x₁ < y₁ ∨ (x₁ = y₁ ∧ x₂ ≤ y₂)))) s) : wpAny (model prog w) A (compareOp .LtE (.ref a) (.ref b)) Q E s :=
  cmp_ofLtE (wpAny_richCompare_same_room (op := .LtE) (T := "tuple") ⟨_, ha, rfl⟩ ⟨_, hb, rfl⟩ F.slot_tuple_le
    (wpAny_call_entry F.slot_tuple_le (T := "tuple") ⟨_, ha, rfl⟩ F.entry_tuple_le (tuple_le_tree ha hb ⟨_, rfl, (fun e => nomatch e), h⟩) (F.args_tuple_le_2 _ _)) hu)
end

noncomputable def toPy : V → PyData
  | .int i => .int i
  | .pair (.int a) (.int b) => .tuple [.int a, .int b]
  | _ => .none

section
variable {C : Addr} {B : PySem.Heap} {ρ : List Addr} {h : PySem.Heap}
theorem flat_cases {r : V} (f : r.flat = true) : r = .none ∨ (∃ i, r = .int i) ∨ ∃ a b, r = .pair (.int a) (.int b) := by
  unfold V.flat at f
  split at f
  · exact .inl rfl
  · exact .inr (.inl ⟨_, rfl⟩)
  · exact .inr (.inr ⟨_, _, rfl⟩)
  · cases f
theorem flat_reads {r : V} {v : Value} (x : VR C B ρ h r v) (f : r.flat = true) : Reads h v (toPy r) [] := by
  rcases flat_cases f with rfl | ⟨i, rfl⟩ | ⟨a, b, rfl⟩
  · cases x; exact .none
  · cases x; exact .int _ _
  · cases x with
    | pair hx ra rb =>
    cases ra; cases rb
    exact reads_tuple_at hx rfl rfl (.cons (as := []) (bs := []) (.int _ _) (.cons (as := []) (bs := []) (.int _ _) .nil))
theorem flat_readsAll : ∀ {xs : List V} {vs : List Value}, All2 (VR C B ρ h) xs vs → xs.all V.flat = true → ReadsAll h vs (xs.map toPy) [] := by
  intro xs vs x
  induction x with
  | nil => intro _; exact .nil
  | cons a _ ih =>
    intro f
    rw [List.all_cons, Bool.and_eq_true] at f
    exact .cons (as := []) (bs := []) (flat_reads a f.1) (ih f.2)
theorem toPy_eqv {a b : V} (ha : a.flat = true) (hb : b.flat = true) : PyData.eqv (toPy a) (toPy b) = decide (a = b) := by
  rcases flat_cases ha with rfl | ⟨i, rfl⟩ | ⟨p, q, rfl⟩ <;> rcases flat_cases hb with rfl | ⟨j, rfl⟩ | ⟨r, t, rfl⟩ <;> simp [toPy, PyData.eqv, PyData.eqvAll]
  · by_cases e : i = j <;> simp [e]
  · by_cases e1 : p = r <;> by_cases e2 : q = t <;> simp [e1, e2]
theorem toPy_eqvAll : ∀ {xs ys : List V}, xs.all V.flat = true → ys.all V.flat = true → PyData.eqvAll (xs.map toPy) (ys.map toPy) = decide (xs = ys)
  | [], [], _, _ => by simp [PyData.eqvAll]
  | [], _ :: _, _, _ => by simp [PyData.eqvAll]
  | _ :: _, [], _, _ => by simp [PyData.eqvAll]
  | a :: r, b :: t, h1, h2 => by
    rw [List.all_cons, Bool.and_eq_true] at h1 h2
    simp only [List.map_cons, PyData.eqvAll, toPy_eqv h1.1 h2.1, toPy_eqvAll h1.2 h2.2]
    by_cases e1 : a = b <;> by_cases e2 : r = t <;> simp [e1, e2]
theorem toPy_can (a : V) : (toPy a).canLay0 = true := by
  unfold toPy; split <;> simp [PyData.canLay0, PyData.canLayAll0]
theorem toPy_canAll : ∀ xs : List V, PyData.canLayAll0 (xs.map toPy) = true
  | [] => by simp [PyData.canLayAll0]
  | a :: r => by simp [PyData.canLayAll0, toPy_can a, toPy_canAll r]
theorem toPy_depth (a : V) : (toPy a).depth ≤ 2 := by
  unfold toPy; split <;> simp [PyData.depth, PyData.depthAll]
theorem toPy_depthAll : ∀ xs : List V, PyData.depthAll (xs.map toPy) ≤ 3
  | [] => by simp [PyData.depthAll]
  | a :: r => by
    have h1 := toPy_depth a
    have h2 := toPy_depthAll r
    simp only [List.map_cons, PyData.depthAll]; exact om278 h1 h2
theorem toPy_shaped (xs : List V) : shaped (.list (xs.map toPy)) = true := by
  unfold shaped
  rw [Bool.and_eq_true]
  refine ⟨?_, decide_eq_true ?_⟩
  · simp [PyData.canLay0, toPy_canAll]
  · have := toPy_depthAll xs
    simp only [PyData.depth]; exact om499 this
end

inductive CopR : CmpOp → Cop → Prop
  | lt : CopR .Lt .lt
  | le : CopR .LtE .le
  | gt : CopR .Gt .gt
  | ge : CopR .GtE .ge
  | eq : CopR .Eq .eq
  | ne : CopR .NotEq .ne

section
variable {c : Cx} {A : Around} {E : Value → Shared → Prop} {s : Shared} {ρ : List Addr} {st : St} {Q : V → St → Prop} {n : Nat}
theorem leaf_cmp (rm : Rm A n) (R : c.R ρ st s.heap) {op : CmpOp} {cop : Cop} (o : CopR op cop) {r r' : V} {v v' : Value} (x : VV c ρ s r v) (y : VV c ρ s r' v') (h : may (cmpV st.heap cop r r') fun t => Q (.bool t) st) :
    wpAny (model c.P.prog c.P.w) A (compareOp op v v') (PE c s ρ Q) E s := by
  obtain ⟨t, e, hq⟩ := may_ex h
  have hu := rm.units
  have hc := cLine_is
  unfold cmpV at e
  split at e
  · cases e
    obtain ⟨_, rfl⟩ := x.int_inv; obtain ⟨_, rfl⟩ := y.int_inv
    cases o <;> simp only [cmpI] at hq
    case lt => exact lt_int (endE R (.bool _) hq)
    case le => exact le_int (endE R (.bool _) hq)
    case gt => exact gt_int (endE R (.bool _) hq)
    case ge => exact PyProof.Rows.ge_int (endE R (.bool _) hq)
    case eq => exact eq_int (endE R (by rw [show ∀ a b : Int, (a == b) = decide (a = b) from fun _ _ => rfl]; exact .bool _) hq)
    case ne => exact ne_int (endE R (by rw [show ∀ a b : Int, (a != b) = !decide (a = b) from fun _ _ => rfl]; exact .bool _) hq)
  · cases e
    obtain ⟨_, _, _, _, rfl, hx, ra, rb⟩ := x.pair_inv
    obtain ⟨_, _, _, _, rfl, hy, rc, rd⟩ := y.pair_inv
    obtain ⟨_, rfl⟩ := ra.int_inv; obtain ⟨_, rfl⟩ := rb.int_inv; obtain ⟨_, rfl⟩ := rc.int_inv; obtain ⟨_, rfl⟩ := rd.int_inv; cases o
    exact le_pair (by exact om295 hu hc) hx hy (endE R (.bool _) hq)
  · rename_i m k
    split at e
    · rename_i xs ys hm hn
      split at e
      · rename_i q
        rw [Bool.and_eq_true, Bool.and_eq_true, Bool.and_eq_true] at q
        cases e
        obtain ⟨_, rfl, e1⟩ := x.ref_inv
        obtain ⟨_, rfl, e2⟩ := y.ref_inv
        cases o
        obtain ⟨a, ea, vs, ep, hl, rl⟩ := R.get hm
        rw [e1] at ea; cases ea
        obtain ⟨b, eb, us, ep', hl', rl'⟩ := R.get hn
        rw [e2] at eb; cases eb
        refine ne_dataH (da := .list (xs.map toPy)) (db := .list (ys.map toPy)) (reads_list_at hl rfl rfl (flat_readsAll rl q.1.1.1)) (reads_list_at hl' rfl rfl (flat_readsAll rl' q.1.1.2)) (toPy_shaped _) (toPy_shaped _) (by exact om294 hu hc) (endE R ?_ hq)
        simp only [PyData.eqv]
        rw [toPy_eqvAll q.1.1.1 q.1.1.2]; exact .bool _
      · cases e
    · cases e
  · cases e

theorem leaf_truth (R : c.R ρ st s.heap) {QC : Bool → St → Prop} {r : V} {v : Value} (x : VV c ρ s r v) (h : may (truthV st.heap r) fun t => QC t st) :
    wpAny (model c.P.prog c.P.w) A (truthy v) (PC c s ρ QC) E s := by
  obtain ⟨t, e, hq⟩ := may_ex h
  unfold truthV at e
  split at e
  · cases e; cases x; exact wpAny_truthy_bool (endC R hq)
  · split at e
    · rename_i n _ xs hn
      split at e
      · rename_i q
        cases e
        obtain ⟨_, rfl, e1⟩ := x.ref_inv
        obtain ⟨a, ea, vs, ep, hl, rl⟩ := R.get hn
        rw [e1] at ea; cases ea
        have hz := rl.length
        unfold lim at q
        refine wpAny_truthy_list hl.isList (by rw [List.size_toArray]; exact om87 q hz) (endCT R ?_)
        have : (!vs.toArray.isEmpty) = !xs.isEmpty := by
          cases rl <;> simp
        rw [this]; exact hq
      · cases e
    · cases e
  · cases e

theorem leaf_len (R : c.R ρ st s.heap) {r : V} {v : Value} (x : VV c ρ s r v) (h : may (lenV st.heap r) fun k => Q (.int k) st) :
    wpAny (model c.P.prog c.P.w) A (call (.builtin "len") [v]) (PE c s ρ Q) E s := by
  obtain ⟨k, e, hq⟩ := may_ex h
  unfold lenV at e
  split at e
  · split at e
    · rename_i n _ xs hn
      split at e
      · rename_i q
        cases e
        obtain ⟨_, rfl, e1⟩ := x.ref_inv
        obtain ⟨a, ea, vs, ep, hl, rl⟩ := R.get hn
        rw [e1] at ea; cases ea
        have hz := rl.length
        unfold lim at q
        refine Calls.call_len_list hl.isList (by rw [List.size_toArray]; exact om87 q hz) (endT R ?_ hq)
        rw [List.size_toArray, ← hz]; exact .int _ _
      · cases e
    · rename_i n _ es hn
      split at e
      · rename_i q
        cases e
        obtain ⟨_, rfl, e1⟩ := x.ref_inv
        obtain ⟨a, ea, o, es', ep, t, ho, hx, hd, he, hk, hb, hf, hz⟩ := R.get hn
        rw [e1] at ea; cases ea
        unfold lim at q
        refine call_len_set ho hx hd hf (by exact om223 q hz) (endT R ?_ hq)
        rw [hz]; exact .int _ _
      · cases e
    · cases e
  · cases e
end
end Mine
end

-- part S4b
section
open PySem PySem.W PyProof.Rows
set_option Elab.async false
set_option linter.unusedVariables false
set_option maxRecDepth 20000
namespace Mine

theorem ns_unique {h : PySem.Heap} {L : Addr} {m m' : Str → Option Value} (a : h.Ns L m) (b : h.Ns L m') : m = m' := by
  obtain ⟨o, es, ep, e, d, _, f⟩ := a
  obtain ⟨o', es', ep', e', d', _, f'⟩ := b
  rw [e] at e'; cases e'
  rw [d] at d'; cases d'
  funext x; rw [← f x, f' x]
theorem ns_all {h h' : PySem.Heap} {L : Addr} {m : Str → Option Value} (a : h.Ns L m) (b : h'.Ns L m) : ∀ m', h.Ns L m' → h'.Ns L m' := fun m' c => by
  rw [ns_unique c a]; exact b

theorem isl_set {prog : Program} {w : World} {A : Around} {E : Value → Shared → Prop} {s : Shared} {l : Addr} {items : Array Value} {n : Nat} {k : Int} {t : Tok} {v : Value} {Q : Unit → Shared → Prop} (hl : IsL s.heap l items n)
    (h0 : 0 ≤ k) (hfit : k < 2 ^ 63) (hn : k < items.size)
    (hQ : Q () { s with heap := s.heap.update l (Obj.mapSeq (·.setIfInBounds k.toNat v)) }) :
    wpAny (model prog w) A (setItem (.ref l) (.int k t) v) Q E s := by
  unfold setItem
  try with_reducible refine wpAny_holding ?_
  first | refine wpAny_bind (wpAny_pure ?_) | skip
  refine wpAny_bind (wpAny_sequenceKey hl.isList.typeIs (by decide) ?_)
  refine wpAny_bind (wpAny_callSpecial?_slot (name := Str.ofString "__setitem__") hl.isList.typeIs PySem.slot_list_setitem
    (wpAny_call_entry PySem.slot_list_setitem hl.isList.typeIs PySem.entry_list_setitem ?_ (PySem.args_list_setitem _ _ _)))
  show wpAny _ _ (Builtin.List.listSubscript? (.int k t) >>= _) _ _ s
  refine wpAny_bind (wpAny_listSubscript_int (fitsIndex_of h0 hfit) ?_)
  clear hfit
  obtain ⟨j, rfl⟩ := Int.eq_ofNat_of_zero_le h0
  have hj : j < items.size := by exact om217 hn
  have hx' : items[j]? = some items[j] := Array.getElem?_eq_getElem hj
  show wpAny _ _ ((seqItemAt l j >>= fun r => pure (r.map (j, ·))) >>= _) _ _ s
  refine wpAny_bind (wpAny_bind (wpAny_seqItemAt hl rfl (wpAny_pure ?_)))
  rw [hx']
  show wpAny _ _ (setSeqItemAt l j v >>= _) _ _ s
  refine wpAny_bind (wpAny_setSeqItemAt hl rfl ?_)
  first
    | exact wpAny_bind (wpAny_pure (wpAny_pure ⟨.none, rfl, wpAny_pure hQ⟩))
    | exact wpAny_pure ⟨.none, rfl, wpAny_pure hQ⟩

section
variable {c : Cx} {A : Around} {E : Value → Shared → Prop} {s : Shared} {ρ : List Addr} {st : St} {Q : V → St → Prop} {n : Nat}

theorem upd_list (R : c.R ρ st s.heap) {k : Nat} {a : Addr} {xs : List V} {vs : List Value} {m : Nat} {f : Array Value → Array Value} {us : List Value} (e : ρ[k]? = some a) (hl : IsL s.heap a vs.toArray m) (hf : f vs.toArray = us.toArray) (r : All2 (VV c ρ s) xs us) {tk : Nat} :
    Ev c s ρ { s with heap := s.heap.update a (Obj.mapSeq f), toks := tk } ρ ⟨st.loc, st.heap.set k (.list xs)⟩ := by
  have q := PySem.IsL.update hl f
  rw [hf] at q
  exact Ev.turnList R e (Heap.SameBut.update ..) q r

/-- x[i] = v -/
theorem leaf_set (rm : Rm A n) (R : c.R ρ st s.heap) {QU : St → Prop} {ro ri rv : V} {vo vi vv : Value} (xo : VV c ρ s ro vo) (xi : VV c ρ s ri vi) (xv : VV c ρ s rv vv) (h : may (setV st.heap ro ri rv) fun H => QU ⟨st.loc, H⟩) :
    wpAny (model c.P.prog c.P.w) A (setItem vo vi vv) (fun _ s' => ∃ ρ' st', Ev c s ρ s' ρ' st' ∧ QU st') E s := by
  obtain ⟨H, e, hq⟩ := may_ex h
  unfold setV at e
  split at e
  · rename_i m k
    split at e
    · rename_i xs hm
      split at e
      · rename_i q
        cases e
        obtain ⟨_, rfl, e1⟩ := xo.ref_inv
        obtain ⟨t, rfl⟩ := xi.int_inv
        obtain ⟨a, ea, vs, ep, hl, rl⟩ := R.get hm
        rw [e1] at ea; cases ea
        have hz := rl.length
        have q3 := q.2.2
        unfold lim at q3
        refine isl_set hl q.1 (by exact om58 q.2.1 q3) (by simp only [List.size_toArray]; exact om188 q.2.1 hz) ⟨ρ, _, upd_list (tk := s.toks) R e1 hl (us := vs.set k.toNat vv) (by simp) (rl.set _ xv), hq⟩
      · cases e
    · cases e
  · rename_i m a b v
    split at e
    · rename_i es hm
      split at e
      · rename_i q
        cases e
        obtain ⟨_, rfl, e1⟩ := xo.ref_inv
        obtain ⟨_, _, _, _, rfl, hx, ra, rb⟩ := xi.pair_inv
        obtain ⟨_, rfl⟩ := ra.int_inv; obtain ⟨_, rfl⟩ := rb.int_inv; obtain ⟨_, rfl⟩ := xv.int_inv
        obtain ⟨d, ed, hs, xs, hd, rd⟩ := R.get hm
        rw [e1] at ed; cases ed
        have hu := rm.units
        have hc := cLine_is
        have hz := rd.length
        have q1 := q.1
        unfold lim at q1
        refine wpAny_setItem_heap (knd := tupleKind (intKind c.P.prog c.P.w)) (k := [a, b]) (tupleKind_room_in1 (by exact om110 hu hc)) ⟨_, _, _, hx, rfl, rfl, .cons (intKind_is _ _ _ _) (.cons (intKind_is _ _ _ _) .nil)⟩ hd (fun h' hd' sb => ?_) (by rw [sizeLine_eq]; exact om15 q1 hz)
        refine ⟨ρ, _, Ev.turn (ob := .dict (es ++ [((a, b), v)])) R e1 sb ⟨hs, _, hd', ?_⟩, hq⟩
        have key : ∀ {es : List ((Int × Int) × Int)} {xs : List (List Int × Addr × Value)}, All2 DRel es xs → (es.lookup (a, b)).isNone = true → atKey xs [a, b] = none := by
          intro es xs x
          induction x with
          | nil => intro _; rfl
          | @cons y z ys zs hr _ ih =>
            obtain ⟨⟨p1, p2⟩, w⟩ := y
            intro hn
            rw [List.lookup_cons] at hn
            split at hn
            · cases hn
            · rename_i q
              have hne : ¬ (z.1 = [a, b]) := by
                rw [hr.1]
                intro z; injection z with z1 z2; injection z2 with z2 _
                simp at q; exact q z1.symm z2.symm
              unfold atKey
              rw [List.find?_cons, decide_eq_false hne]
              exact ih hn
        rw [storedH_new (key rd q.2)]
        exact rd.append (.cons ⟨rfl, _, rfl⟩ .nil)
      · cases e
    · cases e
  · cases e

/-- a list's method by name -/
theorem list_meth {name : Str} {id : String} {a : Addr} {its : Array Value} {k : Nat} {pl : Sem Bool} {J : Value × List Value → Shared → Prop} (hl : IsL s.heap a its k) (slot : Slot "list" name id) (hty : typeOf (.builtin id) = pure (.type "method_descriptor"))
    (h : J (.builtin id, [.ref a]) s) : wpAny (model c.P.prog c.P.w) A (getMethod (.ref a) name pl) J E s :=
  getMethod_builtin hl.isList.typeIs F.plainAttrs_list slot hty (fun b e => by cases e; exact ⟨_, hl, rfl⟩) h

theorem isl_of (R : c.R ρ st s.heap) {r : V} {v : Value} (x : VV c ρ s r v) (h : isL st.heap r) : ∃ k a xs vs n, r = .ref k ∧ v = .ref a ∧ ρ[k]? = some a ∧ st.heap[k]? = some (.list xs) ∧ IsL s.heap a (vs : List Value).toArray n ∧ All2 (VV c ρ s) xs vs := by
  obtain ⟨k, xs, rfl, hk⟩ := h
  obtain ⟨_, rfl, e1⟩ := x.ref_inv
  obtain ⟨a, ea, vs, ep, hl, rl⟩ := R.get hk
  rw [e1] at ea; cases ea
  exact ⟨k, _, xs, vs, ep, rfl, rfl, e1, hk, hl, rl⟩

theorem leaf_append (R : c.R ρ st s.heap) {r : V} {v : Value} {pl : Sem Bool} {pos : Pos} (x : VV c ρ s r v) (hk : isL st.heap r) {t : Sem Value}
    (ht : wpAny (model c.P.prog c.P.w) A t (PE c s ρ fun w st' => may (appendV st'.heap r w) fun H => Q .none ⟨st'.loc, H⟩) E s) :
    wpAny (model c.P.prog c.P.w) A (getMethod v "append" pl) (fun fx s₂ => wpAny (model c.P.prog c.P.w) A (callWith pos fx.1 fx.2 [(false, t)] []) (PE c s ρ Q) E s₂) E s := by
  obtain ⟨k, a, xs, vs, m, rfl, rfl, e1, hk, hl, rl⟩ := isl_of R x hk
  refine list_meth hl F.slot_list_append F.type_list_append (P.append_list (seqE ht fun w s' ρ' rw st' ev xw hq => ?_))
  obtain ⟨H, e, hq⟩ := may_ex hq
  unfold appendV at e
  dsimp only at e
  split at e
  · rename_i ys hy
    split at e
    · rename_i q; cases e
      obtain ⟨a', ea, us, ep, hl', rl'⟩ := ev.rep.get hy
      rw [pre_get ev.pre e1] at ea; cases ea
      have hz := rl'.length
      unfold lim at q
      refine ⟨us.toArray, ep, by simp only [List.size_toArray, sizeLine_eq]; exact om15 q hz, hl', ?_⟩
      exact PE.via ev ⟨ρ', .none, _, upd_list (tk := s'.toks) ev.rep (pre_get ev.pre e1) hl' (us := us ++ [w]) (by simp) (rl'.append (.cons xw .nil)), .none, hq⟩
    · cases e
  · cases e

theorem leaf_pop (R : c.R ρ st s.heap) {r : V} {v : Value} {pl : Sem Bool} {pos : Pos} (x : VV c ρ s r v) (h : may (popV st.heap r) fun y => Q y.1 ⟨st.loc, y.2⟩) :
    wpAny (model c.P.prog c.P.w) A (getMethod v "pop" pl) (fun fx s₂ => wpAny (model c.P.prog c.P.w) A (callWith pos fx.1 fx.2 [] []) (PE c s ρ Q) E s₂) E s := by
  obtain ⟨⟨y, H⟩, e, hq⟩ := may_ex h
  unfold popV at e
  split at e
  · rename_i k
    split at e
    · rename_i xs hk
      split at e
      · rename_i q
        obtain ⟨y', ey, e⟩ := Option.map_eq_some_iff.mp e
        cases e
        obtain ⟨k', a, xs', vs, m, eqr, rfl, e1, hk', hl, rl⟩ := isl_of R x ⟨k, xs, rfl, hk⟩
        cases eqr
        rw [hk] at hk'; cases hk'
        have hz := rl.length
        unfold lim at q
        obtain ⟨val, ev, rv⟩ := rl.last ey
        refine list_meth hl F.slot_list_pop F.type_list_pop (P.pop_list (y := val) hl ?_ ?_ (by simp only [List.size_toArray, sizeLine_eq]; exact om15 q hz))
        · rw [List.getLast?_eq_getElem?] at ev
          simpa using ev
        · have U := upd_list (tk := s.toks) R e1 hl (f := fun xs => xs.eraseIdxIfInBounds (vs.toArray.size - 1)) (us := vs.dropLast) ?_ rl.dropLast
          · exact ⟨ρ, _, _, U, U.vv rv, hq⟩
          · have hne : vs ≠ [] := by rintro rfl; simp at ev
            have hpos : 0 < vs.length := by cases vs with | nil => exact absurd rfl hne | cons => simp
            simp only [Array.eraseIdxIfInBounds, List.size_toArray]
            rw [dif_pos (by exact om144 hpos)]
            simp [List.eraseIdx_length_sub_one]
      · cases e
    · cases e
  · cases e

theorem fits_of {k : Int} (h0 : 0 ≤ k) (h1 : k < 2 ^ 63) : Builtin.List.listFitsIndex k = true := fitsIndex_of h0 h1

theorem leaf_popAt (R : c.R ρ st s.heap) {r : V} {v : Value} {pl : Sem Bool} {pos : Pos} (x : VV c ρ s r v) (hk : isL st.heap r) {t : Sem Value}
    (ht : wpAny (model c.P.prog c.P.w) A t (PE c s ρ fun w st' => may (popAtV st'.heap r w) fun y => Q y.1 ⟨st'.loc, y.2⟩) E s) :
    wpAny (model c.P.prog c.P.w) A (getMethod v "pop" pl) (fun fx s₂ => wpAny (model c.P.prog c.P.w) A (callWith pos fx.1 fx.2 [(false, t)] []) (PE c s ρ Q) E s₂) E s := by
  obtain ⟨k, a, xs, vs, m, rfl, rfl, e1, hk, hl, rl⟩ := isl_of R x hk
  refine list_meth hl F.slot_list_pop F.type_list_pop (P.pop_at_list (seqE ht fun w s' ρ' rw st' ev xw hq => ?_))
  obtain ⟨⟨y, H⟩, e, hq⟩ := may_ex hq
  cases rw with
  | int i =>
    unfold popAtV at e
    dsimp only at e
    split at e
    · rename_i ys hy
      split at e
      · rename_i q
        obtain ⟨y', ey, e⟩ := Option.map_eq_some_iff.mp e
        cases e
        obtain ⟨a', ea, us, ep, hl', rl'⟩ := ev.rep.get hy
        rw [pre_get ev.pre e1] at ea; cases ea
        have hz := rl'.length
        have q2 := q.2
        unfold lim at q2
        obtain ⟨t, rfl⟩ := xw.int_inv
        obtain ⟨val, evl, rv⟩ := rl'.get ey
        have hb := (List.getElem?_eq_some_iff.mp evl).1
        refine ⟨us.toArray, ep, i, t, i.toNat, val, by simp only [List.size_toArray, sizeLine_eq]; exact om15 q2 hz, rfl, hl', fits_of q.1 (by exact om187 hb q2 hz), ?_, by simpa using evl, ?_⟩
        · unfold seqIndex?
          simp only [List.size_toArray]
          have h1 : ¬ i < 0 := by exact om60 q.1
          simp [h1]
          exact om185 q.1 hb
        · have U := upd_list (tk := s'.toks) ev.rep (pre_get ev.pre e1) hl' (f := fun xs => xs.eraseIdxIfInBounds i.toNat) (us := us.eraseIdx i.toNat) (by
            simp only [Array.eraseIdxIfInBounds, List.size_toArray]
            rw [dif_pos hb]
            simp) (rl'.eraseIdx _)
          exact PE.via ev ⟨ρ', _, _, U, U.vv rv, hq⟩
      · cases e
    · cases e
  | _ => cases e

theorem leaf_insert (R : c.R ρ st s.heap) {r : V} {v : Value} {pl : Sem Bool} {pos : Pos} (x : VV c ρ s r v) (hk : isL st.heap r) {t u : Sem Value} {Q₁ : V → St → Prop}
    (ht : wpAny (model c.P.prog c.P.w) A t (PE c s ρ Q₁) E s)
    (hu : ∀ s₁ ρ₁ ri st₁ vi, Ev c s ρ s₁ ρ₁ st₁ → VV c ρ₁ s₁ ri vi → Q₁ ri st₁ → wpAny (model c.P.prog c.P.w) A u (PE c s₁ ρ₁ fun w st' => may (insertV st'.heap r ri w) fun H => Q .none ⟨st'.loc, H⟩) E s₁) :
    wpAny (model c.P.prog c.P.w) A (getMethod v "insert" pl) (fun fx s₂ => wpAny (model c.P.prog c.P.w) A (callWith pos fx.1 fx.2 [(false, t), (false, u)] []) (PE c s ρ Q) E s₂) E s := by
  obtain ⟨k, a, xs, vs, m, rfl, rfl, e1, hk, hl, rl⟩ := isl_of R x hk
  refine list_meth hl F.slot_list_insert F.type_list_insert ?_
  refine method_meets F.slot_list_insert F.entry_list_insert rfl (Calls.evalArgs_plain (Calls.spliced_cons (seqE ht fun vi s₁ ρ₁ ri st₁ ev1 xi q1 => Calls.spliced_cons (seqE (hu s₁ ρ₁ ri st₁ vi ev1 xi q1) fun w s' ρ' rw st' ev2 xw hq => Calls.spliced_nil ?_))))
  obtain ⟨H, e, hq⟩ := may_ex hq
  have ev := ev1.trans ev2
  have xi' := ev2.vv xi
  cases ri with
  | int i =>
    unfold insertV at e
    dsimp only at e
    split at e
    · rename_i ys hy
      split at e
      · rename_i q
        cases e
        obtain ⟨a', ea, us, ep, hl', rl'⟩ := ev.rep.get hy
        rw [pre_get ev.pre e1] at ea; cases ea
        have hz := rl'.length
        have q2 := q.2.2
        unfold lim at q2
        obtain ⟨t, rfl⟩ := xi'.int_inv
        refine ⟨rfl, ⟨_, hl', rfl⟩, F.args_list_insert_3 _ _ _, _, PySem.AutoSeq1.list_insert_list_int_val_1 a _ ep i t w (by simp [fits_of q.1 (show i < 2 ^ 63 by exact om184 q.2.1 q2)]) (by simp only [List.size_toArray, sizeLine_eq]; exact om15 q2 hz), hl', ?_⟩
        have U := upd_list (tk := s'.toks) ev.rep (pre_get ev.pre e1) hl' (f := fun xs => have k := if i < 0 then (i + (xs.size : Int)).toNat else min i.toNat xs.size; (xs.extract 0 k).push w ++ xs.extract k) (us := us.take i.toNat ++ w :: us.drop i.toNat) (by
          have h1 : ¬ i < 0 := by exact om60 q.1
          have h2 : min i.toNat us.length = i.toNat := by exact om341 hz q.2.1
          simp only [if_neg h1, List.size_toArray, h2]
          exact kl_ins_eq us i.toNat w) ((rl'.take _).append (.cons xw (rl'.drop _)))
        exact PE.via ev ⟨ρ', .none, _, U, .none, hq⟩
      · cases e
    · cases e
  | _ => cases e
end
end Mine
end

-- part S4c
section
open PySem PySem.W PyProof.Rows
set_option Elab.async false
set_option linter.unusedVariables false
set_option maxRecDepth 20000
namespace Mine

theorem foldl_repl (x : Value) : ∀ (k : Nat) (acc : Array Value), List.foldl (fun x1 x2 => x1 ++ x2) acc (List.replicate k #[x]) = acc ++ (List.replicate k x).toArray := by
  intro k
  induction k with
  | zero => intro acc; simp
  | succ k ih =>
    intro acc
    rw [List.replicate_succ, List.foldl_cons, ih, List.replicate_succ]
    apply Array.toList_inj.mp
    simp

section
variable {c : Cx} {A : Around} {E : Value → Shared → Prop} {s : Shared} {ρ : List Addr} {st : St} {Q : V → St → Prop} {n : Nat}

theorem leaf_add (R : c.R ρ st s.heap) {r : V} {v : Value} {pl : Sem Bool} {pos : Pos} (x : VV c ρ s r v) (hk : isS st.heap r) {t : Sem Value}
    (ht : wpAny (model c.P.prog c.P.w) A t (PE c s ρ fun w st' => may (addV st'.heap r w) fun H => Q .none ⟨st'.loc, H⟩) E s) :
    wpAny (model c.P.prog c.P.w) A (getMethod v "add" pl) (fun fx s₂ => wpAny (model c.P.prog c.P.w) A (callWith pos fx.1 fx.2 [(false, t)] []) (PE c s ρ Q) E s₂) E s := by
  obtain ⟨k, es, rfl, hk⟩ := hk
  obtain ⟨_, rfl, e1⟩ := x.ref_inv
  obtain ⟨a, ea, hS⟩ := R.get hk
  rw [e1] at ea; cases ea
  refine getMethod_set_add (knd := intKind c.P.prog c.P.w) hS ?_
  refine Calls.callWith_builtin (args := [(false, t)]) rfl (Calls.evalArgs_plain (Calls.spliced_cons (seqE ht fun w s' ρ' rw st' ev xw hq => Calls.spliced_nil ?_)))
  obtain ⟨H, e, hq⟩ := may_ex hq
  cases rw with
  | int i =>
    unfold addV at e
    dsimp only at e
    split at e
    · rename_i es' hy
      split at e
      · rename_i q
        cases e
        obtain ⟨a', ea, hS'⟩ := ev.rep.get hy
        rw [pre_get ev.pre e1] at ea; cases ea
        obtain ⟨t, rfl⟩ := xw.int_inv
        show wpAny _ _ (call (.builtin "set.add") [.ref _, .int i t]) _ _ _
        refine call_set_add (knd := intKind c.P.prog c.P.w) (k := i) (intKind_is _ _ _ _) rfl hS' (by unfold scanBound; exact om474 q.1) fun h' sb hS₂ => ?_
        refine PE.via ev ⟨ρ', .none, _, Ev.turn (ob := .set (if i ∈ es' then es' else es' ++ [i])) ev.rep (pre_get ev.pre e1) sb ?_, .none, hq⟩
        show h'.SetOf _ _ _ _
        by_cases hi : i ∈ es'
        · simp only [if_pos hi]
          have : (fun k' => decide (k' ∈ es') || decide (k' = i)) = fun k' => decide (k' ∈ es') := by
            funext k'
            by_cases q : k' = i
            · subst q; simp [hi]
            · simp [q]
          rw [this] at hS₂
          simpa [hi] using hS₂
        · simp only [if_neg hi]
          have : (fun k' => decide (k' ∈ es') || decide (k' = i)) = fun k' => decide (k' ∈ es' ++ [i]) := by
            funext k'
            simp
          rw [this] at hS₂
          simpa [hi] using hS₂
      · cases e
    · cases e
  | _ => cases e

theorem leaf_notIn (R : c.R ρ st s.heap) {QC : Bool → St → Prop} {r r' : V} {v v' : Value} (x : VV c ρ s r v) (y : VV c ρ s r' v') (h : may (notInV st.heap r r') fun t => QC t st) :
    wpAny (model c.P.prog c.P.w) A (compareOp .NotIn v v') (PE c s ρ fun w st => ∃ t, w = .bool t ∧ QC t st) E s := by
  obtain ⟨t, e, hq⟩ := may_ex h
  unfold notInV at e
  split at e
  · rename_i i k
    split at e
    · rename_i es hk
      split at e
      · cases e
        obtain ⟨_, rfl⟩ := x.int_inv
        obtain ⟨_, rfl, e1⟩ := y.ref_inv
        obtain ⟨a, ea, hS⟩ := R.get hk
        rw [e1] at ea; cases ea
        exact wpAny_notInSet_of (knd := intKind c.P.prog c.P.w) (k := i) (intKind_is _ _ _ _) rfl hS (endT R (.bool _) ⟨_, rfl, hq⟩)
      · cases e
    · cases e
  · cases e

theorem getV_inv {H : Hp} {k : Nat} {ri d z : V} (e : getV H (.ref k) ri d = some z) : ∃ p q es, ri = .pair (.int p) (.int q) ∧ H[k]? = some (.dict es) ∧ z = (match es.lookup (p, q) with | some v => .int v | .none => d) := by
  cases ri with
  | pair a b =>
    cases a with
    | int p =>
      cases b with
      | int q =>
        unfold getV at e
        dsimp only at e
        split at e
        · rename_i es hk
          cases e
          exact ⟨p, q, es, rfl, hk, rfl⟩
        · cases e
      | _ => cases e
    | _ => cases e
  | _ => cases e
theorem lookup_rel {p q : Int} {rw : V} {w : Value} (xw : VV c ρ s rw w) {es : List ((Int × Int) × Int)} {xs : List (List Int × Addr × Value)} (x : All2 DRel es xs) :
    VV c ρ s (match es.lookup (p, q) with | some v => .int v | .none => rw) (((atKey xs [p, q]).map (·.2)).getD w) := by
  induction x with
  | nil => exact xw
  | @cons y z ys zs hr _ ih =>
    obtain ⟨⟨p1, p2⟩, w'⟩ := y
    by_cases hq : (p, q) = (p1, p2)
    · have hq' : z.1 = [p, q] := by rw [hr.1]; injection hq with h1 h2; rw [h1, h2]
      unfold atKey
      rw [List.lookup_cons, List.find?_cons, decide_eq_true hq', show ((p, q) == (p1, p2)) = true from by simpa using hq]
      obtain ⟨t, ht⟩ := hr.2
      show VV c ρ s (.int w') z.2.2
      rw [ht]; exact .int _ _
    · have hq' : ¬ z.1 = [p, q] := by
        rw [hr.1]; intro e; injection e with e1 e2; injection e2 with e2 _
        exact hq (by rw [Prod.mk.injEq]; exact ⟨e1.symm, e2.symm⟩)
      unfold atKey at ih ⊢
      rw [List.lookup_cons, List.find?_cons, decide_eq_false hq', show ((p, q) == (p1, p2)) = false from by simpa using hq]
      exact ih

theorem leaf_get (rm : Rm A n) (R : c.R ρ st s.heap) {r : V} {v : Value} {pl : Sem Bool} {pos : Pos} (x : VV c ρ s r v) (hk : isD st.heap r) {t u : Sem Value} {Q₁ : V → St → Prop}
    (ht : wpAny (model c.P.prog c.P.w) A t (PE c s ρ Q₁) E s)
    (hu : ∀ s₁ ρ₁ ri st₁ vi, Ev c s ρ s₁ ρ₁ st₁ → VV c ρ₁ s₁ ri vi → Q₁ ri st₁ → wpAny (model c.P.prog c.P.w) A u (PE c s₁ ρ₁ fun w st' => may (getV st'.heap r ri w) fun z => Q z st') E s₁) :
    wpAny (model c.P.prog c.P.w) A (getMethod v "get" pl) (fun fx s₂ => wpAny (model c.P.prog c.P.w) A (callWith pos fx.1 fx.2 [(false, t), (false, u)] []) (PE c s ρ Q) E s₂) E s := by
  obtain ⟨k, es, rfl, hk⟩ := hk
  obtain ⟨a, rfl, e1⟩ := x.ref_inv
  obtain ⟨a', ea, hs, xs, hd, rd⟩ := R.get hk
  rw [e1] at ea; cases ea
  obtain ⟨o, es', ep, ho, hx, hd', r⟩ := id hd
  have hu' := rm.units
  have hc := cLine_is
  refine getMethod_builtin (T := "dict") ⟨o, ho, hx.1⟩ F.plainAttrs_dict F.slot_dict_get F.type_dict_get (fun b e => by cases e; exact ⟨o, ho, hx.2.1⟩) ?_
  refine wpAny_dict_get2_heap (knd := tupleKind (intKind c.P.prog c.P.w)) (tupleKind_room_in1 (by exact om110 hu' hc)) hs (seqE ht fun vi s₁ ρ₁ ri st₁ ev1 xi q1 => seqE (hu s₁ ρ₁ ri st₁ vi ev1 xi q1) fun w s' ρ' rw st' ev2 xw hq => ?_)
  obtain ⟨z, e, hq⟩ := may_ex hq
  have ev := ev1.trans ev2
  have xi' := ev2.vv xi
  obtain ⟨p, q, es₂, rfl, hy, rfl⟩ := getV_inv e
  obtain ⟨a', ea, hs', ys, hd₂, rd₂⟩ := ev.rep.get hy
  rw [pre_get ev.pre e1] at ea; cases ea
  obtain ⟨_, _, _, _, rfl, hx, ra, rb⟩ := xi'.pair_inv
  obtain ⟨_, rfl⟩ := ra.int_inv; obtain ⟨_, rfl⟩ := rb.int_inv
  refine ⟨_, [p, q], ys, rfl, ⟨_, _, _, hx, rfl, rfl, .cons (intKind_is _ _ _ _) (.cons (intKind_is _ _ _ _) .nil)⟩, hd₂, ?_⟩
  exact PE.via ev (endT ev.rep (lookup_rel xw rd₂) hq)

/-- new things -/
theorem leaf_newList (R : c.R ρ st s.heap) {M : Model} {xs : List V} {vs : List Value} (r : All2 (VV c ρ s) xs vs) (hz : vs.length ≤ 1000) (h : alloc (.list xs) st Q) :
    wpAny M A (newList vs) (PE c s ρ Q) E s :=
  wpAny_newList ⟨_, .ref st.heap.length, _, Ev.newList R r, new_ref R, h⟩ (by rw [sizeLine_eq]; exact om498 hz)

theorem leaf_pair (R : c.R ρ st s.heap) {M : Model} {a b : V} {va vb : Value} (ra : VV c ρ s a va) (rb : VV c ρ s b vb) (h : Q (.pair a b) st) :
    wpAny M A (newTuple [va, vb]) (PE c s ρ Q) E s := by
  obtain ⟨m, n, _⟩ := R.ns
  refine wpAny_newObj_type ?_ (by show [va, vb].toArray.size ≤ sizeLine; rw [sizeLine_eq]; simp)
  have ev : Ev c s ρ { s with heap := s.heap.push { cls := .type "tuple", data := .seq [va, vb].toArray } } ρ st := Ev.grown (tk := s.toks) R (push_grow _ _ _) (push_ns _ _)
  exact ⟨ρ, _, st, ev, .pair (Heap.get?_push_size _ rfl) (ev.vv ra) (ev.vv rb), h⟩

theorem modules_small (fx : Fx c.P) (ok : c.Ok) (R : c.R ρ st s.heap) : (s.heap.objs.size == sysModules) = false := by
  have h1 : sysModules < c.P.B.objs.size := modules_low fx.T.nolimit
  obtain ⟨mc, hn, _⟩ := fx.T.nolimit
  obtain ⟨o, _, _, e, _⟩ := hn
  have h2 := Heap.lt_size (R.keep _ _ (ok.base _ _ e))
  have : sysModules < s.heap.objs.size := Nat.lt_trans (by decide) h2
  exact beq_eq_false_iff_ne.mpr (Nat.ne_of_gt this)

theorem leaf_dict0 (fx : Fx c.P) (ok : c.Ok) (R : c.R ρ st s.heap) {M : Model} {pos : Pos} {env : Env} (h : alloc (.dict []) st Q) : wpAny M A (eval (.Dict [] [] pos) env) (PE c s ρ Q) E s :=
  wpAny_Dict_empty ⟨_, .ref st.heap.length, _, Ev.new (ob := .dict []) (tk := s.toks) R (push_grow _ _ _) (push_ns _ _) ⟨modules_small fx ok R, [], Heap.DictOfH.new _, .nil⟩ (not_size _), new_ref R, h⟩

theorem leaf_set0 (R : c.R ρ st s.heap) (h : alloc (.set []) st Q) : wpAny (model c.P.prog c.P.w) A (call (.type "set") []) (PE c s ρ Q) E s := by
  refine call_set_0 fun led => ?_
  refine ⟨_, .ref st.heap.length, _, Ev.new (ob := .set []) (tk := s.toks) R (push_grow _ _ _) (push_ns _ _) ?_ (not_size _), new_ref R, h⟩
  exact (setObjOf_fresh (knd := intKind c.P.prog c.P.w) led).setOf (Heap.get?_push_size _ rfl) (by unfold scanBound; decide)

theorem leaf_repl (R : c.R ρ st s.heap) {r r' : V} {v v' : Value} (x : VV c ρ s r v) (y : VV c ρ s r' v') (h : may (replV st.heap r r') fun xs => alloc (.list xs) st Q) :
    wpAny (model c.P.prog c.P.w) A (binaryOp .Mult v v') (PE c s ρ Q) E s := by
  obtain ⟨xs, e, hq⟩ := may_ex h
  unfold replV at e
  split at e
  · rename_i m k
    split at e
    · rename_i y hk
      split at e
      · rename_i q
        cases e
        obtain ⟨_, rfl, e1⟩ := x.ref_inv
        cases ‹VV c ρ s (.int k) v'›
        obtain ⟨a, ea, vs, ep, hl, rl⟩ := R.get hk
        rw [e1] at ea; cases ea
        cases rl with
        | cons ry rl =>
        cases rl
        obtain ⟨news, N, nd, cov, G⟩ := R.news
        obtain ⟨m', F, l⟩ := R.frame
        have q2 := q.2
        unfold lim at q2
        refine mul_list F N hl (by exact om197 q.1) (by exact om189 q2) (by simp; exact om190 q2) fun h' F' N' => ?_
        have g : Grow c.L s.heap h' := G h' m' F' fun p hp => N' p (.tail _ hp)
        have hn := ns_all F.ns F'.ns
        have k' : ImmKeep c.P.C s.heap h' := g.imm F.ns
        have ho := (N' _ (.head _)).1
        rw [if_neg (by simp), foldl_repl] at ho
        exact ⟨_, .ref st.heap.length, _, Ev.new (ob := .list (List.replicate k.toNat y)) (tk := s.toks) R g hn ⟨List.replicate k.toNat _, 0, by simpa using ho, All2.replicate _ (VR.mono (List.prefix_append _ _) k' ry)⟩ (not_size _), new_ref R, hq⟩
      · cases e
    · cases e
  · cases e

theorem ints_all2 {C : Addr} {B : PySem.Heap} {ρ : List Addr} {h : PySem.Heap} : ∀ {xs : List Int} {vs : List Value}, IntsAre vs xs → All2 (VR C B ρ h) (xs.map .int) vs
  | _, _, .nil => .nil
  | _, _, .cons n t h => .cons (.int _ _) (ints_all2 h)
theorem all2_ints {C : Addr} {B : PySem.Heap} {ρ : List Addr} {h : PySem.Heap} : ∀ {xs : List V} {vs : List Value} {is : List Int}, All2 (VR C B ρ h) xs vs → intsOf xs = some is → IntsAre vs is := by
  intro xs vs is x
  induction x generalizing is with
  | nil => intro e; cases e; exact .nil
  | @cons a b as bs r _ ih =>
    intro e
    cases r with
    | int i t =>
      obtain ⟨js, ej, rfl⟩ := Option.map_eq_some_iff.mp e
      exact .cons _ _ (ih ej)
    | _ => cases e

/-- a list or the script, seen -/
theorem seen_list (ok : c.Ok) (R : c.R ρ st s.heap) {r : V} {v : Value} (x : VV c ρ s r v) {xs : List V} (e : listV st.heap r = some xs) : ∃ a vs, v = .ref a ∧ s.heap.IsList a (vs : List Value).toArray ∧ All2 (VV c ρ s) xs vs := by
  unfold listV at e
  split at e
  · split at e
    · rename_i m _ ys hm
      cases e
      obtain ⟨k, a, xs', vs, n, eqr, rfl, e1, hk', hl, rl⟩ := isl_of R x ⟨m, xs, rfl, hm⟩
      cases eqr
      rw [hm] at hk'; cases hk'
      exact ⟨a, vs, rfl, hl.isList, rl⟩
    · cases e
  · cases e
    cases x with
    | ext e1 hi => exact ⟨_, _, rfl, e1.at fun o e => R.keep _ _ (ok.base _ _ e), ints_all2 hi⟩
  · cases e

theorem leaf_copy (ok : c.Ok) (R : c.R ρ st s.heap) {r : V} {v : Value} (x : VV c ρ s r v) (h : may (listV st.heap r) fun xs => xs.length < lim ∧ alloc (.list xs) st Q) :
    wpAny (model c.P.prog c.P.w) A (call (.type "list") [v]) (PE c s ρ Q) E s := by
  obtain ⟨xs, e, hz, hq⟩ := may_ex h
  obtain ⟨a, vs, rfl, ⟨oo, hl, hc, k, hd⟩, rl⟩ := seen_list ok R x e
  obtain ⟨m', F, l⟩ := R.frame
  have hl' := rl.length
  unfold lim at hz
  refine call_list_seq a (.inl rfl) hl hc hd (fun h' c' hk ho => ?_) (by simp only [List.size_toArray, sizeLine_eq]; exact om15 hz hl')
  have g : Grow c.L s.heap h' := fun b o _ e => hk b o e
  obtain ⟨oL, es, ep, eL, rest⟩ := F.ns
  have k' : ImmKeep c.P.C s.heap h' := g.imm F.ns
  exact ⟨_, .ref st.heap.length, _, Ev.new (ob := .list xs) (tk := s.toks) R g (fun m n => n.keeps hk) ⟨vs, c', ho, rl.mono fun _ _ q => VR.mono (List.prefix_append _ _) k' q⟩ (not_size _), new_ref R, hq⟩

theorem leaf_max1 (rm : Rm A n) (ok : c.Ok) (R : c.R ρ st s.heap) {r : V} {v : Value} (x : VV c ρ s r v)
    (h : may (listV st.heap r) fun xs => may (intsOf xs) fun is => is ≠ [] ∧ is.length < lim ∧ ∀ i, i ∈ is → (∀ j, j ∈ is → j ≤ i) → Q (.int i) st) :
    wpAny (model c.P.prog c.P.w) A (call (.builtin "max") [v]) (PE c s ρ Q) E s := by
  obtain ⟨xs, e, h⟩ := may_ex h
  obtain ⟨is, ei, hne, hz, hq⟩ := may_ex h
  obtain ⟨a, vs, rfl, hl, rl⟩ := seen_list ok R x e
  obtain ⟨news, N, nd, cov, G⟩ := R.news
  obtain ⟨m', F, l⟩ := R.frame
  refine kso_max F N hl (all2_ints rl ei) (by cases is with | nil => exact absurd rfl hne | cons => simp) rm.hh fun h' M t tk F' N' h1 h2 => ?_
  exact ⟨ρ, .int M, st, Ev.grown R (G h' m' F' N') (ns_all F.ns F'.ns), .int _ _, hq M h1 h2⟩

theorem leaf_max2 (rm : Rm A n) (R : c.R ρ st s.heap) {r r' : V} {v v' : Value} (x : VV c ρ s r v) (y : VV c ρ s r' v') (h : ∃ i j, r = .int i ∧ r' = .int j ∧ Q (.int (if j > i then j else i)) st) :
    wpAny (model c.P.prog c.P.w) A (call (.builtin "max") [v, v']) (PE c s ρ Q) E s := by
  obtain ⟨i, j, rfl, rfl, hq⟩ := h
  obtain ⟨_, rfl⟩ := x.int_inv; obtain ⟨_, rfl⟩ := y.int_inv
  obtain ⟨news, N, nd, cov, G⟩ := R.news
  obtain ⟨m', F, l⟩ := R.frame
  refine max_two_N rm.hh F N fun h' tk F' N' => ?_
  exact ⟨ρ, _, st, Ev.grown R (G h' m' F' N') (ns_all F.ns F'.ns), .int _ _, hq⟩
end
end Mine
end

-- part S5
section
open PySem PySem.W PyProof.Rows
set_option Elab.async false
set_option linter.unusedVariables false
set_option maxRecDepth 20000
namespace Mine

/-- the frame of a call, seen from the caller -/
noncomputable def Cx.enter (c : Cx) (s : Shared) (ρ : List Addr) (qual : Str) (sc : Scope) (fa : Addr) (cd : Value) : Cx :=
  ⟨c.P, hideAll s.heap ρ, s.heap.objs.size, [], qual, sc, fa, cd⟩

theorem zip_mem {α β : Type} : ∀ {xs : List α} {ys : List β} {x : α}, x ∈ (xs.zip ys).map (·.1) → x ∈ xs
  | [], _, _, h => by simp at h
  | _ :: _, [], _, h => by simp at h
  | a :: xs, b :: ys, x, h => by
    rw [List.zip_cons_cons, List.map_cons] at h
    rcases List.mem_cons.mp h with rfl | h
    · exact .head _
    · exact .tail _ (zip_mem h)
theorem zip_nodup {α β : Type} : ∀ {xs : List α} {ys : List β}, xs.Nodup → ((xs.zip ys).map (·.1)).Nodup
  | [], _, _ => by simp
  | _ :: _, [], _ => by simp
  | a :: xs, b :: ys, h => by
    rw [List.nodup_cons] at h
    rw [List.zip_cons_cons, List.map_cons, List.nodup_cons]
    exact ⟨fun m => h.1 (zip_mem m), zip_nodup h.2⟩

theorem binds_lookup : ∀ {xs : List Str} {vs : List Value} {i : Nat} {x : Str} {v : Value}, xs.Nodup → xs[i]? = some x → vs[i]? = some v → (xs.zip vs).lookup x = some v
  | [], _, _, _, _, _, h, _ => by simp at h
  | _ :: _, [], _, _, _, _, _, h => by simp at h
  | y :: ys, w :: ws, 0, x, v, _, h1, h2 => by simp at h1 h2; subst h1 h2; simp
  | y :: ys, w :: ws, i + 1, x, v, nd, h1, h2 => by
    rw [List.nodup_cons] at nd
    simp at h1 h2
    have hne : (x == y) = false := by
      rw [beq_eq_false_iff_ne]; rintro rfl
      exact nd.1 (List.mem_of_getElem? h1)
    rw [List.zip_cons_cons, List.lookup_cons, hne]
    exact binds_lookup nd.2 h1 h2
theorem lookup_rev {α : Type} : ∀ {l : List (Str × α)} {x : Str} {v : α}, (l.map (·.1)).Nodup → l.lookup x = some v → l.reverse.lookup x = some v := by
  intro l x v nd h
  have key : ∀ {l : List (Str × α)}, (l.map (·.1)).Nodup → ((x, v) ∈ l ↔ l.lookup x = some v) := by
    intro l
    induction l with
    | nil => intro _; simp
    | cons p l ih =>
      intro nd
      obtain ⟨y, w⟩ := p
      rw [List.map_cons, List.nodup_cons] at nd
      by_cases q : x = y
      · subst q
        rw [List.lookup_cons, beq_self_eq_true]
        constructor
        · intro m
          rcases List.mem_cons.mp m with e | m
          · cases e; rfl
          · exact absurd (List.mem_map.mpr ⟨_, m, rfl⟩) nd.1
        · intro e; cases e; exact .head _
      · rw [List.lookup_cons, beq_eq_false_iff_ne.mpr q, ← ih nd.2]
        constructor
        · intro m
          rcases List.mem_cons.mp m with e | m
          · cases e; exact absurd rfl q
          · exact m
        · exact .tail _
  have nd' : (l.reverse.map (·.1)).Nodup := by rw [List.map_reverse]; exact List.pairwise_reverse.mpr (nd.imp fun h => Ne.symm h)
  rw [← key nd']
  exact List.mem_reverse.mpr ((key nd).mpr h)

section
variable {c : Cx} {s : Shared} {ρ : List Addr} {st : St}

theorem all2_loc {C : Addr} {B : PySem.Heap} {h : PySem.Heap} {args : List V} {vals : List Value} {k : Nat} {names : List (Str × NameKind)} (a : All2 (VR C B ρ h) args vals) (nd : (names.map (·.1)).Nodup)
    (hl : ∀ i, i < vals.length → ∃ x, names[i]? = some (x, NameKind.local)) : LocR C B ρ h names (fun x => ((names.map (·.1)).zip vals).reverse.lookup x) (args.map some ++ List.replicate k none) := by
  intro i v e
  have hi : i < args.length := by
    rcases Nat.lt_or_ge i args.length with h | h
    · exact h
    · rw [List.getElem?_append_right (by simpa using h)] at e
      have := List.mem_of_getElem? e
      rw [List.mem_replicate] at this
      cases this.2
  rw [List.getElem?_append_left (by simpa using hi), List.getElem?_map] at e
  obtain ⟨w, ew, e'⟩ := Option.map_eq_some_iff.mp e
  cases e'
  obtain ⟨val, ev, r⟩ := a.get ew
  obtain ⟨x, hx⟩ := hl i (by rw [← a.length]; exact hi)
  refine ⟨x, val, hx, ?_, r⟩
  have hx' : (names.map (·.1))[i]? = some x := by rw [List.getElem?_map, hx]; rfl
  refine lookup_rev ?_ (binds_lookup nd hx' ev)
  exact zip_nodup nd

/-- into a call -/
theorem Rep.enter (R : c.R ρ st s.heap) {qual : Str} {sc : Scope} {fa : Addr} {cd : Value} {args : List V} {vals : List Value} {h₁ : PySem.Heap} {k : Nat} (a : All2 (VV c ρ s) args vals) (nd : (sc.names.map (·.1)).Nodup)
    (hl : ∀ i, i < vals.length → ∃ x, sc.names[i]? = some (x, NameKind.local)) (hn : h₁.Ns s.heap.objs.size (fun x => ((sc.names.map (·.1)).zip vals).reverse.lookup x)) (hk : ∀ b o, s.heap.get? b = some o → h₁.get? b = some o) :
    (c.enter s ρ qual sc fa cd).R ρ ⟨args.map some ++ List.replicate k none, st.heap⟩ h₁ := by
  have im : ImmKeep c.P.C s.heap h₁ := fun b o _ e => hk b o e
  refine ⟨fun b o e => hk b o (of_hideAll _ e), Nat.le_of_eq (hideAll_size _ _), ⟨_, hn, ?_⟩, R.len, fun i b ob e1 e2 => (R.objs i b ob e1 e2).mono (List.prefix_refl _) im fun o e => hk b o e, fun b hb => ⟨hideAll_none _ hb, ?_⟩, R.nodup, fun p hp => nomatch hp⟩
  · exact all2_loc (a.mono fun _ _ q => VR.mono (List.prefix_refl _) im q) nd hl
  · obtain ⟨o, e, _⟩ := R.obj_at hb
    exact Nat.ne_of_lt (Heap.lt_size e)

theorem Cx.enter_ok (ok : c.Ok) (R : c.R ρ st s.heap) {qual : Str} {sc : Scope} {fa : Addr} {cd : Value} (hk : sc.kind = .function) (nd : (sc.names.map (·.1)).Nodup) : (c.enter s ρ qual sc fa cd).Ok :=
  ⟨fun b o e => (by
    have h0 := ok.base b o e
    refine hideAll_get _ (R.keep b o h0) fun hm => ?_
    rw [(R.fresh b hm).1] at h0; cases h0), hk, nd⟩

/-- back from a call -/
theorem Ev.leave (R : c.R ρ st s.heap) {qual : Str} {sc : Scope} {fa : Addr} {cd : Value} {s₁ s₂ : Shared} {ρ₂ : List Addr} {st₁ st₂ : St} (hk : ∀ b o, s.heap.get? b = some o → s₁.heap.get? b = some o) (hg : s₁.gens = s.gens) (ho : s₁.os = s.os)
    (e : Ev (c.enter s ρ qual sc fa cd) s₁ ρ s₂ ρ₂ st₂) : Ev c s ρ s₂ ρ₂ ⟨st.loc, st₂.heap⟩ := by
  have im : ImmKeep c.P.C s.heap s₂.heap := fun b o i q => e.imm b o i (hk b o q)
  have R₂ := e.rep
  have low : ∀ b o, s.heap.get? b = some o → b ∉ ρ → s₂.heap.get? b = some o := fun b o q nm => R₂.keep b o (hideAll_get _ q nm)
  have fr : ∀ b o, s.heap.get? b = some o → b ∉ ρ → b ∉ ρ₂ := fun b o q nm m => by
    have := (R₂.fresh b m).1
    rw [show (c.enter s ρ qual sc fa cd).h₀ = hideAll s.heap ρ from rfl, hideAll_get _ q nm] at this; cases this
  have base : ∀ b o, c.h₀.get? b = some o → b ∉ ρ := fun b o q m => by rw [(R.fresh b m).1] at q; cases q
  refine ⟨⟨fun b o q => low b o (R.keep b o q) (base b o q), R.above, ?_, R₂.len, R₂.objs, fun b hb => ⟨?_, ?_⟩, R₂.nodup, fun p hp => ?_⟩, e.pre, im, e.gens.trans hg, e.os.trans ho⟩
  · obtain ⟨m, ⟨oL, es, ep, eL, r⟩, l⟩ := R.ns
    exact ⟨m, ⟨oL, es, ep, low c.L oL eL (fun m => (R.fresh _ m).2 rfl), r⟩, l.mono e.pre im⟩
  · cases q : c.h₀.get? b with
    | none => rfl
    | some o => exact absurd hb (fr b o (R.keep b o q) (base b o q))
  · rintro rfl
    obtain ⟨m, ⟨oL, es, ep, eL, r⟩, l⟩ := R.ns
    exact fr _ oL eL (fun m => (R.fresh _ m).2 rfl) hb
  · obtain ⟨a1, a2, a3, a4⟩ := R.kept p hp
    exact ⟨low _ _ a1 a3, a2, fr _ _ a1 a3, a4⟩
end

/-- what a call by number is in the model -/
noncomputable def CallOk (P : Par) (addr : Nat → Addr) (Φ : Calls) (n : Nat) : Prop :=
  ∀ (c : Cx) (_ : c.P = P) (_ : c.Ok) (A : Around) (s : Shared) (ρ : List Addr) (st : St) (f : Nat) (args : List V) (vals : List Value) (Q : V → Hp → Prop), Rm A n → c.R ρ st s.heap → All2 (VV c ρ s) args vals → Φ f args st.heap Q →
    codeAny (model P.prog P.w) A (.call (.ref (addr f)) ⟨vals, []⟩) (fun r s' => ∃ v, r = .ok (.ret v) ∧ PE c s ρ (fun v st' => st'.loc = st.loc ∧ Q v st'.heap) v s') s

theorem call_of {P : Par} {addr : Nat → Addr} {Φ : Calls} {n : Nat} (H : CallOk P addr Φ n) {c : Cx} (hP : c.P = P) (ok : c.Ok) {A : Around} {E : Value → Shared → Prop} {s : Shared} {ρ : List Addr} {st : St} {f : Nat} {args : List V} {vals : List Value} {Q : V → Hp → Prop}
    (rm : Rm A n) (R : c.R ρ st s.heap) (a : All2 (VV c ρ s) args vals) (h : Φ f args st.heap Q) :
    wpAny (model P.prog P.w) A (call (.ref (addr f)) vals) (PE c s ρ fun v st' => st'.loc = st.loc ∧ Q v st'.heap) E s :=
  wpAny_call (codeAny_mono (H c hP ok A s ρ st f args vals Q rm R a h) fun r s' ⟨v, e, q⟩ => by subst e; exact q)
end Mine
end

-- part S6
section
open PySem PySem.W PyProof.Rows
set_option Elab.async false
set_option linter.unusedVariables false
set_option maxRecDepth 20000
namespace Mine

/-- the text's own names -/
structure Nm where
  fn : List (Str × Nat)
  mn : List (Str × Nat)
  cls : Str

/-- what the names stand for -/
structure Nf (P : Par) (fx : Fx P) (N : Nm) (addr : Nat → Addr) : Prop where
  fn : ∀ x i, N.fn.lookup x = some i → nsIn fx.K mainGlobals x = some (some (.ref (addr i))) ∧ keepIn fx.K (.ref (addr i)) = true
  mn : ∀ x i, N.mn.lookup x = some i → findIn fx.K (.ref P.C) x = some (some (.ref (addr i))) ∧ isFn fx.K (.ref (addr i)) = true ∧ keepIn fx.K (.ref (addr i)) = true ∧ plainGet fx.K P.C x = true ∧ ∀ k, (attrName k == x) = false
  cls : nsIn fx.K mainGlobals N.cls = some (some (.ref P.C)) ∧ keepIn fx.K (.ref P.C) = true ∧ makesIn fx.K P.C = true ∧ findIn fx.K (.ref P.C) "__init__" = some (some (.ref (addr fInit))) ∧ isFn fx.K (.ref (addr fInit)) = true
  bn : ∀ x v, ([("len", .builtin "len"), ("range", .type "range"), ("int", .type "int"), ("list", .type "list"), ("max", .builtin "max"), ("set", .type "set")] : List (Str × Value)).lookup x = some v → nsIn fx.K mainGlobals x = some none ∧ bootBuiltins x = some v ∧ x ≠ "__name__"

inductive Mx where
  | e (m : ME)
  | c (m : MC)

/-- a method call -/
noncomputable def MCall (o : Expr) (name : Str) (apos : Pos) (args : List Expr) (pos : Pos) : Prop :=
  ∃ pl : Env → Sem Bool, ∀ env, eval (.Call (.Attribute o name apos) args [] pos) env = (do
      let ov ← eval o env
      standAt apos.atName
      let (f, first) ← holding [ov] (getMethod ov name (pl env))
      callWith pos f first (backTo pos (starEach args env)) [])

inductive Tr (N : Nm) (sc : Scope) : Expr → Mx → Prop
  | var {i x pos} : sc.names[i]? = some (x, NameKind.local) → sc.names.lookup x = some .local → (x == ("__debug__" : Str)) = false → Tr N sc (.Name x pos) (.e (.var i))
  | none {k pos} : Tr N sc (.Constant .none k pos) (.e .none)
  | bool {b k pos} : Tr N sc (.Constant (.bool b) k pos) (.e (.bool b))
  | int {i k pos} : Tr N sc (.Constant (.int i) k pos) (.e (.int i))
  | neg {i k pos pos'} : Tr N sc (.UnaryOp .USub (.Constant (.int i) k pos) pos') (.e (.int (-i)))
  | attr {x xp a k pos m} : a = attrName k → Tr N sc (.Name x xp) (.e m) → Tr N sc (.Attribute (.Name x xp) a pos) (.e (.attr m k))
  | sub {e i me mi pos} : Tr N sc e (.e me) → Tr N sc i (.e mi) → Tr N sc (.Subscript e i pos) (.e (.sub me mi))
  | bin {op bop l r a b pos} : OpR op bop → Tr N sc l (.e a) → Tr N sc r (.e b) → Tr N sc (.BinOp l op r pos) (.e (.bin bop a b))
  | repl {l r a b pos} : Tr N sc l (.e a) → Tr N sc r (.e b) → Tr N sc (.BinOp l .Mult r pos) (.e (.repl a b))
  | cmp {op cop l r a b pos} : CopR op cop → behindInMarks op r = false → Tr N sc l (.e a) → Tr N sc r (.e b) → Tr N sc (.Compare l [op] [r] pos) (.e (.cmp cop a b))
  | pair {l r a b k pos} : Tr N sc l (.e a) → Tr N sc r (.e b) → Tr N sc (.Tuple [l, r] k pos) (.e (.pair a b))
  | list0 {pos} : Tr N sc (.List [] pos) (.e .list0)
  | list1 {e a pos} : Tr N sc e (.e a) → Tr N sc (.List [e] pos) (.e (.list1 a))
  | list2 {e f a b pos} : Tr N sc e (.e a) → Tr N sc f (.e b) → Tr N sc (.List [e, f] pos) (.e (.list2 a b))
  | list3 {e f g a b d pos} : Tr N sc e (.e a) → Tr N sc f (.e b) → Tr N sc g (.e d) → Tr N sc (.List [e, f, g] pos) (.e (.list3 a b d))
  | dict0 {pos} : Tr N sc (.Dict [] [] pos) (.e .dict0)
  | set0 {np pos} : sc.names.lookup ("set" : Str) = some .globalImplicit → Tr N sc (.Call (.Name "set" np) [] [] pos) (.e .set0)
  | len {np pos e a} : sc.names.lookup ("len" : Str) = some .globalImplicit → Tr N sc e (.e a) → Tr N sc (.Call (.Name "len" np) [e] [] pos) (.e (.len a))
  | toInt {np pos e a} : sc.names.lookup ("int" : Str) = some .globalImplicit → Tr N sc e (.e a) → Tr N sc (.Call (.Name "int" np) [e] [] pos) (.e (.toInt a))
  | copy {np pos e a} : sc.names.lookup ("list" : Str) = some .globalImplicit → Tr N sc e (.e a) → Tr N sc (.Call (.Name "list" np) [e] [] pos) (.e (.copy a))
  | max1 {np pos e a} : sc.names.lookup ("max" : Str) = some .globalImplicit → Tr N sc e (.e a) → Tr N sc (.Call (.Name "max" np) [e] [] pos) (.e (.max1 a))
  | max2 {np pos e f a b} : sc.names.lookup ("max" : Str) = some .globalImplicit → Tr N sc e (.e a) → Tr N sc f (.e b) → Tr N sc (.Call (.Name "max" np) [e, f] [] pos) (.e (.max2 a b))
  | bitlen {apos pos e a} : MCall e "bit_length" apos [] pos → Tr N sc e (.e a) → Tr N sc (.Call (.Attribute e "bit_length" apos) [] [] pos) (.e (.bitlen a))
  | slice {e a n k p1 p2 pos} : Tr N sc e (.e a) → Tr N sc (.Subscript e (.Slice none (some (.Constant (.int (n : Nat)) k p1)) none p2) pos) (.e (.slice a n))
  | ite {t a b mt ma mb pos} : Tr N sc t (.c mt) → Tr N sc a (.e ma) → Tr N sc b (.e mb) → Tr N sc (.IfExp t a b pos) (.e (.ite mt ma mb))
  | and {l r a b pos} : Tr N sc l (.e a) → Tr N sc r (.e b) → Tr N sc (.BoolOp .And [l, r] pos) (.e (.and a b))
  | call0 {f i np pos} : N.fn.lookup f = some i → sc.names.lookup f = some .globalImplicit → (f == ("__debug__" : Str)) = false → Tr N sc (.Call (.Name f np) [] [] pos) (.e (.call0 i))
  | call1 {f i np pos e a} : N.fn.lookup f = some i → sc.names.lookup f = some .globalImplicit → (f == ("__debug__" : Str)) = false → Tr N sc e (.e a) → Tr N sc (.Call (.Name f np) [e] [] pos) (.e (.call1 i a))
  | call2 {f i np pos e e' a b} : N.fn.lookup f = some i → sc.names.lookup f = some .globalImplicit → (f == ("__debug__" : Str)) = false → Tr N sc e (.e a) → Tr N sc e' (.e b) → Tr N sc (.Call (.Name f np) [e, e'] [] pos) (.e (.call2 i a b))
  | call3 {f i np pos e e' e'' a b d} : N.fn.lookup f = some i → sc.names.lookup f = some .globalImplicit → (f == ("__debug__" : Str)) = false → Tr N sc e (.e a) → Tr N sc e' (.e b) → Tr N sc e'' (.e d) → Tr N sc (.Call (.Name f np) [e, e', e''] [] pos) (.e (.call3 i a b d))
  | meth0 {o f i apos pos a} : N.mn.lookup f = some i → MCall o f apos [] pos → Tr N sc o (.e a) → Tr N sc (.Call (.Attribute o f apos) [] [] pos) (.e (.mcall0 i a))
  | meth1 {o f i apos pos e a b} : N.mn.lookup f = some i → MCall o f apos [e] pos → Tr N sc o (.e a) → Tr N sc e (.e b) → Tr N sc (.Call (.Attribute o f apos) [e] [] pos) (.e (.mcall1 i a b))
  | meth2 {o f i apos pos e e' a b d} : N.mn.lookup f = some i → MCall o f apos [e, e'] pos → Tr N sc o (.e a) → Tr N sc e (.e b) → Tr N sc e' (.e d) → Tr N sc (.Call (.Attribute o f apos) [e, e'] [] pos) (.e (.mcall2 i a b d))
  | new {np pos} : sc.names.lookup N.cls = some .globalImplicit → (N.cls == ("__debug__" : Str)) = false → Tr N sc (.Call (.Name N.cls np) [] [] pos) (.e .new)
  | append {o apos pos e a b} : MCall o "append" apos [e] pos → Tr N sc o (.e a) → Tr N sc e (.e b) → Tr N sc (.Call (.Attribute o "append" apos) [e] [] pos) (.e (.append a b))
  | pop {o apos pos a} : MCall o "pop" apos [] pos → Tr N sc o (.e a) → Tr N sc (.Call (.Attribute o "pop" apos) [] [] pos) (.e (.pop a))
  | popAt {o apos pos e a b} : MCall o "pop" apos [e] pos → Tr N sc o (.e a) → Tr N sc e (.e b) → Tr N sc (.Call (.Attribute o "pop" apos) [e] [] pos) (.e (.popAt a b))
  | insert {o apos pos e e' a b d} : MCall o "insert" apos [e, e'] pos → Tr N sc o (.e a) → Tr N sc e (.e b) → Tr N sc e' (.e d) → Tr N sc (.Call (.Attribute o "insert" apos) [e, e'] [] pos) (.e (.insert a b d))
  | add {o apos pos e a b} : MCall o "add" apos [e] pos → Tr N sc o (.e a) → Tr N sc e (.e b) → Tr N sc (.Call (.Attribute o "add" apos) [e] [] pos) (.e (.add a b))
  | get {o apos pos e e' a b d} : MCall o "get" apos [e, e'] pos → Tr N sc o (.e a) → Tr N sc e (.e b) → Tr N sc e' (.e d) → Tr N sc (.Call (.Attribute o "get" apos) [e, e'] [] pos) (.e (.get a b d))
  | ccmp {op cop l r a b pos} : CopR op cop → behindInMarks op r = false → Tr N sc l (.e a) → Tr N sc r (.e b) → Tr N sc (.Compare l [op] [r] pos) (.c (.cmp cop a b))
  | cchain {l r₁ r₂ r₃ a b d e pos} : lastMarks [.Lt, .Lt, .Lt] [r₁, r₂, r₃] = false → Tr N sc l (.e a) → Tr N sc r₁ (.e b) → Tr N sc r₂ (.e d) → Tr N sc r₃ (.e e) → Tr N sc (.Compare l [.Lt, .Lt, .Lt] [r₁, r₂, r₃] pos) (.c (.chain a b d e))
  | cisNone {l a k p pos} : Tr N sc l (.e a) → Tr N sc (.Compare l [.Is] [.Constant .none k p] pos) (.c (.isNone a))
  | cnotNone {l a k p pos} : Tr N sc l (.e a) → Tr N sc (.Compare l [.IsNot] [.Constant .none k p] pos) (.c (.notNone a))
  | cnotIn {l x xp a b pos} : Tr N sc l (.e a) → Tr N sc (.Name x xp) (.e b) → Tr N sc (.Compare l [.NotIn] [.Name x xp] pos) (.c (.notIn a b))
  | cand2 {l r a b pos} : Tr N sc l (.c a) → Tr N sc r (.c b) → Tr N sc (.BoolOp .And [l, r] pos) (.c (.and a b))
  | cand3 {l r u a b d pos} : Tr N sc l (.c a) → Tr N sc r (.c b) → Tr N sc u (.c d) → Tr N sc (.BoolOp .And [l, r, u] pos) (.c (.and a (.and b d)))
  | cor2 {l r a b pos} : Tr N sc l (.c a) → Tr N sc r (.c b) → Tr N sc (.BoolOp .Or [l, r] pos) (.c (.or a b))
  | cor3 {l r u a b d pos} : Tr N sc l (.c a) → Tr N sc r (.c b) → Tr N sc u (.c d) → Tr N sc (.BoolOp .Or [l, r, u] pos) (.c (.or a (.or b d)))
  | cnot {l a pos} : Tr N sc l (.c a) → Tr N sc (.UnaryOp .Not l pos) (.c (.not a))
  | ctruth {e a} : (∀ env whole, isTrue e env whole = (do let v ← whole; standAt e.pos; holding [v] (truthy v))) → Tr N sc e (.e a) → Tr N sc e (.c (.truth a))

/-- shapes that no rule of the language treats apart -/
noncomputable def okX : Expr → Bool
  | .Set .. | .Slice .. | .Starred .. | .ListComp .. | .SetComp .. | .DictComp .. => false
  | _ => true
structure PlainX (e : Expr) : Prop where
  star : ∀ rest env, starEach (e :: rest) env = (false, eval e env) :: starEach rest env
  sub : ∀ o i, subscripted e false o i = operate [o, i] (getItem o i)
  swap : ∀ t l env, swapsWith e t l env = pure false
  fold : ∀ env v, foldedSetIterable e env v = pure v
theorem plainX {e : Expr} (h : okX e = true) : PlainX e := by
  cases e <;> first | exact ⟨fun _ _ => rfl, fun _ _ => rfl, fun _ _ _ => rfl, fun _ _ => rfl⟩ | exact nomatch h
theorem tr_ok {N : Nm} {sc : Scope} {e : Expr} {m : Mx} (h : Tr N sc e m) : okX e = true := by
  induction h <;> first | rfl | assumption
theorem tr_star {N : Nm} {sc : Scope} {e : Expr} {m : Mx} (h : Tr N sc e m) : ∀ rest env, starEach (e :: rest) env = (false, eval e env) :: starEach rest env := (plainX (tr_ok h)).star
theorem tr_sub {N : Nm} {sc : Scope} {e : Expr} {m : ME} (h : Tr N sc e (.e m)) : ∀ o i, subscripted e false o i = operate [o, i] (getItem o i) := (plainX (tr_ok h)).sub
theorem tr_swap {N : Nm} {sc : Scope} {e : Expr} {m : ME} (h : Tr N sc e (.e m)) : ∀ t l env, swapsWith e t l env = pure false := (plainX (tr_ok h)).swap
end Mine
end

-- part S7
section
open PySem PySem.W PyProof.Rows
set_option Elab.async false
set_option linter.unusedVariables false
set_option maxRecDepth 20000
namespace Mine

noncomputable def SX (P : Par) (Φ : Calls) (n : Nat) (sc : Scope) (e : Expr) : Mx → Prop
  | .e m => ∀ (c : Cx) (_ : c.P = P) (_ : c.Ok) (_ : c.sc = sc) (A : Around) (E : Value → Shared → Prop) (s : Shared) (ρ : List Addr) (st : St) (Q : V → St → Prop), Rm A (n + 1) → c.R ρ st s.heap → wpE Φ m st Q →
      wpAny (model P.prog P.w) A (eval e c.env) (PE c s ρ Q) E s
  | .c m => ∀ (c : Cx) (_ : c.P = P) (_ : c.Ok) (_ : c.sc = sc) (A : Around) (E : Value → Shared → Prop) (s : Shared) (ρ : List Addr) (st : St) (Q : Bool → St → Prop), Rm A (n + 1) → c.R ρ st s.heap → wpC Φ m st Q →
      wpAny (model P.prog P.w) A (isTrue e c.env (eval e c.env)) (PC c s ρ Q) E s

theorem Rm.dec {A : Around} {n : Nat} (r : Rm A (n + 1)) : Rm A n := ⟨r.hh, by have := r.depth; exact om206 this, by have := r.units; exact om209 this⟩
theorem Rm.make {A : Around} {n : Nat} (r : Rm A (n + 1)) (C : Addr) (vals : List Value) : Rm (A.under (.builtin "type.__call__" ⟨.ref C :: vals, []⟩)) n :=
  ⟨r.hh, by rw [depth_under_make]; have := r.depth; exact om85 this, by rw [units_under_make]; have := r.units; exact om207 this⟩
theorem Rm.deeper {A : Around} {n : Nat} (r : Rm A (n + 1)) (env : Env) : Rm (A.deeper env) n :=
  ⟨r.hh, by rw [depth_deeper]; have := r.depth; exact om85 this, by rw [units_deeper]; have := r.units; exact om208 this⟩

theorem PE.post {c : Cx} {s s' : Shared} {ρ : List Addr} {Q Q' : V → St → Prop} {v : Value} (h : ∀ r st, Q r st → Q' r st) (x : PE c s ρ Q v s') : PE c s ρ Q' v s' :=
  let ⟨ρ', r, st', e, q, y⟩ := x; ⟨ρ', r, st', e, q, h _ _ y⟩
theorem wp_post {c : Cx} {M : Model} {A : Around} {E : Value → Shared → Prop} {t : Sem Value} {s s' : Shared} {ρ : List Addr} {Q Q' : V → St → Prop} (h : ∀ r st, Q r st → Q' r st) (x : wpAny M A t (PE c s ρ Q) E s') : wpAny M A t (PE c s ρ Q') E s' :=
  wpAny_mono x (fun _ _ y => y.post h) fun _ _ y => y
/-- what a call hands back, in the caller's frame -/
theorem back {Q : V → St → Prop} {loc : List (Option V)} : ∀ r st, (st.loc = loc ∧ Q r ⟨loc, st.heap⟩) → Q r st := fun r st h => by
  obtain ⟨l, hp⟩ := st
  obtain ⟨a, b⟩ := h
  dsimp only at a; subst a; exact b

theorem backTo1 (pos : Pos) (t : Sem Value) : backTo pos [(false, t)] = [(false, t)] := rfl
theorem backTo2 (pos : Pos) (t u : Sem Value) : backTo pos [(false, t), (false, u)] = [(false, t), (false, u)] := rfl
theorem backTo3 (pos : Pos) (t u v : Sem Value) : backTo pos [(false, t), (false, u), (false, v)] = [(false, t), (false, u), (false, v)] := rfl

section
variable {N : Nm} {sc : Scope} {e e' e'' : Expr} {m m' m'' : Mx} {pos : Pos}
theorem args1 (h : Tr N sc e m) (env : Env) : backTo pos (starEach [e] env) = [(false, eval e env)] := by rw [tr_star h]; rfl
theorem args2 (h : Tr N sc e m) (h' : Tr N sc e' m') (env : Env) : backTo pos (starEach [e, e'] env) = [(false, eval e env), (false, eval e' env)] := by rw [tr_star h, tr_star h']; rfl
theorem args3 (h : Tr N sc e m) (h' : Tr N sc e' m') (h'' : Tr N sc e'' m'') (env : Env) : backTo pos (starEach [e, e', e''] env) = [(false, eval e env), (false, eval e' env), (false, eval e'' env)] := by rw [tr_star h, tr_star h', tr_star h'']; rfl
end

section
variable {c : Cx} {A : Around} {E : Value → Shared → Prop} {s : Shared} {ρ : List Addr} {st : St}

theorem kin (fx : Fx c.P) (ok : c.Ok) (R : c.R ρ st s.heap) : fx.K.In s.heap := fx.X.keeps fun b o e => R.keep b o (ok.base b o e)

theorem leaf_glob (fx : Fx c.P) (ok : c.Ok) (R : c.R ρ st s.heap) {M : Model} {x : Str} {pos : Pos} {v : Value} {J : Value → Shared → Prop} (e : nsIn fx.K mainGlobals x = some (some v)) (hx : c.sc.names.lookup x = some .globalImplicit) (hd : (x == ("__debug__" : Str)) = false)
    (h : J v s) : wpAny M A (eval (.Name x pos) c.env) J E s := by
  obtain ⟨m, F, _⟩ := R.frame
  exact name_K F (fx.X.keeps ok.base) (fx.T.keeps ok.base) e h ok.kind hx hd
theorem leaf_built (fx : Fx c.P) (ok : c.Ok) (R : c.R ρ st s.heap) {M : Model} {x : Str} {pos : Pos} {v : Value} {J : Value → Shared → Prop} (e : nsIn fx.K mainGlobals x = some none ∧ bootBuiltins x = some v ∧ x ≠ "__name__") (hx : c.sc.names.lookup x = some .globalImplicit) (hd : (x == ("__debug__" : Str)) = false)
    (h : J v s) : wpAny M A (eval (.Name x pos) c.env) J E s := by
  obtain ⟨m, F, _⟩ := R.frame
  exact name_B F (fx.X.keeps ok.base) (fx.T.keeps ok.base) e.1 e.2.1 e.2.2 h ok.kind hx hd

theorem attr_none {C : Addr} {B h : PySem.Heap} {name : Str} (hn : ∀ k, (attrName k == name) = false) : ∀ {vs : List V} {es : List DictEntry} {j : Nat}, AttrEs C B ρ h j vs es → getL name es = some none := by
  intro vs es j x
  induction x with
  | nil => rfl
  | @cons j v vs hs t val es r _ ih =>
    have q : (⟨hs, .str (attrName j) t, val⟩ : DictEntry).key.isStr name = false := hn j
    unfold getL at ih ⊢
    rw [List.find?_cons, q]
    dsimp only
    split at ih
    · cases ih
    · rename_i he
      split at ih
      · cases ih
      · rename_i hr
        rw [he]
        dsimp only
        rw [List.any_cons]
        have : (⟨hs, .str (attrName j) t, val⟩ : DictEntry).refKey = false := rfl
        rw [this, Bool.false_or, if_neg hr]

/-- a method of the text's class -/
theorem leaf_meth (fx : Fx c.P) (ok : c.Ok) (R : c.R ρ st s.heap) {r : V} {v : Value} {name : Str} {f : Addr} {pl : Sem Bool} {J : Value × List Value → Shared → Prop} (x : VV c ρ s r v) (ho : isO st.heap r)
    (hf : findIn fx.K (.ref c.P.C) name = some (some (.ref f))) (ht : isFn fx.K (.ref f) = true) (hg : plainGet fx.K c.P.C name = true) (hn : ∀ k, (attrName k == name) = false) (h : J (.ref f, [v]) s) :
    wpAny (model c.P.prog c.P.w) A (getMethod v name pl) J E s := by
  obtain ⟨n, vs, rfl, hk⟩ := ho
  cases x with
  | obj e1 e2 =>
  obtain ⟨a, ea, hz, es, ep, hd, r⟩ := R.get hk
  rw [e1] at ea; cases ea
  obtain ⟨m, F, _⟩ := R.frame
  exact method_inst F (fx.X.keeps ok.base) ⟨e2, rfl, rfl, hd⟩ hg hf ht (attr_none hn r) h

/-- x = Aig() -/
theorem leaf_new {Φ : Calls} {addr : Nat → Addr} {n : Nat} {Q : V → St → Prop} (fx : Fx c.P) (ok : c.Ok) (H : CallOk c.P addr Φ n) (rm : Rm A (n + 1)) (R : c.R ρ st s.heap) (hm : makesIn fx.K c.P.C = true) (hi : findIn fx.K (.ref c.P.C) "__init__" = some (some (.ref (addr fInit)))) (hf : isFn fx.K (.ref (addr fInit)) = true)
    (h : Φ fInit [.obj st.heap.length] (st.heap ++ [.attrs []]) fun v h => v = .none ∧ Q (.obj st.heap.length) ⟨st.loc, h⟩) :
    wpAny (model c.P.prog c.P.w) A (call (.ref c.P.C) []) (PE c s ρ Q) E s := by
  obtain ⟨news, N, nd, cov, G⟩ := R.news
  obtain ⟨m, F, _⟩ := R.frame
  refine call_cls F (fx.X.keeps ok.base) N hm hi hf fun x dx h' F' N' l1 l2 => ?_
  have g : Grow c.L s.heap h' := G h' m F' fun p hp => N' p (.tail _ (.tail _ hp))
  have hn := ns_all F.ns F'.ns
  have ex := (N' _ (.head _)).1
  have ed := (N' _ (.tail _ (.head _))).1
  have hfree : ∀ o, s.heap.get? dx ≠ some o := fun o eo => by
    by_cases q : dx = c.L
    · exact (N' _ (.tail _ (.head _))).2.1 q
    · rcases cov dx o q eo with z | z
      · have := (N' _ (.tail _ (.head _))).2.2; rw [z] at this; cases this
      · exact Nat.lt_irrefl _ (l1 _ z)
  have ev : Ev c s ρ { s with heap := h', toks := s.toks } (ρ ++ [dx]) ⟨st.loc, st.heap ++ [.attrs []]⟩ := Ev.new (ob := .attrs []) R g hn ⟨by simp, [], 0, ed, .nil⟩ hfree
  have vx : ∀ {ρ'} {s' : Shared}, (ρ ++ [dx]) <+: ρ' → ImmKeep c.P.C h' s'.heap → VV c ρ' s' (.obj st.heap.length) (.ref x) := fun {ρ' s'} p k => by
    refine .obj (pre_get p ?_) (k _ _ (imm_inst _ _) ex)
    rw [← R.len, List.getElem?_append_right (Nat.le_refl _)]; simp
  refine codeAny_mono (H c rfl ok _ { s with heap := h' } (ρ ++ [dx]) _ fInit [.obj st.heap.length] [.ref x] _ (rm.make _ _) ev.rep (.cons (vx (List.prefix_refl _) (.refl _ _)) .nil) h) fun r s' ⟨v, e, q⟩ => ?_
  subst e
  obtain ⟨ρ', w, st', ev', xw, hl, hw, hq⟩ := q
  subst hw
  cases xw
  refine ⟨rfl, ?_⟩
  exact ⟨ρ', _, st', ev.trans ev', vx ev'.pre ev'.imm, back _ _ ⟨hl, hq⟩⟩
end
end Mine
end

-- part S8
section
open PySem PySem.W PyProof.Rows
set_option Elab.async false
set_option linter.unusedVariables false
set_option maxRecDepth 20000
namespace Mine

theorem is_none {c : Cx} {A : Around} {E : Value → Shared → Prop} {s : Shared} {ρ : List Addr} {st : St} {Q : V → St → Prop} {M : Model} (R : c.R ρ st s.heap) {r : V} {v : Value} (x : VV c ρ s r v) (h : Q (.bool (decide (r = .none))) st) :
    wpAny M A (compareOp .Is v .none) (PE c s ρ Q) E s := by
  have key : (v == Value.none) = decide (r = .none) := by cases x <;> simp
  refine wpAny_is_plain (by cases x <;> rfl) (endE R ?_ h)
  rw [key]; exact .bool _
theorem is_not_none {c : Cx} {A : Around} {E : Value → Shared → Prop} {s : Shared} {ρ : List Addr} {st : St} {Q : V → St → Prop} {M : Model} (R : c.R ρ st s.heap) {r : V} {v : Value} (x : VV c ρ s r v) (h : Q (.bool (!decide (r = .none))) st) :
    wpAny M A (compareOp .IsNot v .none) (PE c s ρ Q) E s := by
  have key : (v == Value.none) = decide (r = .none) := by cases x <;> simp
  refine wpAny_isNot_plain (by cases x <;> rfl) (endE R ?_ h)
  rw [key]; exact .bool _

theorem bits_eq {i : Int} (h : 0 ≤ i) : ((Builtin.Int.intBits i : Nat) : Int) = if i = 0 then (0 : Int) else ((i.toNat.log2 + 1 : Nat) : Int) := by
  unfold Builtin.Int.intBits
  by_cases q : i = 0
  · subst q; rfl
  · rw [if_neg (by simpa using q), if_neg q]
    have : i.natAbs = i.toNat := by exact om194 h
    rw [this]

theorem truth_end {c : Cx} {A : Around} {E : Value → Shared → Prop} {s s' : Shared} {ρ ρ' : List Addr} {st' : St} {M : Model} {Q : Bool → St → Prop} {r : V} {v : Value} (ev : Ev c s ρ s' ρ' st') (x : VV c ρ' s' r v) (h : ∃ t, r = .bool t ∧ Q t st') :
    wpAny M A (truthy v) (PC c s ρ Q) E s' := by
  obtain ⟨t, rfl, hq⟩ := h
  obtain rfl := x.bool_inv
  exact wpAny_truthy_bool ⟨ρ', st', ev, hq⟩

theorem pick_all (items : Array Value) (n : Nat) : (slicePick items none (some (n : Int)) none).toList = items.toList.take n := by
  have h1 : sliceBounds none (some (n : Int)) none items.size = (((0 : Nat) : Int), ((min n items.size : Nat) : Int), (1 : Int)) := by
    rw [kms_bounds]
    rfl
  rw [kmk_pick_nat items h1]
  simp only [List.drop_zero, Nat.sub_zero]
  rw [show items.size = items.toList.length from rfl, kmk_take_min]

theorem viaE2 {c : Cx} {s s₁ s₂ : Shared} {ρ ρ₁ : List Addr} {st₁ : St} {M : Model} {A : Around} {E : Value → Shared → Prop} {t : Sem Value} {Q : V → St → Prop} (a : Ev c s ρ s₁ ρ₁ st₁) (h : wpAny M A t (PE c s₁ ρ₁ Q) E s₂) : wpAny M A t (PE c s ρ Q) E s₂ :=
  wpAny_mono h (fun _ _ x => x.via a) fun _ _ x => x

noncomputable def SXc (c : Cx) (Φ : Calls) (n : Nat) (e : Expr) : Mx → Prop
  | .e m => ∀ (A : Around) (E : Value → Shared → Prop) (s : Shared) (ρ : List Addr) (st : St) (Q : V → St → Prop), Rm A (n + 1) → c.R ρ st s.heap → wpE Φ m st Q →
      wpAny (model c.P.prog c.P.w) A (eval e c.env) (PE c s ρ Q) E s
  | .c m => ∀ (A : Around) (E : Value → Shared → Prop) (s : Shared) (ρ : List Addr) (st : St) (Q : Bool → St → Prop), Rm A (n + 1) → c.R ρ st s.heap → wpC Φ m st Q →
      wpAny (model c.P.prog c.P.w) A (isTrue e c.env (eval e c.env)) (PC c s ρ Q) E s

set_option maxHeartbeats 2000000 in
theorem soundXc {c : Cx} (ok : c.Ok) (fx : Fx c.P) {N : Nm} {addr : Nat → Addr} (nf : Nf c.P fx N addr) {Φ : Calls} {n : Nat} (H : CallOk c.P addr Φ n) {e : Expr} {m : Mx} (h : Tr N c.sc e m) : SXc c Φ n e m := by
  induction h with
  | var h1 h2 h3 =>
    intro A E s ρ st Q rm R h
    exact leaf_var ok R h1 h2 h3 h
  | none =>
    intro A E s ρ st Q rm R h
    exact wpAny_Constant_none (endE R .none h)
  | bool =>
    intro A E s ρ st Q rm R h
    exact wpAny_Constant_bool (endE R (.bool _) h)
  | int =>
    intro A E s ρ st Q rm R h
    exact wpAny_Constant_int (endT R (.int _ _) h)
  | neg =>
    intro A E s ρ st Q rm R h
    exact wpAny_UnaryOp (wpAny_Constant_int (neg_int (endT R (.int _ _) h)))
  | attr ha _ ih =>
    intro A E s ρ st Q rm R h
    subst ha
    exact Attribute_Name_ (seqE (ih A E s ρ st _ rm R h) fun v s' ρ' r st' ev x hq => viaE ev (leaf_attr fx ok ev.rep x hq))
  | sub _ t2 ih1 ih2 =>
    intro A E s ρ st Q rm R h
    refine Subscript_ (seqE (ih1 A E s ρ st _ rm R h) fun v s' ρ' r st' ev x hq => seqE (ih2 A E s' ρ' st' _ rm ev.rep hq) fun v2 s2 ρ2 r2 st2 ev2 x2 hq2 => ?_)
    exact viaE (ev.trans ev2) (leaf_sub ev2.rep (ev2.vv x) x2 (tr_sub t2 _ _) hq2)
  | bin o _ _ ih1 ih2 =>
    intro A E s ρ st Q rm R h
    refine wpAny_BinOp (seqE (ih1 A E s ρ st _ rm R h) fun v s' ρ' r st' ev x hq => seqE (ih2 A E s' ρ' st' _ rm ev.rep hq) fun v2 s2 ρ2 r2 st2 ev2 x2 hq2 => ?_)
    exact viaE (ev.trans ev2) (leaf_bin (M := ()) rm ev2.rep o (ev2.vv x) x2 hq2)
  | repl _ _ ih1 ih2 =>
    intro A E s ρ st Q rm R h
    refine wpAny_BinOp (seqE (ih1 A E s ρ st _ rm R h) fun v s' ρ' r st' ev x hq => seqE (ih2 A E s' ρ' st' _ rm ev.rep hq) fun v2 s2 ρ2 r2 st2 ev2 x2 hq2 => ?_)
    exact viaE (ev.trans ev2) (leaf_repl ev2.rep (ev2.vv x) x2 hq2)
  | cmp o hm _ _ ih1 ih2 =>
    intro A E s ρ st Q rm R h
    refine wpAny_Compare1 (seqE (ih1 A E s ρ st _ rm R h) fun v s' ρ' r st' ev x hq => seqE (ih2 A E s' ρ' st' _ rm ev.rep hq) fun v2 s2 ρ2 r2 st2 ev2 x2 hq2 => ?_) hm
    exact viaE (ev.trans ev2) (leaf_cmp rm ev2.rep o (ev2.vv x) x2 hq2)
  | @pair l r a b k pos t1 t2 ih1 ih2 =>
    intro A E s ρ st Q rm R h
    refine Tuple_ ?_
    rw [args2 t1 t2]
    refine Calls.spliced_cons (seqE (ih1 A E s ρ st _ rm R h) fun v s' ρ' r st' ev x hq => Calls.spliced_cons (seqE (ih2 A E s' ρ' st' _ rm ev.rep hq) fun v2 s2 ρ2 r2 st2 ev2 x2 hq2 => Calls.spliced_nil ?_))
    exact viaE (ev.trans ev2) (leaf_pair ev2.rep (ev2.vv x) x2 hq2)
  | list0 =>
    intro A E s ρ st Q rm R h
    exact List_ (Calls.spliced_nil (leaf_newList R .nil (by simp) h))
  | list1 t1 ih1 =>
    intro A E s ρ st Q rm R h
    refine List_ ?_
    rw [args1 t1]
    refine Calls.spliced_cons (seqE (ih1 A E s ρ st _ rm R h) fun v s' ρ' r st' ev x hq => Calls.spliced_nil ?_)
    exact viaE ev (leaf_newList ev.rep (.cons x .nil) (by simp) hq)
  | list2 t1 t2 ih1 ih2 =>
    intro A E s ρ st Q rm R h
    refine List_ ?_
    rw [args2 t1 t2]
    refine Calls.spliced_cons (seqE (ih1 A E s ρ st _ rm R h) fun v s' ρ' r st' ev x hq => Calls.spliced_cons (seqE (ih2 A E s' ρ' st' _ rm ev.rep hq) fun v2 s2 ρ2 r2 st2 ev2 x2 hq2 => Calls.spliced_nil ?_))
    exact viaE (ev.trans ev2) (leaf_newList ev2.rep (.cons (ev2.vv x) (.cons x2 .nil)) (by simp) hq2)
  | list3 t1 t2 t3 ih1 ih2 ih3 =>
    intro A E s ρ st Q rm R h
    refine List_ ?_
    rw [args3 t1 t2 t3]
    refine Calls.spliced_cons (seqE (ih1 A E s ρ st _ rm R h) fun v s' ρ' r st' ev x hq => Calls.spliced_cons (seqE (ih2 A E s' ρ' st' _ rm ev.rep hq) fun v2 s2 ρ2 r2 st2 ev2 x2 hq2 =>
      Calls.spliced_cons (seqE (ih3 A E s2 ρ2 st2 _ rm ev2.rep hq2) fun v3 s3 ρ3 r3 st3 ev3 x3 hq3 => Calls.spliced_nil ?_)))
    exact viaE ((ev.trans ev2).trans ev3) (leaf_newList ev3.rep (.cons (ev3.vv (ev2.vv x)) (.cons (ev3.vv x2) (.cons x3 .nil))) (by simp) hq3)
  | dict0 =>
    intro A E s ρ st Q rm R h
    exact leaf_dict0 fx ok R h
  | set0 h1 =>
    intro A E s ρ st Q rm R h
    exact wpAny_Call_ofName (leaf_built fx ok R (nf.bn _ _ rfl) h1 (by decide) (callWith_type0 (leaf_set0 R h)))
  | len h1 t1 ih =>
    intro A E s ρ st Q rm R h
    refine wpAny_Call_ofName (leaf_built fx ok R (nf.bn _ _ rfl) h1 (by decide) ?_)
    rw [args1 t1]
    refine Calls.callWith_builtin (args := [(false, _)]) rfl (Calls.evalArgs_plain (Calls.spliced_cons (seqE (ih A E s ρ st _ rm R h) fun v s' ρ' r st' ev x hq => Calls.spliced_nil ?_)))
    exact viaE ev (leaf_len ev.rep x hq)
  | toInt h1 t1 ih =>
    intro A E s ρ st Q rm R h
    refine wpAny_Call_ofName (leaf_built fx ok R (nf.bn _ _ rfl) h1 (by decide) ?_)
    rw [args1 t1]
    refine PyProof.Rows.callWith_type (args := [(false, _)]) rfl (Calls.evalArgs_plain (Calls.spliced_cons (seqE (ih A E s ρ st _ rm R h) fun v s' ρ' r st' ev x hq => Calls.spliced_nil ?_)))
    obtain ⟨i, rfl, hq⟩ := hq
    obtain ⟨_, rfl⟩ := x.int_inv
    exact call_int_int ⟨ρ', _, st', ev, .int _ _, hq⟩
  | copy h1 t1 ih =>
    intro A E s ρ st Q rm R h
    refine wpAny_Call_ofName (leaf_built fx ok R (nf.bn _ _ rfl) h1 (by decide) ?_)
    rw [args1 t1]
    refine PyProof.Rows.callWith_type (args := [(false, _)]) rfl (Calls.evalArgs_plain (Calls.spliced_cons (seqE (ih A E s ρ st _ rm R h) fun v s' ρ' r st' ev x hq => Calls.spliced_nil ?_)))
    exact viaE ev (leaf_copy ok ev.rep x hq)
  | max1 h1 t1 ih =>
    intro A E s ρ st Q rm R h
    refine wpAny_Call_ofName (leaf_built fx ok R (nf.bn _ _ rfl) h1 (by decide) ?_)
    rw [args1 t1]
    refine Calls.callWith_builtin (args := [(false, _)]) rfl (Calls.evalArgs_plain (Calls.spliced_cons (seqE (ih A E s ρ st _ rm R h) fun v s' ρ' r st' ev x hq => Calls.spliced_nil ?_)))
    exact viaE ev (leaf_max1 rm ok ev.rep x hq)
  | max2 h1 t1 t2 ih1 ih2 =>
    intro A E s ρ st Q rm R h
    refine wpAny_Call_ofName (leaf_built fx ok R (nf.bn _ _ rfl) h1 (by decide) ?_)
    rw [args2 t1 t2]
    refine Calls.callWith_builtin (args := [(false, _), (false, _)]) rfl (Calls.evalArgs_plain (Calls.spliced_cons (seqE (ih1 A E s ρ st _ rm R h) fun v s' ρ' r st' ev x hq => Calls.spliced_cons (seqE (ih2 A E s' ρ' st' _ rm ev.rep hq) fun v2 s2 ρ2 r2 st2 ev2 x2 hq2 => Calls.spliced_nil ?_))))
    exact viaE (ev.trans ev2) (leaf_max2 rm ev2.rep (ev2.vv x) x2 hq2)
  | bitlen hc t1 ih =>
    intro A E s ρ st Q rm R h
    obtain ⟨pl, hc⟩ := hc
    refine MethodCall_ (seqE (ih A E s ρ st _ rm R h) fun v s' ρ' r st' ev x hq => ?_) (hc _)
    obtain ⟨i, rfl, hi, hq⟩ := hq
    obtain ⟨_, rfl⟩ := x.int_inv
    refine getMethod_int_bit_length (callWith_method0 (call_int_bit_length ?_))
    rw [bits_eq hi]
    exact PE.via ev (endT ev.rep (.int _ _) hq)
  | @slice e a nn k p1 p2 pos t1 ih =>
    intro A E s ρ st Q rm R h
    refine Subscript_ (seqE (ih A E s ρ st _ rm R h) fun v s' ρ' r st' ev x hq => ?_)
    obtain ⟨xs, e, hz, hn, hq⟩ := may_ex hq
    refine wpAny_Slice (wpAny_pure (wpAny_Constant_int (pos := p1) (k := k) (wpAny_pure ?_)))
    obtain ⟨a, vs, rfl, hl, rl⟩ := seen_list ok ev.rep x e
    have hl' := rl.length
    unfold lim at hz
    refine viaE2 ev ?_
    refine tail_any (T := "list") (Heap.IsList.typeIs (s := { s' with toks := s'.toks + 1, heap := s'.heap.push { cls := .type "slice", data := .fields #[.none, .int nn s'.toks, .none] } }) (hl.push _)) list_getitem_lookup
      (wpAny_getItem_list_slice (hl.push _) (Heap.IsSliceOf.new ..) .none (.int _ _) .none (by simp) ?_ (by simp only [List.size_toArray, sizeLine_eq]; exact om15 hz hl')) (by rfl)
    have g : Grow c.L s'.heap ((s'.heap.push { cls := .type "slice", data := .fields #[.none, .int nn s'.toks, .none] }).push { cls := .type "list", data := .seq (slicePick vs.toArray none (some (nn : Int)) none) }) := fun b o _ eo => Heap.get?_push_of_some _ (Heap.get?_push_of_some _ eo)
    obtain ⟨m, hm, _⟩ := ev.rep.ns
    have k' := g.imm (C := c.P.C) hm
    refine ⟨_, .ref st'.heap.length, _, Ev.new (ob := .list (xs.take nn)) ev.rep g (fun m hm => (hm.push _).push _) ⟨vs.take nn, 0, ?_, (rl.mono fun _ _ q => VR.mono (List.prefix_append _ _) k' q).take _⟩ (fun o eo => ?_), new_ref ev.rep, hq⟩
    · have hp := pick_all vs.toArray nn
      rw [List.toList_toArray] at hp
      rw [← hp, Array.toArray_toList]
      exact Heap.get?_push_size _ rfl
    · have h1 : (s'.heap.push { cls := .type "slice", data := .fields #[.none, .int nn s'.toks, .none] }).objs.size < s'.heap.objs.size := Heap.lt_size eo
      rw [Heap.size_push] at h1; exact absurd h1 (by exact om534)
  | ite _ _ _ ih1 ih2 ih3 =>
    intro A E s ρ st Q rm R h
    refine wpAny_IfExp (seqC (ih1 A E s ρ st _ rm R h) fun t s' ρ' st' ev hq => ?_)
    cases t with
    | true => exact viaE ev (ih2 A E s' ρ' st' _ rm ev.rep hq)
    | false => exact viaE ev (ih3 A E s' ρ' st' _ rm ev.rep hq)
  | and _ _ ih1 ih2 =>
    intro A E s ρ st Q rm R h
    refine wpAny_And2 (seqE (ih1 A E s ρ st _ rm R h) fun v s' ρ' r st' ev x hq => ?_)
    obtain ⟨t, rfl, hq⟩ := hq
    obtain rfl := x.bool_inv
    refine wpAny_truthy_bool ?_
    cases t with
    | true => exact viaE ev (ih2 A E s' ρ' st' _ rm ev.rep hq)
    | false => exact ⟨ρ', _, st', ev, .bool _, hq⟩
  | call0 h1 h2 h3 =>
    intro A E s ρ st Q rm R h
    refine wpAny_Call_ofName (leaf_glob fx ok R (nf.fn _ _ h1).1 h2 h3 (callWith_K0 (kin fx ok R) (nf.fn _ _ h1).2 ?_))
    exact wp_post back (call_of H rfl ok rm.dec R .nil h)
  | call1 h1 h2 h3 t1 ih1 =>
    intro A E s ρ st Q rm R h
    refine wpAny_Call_ofName (leaf_glob fx ok R (nf.fn _ _ h1).1 h2 h3 (callWith_K fx.X (nf.fn _ _ h1).2 ?_ (tr_star t1 _ _) rfl))
    rw [args1 t1]
    refine Calls.spliced_cons (seqE (ih1 A E s ρ st _ rm R h) fun v s' ρ' r st' ev x hq => Calls.spliced_nil ⟨kin fx ok ev.rep, ?_⟩)
    exact viaE ev (wp_post back (call_of H rfl ok rm.dec ev.rep (.cons x .nil) hq))
  | call2 h1 h2 h3 t1 t2 ih1 ih2 =>
    intro A E s ρ st Q rm R h
    refine wpAny_Call_ofName (leaf_glob fx ok R (nf.fn _ _ h1).1 h2 h3 (callWith_K fx.X (nf.fn _ _ h1).2 ?_ (tr_star t1 _ _) (by rw [args1 t2]; rfl)))
    rw [args2 t1 t2]
    refine Calls.spliced_cons (seqE (ih1 A E s ρ st _ rm R h) fun v s' ρ' r st' ev x hq => Calls.spliced_cons (seqE (ih2 A E s' ρ' st' _ rm ev.rep hq) fun v2 s2 ρ2 r2 st2 ev2 x2 hq2 => Calls.spliced_nil ⟨kin fx ok ev2.rep, ?_⟩))
    exact viaE (ev.trans ev2) (wp_post back (call_of H rfl ok rm.dec ev2.rep (.cons (ev2.vv x) (.cons x2 .nil)) hq2))
  | call3 h1 h2 h3 t1 t2 t3 ih1 ih2 ih3 =>
    intro A E s ρ st Q rm R h
    refine wpAny_Call_ofName (leaf_glob fx ok R (nf.fn _ _ h1).1 h2 h3 (callWith_K fx.X (nf.fn _ _ h1).2 ?_ (tr_star t1 _ _) (by rw [args2 t2 t3]; rfl)))
    rw [args3 t1 t2 t3]
    refine Calls.spliced_cons (seqE (ih1 A E s ρ st _ rm R h) fun v s' ρ' r st' ev x hq => Calls.spliced_cons (seqE (ih2 A E s' ρ' st' _ rm ev.rep hq) fun v2 s2 ρ2 r2 st2 ev2 x2 hq2 =>
      Calls.spliced_cons (seqE (ih3 A E s2 ρ2 st2 _ rm ev2.rep hq2) fun v3 s3 ρ3 r3 st3 ev3 x3 hq3 => Calls.spliced_nil ⟨kin fx ok ev3.rep, ?_⟩)))
    exact viaE ((ev.trans ev2).trans ev3) (wp_post back (call_of H rfl ok rm.dec ev3.rep (.cons (ev3.vv (ev2.vv x)) (.cons (ev3.vv x2) (.cons x3 .nil))) hq3))
  | meth0 h1 hc t1 ih1 =>
    intro A E s ρ st Q rm R h
    obtain ⟨pl, hc⟩ := hc
    obtain ⟨f1, f2, f3, f4, f5⟩ := nf.mn _ _ h1
    refine MethodCall_ (seqE (ih1 A E s ρ st _ rm R h) fun v s' ρ' r st' ev x hq => ?_) (hc _)
    refine leaf_meth fx ok ev.rep x hq.1 f1 f2 f4 f5 (callWith_K0 (kin fx ok ev.rep) f3 ?_)
    exact viaE ev (wp_post back (call_of H rfl ok rm.dec ev.rep (.cons x .nil) hq.2))
  | meth1 h1 hc t1 t2 ih1 ih2 =>
    intro A E s ρ st Q rm R h
    obtain ⟨pl, hc⟩ := hc
    obtain ⟨f1, f2, f3, f4, f5⟩ := nf.mn _ _ h1
    refine MethodCall_ (seqE (ih1 A E s ρ st _ rm R h) fun v s' ρ' r st' ev x hq => ?_) (hc _)
    refine leaf_meth fx ok ev.rep x hq.1 f1 f2 f4 f5 (callWith_K fx.X f3 ?_ (tr_star t2 _ _) rfl)
    rw [args1 t2]
    refine Calls.spliced_cons (seqE (ih2 A E s' ρ' st' _ rm ev.rep hq.2) fun v2 s2 ρ2 r2 st2 ev2 x2 hq2 => Calls.spliced_nil ⟨kin fx ok ev2.rep, ?_⟩)
    exact viaE (ev.trans ev2) (wp_post back (call_of H rfl ok rm.dec ev2.rep (.cons (ev2.vv x) (.cons x2 .nil)) hq2))
  | meth2 h1 hc t1 t2 t3 ih1 ih2 ih3 =>
    intro A E s ρ st Q rm R h
    obtain ⟨pl, hc⟩ := hc
    obtain ⟨f1, f2, f3, f4, f5⟩ := nf.mn _ _ h1
    refine MethodCall_ (seqE (ih1 A E s ρ st _ rm R h) fun v s' ρ' r st' ev x hq => ?_) (hc _)
    refine leaf_meth fx ok ev.rep x hq.1 f1 f2 f4 f5 (callWith_K fx.X f3 ?_ (tr_star t2 _ _) (by rw [args1 t3]; rfl))
    rw [args2 t2 t3]
    refine Calls.spliced_cons (seqE (ih2 A E s' ρ' st' _ rm ev.rep hq.2) fun v2 s2 ρ2 r2 st2 ev2 x2 hq2 => Calls.spliced_cons (seqE (ih3 A E s2 ρ2 st2 _ rm ev2.rep hq2) fun v3 s3 ρ3 r3 st3 ev3 x3 hq3 => Calls.spliced_nil ⟨kin fx ok ev3.rep, ?_⟩))
    exact viaE ((ev.trans ev2).trans ev3) (wp_post back (call_of H rfl ok rm.dec ev3.rep (.cons (ev3.vv (ev2.vv x)) (.cons (ev3.vv x2) (.cons x3 .nil))) hq3))
  | new h1 h2 =>
    intro A E s ρ st Q rm R h
    obtain ⟨f1, f2, f3, f4, f5⟩ := nf.cls
    exact wpAny_Call_ofName (leaf_glob fx ok R f1 h1 h2 (callWith_K0 (kin fx ok R) f2 (leaf_new fx ok H rm R f3 f4 f5 h)))
  | append hc t1 t2 ih1 ih2 =>
    intro A E s ρ st Q rm R h
    obtain ⟨pl, hc⟩ := hc
    refine MethodCall_ (seqE (ih1 A E s ρ st _ rm R h) fun v s' ρ' r st' ev x hq => ?_) (hc _)
    rw [args1 t2]
    exact wpAny_mono (leaf_append ev.rep x hq.1 (ih2 A E s' ρ' st' _ rm ev.rep hq.2)) (fun _ _ y => viaE2 ev y) fun _ _ y => y
  | pop hc t1 ih1 =>
    intro A E s ρ st Q rm R h
    obtain ⟨pl, hc⟩ := hc
    refine MethodCall_ (seqE (ih1 A E s ρ st _ rm R h) fun v s' ρ' r st' ev x hq => ?_) (hc _)
    exact wpAny_mono (leaf_pop ev.rep x hq) (fun _ _ y => viaE2 ev y) fun _ _ y => y
  | popAt hc t1 t2 ih1 ih2 =>
    intro A E s ρ st Q rm R h
    obtain ⟨pl, hc⟩ := hc
    refine MethodCall_ (seqE (ih1 A E s ρ st _ rm R h) fun v s' ρ' r st' ev x hq => ?_) (hc _)
    rw [args1 t2]
    exact wpAny_mono (leaf_popAt ev.rep x hq.1 (ih2 A E s' ρ' st' _ rm ev.rep hq.2)) (fun _ _ y => viaE2 ev y) fun _ _ y => y
  | insert hc t1 t2 t3 ih1 ih2 ih3 =>
    intro A E s ρ st Q rm R h
    obtain ⟨pl, hc⟩ := hc
    refine MethodCall_ (seqE (ih1 A E s ρ st _ rm R h) fun v s' ρ' r st' ev x hq => ?_) (hc _)
    rw [args2 t2 t3]
    exact wpAny_mono (leaf_insert ev.rep x hq.1 (ih2 A E s' ρ' st' _ rm ev.rep hq.2) fun s₁ ρ₁ ri st₁ vi ev1 xi q1 => ih3 A E s₁ ρ₁ st₁ _ rm ev1.rep q1) (fun _ _ y => viaE2 ev y) fun _ _ y => y
  | add hc t1 t2 ih1 ih2 =>
    intro A E s ρ st Q rm R h
    obtain ⟨pl, hc⟩ := hc
    refine MethodCall_ (seqE (ih1 A E s ρ st _ rm R h) fun v s' ρ' r st' ev x hq => ?_) (hc _)
    rw [args1 t2]
    exact wpAny_mono (leaf_add ev.rep x hq.1 (ih2 A E s' ρ' st' _ rm ev.rep hq.2)) (fun _ _ y => viaE2 ev y) fun _ _ y => y
  | get hc t1 t2 t3 ih1 ih2 ih3 =>
    intro A E s ρ st Q rm R h
    obtain ⟨pl, hc⟩ := hc
    refine MethodCall_ (seqE (ih1 A E s ρ st _ rm R h) fun v s' ρ' r st' ev x hq => ?_) (hc _)
    rw [args2 t2 t3]
    exact wpAny_mono (leaf_get rm ev.rep x hq.1 (ih2 A E s' ρ' st' _ rm ev.rep hq.2) fun s₁ ρ₁ ri st₁ vi ev1 xi q1 => ih3 A E s₁ ρ₁ st₁ _ rm ev1.rep q1) (fun _ _ y => viaE2 ev y) fun _ _ y => y
  | ccmp o hm _ _ ih1 ih2 =>
    intro A E s ρ st Q rm R h
    refine wpAny_isTrue_Compare1 (seqE (ih1 A E s ρ st _ rm R h) fun v s' ρ' r st' ev x hq => seqE (ih2 A E s' ρ' st' _ rm ev.rep hq) fun v2 s2 ρ2 r2 st2 ev2 x2 hq2 => ?_) hm
    obtain ⟨t, e, hq2⟩ := may_ex hq2
    refine seqE (Q := fun w st => ∃ t, w = .bool t ∧ Q t st) (leaf_cmp rm ev2.rep o (ev2.vv x) x2 (may_of e ⟨t, rfl, hq2⟩)) fun v3 s3 ρ3 r3 st3 ev3 x3 hq3 => ?_
    exact truth_end ((ev.trans ev2).trans ev3) x3 hq3
  | cchain hm _ _ _ _ ih1 ih2 ih3 ih4 =>
    intro A E s ρ st Q rm R h
    refine isTrue_chain (seqE (ih1 A E s ρ st _ rm R h) fun v s' ρ' r st' ev x hq => ?_) hm
    refine test_link (seqE (ih2 A E s' ρ' st' _ rm ev.rep hq) fun v2 s2 ρ2 r2 st2 ev2 x2 hq2 => ?_)
    obtain ⟨t, e, hq2⟩ := may_ex hq2
    refine seqE (Q := fun w st => w = .bool t ∧ st = st2) (leaf_cmp rm ev2.rep .lt (ev2.vv x) x2 (may_of e ⟨rfl, rfl⟩)) fun v3 s3 ρ3 r3 st3 ev3 x3 hq3 => ?_
    obtain ⟨rfl, rfl⟩ := hq3
    obtain rfl := x3.bool_inv
    refine wpAny_truthy_bool ?_
    have evA := (ev.trans ev2).trans ev3
    cases t with
    | false => exact ⟨ρ3, _, evA, hq2⟩
    | true =>
      refine test_link (seqE (ih3 A E s3 ρ3 _ _ rm ev3.rep hq2) fun v4 s4 ρ4 r4 st4 ev4 x4 hq4 => ?_)
      obtain ⟨t, e, hq4⟩ := may_ex hq4
      refine seqE (Q := fun w st => w = .bool t ∧ st = st4) (leaf_cmp rm ev4.rep .lt (ev4.vv (ev3.vv x2)) x4 (may_of e ⟨rfl, rfl⟩)) fun v5 s5 ρ5 r5 st5 ev5 x5 hq5 => ?_
      obtain ⟨rfl, rfl⟩ := hq5
      obtain rfl := x5.bool_inv
      refine wpAny_truthy_bool ?_
      have evB := (evA.trans ev4).trans ev5
      cases t with
      | false => exact ⟨ρ5, _, evB, hq4⟩
      | true =>
        refine test_last (seqE (ih4 A E s5 ρ5 _ _ rm ev5.rep hq4) fun v6 s6 ρ6 r6 st6 ev6 x6 hq6 => ?_)
        obtain ⟨t, e, hq6⟩ := may_ex hq6
        refine seqE (Q := fun w st => ∃ t, w = .bool t ∧ Q t st) (leaf_cmp rm ev6.rep .lt (ev6.vv (ev5.vv x4)) x6 (may_of e ⟨t, rfl, hq6⟩)) fun v7 s7 ρ7 r7 st7 ev7 x7 hq7 => ?_
        exact truth_end ((evB.trans ev6).trans ev7) x7 hq7
  | cisNone _ ih =>
    intro A E s ρ st Q rm R h
    refine wpAny_isTrue_Compare1 (seqE (ih A E s ρ st _ rm R h) fun v s' ρ' r st' ev x hq => wpAny_Constant_none ?_) rfl
    exact seqE (Q := fun w st => ∃ t, w = .bool t ∧ Q t st) (is_none ev.rep x ⟨_, rfl, hq⟩) fun v3 s3 ρ3 r3 st3 ev3 x3 hq3 => truth_end (ev.trans ev3) x3 hq3
  | cnotNone _ ih =>
    intro A E s ρ st Q rm R h
    refine wpAny_isTrue_Compare1 (seqE (ih A E s ρ st _ rm R h) fun v s' ρ' r st' ev x hq => wpAny_Constant_none ?_) rfl
    exact seqE (Q := fun w st => ∃ t, w = .bool t ∧ Q t st) (is_not_none ev.rep x ⟨_, rfl, hq⟩) fun v3 s3 ρ3 r3 st3 ev3 x3 hq3 => truth_end (ev.trans ev3) x3 hq3
  | cnotIn _ _ ih1 ih2 =>
    intro A E s ρ st Q rm R h
    refine wpAny_isTrue_Compare1 (seqE (ih1 A E s ρ st _ rm R h) fun v s' ρ' r st' ev x hq => seqE (ih2 A E s' ρ' st' _ rm ev.rep hq) fun v2 s2 ρ2 r2 st2 ev2 x2 hq2 => ?_) rfl
    exact seqE (leaf_notIn ev2.rep (ev2.vv x) x2 hq2) fun v3 s3 ρ3 r3 st3 ev3 x3 hq3 => truth_end ((ev.trans ev2).trans ev3) x3 hq3
  | cand2 _ _ ih1 ih2 =>
    intro A E s ρ st Q rm R h
    refine wpAny_isTrue_BoolOp (wpAny_allTrue_And_cons (seqC (ih1 A E s ρ st _ rm R h) fun t s' ρ' st' ev hq => ?_))
    cases t with
    | false => exact ⟨ρ', st', ev, hq⟩
    | true =>
      refine wpAny_allTrue_And_cons (seqC (ih2 A E s' ρ' st' _ rm ev.rep hq) fun t s2 ρ2 st2 ev2 hq2 => ?_)
      cases t with
      | false => exact ⟨ρ2, st2, ev.trans ev2, hq2⟩
      | true => exact wpAny_allTrue_And_nil ⟨ρ2, st2, ev.trans ev2, hq2⟩
  | cand3 _ _ _ ih1 ih2 ih3 =>
    intro A E s ρ st Q rm R h
    refine wpAny_isTrue_BoolOp (wpAny_allTrue_And_cons (seqC (ih1 A E s ρ st _ rm R h) fun t s' ρ' st' ev hq => ?_))
    cases t with
    | false => exact ⟨ρ', st', ev, hq⟩
    | true =>
      refine wpAny_allTrue_And_cons (seqC (ih2 A E s' ρ' st' _ rm ev.rep hq) fun t s2 ρ2 st2 ev2 hq2 => ?_)
      cases t with
      | false => exact ⟨ρ2, st2, ev.trans ev2, hq2⟩
      | true =>
        refine wpAny_allTrue_And_cons (seqC (ih3 A E s2 ρ2 st2 _ rm ev2.rep hq2) fun t s3 ρ3 st3 ev3 hq3 => ?_)
        cases t with
        | false => exact ⟨ρ3, st3, (ev.trans ev2).trans ev3, hq3⟩
        | true => exact wpAny_allTrue_And_nil ⟨ρ3, st3, (ev.trans ev2).trans ev3, hq3⟩
  | cor2 _ _ ih1 ih2 =>
    intro A E s ρ st Q rm R h
    refine wpAny_isTrue_BoolOp (wpAny_allTrue_Or_cons (seqC (ih1 A E s ρ st _ rm R h) fun t s' ρ' st' ev hq => ?_))
    cases t with
    | true => exact ⟨ρ', st', ev, hq⟩
    | false =>
      refine wpAny_allTrue_Or_cons (seqC (ih2 A E s' ρ' st' _ rm ev.rep hq) fun t s2 ρ2 st2 ev2 hq2 => ?_)
      cases t with
      | true => exact ⟨ρ2, st2, ev.trans ev2, hq2⟩
      | false => exact wpAny_allTrue_Or_nil ⟨ρ2, st2, ev.trans ev2, hq2⟩
  | cor3 _ _ _ ih1 ih2 ih3 =>
    intro A E s ρ st Q rm R h
    refine wpAny_isTrue_BoolOp (wpAny_allTrue_Or_cons (seqC (ih1 A E s ρ st _ rm R h) fun t s' ρ' st' ev hq => ?_))
    cases t with
    | true => exact ⟨ρ', st', ev, hq⟩
    | false =>
      refine wpAny_allTrue_Or_cons (seqC (ih2 A E s' ρ' st' _ rm ev.rep hq) fun t s2 ρ2 st2 ev2 hq2 => ?_)
      cases t with
      | true => exact ⟨ρ2, st2, ev.trans ev2, hq2⟩
      | false =>
        refine wpAny_allTrue_Or_cons (seqC (ih3 A E s2 ρ2 st2 _ rm ev2.rep hq2) fun t s3 ρ3 st3 ev3 hq3 => ?_)
        cases t with
        | true => exact ⟨ρ3, st3, (ev.trans ev2).trans ev3, hq3⟩
        | false => exact wpAny_allTrue_Or_nil ⟨ρ3, st3, (ev.trans ev2).trans ev3, hq3⟩
  | cnot _ ih =>
    intro A E s ρ st Q rm R h
    exact wpAny_isTrue_Not (seqC (ih A E s ρ st _ rm R h) fun t s' ρ' st' ev hq => ⟨ρ', st', ev, hq⟩)
  | ctruth he _ ih =>
    intro A E s ρ st Q rm R h
    refine wpAny_isTrue_value (seqE (ih A E s ρ st _ rm R h) fun v s' ρ' r st' ev x hq => ?_) (he _ _)
    exact viaC ev (leaf_truth ev.rep x hq)

theorem soundX {P : Par} (fx : Fx P) {N : Nm} {addr : Nat → Addr} (nf : Nf P fx N addr) {Φ : Calls} {n : Nat} (H : CallOk P addr Φ n) {sc : Scope} {e : Expr} {m : Mx} (h : Tr N sc e m) : SX P Φ n sc e m := by
  cases m <;> (intro c hP ok hsc; subst hP hsc; exact soundXc ok fx nf H h)
end Mine
end

-- part S9a
section
open PySem PySem.W PyProof.Rows
set_option Elab.async false
set_option linter.unusedVariables false
set_option maxRecDepth 20000
namespace Mine

noncomputable def Cx.with (c : Cx) (p : Addr × Obj) : Cx := { c with kp := p :: c.kp }

section
variable {c : Cx} {s : Shared} {ρ : List Addr} {st : St} {I : Addr} {o : Obj}

/-- a thing of the machine's own, to be kept -/
theorem Rep.watch {h : PySem.Heap} (R : c.R ρ st h) (ho : h.get? I = some o) (hL : I ≠ c.L) (hr : I ∉ ρ) (h0 : c.h₀.get? I = none) : (c.with (I, o)).R ρ st h :=
  ⟨R.keep, R.above, R.ns, R.len, R.objs, R.fresh, R.nodup, fun p hp => by
    rcases List.mem_cons.mp hp with rfl | hp
    · exact ⟨ho, hL, hr, h0⟩
    · exact R.kept p hp⟩
theorem Rep.unwatch {h : PySem.Heap} (R : (c.with (I, o)).R ρ st h) : c.R ρ st h :=
  ⟨R.keep, R.above, R.ns, R.len, R.objs, R.fresh, R.nodup, fun p hp => R.kept p (.tail _ hp)⟩
theorem Rep.watched {h : PySem.Heap} (R : (c.with (I, o)).R ρ st h) : h.get? I = some o ∧ I ≠ c.L ∧ I ∉ ρ ∧ c.h₀.get? I = none := R.kept (I, o) (.head _)

theorem fresh_watch {h : PySem.Heap} (R : c.R ρ st h) (hn : ∀ x, h.get? I ≠ some x) : I ≠ c.L ∧ I ∉ ρ ∧ c.h₀.get? I = none := by
  refine ⟨?_, fun m => ?_, ?_⟩
  · rintro rfl
    obtain ⟨m, ⟨oL, _, _, eL, _⟩, _⟩ := R.ns
    exact hn _ eL
  · obtain ⟨x, e, _⟩ := R.obj_at m
    exact hn x e
  · cases q : c.h₀.get? I with
    | none => rfl
    | some x => exact absurd (R.keep _ _ q) (hn x)

/-- the thing turns, nothing else does -/
theorem Rep.tick {h h' : PySem.Heap} {o' : Obj} (R : (c.with (I, o)).R ρ st h) (hk : ∀ p ∈ c.kp, p.1 ≠ I) (hi : ¬ Imm c.P.C o) (g : ∀ b x, b ≠ I → h.get? b = some x → h'.get? b = some x) :
    c.R ρ st h' ∧ ImmKeep c.P.C h h' := by
  obtain ⟨ho, hL, hr, h0⟩ := R.watched
  have k : ImmKeep c.P.C h h' := fun a x i e => by
    by_cases q : a = I
    · subst q; rw [ho] at e; cases e; exact absurd i hi
    · exact g a x q e
  refine ⟨⟨fun b x e => g b x (fun q => by rw [q, h0] at e; cases e) (R.keep b x e), R.above, ?_, R.len, fun n a ob e1 e2 => ?_, R.fresh, R.nodup, fun p hp => ?_⟩, k⟩
  · obtain ⟨m, ⟨oL, es, ep, eL, r⟩, l⟩ := R.ns
    exact ⟨m, ⟨oL, es, ep, g _ _ (Ne.symm hL) eL, r⟩, l.mono (List.prefix_refl _) k⟩
  · exact (R.objs n a ob e1 e2).mono (List.prefix_refl _) k fun x e => g a x (fun q => hr (q ▸ List.mem_of_getElem? e1)) e
  · obtain ⟨a1, a2, a3, a4⟩ := R.kept p (.tail _ hp)
    exact ⟨g _ _ (hk p hp) a1, a2, a3, a4⟩
end

structure It (c : Cx) (A : Around) (I : Addr) (chk : St → Prop) (J : Nat → Obj → Prop) (HI : List Addr → PySem.Heap → Prop) (vals : List V) : Prop where
  mono : ∀ {ρ ρ' : List Addr} {h h' : PySem.Heap}, ρ <+: ρ' → ImmKeep c.P.C h h' → HI ρ h → HI ρ' h'
  notImm : ∀ i o, J i o → ¬ Imm c.P.C o
  item : ∀ (i : Nat) (v : V) (s : Shared) (ρ : List Addr) (st : St) (o : Obj), vals[i]? = some v → J i o → s.heap.get? I = some o → c.R ρ st s.heap → chk st → HI ρ s.heap → ∀ (Q : Option Value → Shared → Prop) (E : Value → Shared → Prop),
    (∀ val h' tk o', J (i + 1) o' → h'.get? I = some o' → (∀ b x, b ≠ I → s.heap.get? b = some x → h'.get? b = some x) → VR c.P.C c.P.B ρ s.heap v val → Q (some val) { s with heap := h', toks := tk }) →
    wpAny (model c.P.prog c.P.w) A (pyNext (.ref I)) Q E s
  done : ∀ (i : Nat) (s : Shared) (ρ : List Addr) (st : St) (o : Obj), i = vals.length → J i o → s.heap.get? I = some o → c.R ρ st s.heap → chk st → HI ρ s.heap → ∀ (Q : Option Value → Shared → Prop) (E : Value → Shared → Prop),
    (∀ h' tk, (∀ b x, b ≠ I → s.heap.get? b = some x → h'.get? b = some x) → Q none { s with heap := h', toks := tk }) →
    wpAny (model c.P.prog c.P.w) A (pyNext (.ref I)) Q E s

section
variable {c : Cx} {A : Around} {s : Shared} {ρ : List Addr} {st : St} {I : Addr} {o : Obj} {chk : St → Prop} {J : Nat → Obj → Prop} {HI : List Addr → PySem.Heap → Prop} {vals : List V}

theorem loop_sound (it : It c A I chk J HI vals) (ok : c.Ok) {k : Nat} {x : Str} {p : Pos} {body : List Stmt} (hx : c.sc.names[k]? = some (x, .local)) (hl : c.sc.names.lookup x = some .local) {bw : St → (Fl → St → Prop) → Prop}
    (hb : ∀ o s ρ st Q E, (c.with (I, o)).R ρ st s.heap → bw st Q → wpAny (model c.P.prog c.P.w) A (execs body c.env) (PS (c.with (I, o)) s ρ Q) E s)
    (hk : ∀ p ∈ c.kp, p.1 ≠ I) {Q : Fl → St → Prop} {X : Value → Shared → Prop} (R : (c.with (I, o)).R ρ st s.heap) (hj : J 0 o) (hi : HI ρ s.heap) (h : wpFor chk k bw vals st Q) :
    codeAny (model c.P.prog c.P.w) A (.forLoop (.Name x p) (.ref I) body [] c.env) (fun r s' => match r with | .ok f => PS c s ρ Q f s' | .error e => X e s') s := by
  refine codeAny_forLoop
    (fun n s' => Ex4 fun i o ρ' st' => An10 (n = vals.length + 1 - i) (i ≤ vals.length) ((c.with (I, o)).R ρ' st' s'.heap) (J i o) (HI ρ' s'.heap) (ρ <+: ρ') (ImmKeep c.P.C s.heap s'.heap) (s'.gens = s.gens) (s'.os = s.os) (wpFor chk k bw (vals.drop i) st' Q)) ?_
    (vals.length + 1) ⟨0, o, ρ, st, rfl, Nat.zero_le _, R, hj, hi, List.prefix_refl _, .refl _ _, rfl, rfl, by simpa using h⟩
  rintro n s' ⟨i, o, ρ', st', rfl, hle, R', hj', hi', hp, him, hg, ho, hw⟩
  have hI := R'.watched
  cases hv : vals[i]? with
  | none =>
    have hlen : i = vals.length := Nat.le_antisymm hle (by simpa using hv)
    have hd : vals.drop i = [] := by rw [hlen]; simp
    rw [hd] at hw
    refine it.done i s' ρ' st' o hlen hj' hI.1 R'.unwatch hw.1 hi' _ _ fun h' tk g => wpAny_execs_nil ?_
    obtain ⟨R2, k2⟩ := R'.tick (o' := o) hk (it.notImm _ _ hj') g
    exact ⟨ρ', .next, st', ⟨R2, hp, him.trans k2, hg, ho⟩, .next, hw.2⟩
  | some v =>
    have hlt : i < vals.length := (List.getElem?_eq_some_iff.mp hv).1
    have hd : vals.drop i = v :: vals.drop (i + 1) := by
      rw [List.drop_eq_getElem_cons hlt]
      rw [List.getElem?_eq_getElem hlt] at hv; cases hv; rfl
    rw [hd] at hw
    refine it.item i v s' ρ' st' o hv hj' hI.1 R'.unwatch hw.1 hi' _ _ fun val h' tk o' hj2 ho2 g rv => ?_
    obtain ⟨R2, k2⟩ := R'.tick (o' := o') hk (it.notImm _ _ hj') g
    have R3 : (c.with (I, o')).R ρ' st' h' := R2.watch ho2 hI.2.1 hI.2.2.1 hI.2.2.2
    have ok' : (c.with (I, o')).Ok := ⟨ok.base, ok.kind, ok.nd⟩
    refine assign_Name (wpAny_mono (leaf_store (c := c.with (I, o')) (s := { s' with heap := h', toks := tk }) (st := st') ok' R3 hx hl (VR.mono (List.prefix_refl _) k2 rv)) (fun _ s2 ev => ?_) fun _ _ y => y)
    refine seqS (hb o' s2 ρ' _ _ _ ev.rep hw.2) fun f s3 ρ3 fl st3 ev3 fr hq => ?_
    have I3 : ∃ m, m < vals.length + 1 - i ∧ (wpFor chk k bw (vals.drop (i + 1)) st3 Q → Ex4 fun i o ρ' st' => An10 (m = vals.length + 1 - i) (i ≤ vals.length) ((c.with (I, o)).R ρ' st' s3.heap) (J i o) (HI ρ' s3.heap) (ρ <+: ρ') (ImmKeep c.P.C s.heap s3.heap) (s3.gens = s.gens) (s3.os = s.os) (wpFor chk k bw (vals.drop i) st' Q)) := by
      refine ⟨vals.length + 1 - (i + 1), by exact om235 hlt, fun hw3 => ⟨i + 1, o', ρ3, st3, rfl, hlt, ev3.rep, hj2, it.mono (ev.pre.trans ev3.pre) ((k2.trans ev.imm).trans ev3.imm) hi', hp.trans (ev.pre.trans ev3.pre), (him.trans k2).trans (ev.imm.trans ev3.imm), (ev3.gens.trans ev.gens).trans hg, (ev3.os.trans ev.os).trans ho, hw3⟩⟩
    cases fr with
    | next => obtain ⟨m, hm, k⟩ := I3; exact ⟨m, hm, k hq⟩
    | cont => obtain ⟨m, hm, k⟩ := I3; exact ⟨m, hm, k hq⟩
    | ret xv => exact ⟨ρ3, .ret _, st3, ⟨ev3.rep.unwatch, hp.trans (ev.pre.trans ev3.pre), (him.trans k2).trans (ev.imm.trans ev3.imm), (ev3.gens.trans ev.gens).trans hg, (ev3.os.trans ev.os).trans ho⟩, .ret xv, hq⟩
end

/-- the three kinds of turns -/
noncomputable def JList (ax : Addr) (i : Nat) (o : Obj) : Prop := o.cls = .type "list_iterator" ∧ o.data = .fields #[.ref ax, .int i 0]
noncomputable def JTup (t : Addr) (i : Nat) (o : Obj) : Prop := o.cls = .type "tuple_iterator" ∧ o.data = .fields #[.ref t, .int i 0]
noncomputable def JRange (a d : Int) (n : Nat) (i : Nat) (o : Obj) : Prop := o = { cls := .type "range_iterator", dict := none, data := .fields #[rawInt (a + (i : Nat) * d), rawInt ((n : Int) - (i : Nat)), rawInt d], slots := #[] }

theorem fields_notImm {C : Addr} {o : Obj} {vs : Array Value} (e : o.data = .fields vs) : ¬ Imm C o := by
  rintro (⟨_, its, n, q⟩ | ⟨_, q⟩) <;> rw [e] at q <;> cases q

section
variable {c : Cx} {A : Around} {ρ₀ : List Addr} {I : Addr}

theorem It.list (hh : A.handled = none) {n : Nat} {ax : Addr} {xs : List V} (ρ : List Addr) (e : ρ[n]? = some ax) : It c A I (fun st => st.heap[n]? = some (.list xs)) (JList ax) (fun ρ' _ => ρ <+: ρ') xs where
  mono := fun p _ h => h.trans p
  notImm := fun i o h => fields_notImm h.2
  item := fun i v s ρ' st o hv hj ho R hc hi Q E h => by
    obtain ⟨a, ea, vs, ep, hl, rl⟩ := R.get hc
    rw [pre_get hi e] at ea; cases ea
    obtain ⟨val, ev, rv⟩ := rl.get hv
    refine wpAny_pyNext_list_item (i := i) ⟨o, ho, hj.1, hj.2⟩ hl.isList (x := val) (by simpa using ev) fun h' hit sb => ?_
    obtain ⟨o', ho', hc', hd'⟩ := hit
    exact h val h' s.toks o' ⟨hc', hd'⟩ ho' sb.extBut rv
  done := fun i s ρ' st o hlen hj ho R hc hi Q E h => by
    obtain ⟨a, ea, vs, ep, hl, rl⟩ := R.get hc
    rw [pre_get hi e] at ea; cases ea
    have hz := rl.length
    refine wpAny_pyNext_list_end hh (i := i) ⟨o, ho, hj.1, hj.2⟩ hl.isList (by simp; exact om340 hlen hz) fun h' g => h h' s.toks g

theorem It.pair (hh : A.handled = none) {t : Addr} {a b : V} : It c A I (fun _ => True) (JTup t) (fun ρ h => VR c.P.C c.P.B ρ h (.pair a b) (.ref t)) [a, b] where
  mono := fun p k h => h.mono p k
  notImm := fun i o h => fields_notImm h.2
  item := fun i v s ρ' st o hv hj ho R hc hi Q E h => by
    cases hi with
    | @pair _ _ va vb _ k hx ra rb =>
    have : ∃ val, [va, vb][i]? = some val ∧ VR c.P.C c.P.B ρ' s.heap v val := by
      match i, hv with
      | 0, hv => simp at hv; subst hv; exact ⟨va, rfl, ra⟩
      | 1, hv => simp at hv; subst hv; exact ⟨vb, rfl, rb⟩
    obtain ⟨val, ev, rv⟩ := this
    refine wpAny_pyNext_tuple_item (i := i) (items := #[va, vb]) ⟨o, ho, hj.1, hj.2⟩ ⟨_, hx, rfl, _, rfl⟩ (x := val) (by simpa using ev) fun h' hit sb => ?_
    obtain ⟨o', ho', hc', hd'⟩ := hit
    exact h val h' s.toks o' ⟨hc', hd'⟩ ho' sb.extBut rv
  done := fun i s ρ' st o hlen hj ho R hc hi Q E h => by
    cases hi with
    | @pair _ _ va vb _ k hx ra rb =>
    refine wpAny_pyNext_tuple_end hh (i := i) (items := #[va, vb]) ⟨o, ho, hj.1, hj.2⟩ ⟨_, hx, rfl, _, rfl⟩ (by simp at hlen; simp [hlen]) fun h' g => h h' s.toks g

theorem It.range (hh : A.handled = none) {a d : Int} {n : Nat} : It c A I (fun _ => True) (JRange a d n) (fun _ _ => True) ((List.range n).map fun (k : Nat) => V.int (a + k * d)) where
  mono := fun _ _ _ => trivial
  notImm := fun i o h => by subst h; exact fields_notImm rfl
  item := fun i v s ρ' st o hv hj ho R hc hi Q E h => by
    have hin : i < n := by
      have := (List.getElem?_eq_some_iff.mp hv).1
      simpa using this
    have hv' : v = .int (a + i * d) := by
      rw [List.getElem?_map, List.getElem?_range hin] at hv
      cases hv; rfl
    subst hv'
    refine wpAny_pyNext_range_item (x := a + (i : Nat) * d) (left := (n : Int) - (i : Nat)) (step := d) (by subst hj; exact ho) (by exact om238 hin) fun h' hit sb => ?_
    refine h _ h' _ _ ?_ hit sb.extBut (.int _ _)
    have e1 : a + ((i + 1 : Nat) : Int) * d = a + (i : Int) * d + d := by push_cast; rw [Int.add_mul, Int.one_mul, Int.add_assoc]
    have e2 : (n : Int) - ((i + 1 : Nat) : Int) = (n : Int) - (i : Int) - 1 := by push_cast; exact om182
    unfold JRange
    rw [e1, e2]
  done := fun i s ρ' st o hlen hj ho R hc hi Q E h => by
    refine wpAny_pyNext_range_end hh (x := a + (i : Nat) * d) (left := (n : Int) - (i : Nat)) (step := d) (by subst hj; exact ho) (by simp at hlen; exact om264 hlen) fun h' g => h h' s.toks g
end
end Mine
end

-- part S9b
section
open PySem PySem.W PyProof.Rows
set_option Elab.async false
set_option linter.unusedVariables false
set_option maxRecDepth 20000
namespace Mine

inductive OpI : Operator → Bop → Prop
  | add : OpI .Add .add
  | and : OpI .BitAnd .and
  | or : OpI .BitOr .or
  | xor : OpI .BitXor .xor

section
variable {c : Cx} {A : Around} {E : Value → Shared → Prop} {s : Shared} {ρ : List Addr} {st : St} {Q : V → St → Prop} {n : Nat}

theorem leaf_inpl (R : c.R ρ st s.heap) {op : Operator} {bop : Bop} (o : OpI op bop) {r r' : V} {v v' : Value} (x : VV c ρ s r v) (y : VV c ρ s r' v') (h : may (binV bop r r') fun w => Q w st) :
    wpAny (model c.P.prog c.P.w) A (inplaceOp op v v') (PE c s ρ Q) E s := by
  obtain ⟨w, e, hq⟩ := may_ex h
  unfold binV at e
  split at e
  · rename_i a b
    obtain ⟨i, e, rfl⟩ := Option.map_eq_some_iff.mp e
    obtain ⟨_, rfl⟩ := x.int_inv; obtain ⟨_, rfl⟩ := y.int_inv
    cases o <;> simp only [binI] at e
    case add => cases e; exact PyProof.Rows.iadd_int (endT R (.int _ _) hq)
    case and =>
      split at e
      · rename_i q; cases e
        refine iand_int (endT R ?_ hq)
        rw [bitAnd_nonneg q.1 q.2]; exact .int _ _
      · cases e
    case or =>
      split at e
      · rename_i q; cases e
        refine ior_int (endT R ?_ hq)
        rw [bitOr_nonneg q.1 q.2]; exact .int _ _
      · cases e
    case xor =>
      split at e
      · rename_i q; cases e
        refine ixor_int (endT R ?_ hq)
        rw [bitXor_nonneg q.1 q.2]; exact .int _ _
      · cases e
  · cases e

theorem leaf_item (R : c.R ρ st s.heap) {k : Nat} {r : V} {v vi : Value} (x : VV c ρ s (.ref k) v) (xi : VV c ρ s r vi) (h : may (subV st.heap (.ref k) r) fun w => Q w st) :
    wpAny (model c.P.prog c.P.w) A (getItem v vi) (PE c s ρ Q) E s := by
  obtain ⟨w, e, hq⟩ := may_ex h
  cases r with
  | int i =>
    unfold subV at e
    dsimp only at e
    split at e
    · rename_i xs hn
      split at e
      · rename_i hk
        obtain ⟨_, rfl, e1⟩ := x.ref_inv
        obtain ⟨t, rfl⟩ := xi.int_inv
        obtain ⟨a, ea, vs, ep, hl, rl⟩ := R.get hn
        rw [e1] at ea; cases ea
        obtain ⟨val, ev, rv⟩ := rl.get e
        have hb := (List.getElem?_eq_some_iff.mp e).1
        have hk2 := hk.2
        unfold lim at hk2
        exact wpAny_getItem_list hl.isList hk.1 (by exact om58 hb hk2) (by simpa using ev) (endE R rv hq)
      · cases e
    · cases e
  | _ => cases e

theorem upd_mem : ∀ {l : List (Addr × Obj)} {d : Addr} {o o' : Obj}, (d, o) ∈ l → (l.map (·.1)).Nodup → ∃ l', Upd d o o' l l' ∧ (d, o') ∈ l' ∧ ∀ p ∈ l, p.1 ≠ d → p ∈ l'
  | [], _, _, _, h, _ => nomatch h
  | q :: l, d, o, o', h, nd => by
    rw [List.map_cons, List.nodup_cons] at nd
    rcases List.mem_cons.mp h with e | h
    · subst e
      refine ⟨(d, o') :: l, .head fun p hp e => nd.1 (List.mem_map.mpr ⟨p, hp, e⟩), .head _, fun p hp hne => ?_⟩
      rcases List.mem_cons.mp hp with rfl | hp
      · exact absurd rfl hne
      · exact .tail _ hp
    · obtain ⟨l', u, m, k⟩ := upd_mem (o' := o') h nd.2
      refine ⟨q :: l', .tail (fun e => nd.1 (List.mem_map.mpr ⟨_, h, e.symm⟩)) u, .tail _ m, fun p hp hne => ?_⟩
      rcases List.mem_cons.mp hp with rfl | hp
      · exact .head _
      · exact .tail _ (k p hp hne)

theorem put_last {C : Addr} {B h : PySem.Heap} {k : Nat} {hs : Int} {t : Tok} {val : Value} (hk : k < 4) : ∀ {vs : List V} {es : List DictEntry} {j : Nat}, AttrEs C B ρ h j vs es → j + vs.length = k → putL (attrName k) hs (.str (attrName k) t) val es = es ++ [⟨hs, .str (attrName k) t, val⟩] := by
  intro vs es j x
  induction x with
  | nil => intro _; rfl
  | @cons j v vs hs' t' val' es r _ ih =>
    intro e
    simp only [List.length_cons] at e
    unfold putL
    have q : (⟨hs', .str (attrName j) t', val'⟩ : DictEntry).key.isStr (attrName k) = false := by
      simp only [Value.isStr]
      rw [attrName_inj j (by exact om123 e hk) k hk]; simp; exact om122 e
    rw [q, if_neg Bool.false_ne_true, ih (by exact om73 e)]; rfl
theorem look_free {C : Addr} {B h : PySem.Heap} {k : Nat} (hk : k < 4) : ∀ {vs : List V} {es : List DictEntry} {j : Nat}, AttrEs C B ρ h j vs es → j + vs.length = k → getL (attrName k) es = some none := by
  intro vs es j x
  induction x with
  | nil => intro _; rfl
  | @cons j v vs hs' t' val' es r _ ih =>
    intro e
    simp only [List.length_cons] at e
    have ih := ih (by exact om73 e)
    have q : (⟨hs', .str (attrName j) t', val'⟩ : DictEntry).key.isStr (attrName k) = false := by
      simp only [Value.isStr]
      rw [attrName_inj j (by exact om123 e hk) k hk]; simp; exact om122 e
    unfold getL at ih ⊢
    rw [List.find?_cons, q]
    dsimp only
    split at ih
    · cases ih
    · rename_i he
      split at ih
      · cases ih
      · rename_i hr
        rw [he]
        dsimp only
        rw [List.any_cons]
        have : (⟨hs', .str (attrName j) t', val'⟩ : DictEntry).refKey = false := rfl
        rw [this, Bool.false_or, if_neg hr]
theorem attr_snoc {C : Addr} {B h : PySem.Heap} {k : Nat} {hs : Int} {t : Tok} {v : V} {val : Value} (r : VR C B ρ h v val) : ∀ {vs : List V} {es : List DictEntry} {j : Nat}, AttrEs C B ρ h j vs es → j + vs.length = k → AttrEs C B ρ h j (vs ++ [v]) (es ++ [⟨hs, .str (attrName k) t, val⟩]) := by
  intro vs es j x
  induction x with
  | nil => intro e; simp at e; subst e; exact .cons r .nil
  | cons r' _ ih => intro e; simp only [List.length_cons] at e; exact .cons r' (ih (by exact om73 e))
theorem attr_len {C : Addr} {B h : PySem.Heap} : ∀ {vs : List V} {es : List DictEntry} {j : Nat}, AttrEs C B ρ h j vs es → es.length = vs.length := by
  intro vs es j x
  induction x with
  | nil => rfl
  | cons _ _ ih => simp [ih]

theorem leaf_setattr (fx : Fx c.P) (ok : c.Ok) (R : c.R ρ st s.heap) {QU : St → Prop} {ro rv : V} {vo vv : Value} {k : Nat} (hk : k < 4) (xo : VV c ρ s ro vo) (xv : VV c ρ s rv vv) (h : may (setAttrV st.heap ro k rv) fun H => QU ⟨st.loc, H⟩) :
    wpAny (model c.P.prog c.P.w) A (setAttr vo (attrName k) vv) (fun _ s' => ∃ ρ' st', Ev c s ρ s' ρ' st' ∧ QU st') E s := by
  obtain ⟨H, e, hq⟩ := may_ex h
  unfold setAttrV at e
  split at e
  · rename_i m _ _
    split at e
    · rename_i vs hm
      split at e
      · rename_i q
        cases e
        obtain ⟨dx, x, rfl, e1, e2⟩ := xo.obj_inv
        obtain ⟨a, ea, hz, es, ep, hd, r⟩ := R.get hm
        rw [e1] at ea; cases ea
        obtain ⟨news, N, nd, cov, G⟩ := R.news
        obtain ⟨m', F, _⟩ := R.frame
        have hdρ : dx ∈ ρ := List.mem_of_getElem? e1
        have hmem : (dx, dictOf es ep) ∈ news := by
          rcases cov dx _ (R.fresh dx hdρ).2 hd with z | z
          · rw [(R.fresh dx hdρ).1] at z; cases z
          · exact z
        have hz2 := attr_len r
        obtain ⟨news', U, m1, m2⟩ := upd_mem (o' := dictOf (es ++ [⟨PyData.keyHash c.P.w.params (attrName k), .str (attrName k) (s.toks + 1), vv⟩]) (putN (attrName k) es ep)) hmem nd
        refine set_dict F (fx.X.keeps ok.base) N ⟨e2, rfl, rfl, hd⟩ rfl fx.sets fx.over (fx.taker k) fx.hasd (by rw [look_free hk r (by exact om65 q)]; rfl) (by rw [put_last hk r (by exact om65 q)]) U (by simp; exact om308 hk q hz2) fun h' F' N' => ?_
        have g : ∀ b o, b ≠ dx → b ≠ c.L → s.heap.get? b = some o → h'.get? b = some o := fun b o q1 q2 eo => by
          rcases cov b o q2 eo with z | z
          · exact F'.keep b o z
          · exact (N' _ (m2 _ z q1)).1
        have hd' := (N' _ m1).1
        have hn := ns_all F.ns F'.ns
        have k' : ImmKeep c.P.C s.heap h' := fun b o i eo => by
          by_cases q1 : b = dx
          · subst q1; rw [hd] at eo; cases eo; exact absurd i (not_imm_dict rfl)
          · by_cases q2 : b = c.L
            · subst q2; exact absurd i (ns_notImm F.ns eo)
            · exact g b o q1 q2 eo
        obtain ⟨R2, k2⟩ := R.upd2 (ob := .attrs (vs ++ [rv])) e1 g hn ⟨by simp; exact om227 hk q, _, _, hd', attr_snoc (VR.mono (List.prefix_refl _) k' xv) (r.mono (List.prefix_refl _) k') (by exact om65 q)⟩
        exact ⟨ρ, _, ⟨R2, List.prefix_refl _, k2, rfl, rfl⟩, hq⟩
      · cases e
    · cases e
  · cases e
end

/-- an element of a comprehension -/
noncomputable def CompElt (P : Par) (B : PySem.Heap) (csc : Scope) (x : Str) (elt : Expr) (g : Int → Int) : Prop :=
  ∀ (A : Around) (E : Value → Shared → Prop) (s : Shared) (env : Env) (m : Str → Option Value) (i : Int) (t : Tok), env.scope = csc → env.globals = mainGlobals → env.builtins = builtinsNs → s.heap.Ns env.locals m → m x = some (.int i t) → (∀ b o, B.get? b = some o → s.heap.get? b = some o) →
    wpAny (model P.prog P.w) A (eval elt env) (fun y s₄ => (∃ t', y = .int (g i) t') ∧ Keeps s s₄) E s

inductive TrT (P : Par) (N : Nm) (sc : Scope) : List Stmt → MB → Prop
  | nil : TrT P N sc [] .nil
  | assign {i x p e m pos rest b} : sc.names[i]? = some (x, NameKind.local) → sc.names.lookup x = some .local → Tr N sc e (.e m) → TrT P N sc rest b → TrT P N sc (.Assign [.Name x p] e pos :: rest) (.cons (.assign i m) b)
  | comp {i y py g elt x px iter m csc cpos pos rest b} : sc.names[i]? = some (y, NameKind.local) → sc.names.lookup y = some .local → (∀ qual L fa cd, swapsWith (.ListComp elt [⟨.Name x px, iter, [], 0⟩] csc cpos) (some (.Name y py)) pos.line (envOf qual sc L fa cd) = pure true) →
      (∀ z ∈ csc.names, z.2 ≠ .free) → (∀ z ∈ csc.names, z.2 ≠ .cell) → csc.kind = .function → (∀ z ∈ csc.names, z.2 = .local → csc.names.lookup z.1 = some .local) → csc.names.lookup x = some .local →
      CompElt P P.B csc x elt g → Tr N sc iter (.e m) → TrT P N sc rest b → TrT P N sc (.Assign [.Name y py] (.ListComp elt [⟨.Name x px, iter, [], 0⟩] csc cpos) pos :: rest) (.cons (.comp i g m) b)
  | setSub {o k e mo mk me p pos rest b} : Tr N sc o (.e mo) → Tr N sc k (.e mk) → Tr N sc e (.e me) → TrT P N sc rest b → TrT P N sc (.Assign [.Subscript o k p] e pos :: rest) (.cons (.setSub mo mk me) b)
  | setAttr {o a k e mo me p pos rest b} : a = attrName k → k < 4 → Tr N sc o (.e mo) → Tr N sc e (.e me) → TrT P N sc rest b → TrT P N sc (.Assign [.Attribute o a p] e pos :: rest) (.cons (.setAttr mo k me) b)
  | unpack {i j x y p q k tp e m pos rest b} : sc.names[i]? = some (x, NameKind.local) → sc.names.lookup x = some .local → sc.names[j]? = some (y, NameKind.local) → sc.names.lookup y = some .local →
      (∀ qual L fa cd, swappedStores [.Tuple [.Name x p, .Name y q] k tp] e (envOf qual sc L fa cd) = pure none) → Tr N sc e (.e m) → TrT P N sc rest b → TrT P N sc (.Assign [.Tuple [.Name x p, .Name y q] k tp] e pos :: rest) (.cons (.unpack i j m) b)
  | swap {i j x y p q k tp e m pos rest b} : sc.names[i]? = some (x, NameKind.local) → sc.names.lookup x = some .local → sc.names[j]? = some (y, NameKind.local) → sc.names.lookup y = some .local →
      (∀ qual L fa cd, swappedStores [.Tuple [.Name x p, .Name y q] k tp] e (envOf qual sc L fa cd) = pure (some [x, y])) → Tr N sc e (.e m) → TrT P N sc rest b → TrT P N sc (.Assign [.Tuple [.Name x p, .Name y q] k tp] e pos :: rest) (.cons (.unpack i j m) b)
  | aug {i x p op bop e m pos rest b} : sc.names[i]? = some (x, NameKind.local) → sc.names.lookup x = some .local → OpI op bop → Tr N sc e (.e m) → TrT P N sc rest b → TrT P N sc (.AugAssign (.Name x p) op e pos :: rest) (.cons (.aug i bop m) b)
  | augSub {o k e mo mk me p op bop pos rest b} : OpI op bop → (∀ ov iv new, augStore k ov iv new = (do holding [new, ov, iv] (setItem ov iv new); release [new, ov, iv] []; pure .next)) → Tr N sc o (.e mo) → Tr N sc k (.e mk) → Tr N sc e (.e me) → TrT P N sc rest b →
      TrT P N sc (.AugAssign (.Subscript o k p) op e pos :: rest) (.cons (.augSub mo mk bop me) b)
  | expr {e m pos rest b} : Tr N sc e (.e m) → TrT P N sc rest b → TrT P N sc (.Expr e pos :: rest) (.cons (.expr m) b)
  | ite {t mt u v mu mv pos rest b} : Tr N sc t (.c mt) → TrT P N sc u mu → TrT P N sc v mv → TrT P N sc rest b → TrT P N sc (.If t u v pos :: rest) (.cons (.ite mt mu mv) b)
  | while {t mt u mu pos rest b} : Tr N sc t (.c mt) → TrT P N sc u mu → TrT P N sc rest b → TrT P N sc (.While t u [] pos :: rest) (.cons (.while mt mu) b)
  | forSeq {i x p e m u mu pos rest b} : sc.names[i]? = some (x, NameKind.local) → sc.names.lookup x = some .local → (∀ env v, foldedSetIterable e env v = pure v) → Tr N sc e (.e m) → TrT P N sc u mu → TrT P N sc rest b → TrT P N sc (.For (.Name x p) e u [] pos :: rest) (.cons (.for i (.seq m) mu) b)
  | forR1 {i x p np cp e m u mu pos rest b} : sc.names[i]? = some (x, NameKind.local) → sc.names.lookup x = some .local → sc.names.lookup ("range" : Str) = some .globalImplicit → Tr N sc e (.e m) → TrT P N sc u mu → TrT P N sc rest b →
      TrT P N sc (.For (.Name x p) (.Call (.Name "range" np) [e] [] cp) u [] pos :: rest) (.cons (.for i (.range1 m) mu) b)
  | forR2 {i x p np cp e f m m' u mu pos rest b} : sc.names[i]? = some (x, NameKind.local) → sc.names.lookup x = some .local → sc.names.lookup ("range" : Str) = some .globalImplicit → Tr N sc e (.e m) → Tr N sc f (.e m') → TrT P N sc u mu → TrT P N sc rest b →
      TrT P N sc (.For (.Name x p) (.Call (.Name "range" np) [e, f] [] cp) u [] pos :: rest) (.cons (.for i (.range2 m m') mu) b)
  | forRD {i x p np cp e f g m m' u mu pos rest b} : sc.names[i]? = some (x, NameKind.local) → sc.names.lookup x = some .local → sc.names.lookup ("range" : Str) = some .globalImplicit → Tr N sc e (.e m) → Tr N sc f (.e m') → Tr N sc g (.e (.int (-1))) → TrT P N sc u mu → TrT P N sc rest b →
      TrT P N sc (.For (.Name x p) (.Call (.Name "range" np) [e, f, g] [] cp) u [] pos :: rest) (.cons (.for i (.rangeD m m') mu) b)
  | ret {e m pos rest b} : Tr N sc e (.e m) → TrT P N sc rest b → TrT P N sc (.Return (some e) pos :: rest) (.cons (.ret m) b)
  | cont {pos rest b} : TrT P N sc rest b → TrT P N sc (.Continue pos :: rest) (.cons .cont b)
end Mine
end

-- part S9c
section
open PySem PySem.W PyProof.Rows
set_option Elab.async false
set_option linter.unusedVariables false
set_option maxRecDepth 20000
namespace Mine

noncomputable def SB (P : Par) (Φ : Calls) (n : Nat) (sc : Scope) (body : List Stmt) (b : MB) : Prop :=
  ∀ (c : Cx) (_ : c.P = P) (_ : c.Ok) (_ : c.sc = sc) (A : Around) (E : Value → Shared → Prop) (s : Shared) (ρ : List Addr) (st : St) (Q : Fl → St → Prop), Rm A (n + 1) → c.R ρ st s.heap → wpB Φ b st Q →
    wpAny (model P.prog P.w) A (execs body c.env) (PS c s ρ Q) E s

section
variable {c : Cx} {A : Around} {E : Value → Shared → Prop} {s : Shared} {ρ : List Addr} {st : St} {M : Model}

abbrev after (Φ : Calls) (b : MB) (Q : Fl → St → Prop) : Fl → St → Prop := fun f st => match f with
  | .next => wpB Φ b st Q
  | .cont => Q .cont st
  | .ret v => Q (.ret v) st

theorem exec_cons {Φ : Calls} {b : MB} {stmt : Stmt} {rest : List Stmt} {Q : Fl → St → Prop} (h : wpAny M A (exec stmt c.env) (PS c s ρ (after Φ b Q)) E s)
    (k : ∀ s' ρ' st', Ev c s ρ s' ρ' st' → wpB Φ b st' Q → wpAny M A (execs rest c.env) (PS c s' ρ' Q) E s') :
    wpAny M A (execs (stmt :: rest) c.env) (PS c s ρ Q) E s := by
  refine wpAny_execs_cons (seqS h fun f s' ρ' fl st' ev fr hq => ?_)
  cases fr with
  | next => exact viaS ev (k s' ρ' st' ev hq)
  | cont => exact ⟨ρ', _, st', ev, .cont, hq⟩
  | ret x => exact ⟨ρ', _, st', ev, .ret x, hq⟩

theorem tr_fold {N : Nm} {sc : Scope} {e : Expr} {m : ME} (h : Tr N sc e (.e m)) : ∀ env v, foldedSetIterable e env v = pure v := (plainX (tr_ok h)).fold
theorem tr_sole {N : Nm} {sc : Scope} {e : Expr} {m : ME} (h : Tr N sc e (.e m)) (t : Expr) (l : Nat) (env : Env) : swapsWithSole [t] e l env = pure false := tr_swap h (some t) l env

theorem nextS {Q : Fl → St → Prop} {s' : Shared} {ρ' : List Addr} {st' : St} (ev : Ev c s ρ s' ρ' st') (h : Q .next st') : PS c s ρ Q .next s' := ⟨ρ', .next, st', ev, .next, h⟩

theorem set_comm {α : Type} : ∀ (l : List α) (i j : Nat) (a b : α), i ≠ j → (l.set i a).set j b = (l.set j b).set i a
  | [], _, _, _, _, _ => rfl
  | _ :: _, 0, 0, _, _, h => absurd rfl h
  | _ :: _, 0, _ + 1, _, _, _ => rfl
  | _ :: _, _ + 1, 0, _, _, _ => rfl
  | x :: l, i + 1, j + 1, a, b, h => by
    show x :: _ = x :: _
    rw [set_comm l i j a b fun e => h (by rw [e])]

theorem unpack_pair {prog : Program} {w : World} {t : Addr} {va vb : Value} {k : Nat} {J : List Value → Shared → Prop} (hh : A.handled = none) (hx : s.heap.get? t = some { cls := .type "tuple", data := .seq #[va, vb] k })
    (h : ∀ h', Heap.ExtBut s.heap.objs.size s.heap h' → J [va, vb] { s with heap := h' }) : wpAny (model prog w) A (unpackItems (.ref t) 2 none) J E s :=
  unpackItems_tuple (items := #[va, vb]) hh ⟨_, hx, rfl, _, rfl⟩ h

theorem ext_ev (R : c.R ρ st s.heap) {h' : PySem.Heap} (g : Heap.ExtBut s.heap.objs.size s.heap h') : Ev c s ρ { s with heap := h' } ρ st := by
  have g' : ∀ b o, s.heap.get? b = some o → h'.get? b = some o := fun b o e => g b o (Nat.ne_of_lt (Heap.lt_size e)) e
  exact Ev.grown (tk := s.toks) R (fun b o _ e => g' b o e) fun m n => n.keeps g'

/-- the head of a for -/
theorem for_head {P : Par} {Φ : Calls} {n : Nat} {chk : St → Prop} {J : Nat → Obj → Prop} {HI : List Addr → PySem.Heap → Prop} {vals : List V} {k : Nat} {x : Str} {p : Pos} {body : List Stmt} {mu : MB} {s₀ : Shared} {ρ₀ : List Addr} {Q : Fl → St → Prop} {X : Value → Shared → Prop} {h' : PySem.Heap} {o : Obj}
    (hP : c.P = P) (ok : c.Ok) (rm : Rm A (n + 1)) (ih : SB P Φ n c.sc body mu) (ev : Ev c s₀ ρ₀ s ρ st) (hfree : ∀ y, s.heap.get? s.heap.objs.size ≠ some y) (it : It c A s.heap.objs.size chk J HI vals) (ho : o.isFreed = false)
    (hx : c.sc.names[k]? = some (x, .local)) (hl : c.sc.names.lookup x = some .local) (hj : J 0 o) (hi : HI ρ (s.heap.push o)) (h : wpFor chk k (fun st Q => wpB Φ mu st Q) vals st Q) :
    codeAny (model P.prog P.w) A (.forLoop (.Name x p) (.ref s.heap.objs.size) body [] c.env) (fun r s' => match r with | .ok f => PS c s₀ ρ₀ Q f s' | .error e => X e s') { s with heap := s.heap.push o } := by
  subst hP
  obtain ⟨m, hm, _⟩ := ev.rep.ns
  have R1 : c.R ρ st (s.heap.push o) := ev.rep.grow (push_grow _ _ _) (push_ns _ _)
  obtain ⟨f1, f2, f3⟩ := fresh_watch ev.rep hfree
  have R2 : (c.with (s.heap.objs.size, o)).R ρ st (s.heap.push o) := R1.watch (Heap.get?_push_size _ ho) f1 f2 f3
  refine codeAny_mono (loop_sound (X := X) (s := { s with heap := s.heap.push o }) it ok hx hl (fun o' s' ρ' st' Q' E' R' hw => ih (c.with (_, o')) rfl ⟨ok.base, ok.kind, ok.nd⟩ rfl A E' s' ρ' st' Q' rm R' hw)
    (fun p hp e => hfree p.2 (e ▸ (ev.rep.kept p hp).1)) R2 hj hi h) fun r s' z => ?_
  cases r with
  | error e => exact z
  | ok f =>
    have ev1 : Ev c s ρ { s with heap := s.heap.push o } ρ st := ⟨R1, List.prefix_refl _, (push_grow s.heap c.L o).imm hm, rfl, rfl⟩
    exact z.via (ev.trans ev1)
end

theorem names_bool {sc : Scope} (hk : sc.kind = .function) (qual : Str) (L fa : Addr) (cd : Value) : ((envOf qual sc L fa cd).scope.kind == .class || ((envOf qual sc L fa cd).scope.kind == .module && (envOf qual sc L fa cd).locals != (envOf qual sc L fa cd).globals)) = false := by
  show (sc.kind == .class || (sc.kind == .module && _)) = false
  rw [hk]; rfl

theorem paired_all2 {c : Cx} {ρ : List Addr} {s : Shared} {g : Int → Int} : ∀ {is : List Int} {vs ys : List Value}, All2 (VV c ρ s) (is.map .int) vs → Paired (fun v y => ∀ i t, v = .int i t → ∃ t', y = .int (g i) t') vs ys → ∀ {ρ' : List Addr} {s' : Shared}, All2 (VV c ρ' s') (is.map fun i => .int (g i)) ys := by
  intro is
  induction is with
  | nil => intro vs ys a b; cases a; cases b; intros; exact .nil
  | cons i is ih =>
    intro vs ys a b
    cases a with
    | cons r a =>
      cases r
      cases b with
      | cons f b =>
        obtain ⟨t', rfl⟩ := f _ _ rfl
        intros
        exact .cons (.int _ _) (ih a b)

theorem no_long_m1 (x : Int) : Builtin.divisionGoesByPylong x (-1) = false := by
  unfold Builtin.divisionGoesByPylong
  dsimp only
  rw [Bool.and_eq_false_iff]; left
  decide
theorem rangeSize_down (a b : Int) : Builtin.Range.rangeSize a b (-1) = if b < a then a - b else 0 := by
  unfold Builtin.Range.rangeSize
  rw [if_neg (by decide)]
  show (if b < a then _ else _) = _
  split
  · rw [show -(-1 : Int) = 1 from rfl, Int.ediv_one]; exact om202
  · rfl
theorem small_down {a b : Int} (ha : -1 ≤ a) (ha' : a < 2 ^ 20) (hb : -1 ≤ b) (hb' : b < 2 ^ 20) : Builtin.Range.small a b (-1) = true := by
  unfold Builtin.Range.small
  rw [rangeSize_down]
  simp only [Builtin.Range.rangeFitsLong, Bool.and_eq_true, Bool.or_eq_true, decide_eq_true_eq, beq_iff_eq, show ¬ ((-1 : Int) > 0) by decide, if_false]
  split <;> (first | exact om576 ha hb ha' hb' | exact om577 ha hb ha' hb')

set_option maxHeartbeats 2000000 in
theorem soundB {P : Par} (fx : Fx P) {N : Nm} {addr : Nat → Addr} (nf : Nf P fx N addr) {Φ : Calls} {n : Nat} (H : CallOk P addr Φ n) {sc : Scope} {body : List Stmt} {b : MB} (h : TrT P N sc body b) : SB P Φ n sc body b := by
  induction h with
  | nil =>
    intro c hP ok hsc A E s ρ st Q rm R h; subst hP hsc
    exact wpAny_execs_nil (nextS (.refl R) h)
  | assign h1 h2 t1 _ ih =>
    intro c hP ok hsc A E s ρ st Q rm R h; subst hP hsc
    refine exec_cons (wpAny_Assign_Name (seqE (soundX fx nf H t1 c rfl ok rfl A E s ρ st _ rm R h) fun v s' ρ' r st' ev x hq => ?_) (tr_swap t1 _ _ _)) (fun s' ρ' st' ev hq => ih c rfl ok rfl A E s' ρ' st' Q rm ev.rep hq)
    exact wpAny_mono (leaf_store ok ev.rep h1 h2 x) (fun _ s2 ev2 => nextS (ev.trans ev2) hq) fun _ _ y => y
  | @comp i y py g elt x px iter m csc cpos pos rest b h1 h2 hsw hf hc hk hn hx he t1 _ ih =>
    intro c hP ok hsc A E s ρ st Q rm R h; subst hP hsc
    refine exec_cons ?_ (fun s' ρ' st' ev hq => ih c rfl ok rfl A E s' ρ' st' Q rm ev.rep hq)
    refine wpAny_Assign_ListComp_walk (env := c.env) (fun _ => true) (fun v y => ∀ i t, v = .int i t → ∃ t', y = .int (g i) t') (hsw _ _ _ _) hf hc hk hn hx h2 (names_bool ok.kind _ _ _ _) (seqE (soundX fx nf H t1 c rfl ok rfl A E s ρ st _ rm R h) fun v s' ρ' r st' ev xv hq => ?_) ?_
    rotate_left
    · exact tr_fold t1 c.env
    obtain ⟨k, is, rfl, hk', hz, hq⟩ := hq
    obtain ⟨ax, rfl, e1⟩ := xv.ref_inv
    obtain ⟨a, ea, vs, ep, hl, rl⟩ := ev.rep.get hk'
    rw [e1] at ea; cases ea
    have hz' := rl.length
    simp only [List.length_map] at hz'
    unfold lim at hz
    refine wpAny_pyIter_list hl.isList ?_
    have hne : ax ≠ s'.heap.objs.size := Nat.ne_of_lt (Heap.lt_size hl)
    obtain ⟨m', F, lr⟩ := ev.rep.frame
    have hLne : c.L ≠ s'.heap.objs.size := Nat.ne_of_lt ev.rep.L_lt
    have base : ∀ b o, c.P.B.get? b = some o → s'.heap.get? b = some o := fun b o e => ev.rep.keep b o (ok.base b o e)
    refine ⟨_, _, _, _, _, _, m', rfl, Walks.list rm.hh s'.heap.objs.size ax hne vs.toArray, by simp only [List.size_toArray, sizeLine_eq]; exact om15 hz hz', ⟨⟨_, Heap.get?_push_size _ rfl, rfl, rfl⟩, hl.isList.push _⟩, ?_, ?_, F.ns.push _, ⟨?_, ?_⟩, ?_⟩
    · intro b hb
      rw [Heap.size_push]
      rcases List.mem_cons.mp hb with rfl | hb
      · exact Nat.lt_succ_self _
      · rw [List.mem_singleton.mp hb]; exact Nat.lt_succ_of_lt (Heap.lt_size hl)
    · intro hm
      exact hLne (List.mem_singleton.mp hm)
    · intro C i' v s₃ m₃ E' hP hN hm hke htk
      rw [List.forIn_nil]
      exact wpAny_pure ⟨rfl, s₃.heap, s₃.toks, rfl, fun _ _ e => e⟩
    · intro C i' v s₃ m₃ E' hP _ hN hm hke htk
      have hv : ∃ j t, v = .int j t := by
        have hP' : vs[i']? = some v := by simpa using hP
        have hi' : i' < is.length := by rw [hz']; exact (List.getElem?_eq_some_iff.mp hP').1
        obtain ⟨w, ew, rw'⟩ := rl.get (i := i') (a := .int is[i']) (by simp [hi'])
        rw [hP'] at ew; cases ew
        cases rw'
        exact ⟨_, _, rfl⟩
      obtain ⟨j, t, rfl⟩ := hv
      refine wpAny_mono (he A E' s₃ (compEnv csc C c.env) m₃ j t rfl rfl rfl hN hm fun b o e => hke b o (fun hm => ?_) (Heap.get?_push_of_some _ (base b o e))) (fun y s₄ hy => ⟨fun i t e => ?_, hy.2⟩) fun _ _ z => z
      · rw [List.mem_singleton.mp hm] at e
        exact Nat.lt_irrefl _ (Heap.lt_size (base _ _ e))
      · cases e; exact hy.1
    · intro D h' tk ys vs' hD hl' hpl hlen hP hF hns hke
      have hvs : vs' = vs := by
        apply List.ext_getElem?
        intro j
        rcases Nat.lt_or_ge j vs'.length with hj | hj
        · have := hP j vs'[j] (List.getElem?_eq_getElem hj)
          rw [List.getElem?_eq_getElem hj]
          simpa using this.symm
        · rw [List.getElem?_eq_none hj, List.getElem?_eq_none (by simp at hlen; exact om342 hlen hj)]
      subst hvs
      rw [List.filter_eq_self.mpr (by simp)] at hF
      have grow : ∀ b o, b ≠ c.L → s'.heap.get? b = some o → h'.get? b = some o := fun b o q e => hke b o q (fun hm => by rw [List.mem_singleton.mp hm] at e; exact not_size _ _ e) (Heap.get?_push_of_some _ e)
      have hDf : ∀ o, s'.heap.get? D ≠ some o := fun o e => by
        have := Heap.get?_push_of_some (h := s'.heap) { cls := .type "list_iterator", data := .fields #[.ref ax, .int 0 0] } e
        rw [hD] at this; cases this
      obtain ⟨nn, hpl⟩ := hpl
      -- the names but y
      have step1 := ev.rep.move (m := fun z => if z = y then some (.ref D) else m' z) (loc := st'.loc.set i none) grow hns (fun k1 j u e => by
        have hji : j ≠ i := by
          rintro rfl
          have hj : j < st'.loc.length := by simpa using (List.getElem?_eq_some_iff.mp e).1
          rw [List.getElem?_set_self hj] at e; cases e
        rw [List.getElem?_set_ne (Ne.symm hji)] at e
        obtain ⟨z, val, z1, z2, z3⟩ := lr j u e
        refine ⟨z, val, z1, ?_, z3.mono (List.prefix_refl _) k1⟩
        have hne : z ≠ y := by
          rintro rfl
          have q1 : (c.sc.names.map (·.1))[j]? = some z := by rw [List.getElem?_map, z1]; rfl
          have q2 : (c.sc.names.map (·.1))[i]? = some z := by rw [List.getElem?_map, h1]; rfl
          exact hji ((List.getElem?_inj (List.getElem?_eq_some_iff.mp q1).1 ok.nd).mp (q1.trans q2.symm))
        simp only [if_neg hne]; exact z2)
      obtain ⟨R1, k1⟩ := step1
      have hlist : OA c.P.C c.P.B (ρ' ++ [D]) h' c.P.prog c.P.w (.list (is.map fun i => .int (g i))) D := by
        refine ⟨ys.toList, nn, ?_, paired_all2 (c := c) (s' := { s' with heap := h' }) rl hF⟩
        show h'.get? D = _
        rw [hpl, Array.toArray_toList]
      have fD := fresh_watch ev.rep hDf
      have R2 := R1.push hlist (fun b o e q => by rw [q, fD.2.2] at e; cases e) fD.1 fD.2.1 (fun p hp q => hDf p.2 (q ▸ (ev.rep.kept p hp).1))
      have R3 := R2.move (m := fun z => if z = y then some (.ref D) else m' z) (loc := st'.loc.set i (some (.ref st'.heap.length))) (fun _ _ _ e => e) hns (fun _ j u e => by
        by_cases hji : j = i
        · subst hji
          have hj : j < st'.loc.length := by simpa using (List.getElem?_eq_some_iff.mp e).1
          rw [List.getElem?_set_self hj] at e; cases e
          refine ⟨y, .ref D, h1, if_pos rfl, .ref ?_⟩
          rw [← ev.rep.len, List.getElem?_append_right (Nat.le_refl _)]; simp
        · rw [List.getElem?_set_ne (Ne.symm hji)] at e
          obtain ⟨z, val, z1, z2, z3⟩ := lr j u e
          refine ⟨z, val, z1, ?_, z3.mono (List.prefix_append _ _) k1⟩
          have hne : z ≠ y := by
            rintro rfl
            have q1 : (c.sc.names.map (·.1))[j]? = some z := by rw [List.getElem?_map, z1]; rfl
            have q2 : (c.sc.names.map (·.1))[i]? = some z := by rw [List.getElem?_map, h1]; rfl
            exact hji ((List.getElem?_inj (List.getElem?_eq_some_iff.mp q1).1 ok.nd).mp (q1.trans q2.symm))
          simp only [if_neg hne]; exact z2)
      exact nextS (ev.trans ⟨R3.1, List.prefix_append _ _, k1, rfl, rfl⟩) hq
  | setSub t1 t2 t3 _ ih =>
    intro c hP ok hsc A E s ρ st Q rm R h; subst hP hsc
    refine exec_cons (wpAny_Assign_Subscript (seqE (soundX fx nf H t3 c rfl ok rfl A E s ρ st _ rm R h) fun v s1 ρ1 r1 st1 ev1 x1 hq1 => seqE (soundX fx nf H t1 c rfl ok rfl A E s1 ρ1 st1 _ rm ev1.rep hq1) fun v2 s2 ρ2 r2 st2 ev2 x2 hq2 => seqE (soundX fx nf H t2 c rfl ok rfl A E s2 ρ2 st2 _ rm ev2.rep hq2) fun v3 s3 ρ3 r3 st3 ev3 x3 hq3 => ?_) (tr_swap t3 _ _ _))
      (fun s' ρ' st' ev hq => ih c rfl ok rfl A E s' ρ' st' Q rm ev.rep hq)
    exact wpAny_mono (leaf_set (QU := fun st => wpB Φ _ st Q) rm ev3.rep (ev3.vv x2) x3 (ev3.vv (ev2.vv x1)) hq3) (fun _ s4 ⟨ρ4, st4, ev4, hq4⟩ => nextS (((ev1.trans ev2).trans ev3).trans ev4) hq4) fun _ _ y => y
  | setAttr ha hk t1 t2 _ ih =>
    intro c hP ok hsc A E s ρ st Q rm R h; subst hP hsc
    subst ha
    refine exec_cons (plainObj_wpAny_Assign_Attribute (seqE (soundX fx nf H t2 c rfl ok rfl A E s ρ st _ rm R h) fun v s1 ρ1 r1 st1 ev1 x1 hq1 => seqE (soundX fx nf H t1 c rfl ok rfl A E s1 ρ1 st1 _ rm ev1.rep hq1) fun v2 s2 ρ2 r2 st2 ev2 x2 hq2 => ?_) (tr_swap t2 _ _ _))
      (fun s' ρ' st' ev hq => ih c rfl ok rfl A E s' ρ' st' Q rm ev.rep hq)
    exact wpAny_mono (leaf_setattr (QU := fun st => wpB Φ _ st Q) fx ok ev2.rep hk x2 (ev2.vv x1) hq2) (fun _ s4 ⟨ρ4, st4, ev4, hq4⟩ => nextS ((ev1.trans ev2).trans ev4) hq4) fun _ _ y => y
  | unpack h1 h2 h3 h4 hs t1 _ ih =>
    intro c hP ok hsc A E s ρ st Q rm R h; subst hP hsc
    refine exec_cons (Assign_Tuple (seqE (soundX fx nf H t1 c rfl ok rfl A E s ρ st _ rm R h) fun v s1 ρ1 r1 st1 ev1 x1 hq1 => ?_) (tr_sole t1 _ _ _) (hs _ _ _ _))
      (fun s' ρ' st' ev hq => ih c rfl ok rfl A E s' ρ' st' Q rm ev.rep hq)
    obtain ⟨a, b, rfl, hne, hq⟩ := hq1
    obtain ⟨tt, va, vb, kt, rfl, hx, ra, rb⟩ := x1.pair_inv
    show wpAny _ A (do standAt _; unpack _ [(false, assign _ c.env), (false, assign _ c.env)]) _ E s1
    refine wpAny_bind (wpAny_standAt ?_)
    show wpAny _ A (do assignInOrder [assign _ c.env, assign _ c.env] (← holding _ (unpackItems _ 2 none))) _ E s1
    refine wpAny_bind (wpAny_holding (unpack_pair rm.hh hx fun h' g => ?_))
    have ev2 := ext_ev ev1.rep g
    refine wpAny_assignInOrder_more (assign_Name (wpAny_mono (leaf_store ok ev2.rep h1 h2 (ev2.vv ra)) (fun _ s3 ev3 => ?_) fun _ _ y => y))
    refine wpAny_assignInOrder_more (assign_Name (wpAny_mono (leaf_store ok ev3.rep h3 h4 (ev3.vv (ev2.vv rb))) (fun _ s4 ev4 => ?_) fun _ _ y => y))
    exact wpAny_assignInOrder_none (nextS (((ev1.trans ev2).trans ev3).trans ev4) hq)
  | @swap i j x y p q k tp e m pos rest mb h1 h2 h3 h4 hs t1 _ ih =>
    intro c hP ok hsc A E s ρ st Q rm R h; subst hP hsc
    refine exec_cons (Assign_Tuple_swapped (seqE (soundX fx nf H t1 c rfl ok rfl A E s ρ st _ rm R h) fun v s1 ρ1 r1 st1 ev1 x1 hq1 => ?_) (tr_sole t1 _ _ _) (hs _ _ _ _))
      (fun s' ρ' st' ev hq => ih c rfl ok rfl A E s' ρ' st' Q rm ev.rep hq)
    obtain ⟨a, b, rfl, hne, hq⟩ := hq1
    obtain ⟨tt, va, vb, kt, rfl, hx, ra, rb⟩ := x1.pair_inv
    refine unpack_pair rm.hh hx fun h' g => ?_
    have ev2 := ext_ev ev1.rep g
    refine wpAny_assignInOrder_more (wpAny_bindName (wpAny_mono (leaf_store ok ev2.rep h3 h4 (ev2.vv rb)) (fun _ s3 ev3 => ?_) fun _ _ y => y))
    refine wpAny_assignInOrder_more (wpAny_bindName (wpAny_mono (leaf_store ok ev3.rep h1 h2 (ev3.vv (ev2.vv ra))) (fun _ s4 ev4 => ?_) fun _ _ y => y))
    have qq : (st1.put j b).put i a = (st1.put i a).put j b := by
      unfold St.put
      rw [set_comm _ _ _ _ _ hne]
    rw [← qq] at hq
    exact wpAny_assignInOrder_none (nextS (((ev1.trans ev2).trans ev3).trans ev4) hq)
  | @aug i x p op bop e m pos rest mb h1 h2 o t1 _ ih =>
    intro c hP ok hsc A E s ρ st Q rm R h; subst hP hsc
    refine exec_cons (wpAny_AugAssign_Name (seqE (leaf_load (Q := fun a st => wpE Φ m st fun b st => may (binV bop a b) fun c => wpB Φ mb (st.put i c) Q) ok R h1 h2 h) fun v s1 ρ1 r1 st1 ev1 x1 hq1 => seqE (soundX fx nf H t1 c rfl ok rfl A E s1 ρ1 st1 _ rm ev1.rep hq1) fun v2 s2 ρ2 r2 st2 ev2 x2 hq2 => seqE (Q := fun w st => wpB Φ mb (st.put i w) Q) (leaf_inpl ev2.rep o (ev2.vv x1) x2 hq2) fun v3 s3 ρ3 r3 st3 ev3 x3 hq3 => ?_))
      (fun s' ρ' st' ev hq => ih c rfl ok rfl A E s' ρ' st' Q rm ev.rep hq)
    exact wpAny_mono (leaf_store ok ev3.rep h1 h2 x3) (fun _ s4 ev4 => nextS (((ev1.trans ev2).trans ev3).trans ev4) hq3) fun _ _ y => y
  | @augSub ox kx ex mo mk me p op bop pos rest mb o ha t1 t2 t3 _ ih =>
    intro c hP ok hsc A E s ρ st Q rm R h; subst hP hsc
    refine exec_cons (wpAny_AugAssign_SubscriptAny (seqE (soundX fx nf H t1 c rfl ok rfl A E s ρ st _ rm R h) fun v s1 ρ1 r1 st1 ev1 x1 hq1 => seqE (soundX fx nf H t2 c rfl ok rfl A E s1 ρ1 st1 _ rm ev1.rep hq1) fun v2 s2 ρ2 r2 st2 ev2 x2 hq2 => ?_) ha)
      (fun s' ρ' st' ev hq => ih c rfl ok rfl A E s' ρ' st' Q rm ev.rep hq)
    obtain ⟨k, rfl, hq2⟩ := hq2
    refine seqE (Q := fun a st => wpE Φ me st fun b st => may (binV bop a b) fun c => may (setV st.heap (.ref k) r2 c) fun h => wpB Φ mb ⟨st.loc, h⟩ Q) (leaf_item ev2.rep (ev2.vv x1) x2 hq2) fun v3 s3 ρ3 r3 st3 ev3 x3 hq3 => seqE (soundX fx nf H t3 c rfl ok rfl A E s3 ρ3 st3 _ rm ev3.rep hq3) fun v4 s4 ρ4 r4 st4 ev4 x4 hq4 => seqE (Q := fun w st => may (setV st.heap (.ref k) r2 w) fun h => wpB Φ mb ⟨st.loc, h⟩ Q) (leaf_inpl ev4.rep o (ev4.vv x3) x4 hq4) fun v5 s5 ρ5 r5 st5 ev5 x5 hq5 => ?_
    exact wpAny_mono (leaf_set (QU := fun st => wpB Φ _ st Q) rm ev5.rep (ev5.vv (ev4.vv (ev3.vv (ev2.vv x1)))) (ev5.vv (ev4.vv (ev3.vv x2))) x5 hq5) (fun _ s6 ⟨ρ6, st6, ev6, hq6⟩ => nextS (((((ev1.trans ev2).trans ev3).trans ev4).trans ev5).trans ev6) hq6) fun _ _ y => y
  | expr t1 _ ih =>
    intro c hP ok hsc A E s ρ st Q rm R h; subst hP hsc
    refine exec_cons (wpAny_Expr (seqE (soundX fx nf H t1 c rfl ok rfl A E s ρ st _ rm R h) fun v s1 ρ1 r1 st1 ev1 x1 hq1 => ?_) (by show (c.sc.kind == .module && _) = false; rw [ok.kind]; rfl) (tr_swap t1 _ _ _))
      (fun s' ρ' st' ev hq => ih c rfl ok rfl A E s' ρ' st' Q rm ev.rep hq)
    obtain ⟨rfl, hq⟩ := hq1
    obtain rfl := x1.none_inv
    exact nextS ev1 hq
  | ite t1 _ _ _ ih1 ih2 ih =>
    intro c hP ok hsc A E s ρ st Q rm R h; subst hP hsc
    refine exec_cons (wpAny_If (seqC (soundX fx nf H t1 c rfl ok rfl A E s ρ st _ rm R h) fun t s1 ρ1 st1 ev1 hq1 => ?_)) (fun s' ρ' st' ev hq => ih c rfl ok rfl A E s' ρ' st' Q rm ev.rep hq)
    cases t with
    | true => exact viaS ev1 (ih1 c rfl ok rfl A E s1 ρ1 st1 _ rm ev1.rep hq1)
    | false => exact viaS ev1 (ih2 c rfl ok rfl A E s1 ρ1 st1 _ rm ev1.rep hq1)
  | «while» t1 _ _ ih1 ih =>
    intro c hP ok hsc A E s ρ st Q rm R h; subst hP hsc
    obtain ⟨k, h⟩ := h
    refine exec_cons (wpAny_While (codeAny_whileLoop (fun k s' => ∃ ρ' st', Ev c s ρ s' ρ' st' ∧ wpWhile (fun st Q => wpC Φ _ st Q) (fun st Q => wpB Φ _ st Q) k st' _) (fun k s' hI => ?_) k ⟨ρ, st, .refl R, h⟩)) (fun s' ρ' st' ev hq => ih c rfl ok rfl A E s' ρ' st' Q rm ev.rep hq)
    obtain ⟨ρ', st', ev, hw⟩ := hI
    cases k with
    | zero => exact hw.elim
    | succ k =>
      refine seqC (soundX fx nf H t1 c rfl ok rfl A _ s' ρ' st' _ rm ev.rep hw) fun t s1 ρ1 st1 ev1 hq1 => ?_
      cases t with
      | false => exact wpAny_execs_nil (nextS (ev.trans ev1) hq1)
      | true =>
        refine seqS (ih1 c rfl ok rfl A _ s1 ρ1 st1 _ rm ev1.rep hq1) fun f s2 ρ2 fl st2 ev2 fr hq2 => ?_
        cases fr with
        | next => exact ⟨k, Nat.lt_succ_self _, ρ2, st2, (ev.trans ev1).trans ev2, hq2⟩
        | cont => exact ⟨k, Nat.lt_succ_self _, ρ2, st2, (ev.trans ev1).trans ev2, hq2⟩
        | ret x => exact ⟨ρ2, _, st2, (ev.trans ev1).trans ev2, .ret x, hq2⟩
  | forSeq h1 h2 hs t1 _ _ ih1 ih =>
    intro c hP ok hsc A E s ρ st Q rm R h; subst hP hsc
    refine exec_cons (wpAny_For (seqE (soundX fx nf H t1 c rfl ok rfl A E s ρ st _ rm R h) fun v s1 ρ1 r1 st1 ev1 x1 hq1 => ?_) (hs _)) (fun s' ρ' st' ev hq => ih c rfl ok rfl A E s' ρ' st' Q rm ev.rep hq)
    cases r1 with
    | ref k =>
      obtain ⟨xs, hk, hz, hq⟩ := hq1
      obtain ⟨ax, rfl, e1⟩ := x1.ref_inv
      obtain ⟨a, ea, vs, ep, hl, rl⟩ := ev1.rep.get hk
      rw [e1] at ea; cases ea
      refine wpAny_pyIter_list hl.isList ?_
      exact for_head (h' := s1.heap) rfl ok rm ih1 ev1 (not_size _) (It.list rm.hh ρ1 e1) rfl h1 h2 ⟨rfl, rfl⟩ (List.prefix_refl _) hq
    | pair a b =>
      obtain ⟨t, va, vb, k, rfl, hx, ra, rb⟩ := x1.pair_inv
      refine wpAny_pyIter_tuple (items := #[va, vb]) ⟨_, hx, rfl, _, rfl⟩ ?_
      obtain ⟨m, hm, _⟩ := ev1.rep.ns
      refine for_head (h' := s1.heap) rfl ok rm ih1 ev1 (not_size _) (It.pair (t := t) rm.hh) rfl h1 h2 ⟨rfl, rfl⟩ (VR.mono (List.prefix_refl _) ((push_grow _ c.L _).imm hm) (.pair hx ra rb)) hq1
    | _ => exact hq1.elim
  | forR1 h1 h2 hr t1 _ _ ih1 ih =>
    intro c hP ok hsc A E s ρ st Q rm R h; subst hP hsc
    refine exec_cons (wpAny_For (wpAny_Call_ofName (leaf_built fx ok R (nf.bn _ _ rfl) hr (by decide) ?_))) (fun s' ρ' st' ev hq => ih c rfl ok rfl A E s' ρ' st' Q rm ev.rep hq)
    rw [args1 t1]
    refine PyProof.Rows.callWith_type (args := [(false, _)]) rfl (Calls.evalArgs_plain (Calls.spliced_cons (seqE (soundX fx nf H t1 c rfl ok rfl A E s ρ st _ rm R h) fun v s1 ρ1 r1 st1 ev1 x1 hq1 => Calls.spliced_nil ?_)))
    obtain ⟨k, rfl, hz0, hz, hq⟩ := hq1
    obtain ⟨t, rfl⟩ := x1.int_inv
    refine call_range_1 ?_
    have ev2 : Ev c s1 ρ1 { s1 with heap := s1.heap.push { cls := .type "range", data := .fields #[.int 0 s1.toks, .int k t, .int 1 (s1.toks + 1)] }, toks := s1.toks + 1 + 1 } ρ1 st1 := Ev.grown ev1.rep (push_grow _ _ _) (push_ns _ _)
    refine wpAny_pyIter_range (Heap.get?_push_size _ rfl) (small_one (by exact om550) (by exact om545) (by exact om84 hz0) (by exact om59 hz)) ?_
    refine for_head (h' := s1.heap) rfl ok rm ih1 (ev1.trans ev2) (not_size _) (It.range (a := 0) (d := 1) (n := k.toNat) rm.hh) rfl h1 h2 ?_ trivial ?_
    · unfold JRange
      rw [rangeSize_one]
      have e1 : (if (0 : Int) < k then k - 0 else 0) = (k.toNat : Int) - ((0 : Nat) : Int) := by split <;> omega
      rw [e1]; simp
    · have e : (List.range k.toNat).map (fun (j : Nat) => V.int (0 + j * 1)) = rangeUp 0 k := by
        unfold rangeUp; simp
      rw [e]; exact hq
  | forR2 h1 h2 hr t1 t2 _ _ ih1 ih =>
    intro c hP ok hsc A E s ρ st Q rm R h; subst hP hsc
    refine exec_cons (wpAny_For (wpAny_Call_ofName (leaf_built fx ok R (nf.bn _ _ rfl) hr (by decide) ?_))) (fun s' ρ' st' ev hq => ih c rfl ok rfl A E s' ρ' st' Q rm ev.rep hq)
    rw [args2 t1 t2]
    refine PyProof.Rows.callWith_type (args := [(false, _), (false, _)]) rfl (Calls.evalArgs_plain (Calls.spliced_cons (seqE (soundX fx nf H t1 c rfl ok rfl A E s ρ st _ rm R h) fun v s0 ρ0 r0 st0 ev0 x0 hq0 => Calls.spliced_cons (seqE (soundX fx nf H t2 c rfl ok rfl A E s0 ρ0 st0 _ rm ev0.rep hq0) fun v1 s1 ρ1 r1 st1 ev1 x1 hq1 => Calls.spliced_nil ?_))))
    obtain ⟨k, l, rfl, rfl, hz1, hz2, hz3, hz4, hq⟩ := hq1
    obtain ⟨t, rfl⟩ := x0.int_inv
    obtain ⟨u, rfl⟩ := x1.int_inv
    refine call_range_2 ?_
    have ev2 : Ev c s1 ρ1 { s1 with heap := s1.heap.push { cls := .type "range", data := .fields #[.int k t, .int l u, .int 1 s1.toks] }, toks := s1.toks + 1 } ρ1 st1 := Ev.grown ev1.rep (push_grow _ _ _) (push_ns _ _)
    refine wpAny_pyIter_range (Heap.get?_push_size _ rfl) (small_one (by exact om196 hz1) (by exact om59 hz2) (by exact om84 hz3) (by exact om59 hz4)) ?_
    refine for_head (h' := s1.heap) rfl ok rm ih1 ((ev0.trans ev1).trans ev2) (not_size _) (It.range (a := k) (d := 1) (n := (l - k).toNat) rm.hh) rfl h1 h2 ?_ trivial ?_
    · unfold JRange
      rw [rangeSize_one]
      have e1 : (if k < l then l - k else 0) = ((l - k).toNat : Int) - ((0 : Nat) : Int) := by split <;> omega
      rw [e1]; simp
    · have e : (List.range (l - k).toNat).map (fun (j : Nat) => V.int (k + j * 1)) = rangeUp k l := by
        unfold rangeUp; simp
      rw [e]; exact hq
  | forRD h1 h2 hr t1 t2 t3 _ _ ih1 ih =>
    intro c hP ok hsc A E s ρ st Q rm R h; subst hP hsc
    refine exec_cons (wpAny_For (wpAny_Call_ofName (leaf_built fx ok R (nf.bn _ _ rfl) hr (by decide) ?_))) (fun s' ρ' st' ev hq => ih c rfl ok rfl A E s' ρ' st' Q rm ev.rep hq)
    rw [args3 t1 t2 t3]
    refine PyProof.Rows.callWith_type (args := [(false, _), (false, _), (false, _)]) rfl (Calls.evalArgs_plain (Calls.spliced_cons (seqE (soundX fx nf H t1 c rfl ok rfl A E s ρ st _ rm R h) fun v s0 ρ0 r0 st0 ev0 x0 hq0 => Calls.spliced_cons (seqE (soundX fx nf H t2 c rfl ok rfl A E s0 ρ0 st0 _ rm ev0.rep hq0) fun v1 s1 ρ1 r1 st1 ev1 x1 hq1 =>
      Calls.spliced_cons (seqE (soundX fx nf H t3 c rfl ok rfl A E s1 ρ1 st1 (fun r st => r = .int (-1) ∧ st = st1) rm ev1.rep ⟨rfl, rfl⟩) fun v9 s9 ρ9 r9 st9 ev9 x9 hq9 => Calls.spliced_nil ?_)))))
    obtain ⟨rfl, rfl⟩ := hq9
    obtain ⟨k, l, rfl, rfl, hz1, hz2, hz3, hz4, hq⟩ := hq1
    obtain ⟨t, rfl⟩ := x0.int_inv
    obtain ⟨u, rfl⟩ := x1.int_inv
    obtain ⟨w, rfl⟩ := x9.int_inv
    refine call_range_3 (by decide) ?_ (.inl (no_long_m1 _))
    have ev2 : Ev c s9 ρ9 { s9 with heap := s9.heap.push { cls := .type "range", data := .fields #[.int k t, .int l u, .int (-1) w] }, toks := s9.toks } ρ9 st9 := Ev.grown ev9.rep (push_grow _ _ _) (push_ns _ _)
    refine wpAny_pyIter_range (Heap.get?_push_size _ rfl) (small_down hz1 hz2 hz3 hz4) ?_
    refine for_head (h' := s9.heap) rfl ok rm ih1 (((ev0.trans ev1).trans ev9).trans ev2) (not_size _) (It.range (a := k) (d := -1) (n := (k - l).toNat) rm.hh) rfl h1 h2 ?_ trivial ?_
    · unfold JRange
      rw [rangeSize_down]
      have e1 : (if l < k then k - l else 0) = ((k - l).toNat : Int) - ((0 : Nat) : Int) := by split <;> omega
      rw [e1]; simp
    · have e : (List.range (k - l).toNat).map (fun (j : Nat) => V.int (k + j * -1)) = rangeDown k l := by
        unfold rangeDown
        refine List.map_congr_left fun j _ => ?_
        congr 1; exact om181
      rw [e]; exact hq
  | ret t1 _ ih =>
    intro c hP ok hsc A E s ρ st Q rm R h; subst hP hsc
    refine exec_cons (wpAny_Return_some (seqE (soundX fx nf H t1 c rfl ok rfl A E s ρ st _ rm R h) fun v s1 ρ1 r1 st1 ev1 x1 hq1 => ⟨ρ1, .ret r1, st1, ev1, .ret x1, hq1⟩)) (fun s' ρ' st' ev hq => ih c rfl ok rfl A E s' ρ' st' Q rm ev.rep hq)
  | cont _ ih =>
    intro c hP ok hsc A E s ρ st Q rm R h; subst hP hsc
    exact exec_cons (wpAny_Continue ⟨ρ, .cont, st, .refl R, .cont, h⟩) (fun s' ρ' st' ev hq => ih c rfl ok rfl A E s' ρ' st' Q rm ev.rep hq)
end Mine
end

-- part S10
section
open PySem PySem.W PyProof.Rows
set_option Elab.async false
set_option linter.unusedVariables false
set_option maxRecDepth 20000
namespace Mine

/-- a def of the text is the small language's -/
inductive FnOk (P : Par) (K : Frag) (N : Nm) (a : Addr) (D : Def) : Prop
  | intro (name qual : Str) (params : Arguments) (body : List Stmt) (scope : Scope) (dV kV : _) (doc : _) (pm : _) (an : _) (cdv : _) (ct : _) (oc : _) (od : _) (osl : _)
    (h1 : K.lookup a = some ⟨oc, od, .func (fnOf name qual params body scope dV kV doc pm an cdv ct), osl⟩) (h2 : codeIn K cdv qual = true)
    (h3 : scope.kind = .function) (h4 : scope.isCoroutine = false) (h5 : scope.isGenerator = false) (h6 : ∀ x ∈ scope.names, x.2 ≠ NameKind.cell) (h7 : (scope.names.map (·.1)).Nodup)
    (h8 : ∀ i, i < D.np → ∃ x, scope.names[i]? = some (x, NameKind.local) ∧ scope.names.lookup x = some .local) (h9 : D.np ≤ 3)
    (h10 : ∀ a b c : Value, bindArgs (fnOf name qual params body scope dV kV doc pm an cdv ct) ⟨[a, b, c].take D.np, []⟩ = pure ((scope.names.map (·.1)).zip ([a, b, c].take D.np)))
    (h11 : TrT P N scope body D.body) : FnOk P K N a D

theorem upto0 {p : Nat → Prop} (i : Nat) (h : i < 0) : p i := absurd h (Nat.not_lt_zero i)
theorem upto1 {p : Nat → Prop} (h0 : p 0) : ∀ i, i < 1 → p i
  | 0, _ => h0
  | i + 1, h => absurd (Nat.lt_of_succ_lt_succ h) (Nat.not_lt_zero i)
theorem upto2 {p : Nat → Prop} (h0 : p 0) (h1 : p 1) : ∀ i, i < 2 → p i
  | 0, _ => h0
  | i + 1, h => upto1 (p := fun i => p (i + 1)) h1 i (Nat.lt_of_succ_lt_succ h)
theorem upto3 {p : Nat → Prop} (h0 : p 0) (h1 : p 1) (h2 : p 2) : ∀ i, i < 3 → p i
  | 0, _ => h0
  | i + 1, h => upto2 (p := fun i => p (i + 1)) h1 h2 i (Nat.lt_of_succ_lt_succ h)
theorem take_three {α : Type} (l : List α) (n : Nat) (d : α) (h : l.length = n) (h3 : n ≤ 3) : ∃ a b c, l = [a, b, c].take n := by
  match l, n, h with
  | [], _, rfl => exact ⟨d, d, d, rfl⟩
  | [a], _, rfl => exact ⟨a, d, d, rfl⟩
  | [a, b], _, rfl => exact ⟨a, b, d, rfl⟩
  | [a, b, c], _, rfl => exact ⟨a, b, c, rfl⟩
  | _ :: _ :: _ :: _ :: _, _, rfl => simp at h3

theorem callOk {P : Par} (fx : Fx P) {N : Nm} {addr : Nat → Addr} (nf : Nf P fx N addr) {defs : Nat → Option Def} (hd : ∀ f D, defs f = some D → FnOk P fx.K N (addr f) D) : ∀ d, CallOk P addr (wpCall defs d) (2 * d)
  | 0 => fun _ _ _ _ _ _ _ _ _ _ _ _ _ _ h => h.elim
  | d + 1 => fun c hP ok A s ρ st f args vals Q rm R a h => by
    subst hP
    obtain ⟨D, hD, hnp, h⟩ := h
    obtain ⟨name, qual, params, body, scope, dV, kV, doc, pm, an, cdv, ct, oc, od, osl, h1, h2, h3, h4, h5, h6, h7, h8, h9, h10, h11⟩ := hd f D hD
    have hlen : vals.length = D.np := by rw [← a.length]; exact hnp
    have hK := kin fx ok R
    have hbind : BindsTo s (fnOf name qual params body scope dV kV doc pm an cdv ct) ⟨vals, []⟩ ((scope.names.map (·.1)).zip vals) := by
      obtain ⟨x, y, z, e⟩ := take_three vals D.np .none hlen h9
      rw [e]; exact BindsTo.of_eq (h10 x y z)
    have rm1 : Rm A (2 * d + 1 + 1) := rm
    have hdepth := rm.depth
    refine codeAny_call_def (fd := fnOf name qual params body scope dV kV doc pm an cdv ct) (body := body) (by show A.depth < 1000; exact om210 hdepth) (hK _ _ h1) rfl (fx.T.nolimit.keeps fun b o e => R.keep b o (ok.base b o e)) (codeRec_of hK h2) rfl hbind h6 (fun x hx => ?_) (fun h₁ hn hk => ?_) h4 h5 h3
    · obtain ⟨⟨y, w⟩, hy, rfl⟩ : ∃ y, y ∈ (scope.names.map (·.1)).zip vals ∧ y = x := ⟨x, hx, rfl⟩
      obtain ⟨i, hi, ei⟩ := List.getElem_of_mem hy
      have hi2 : i < D.np := by
        rw [List.length_zip] at hi; exact om371 hi hlen
      obtain ⟨z, z1, z2⟩ := h8 i hi2
      have e2 : ((scope.names.map (·.1)).zip vals)[i]? = some (y, w) := by rw [List.getElem?_eq_getElem hi, ei]
      rw [List.getElem?_zip_eq_some] at e2
      have e3 := e2.1
      rw [List.getElem?_map, z1] at e3
      cases e3; exact z2
    · have R' : (c.enter s ρ qual scope (addr f) cdv).R ρ ⟨args.map some ++ List.replicate (D.nl - D.np) none, st.heap⟩ h₁ := R.enter a h7 (fun i hi => let ⟨x, hx, _⟩ := h8 i (by exact om26 hi hlen); ⟨x, hx⟩) hn hk
      have ok' : (c.enter s ρ qual scope (addr f) cdv).Ok := Cx.enter_ok ok R h3 h7
      refine seqS (soundB fx nf (callOk fx nf hd d) h11 (c.enter s ρ qual scope (addr f) cdv) rfl ok' rfl (A.deeper _) _ { s with heap := h₁, toks := s.toks + ((scope.names.map (·.1)).zip vals).length } ρ _ _ (rm1.deeper _) R' h) fun fl s' ρ' r st' ev fr hq => ?_
      obtain ⟨v, hv, hq⟩ := may_ex hq
      have ev2 := Ev.leave (st₁ := st) R (s₁ := { s with heap := h₁, toks := s.toks + ((scope.names.map (·.1)).zip vals).length }) hk rfl rfl ev
      cases fr with
      | next => cases hv; exact ⟨.none, rfl, ρ', .none, _, ev2, .none, rfl, hq⟩
      | cont => cases hv
      | ret x => cases hv; exact ⟨_, rfl, ρ', _, _, ev2, x, rfl, hq⟩
end Mine
end

-- part S11
section
set_option Elab.async false
namespace Mine

/-- 0 self -/
noncomputable def b_init : MB :=
  (.cons (.setAttr (.var 0) 0 (.list1 .none))
  (.cons (.setAttr (.var 0) 1 .list0)
  (.cons (.setAttr (.var 0) 2 .list0)
  (.cons (.setAttr (.var 0) 3 .dict0)
  .nil))))

/-- 0 self, 1 node -/
noncomputable def b_add_input : MB :=
  (.cons (.assign 1 (.len (.attr (.var 0) 0)))
  (.cons (.expr (.append (.attr (.var 0) 0) .none))
  (.cons (.expr (.append (.attr (.var 0) 1) (.var 1)))
  (.cons (.ret (.bin .mul (.int 2) (.var 1)))
  .nil))))

/-- 0 self, 1 literal -/
noncomputable def b_add_output : MB :=
  (.cons (.expr (.append (.attr (.var 0) 2) (.var 1)))
  .nil)

/-- 0 self, 1 l, 2 r, 3 node -/
noncomputable def b_land : MB :=
  (.cons (.ite (.cmp .gt (.var 1) (.var 2)) (.cons (.unpack 1 2 (.pair (.var 2) (.var 1)))
  .nil) .nil)
  (.cons (.ite (.or (.cmp .eq (.var 1) (.int 0)) (.cmp .eq (.var 1) (.bin .xor (.var 2) (.int 1)))) (.cons (.ret (.int 0))
  .nil) .nil)
  (.cons (.ite (.or (.cmp .eq (.var 1) (.int 1)) (.cmp .eq (.var 1) (.var 2))) (.cons (.ret (.var 2))
  .nil) .nil)
  (.cons (.assign 3 (.get (.attr (.var 0) 3) (.pair (.var 1) (.var 2)) (.int (-1))))
  (.cons (.ite (.cmp .lt (.var 3) (.int 0)) (.cons (.assign 3 (.len (.attr (.var 0) 0)))
  (.cons (.expr (.append (.attr (.var 0) 0) (.pair (.var 1) (.var 2))))
  (.cons (.setSub (.attr (.var 0) 3) (.pair (.var 1) (.var 2)) (.var 3))
  .nil))) .nil)
  (.cons (.ret (.bin .mul (.int 2) (.var 3)))
  .nil))))))

/-- 0 aig, 1 used, 2 literal, 3 node, 4 pair -/
noncomputable def b_used_nodes : MB :=
  (.cons (.assign 1 (.repl (.list1 (.bool false)) (.len (.attr (.var 0) 0))))
  (.cons (.for 2 (.seq (.attr (.var 0) 2)) (.cons (.setSub (.var 1) (.bin .shr (.var 2) (.int 1)) (.bool true))
  .nil))
  (.cons (.for 3 (.rangeD (.bin .sub (.len (.attr (.var 0) 0)) (.int 1)) (.int (-1))) (.cons (.assign 4 (.sub (.attr (.var 0) 0) (.var 3)))
  (.cons (.ite (.and (.truth (.sub (.var 1) (.var 3))) (.notNone (.var 4))) (.cons (.setSub (.var 1) (.bin .shr (.sub (.var 4) (.int 0)) (.int 1)) (.bool true))
  (.cons (.setSub (.var 1) (.bin .shr (.sub (.var 4) (.int 1)) (.int 1)) (.bool true))
  .nil)) .nil)
  .nil)))
  (.cons (.ret (.var 1))
  .nil))))

/-- 0 aig, 1 result, 2 literals, 3 node, 4 used, 5 pair, 6 left, 7 right, 8 literal -/
noncomputable def b_swept : MB :=
  (.cons (.assign 1 .new)
  (.cons (.assign 2 (.repl (.list1 (.int 0)) (.len (.attr (.var 0) 0))))
  (.cons (.for 3 (.seq (.attr (.var 0) 1)) (.cons (.setSub (.var 2) (.var 3) (.mcall0 1 (.var 1)))
  .nil))
  (.cons (.assign 4 (.call1 4 (.var 0)))
  (.cons (.for 3 (.range1 (.len (.attr (.var 0) 0))) (.cons (.assign 5 (.sub (.attr (.var 0) 0) (.var 3)))
  (.cons (.ite (.and (.notNone (.var 5)) (.truth (.sub (.var 4) (.var 3)))) (.cons (.assign 6 (.bin .xor (.sub (.var 2) (.bin .shr (.sub (.var 5) (.int 0)) (.int 1))) (.bin .and (.sub (.var 5) (.int 0)) (.int 1))))
  (.cons (.assign 7 (.bin .xor (.sub (.var 2) (.bin .shr (.sub (.var 5) (.int 1)) (.int 1))) (.bin .and (.sub (.var 5) (.int 1)) (.int 1))))
  (.cons (.setSub (.var 2) (.var 3) (.mcall2 3 (.var 1) (.var 6) (.var 7)))
  .nil))) .nil)
  .nil)))
  (.cons (.for 8 (.seq (.attr (.var 0) 2)) (.cons (.expr (.mcall1 2 (.var 1) (.bin .xor (.sub (.var 2) (.bin .shr (.var 8) (.int 1))) (.bin .and (.var 8) (.int 1)))))
  .nil))
  (.cons (.ret (.var 1))
  .nil)))))))

/-- 0 aig, 1 counts, 2 pair, 3 literal -/
noncomputable def b_use_counts : MB :=
  (.cons (.assign 1 (.repl (.list1 (.int 0)) (.len (.attr (.var 0) 0))))
  (.cons (.for 2 (.seq (.attr (.var 0) 0)) (.cons (.ite (.notNone (.var 2)) (.cons (.augSub (.var 1) (.bin .shr (.sub (.var 2) (.int 0)) (.int 1)) .add (.int 1))
  (.cons (.augSub (.var 1) (.bin .shr (.sub (.var 2) (.int 1)) (.int 1)) .add (.int 1))
  .nil)) .nil)
  .nil))
  (.cons (.for 3 (.seq (.attr (.var 0) 2)) (.cons (.augSub (.var 1) (.bin .shr (.var 3) (.int 1)) .add (.int 1))
  .nil))
  (.cons (.ret (.var 1))
  .nil))))

/-- 0 aig, 1 fresh, 2 table, 3 node -/
noncomputable def b_started : MB :=
  (.cons (.assign 1 .new)
  (.cons (.assign 2 (.repl (.list1 (.int 0)) (.len (.attr (.var 0) 0))))
  (.cons (.for 3 (.seq (.attr (.var 0) 1)) (.cons (.setSub (.var 2) (.var 3) (.mcall0 1 (.var 1)))
  .nil))
  (.cons (.ret (.pair (.var 1) (.var 2)))
  .nil))))

/-- 0 table, 1 literal -/
noncomputable def b_moved : MB :=
  (.cons (.ret (.bin .xor (.sub (.var 0) (.bin .shr (.var 1) (.int 1))) (.bin .and (.var 1) (.int 1))))
  .nil)

/-- 0 aig, 1 fresh, 2 table, 3 literal -/
noncomputable def b_finish : MB :=
  (.cons (.for 3 (.seq (.attr (.var 0) 2)) (.cons (.expr (.mcall1 2 (.var 1) (.call2 8 (.var 2) (.var 3))))
  .nil))
  (.cons (.ret (.call1 5 (.var 1)))
  .nil))

/-- 0 aig, 1 counts, 2 plain, 3 pair, 4 literal, 5 node -/
noncomputable def b_absorbed_nodes : MB :=
  (.cons (.assign 2 (.repl (.list1 (.bool false)) (.len (.attr (.var 0) 0))))
  (.cons (.for 3 (.seq (.attr (.var 0) 0)) (.cons (.ite (.isNone (.var 3)) (.cons .cont
  .nil) .nil)
  (.cons (.for 4 (.seq (.var 3)) (.cons (.assign 5 (.bin .shr (.var 4) (.int 1)))
  (.cons (.ite (.and (.cmp .eq (.bin .and (.var 4) (.int 1)) (.int 0)) (.and (.cmp .eq (.sub (.var 1) (.var 5)) (.int 1)) (.notNone (.sub (.attr (.var 0) 0) (.var 5))))) (.cons (.setSub (.var 2) (.var 5) (.bool true))
  .nil) .nil)
  .nil)))
  .nil)))
  (.cons (.ret (.var 2))
  .nil)))

/-- 0 aig, 1 node, 2 absorbed, 3 leaves, 4 left, 5 right, 6 stack, 7 literal, 8 below -/
noncomputable def b_and_leaves : MB :=
  (.cons (.assign 3 .list0)
  (.cons (.unpack 4 5 (.sub (.attr (.var 0) 0) (.var 1)))
  (.cons (.assign 6 (.list2 (.var 5) (.var 4)))
  (.cons (.while (.truth (.var 6)) (.cons (.assign 7 (.pop (.var 6)))
  (.cons (.assign 8 (.bin .shr (.var 7) (.int 1)))
  (.cons (.ite (.and (.cmp .eq (.bin .and (.var 7) (.int 1)) (.int 0)) (.truth (.sub (.var 2) (.var 8)))) (.cons (.unpack 4 5 (.sub (.attr (.var 0) 0) (.var 8)))
  (.cons (.expr (.append (.var 6) (.var 5)))
  (.cons (.expr (.append (.var 6) (.var 4)))
  .nil))) (.cons (.expr (.append (.var 3) (.var 7)))
  .nil))
  .nil))))
  (.cons (.ret (.var 3))
  .nil)))))

/-- 0 pairs, 1 entry, 2 place -/
noncomputable def b_place_by_level : MB :=
  (.cons (.assign 2 (.int 0))
  (.cons (.while (.and (.cmp .lt (.var 2) (.len (.var 0))) (.cmp .le (.sub (.var 0) (.var 2)) (.var 1))) (.cons (.aug 2 .add (.int 1))
  .nil))
  (.cons (.expr (.insert (.var 0) (.var 2) (.var 1)))
  .nil)))

/-- 0 fresh, 1 depth, 2 literals, 3 pairs, 4 literal, 5 first, 6 second, 7 joined, 8 node -/
noncomputable def b_join_balanced : MB :=
  (.cons (.assign 3 .list0)
  (.cons (.for 4 (.seq (.var 2)) (.cons (.expr (.call2 12 (.var 3) (.pair (.sub (.var 1) (.bin .shr (.var 4) (.int 1))) (.var 4))))
  .nil))
  (.cons (.while (.cmp .gt (.len (.var 3)) (.int 1)) (.cons (.assign 5 (.popAt (.var 3) (.int 0)))
  (.cons (.assign 6 (.popAt (.var 3) (.int 0)))
  (.cons (.assign 7 (.mcall2 3 (.var 0) (.sub (.var 5) (.int 1)) (.sub (.var 6) (.int 1))))
  (.cons (.assign 8 (.bin .shr (.var 7) (.int 1)))
  (.cons (.ite (.cmp .eq (.var 8) (.len (.var 1))) (.cons (.expr (.append (.var 1) (.bin .add (.int 1) (.sub (.var 6) (.int 0)))))
  .nil) .nil)
  (.cons (.expr (.call2 12 (.var 3) (.pair (.sub (.var 1) (.var 8)) (.var 7))))
  .nil)))))))
  (.cons (.ret (.sub (.sub (.var 3) (.int 0)) (.int 1)))
  .nil))))

/-- 0 aig, 1 counts, 2 absorbed, 3 fresh, 4 table, 5 depth, 6 node, 7 literals, 8 literal -/
noncomputable def b_balance : MB :=
  (.cons (.assign 1 (.call1 6 (.var 0)))
  (.cons (.assign 2 (.call2 10 (.var 0) (.var 1)))
  (.cons (.unpack 3 4 (.call1 7 (.var 0)))
  (.cons (.assign 5 (.repl (.list1 (.int 0)) (.len (.attr (.var 3) 0))))
  (.cons (.for 6 (.range1 (.len (.attr (.var 0) 0))) (.cons (.ite (.or (.isNone (.sub (.attr (.var 0) 0) (.var 6))) (.or (.truth (.sub (.var 2) (.var 6))) (.cmp .eq (.sub (.var 1) (.var 6)) (.int 0)))) (.cons .cont
  .nil) .nil)
  (.cons (.assign 7 .list0)
  (.cons (.for 8 (.seq (.call3 11 (.var 0) (.var 6) (.var 2))) (.cons (.expr (.append (.var 7) (.call2 8 (.var 4) (.var 8))))
  .nil))
  (.cons (.setSub (.var 4) (.var 6) (.call3 13 (.var 3) (.var 5) (.var 7)))
  .nil)))))
  (.cons (.ret (.call3 9 (.var 0) (.var 3) (.var 4)))
  .nil))))))

/-- 0 cells, 1 pot, 2 limit, 3 digit, 4 number -/
noncomputable def b_law_pick : MB :=
  (.cons (.ite (.cmp .gt (.sub (.var 1) (.int 1)) (.int 0)) (.cons (.assign 3 (.bin .mod (.toInt (.sub (.var 1) (.int 1))) (.var 2)))
  (.cons (.setSub (.var 1) (.int 1) (.bin .fdiv (.toInt (.sub (.var 1) (.int 1))) (.var 2)))
  (.cons (.ret (.var 3))
  .nil))) .nil)
  (.cons (.ite (.cmp .lt (.sub (.var 1) (.int 0)) (.len (.var 0))) (.cons (.assign 4 (.sub (.var 0) (.sub (.var 1) (.int 0))))
  (.cons (.augSub (.var 1) (.int 0) .add (.int 1))
  (.cons (.ite (.cmp .ge (.var 4) (.bin .pow (.int 10) (.int 18))) (.cons (.setSub (.var 1) (.int 1) (.bin .fdiv (.toInt (.var 4)) (.var 2)))
  .nil) (.cons (.setSub (.var 1) (.int 2) (.bin .mod (.toInt (.bin .add (.bin .mul (.sub (.var 1) (.int 2)) (.int 37)) (.var 4))) (.int 1009)))
  .nil))
  (.cons (.ret (.bin .mod (.toInt (.var 4)) (.var 2)))
  .nil)))) .nil)
  (.cons (.setSub (.var 1) (.int 2) (.bin .mod (.toInt (.bin .add (.bin .mul (.sub (.var 1) (.int 2)) (.int 13)) (.int 7))) (.int 1009)))
  (.cons (.ret (.bin .mod (.toInt (.sub (.var 1) (.int 2))) (.var 2)))
  .nil))))

/-- 0 i, 1 n, 2 column, 3 j -/
noncomputable def b_law_column : MB :=
  (.cons (.assign 2 (.bin .shl (.bin .sub (.bin .shl (.int 1) (.bin .shl (.int 1) (.var 0))) (.int 1)) (.bin .shl (.int 1) (.var 0))))
  (.cons (.for 3 (.range2 (.bin .add (.var 0) (.int 1)) (.var 1)) (.cons (.aug 2 .or (.bin .shl (.var 2) (.bin .shl (.int 1) (.var 3))))
  .nil))
  (.cons (.ret (.var 2))
  .nil)))

/-- 0 graph, 1 n, 2 full, 3 columns, 4 i, 5 at, 6 pair, 7 both, 8 side -/
noncomputable def b_law_columns : MB :=
  (.cons (.assign 1 (.len (.attr (.var 0) 1)))
  (.cons (.assign 2 (.bin .sub (.bin .shl (.int 1) (.bin .shl (.int 1) (.var 1))) (.int 1)))
  (.cons (.assign 3 (.repl (.list1 (.int 0)) (.len (.attr (.var 0) 0))))
  (.cons (.for 4 (.range1 (.var 1)) (.cons (.setSub (.var 3) (.sub (.attr (.var 0) 1) (.var 4)) (.call2 16 (.var 4) (.var 1)))
  .nil))
  (.cons (.for 5 (.range1 (.len (.attr (.var 0) 0))) (.cons (.assign 6 (.sub (.attr (.var 0) 0) (.var 5)))
  (.cons (.ite (.notNone (.var 6)) (.cons (.assign 7 (.var 2))
  (.cons (.for 8 (.seq (.var 6)) (.cons (.aug 7 .and (.bin .xor (.sub (.var 3) (.bin .shr (.var 8) (.int 1))) (.ite (.cmp .eq (.bin .and (.var 8) (.int 1)) (.int 1)) (.var 2) (.int 0))))
  .nil))
  (.cons (.setSub (.var 3) (.var 5) (.var 7))
  .nil))) .nil)
  .nil)))
  (.cons (.ret (.var 3))
  .nil))))))

/-- 0 graph, 1 depths, 2 pair -/
noncomputable def b_law_depths : MB :=
  (.cons (.assign 1 .list0)
  (.cons (.for 2 (.seq (.attr (.var 0) 0)) (.cons (.ite (.isNone (.var 2)) (.cons (.expr (.append (.var 1) (.int 0)))
  .nil) (.cons (.expr (.append (.var 1) (.bin .add (.int 1) (.max2 (.sub (.var 1) (.bin .shr (.sub (.var 2) (.int 0)) (.int 1))) (.sub (.var 1) (.bin .shr (.sub (.var 2) (.int 1)) (.int 1)))))))
  .nil))
  .nil))
  (.cons (.ret (.var 1))
  .nil)))

/-- 0 graph, 1 sides, 2 ends, 3 pair, 4 literal, 5 sums, 6 least, 7 at, 8 side, 9 below -/
noncomputable def b_law_least : MB :=
  (.cons (.assign 1 (.repl (.list1 (.int 0)) (.len (.attr (.var 0) 0))))
  (.cons (.assign 2 (.repl (.list1 (.int 0)) (.len (.attr (.var 0) 0))))
  (.cons (.for 3 (.seq (.attr (.var 0) 0)) (.cons (.ite (.notNone (.var 3)) (.cons (.augSub (.var 1) (.bin .shr (.sub (.var 3) (.int 0)) (.int 1)) .add (.int 1))
  (.cons (.augSub (.var 1) (.bin .shr (.sub (.var 3) (.int 1)) (.int 1)) .add (.int 1))
  .nil)) .nil)
  .nil))
  (.cons (.for 4 (.seq (.attr (.var 0) 2)) (.cons (.augSub (.var 2) (.bin .shr (.var 4) (.int 1)) .add (.int 1))
  .nil))
  (.cons (.assign 5 (.repl (.list1 (.int 0)) (.len (.attr (.var 0) 0))))
  (.cons (.assign 6 (.repl (.list1 (.int 0)) (.len (.attr (.var 0) 0))))
  (.cons (.for 7 (.range1 (.len (.attr (.var 0) 0))) (.cons (.assign 3 (.sub (.attr (.var 0) 0) (.var 7)))
  (.cons (.ite (.notNone (.var 3)) (.cons (.for 8 (.seq (.var 3)) (.cons (.assign 9 (.bin .shr (.var 8) (.int 1)))
  (.cons (.ite (.and (.cmp .eq (.bin .and (.var 8) (.int 1)) (.int 0)) (.and (.notNone (.sub (.attr (.var 0) 0) (.var 9))) (.cmp .eq (.bin .add (.sub (.var 1) (.var 9)) (.sub (.var 2) (.var 9))) (.int 1)))) (.cons (.augSub (.var 5) (.var 7) .add (.sub (.var 5) (.var 9)))
  .nil) (.cons (.augSub (.var 5) (.var 7) .add (.bin .shl (.int 1) (.sub (.var 6) (.var 9))))
  .nil))
  .nil)))
  (.cons (.setSub (.var 6) (.var 7) (.bitlen (.toInt (.bin .sub (.sub (.var 5) (.var 7)) (.int 1)))))
  .nil)) .nil)
  .nil)))
  (.cons (.ret (.pair (.var 6) (.cmp .le (.max1 (.var 1)) (.int 1))))
  .nil))))))))

/-- 0 graph, 1 found, 2 waiting, 3 at, 4 pair -/
noncomputable def b_law_reached : MB :=
  (.cons (.assign 1 .set0)
  (.cons (.comp 2 (fun i => i / 2) (.attr (.var 0) 2))
  (.cons (.while (.cmp .gt (.len (.var 2)) (.int 0)) (.cons (.assign 3 (.pop (.var 2)))
  (.cons (.assign 4 (.sub (.attr (.var 0) 0) (.var 3)))
  (.cons (.ite (.and (.notNone (.var 4)) (.notIn (.var 3) (.var 1))) (.cons (.expr (.add (.var 1) (.var 3)))
  (.cons (.expr (.append (.var 2) (.bin .shr (.sub (.var 4) (.int 0)) (.int 1))))
  (.cons (.expr (.append (.var 2) (.bin .shr (.sub (.var 4) (.int 1)) (.int 1))))
  .nil))) .nil)
  .nil))))
  (.cons (.ret (.len (.var 1)))
  .nil))))

/-- 0 graph, 1 nodes, 2 ins, 3 outs, 4 flat, 5 size, 6 at, 7 pair, 8 least, 9 single, 10 reached, 11 full, 12 old, 13 new, 14 depths, 15 i, 16 was, 17 now, 18 turned -/
noncomputable def b_law_balanced : MB :=
  (.cons (.assign 1 (.copy (.attr (.var 0) 0)))
  (.cons (.assign 2 (.copy (.attr (.var 0) 1)))
  (.cons (.assign 3 (.copy (.attr (.var 0) 2)))
  (.cons (.assign 4 (.call1 14 (.var 0)))
  (.cons (.ite (.or (.cmp .ne (.attr (.var 0) 0) (.var 1)) (.or (.cmp .ne (.attr (.var 0) 1) (.var 2)) (.cmp .ne (.attr (.var 0) 2) (.var 3)))) (.cons (.ret (.bool false))
  .nil) .nil)
  (.cons (.ite (.or (.cmp .ne (.len (.attr (.var 4) 1)) (.len (.var 2))) (.cmp .ne (.len (.attr (.var 4) 2)) (.len (.var 3)))) (.cons (.ret (.bool false))
  .nil) .nil)
  (.cons (.assign 5 (.int 0))
  (.cons (.for 6 (.range1 (.len (.attr (.var 4) 0))) (.cons (.assign 7 (.sub (.attr (.var 4) 0) (.var 6)))
  (.cons (.ite (.notNone (.var 7)) (.cons (.aug 5 .add (.int 1))
  (.cons (.ite (.not (.chain (.int 0) (.bin .shr (.sub (.var 7) (.int 0)) (.int 1)) (.bin .shr (.sub (.var 7) (.int 1)) (.int 1)) (.var 6))) (.cons (.ret (.bool false))
  .nil) .nil)
  .nil)) .nil)
  .nil)))
  (.cons (.unpack 8 9 (.call1 19 (.var 0)))
  (.cons (.assign 10 (.call1 20 (.var 0)))
  (.cons (.ite (.or (.cmp .gt (.var 5) (.var 10)) (.and (.truth (.var 9)) (.cmp .ne (.var 5) (.var 10)))) (.cons (.ret (.bool false))
  .nil) .nil)
  (.cons (.assign 11 (.bin .sub (.bin .shl (.int 1) (.bin .shl (.int 1) (.len (.var 2)))) (.int 1)))
  (.cons (.assign 12 (.call1 17 (.var 0)))
  (.cons (.assign 13 (.call1 17 (.var 4)))
  (.cons (.assign 14 (.call1 18 (.var 4)))
  (.cons (.for 15 (.range1 (.len (.var 3))) (.cons (.assign 16 (.sub (.var 3) (.var 15)))
  (.cons (.assign 17 (.sub (.attr (.var 4) 2) (.var 15)))
  (.cons (.assign 18 (.ite (.cmp .eq (.bin .and (.bin .xor (.var 16) (.var 17)) (.int 1)) (.int 1)) (.var 11) (.int 0)))
  (.cons (.ite (.cmp .ne (.bin .xor (.sub (.var 12) (.bin .shr (.var 16) (.int 1))) (.var 18)) (.sub (.var 13) (.bin .shr (.var 17) (.int 1)))) (.cons (.ret (.bool false))
  .nil) .nil)
  (.cons (.ite (.cmp .gt (.sub (.var 14) (.bin .shr (.var 17) (.int 1))) (.sub (.var 8) (.bin .shr (.var 16) (.int 1)))) (.cons (.ret (.bool false))
  .nil) .nil)
  (.cons (.ite (.and (.truth (.var 9)) (.cmp .ne (.sub (.var 14) (.bin .shr (.var 17) (.int 1))) (.sub (.var 8) (.bin .shr (.var 16) (.int 1))))) (.cons (.ret (.bool false))
  .nil) .nil)
  .nil)))))))
  (.cons (.ret (.bool true))
  .nil)))))))))))))))))

/-- 0 graph, 1 row, 2 i, 3 deep, 4 low, 5 middle, 6 top -/
noncomputable def b_law_fixed : MB :=
  (.cons (.assign 0 .new)
  (.cons (.assign 1 .list0)
  (.cons (.for 2 (.range1 (.int 6)) (.cons (.expr (.append (.var 1) (.mcall0 1 (.var 0))))
  .nil))
  (.cons (.assign 3 (.mcall2 3 (.var 0) (.sub (.var 1) (.int 0)) (.sub (.var 1) (.int 1))))
  (.cons (.assign 4 (.mcall2 3 (.var 0) (.sub (.var 1) (.int 2)) (.sub (.var 1) (.int 3))))
  (.cons (.assign 5 (.mcall2 3 (.var 0) (.bin .xor (.var 3) (.int 1)) (.var 4)))
  (.cons (.assign 6 (.mcall2 3 (.var 0) (.mcall2 3 (.var 0) (.var 5) (.sub (.var 1) (.int 4))) (.sub (.var 1) (.int 5))))
  (.cons (.expr (.mcall1 2 (.var 0) (.var 6)))
  (.cons (.expr (.mcall1 2 (.var 0) (.bin .xor (.var 5) (.int 1))))
  (.cons (.ret (.var 0))
  .nil))))))))))

/-- 0 script, 1 cells, 2 pot, 3 drawn, 4 free, 5 made, 6 i, 7 literal, 8 step, 9 left, 10 right, 11 turn, 12 more -/
noncomputable def b_law : MB :=
  (.cons (.comp 1 (fun i => i % 10 ^ 60) (.slice (.copy (.var 0)) 40))
  (.cons (.assign 2 (.list3 (.int 0) (.int 0) (.int 1)))
  (.cons (.assign 3 .new)
  (.cons (.assign 4 .list0)
  (.cons (.assign 5 .list0)
  (.cons (.for 6 (.range1 (.bin .add (.int 2) (.call3 15 (.var 1) (.var 2) (.int 6)))) (.cons (.assign 7 (.mcall0 1 (.var 3)))
  (.cons (.expr (.append (.var 4) (.var 7)))
  (.cons (.expr (.append (.var 5) (.var 7)))
  .nil))))
  (.cons (.for 8 (.range1 (.bin .add (.len (.var 4)) (.int 2))) (.cons (.ite (.cmp .gt (.len (.var 4)) (.int 1)) (.cons (.assign 9 (.popAt (.var 4) (.call3 15 (.var 1) (.var 2) (.len (.var 4)))))
  (.cons (.ite (.cmp .eq (.call3 15 (.var 1) (.var 2) (.int 9)) (.int 8)) (.cons (.assign 10 (.sub (.var 5) (.call3 15 (.var 1) (.var 2) (.len (.var 5)))))
  .nil) (.cons (.assign 10 (.popAt (.var 4) (.call3 15 (.var 1) (.var 2) (.len (.var 4)))))
  .nil))
  (.cons (.assign 11 (.call3 15 (.var 1) (.var 2) (.int 5)))
  (.cons (.ite (.cmp .eq (.var 11) (.int 3)) (.cons (.aug 9 .xor (.int 1))
  .nil) .nil)
  (.cons (.ite (.cmp .eq (.var 11) (.int 4)) (.cons (.aug 10 .xor (.int 1))
  .nil) .nil)
  (.cons (.assign 7 (.mcall2 3 (.var 3) (.var 9) (.var 10)))
  (.cons (.expr (.append (.var 4) (.var 7)))
  (.cons (.expr (.append (.var 5) (.var 7)))
  .nil)))))))) .nil)
  .nil))
  (.cons (.expr (.mcall1 2 (.var 3) (.bin .xor (.sub (.var 4) (.bin .sub (.len (.var 4)) (.int 1))) (.call3 15 (.var 1) (.var 2) (.int 2)))))
  (.cons (.for 12 (.range1 (.call3 15 (.var 1) (.var 2) (.int 3))) (.cons (.assign 7 (.sub (.var 5) (.call3 15 (.var 1) (.var 2) (.len (.var 5)))))
  (.cons (.expr (.mcall1 2 (.var 3) (.bin .xor (.var 7) (.call3 15 (.var 1) (.var 2) (.int 2)))))
  .nil)))
  (.cons (.ret (.and (.call1 21 (.call0 22)) (.call1 21 (.var 3))))
  .nil))))))))))

noncomputable def defL : List Def := [⟨1, 1, b_init⟩, ⟨1, 3, b_add_input⟩, ⟨2, 2, b_add_output⟩, ⟨3, 5, b_land⟩, ⟨1, 7, b_used_nodes⟩, ⟨1, 13, b_swept⟩, ⟨1, 5, b_use_counts⟩, ⟨1, 6, b_started⟩, ⟨2, 2, b_moved⟩, ⟨3, 6, b_finish⟩, ⟨2, 7, b_absorbed_nodes⟩, ⟨3, 9, b_and_leaves⟩, ⟨2, 4, b_place_by_level⟩, ⟨3, 11, b_join_balanced⟩, ⟨1, 18, b_balance⟩, ⟨3, 7, b_law_pick⟩, ⟨2, 5, b_law_column⟩, ⟨1, 12, b_law_columns⟩, ⟨1, 4, b_law_depths⟩, ⟨1, 14, b_law_least⟩, ⟨1, 7, b_law_reached⟩, ⟨1, 27, b_law_balanced⟩, ⟨0, 9, b_law_fixed⟩]
noncomputable def defs (f : Nat) : Option Def := defL[f]?

noncomputable def addr (f : Nat) : Nat := [35, 42, 49, 63, 127, 134, 141, 148, 155, 162, 169, 176, 183, 190, 197, 204, 211, 218, 225, 232, 237, 244, 251][f]?.getD 0

end Mine
end

-- part S12
section
open PySem PySem.W PyProof.Rows
set_option Elab.async false
set_option linter.unusedVariables false
set_option maxRecDepth 100000
namespace Mine

theorem elt_shr {P : Par} {B : PySem.Heap} {csc : Scope} {x : Str} {p p2 p3 : Pos} {k : Nat} (hk : csc.kind = .function) (hl : csc.names.lookup x = some .local) (hd : (x == ("__debug__" : Str)) = false) :
    CompElt P B csc x (.BinOp (.Name x p) .RShift (.Constant (.int 1) k p2) p3) (fun i => i / 2) := by
  intro A E s env m i t hs hg hb hn hm hB
  have e1 : i.fdiv (2 ^ (1 : Int).toNat) = i / 2 := Int.fdiv_eq_ediv_of_nonneg _ (by decide)
  refine wpAny_BinOp (wpAny_Name (wpAny_loadName_local (by rw [hs]; exact hk) (by unfold Env.kindOf; rw [hs]; exact hl) hn hm (wpAny_Constant_int (rshift_int (by decide) ⟨⟨_, congrArg (fun z => Value.int z _) e1⟩, s.heap, _, rfl, fun _ _ e => e⟩))) hd)
theorem elt_mod {P : Par} {B : PySem.Heap} {mg mb : Str → Option Value} {csc : Scope} {x : Str} {p q p1 p2 p3 p4 p5 : Pos} {k l : Nat} (hk : csc.kind = .function) (hl : csc.names.lookup x = some .local) (hd : (x == ("__debug__" : Str)) = false) (hi : csc.names.lookup ("int" : Str) = some .globalImplicit)
    (h1 : B.Ns mainGlobals mg) (h2 : mg "int" = none) (h3 : B.Ns builtinsNs mb) (h4 : mb "int" = some (.type "int")) :
    CompElt P B csc x (.BinOp (.Call (.Name "int" q) [.Name x p] [] p1) .Mod (.BinOp (.Constant (.int 10) k p2) .Pow (.Constant (.int 60) l p3) p4) p5) (fun i => i % 10 ^ 60) := by
  intro A E s env m i t hs hg hb hn hm hB
  have e1 : i.fmod (10 ^ (60 : Int).toNat) = i % 10 ^ 60 := Int.fmod_eq_emod_of_nonneg _ (by decide)
  refine wpAny_BinOp (wpAny_Call_ofName (Calls.Name_function_global (by rw [hs]; exact hk) (by unfold Env.kindOf; rw [hs]; exact hi) (Calls.loadGlobal_builtin (env := env) (by rw [hg]; exact h1.keeps hB) h2 (by rw [hb]; exact h3.keeps hB) h4 ?_) (by decide)))
  refine PyProof.Rows.callWith_type (args := [(false, _)]) rfl (Calls.evalArgs_plain (Calls.spliced_cons (wpAny_Name (wpAny_loadName_local (by rw [hs]; exact hk) (by unfold Env.kindOf; rw [hs]; exact hl) hn hm (Calls.spliced_nil (call_int_int ?_))) hd)))
  refine wpAny_BinOp (wpAny_Constant_int (wpAny_Constant_int (pow_int (by decide) (by decide) (mod_int' (by decide) ⟨⟨_, congrArg (fun z => Value.int z _) e1⟩, s.heap, _, rfl, fun _ _ e => e⟩))))

noncomputable def nm : Nm := ⟨[("used_nodes", 4), ("swept", 5), ("use_counts", 6), ("started", 7), ("moved", 8), ("finish", 9), ("absorbed_nodes", 10), ("and_leaves", 11), ("place_by_level", 12), ("join_balanced", 13), ("balance", 14), ("_law_pick", 15), ("_law_column", 16), ("_law_columns", 17), ("_law_depths", 18), ("_law_least", 19), ("_law_reached", 20), ("_law_balanced", 21), ("_law_fixed", 22)], [("add_input", 1), ("add_output", 2), ("land", 3)], "Aig"⟩

local macro_rules | `(tactic| walk_at "mine_tr") => `(tactic| repeat' (first
  | kernel_rfl
  | exact ⟨_, fun _ => rfl⟩
  | (intro _ _; rfl)
  | (intro _ _ _; rfl)
  | (intro _ _ _ _; rfl)
  | (refine elt_shr ?_ ?_ ?_)
  | (refine TrT.swap (by kernel_rfl) (by kernel_rfl) (by kernel_rfl) (by kernel_rfl) (by intro _ _ _ _; rfl) ?_ ?_)
  | constructor
  | decide))

set_option maxHeartbeats 8000000 in
theorem fns (P : Par) (Pm : Params) : PySem.Challenge.rw_sj0037_01 = PySem.Challenge.rw_sj0037_01 →
  FnOk P (Lit.hd.heap_1 Pm) nm 35 ⟨1, 1, b_init⟩ ∧
  FnOk P (Lit.hd.heap_1 Pm) nm 42 ⟨1, 3, b_add_input⟩ ∧
  FnOk P (Lit.hd.heap_1 Pm) nm 49 ⟨2, 2, b_add_output⟩ ∧
  FnOk P (Lit.hd.heap_1 Pm) nm 63 ⟨3, 5, b_land⟩ ∧
  FnOk P (Lit.hd.heap_1 Pm) nm 127 ⟨1, 7, b_used_nodes⟩ ∧
  FnOk P (Lit.hd.heap_1 Pm) nm 134 ⟨1, 13, b_swept⟩ ∧
  FnOk P (Lit.hd.heap_1 Pm) nm 141 ⟨1, 5, b_use_counts⟩ ∧
  FnOk P (Lit.hd.heap_1 Pm) nm 148 ⟨1, 6, b_started⟩ ∧
  FnOk P (Lit.hd.heap_1 Pm) nm 155 ⟨2, 2, b_moved⟩ ∧
  FnOk P (Lit.hd.heap_1 Pm) nm 162 ⟨3, 6, b_finish⟩ ∧
  FnOk P (Lit.hd.heap_1 Pm) nm 169 ⟨2, 7, b_absorbed_nodes⟩ ∧
  FnOk P (Lit.hd.heap_1 Pm) nm 176 ⟨3, 9, b_and_leaves⟩ ∧
  FnOk P (Lit.hd.heap_1 Pm) nm 183 ⟨2, 4, b_place_by_level⟩ ∧
  FnOk P (Lit.hd.heap_1 Pm) nm 190 ⟨3, 11, b_join_balanced⟩ ∧
  FnOk P (Lit.hd.heap_1 Pm) nm 197 ⟨1, 18, b_balance⟩ ∧
  FnOk P (Lit.hd.heap_1 Pm) nm 204 ⟨3, 7, b_law_pick⟩ ∧
  FnOk P (Lit.hd.heap_1 Pm) nm 211 ⟨2, 5, b_law_column⟩ ∧
  FnOk P (Lit.hd.heap_1 Pm) nm 218 ⟨1, 12, b_law_columns⟩ ∧
  FnOk P (Lit.hd.heap_1 Pm) nm 225 ⟨1, 4, b_law_depths⟩ ∧
  FnOk P (Lit.hd.heap_1 Pm) nm 232 ⟨1, 14, b_law_least⟩ ∧
  FnOk P (Lit.hd.heap_1 Pm) nm 237 ⟨1, 7, b_law_reached⟩ ∧
  FnOk P (Lit.hd.heap_1 Pm) nm 244 ⟨1, 27, b_law_balanced⟩ ∧
  FnOk P (Lit.hd.heap_1 Pm) nm 251 ⟨0, 9, b_law_fixed⟩ ∧ True := by
  k_fill
  intro _
  refine ⟨?_, ?_, ?_, ?_, ?_, ?_, ?_, ?_, ?_, ?_, ?_, ?_, ?_, ?_, ?_, ?_, ?_, ?_, ?_, ?_, ?_, ?_, ?_, trivial⟩
  · refine ⟨_, _, _, _, _, _, _, _, _, _, _, _, _, _, _, by k_is, by k_is, rfl, rfl, rfl, by decide, by decide, ?_, by decide, fun _ _ _ => by kernel_rfl, ?_⟩
    · exact upto1 ⟨_, rfl, by kernel_rfl⟩
    · unfold b_init
      dsimp only
      walk_at "mine_tr"
  · refine ⟨_, _, _, _, _, _, _, _, _, _, _, _, _, _, _, by k_is, by k_is, rfl, rfl, rfl, by decide, by decide, ?_, by decide, fun _ _ _ => by kernel_rfl, ?_⟩
    · exact upto1 ⟨_, rfl, by kernel_rfl⟩
    · unfold b_add_input
      dsimp only
      walk_at "mine_tr"
  · refine ⟨_, _, _, _, _, _, _, _, _, _, _, _, _, _, _, by k_is, by k_is, rfl, rfl, rfl, by decide, by decide, ?_, by decide, fun _ _ _ => by kernel_rfl, ?_⟩
    · exact upto2 ⟨_, rfl, by kernel_rfl⟩ ⟨_, rfl, by kernel_rfl⟩
    · unfold b_add_output
      dsimp only
      walk_at "mine_tr"
  · refine ⟨_, _, _, _, _, _, _, _, _, _, _, _, _, _, _, by k_is, by k_is, rfl, rfl, rfl, by decide, by decide, ?_, by decide, fun _ _ _ => by kernel_rfl, ?_⟩
    · exact upto3 ⟨_, rfl, by kernel_rfl⟩ ⟨_, rfl, by kernel_rfl⟩ ⟨_, rfl, by kernel_rfl⟩
    · unfold b_land
      dsimp only
      walk_at "mine_tr"
  · refine ⟨_, _, _, _, _, _, _, _, _, _, _, _, _, _, _, by k_is, by k_is, rfl, rfl, rfl, by decide, by decide, ?_, by decide, fun _ _ _ => by kernel_rfl, ?_⟩
    · exact upto1 ⟨_, rfl, by kernel_rfl⟩
    · unfold b_used_nodes
      dsimp only
      walk_at "mine_tr"
  · refine ⟨_, _, _, _, _, _, _, _, _, _, _, _, _, _, _, by k_is, by k_is, rfl, rfl, rfl, by decide, by decide, ?_, by decide, fun _ _ _ => by kernel_rfl, ?_⟩
    · exact upto1 ⟨_, rfl, by kernel_rfl⟩
    · unfold b_swept
      dsimp only
      walk_at "mine_tr"
  · refine ⟨_, _, _, _, _, _, _, _, _, _, _, _, _, _, _, by k_is, by k_is, rfl, rfl, rfl, by decide, by decide, ?_, by decide, fun _ _ _ => by kernel_rfl, ?_⟩
    · exact upto1 ⟨_, rfl, by kernel_rfl⟩
    · unfold b_use_counts
      dsimp only
      walk_at "mine_tr"
  · refine ⟨_, _, _, _, _, _, _, _, _, _, _, _, _, _, _, by k_is, by k_is, rfl, rfl, rfl, by decide, by decide, ?_, by decide, fun _ _ _ => by kernel_rfl, ?_⟩
    · exact upto1 ⟨_, rfl, by kernel_rfl⟩
    · unfold b_started
      dsimp only
      walk_at "mine_tr"
  · refine ⟨_, _, _, _, _, _, _, _, _, _, _, _, _, _, _, by k_is, by k_is, rfl, rfl, rfl, by decide, by decide, ?_, by decide, fun _ _ _ => by kernel_rfl, ?_⟩
    · exact upto2 ⟨_, rfl, by kernel_rfl⟩ ⟨_, rfl, by kernel_rfl⟩
    · unfold b_moved
      dsimp only
      walk_at "mine_tr"
  · refine ⟨_, _, _, _, _, _, _, _, _, _, _, _, _, _, _, by k_is, by k_is, rfl, rfl, rfl, by decide, by decide, ?_, by decide, fun _ _ _ => by kernel_rfl, ?_⟩
    · exact upto3 ⟨_, rfl, by kernel_rfl⟩ ⟨_, rfl, by kernel_rfl⟩ ⟨_, rfl, by kernel_rfl⟩
    · unfold b_finish
      dsimp only
      walk_at "mine_tr"
  · refine ⟨_, _, _, _, _, _, _, _, _, _, _, _, _, _, _, by k_is, by k_is, rfl, rfl, rfl, by decide, by decide, ?_, by decide, fun _ _ _ => by kernel_rfl, ?_⟩
    · exact upto2 ⟨_, rfl, by kernel_rfl⟩ ⟨_, rfl, by kernel_rfl⟩
    · unfold b_absorbed_nodes
      dsimp only
      walk_at "mine_tr"
  · refine ⟨_, _, _, _, _, _, _, _, _, _, _, _, _, _, _, by k_is, by k_is, rfl, rfl, rfl, by decide, by decide, ?_, by decide, fun _ _ _ => by kernel_rfl, ?_⟩
    · exact upto3 ⟨_, rfl, by kernel_rfl⟩ ⟨_, rfl, by kernel_rfl⟩ ⟨_, rfl, by kernel_rfl⟩
    · unfold b_and_leaves
      dsimp only
      walk_at "mine_tr"
  · refine ⟨_, _, _, _, _, _, _, _, _, _, _, _, _, _, _, by k_is, by k_is, rfl, rfl, rfl, by decide, by decide, ?_, by decide, fun _ _ _ => by kernel_rfl, ?_⟩
    · exact upto2 ⟨_, rfl, by kernel_rfl⟩ ⟨_, rfl, by kernel_rfl⟩
    · unfold b_place_by_level
      dsimp only
      walk_at "mine_tr"
  · refine ⟨_, _, _, _, _, _, _, _, _, _, _, _, _, _, _, by k_is, by k_is, rfl, rfl, rfl, by decide, by decide, ?_, by decide, fun _ _ _ => by kernel_rfl, ?_⟩
    · exact upto3 ⟨_, rfl, by kernel_rfl⟩ ⟨_, rfl, by kernel_rfl⟩ ⟨_, rfl, by kernel_rfl⟩
    · unfold b_join_balanced
      dsimp only
      walk_at "mine_tr"
  · refine ⟨_, _, _, _, _, _, _, _, _, _, _, _, _, _, _, by k_is, by k_is, rfl, rfl, rfl, by decide, by decide, ?_, by decide, fun _ _ _ => by kernel_rfl, ?_⟩
    · exact upto1 ⟨_, rfl, by kernel_rfl⟩
    · unfold b_balance
      dsimp only
      walk_at "mine_tr"
  · refine ⟨_, _, _, _, _, _, _, _, _, _, _, _, _, _, _, by k_is, by k_is, rfl, rfl, rfl, by decide, by decide, ?_, by decide, fun _ _ _ => by kernel_rfl, ?_⟩
    · exact upto3 ⟨_, rfl, by kernel_rfl⟩ ⟨_, rfl, by kernel_rfl⟩ ⟨_, rfl, by kernel_rfl⟩
    · unfold b_law_pick
      dsimp only
      walk_at "mine_tr"
  · refine ⟨_, _, _, _, _, _, _, _, _, _, _, _, _, _, _, by k_is, by k_is, rfl, rfl, rfl, by decide, by decide, ?_, by decide, fun _ _ _ => by kernel_rfl, ?_⟩
    · exact upto2 ⟨_, rfl, by kernel_rfl⟩ ⟨_, rfl, by kernel_rfl⟩
    · unfold b_law_column
      dsimp only
      walk_at "mine_tr"
  · refine ⟨_, _, _, _, _, _, _, _, _, _, _, _, _, _, _, by k_is, by k_is, rfl, rfl, rfl, by decide, by decide, ?_, by decide, fun _ _ _ => by kernel_rfl, ?_⟩
    · exact upto1 ⟨_, rfl, by kernel_rfl⟩
    · unfold b_law_columns
      dsimp only
      walk_at "mine_tr"
  · refine ⟨_, _, _, _, _, _, _, _, _, _, _, _, _, _, _, by k_is, by k_is, rfl, rfl, rfl, by decide, by decide, ?_, by decide, fun _ _ _ => by kernel_rfl, ?_⟩
    · exact upto1 ⟨_, rfl, by kernel_rfl⟩
    · unfold b_law_depths
      dsimp only
      walk_at "mine_tr"
  · refine ⟨_, _, _, _, _, _, _, _, _, _, _, _, _, _, _, by k_is, by k_is, rfl, rfl, rfl, by decide, by decide, ?_, by decide, fun _ _ _ => by kernel_rfl, ?_⟩
    · exact upto1 ⟨_, rfl, by kernel_rfl⟩
    · unfold b_law_least
      dsimp only
      walk_at "mine_tr"
  · refine ⟨_, _, _, _, _, _, _, _, _, _, _, _, _, _, _, by k_is, by k_is, rfl, rfl, rfl, by decide, by decide, ?_, by decide, fun _ _ _ => by kernel_rfl, ?_⟩
    · exact upto1 ⟨_, rfl, by kernel_rfl⟩
    · unfold b_law_reached
      dsimp only
      walk_at "mine_tr"
  · refine ⟨_, _, _, _, _, _, _, _, _, _, _, _, _, _, _, by k_is, by k_is, rfl, rfl, rfl, by decide, by decide, ?_, by decide, fun _ _ _ => by kernel_rfl, ?_⟩
    · exact upto1 ⟨_, rfl, by kernel_rfl⟩
    · unfold b_law_balanced
      dsimp only
      walk_at "mine_tr"
  · refine ⟨_, _, _, _, _, _, _, _, _, _, _, _, _, _, _, by k_is, by k_is, rfl, rfl, rfl, by decide, by decide, ?_, by decide, fun _ _ _ => by kernel_rfl, ?_⟩
    · intro i hi
      exact absurd hi (Nat.not_lt_zero _)
    · unfold b_law_fixed
      dsimp only
      walk_at "mine_tr"

end Mine
end

-- part S13
section
open PySem PySem.W PyProof.Rows
set_option Elab.async false
set_option linter.unusedVariables false
set_option maxRecDepth 100000
namespace Mine

theorem lookup_mem {α : Type} : ∀ {l : List (Str × α)} {x : Str} {v : α}, l.lookup x = some v → (x, v) ∈ l
  | [], _, _, h => by simp at h
  | (y, w) :: l, x, v, h => by
    rw [List.lookup_cons] at h
    split at h
    · rename_i q; cases h; rw [beq_iff_eq.mp q]; exact .head _
    · exact .tail _ (lookup_mem h)

theorem attr_cases {F : Str → Prop} (h0 : F "nodes") (h1 : F "inputs") (h2 : F "outputs") (h3 : F "table") : ∀ k, F (attrName k)
  | 0 => h0
  | 1 => h1
  | 2 => h2
  | _ + 3 => h3

structure KFacts (K : Frag) : Prop where
  got : ∀ k, plainGet K 116 (attrName k) = true
  hasd : hasDictIn K 116 = true
  noattr : ∀ k, findIn K (.ref 116) (attrName k) = some none
  sets : findIn K (.ref 116) "__setattr__" = some (some (.builtin "object.__setattr__"))
  over : plainOver K 116 = true
  taker : ∀ k, takerIn K 116 (attrName k) = some none
  fn : ∀ p ∈ nm.fn, nsIn K mainGlobals p.1 = some (some (.ref (addr p.2))) ∧ keepIn K (.ref (addr p.2)) = true
  mn : ∀ p ∈ nm.mn, findIn K (.ref 116) p.1 = some (some (.ref (addr p.2))) ∧ isFn K (.ref (addr p.2)) = true ∧ keepIn K (.ref (addr p.2)) = true ∧ plainGet K 116 p.1 = true
  cls : nsIn K mainGlobals "Aig" = some (some (.ref 116)) ∧ keepIn K (.ref 116) = true ∧ makesIn K 116 = true ∧ findIn K (.ref 116) "__init__" = some (some (.ref 35)) ∧ isFn K (.ref 35) = true
  bn : nsIn K mainGlobals "len" = some none ∧ nsIn K mainGlobals "range" = some none ∧ nsIn K mainGlobals "int" = some none ∧ nsIn K mainGlobals "list" = some none ∧ nsIn K mainGlobals "max" = some none ∧ nsIn K mainGlobals "set" = some none

theorem mem_cons_all {α : Type} {F : α → Prop} {a : α} {l : List α} (h : F a) (hl : ∀ x ∈ l, F x) : ∀ x ∈ a :: l, F x := fun x m => by
  rcases List.mem_cons.mp m with rfl | m
  · exact h
  · exact hl x m
theorem mem_nil_all {α : Type} {F : α → Prop} : ∀ x ∈ ([] : List α), F x := fun _ m => nomatch m

set_option maxHeartbeats 8000000 in
theorem kfacts (Pm : Params) : PySem.Challenge.rw_sj0037_01 = PySem.Challenge.rw_sj0037_01 → KFacts (Lit.hd.heap_1 Pm) := by
  k_fill
  intro _
  refine ⟨attr_cases (F := fun s => plainGet (Lit.hd.heap_1 Pm) 116 s = true) ?_ ?_ ?_ ?_, ?_, attr_cases (F := fun s => findIn (Lit.hd.heap_1 Pm) (.ref 116) s = some none) ?_ ?_ ?_ ?_, ?_, ?_, attr_cases (F := fun s => takerIn (Lit.hd.heap_1 Pm) 116 s = some none) ?_ ?_ ?_ ?_, ?_, ?_, ⟨?_, ?_, ?_, ?_, ?_⟩, ⟨?_, ?_, ?_, ?_, ?_, ?_⟩⟩
  all_goals (try (k_is; done))
  · repeat' (first | exact mem_nil_all | refine mem_cons_all ⟨?_, ?_⟩ ?_)
    all_goals (simp only [addr, List.getElem?_cons_zero, List.getElem?_cons_succ, Option.getD_some]; k_is)
  · repeat' (first | exact mem_nil_all | refine mem_cons_all ⟨?_, ?_, ?_, ?_⟩ ?_)
    all_goals (simp only [addr, List.getElem?_cons_zero, List.getElem?_cons_succ, Option.getD_some]; k_is)

theorem boots : bootBuiltins "len" = some (.builtin "len") ∧ bootBuiltins "range" = some (.type "range") ∧ bootBuiltins "int" = some (.type "int") ∧ bootBuiltins "list" = some (.type "list") ∧ bootBuiltins "max" = some (.builtin "max") ∧ bootBuiltins "set" = some (.type "set") := by
  refine ⟨?_, ?_, ?_, ?_, ?_, ?_⟩ <;> kernel_rfl
end Mine
end

-- part S14
section
open PySem PySem.W PyProof.Rows
set_option Elab.async false
set_option linter.unusedVariables false
set_option maxRecDepth 100000
namespace Mine

theorem law_raises (l : OpenLaw) (args : List WData) : ∀ cls, l.row.claim.raises args cls = false := fun cls => raisesW_false (r := l.row.toRowW) (fun _ h => nomatch h) cls
theorem law_post (l : OpenLaw) (args : List WData) : l.row.claim.post args (.bool true) args = true := by
  refine postW_of (r := l.row.toRowW) (X := true) (by rfl) ?_ rfl
  show (WTm.eq .res (.lit (.bool true))).value _ _ = _
  simp [WTm.value]
  simp [same]

noncomputable def lawSt (xs : List Int) : St := ⟨some (.ext xs) :: List.replicate 19 none, []⟩

theorem mg_bn {K : Frag} {h : PySem.Heap} {mg : Str → Option Value} {n : Str} (X : K.In h) (G : h.Ns mainGlobals mg) (e : nsIn K mainGlobals n = some none) : mg n = none := mg_none_of X G e

/-- what is known of the text, at the law's start -/
theorem fxOf {w : World} {B : PySem.Heap} {p : Program} {loose : List Str} {mg mb : Str → Option Value} (X : (Lit.hd.heap_1 w.params).In B) (T : TopRead p loose mg mb B) (prog : Program) :
    ∃ fx : Fx ⟨prog, w, 116, B⟩, fx.K = Lit.hd.heap_1 w.params := by
  have k := kfacts w.params rfl
  exact ⟨⟨Lit.hd.heap_1 w.params, p, loose, mg, mb, X, T, k.got, k.hasd, k.noattr, k.sets, k.over, k.taker⟩, rfl⟩

theorem nfOf {w : World} {B : PySem.Heap} {prog : Program} (fx : Fx ⟨prog, w, 116, B⟩) (hK : fx.K = Lit.hd.heap_1 w.params) : Nf ⟨prog, w, 116, B⟩ fx nm addr := by
  have k := kfacts w.params rfl
  rw [← hK] at k
  refine ⟨fun x i h => k.fn _ (lookup_mem h), fun x i h => ?_, ⟨k.cls.1, k.cls.2.1, k.cls.2.2.1, k.cls.2.2.2.1, k.cls.2.2.2.2⟩, fun x v h => ?_⟩
  · obtain ⟨a1, a2, a3, a4⟩ := k.mn _ (lookup_mem h)
    refine ⟨a1, a2, a3, a4, ?_⟩
    have hm := lookup_mem h
    have key : ∀ p ∈ nm.mn, ∀ k, (attrName k == p.1) = false := by
      refine mem_cons_all ?_ (mem_cons_all ?_ (mem_cons_all ?_ mem_nil_all))
      · exact attr_cases (F := fun s => (s == ("add_input" : Str)) = false) (by decide +kernel) (by decide +kernel) (by decide +kernel) (by decide +kernel)
      · exact attr_cases (F := fun s => (s == ("add_output" : Str)) = false) (by decide +kernel) (by decide +kernel) (by decide +kernel) (by decide +kernel)
      · exact attr_cases (F := fun s => (s == ("land" : Str)) = false) (by decide +kernel) (by decide +kernel) (by decide +kernel) (by decide +kernel)
    exact key _ hm
  · have hm := lookup_mem h
    obtain ⟨b1, b2, b3, b4, b5, b6⟩ := k.bn
    obtain ⟨c1, c2, c3, c4, c5, c6⟩ := boots
    have key : ∀ p ∈ ([("len", .builtin "len"), ("range", .type "range"), ("int", .type "int"), ("list", .type "list"), ("max", .builtin "max"), ("set", .type "set")] : List (Str × Value)), nsIn fx.K mainGlobals p.1 = some none ∧ bootBuiltins p.1 = some p.2 ∧ p.1 ≠ "__name__" := by
      refine mem_cons_all ⟨b1, c1, by decide +kernel⟩ (mem_cons_all ⟨b2, c2, by decide +kernel⟩ (mem_cons_all ⟨b3, c3, by decide +kernel⟩ (mem_cons_all ⟨b4, c4, by decide +kernel⟩ (mem_cons_all ⟨b5, c5, by decide +kernel⟩ (mem_cons_all ⟨b6, c6, by decide +kernel⟩ mem_nil_all)))))
    exact key _ hm

noncomputable def AllFrom {α : Type} (p : Nat → α → Prop) : Nat → List α → Prop
  | _, [] => True
  | n, d :: l => p n d ∧ AllFrom p (n + 1) l
theorem AllFrom.get {α : Type} {p : Nat → α → Prop} : ∀ {l : List α} {n i : Nat} {d : α}, AllFrom p n l → l[i]? = some d → p (n + i) d
  | d :: l, n, 0, _, h, e => by cases e; exact h.1
  | d :: l, n, i + 1, _, h, e => by
    have := AllFrom.get h.2 (i := i) e
    rwa [Nat.add_assoc, Nat.add_comm 1] at this
theorem defsOk (P : Par) (Pm : Params) : ∀ f D, defs f = some D → FnOk P (Lit.hd.heap_1 Pm) nm (addr f) D := by
  intro f D h
  have h0 : AllFrom (fun f D => FnOk P (Lit.hd.heap_1 Pm) nm (addr f) D) 0 defL := by
    unfold defL
    exact fns P Pm rfl
  have := AllFrom.get h0 h
  rwa [Nat.zero_add] at this

/-- the law's body, at its call -/
theorem law_run {w : World} {B : PySem.Heap} {p : Program} {loose : List Str} {mg mb : Str → Option Value} {prog : Program} (X : (Lit.hd.heap_1 w.params).In B) (T : TopRead p loose mg mb B) {qual : Str} {sc : Scope} {fa : Addr} {cd : Value} {body : List Stmt}
    {l : Addr} {vs : List Value} {xs : List Int} {s : Shared} {E : Value → Shared → Prop} {A : Around} {m : Str → Option Value} {L : Addr}
    (law_ok : wpB (wpCall defs 7) b_law (lawSt xs) fun fl _ => fl = .ret (.bool true))
    (hk : sc.kind = .function) (nd : (sc.names.map (·.1)).Nodup) (hx : sc.names[0]? = some (("script" : Str), NameKind.local)) (hm : m "script" = some (.ref l))
    (rm : Rm A 15) (F : Fr B L s.heap m) (hl : B.IsList l vs.toArray) (hi : IntsAre vs xs)
    (t : TrT ⟨prog, w, 116, B⟩ nm sc body b_law) (J : Flow → Shared → Prop)
    (hJ : ∀ s' m', Fr B L s'.heap m' → s'.gens = s.gens → s'.os = s.os → J (.ret (.bool true)) s') :
    wpAny (model prog w) A (execs body (envOf qual sc L fa cd)) J E s := by
  obtain ⟨fx, hK⟩ := fxOf X T prog
  have nf := nfOf fx hK
  have co := callOk fx nf (hK ▸ defsOk ⟨prog, w, 116, B⟩ w.params) 7
  let c : Cx := ⟨⟨prog, w, 116, B⟩, B, L, [], qual, sc, fa, cd⟩
  have ok : c.Ok := ⟨fun _ _ e => e, hk, nd⟩
  have R : c.R [] (lawSt xs) s.heap := ⟨F.keep, F.above, ⟨m, F.ns, fun i v e => (by
    match i, e with
    | 0, e =>
      cases e
      exact ⟨_, _, hx, hm, .ext hl hi⟩
    | i + 1, e =>
      have e' : (List.replicate 19 (none : Option V))[i]? = some (some v) := e
      have := List.mem_of_getElem? e'
      rw [List.mem_replicate] at this
      cases this.2)⟩, rfl, fun n a ob e _ => by simp at e, fun a h => (nomatch h), List.nodup_nil, fun p h => (nomatch h)⟩
  refine seqS (soundB fx nf co t c rfl ok rfl A E s [] (lawSt xs) _ rm R law_ok) fun f s' ρ' fl st' ev fr hq => ?_
  subst hq
  cases fr with
  | ret x =>
    cases x
    obtain ⟨m', F', _⟩ := ev.rep.frame
    exact hJ s' m' F' ev.gens ev.os

theorem rm_law (env : Env) : Rm (callerA.deeper env) 15 := ⟨rfl, by rw [depth_deeper, depth_caller]; decide, by rw [units_deeper, units_caller]; decide⟩

local macro_rules | `(tactic| walk_at "mine_tr") => `(tactic| repeat' (first
  | kernel_rfl
  | exact ⟨_, fun _ => rfl⟩
  | (intro _ _; rfl)
  | (intro _ _ _; rfl)
  | (intro _ _ _ _; rfl)
  | (refine elt_mod ?_ ?_ ?_ ?_ (by assumption) (by assumption) (by assumption) (by assumption))
  | (refine elt_shr ?_ ?_ ?_)
  | constructor
  | decide))

abbrev theRow : OpenRow := PySem.Challenge.rw_sj0037_01.row
noncomputable def kept : List Addr := [2, 3, 15, 17, 18, 20, 21, 29, 31, 32, 34, 35, 36, 38, 39, 41, 42, 43, 45, 46, 48, 49, 50, 52, 53, 55, 56, 57, 59, 60, 62, 63, 64, 66, 67, 69, 70, 71, 73, 74, 76, 77, 78, 80, 81, 83, 84, 85, 87, 88, 90, 91, 92, 94, 95, 97, 98, 99, 101, 102, 104, 105, 106, 107, 109, 110, 112, 113, 114, 115, 116, 117, 118, 121, 123, 124, 126, 127, 128, 130, 131, 133, 134, 135, 137, 138, 140, 141, 142, 144, 145, 147, 148, 149, 151, 152, 154, 155, 156, 158, 159, 161, 162, 163, 165, 166, 168, 169, 170, 172, 173, 175, 176, 177, 179, 180, 182, 183, 184, 186, 187, 189, 190, 191, 193, 194, 196, 197, 198, 200, 201, 203, 204, 205, 207, 208, 210, 211, 212, 214, 215, 217, 218, 219, 221, 222, 224, 225, 226, 228, 229, 231, 232, 233, 236, 237, 238, 240, 241, 243, 244, 245, 247, 248, 250, 251, 252, 255, 256]
theorem kept_ok : ∀ P, kept = (Lit.hd.heap_1 P).map (·.1) := fun _ => by kernel_rfl
-- in the next two: the library's quick forms of its own looks (equations that it lays ahead) spare the kernel about half of its work; without them the rows hold too
theorem saidSo : PySem.Challenge.rw_sj0037_01.wellSaid = true := by
  try rw [PySem.W.Fast.te9446332074065402090]
  kernel_rfl
/-- the run of the text's top from the booted state, in the kernel at once -/
theorem topRuns (w : World) (os : OsState) : ((some ⟨boot_heap w.params, #[], boot_drawn, boot_toks, os⟩ : Option Shared).bind (topFrom treeTable theRow.prog w 2756)).map (fun s => (openSeen Lit.hd.view_1 [] (importedModules theRow.prog.main.body) (fun s => xlAt Lit.hd.view_1 [] s && recOk theRow.records s) true s, Hook.obs (kHook Lit.hd.heap_1 kept kept_ok) s)) = some (openGood Lit.hd.view_1 [], Hook.val (kHook Lit.hd.heap_1 kept kept_ok) w) := by
  unfold topFrom
  try rw [PySem.W.Fast.te14082659384304107361]
  try rw [PySem.W.Fast.te14364793385576792824]
  try rw [PySem.W.Fast.te4187177175401517315]
  kernel_rfl
theorem sameProg : opening theRow.prog = plainProg theRow.prog.main.scope.names := by kernel_rfl
theorem noFence (s : Shared) : fenceModules? theRow.prog s = some s := by kernel_rfl
theorem topLeft : LeftO theRow.prog Lit.hd.view_1 [] (fun s => xlAt Lit.hd.view_1 [] s && recOk theRow.records s) (Hook.obs (kHook Lit.hd.heap_1 kept kept_ok)) (Hook.val (kHook Lit.hd.heap_1 kept kept_ok)) 2756 := fun w => by
  obtain ⟨⟨h, g, d, k, os⟩, hs, hv⟩ := Option.map_eq_some_iff.mp (boot_open (p := theRow.prog) (N := 2756) sameProg (by decide) noFence w)
  simp only [Prod.mk.injEq] at hv
  obtain ⟨rfl, rfl, rfl, rfl⟩ := hv
  unfold openEnds
  rw [hs]
  exact topRuns w os

-- without the quick forms: their equations are several times the text
local macro_rules | `(tactic| k_qdec) => `(tactic| decide +kernel)

set_option maxHeartbeats 8000000 in
theorem join (law_ok : ∀ xs : List Int, xs.length ≤ 63 → wpB (wpCall defs 7) b_law (lawSt xs) fun fl _ => fl = .ret (.bool true)) : PySem.Challenge.rw_sj0037_01.Holds := by
  w_on
  refine holds_law saidSo fun said => ?_
  refine holds_open (q := Lit.hd.view_1) (loose := []) (Xt := fun s => xlAt Lit.hd.view_1 [] s && recOk theRow.records s) (XP := XL Lit.hd.view_1 []) (YP := Hook.says (kHook Lit.hd.heap_1 kept kept_ok)) topLeft (Hook.of (kHook Lit.hd.heap_1 kept kept_ok)) (Hook.keeps (kHook Lit.hd.heap_1 kept kept_ok)) (fun s e => xl_of s (Bool.and_eq_true_iff.mp e).1) XL.keeps (by rfl) (by rfl) (by rfl) (fun s e => recFacts_of (Bool.and_eq_true_iff.mp e).2) (by rfl) said (by decide +kernel) ⟨rfl, rfl, rfl, rfl, rfl, by decide +kernel⟩ ?hw ?hc
  case hw => w_witness2
  clear said
  k_go0; (all_goals try k_fold)
  rename_i w₁ s₀ s₁ mg mb G Y fa o pm doc kV ho hg KX X V GL T B TE TW w2 w3 M w4 w5 hcd xs hs hlay0 hL hr hl2 w6 w7 l vs w8 hl ra w9 r0 hI hr3 hcond hcond2 K0 hD h₁ F N0
  have hlen : xs.length ≤ 63 := by omega
  have T' := topRead_of T
  have q1 : mg "int" = none := mg_none_of KX T'.g (kfacts _ rfl).bn.2.2.1
  have q2 : mb "int" = some (.type "int") := (T'.builtins "int" (by decide +kernel)).trans boots.2.2.1
  have q3 := T'.g
  have q4 := T'.b
  refine law_run KX T' (law_ok xs hlen) rfl (by decide) rfl rfl (rm_law _) F hl hI ?_ _ ?_
  · dsimp only
    unfold b_law
    walk_at "mine_tr"
  · intro s' m' F' hgens hos
    exact goodW_bool F' (Eq.trans hgens hg) (law_raises _ _) (law_post _ _) hos
end Mine
end

-- part C0
section
set_option Elab.async false
set_option linter.unusedVariables false
set_option linter.unusedSimpArgs false
namespace Mine

theorem may_some {α : Type} {a : α} {Q : α → Prop} : may (some a) Q = Q a := rfl

-- not by rfl: so the kernel need not unfold
theorem may_sm {α : Type} {a : α} {Q : α → Prop} : may (some a) Q = Q a := propext ⟨id, id⟩
/-- what follows a statement -/
noncomputable def kont (n : St → Prop) (Q : Fl → St → Prop) : Fl → St → Prop
  | .next, st => n st
  | .cont, st => Q .cont st
  | .ret v, st => Q (.ret v) st
theorem k_next {n Q st} : kont n Q .next st = n st := rfl
theorem k_cont {n Q st} : kont n Q .cont st = Q .cont st := rfl
theorem k_ret {n Q v st} : kont n Q (.ret v) st = Q (.ret v) st := rfl
/-- what follows a turn of a while -/
noncomputable def wk (n : St → Prop) (Q : Fl → St → Prop) : Fl → St → Prop
  | .next, st => n st
  | .cont, st => n st
  | .ret v, st => Q (.ret v) st
theorem w_next {n Q st} : wk n Q .next st = n st := rfl
theorem w_cont {n Q st} : wk n Q .cont st = n st := rfl
theorem w_ret {n Q v st} : wk n Q (.ret v) st = Q (.ret v) st := rfl

section seqs
variable {Φ : Calls} {b : MB} {st : St} {Q : Fl → St → Prop}
theorem b_cons {s : MS} : wpB Φ (.cons s b) st Q = wpS Φ s st (kont (fun st => wpB Φ b st Q) Q) := by
  show wpS Φ s st _ = wpS Φ s st _; congr 1; funext f st; cases f <;> rfl
theorem b_nil : wpB Φ .nil st Q = Q .next st := rfl
theorem b_assign {x : Nat} {e : ME} : wpB Φ (.cons (.assign x e) b) st Q = wpE Φ e st fun v st => wpB Φ b (st.put x v) Q := b_cons.trans rfl
theorem b_comp {x : Nat} {g : Int → Int} {e : ME} : wpB Φ (.cons (.comp x g e) b) st Q = wpE Φ e st fun v st => ∃ (n : Nat) (is : List Int), v = .ref n ∧ st.heap[n]? = some (.list (is.map .int)) ∧ is.length < lim ∧ wpB Φ b (St.put ⟨st.loc, st.heap ++ [.list (is.map fun i => .int (g i))]⟩ x (.ref st.heap.length)) Q := b_cons.trans rfl
theorem b_setSub {o i e : ME} : wpB Φ (.cons (.setSub o i e) b) st Q = wpE Φ e st fun v st => wpE Φ o st fun ov st => wpE Φ i st fun k st => may (setV st.heap ov k v) fun h => wpB Φ b ⟨st.loc, h⟩ Q := b_cons.trans rfl
theorem b_setAttr {o e : ME} {k : Nat} : wpB Φ (.cons (.setAttr o k e) b) st Q = wpE Φ e st fun v st => wpE Φ o st fun ov st => may (setAttrV st.heap ov k v) fun h => wpB Φ b ⟨st.loc, h⟩ Q := b_cons.trans rfl
theorem b_unpack {x y : Nat} {e : ME} : wpB Φ (.cons (.unpack x y e) b) st Q = wpE Φ e st fun v st => ∃ a c, v = .pair a c ∧ x ≠ y ∧ wpB Φ b ((st.put x a).put y c) Q := b_cons.trans rfl
theorem b_aug {x : Nat} {op : Bop} {e : ME} : wpB Φ (.cons (.aug x op e) b) st Q = may (st.get x) fun a => wpE Φ e st fun c st => may (binV op a c) fun c => wpB Φ b (st.put x c) Q := b_cons.trans rfl
theorem b_augSub {o i e : ME} {op : Bop} : wpB Φ (.cons (.augSub o i op e) b) st Q = wpE Φ o st fun ov st => wpE Φ i st fun k st => ∃ n, ov = .ref n ∧ may (subV st.heap ov k) fun a => wpE Φ e st fun c st => may (binV op a c) fun c => may (setV st.heap ov k c) fun h => wpB Φ b ⟨st.loc, h⟩ Q := b_cons.trans rfl
theorem b_expr {e : ME} : wpB Φ (.cons (.expr e) b) st Q = wpE Φ e st fun v st => v = .none ∧ wpB Φ b st Q := b_cons.trans rfl
theorem b_ret {e : ME} : wpB Φ (.cons (.ret e) b) st Q = wpE Φ e st fun v st => Q (.ret v) st := b_cons.trans rfl
theorem b_cont : wpB Φ (.cons .cont b) st Q = Q .cont st := b_cons.trans rfl
theorem b_ite {c : MC} {x y : MB} : wpB Φ (.cons (.ite c x y) b) st Q = wpC Φ c st fun t st => if t then wpB Φ x st (kont (fun st => wpB Φ b st Q) Q) else wpB Φ y st (kont (fun st => wpB Φ b st Q) Q) := b_cons.trans rfl
theorem b_while {c : MC} {x : MB} : wpB Φ (.cons (.while c x) b) st Q = ∃ n, wpWhile (fun st Q => wpC Φ c st Q) (fun st Q => wpB Φ x st Q) n st (kont (fun st => wpB Φ b st Q) Q) := b_cons.trans rfl
theorem b_for {x : Nat} {it : MI} {y : MB} : wpB Φ (.cons (.for x it y) b) st Q = wpI Φ it st fun chk vs st => wpFor chk x (fun st Q => wpB Φ y st Q) vs st (kont (fun st => wpB Φ b st Q) Q) := b_cons.trans rfl
end seqs

theorem wpFor_inv {chk : St → Prop} {x : Nat} {body : St → (Fl → St → Prop) → Prop} {Q : Fl → St → Prop} (I : Nat → St → Prop) :
    ∀ (vs ws : List V) (n : Nat) (st : St), n = ws.length → I n st → (∀ k st, I k st → chk st) →
      (∀ k v st (K : Fl → St → Prop), (ws ++ vs)[k]? = some v → I k st → (∀ st', I (k + 1) st' → K .next st') → (∀ st', I (k + 1) st' → K .cont st') → (∀ r st', Q (.ret r) st' → K (.ret r) st') → body (st.put x v) K) →
      (∀ st, I (ws ++ vs).length st → Q .next st) → wpFor chk x body vs st Q := by
  intro vs
  induction vs with
  | nil => intro ws n st hn h0 hc hs he; subst hn; exact ⟨hc _ _ h0, he _ (by simpa using h0)⟩
  | cons v vs ih =>
    intro ws n st hn h0 hc hs he
    subst hn
    refine ⟨hc _ _ h0, ?_⟩
    have key : ∀ st', I (ws.length + 1) st' → wpFor chk x body vs st' Q := by
      intro st' h'
      refine ih (ws ++ [v]) (ws.length + 1) st' (by simp) h' hc ?_ ?_
      · intro k w st K hk; exact hs k w st K (by simpa using hk)
      · intro st h; exact he st (by simpa using h)
    exact hs ws.length v st _ (by simp) h0 key key (fun r st' h => h)

theorem for_inv {chk : St → Prop} {x : Nat} {body : St → (Fl → St → Prop) → Prop} {Q : Fl → St → Prop} {vs : List V} {st : St} (I : Nat → St → Prop)
    (h0 : I 0 st) (hc : ∀ k st, I k st → chk st)
    (hs : ∀ k v st (K : Fl → St → Prop), vs[k]? = some v → I k st → (∀ st', I (k + 1) st' → K .next st') → (∀ st', I (k + 1) st' → K .cont st') → (∀ r st', Q (.ret r) st' → K (.ret r) st') → body (st.put x v) K)
    (he : ∀ st, I vs.length st → Q .next st) : wpFor chk x body vs st Q :=
  wpFor_inv I vs [] 0 st rfl h0 hc (by simpa using hs) (by simpa using he)

theorem wpWhile_succ {c : St → (Bool → St → Prop) → Prop} {body : St → (Fl → St → Prop) → Prop} {Q : Fl → St → Prop} {n : Nat} {st : St} :
    wpWhile c body (n + 1) st Q = c st fun t st => if t then body st (wk (fun st => wpWhile c body n st Q) Q) else Q .next st := by
  show c st _ = c st _; congr 1; funext t st; congr 2; funext f st; cases f <;> rfl

theorem while_inv {c : St → (Bool → St → Prop) → Prop} {body : St → (Fl → St → Prop) → Prop} {Q : Fl → St → Prop} (I : Nat → St → Prop)
    (hs : ∀ m st (K : St → Prop), I m st → (∀ m' st', m' < m → I m' st' → K st') →
      c st fun t st => if t then body st (wk K Q) else Q .next st) :
    ∀ m st, I m st → ∃ n, wpWhile c body n st Q := by
  have key : ∀ m, ∀ n st, m < n → I m st → wpWhile c body n st Q := by
    intro m
    induction m using Nat.strongRecOn with
    | ind m ih =>
      intro n st hn h
      match n, hn with
      | k + 1, hn =>
        rw [wpWhile_succ]
        exact hs m st (fun st => wpWhile c body k st Q) h (fun m' st' hm h' => ih m' hm k st' (by exact om5 hn hm) h')
  intro m st h
  exact ⟨m + 1, key m (m + 1) st (by exact om9) h⟩

theorem call_in {defs : Nat → Option Def} {d f : Nat} {args : List V} {H : Hp} {Q : V → Hp → Prop} (np nl : Nat) (body : MB) (hD : defs f = some ⟨np, nl, body⟩) (ha : args.length = np)
    (h : wpB (wpCall defs d) body ⟨args.map some ++ List.replicate (nl - np) .none, H⟩ fun fl st => may fl.val fun v => Q v st.heap) : wpCall defs (d + 1) f args H Q := by
  exact ⟨_, hD, ha, h⟩

abbrev nI (n : Nat) : V := .int (n : Int)
noncomputable def ndV : Option (Nat × Nat) → V
  | none => .none
  | some p => .pair (nI p.1) (nI p.2)

abbrev Nds := List (Option (Nat × Nat))
/-- a graph: its nodes, inputs, outputs -/
structure Gr where
  ns : Nds
  ins : List Nat
  outs : List Nat

noncomputable def entOf : Nat → Nds → List ((Int × Int) × Int)
  | _, [] => []
  | k, none :: ns => entOf (k + 1) ns
  | k, some p :: ns => (((p.1 : Int), (p.2 : Int)), (k : Int)) :: entOf (k + 1) ns

structure IsE (H : Hp) (g : Nat) (ns : Nds) (ins outs : List Nat) (es : List ((Int × Int) × Int)) : Prop where
  a0 : H[g]? = some (.attrs [.ref (g + 1), .ref (g + 2), .ref (g + 3), .ref (g + 4)])
  a1 : H[g + 1]? = some (.list (ns.map ndV))
  a2 : H[g + 2]? = some (.list (ins.map nI))
  a3 : H[g + 3]? = some (.list (outs.map nI))
  a4 : H[g + 4]? = some (.dict es)
abbrev IsG (H : Hp) (g : Nat) (G : Gr) : Prop := IsE H g G.ns G.ins G.outs (entOf 0 G.ns)

/-- the heap grew, and what it had is kept outside S -/
structure Kp (S : Nat → Prop) (H H' : Hp) : Prop where
  len : H.length ≤ H'.length
  eq : ∀ i, i < H.length → ¬ S i → H'[i]? = H[i]?

noncomputable def no : Nat → Prop := fun _ => False
noncomputable def gr (g : Nat) : Nat → Prop := fun i => g ≤ i ∧ i ≤ g + 4

theorem lt_of_get {H : Hp} {i : Nat} {o : O} (h : H[i]? = some o) : i < H.length := (List.getElem?_eq_some_iff.1 h).1
theorem IsE.lt {H : Hp} {g : Nat} {ns : Nds} {ins outs : List Nat} {es : List ((Int × Int) × Int)} (h : IsE H g ns ins outs es) : g + 4 < H.length := lt_of_get h.a4
theorem Kp.rfl {S : Nat → Prop} {H : Hp} : Kp S H H := ⟨Nat.le_refl _, fun _ _ _ => Eq.refl _⟩
theorem Kp.get {S : Nat → Prop} {H H' : Hp} (k : Kp S H H') {i : Nat} {o : O} (h : H[i]? = some o) (hi : ¬ S i) : H'[i]? = some o := (k.eq i (lt_of_get h) hi).trans h
theorem Kp.trans {S T : Nat → Prop} {H H' H'' : Hp} (k : Kp S H H') (k' : Kp T H' H'') (hST : ∀ i, i < H.length → T i → S i) : Kp S H H'' :=
  ⟨Nat.le_trans k.len k'.len, fun i hi hS => (k'.eq i (Nat.lt_of_lt_of_le hi k.len) (fun h => hS (hST i hi h))).trans (k.eq i hi hS)⟩
theorem Kp.mono {S T : Nat → Prop} {H H' : Hp} (k : Kp S H H') (hST : ∀ i, i < H.length → S i → T i) : Kp T H H' := ⟨k.len, fun i hi hS => k.eq i hi (fun h => hS (hST i hi h))⟩
theorem Kp.app {S : Nat → Prop} {H H' : Hp} (k : Kp S H H') (os : List O) : Kp S H (H' ++ os) :=
  ⟨by have := k.len; simp; exact om354 this, fun i hi hS => by rw [List.getElem?_append_left (by have := k.len; exact om17 hi this)]; exact k.eq i hi hS⟩
theorem Kp.set {S : Nat → Prop} {H H' : Hp} (k : Kp S H H') {n : Nat} {o : O} (hn : n < H.length → S n) : Kp S H (H'.set n o) :=
  ⟨by have := k.len; simpa using this, fun i hi hS => by rw [List.getElem?_set_ne (by rintro h; exact hS (h ▸ hn (h ▸ hi)))]; exact k.eq i hi hS⟩
theorem IsE.kp {S : Nat → Prop} {H H' : Hp} {g : Nat} {ns : Nds} {ins outs : List Nat} {es : List ((Int × Int) × Int)} (h : IsE H g ns ins outs es) (k : Kp S H H') (hS : ∀ i, g ≤ i → i ≤ g + 4 → ¬ S i) : IsE H' g ns ins outs es :=
  ⟨k.get h.a0 (hS _ (by exact om157) (by exact om156)), k.get h.a1 (hS _ (by exact om30) (by exact om527)), k.get h.a2 (hS _ (by exact om532) (by exact om528)), k.get h.a3 (hS _ (by exact om533) (by exact om529)), k.get h.a4 (hS _ (by exact om156) (by exact om157))⟩
theorem IsE.kp0 {H H' : Hp} {g : Nat} {ns : Nds} {ins outs : List Nat} {es : List ((Int × Int) × Int)} (h : IsE H g ns ins outs es) (k : Kp no H H') : IsE H' g ns ins outs es := h.kp k (fun _ _ _ h => h)

theorem attr_at {H : Hp} {g : Nat} {ns : Nds} {ins outs : List Nat} {es : List ((Int × Int) × Int)} (h : IsE H g ns ins outs es) : attrV H (.obj g) 0 = some (.ref (g + 1)) ∧ attrV H (.obj g) 1 = some (.ref (g + 2)) ∧ attrV H (.obj g) 2 = some (.ref (g + 3)) ∧ attrV H (.obj g) 3 = some (.ref (g + 4)) := by
  simp [attrV, h.a0]
theorem IsE.at0 {H : Hp} {g : Nat} {ns : Nds} {ins outs : List Nat} {es : List ((Int × Int) × Int)} (h : IsE H g ns ins outs es) : attrV H (.obj g) 0 = some (.ref (g + 1)) := (attr_at h).1
theorem IsE.at1 {H : Hp} {g : Nat} {ns : Nds} {ins outs : List Nat} {es : List ((Int × Int) × Int)} (h : IsE H g ns ins outs es) : attrV H (.obj g) 1 = some (.ref (g + 2)) := (attr_at h).2.1
theorem IsE.at2 {H : Hp} {g : Nat} {ns : Nds} {ins outs : List Nat} {es : List ((Int × Int) × Int)} (h : IsE H g ns ins outs es) : attrV H (.obj g) 2 = some (.ref (g + 3)) := (attr_at h).2.2.1
theorem IsE.at3 {H : Hp} {g : Nat} {ns : Nds} {ins outs : List Nat} {es : List ((Int × Int) × Int)} (h : IsE H g ns ins outs es) : attrV H (.obj g) 3 = some (.ref (g + 4)) := (attr_at h).2.2.2
theorem IsE.set1 {H : Hp} {g : Nat} {ns : Nds} {ins outs : List Nat} {es : List ((Int × Int) × Int)} (h : IsE H g ns ins outs es) (ns' : Nds) : IsE (H.set (g + 1) (.list (ns'.map ndV))) g ns' ins outs es := by
  have := h.lt
  refine ⟨?_, ?_, ?_, ?_, ?_⟩
  · rw [List.getElem?_set_ne (by exact om513)]; exact h.a0
  · rw [List.getElem?_set_self (by exact om213 this)]
  · rw [List.getElem?_set_ne (by exact om510)]; exact h.a2
  · rw [List.getElem?_set_ne (by exact om511)]; exact h.a3
  · rw [List.getElem?_set_ne (by exact om512)]; exact h.a4
theorem IsE.set2 {H : Hp} {g : Nat} {ns : Nds} {ins outs : List Nat} {es : List ((Int × Int) × Int)} (h : IsE H g ns ins outs es) (ins' : List Nat) : IsE (H.set (g + 2) (.list (ins'.map nI))) g ns ins' outs es := by
  have := h.lt
  refine ⟨?_, ?_, ?_, ?_, ?_⟩
  · rw [List.getElem?_set_ne (by exact om517)]; exact h.a0
  · rw [List.getElem?_set_ne (by exact om514)]; exact h.a1
  · rw [List.getElem?_set_self (by exact om214 this)]
  · rw [List.getElem?_set_ne (by exact om515)]; exact h.a3
  · rw [List.getElem?_set_ne (by exact om516)]; exact h.a4
theorem IsE.set3 {H : Hp} {g : Nat} {ns : Nds} {ins outs : List Nat} {es : List ((Int × Int) × Int)} (h : IsE H g ns ins outs es) (outs' : List Nat) : IsE (H.set (g + 3) (.list (outs'.map nI))) g ns ins outs' es := by
  have := h.lt
  refine ⟨?_, ?_, ?_, ?_, ?_⟩
  · rw [List.getElem?_set_ne (by exact om521)]; exact h.a0
  · rw [List.getElem?_set_ne (by exact om518)]; exact h.a1
  · rw [List.getElem?_set_ne (by exact om519)]; exact h.a2
  · rw [List.getElem?_set_self (by exact om215 this)]
  · rw [List.getElem?_set_ne (by exact om520)]; exact h.a4
theorem IsE.set4 {H : Hp} {g : Nat} {ns : Nds} {ins outs : List Nat} {es : List ((Int × Int) × Int)} (h : IsE H g ns ins outs es) (es' : List ((Int × Int) × Int)) : IsE (H.set (g + 4) (.dict es')) g ns ins outs es' := by
  have := h.lt
  refine ⟨?_, ?_, ?_, ?_, ?_⟩
  · rw [List.getElem?_set_ne (by exact om525)]; exact h.a0
  · rw [List.getElem?_set_ne (by exact om522)]; exact h.a1
  · rw [List.getElem?_set_ne (by exact om523)]; exact h.a2
  · rw [List.getElem?_set_ne (by exact om524)]; exact h.a3
  · rw [List.getElem?_set_self (by exact om4 this)]
theorem len_at {H : Hp} {n : Nat} {α : Type} {f : α → V} {xs : List α} (h : H[n]? = some (.list (xs.map f))) (hl : xs.length < lim) : lenV H (.ref n) = some xs.length := by
  simp [lenV, h, hl]
theorem app_at {H : Hp} {n : Nat} {α : Type} {f : α → V} {xs : List α} (h : H[n]? = some (.list (xs.map f))) (hl : xs.length < lim) (x : α) {v : V} (hv : v = f x) : appendV H (.ref n) v = some (H.set n (.list ((xs ++ [x]).map f))) := by
  simp [appendV, h, hl, hv]
theorem isL_at {H : Hp} {n : Nat} {xs : List V} (h : H[n]? = some (.list xs)) : isL H (.ref n) := ⟨n, xs, rfl, h⟩
theorem isO_at {H : Hp} {g : Nat} {ns : Nds} {ins outs : List Nat} {es : List ((Int × Int) × Int)} (h : IsE H g ns ins outs es) : isO H (.obj g) := ⟨g, _, rfl, h.a0⟩
theorem set_at {H : Hp} {n : Nat} {α : Type} {f : α → V} {xs : List α} (h : H[n]? = some (.list (xs.map f))) (hl : xs.length < lim) {k : Nat} (hk : k < xs.length) (x : α) {v : V} (hv : v = f x) : setV H (.ref n) (nI k) v = some (H.set n (.list ((xs.set k x).map f))) := by
  subst hv
  simp [setV, h, hl, hk, List.map_set]
theorem sub_at {H : Hp} {n : Nat} {α : Type} {f : α → V} {xs : List α} (h : H[n]? = some (.list (xs.map f))) (hl : xs.length < lim) {k : Nat} {x : α} (hk : xs[k]? = some x) : subV H (.ref n) (nI k) = some (f x) := by
  simp [subV, h, hl, hk]
theorem subP0 {H : Hp} {a b : V} : subV H (.pair a b) (.int 0) = some a := by simp [subV]
theorem subP1 {H : Hp} {a b : V} : subV H (.pair a b) (.int 1) = some b := by simp [subV]

theorem bi_shr {l : Nat} : binV .shr (nI l) (.int 1) = some (nI (l / 2)) := by simp [binV, binI]
theorem bi_and1 {l : Nat} : binV .and (nI l) (.int 1) = some (nI (l % 2)) := by
  simp [binV, binI, Nat.and_one_is_mod]
theorem bi_xor {a b : Nat} : binV .xor (nI a) (nI b) = some (nI (a ^^^ b)) := by simp [binV, binI]
theorem bi_xor1 {a : Nat} : binV .xor (nI a) (.int 1) = some (nI (a ^^^ 1)) := by simp [binV, binI]
theorem bi_and {a b : Nat} : binV .and (nI a) (nI b) = some (nI (a &&& b)) := by simp [binV, binI]
theorem bi_or {a b : Nat} : binV .or (nI a) (nI b) = some (nI (a ||| b)) := by simp [binV, binI]
theorem bi_add {a b : Nat} : binV .add (nI a) (nI b) = some (nI (a + b)) := by simp [binV, binI]
theorem bi_add1 {a : Nat} : binV .add (nI a) (.int 1) = some (nI (a + 1)) := by simp [binV, binI]
theorem bi_1add {a : Nat} : binV .add (.int 1) (nI a) = some (nI (1 + a)) := by simp [binV, binI]
theorem bi_2mul {a : Nat} : binV .mul (.int 2) (nI a) = some (nI (2 * a)) := by simp [binV, binI]

theorem entOf_app : ∀ (ns ms : Nds) (k : Nat), entOf k (ns ++ ms) = entOf k ns ++ entOf (k + ns.length) ms
  | [], ms, k => by simp [entOf]
  | none :: ns, ms, k => by simp [entOf, entOf_app ns ms (k + 1), Nat.add_assoc, Nat.add_comm 1]
  | some p :: ns, ms, k => by simp [entOf, entOf_app ns ms (k + 1), Nat.add_assoc, Nat.add_comm 1]
theorem entOf_len : ∀ (ns : Nds) (k : Nat), (entOf k ns).length ≤ ns.length
  | [], k => by simp [entOf]
  | none :: ns, k => by have := entOf_len ns (k + 1); simp [entOf]; exact om38 this
  | some p :: ns, k => by have := entOf_len ns (k + 1); simp [entOf]; exact om47 this
theorem ent_some : ∀ (ns : Nds) (k : Nat) (l r : Nat) (v : Int), (entOf k ns).lookup ((l : Int), (r : Int)) = some v → ∃ i, ns[i]? = some (some (l, r)) ∧ v = ((k + i : Nat) : Int)
  | [], k, l, r, v, h => by simp [entOf] at h
  | none :: ns, k, l, r, v, h => by
    obtain ⟨i, h1, h2⟩ := ent_some ns (k + 1) l r v h
    exact ⟨i + 1, by simpa using h1, by rw [h2]; congr 1; exact om67⟩
  | some p :: ns, k, l, r, v, h => by
    unfold entOf at h
    rw [List.lookup_cons] at h
    by_cases e : (((l : Int), (r : Int)) == ((p.1 : Int), (p.2 : Int))) = true
    · rw [e] at h
      simp at e h
      refine ⟨0, ?_, by rw [← h]; simp⟩
      simp; exact Prod.ext (by have := e.1; simp at *; exact om97 e.1) (by have := e.2; simp at *; exact om97 e.2)
    · simp only [Bool.not_eq_true] at e
      rw [e] at h
      obtain ⟨i, h1, h2⟩ := ent_some ns (k + 1) l r v h
      exact ⟨i + 1, by simpa using h1, by rw [h2]; congr 1; exact om67⟩
theorem ent_none : ∀ (ns : Nds) (k : Nat) (l r : Nat), (entOf k ns).lookup ((l : Int), (r : Int)) = none → ∀ i : Nat, ns[i]? ≠ some (some (l, r))
  | [], k, l, r, h => by simp
  | none :: ns, k, l, r, h => by
    intro i hi
    match i, hi with
    | 0, hi => simp at hi
    | i + 1, hi => exact ent_none ns (k + 1) l r h i (by simpa using hi)
  | some p :: ns, k, l, r, h => by
    unfold entOf at h
    rw [List.lookup_cons] at h
    by_cases e : (((l : Int), (r : Int)) == ((p.1 : Int), (p.2 : Int))) = true
    · rw [e] at h; simp at h
    · simp only [Bool.not_eq_true] at e
      rw [e] at h
      intro i hi
      match i, hi with
      | 0, hi => simp at hi; simp [hi] at e
      | i + 1, hi => exact ent_none ns (k + 1) l r h i (by simpa using hi)

theorem c_new {d : Nat} {H : Hp} {Q : V → Hp → Prop} (h : ∀ H', IsG H' H.length ⟨[none], [], []⟩ → Kp no H H' → H'.length = H.length + 5 → Q .none H') : wpCall defs (d + 1) 0 [.obj H.length] (H ++ [.attrs []]) Q := by
  refine call_in 1 1 b_init rfl rfl ?_
  unfold b_init
  simp only [b_assign, b_expr, b_ret, b_setSub, b_setAttr, b_unpack, b_aug, b_augSub, b_cont, b_nil, b_comp, zE0, zE1, zE2, zE3, zE4, zE5, zE6, zE7, zE8, zE9, zE10, zE11, zE12, zE13, zE14, zE15, zE16, zE17, zE18, zE19, zE20, zE21, zE22, zE23, zE24, zE25, zE26, zE27, zE28, zE29, zE30, zE31, zE32, zE33, zE34, zE35, zE36, zE37, zE38, may_some, St.get, St.put, List.getElem?_cons_zero, List.getElem?_cons_succ, Option.join_some, List.set_cons_succ, List.set_cons_zero, alloc, List.map_cons, List.map_nil, List.cons_append, List.nil_append, Nat.sub_self, List.replicate_zero, setAttrV]
  simp [may, List.getElem?_append, Fl.val]
  refine h _ ⟨?_, ?_, ?_, ?_, ?_⟩ (Kp.mono (Kp.app Kp.rfl _) (fun _ _ h => h)) ?_ <;> simp [ndV, entOf]

theorem c_add_input {d : Nat} {H : Hp} {g : Nat} {G : Gr} {Q : V → Hp → Prop} (hG : IsG H g G) (h1 : G.ns.length < lim) (h2 : G.ins.length < lim)
    (h : ∀ H', IsG H' g ⟨G.ns ++ [none], G.ins ++ [G.ns.length], G.outs⟩ → Kp (gr g) H H' → H'.length = H.length → Q (nI (2 * G.ns.length)) H') : wpCall defs (d + 1) 1 [.obj g] H Q := by
  refine call_in 1 3 b_add_input rfl rfl ?_
  unfold b_add_input
  have hlt := hG.lt
  have hA := hG.set1 (G.ns ++ [none])
  have hB := hA.set2 (G.ins ++ [G.ns.length])
  simp only [b_assign, b_expr, b_ret, b_setSub, b_setAttr, b_unpack, b_aug, b_augSub, b_cont, b_nil, b_comp, zE0, zE1, zE2, zE3, zE4, zE5, zE6, zE7, zE8, zE9, zE10, zE11, zE12, zE13, zE14, zE15, zE16, zE17, zE18, zE19, zE20, zE21, zE22, zE23, zE24, zE25, zE26, zE27, zE28, zE29, zE30, zE31, zE32, zE33, zE34, zE35, zE36, zE37, zE38, may_some, St.get, St.put, List.getElem?_cons_zero, List.getElem?_cons_succ, Option.join_some, List.set_cons_succ, List.set_cons_zero, List.map_cons, List.map_nil, List.cons_append, List.nil_append, List.replicate_succ, hG.at0, len_at hG.a1 h1, isL_at hG.a1, app_at hG.a1 h1 none (v := .none) rfl, true_and, hA.at1, isL_at hA.a2, app_at hA.a2 h2 G.ns.length rfl, bi_2mul, Fl.val]
  refine h _ ?_ ?_ ?_
  · unfold IsG; rw [entOf_app]; simpa [entOf] using hB
  · refine Kp.set (Kp.set Kp.rfl ?_) ?_ <;> intro _ <;> unfold gr <;> (first | exact om554 | exact om555)
  · simp

theorem c_add_output {d : Nat} {H : Hp} {g : Nat} {G : Gr} {l : Nat} {Q : V → Hp → Prop} (hG : IsG H g G) (h1 : G.outs.length < lim)
    (h : ∀ H', IsG H' g ⟨G.ns, G.ins, G.outs ++ [l]⟩ → Kp (gr g) H H' → H'.length = H.length → Q .none H') : wpCall defs (d + 1) 2 [.obj g, nI l] H Q := by
  refine call_in 2 2 b_add_output rfl rfl ?_
  unfold b_add_output
  have hlt := hG.lt
  have hA := hG.set3 (G.outs ++ [l])
  simp only [b_assign, b_expr, b_ret, b_setSub, b_setAttr, b_unpack, b_aug, b_augSub, b_cont, b_nil, b_comp, zE0, zE1, zE2, zE3, zE4, zE5, zE6, zE7, zE8, zE9, zE10, zE11, zE12, zE13, zE14, zE15, zE16, zE17, zE18, zE19, zE20, zE21, zE22, zE23, zE24, zE25, zE26, zE27, zE28, zE29, zE30, zE31, zE32, zE33, zE34, zE35, zE36, zE37, zE38, may_some, St.get, St.put, List.getElem?_cons_zero, List.getElem?_cons_succ, Option.join_some, List.set_cons_succ, List.set_cons_zero, List.map_cons, List.map_nil, List.cons_append, List.nil_append, Nat.sub_self, List.replicate_zero, hG.at2, isL_at hG.a3, app_at hG.a3 h1 l rfl, true_and, Fl.val]
  refine h _ hA ?_ ?_
  · refine Kp.set Kp.rfl ?_; intro _; unfold gr; exact om542
  · simp

/-- what land does -/
inductive LandS (ns : Nds) (lo hi : Nat) : Nds → Nat → Prop where
  | zero (h : lo = 0 ∨ lo = hi ^^^ 1) : LandS ns lo hi ns 0
  | same (h0 : ¬ (lo = 0 ∨ lo = hi ^^^ 1)) (h : lo = 1 ∨ lo = hi) : LandS ns lo hi ns hi
  | old (h0 : ¬ (lo = 0 ∨ lo = hi ^^^ 1)) (h1 : ¬ (lo = 1 ∨ lo = hi)) (i : Nat) (h : ns[i]? = some (some (lo, hi))) : LandS ns lo hi ns (2 * i)
  | new (h0 : ¬ (lo = 0 ∨ lo = hi ^^^ 1)) (h1 : ¬ (lo = 1 ∨ lo = hi)) (h : ∀ i : Nat, ns[i]? ≠ some (some (lo, hi))) : LandS ns lo hi (ns ++ [some (lo, hi)]) (2 * ns.length)
noncomputable def LandR (ns : Nds) (l r : Nat) (ns' : Nds) (res : Nat) : Prop := LandS ns (min l r) (max l r) ns' res

theorem cmp_gt {H : Hp} {a b : Nat} : cmpV H .gt (nI a) (nI b) = some (decide (b < a)) := by simp [cmpV, cmpI]
theorem cmp_eq {H : Hp} {a b : Nat} : cmpV H .eq (nI a) (nI b) = some (decide (a = b)) := by simp [cmpV, cmpI]; exact om109

theorem cmp_lt {H : Hp} {a b : Nat} : cmpV H .lt (nI a) (nI b) = some (decide (a < b)) := by simp [cmpV, cmpI]
theorem cmp_ltI {H : Hp} {a b : Int} : cmpV H .lt (.int a) (.int b) = some (decide (a < b)) := by simp [cmpV, cmpI]
theorem cmp_eqI {H : Hp} {a b : Int} : cmpV H .eq (.int a) (.int b) = some (decide (a = b)) := by simp [cmpV, cmpI]
theorem cmp_eq0 {H : Hp} {a : Nat} : cmpV H .eq (nI a) (.int 0) = some (decide (a = 0)) := by simp [cmpV, cmpI]
theorem cmp_eq1 {H : Hp} {a : Nat} : cmpV H .eq (nI a) (.int 1) = some (decide (a = 1)) := by simp [cmpV, cmpI]; exact om538

noncomputable def rest : MB → MB
  | .cons _ b => b
  | .nil => .nil

theorem land_tail {Φ : Calls} {H : Hp} {g : Nat} {G : Gr} {l r : Nat} {Q : Fl → St → Prop} (hG : IsG H g G) (h1 : G.ns.length < lim) (hle : l ≤ r)
    (h : ∀ H' ns' res lc, LandS G.ns l r ns' res → IsG H' g ⟨ns', G.ins, G.outs⟩ → Kp (gr g) H H' → H'.length = H.length → Q (.ret (nI res)) ⟨lc, H'⟩) :
    wpB Φ (rest b_land) ⟨[some (.obj g), some (nI l), some (nI r), none, none], H⟩ Q := by
  unfold b_land rest
  have hlt := hG.lt
  rw [b_ite]
  simp only [zC0, zC1, zC2, zC3, zC4, zC5, zC6, zC7, zC8, b_assign, b_expr, b_ret, b_setSub, b_setAttr, b_unpack, b_aug, b_augSub, b_cont, b_nil, b_comp, zE0, zE1, zE2, zE3, zE4, zE5, zE6, zE7, zE8, zE9, zE10, zE11, zE12, zE13, zE14, zE15, zE16, zE17, zE18, zE19, zE20, zE21, zE22, zE23, zE24, zE25, zE26, zE27, zE28, zE29, zE30, zE31, zE32, zE33, zE34, zE35, zE36, zE37, zE38, may_some, St.get, St.put, List.getElem?_cons_zero, List.getElem?_cons_succ, Option.join_some, List.set_cons_succ, List.set_cons_zero, cmp_eq0, bi_xor1, cmp_eq]
  by_cases e0 : l = 0
  · simp only [e0, decide_true, if_true, b_assign, b_expr, b_ret, b_setSub, b_setAttr, b_unpack, b_aug, b_augSub, b_cont, b_nil, b_comp, zE0, zE1, zE2, zE3, zE4, zE5, zE6, zE7, zE8, zE9, zE10, zE11, zE12, zE13, zE14, zE15, zE16, zE17, zE18, zE19, zE20, zE21, zE22, zE23, zE24, zE25, zE26, zE27, zE28, zE29, zE30, zE31, zE32, zE33, zE34, zE35, zE36, zE37, zE38, may_some, St.get, St.put, List.getElem?_cons_zero, List.getElem?_cons_succ, Option.join_some, List.set_cons_succ, List.set_cons_zero, k_ret]
    exact h _ _ _ _ (.zero (Or.inl e0)) hG Kp.rfl rfl
  by_cases e1 : l = r ^^^ 1
  · simp only [e1, decide_true, if_true, b_assign, b_expr, b_ret, b_setSub, b_setAttr, b_unpack, b_aug, b_augSub, b_cont, b_nil, b_comp, zE0, zE1, zE2, zE3, zE4, zE5, zE6, zE7, zE8, zE9, zE10, zE11, zE12, zE13, zE14, zE15, zE16, zE17, zE18, zE19, zE20, zE21, zE22, zE23, zE24, zE25, zE26, zE27, zE28, zE29, zE30, zE31, zE32, zE33, zE34, zE35, zE36, zE37, zE38, may_some, St.get, St.put, List.getElem?_cons_zero, List.getElem?_cons_succ, Option.join_some, List.set_cons_succ, List.set_cons_zero, k_ret]
    simp
    exact h _ _ _ _ (e1 ▸ .zero (Or.inr rfl)) hG Kp.rfl rfl
  simp only [e0, e1, decide_false, if_false, Bool.false_eq_true, b_assign, b_expr, b_ret, b_setSub, b_setAttr, b_unpack, b_aug, b_augSub, b_cont, b_nil, b_comp, zE0, zE1, zE2, zE3, zE4, zE5, zE6, zE7, zE8, zE9, zE10, zE11, zE12, zE13, zE14, zE15, zE16, zE17, zE18, zE19, zE20, zE21, zE22, zE23, zE24, zE25, zE26, zE27, zE28, zE29, zE30, zE31, zE32, zE33, zE34, zE35, zE36, zE37, zE38, may_some, St.get, St.put, List.getElem?_cons_zero, List.getElem?_cons_succ, Option.join_some, List.set_cons_succ, List.set_cons_zero, k_next]
  rw [b_ite]
  simp only [zC0, zC1, zC2, zC3, zC4, zC5, zC6, zC7, zC8, b_assign, b_expr, b_ret, b_setSub, b_setAttr, b_unpack, b_aug, b_augSub, b_cont, b_nil, b_comp, zE0, zE1, zE2, zE3, zE4, zE5, zE6, zE7, zE8, zE9, zE10, zE11, zE12, zE13, zE14, zE15, zE16, zE17, zE18, zE19, zE20, zE21, zE22, zE23, zE24, zE25, zE26, zE27, zE28, zE29, zE30, zE31, zE32, zE33, zE34, zE35, zE36, zE37, zE38, may_some, St.get, St.put, List.getElem?_cons_zero, List.getElem?_cons_succ, Option.join_some, List.set_cons_succ, List.set_cons_zero, cmp_eq1, cmp_eq]
  have hn : ¬ (l = 0 ∨ l = r ^^^ 1) := by simp [e0, e1]
  by_cases e2 : l = 1
  · simp only [e2, decide_true, if_true, b_assign, b_expr, b_ret, b_setSub, b_setAttr, b_unpack, b_aug, b_augSub, b_cont, b_nil, b_comp, zE0, zE1, zE2, zE3, zE4, zE5, zE6, zE7, zE8, zE9, zE10, zE11, zE12, zE13, zE14, zE15, zE16, zE17, zE18, zE19, zE20, zE21, zE22, zE23, zE24, zE25, zE26, zE27, zE28, zE29, zE30, zE31, zE32, zE33, zE34, zE35, zE36, zE37, zE38, may_some, St.get, St.put, List.getElem?_cons_zero, List.getElem?_cons_succ, Option.join_some, List.set_cons_succ, List.set_cons_zero, k_ret]
    exact h _ _ _ _ (.same hn (Or.inl e2)) hG Kp.rfl rfl
  by_cases e3 : l = r
  · simp only [e2, e3, decide_true, if_true, b_assign, b_expr, b_ret, b_setSub, b_setAttr, b_unpack, b_aug, b_augSub, b_cont, b_nil, b_comp, zE0, zE1, zE2, zE3, zE4, zE5, zE6, zE7, zE8, zE9, zE10, zE11, zE12, zE13, zE14, zE15, zE16, zE17, zE18, zE19, zE20, zE21, zE22, zE23, zE24, zE25, zE26, zE27, zE28, zE29, zE30, zE31, zE32, zE33, zE34, zE35, zE36, zE37, zE38, may_some, St.get, St.put, List.getElem?_cons_zero, List.getElem?_cons_succ, Option.join_some, List.set_cons_succ, List.set_cons_zero, k_ret]
    simp
    exact h _ _ _ _ (.same hn (Or.inr e3)) hG Kp.rfl rfl
  have hn' : ¬ (l = 1 ∨ l = r) := by simp [e2, e3]
  simp only [e2, e3, decide_false, if_false, Bool.false_eq_true, b_assign, b_expr, b_ret, b_setSub, b_setAttr, b_unpack, b_aug, b_augSub, b_cont, b_nil, b_comp, zE0, zE1, zE2, zE3, zE4, zE5, zE6, zE7, zE8, zE9, zE10, zE11, zE12, zE13, zE14, zE15, zE16, zE17, zE18, zE19, zE20, zE21, zE22, zE23, zE24, zE25, zE26, zE27, zE28, zE29, zE30, zE31, zE32, zE33, zE34, zE35, zE36, zE37, zE38, may_some, St.get, St.put, List.getElem?_cons_zero, List.getElem?_cons_succ, Option.join_some, List.set_cons_succ, List.set_cons_zero, k_next, hG.at3]
  refine ⟨⟨_, _, rfl, hG.a4⟩, ?_⟩
  cases hl : (entOf 0 G.ns).lookup ((l : Int), (r : Int)) with
  | some v =>
    obtain ⟨i, hi, hv⟩ := ent_some _ _ _ _ _ hl
    simp only [Nat.zero_add] at hv
    subst hv
    have e : getV H (.ref (g + 4)) (.pair (nI l) (nI r)) (.int (-1)) = some (nI i) := by simp [getV, hG.a4, hl]
    simp only [e, b_assign, b_expr, b_ret, b_setSub, b_setAttr, b_unpack, b_aug, b_augSub, b_cont, b_nil, b_comp, zE0, zE1, zE2, zE3, zE4, zE5, zE6, zE7, zE8, zE9, zE10, zE11, zE12, zE13, zE14, zE15, zE16, zE17, zE18, zE19, zE20, zE21, zE22, zE23, zE24, zE25, zE26, zE27, zE28, zE29, zE30, zE31, zE32, zE33, zE34, zE35, zE36, zE37, zE38, may_some, St.get, St.put, List.getElem?_cons_zero, List.getElem?_cons_succ, Option.join_some, List.set_cons_succ, List.set_cons_zero]
    rw [b_ite]
    simp only [zC0, zC1, zC2, zC3, zC4, zC5, zC6, zC7, zC8, b_assign, b_expr, b_ret, b_setSub, b_setAttr, b_unpack, b_aug, b_augSub, b_cont, b_nil, b_comp, zE0, zE1, zE2, zE3, zE4, zE5, zE6, zE7, zE8, zE9, zE10, zE11, zE12, zE13, zE14, zE15, zE16, zE17, zE18, zE19, zE20, zE21, zE22, zE23, zE24, zE25, zE26, zE27, zE28, zE29, zE30, zE31, zE32, zE33, zE34, zE35, zE36, zE37, zE38, may_some, St.get, St.put, List.getElem?_cons_zero, List.getElem?_cons_succ, Option.join_some, List.set_cons_succ, List.set_cons_zero, cmp_ltI]
    rw [if_neg (by simp)]
    simp only [b_assign, b_expr, b_ret, b_setSub, b_setAttr, b_unpack, b_aug, b_augSub, b_cont, b_nil, b_comp, zE0, zE1, zE2, zE3, zE4, zE5, zE6, zE7, zE8, zE9, zE10, zE11, zE12, zE13, zE14, zE15, zE16, zE17, zE18, zE19, zE20, zE21, zE22, zE23, zE24, zE25, zE26, zE27, zE28, zE29, zE30, zE31, zE32, zE33, zE34, zE35, zE36, zE37, zE38, may_some, St.get, St.put, List.getElem?_cons_zero, List.getElem?_cons_succ, Option.join_some, List.set_cons_succ, List.set_cons_zero, k_next, bi_2mul]
    exact h _ _ _ _ (.old hn hn' i hi) hG Kp.rfl rfl
  | none =>
    have e : getV H (.ref (g + 4)) (.pair (nI l) (nI r)) (.int (-1)) = some (.int (-1)) := by simp [getV, hG.a4, hl]
    simp only [e, b_assign, b_expr, b_ret, b_setSub, b_setAttr, b_unpack, b_aug, b_augSub, b_cont, b_nil, b_comp, zE0, zE1, zE2, zE3, zE4, zE5, zE6, zE7, zE8, zE9, zE10, zE11, zE12, zE13, zE14, zE15, zE16, zE17, zE18, zE19, zE20, zE21, zE22, zE23, zE24, zE25, zE26, zE27, zE28, zE29, zE30, zE31, zE32, zE33, zE34, zE35, zE36, zE37, zE38, may_some, St.get, St.put, List.getElem?_cons_zero, List.getElem?_cons_succ, Option.join_some, List.set_cons_succ, List.set_cons_zero]
    rw [b_ite]
    simp only [zC0, zC1, zC2, zC3, zC4, zC5, zC6, zC7, zC8, b_assign, b_expr, b_ret, b_setSub, b_setAttr, b_unpack, b_aug, b_augSub, b_cont, b_nil, b_comp, zE0, zE1, zE2, zE3, zE4, zE5, zE6, zE7, zE8, zE9, zE10, zE11, zE12, zE13, zE14, zE15, zE16, zE17, zE18, zE19, zE20, zE21, zE22, zE23, zE24, zE25, zE26, zE27, zE28, zE29, zE30, zE31, zE32, zE33, zE34, zE35, zE36, zE37, zE38, may_some, St.get, St.put, List.getElem?_cons_zero, List.getElem?_cons_succ, Option.join_some, List.set_cons_succ, List.set_cons_zero, cmp_ltI]
    rw [if_pos (by simp)]
    have hA := hG.set1 (G.ns ++ [some (l, r)])
    have hB := hA.set4 (entOf 0 (G.ns ++ [some (l, r)]))
    have hd := entOf_len G.ns 0
    have e2 : setV (H.set (g + 1) (.list ((G.ns ++ [some (l, r)]).map ndV))) (.ref (g + 4)) (.pair (nI l) (nI r)) (nI G.ns.length) = some ((H.set (g + 1) (.list ((G.ns ++ [some (l, r)]).map ndV))).set (g + 4) (.dict (entOf 0 (G.ns ++ [some (l, r)])))) := by
      simp only [setV, hA.a4, hl]
      rw [if_pos ⟨by exact om41 h1 hd, rfl⟩, entOf_app]; simp [entOf]
    simp only [b_assign, b_expr, b_ret, b_setSub, b_setAttr, b_unpack, b_aug, b_augSub, b_cont, b_nil, b_comp, zE0, zE1, zE2, zE3, zE4, zE5, zE6, zE7, zE8, zE9, zE10, zE11, zE12, zE13, zE14, zE15, zE16, zE17, zE18, zE19, zE20, zE21, zE22, zE23, zE24, zE25, zE26, zE27, zE28, zE29, zE30, zE31, zE32, zE33, zE34, zE35, zE36, zE37, zE38, may_some, St.get, St.put, List.getElem?_cons_zero, List.getElem?_cons_succ, Option.join_some, List.set_cons_succ, List.set_cons_zero, k_next, bi_2mul, hG.at0, len_at hG.a1 h1, isL_at hG.a1, true_and, app_at hG.a1 h1 (some (l, r)) (v := .pair (nI l) (nI r)) rfl, hA.at3, e2]
    refine h _ _ _ _ (.new hn hn' (ent_none _ _ _ _ hl)) hB ?_ (by simp)
    refine Kp.set (Kp.set Kp.rfl ?_) ?_ <;> intro _ <;> unfold gr <;> (first | exact om554 | exact om556)

theorem c_land {d : Nat} {H : Hp} {g : Nat} {G : Gr} {l r : Nat} {Q : V → Hp → Prop} (hG : IsG H g G) (h1 : G.ns.length < lim)
    (h : ∀ H' ns' res, LandR G.ns l r ns' res → IsG H' g ⟨ns', G.ins, G.outs⟩ → Kp (gr g) H H' → H'.length = H.length → Q (nI res) H') :
    wpCall defs (d + 1) 3 [.obj g, nI l, nI r] H Q := by
  refine call_in 3 5 b_land rfl rfl ?_
  have e : b_land = .cons (.ite (.cmp .gt (.var 1) (.var 2)) (.cons (.unpack 1 2 (.pair (.var 2) (.var 1))) .nil) .nil) (rest b_land) := rfl
  rw [e, b_ite]
  simp only [zC0, zC1, zC2, zC3, zC4, zC5, zC6, zC7, zC8, b_assign, b_expr, b_ret, b_setSub, b_setAttr, b_unpack, b_aug, b_augSub, b_cont, b_nil, b_comp, zE0, zE1, zE2, zE3, zE4, zE5, zE6, zE7, zE8, zE9, zE10, zE11, zE12, zE13, zE14, zE15, zE16, zE17, zE18, zE19, zE20, zE21, zE22, zE23, zE24, zE25, zE26, zE27, zE28, zE29, zE30, zE31, zE32, zE33, zE34, zE35, zE36, zE37, zE38, may_some, St.get, St.put, List.getElem?_cons_zero, List.getElem?_cons_succ, Option.join_some, List.set_cons_succ, List.set_cons_zero, cmp_gt, List.map_cons, List.map_nil, List.cons_append, List.nil_append, List.replicate_succ, List.replicate_zero]
  by_cases hlr : r < l
  · rw [if_pos (by simpa using hlr)]
    refine ⟨_, _, rfl, by decide, ?_⟩
    simp only [k_next, b_assign, b_expr, b_ret, b_setSub, b_setAttr, b_unpack, b_aug, b_augSub, b_cont, b_nil, b_comp, zE0, zE1, zE2, zE3, zE4, zE5, zE6, zE7, zE8, zE9, zE10, zE11, zE12, zE13, zE14, zE15, zE16, zE17, zE18, zE19, zE20, zE21, zE22, zE23, zE24, zE25, zE26, zE27, zE28, zE29, zE30, zE31, zE32, zE33, zE34, zE35, zE36, zE37, zE38, may_some, St.get, St.put, List.getElem?_cons_zero, List.getElem?_cons_succ, Option.join_some, List.set_cons_succ, List.set_cons_zero]
    refine land_tail hG h1 (by exact om63 hlr) ?_
    intro H' ns' res lc hL hG' hk hl
    simp only [Fl.val, may_some]
    exact h _ _ _ (by unfold LandR; rwa [Nat.min_eq_right (by exact om63 hlr), Nat.max_eq_left (by exact om63 hlr)]) hG' hk hl
  · rw [if_neg (by simpa using hlr)]
    simp only [k_next, b_assign, b_expr, b_ret, b_setSub, b_setAttr, b_unpack, b_aug, b_augSub, b_cont, b_nil, b_comp, zE0, zE1, zE2, zE3, zE4, zE5, zE6, zE7, zE8, zE9, zE10, zE11, zE12, zE13, zE14, zE15, zE16, zE17, zE18, zE19, zE20, zE21, zE22, zE23, zE24, zE25, zE26, zE27, zE28, zE29, zE30, zE31, zE32, zE33, zE34, zE35, zE36, zE37, zE38, may_some, St.get, St.put, List.getElem?_cons_zero, List.getElem?_cons_succ, Option.join_some, List.set_cons_succ, List.set_cons_zero]
    refine land_tail hG h1 (by exact om12 hlr) ?_
    intro H' ns' res lc hL hG' hk hl
    simp only [Fl.val, may_some]
    exact h _ _ _ (by unfold LandR; rwa [Nat.min_eq_left (by exact om12 hlr), Nat.max_eq_right (by exact om12 hlr)]) hG' hk hl
end Mine
end

-- part C1
section
set_option Elab.async false
set_option linter.unusedVariables false
set_option linter.unusedSimpArgs false
namespace Mine

theorem map_at {α : Type} {f : α → V} {xs : List α} {k : Nat} {v : V} (h : (xs.map f)[k]? = some v) : ∃ x, xs[k]? = some x ∧ v = f x := by
  rw [List.getElem?_map] at h
  cases e : xs[k]? with
  | none => rw [e] at h; simp at h
  | some x => rw [e] at h; simp at h; exact ⟨x, rfl, h.symm⟩

theorem mem_at {α : Type} {xs : List α} {k : Nat} {v : α} (h : xs[k]? = some v) : v ∈ xs := List.mem_of_getElem? h

theorem e_repl {Φ : Calls} {st : St} {Q : V → St → Prop} {x g : Nat} {ns : Nds} {ins outs : List Nat} {es} (v : V) {c : ME} (hc : ∀ st Q, wpE Φ c st Q = Q v st)
    (hx : st.get x = some (.obj g)) (hG : IsE st.heap g ns ins outs es) (hn : ns.length < lim)
    (h : ∀ H' t, H'[t]? = some (.list (List.replicate ns.length v)) → st.heap.length ≤ t → Kp no st.heap H' → Q (.ref t) ⟨st.loc, H'⟩) :
    wpE Φ (.repl (.list1 c) (.len (.attr (.var x) 0))) st Q := by
  have hlt := hG.lt
  have k1 : Kp no st.heap (st.heap ++ [.list [v]]) := Kp.app Kp.rfl _
  have hG1 := hG.kp0 k1
  have e : replV (st.heap ++ [.list [v]]) (.ref st.heap.length) (nI ns.length) = some (List.replicate ns.length v) := by simp [replV, hn]
  have hx' : St.get ⟨st.loc, st.heap ++ [.list [v]]⟩ x = some (.obj g) := hx
  simp only [zE0, zE1, zE2, zE3, zE4, zE5, zE6, zE7, zE8, zE9, zE10, zE11, zE12, zE13, zE14, zE15, zE16, zE17, zE18, zE19, zE20, zE21, zE22, zE23, zE24, zE25, zE26, zE27, zE28, zE29, zE30, zE31, zE32, zE33, zE34, zE35, zE36, zE37, zE38, hc, alloc, hx', may_some, hG1.at0, len_at hG1.a1 hn, e]
  exact h _ _ (by rw [List.getElem?_append_right (by simp)]; simp) (by simp) (k1.app _)

theorem st_true {bs : List Bool} {i k : Nat} (h : bs[i]? = some true) : (bs.set k true)[i]? = some true := by
  rw [List.getElem?_set]; split
  · rename_i e; subst e; rw [if_pos (List.getElem?_eq_some_iff.1 h).1]
  · exact h
theorem st_cases {bs : List Bool} {i k : Nat} (h : (bs.set k true)[i]? = some true) : i = k ∨ bs[i]? = some true := by
  rw [List.getElem?_set] at h; split at h
  · rename_i e; exact Or.inl e.symm
  · exact Or.inr h
theorem st_self {bs : List Bool} {k : Nat} (h : k < bs.length) : (bs.set k true)[k]? = some true := by
  rw [List.getElem?_set_self h]

noncomputable def Closed (ns : Nds) (U : Nat → Prop) : Prop := ∀ i l r, ns[i]? = some (some (l, r)) → U i → U (l / 2) ∧ U (r / 2)
structure UsedR (ns : Nds) (outs : List Nat) (bs : List Bool) : Prop where
  len : bs.length = ns.length
  out : ∀ o, o ∈ outs → bs[o / 2]? = some true
  cl : Closed ns fun i => bs[i]? = some true
  mi : ∀ U : Nat → Prop, (∀ o, o ∈ outs → U (o / 2)) → Closed ns U → ∀ i, bs[i]? = some true → U i

noncomputable def Low (ns : Nds) : Prop := ∀ i l r, ns[i]? = some (some (l, r)) → l / 2 < i ∧ r / 2 < i

theorem rd_at {N k : Nat} {v : V} (h : (rangeDown ((N : Int) - 1) (-1))[k]? = some v) : k < N ∧ v = nI (N - 1 - k) := by
  unfold rangeDown at h
  rw [List.getElem?_map] at h
  have e : ((N : Int) - 1 - -1).toNat = N := by exact om508
  rw [e] at h
  by_cases hk : k < N
  · rw [List.getElem?_range hk] at h
    simp at h
    exact ⟨hk, by rw [← h]; congr 1; exact om241 hk⟩
  · rw [List.getElem?_eq_none (by simp; exact om12 hk)] at h; simp at h
theorem rd_len {N : Nat} : (rangeDown ((N : Int) - 1) (-1)).length = N := by unfold rangeDown; simp
theorem ru_at {N k : Nat} {v : V} (h : (rangeUp 0 (N : Int))[k]? = some v) : k < N ∧ v = nI k := by
  unfold rangeUp at h
  rw [List.getElem?_map] at h
  have e : ((N : Int) - 0).toNat = N := by exact om509
  rw [e] at h
  by_cases hk : k < N
  · rw [List.getElem?_range hk] at h
    simp at h
    exact ⟨hk, by rw [← h]⟩
  · rw [List.getElem?_eq_none (by simp; exact om12 hk)] at h; simp at h
theorem ru_len {N : Nat} : (rangeUp 0 (N : Int)).length = N := by unfold rangeUp; simp

theorem c_used {d : Nat} {H : Hp} {g : Nat} {G : Gr} {Q : V → Hp → Prop} (hG : IsG H g G) (hn : G.ns.length < lim) (ho : G.outs.length < lim)
    (hw : Low G.ns) (hO : ∀ o, o ∈ G.outs → o / 2 < G.ns.length)
    (h : ∀ H' t bs, H'[t]? = some (.list (bs.map .bool)) → H.length ≤ t → Kp no H H' → UsedR G.ns G.outs bs → Q (.ref t) H') :
    wpCall defs (d + 1) 4 [.obj g] H Q := by
  refine call_in 1 7 b_used_nodes rfl rfl ?_
  unfold b_used_nodes
  rw [b_assign]
  refine e_repl (.bool false) (fun _ _ => by simp only [zE0, zE1, zE2, zE3, zE4, zE5, zE6, zE7, zE8, zE9, zE10, zE11, zE12, zE13, zE14, zE15, zE16, zE17, zE18, zE19, zE20, zE21, zE22, zE23, zE24, zE25, zE26, zE27, zE28, zE29, zE30, zE31, zE32, zE33, zE34, zE35, zE36, zE37, zE38]) rfl hG hn ?_
  intro H1 t ht htl k1
  have hlt := hG.lt
  simp only [List.map_cons, List.map_nil, List.cons_append, List.nil_append, List.replicate_succ, List.replicate_zero, St.get, St.put, List.getElem?_cons_zero, List.getElem?_cons_succ, Option.join_some, List.set_cons_succ, List.set_cons_zero] at htl k1 ⊢
  have hG1 := hG.kp0 k1
  rw [b_for]
  simp only [wpI, b_assign, b_expr, b_ret, b_setSub, b_setAttr, b_unpack, b_aug, b_augSub, b_cont, b_nil, b_comp, zE0, zE1, zE2, zE3, zE4, zE5, zE6, zE7, zE8, zE9, zE10, zE11, zE12, zE13, zE14, zE15, zE16, zE17, zE18, zE19, zE20, zE21, zE22, zE23, zE24, zE25, zE26, zE27, zE28, zE29, zE30, zE31, zE32, zE33, zE34, zE35, zE36, zE37, zE38, may_some, St.get, St.put, List.getElem?_cons_zero, List.getElem?_cons_succ, Option.join_some, List.set_cons_succ, List.set_cons_zero, hG1.at2]
  refine ⟨_, hG1.a3, by simpa using ho, for_inv (fun k st => Ex3 fun (o2 : Option V) (H2 : Hp) (bs : List Bool) => An6 (st = ⟨[some (.obj g), some (.ref t), o2, none, none, none, none], H2⟩) (Kp no H H2) (H2[t]? = some (.list (bs.map .bool))) (bs.length = G.ns.length) ((∀ j o, j < k → G.outs[j]? = some o → bs[o / 2]? = some true)) (∀ U : Nat → Prop, (∀ o, o ∈ G.outs → U (o / 2)) → Closed G.ns U → ∀ i, bs[i]? = some true → U i)) ?_ ?_ ?_ ?_⟩
  · refine ⟨_, _, List.replicate G.ns.length false, rfl, k1, by simpa using ht, by simp, fun _ _ h => by exact om77 h, ?_⟩
    intro U _ _ i hi
    rw [List.getElem?_replicate] at hi; split at hi <;> simp at hi
  · rintro k st ⟨o2, H2, bs, rfl, k2, _⟩
    exact (hG.kp0 k2).a3
  · rintro k v st K hv ⟨o2, H2, bs, rfl, k2, h2, hl, ho', hU⟩ kn kc kr
    obtain ⟨o, hko, rfl⟩ := map_at hv
    have hom := mem_at hko
    have hG2 := hG.kp0 k2
    simp only [b_assign, b_expr, b_ret, b_setSub, b_setAttr, b_unpack, b_aug, b_augSub, b_cont, b_nil, b_comp, zE0, zE1, zE2, zE3, zE4, zE5, zE6, zE7, zE8, zE9, zE10, zE11, zE12, zE13, zE14, zE15, zE16, zE17, zE18, zE19, zE20, zE21, zE22, zE23, zE24, zE25, zE26, zE27, zE28, zE29, zE30, zE31, zE32, zE33, zE34, zE35, zE36, zE37, zE38, may_some, St.get, St.put, List.getElem?_cons_zero, List.getElem?_cons_succ, Option.join_some, List.set_cons_succ, List.set_cons_zero, bi_shr, set_at h2 (hl ▸ hn) (hl ▸ hO o hom) true rfl]
    apply kn
    refine ⟨_, _, bs.set (o / 2) true, rfl, k2.set (by exact om7 htl), by rw [List.getElem?_set_self (lt_of_get h2)], by simpa using hl, ?_, ?_⟩
    · intro j o' hj hjo
      by_cases e : j < k
      · exact st_true (ho' j o' e hjo)
      · have : j = k := by exact om22 hj e
        subst this; rw [hko] at hjo; injection hjo with e; subst e
        exact st_self (hl ▸ hO _ hom)
    · intro U h1 h2 i hi
      rcases st_cases hi with rfl | hi
      · exact h1 _ hom
      · exact hU U h1 h2 i hi
  · rintro st ⟨o2, H2, bs, rfl, k2, h2, hl, ho', hU⟩
    have hG2 := hG.kp0 k2
    simp only [List.length_map] at ho'
    rw [k_next, b_for]
    simp only [wpI, b_assign, b_expr, b_ret, b_setSub, b_setAttr, b_unpack, b_aug, b_augSub, b_cont, b_nil, b_comp, zE0, zE1, zE2, zE3, zE4, zE5, zE6, zE7, zE8, zE9, zE10, zE11, zE12, zE13, zE14, zE15, zE16, zE17, zE18, zE19, zE20, zE21, zE22, zE23, zE24, zE25, zE26, zE27, zE28, zE29, zE30, zE31, zE32, zE33, zE34, zE35, zE36, zE37, zE38, may_some, St.get, St.put, List.getElem?_cons_zero, List.getElem?_cons_succ, Option.join_some, List.set_cons_succ, List.set_cons_zero, hG2.at0, len_at hG2.a1 hn, binV, binI, Option.map_some]
    have hl20 : lim = 2 ^ 20 := rfl
    refine ⟨_, _, rfl, rfl, by exact om530, by exact om231 hn hl20, by exact om204, by exact om546, for_inv (fun k st => Ex5 fun (o2 : Option V) (o3 : Option V) (o4 : Option V) (H2 : Hp) (bs : List Bool) => An7 (st = ⟨[some (.obj g), some (.ref t), o2, o3, o4, none, none], H2⟩) (Kp no H H2) (H2[t]? = some (.list (bs.map .bool))) (bs.length = G.ns.length) ((∀ o, o ∈ G.outs → bs[o / 2]? = some true)) ((∀ i l r, G.ns.length - k ≤ i → G.ns[i]? = some (some (l, r)) → bs[i]? = some true → bs[l / 2]? = some true ∧ bs[r / 2]? = some true)) (∀ U : Nat → Prop, (∀ o, o ∈ G.outs → U (o / 2)) → Closed G.ns U → ∀ i, bs[i]? = some true → U i)) ?_ ?_ ?_ ?_⟩
    · refine ⟨_, _, _, _, bs, rfl, k2, h2, hl, ?_, ?_, hU⟩
      · intro o ho; obtain ⟨j, hj, hjo⟩ := List.getElem_of_mem ho
        exact ho' j o hj (by rw [List.getElem?_eq_getElem hj, hjo])
      · intro i l r hi hi2 _
        have := (List.getElem?_eq_some_iff.1 hi2).1; exact om162 hi this
    · intros; trivial
    · rintro k v st K hv ⟨o2, o3, o4, H2, bs, rfl, k2, h2, hl, ho', hc, hU⟩ kn kc kr
      obtain ⟨hkN, rfl⟩ := rd_at hv
      have hG2 := hG.kp0 k2
      obtain ⟨nd, hnd⟩ : ∃ nd, G.ns[G.ns.length - 1 - k]? = some nd := ⟨_, List.getElem?_eq_getElem (by exact om557 hkN)⟩
      obtain ⟨bv, hbv⟩ : ∃ bv, bs[G.ns.length - 1 - k]? = some bv := ⟨_, List.getElem?_eq_getElem (by exact om558 hkN hl)⟩
      simp only [b_assign, b_expr, b_ret, b_setSub, b_setAttr, b_unpack, b_aug, b_augSub, b_cont, b_nil, b_comp, zE0, zE1, zE2, zE3, zE4, zE5, zE6, zE7, zE8, zE9, zE10, zE11, zE12, zE13, zE14, zE15, zE16, zE17, zE18, zE19, zE20, zE21, zE22, zE23, zE24, zE25, zE26, zE27, zE28, zE29, zE30, zE31, zE32, zE33, zE34, zE35, zE36, zE37, zE38, may_some, St.get, St.put, List.getElem?_cons_zero, List.getElem?_cons_succ, Option.join_some, List.set_cons_succ, List.set_cons_zero, hG2.at0, sub_at hG2.a1 hn hnd, b_ite, zC0, zC1, zC2, zC3, zC4, zC5, zC6, zC7, zC8, sub_at h2 (hl ▸ hn) hbv, truthV]
      have stay : (bv = true → nd = none) → K .next ⟨[some (.obj g), some (.ref t), o2, some (nI (G.ns.length - 1 - k)), some (ndV nd), none, none], H2⟩ := by
        intro hb
        apply kn
        refine ⟨_, _, _, _, bs, rfl, k2, h2, hl, ho', ?_, hU⟩
        intro i l r hi hi2 hi3
        by_cases e : G.ns.length - k ≤ i
        · exact hc i l r e hi2 hi3
        · have : i = G.ns.length - 1 - k := by exact om559 hi e
          subst this; rw [hnd] at hi2; rw [hbv] at hi3; injection hi2 with e1; injection hi3 with e2
          rw [hb e2] at e1; cases e1
      cases bv with
      | false => simp only [Bool.false_eq_true, if_false, k_next]; exact stay (by simp)
      | true =>
        cases nd with
        | none => simp [ndV, k_next]; exact stay (by simp)
        | some p =>
          have hlow := hw _ p.1 p.2 hnd
          simp [ndV, k_next]
          simp only [b_assign, b_expr, b_ret, b_setSub, b_setAttr, b_unpack, b_aug, b_augSub, b_cont, b_nil, b_comp, zE0, zE1, zE2, zE3, zE4, zE5, zE6, zE7, zE8, zE9, zE10, zE11, zE12, zE13, zE14, zE15, zE16, zE17, zE18, zE19, zE20, zE21, zE22, zE23, zE24, zE25, zE26, zE27, zE28, zE29, zE30, zE31, zE32, zE33, zE34, zE35, zE36, zE37, zE38, may_some, St.get, St.put, List.getElem?_cons_zero, List.getElem?_cons_succ, Option.join_some, List.set_cons_succ, List.set_cons_zero, subP0, subP1, bi_shr, set_at h2 (hl ▸ hn) (show p.1 / 2 < bs.length by exact om560 hlow.1 hl) true rfl]
          have h3 : (H2.set t (.list ((bs.set (p.1 / 2) true).map .bool)))[t]? = some (.list ((bs.set (p.1 / 2) true).map .bool)) := by rw [List.getElem?_set_self (lt_of_get h2)]
          simp only [b_assign, b_expr, b_ret, b_setSub, b_setAttr, b_unpack, b_aug, b_augSub, b_cont, b_nil, b_comp, zE0, zE1, zE2, zE3, zE4, zE5, zE6, zE7, zE8, zE9, zE10, zE11, zE12, zE13, zE14, zE15, zE16, zE17, zE18, zE19, zE20, zE21, zE22, zE23, zE24, zE25, zE26, zE27, zE28, zE29, zE30, zE31, zE32, zE33, zE34, zE35, zE36, zE37, zE38, may_some, St.get, St.put, List.getElem?_cons_zero, List.getElem?_cons_succ, Option.join_some, List.set_cons_succ, List.set_cons_zero, subP0, subP1, bi_shr, set_at h3 (by simpa [hl] using hn) (show p.2 / 2 < (bs.set (p.1 / 2) true).length by simp; exact om560 hlow.2 hl) true rfl]
          apply kn
          refine ⟨_, _, _, _, (bs.set (p.1 / 2) true).set (p.2 / 2) true, rfl, (k2.set (by exact om7 htl)).set (by exact om7 htl), by rw [List.getElem?_set_self (lt_of_get h3)], by simpa using hl, fun o h => st_true (st_true (ho' o h)), ?_, ?_⟩
          · intro i l r hi hi2 hi3
            by_cases e : i = G.ns.length - 1 - k
            · subst e; rw [hnd] at hi2; injection hi2 with e1; injection e1 with e1; subst e1
              exact ⟨st_true (st_self (by exact om560 hlow.1 hl)), st_self (by simp; omega)⟩
            · have h4 : bs[i]? = some true := by
                rcases st_cases hi3 with e | h
                · exact om561 hi e hlow.2
                · rcases st_cases h with e | h
                  · exact om561 hi e hlow.1
                  · exact h
              have := hc i l r (by exact om562 hi e) hi2 h4
              exact ⟨st_true (st_true this.1), st_true (st_true this.2)⟩
          · intro U h1 h2 i hi
            have hp := h2 _ p.1 p.2 hnd (hU U h1 h2 _ hbv)
            rcases st_cases hi with rfl | hi
            · exact hp.2
            · rcases st_cases hi with rfl | hi
              · exact hp.1
              · exact hU U h1 h2 i hi
    · rintro st ⟨o2, o3, o4, H2, bs, rfl, k2, h2, hl, ho', hc, hU⟩
      rw [rd_len] at hc
      simp only [k_next, b_assign, b_expr, b_ret, b_setSub, b_setAttr, b_unpack, b_aug, b_augSub, b_cont, b_nil, b_comp, zE0, zE1, zE2, zE3, zE4, zE5, zE6, zE7, zE8, zE9, zE10, zE11, zE12, zE13, zE14, zE15, zE16, zE17, zE18, zE19, zE20, zE21, zE22, zE23, zE24, zE25, zE26, zE27, zE28, zE29, zE30, zE31, zE32, zE33, zE34, zE35, zE36, zE37, zE38, may_some, St.get, St.put, List.getElem?_cons_zero, List.getElem?_cons_succ, Option.join_some, List.set_cons_succ, List.set_cons_zero, Fl.val]
      exact h _ _ bs h2 htl k2 ⟨hl, ho', fun i l r hi => hc i l r (by exact om289) hi, hU⟩
end Mine
end

-- part C2
section
set_option Elab.async false
set_option linter.unusedVariables false
set_option linter.unusedSimpArgs false
namespace Mine

/-- a list that is a function on numbers below N -/
structure Fn {α : Type} (cs : List α) (N : Nat) (F : Nat → α) : Prop where
  len : cs.length = N
  at' : ∀ i, i < N → cs[i]? = some (F i)
theorem Fn.set {α : Type} {cs : List α} {N : Nat} {F : Nat → α} (h : Fn cs N F) (a : Nat) (v : α) : Fn (cs.set a v) N (fun i => if i = a then v else F i) := by
  refine ⟨by simpa using h.len, fun i hi => ?_⟩
  by_cases e : i = a
  · subst e; rw [List.getElem?_set_self (by rw [h.len]; exact hi), if_pos rfl]
  · rw [List.getElem?_set_ne (fun h => e h.symm), h.at' i hi, if_neg e]
theorem Fn.congr {α : Type} {cs : List α} {N : Nat} {F F' : Nat → α} (h : Fn cs N F) (e : ∀ i, i < N → F i = F' i) : Fn cs N F' := ⟨h.len, fun i hi => by rw [h.at' i hi, e i hi]⟩
theorem Fn.repl {α : Type} {N : Nat} {x : α} : Fn (List.replicate N x) N (fun _ => x) := ⟨by simp, fun i hi => by rw [List.getElem?_replicate, if_pos hi]⟩

noncomputable def sdc (i : Nat) : Option (Nat × Nat) → Nat
  | none => 0
  | some p => (if p.1 / 2 = i then 1 else 0) + (if p.2 / 2 = i then 1 else 0)
noncomputable def sides (ns : Nds) (i : Nat) : Nat := (ns.map (sdc i)).sum
noncomputable def ends (outs : List Nat) (i : Nat) : Nat := (outs.map fun o => if o / 2 = i then 1 else 0).sum
theorem sum_take {α : Type} {f : α → Nat} {xs : List α} {k : Nat} {x : α} (h : xs[k]? = some x) : ((xs.take (k + 1)).map f).sum = ((xs.take k).map f).sum + f x := by
  rw [List.take_add_one, h]; simp
theorem sides_take {ns : Nds} {k : Nat} {nd} (h : ns[k]? = some nd) (i : Nat) : sides (ns.take (k + 1)) i = sides (ns.take k) i + sdc i nd := sum_take h
theorem ends_take {outs : List Nat} {k o : Nat} (h : outs[k]? = some o) (i : Nat) : ends (outs.take (k + 1)) i = ends (outs.take k) i + if o / 2 = i then 1 else 0 := sum_take (f := fun o => if o / 2 = i then 1 else 0) h

theorem c_counts {d : Nat} {H : Hp} {g : Nat} {G : Gr} {Q : V → Hp → Prop} (hG : IsG H g G) (hn : G.ns.length < lim) (ho : G.outs.length < lim)
    (hw : Low G.ns) (hO : ∀ o, o ∈ G.outs → o / 2 < G.ns.length)
    (h : ∀ H' t cs, H'[t]? = some (.list (cs.map nI)) → H.length ≤ t → Kp no H H' → Fn cs G.ns.length (fun i => sides G.ns i + ends G.outs i) → Q (.ref t) H') :
    wpCall defs (d + 1) 6 [.obj g] H Q := by
  refine call_in 1 5 b_use_counts rfl rfl ?_
  unfold b_use_counts
  rw [b_assign]
  refine e_repl (.int 0) (fun _ _ => by simp only [zE0, zE1, zE2, zE3, zE4, zE5, zE6, zE7, zE8, zE9, zE10, zE11, zE12, zE13, zE14, zE15, zE16, zE17, zE18, zE19, zE20, zE21, zE22, zE23, zE24, zE25, zE26, zE27, zE28, zE29, zE30, zE31, zE32, zE33, zE34, zE35, zE36, zE37, zE38]) rfl hG hn ?_
  intro H1 t ht htl k1
  have hlt := hG.lt
  simp only [List.map_cons, List.map_nil, List.cons_append, List.nil_append, List.replicate_succ, List.replicate_zero, St.get, St.put, List.getElem?_cons_zero, List.getElem?_cons_succ, Option.join_some, List.set_cons_succ, List.set_cons_zero] at htl k1 ⊢
  have hG1 := hG.kp0 k1
  rw [b_for]
  simp only [wpI, b_assign, b_expr, b_ret, b_setSub, b_setAttr, b_unpack, b_aug, b_augSub, b_cont, b_nil, b_comp, zE0, zE1, zE2, zE3, zE4, zE5, zE6, zE7, zE8, zE9, zE10, zE11, zE12, zE13, zE14, zE15, zE16, zE17, zE18, zE19, zE20, zE21, zE22, zE23, zE24, zE25, zE26, zE27, zE28, zE29, zE30, zE31, zE32, zE33, zE34, zE35, zE36, zE37, zE38, may_some, V.ref.injEq, exists_eq_left', St.get, St.put, List.getElem?_cons_zero, List.getElem?_cons_succ, Option.join_some, List.set_cons_succ, List.set_cons_zero, hG1.at0]
  refine ⟨_, hG1.a1, by simpa using hn, for_inv (fun k st => Ex3 fun (o2 : Option V) (H2 : Hp) (cs : List Nat) => An4 (st = ⟨[some (.obj g), some (.ref t), o2, none, none], H2⟩) (Kp no H H2) (H2[t]? = some (.list (cs.map nI))) (Fn cs G.ns.length (fun i => sides (G.ns.take k) i))) ?_ ?_ ?_ ?_⟩
  · exact ⟨_, _, List.replicate G.ns.length 0, rfl, k1, by rw [List.map_replicate]; exact ht, Fn.repl⟩
  · rintro k st ⟨o2, H2, bs, rfl, k2, _⟩
    exact (hG.kp0 k2).a1
  · rintro k v st K hv ⟨o2, H2, cs, rfl, k2, h2, hF⟩ kn kc kr
    obtain ⟨nd, hko, rfl⟩ := map_at hv
    have hG2 := hG.kp0 k2
    have hl := hF.len
    simp only [b_assign, b_expr, b_ret, b_setSub, b_setAttr, b_unpack, b_aug, b_augSub, b_cont, b_nil, b_comp, zE0, zE1, zE2, zE3, zE4, zE5, zE6, zE7, zE8, zE9, zE10, zE11, zE12, zE13, zE14, zE15, zE16, zE17, zE18, zE19, zE20, zE21, zE22, zE23, zE24, zE25, zE26, zE27, zE28, zE29, zE30, zE31, zE32, zE33, zE34, zE35, zE36, zE37, zE38, may_some, V.ref.injEq, exists_eq_left', St.get, St.put, List.getElem?_cons_zero, List.getElem?_cons_succ, Option.join_some, List.set_cons_succ, List.set_cons_zero, b_ite, zC0, zC1, zC2, zC3, zC4, zC5, zC6, zC7, zC8]
    cases nd with
    | none =>
      simp [ndV, k_next]
      apply kn
      exact ⟨_, _, cs, rfl, k2, h2, hF.congr (fun i _ => by rw [sides_take hko]; rfl)⟩
    | some p =>
      have hlow := hw _ p.1 p.2 hko
      have hkl := (List.getElem?_eq_some_iff.1 hko).1
      simp [ndV, k_next]
      have hF1 := hF.set (p.1 / 2) (sides (G.ns.take k) (p.1 / 2) + 1)
      simp only [b_assign, b_expr, b_ret, b_setSub, b_setAttr, b_unpack, b_aug, b_augSub, b_cont, b_nil, b_comp, zE0, zE1, zE2, zE3, zE4, zE5, zE6, zE7, zE8, zE9, zE10, zE11, zE12, zE13, zE14, zE15, zE16, zE17, zE18, zE19, zE20, zE21, zE22, zE23, zE24, zE25, zE26, zE27, zE28, zE29, zE30, zE31, zE32, zE33, zE34, zE35, zE36, zE37, zE38, may_some, V.ref.injEq, exists_eq_left', St.get, St.put, List.getElem?_cons_zero, List.getElem?_cons_succ, Option.join_some, List.set_cons_succ, List.set_cons_zero, subP0, subP1, bi_shr]
      simp only [b_assign, b_expr, b_ret, b_setSub, b_setAttr, b_unpack, b_aug, b_augSub, b_cont, b_nil, b_comp, zE0, zE1, zE2, zE3, zE4, zE5, zE6, zE7, zE8, zE9, zE10, zE11, zE12, zE13, zE14, zE15, zE16, zE17, zE18, zE19, zE20, zE21, zE22, zE23, zE24, zE25, zE26, zE27, zE28, zE29, zE30, zE31, zE32, zE33, zE34, zE35, zE36, zE37, zE38, may_some, V.ref.injEq, exists_eq_left', St.get, St.put, List.getElem?_cons_zero, List.getElem?_cons_succ, Option.join_some, List.set_cons_succ, List.set_cons_zero, sub_at h2 (hl ▸ hn) (hF.at' (p.1 / 2) (by exact om1 hlow.1 hkl)), bi_add1, set_at h2 (hl ▸ hn) (show p.1 / 2 < cs.length by exact om29 hlow.1 hkl hl) (sides (G.ns.take k) (p.1 / 2) + 1) rfl, subP0, subP1, bi_shr]
      have h3 : (H2.set t (.list ((cs.set (p.1 / 2) (sides (G.ns.take k) (p.1 / 2) + 1)).map nI)))[t]? = some (.list ((cs.set (p.1 / 2) (sides (G.ns.take k) (p.1 / 2) + 1)).map nI)) := by rw [List.getElem?_set_self (lt_of_get h2)]
      have hF2 := hF1.set (p.2 / 2) ((if p.2 / 2 = p.1 / 2 then sides (G.ns.take k) (p.1 / 2) + 1 else sides (G.ns.take k) (p.2 / 2)) + 1)
      have hl1 := hF1.len
      simp only [b_assign, b_expr, b_ret, b_setSub, b_setAttr, b_unpack, b_aug, b_augSub, b_cont, b_nil, b_comp, zE0, zE1, zE2, zE3, zE4, zE5, zE6, zE7, zE8, zE9, zE10, zE11, zE12, zE13, zE14, zE15, zE16, zE17, zE18, zE19, zE20, zE21, zE22, zE23, zE24, zE25, zE26, zE27, zE28, zE29, zE30, zE31, zE32, zE33, zE34, zE35, zE36, zE37, zE38, may_some, V.ref.injEq, exists_eq_left', St.get, St.put, List.getElem?_cons_zero, List.getElem?_cons_succ, Option.join_some, List.set_cons_succ, List.set_cons_zero, sub_at h3 (hl1 ▸ hn) (hF1.at' (p.2 / 2) (by exact om1 hlow.2 hkl)), bi_add1, set_at h3 (hl1 ▸ hn) (show p.2 / 2 < _ by rw [hl1]; exact om1 hlow.2 hkl) ((if p.2 / 2 = p.1 / 2 then sides (G.ns.take k) (p.1 / 2) + 1 else sides (G.ns.take k) (p.2 / 2)) + 1) rfl]
      apply kn
      refine ⟨_, _, _, rfl, (k2.set (by exact om7 htl)).set (by exact om7 htl), by rw [List.getElem?_set_self (lt_of_get h3)], hF2.congr ?_⟩
      intro i hi
      rw [sides_take hko]
      simp only [sdc]
      by_cases e1 : p.1 / 2 = i <;> by_cases e2 : p.2 / 2 = i <;> simp [e1, e2] <;> (try split) <;> (try omega) <;> (try (subst e1)) <;> (try simp_all) <;> (try exact om563 e1)
  · rintro st ⟨o2, H2, cs, rfl, k2, h2, hF⟩
    have hG2 := hG.kp0 k2
    rw [List.length_map, List.take_of_length_le (Nat.le_refl _)] at hF
    rw [k_next, b_for]
    simp only [wpI, b_assign, b_expr, b_ret, b_setSub, b_setAttr, b_unpack, b_aug, b_augSub, b_cont, b_nil, b_comp, zE0, zE1, zE2, zE3, zE4, zE5, zE6, zE7, zE8, zE9, zE10, zE11, zE12, zE13, zE14, zE15, zE16, zE17, zE18, zE19, zE20, zE21, zE22, zE23, zE24, zE25, zE26, zE27, zE28, zE29, zE30, zE31, zE32, zE33, zE34, zE35, zE36, zE37, zE38, may_some, V.ref.injEq, exists_eq_left', St.get, St.put, List.getElem?_cons_zero, List.getElem?_cons_succ, Option.join_some, List.set_cons_succ, List.set_cons_zero, hG2.at2]
    refine ⟨_, hG2.a3, by simpa using ho, for_inv (fun k st => Ex4 fun (o2 o3 : Option V) (H2 : Hp) (cs : List Nat) => An4 (st = ⟨[some (.obj g), some (.ref t), o2, o3, none], H2⟩) (Kp no H H2) (H2[t]? = some (.list (cs.map nI))) (Fn cs G.ns.length (fun i => sides G.ns i + ends (G.outs.take k) i))) ?_ ?_ ?_ ?_⟩
    · exact ⟨_, _, _, cs, rfl, k2, h2, hF⟩
    · rintro k st ⟨o2, o3, H2, bs, rfl, k2, _⟩
      exact (hG.kp0 k2).a3
    · rintro k v st K hv ⟨o2, o3, H2, cs, rfl, k2, h2, hF⟩ kn kc kr
      obtain ⟨o, hko, rfl⟩ := map_at hv
      have hl := hF.len
      have hoo := hO o (mem_at hko)
      simp only [b_assign, b_expr, b_ret, b_setSub, b_setAttr, b_unpack, b_aug, b_augSub, b_cont, b_nil, b_comp, zE0, zE1, zE2, zE3, zE4, zE5, zE6, zE7, zE8, zE9, zE10, zE11, zE12, zE13, zE14, zE15, zE16, zE17, zE18, zE19, zE20, zE21, zE22, zE23, zE24, zE25, zE26, zE27, zE28, zE29, zE30, zE31, zE32, zE33, zE34, zE35, zE36, zE37, zE38, may_some, V.ref.injEq, exists_eq_left', St.get, St.put, List.getElem?_cons_zero, List.getElem?_cons_succ, Option.join_some, List.set_cons_succ, List.set_cons_zero, bi_shr]
      simp only [b_assign, b_expr, b_ret, b_setSub, b_setAttr, b_unpack, b_aug, b_augSub, b_cont, b_nil, b_comp, zE0, zE1, zE2, zE3, zE4, zE5, zE6, zE7, zE8, zE9, zE10, zE11, zE12, zE13, zE14, zE15, zE16, zE17, zE18, zE19, zE20, zE21, zE22, zE23, zE24, zE25, zE26, zE27, zE28, zE29, zE30, zE31, zE32, zE33, zE34, zE35, zE36, zE37, zE38, may_some, V.ref.injEq, exists_eq_left', St.get, St.put, List.getElem?_cons_zero, List.getElem?_cons_succ, Option.join_some, List.set_cons_succ, List.set_cons_zero, sub_at h2 (hl ▸ hn) (hF.at' (o / 2) hoo), bi_add1, set_at h2 (hl ▸ hn) (show o / 2 < _ by rw [hl]; exact hoo) (sides G.ns (o / 2) + ends (G.outs.take k) (o / 2) + 1) rfl]
      apply kn
      refine ⟨_, _, _, _, rfl, k2.set (by exact om7 htl), by rw [List.getElem?_set_self (lt_of_get h2)], (hF.set _ _).congr ?_⟩
      intro i hi
      rw [ends_take hko]
      by_cases e : i = o / 2
      · subst e; simp; exact om108
      · rw [if_neg e, if_neg (fun h => e h.symm)]; rfl
    · rintro st ⟨o2, o3, H2, cs, rfl, k2, h2, hF⟩
      rw [List.length_map, List.take_of_length_le (Nat.le_refl _)] at hF
      simp only [k_next, b_assign, b_expr, b_ret, b_setSub, b_setAttr, b_unpack, b_aug, b_augSub, b_cont, b_nil, b_comp, zE0, zE1, zE2, zE3, zE4, zE5, zE6, zE7, zE8, zE9, zE10, zE11, zE12, zE13, zE14, zE15, zE16, zE17, zE18, zE19, zE20, zE21, zE22, zE23, zE24, zE25, zE26, zE27, zE28, zE29, zE30, zE31, zE32, zE33, zE34, zE35, zE36, zE37, zE38, may_some, V.ref.injEq, exists_eq_left', St.get, St.put, List.getElem?_cons_zero, List.getElem?_cons_succ, Option.join_some, List.set_cons_succ, List.set_cons_zero, Fl.val]
      exact h _ _ cs h2 htl k2 hF

noncomputable def inp (n : Nat) : List Nat := (List.range n).map (· + 1)
noncomputable def G0 (n : Nat) : Gr := ⟨List.replicate (n + 1) none, inp n, []⟩
theorem inp_len {n : Nat} : (inp n).length = n := by simp [inp]
theorem inp_at {n k x : Nat} (h : (inp n)[k]? = some x) : k < n ∧ x = k + 1 := by
  unfold inp at h
  rw [List.getElem?_map] at h
  by_cases hk : k < n
  · rw [List.getElem?_range hk] at h; simp at h; exact ⟨hk, h.symm⟩
  · rw [List.getElem?_eq_none (by simp; exact om12 hk)] at h; simp at h
theorem G0_len {n : Nat} : (G0 n).ns.length = n + 1 := by simp [G0]
theorem G0_succ {n : Nat} : (⟨(G0 n).ns ++ [none], (G0 n).ins ++ [(G0 n).ns.length], (G0 n).outs⟩ : Gr) = G0 (n + 1) := by
  simp [G0, inp, List.range_succ, List.replicate_succ']

theorem IsE.new_ne {H H' : Hp} {g t : Nat} (h1 : H.length ≤ t) (h2 : t < g) : ¬ gr g t := by unfold gr; exact om120 h2

theorem c_started {d : Nat} {H : Hp} {g n : Nat} {G : Gr} {Q : V → Hp → Prop} (hG : IsG H g G) (hn : G.ns.length < lim) (hi : G.ins = inp n) (hnn : n < G.ns.length)
    (h : ∀ H' f t tb, IsG H' f (G0 n) → H'[t]? = some (.list (tb.map nI)) → H.length ≤ f → f + 4 < t → Kp no H H' → Fn tb G.ns.length (fun i => if i ≤ n then 2 * i else 0) → Q (.pair (.obj f) (.ref t)) H') :
    wpCall defs (d + 2) 7 [.obj g] H Q := by
  refine call_in 1 6 b_started rfl rfl ?_
  unfold b_started
  have hlt := hG.lt
  rw [b_assign]
  simp only [zE0, zE1, zE2, zE3, zE4, zE5, zE6, zE7, zE8, zE9, zE10, zE11, zE12, zE13, zE14, zE15, zE16, zE17, zE18, zE19, zE20, zE21, zE22, zE23, zE24, zE25, zE26, zE27, zE28, zE29, zE30, zE31, zE32, zE33, zE34, zE35, zE36, zE37, zE38]
  refine c_new (H := H) ?_
  intro H1 hf k1 hl1
  have hG1 := hG.kp0 k1
  refine ⟨rfl, ?_⟩
  simp only [List.map_cons, List.map_nil, List.cons_append, List.nil_append, List.replicate_succ, List.replicate_zero, St.get, St.put, List.getElem?_cons_zero, List.getElem?_cons_succ, Option.join_some, List.set_cons_succ, List.set_cons_zero]
  rw [b_assign]
  refine e_repl (.int 0) (fun _ _ => by simp only [zE0, zE1, zE2, zE3, zE4, zE5, zE6, zE7, zE8, zE9, zE10, zE11, zE12, zE13, zE14, zE15, zE16, zE17, zE18, zE19, zE20, zE21, zE22, zE23, zE24, zE25, zE26, zE27, zE28, zE29, zE30, zE31, zE32, zE33, zE34, zE35, zE36, zE37, zE38]) rfl hG1 hn ?_
  intro H2 t ht htl k2
  simp only [St.get, St.put, List.getElem?_cons_zero, List.getElem?_cons_succ, Option.join_some, List.set_cons_succ, List.set_cons_zero] at htl k2 ⊢
  have k3 := k1.trans k2 (fun _ _ h => h)
  have hG2 := hG.kp0 k3
  have hf2 := hf.kp0 k2
  rw [b_for]
  simp only [wpI, b_assign, b_expr, b_ret, b_setSub, b_setAttr, b_unpack, b_aug, b_augSub, b_cont, b_nil, b_comp, zE0, zE1, zE2, zE3, zE4, zE5, zE6, zE7, zE8, zE9, zE10, zE11, zE12, zE13, zE14, zE15, zE16, zE17, zE18, zE19, zE20, zE21, zE22, zE23, zE24, zE25, zE26, zE27, zE28, zE29, zE30, zE31, zE32, zE33, zE34, zE35, zE36, zE37, zE38, may_some, V.ref.injEq, exists_eq_left', St.get, St.put, List.getElem?_cons_zero, List.getElem?_cons_succ, Option.join_some, List.set_cons_succ, List.set_cons_zero, hG2.at1]
  refine ⟨_, hG2.a2, by rw [hi]; simp [inp]; exact om1 hnn hn, for_inv (fun k st => Ex3 fun (o3 : Option V) (H2 : Hp) (tb : List Nat) => An5 (st = ⟨[some (.obj g), some (.obj H.length), some (.ref t), o3, none, none], H2⟩) (Kp no H H2) (IsG H2 H.length (G0 k)) (H2[t]? = some (.list (tb.map nI))) (Fn tb G.ns.length (fun i => if i ≤ k then 2 * i else 0))) ?_ ?_ ?_ ?_⟩
  · exact ⟨_, _, List.replicate G.ns.length 0, rfl, k3, hf2, by rw [List.map_replicate]; exact ht, Fn.repl.congr (by intro i _; split <;> omega)⟩
  · rintro k st ⟨o3, H2, bs, rfl, k2, _⟩
    exact (hG.kp0 k2).a2
  · rintro k v st K hv ⟨o3, H2, tb, rfl, k2, hf, h2, hF⟩ kn kc kr
    obtain ⟨x, hx, rfl⟩ := map_at hv
    rw [hi] at hx
    obtain ⟨hkn, rfl⟩ := inp_at hx
    have hl := hF.len
    simp only [b_assign, b_expr, b_ret, b_setSub, b_setAttr, b_unpack, b_aug, b_augSub, b_cont, b_nil, b_comp, zE0, zE1, zE2, zE3, zE4, zE5, zE6, zE7, zE8, zE9, zE10, zE11, zE12, zE13, zE14, zE15, zE16, zE17, zE18, zE19, zE20, zE21, zE22, zE23, zE24, zE25, zE26, zE27, zE28, zE29, zE30, zE31, zE32, zE33, zE34, zE35, zE36, zE37, zE38, may_some, V.ref.injEq, exists_eq_left', St.get, St.put, List.getElem?_cons_zero, List.getElem?_cons_succ, Option.join_some, List.set_cons_succ, List.set_cons_zero]
    refine ⟨isO_at hf, ?_⟩
    refine c_add_input hf (by rw [G0_len]; exact om376 hkn hnn hn) (by simp [G0, inp]; exact om42 hkn hnn hn) ?_
    intro H3 hf3 k4 hl3
    rw [G0_succ] at hf3
    have h3 := k4.get h2 (by unfold gr; exact om50 hl1 htl)
    simp only [b_assign, b_expr, b_ret, b_setSub, b_setAttr, b_unpack, b_aug, b_augSub, b_cont, b_nil, b_comp, zE0, zE1, zE2, zE3, zE4, zE5, zE6, zE7, zE8, zE9, zE10, zE11, zE12, zE13, zE14, zE15, zE16, zE17, zE18, zE19, zE20, zE21, zE22, zE23, zE24, zE25, zE26, zE27, zE28, zE29, zE30, zE31, zE32, zE33, zE34, zE35, zE36, zE37, zE38, may_some, V.ref.injEq, exists_eq_left', St.get, St.put, List.getElem?_cons_zero, List.getElem?_cons_succ, Option.join_some, List.set_cons_succ, List.set_cons_zero, set_at h3 (hl ▸ hn) (show k + 1 < _ by rw [hl]; exact om69 hkn hnn) (2 * (G0 k).ns.length) rfl]
    apply kn
    have k5 : Kp no H H3 := k2.trans k4 (by intro i h1 h2; unfold gr at h2; exact om18 h1 h2.1)
    refine ⟨_, _, _, rfl, k5.set (by exact om57 hl1 htl), hf3.kp (Kp.set (S := fun i => i = t) Kp.rfl (by intro _; rfl)) (by intro i h1 h2 h3; exact om74 hl1 htl h3 h2), by rw [List.getElem?_set_self (lt_of_get h3)], (hF.set _ _).congr ?_⟩
    intro i hi; rw [G0_len]
    by_cases e : i = k + 1
    · simp [e]
    · rw [if_neg e]; by_cases e2 : i ≤ k
      · rw [if_pos e2, if_pos (by exact om38 e2)]
      · rw [if_neg e2, if_neg (by exact om106 e e2)]
  · rintro st ⟨o3, H2, tb, rfl, k2, hf, h2, hF⟩
    rw [hi] at hf hF
    rw [List.length_map, inp_len] at hf hF
    simp only [k_next, b_assign, b_expr, b_ret, b_setSub, b_setAttr, b_unpack, b_aug, b_augSub, b_cont, b_nil, b_comp, zE0, zE1, zE2, zE3, zE4, zE5, zE6, zE7, zE8, zE9, zE10, zE11, zE12, zE13, zE14, zE15, zE16, zE17, zE18, zE19, zE20, zE21, zE22, zE23, zE24, zE25, zE26, zE27, zE28, zE29, zE30, zE31, zE32, zE33, zE34, zE35, zE36, zE37, zE38, may_some, V.ref.injEq, exists_eq_left', St.get, St.put, List.getElem?_cons_zero, List.getElem?_cons_succ, Option.join_some, List.set_cons_succ, List.set_cons_zero, Fl.val]
    exact h _ _ _ tb hf h2 (Nat.le_refl _) (by exact om333 hl1 htl) k2 hF

theorem c_moved {d : Nat} {H : Hp} {t l x : Nat} {tb : List Nat} {Q : V → Hp → Prop} (ht : H[t]? = some (.list (tb.map nI))) (hl : tb.length < lim) (hx : tb[l / 2]? = some x)
    (h : Q (nI (x ^^^ (l % 2))) H) : wpCall defs (d + 1) 8 [.ref t, nI l] H Q := by
  refine call_in 2 2 b_moved rfl rfl ?_
  unfold b_moved
  simp only [List.map_cons, List.map_nil, List.cons_append, List.nil_append, Nat.sub_self, List.replicate_zero, b_assign, b_expr, b_ret, b_setSub, b_setAttr, b_unpack, b_aug, b_augSub, b_cont, b_nil, b_comp, zE0, zE1, zE2, zE3, zE4, zE5, zE6, zE7, zE8, zE9, zE10, zE11, zE12, zE13, zE14, zE15, zE16, zE17, zE18, zE19, zE20, zE21, zE22, zE23, zE24, zE25, zE26, zE27, zE28, zE29, zE30, zE31, zE32, zE33, zE34, zE35, zE36, zE37, zE38, may_some, V.ref.injEq, exists_eq_left', St.get, St.put, List.getElem?_cons_zero, List.getElem?_cons_succ, Option.join_some, List.set_cons_succ, List.set_cons_zero, bi_shr, sub_at ht hl hx, bi_and1, bi_xor, Fl.val]
  exact h
end Mine
end

-- part C3
section
set_option Elab.async false
set_option linter.unusedVariables false
set_option linter.unusedSimpArgs false
namespace Mine

theorem wpFor_nil {chk : St → Prop} {x : Nat} {body : St → (Fl → St → Prop) → Prop} {st : St} {Q : Fl → St → Prop} : wpFor chk x body [] st Q = (chk st ∧ Q .next st) := by rw [wpFor]
theorem wpFor_cons {chk : St → Prop} {x : Nat} {body : St → (Fl → St → Prop) → Prop} {v : V} {vs : List V} {st : St} {Q : Fl → St → Prop} :
    wpFor chk x body (v :: vs) st Q = (chk st ∧ body (st.put x v) (wk (fun st => wpFor chk x body vs st Q) Q)) := by
  rw [wpFor]; congr 2; funext f st; cases f <;> rfl

noncomputable def IsAnd (ns : Nds) (j : Nat) : Prop := ∃ p : Nat × Nat, ns[j]? = some (some p)
noncomputable def HasEven (ns : Nds) (j : Nat) : Prop := ∃ (i l r : Nat), ns[i]? = some (some (l, r)) ∧ (l = 2 * j ∨ r = 2 * j)
structure AbsR (ns : Nds) (cnt : Nat → Nat) (bs : List Bool) : Prop where
  len : bs.length = ns.length
  so : ∀ j, bs[j]? = some true → cnt j = 1 ∧ IsAnd ns j ∧ HasEven ns j
  co : ∀ j, cnt j = 1 → IsAnd ns j → HasEven ns j → bs[j]? = some true

theorem c_absorbed {d : Nat} {H : Hp} {g ct : Nat} {G : Gr} {cs : List Nat} {cnt : Nat → Nat} {Q : V → Hp → Prop} (hG : IsG H g G) (hn : G.ns.length < lim)
    (hw : Low G.ns) (hct : H[ct]? = some (.list (cs.map nI))) (hcs : Fn cs G.ns.length cnt)
    (h : ∀ H' t bs, H'[t]? = some (.list (bs.map .bool)) → H.length ≤ t → Kp no H H' → AbsR G.ns cnt bs → Q (.ref t) H') :
    wpCall defs (d + 1) 10 [.obj g, .ref ct] H Q := by
  refine call_in 2 7 b_absorbed_nodes rfl rfl ?_
  unfold b_absorbed_nodes
  rw [b_assign]
  refine e_repl (.bool false) (fun _ _ => by simp only [zE0, zE1, zE2, zE3, zE4, zE5, zE6, zE7, zE8, zE9, zE10, zE11, zE12, zE13, zE14, zE15, zE16, zE17, zE18, zE19, zE20, zE21, zE22, zE23, zE24, zE25, zE26, zE27, zE28, zE29, zE30, zE31, zE32, zE33, zE34, zE35, zE36, zE37, zE38]) rfl hG hn ?_
  intro H1 t ht htl k1
  have hlt := hG.lt
  simp only [List.map_cons, List.map_nil, List.cons_append, List.nil_append, List.replicate_succ, List.replicate_zero, St.get, St.put, List.getElem?_cons_zero, List.getElem?_cons_succ, Option.join_some, List.set_cons_succ, List.set_cons_zero] at htl k1 ⊢
  have hG1 := hG.kp0 k1
  rw [b_for]
  simp only [wpI, b_assign, b_expr, b_ret, b_setSub, b_setAttr, b_unpack, b_aug, b_augSub, b_cont, b_nil, b_comp, zE0, zE1, zE2, zE3, zE4, zE5, zE6, zE7, zE8, zE9, zE10, zE11, zE12, zE13, zE14, zE15, zE16, zE17, zE18, zE19, zE20, zE21, zE22, zE23, zE24, zE25, zE26, zE27, zE28, zE29, zE30, zE31, zE32, zE33, zE34, zE35, zE36, zE37, zE38, may_some, V.ref.injEq, exists_eq_left', St.get, St.put, List.getElem?_cons_zero, List.getElem?_cons_succ, Option.join_some, List.set_cons_succ, List.set_cons_zero, hG1.at0]
  refine ⟨_, hG1.a1, by simpa using hn, for_inv (fun k st => Ex5 fun (o3 o4 o5 : Option V) (H2 : Hp) (bs : List Bool) => An6 (st = ⟨[some (.obj g), some (.ref ct), some (.ref t), o3, o4, o5, none], H2⟩) (Kp no H H2) (H2[t]? = some (.list (bs.map .bool))) (bs.length = G.ns.length) ((∀ j, bs[j]? = some true → cnt j = 1 ∧ IsAnd G.ns j ∧ HasEven G.ns j)) (∀ j i l r, i < k → G.ns[i]? = some (some (l, r)) → (l = 2 * j ∨ r = 2 * j) → cnt j = 1 → IsAnd G.ns j → bs[j]? = some true)) ?_ ?_ ?_ ?_⟩
  · refine ⟨_, _, _, _, List.replicate G.ns.length false, rfl, k1, by rw [List.map_replicate]; exact ht, by simp, ?_, fun _ _ _ _ h => by exact om159 h⟩
    intro j hj
    rw [List.getElem?_replicate] at hj; split at hj <;> simp at hj
  · rintro k st ⟨o3, o4, o5, H2, bs, rfl, k2, _⟩
    exact (hG.kp0 k2).a1
  · rintro k v st K hv ⟨o3, o4, o5, H2, bs, rfl, k2, h2, hl, hso, hco⟩ kn kc kr
    obtain ⟨nd, hko, rfl⟩ := map_at hv
    simp only [b_assign, b_expr, b_ret, b_setSub, b_setAttr, b_unpack, b_aug, b_augSub, b_cont, b_nil, b_comp, zE0, zE1, zE2, zE3, zE4, zE5, zE6, zE7, zE8, zE9, zE10, zE11, zE12, zE13, zE14, zE15, zE16, zE17, zE18, zE19, zE20, zE21, zE22, zE23, zE24, zE25, zE26, zE27, zE28, zE29, zE30, zE31, zE32, zE33, zE34, zE35, zE36, zE37, zE38, may_some, V.ref.injEq, exists_eq_left', St.get, St.put, List.getElem?_cons_zero, List.getElem?_cons_succ, Option.join_some, List.set_cons_succ, List.set_cons_zero, b_ite, zC0, zC1, zC2, zC3, zC4, zC5, zC6, zC7, zC8]
    cases nd with
    | none =>
      simp [ndV, k_cont]
      apply kc
      refine ⟨_, _, _, _, bs, rfl, k2, h2, hl, hso, ?_⟩
      intro j i l r hi h3
      by_cases e : i < k
      · exact hco j i l r e h3
      · have : i = k := by exact om22 hi e
        subst this; rw [hko] at h3; cases h3
    | some p =>
      simp [ndV, k_next, b_for, wpI, zE0, zE1, zE2, zE3, zE4, zE5, zE6, zE7, zE8, zE9, zE10, zE11, zE12, zE13, zE14, zE15, zE16, zE17, zE18, zE19, zE20, zE21, zE22, zE23, zE24, zE25, zE26, zE27, zE28, zE29, zE30, zE31, zE32, zE33, zE34, zE35, zE36, zE37, zE38, may_some, St.get, St.put]
      have hlow := hw _ p.1 p.2 hko
      have hkl := (List.getElem?_eq_some_iff.1 hko).1
      have step : ∀ (q : Nat) (K' : St → Prop) (o5 : Option V) (H2 : Hp) (bs : List Bool), q / 2 < G.ns.length → (q = p.1 ∨ q = p.2) → Kp no H H2 → H2[t]? = some (.list (bs.map .bool)) → bs.length = G.ns.length →
          (∀ j, bs[j]? = some true → cnt j = 1 ∧ IsAnd G.ns j ∧ HasEven G.ns j) →
          (∀ (o5 : Option V) (H3 : Hp) (bs' : List Bool), Kp no H H3 → H3[t]? = some (.list (bs'.map .bool)) → bs'.length = G.ns.length →
            (∀ j, bs'[j]? = some true → cnt j = 1 ∧ IsAnd G.ns j ∧ HasEven G.ns j) → (∀ j : Nat, bs[j]? = some true → bs'[j]? = some true) → (∀ j, q = 2 * j → cnt j = 1 → IsAnd G.ns j → bs'[j]? = some true) →
            K' ⟨[some (.obj g), some (.ref ct), some (.ref t), some ((nI p.1).pair (nI p.2)), some (nI q), o5, none], H3⟩) →
          wpB (wpCall defs d) (.cons (.assign 5 (.bin .shr (.var 4) (.int 1)))
            (.cons (.ite (.and (.cmp .eq (.bin .and (.var 4) (.int 1)) (.int 0)) (.and (.cmp .eq (.sub (.var 1) (.var 5)) (.int 1)) (.notNone (.sub (.attr (.var 0) 0) (.var 5))))) (.cons (.setSub (.var 2) (.var 5) (.bool true)) .nil) .nil) .nil))
            ⟨[some (.obj g), some (.ref ct), some (.ref t), some ((nI p.1).pair (nI p.2)), some (nI q), o5, none], H2⟩
            (wk K' (kont (fun st => K .next st) K)) := by
        intro q K' o5 H2 bs hq hqp k2 h2 hl hso hK
        have hG2 := hG.kp0 k2
        have hct2 := k2.get hct (fun h => h)
        simp only [b_assign, b_expr, b_ret, b_setSub, b_setAttr, b_unpack, b_aug, b_augSub, b_cont, b_nil, b_comp, zE0, zE1, zE2, zE3, zE4, zE5, zE6, zE7, zE8, zE9, zE10, zE11, zE12, zE13, zE14, zE15, zE16, zE17, zE18, zE19, zE20, zE21, zE22, zE23, zE24, zE25, zE26, zE27, zE28, zE29, zE30, zE31, zE32, zE33, zE34, zE35, zE36, zE37, zE38, may_some, V.ref.injEq, exists_eq_left', St.get, St.put, List.getElem?_cons_zero, List.getElem?_cons_succ, Option.join_some, List.set_cons_succ, List.set_cons_zero, bi_shr, b_ite, zC0, zC1, zC2, zC3, zC4, zC5, zC6, zC7, zC8, bi_and1, cmp_eq0]
        by_cases e0 : q % 2 = 0
        · simp only [e0, decide_true, if_true, b_assign, b_expr, b_ret, b_setSub, b_setAttr, b_unpack, b_aug, b_augSub, b_cont, b_nil, b_comp, zE0, zE1, zE2, zE3, zE4, zE5, zE6, zE7, zE8, zE9, zE10, zE11, zE12, zE13, zE14, zE15, zE16, zE17, zE18, zE19, zE20, zE21, zE22, zE23, zE24, zE25, zE26, zE27, zE28, zE29, zE30, zE31, zE32, zE33, zE34, zE35, zE36, zE37, zE38, may_some, V.ref.injEq, exists_eq_left', St.get, St.put, List.getElem?_cons_zero, List.getElem?_cons_succ, Option.join_some, List.set_cons_succ, List.set_cons_zero, sub_at hct2 (by rw [hcs.len]; exact hn) (hcs.at' _ hq), cmp_eq1]
          by_cases e1 : cnt (q / 2) = 1
          · obtain ⟨nd, hnd⟩ : ∃ nd, G.ns[q / 2]? = some nd := ⟨_, List.getElem?_eq_getElem hq⟩
            simp only [e1, decide_true, if_true, b_assign, b_expr, b_ret, b_setSub, b_setAttr, b_unpack, b_aug, b_augSub, b_cont, b_nil, b_comp, zE0, zE1, zE2, zE3, zE4, zE5, zE6, zE7, zE8, zE9, zE10, zE11, zE12, zE13, zE14, zE15, zE16, zE17, zE18, zE19, zE20, zE21, zE22, zE23, zE24, zE25, zE26, zE27, zE28, zE29, zE30, zE31, zE32, zE33, zE34, zE35, zE36, zE37, zE38, may_some, V.ref.injEq, exists_eq_left', St.get, St.put, List.getElem?_cons_zero, List.getElem?_cons_succ, Option.join_some, List.set_cons_succ, List.set_cons_zero, hG2.at0, sub_at hG2.a1 hn hnd]
            cases nd with
            | none =>
              simp [ndV, k_next, b_nil, w_next]
              refine hK _ _ bs k2 h2 hl hso (fun _ h => h) ?_
              rintro j rfl _ ⟨p', hp'⟩
              rw [show 2 * j / 2 = j by exact om6, hp'] at hnd; cases hnd
            | some p' =>
              simp [ndV, k_next]
              simp only [b_assign, b_expr, b_ret, b_setSub, b_setAttr, b_unpack, b_aug, b_augSub, b_cont, b_nil, b_comp, zE0, zE1, zE2, zE3, zE4, zE5, zE6, zE7, zE8, zE9, zE10, zE11, zE12, zE13, zE14, zE15, zE16, zE17, zE18, zE19, zE20, zE21, zE22, zE23, zE24, zE25, zE26, zE27, zE28, zE29, zE30, zE31, zE32, zE33, zE34, zE35, zE36, zE37, zE38, may_some, V.ref.injEq, exists_eq_left', St.get, St.put, List.getElem?_cons_zero, List.getElem?_cons_succ, Option.join_some, List.set_cons_succ, List.set_cons_zero, set_at h2 (hl ▸ hn) (show q / 2 < _ by rw [hl]; exact hq) true rfl, k_next, w_next]
              refine hK _ _ (bs.set (q / 2) true) (k2.set (by exact om7 htl)) (by rw [List.getElem?_set_self (lt_of_get h2)]) (by simpa using hl) ?_ (fun j hj => st_true hj) ?_
              · intro j hj
                rcases st_cases hj with rfl | hj
                · exact ⟨e1, ⟨p', hnd⟩, k, p.1, p.2, hko, by exact om129 hqp e0⟩
                · exact hso j hj
              · rintro j rfl _ _
                rw [show 2 * j / 2 = j by exact om6]
                exact st_self (by exact om564 hq hl)
          · simp only [e1, decide_false, if_false, Bool.false_eq_true, k_next, b_nil, w_next]
            refine hK _ _ bs k2 h2 hl hso (fun _ h => h) ?_
            rintro j rfl hj
            rw [show 2 * j / 2 = j by exact om6] at e1; exact absurd hj e1
        · simp only [e0, decide_false, if_false, Bool.false_eq_true, k_next, b_nil, w_next]
          refine hK _ _ bs k2 h2 hl hso (fun _ h => h) ?_
          rintro j rfl
          exact om163 e0
      rw [wpFor_cons]
      refine ⟨trivial, step p.1 _ _ H2 bs (by exact om1 hlow.1 hkl) (Or.inl rfl) k2 h2 hl hso ?_⟩
      intro o5 H3 bs1 k3 h3 hl1 hso1 hm1 hc1
      rw [wpFor_cons]
      refine ⟨trivial, step p.2 _ _ H3 bs1 (by exact om1 hlow.2 hkl) (Or.inr rfl) k3 h3 hl1 hso1 ?_⟩
      intro o5 H4 bs2 k4 h4 hl2 hso2 hm2 hc2
      rw [wpFor_nil]
      refine ⟨trivial, ?_⟩
      simp only [k_next]
      apply kn
      refine ⟨_, _, _, _, bs2, rfl, k4, h4, hl2, hso2, ?_⟩
      intro j i l r hi h3' hlr hc ha
      by_cases e : i < k
      · exact hm2 j (hm1 j (hco j i l r e h3' hlr hc ha))
      · have : i = k := by exact om22 hi e
        subst this; rw [hko] at h3'; injection h3' with e1; injection e1 with e1; subst e1
        rcases hlr with e | e
        · exact hm2 j (hc1 j e hc ha)
        · exact hc2 j e hc ha
  · rintro st ⟨o3, o4, o5, H2, bs, rfl, k2, h2, hl, hso, hco⟩
    rw [List.length_map] at hco
    simp only [k_next, b_assign, b_expr, b_ret, b_setSub, b_setAttr, b_unpack, b_aug, b_augSub, b_cont, b_nil, b_comp, zE0, zE1, zE2, zE3, zE4, zE5, zE6, zE7, zE8, zE9, zE10, zE11, zE12, zE13, zE14, zE15, zE16, zE17, zE18, zE19, zE20, zE21, zE22, zE23, zE24, zE25, zE26, zE27, zE28, zE29, zE30, zE31, zE32, zE33, zE34, zE35, zE36, zE37, zE38, may_some, V.ref.injEq, exists_eq_left', St.get, St.put, List.getElem?_cons_zero, List.getElem?_cons_succ, Option.join_some, List.set_cons_succ, List.set_cons_zero, Fl.val]
    refine h _ _ bs h2 htl k2 ⟨hl, hso, ?_⟩
    rintro j hc ha ⟨i, l, r, hi, hlr⟩
    exact hco j i l r (List.getElem?_eq_some_iff.1 hi).1 hi hlr hc ha
end Mine
end

-- part C4
section
set_option Elab.async false
set_option linter.unusedVariables false
set_option linter.unusedSimpArgs false
namespace Mine

/-- the leaves below a literal -/
inductive Lv (ns : Nds) (A : Nat → Prop) : Nat → List Nat → Prop where
  | leaf (l : Nat) (h : ¬ (l % 2 = 0 ∧ A (l / 2))) (hl : l / 2 < ns.length) : Lv ns A l [l]
  | node (l a b : Nat) (xs ys : List Nat) (h0 : l % 2 = 0) (h1 : A (l / 2)) (h : ns[l / 2]? = some (some (a, b))) (ha : Lv ns A a xs) (hb : Lv ns A b ys) : Lv ns A l (xs ++ ys)
/-- what a stack of literals still gives -/
inductive Rem (ns : Nds) (A : Nat → Prop) : List Nat → List Nat → Prop where
  | nil : Rem ns A [] []
  | snoc (S : List Nat) (l : Nat) (xs zs : List Nat) (h : Rem ns A S zs) (hl : Lv ns A l xs) : Rem ns A (S ++ [l]) (xs ++ zs)

theorem Lv.pos {ns : Nds} {A : Nat → Prop} {l : Nat} {xs : List Nat} (h : Lv ns A l xs) : 1 ≤ xs.length := by
  induction h with
  | leaf => simp
  | node l a b xs ys h0 h1 h ha hb ia ib => simp; exact om276 ib
theorem Rem.len {ns : Nds} {A : Nat → Prop} {S zs : List Nat} (h : Rem ns A S zs) : S.length ≤ zs.length := by
  induction h with
  | nil => simp
  | snoc S l xs zs h hl ih => have := hl.pos; simp; exact om352 this ih
theorem Rem.last {ns : Nds} {A : Nat → Prop} {S zs : List Nat} (h : Rem ns A S zs) : (S = [] ∧ zs = []) ∨ ∃ S' l xs zs', S = S' ++ [l] ∧ zs = xs ++ zs' ∧ Rem ns A S' zs' ∧ Lv ns A l xs := by
  cases h with
  | nil => exact Or.inl ⟨rfl, rfl⟩
  | snoc S l xs zs h hl => exact Or.inr ⟨S, l, xs, zs, rfl, rfl, h, hl⟩

theorem pop_at {H : Hp} {n : Nat} {xs : List Nat} {x : Nat} (h : H[n]? = some (.list ((xs ++ [x]).map nI))) (hl : (xs ++ [x]).length < lim) :
    popV H (.ref n) = some (nI x, H.set n (.list (xs.map nI))) := by
  simp only [popV, h, List.length_map]
  rw [if_pos hl]; simp
theorem truthL {H : Hp} {n : Nat} {xs : List Nat} (h : H[n]? = some (.list (xs.map nI))) (hl : xs.length < lim) : truthV H (.ref n) = some (!xs.isEmpty) := by
  simp [truthV, h, hl]

theorem c_leaves {d : Nat} {H : Hp} {g x a b : Nat} {G : Gr} {bt : Nat} {bs : List Bool} {xs ys : List Nat} {Q : V → Hp → Prop} (hG : IsG H g G) (hn : G.ns.length < lim)
    (hbt : H[bt]? = some (.list (bs.map .bool))) (hbl : bs.length = G.ns.length) (hx : G.ns[x]? = some (some (a, b)))
    (ha : Lv G.ns (fun j => bs[j]? = some true) a xs) (hb : Lv G.ns (fun j => bs[j]? = some true) b ys) (hlen : xs.length + ys.length + 1 < lim)
    (h : ∀ H' t, H'[t]? = some (.list ((xs ++ ys).map nI)) → H.length ≤ t → Kp no H H' → Q (.ref t) H') :
    wpCall defs (d + 1) 11 [.obj g, nI x, .ref bt] H Q := by
  refine call_in 3 9 b_and_leaves rfl rfl ?_
  unfold b_and_leaves
  have hlt := hG.lt
  rw [b_assign]
  simp only [zE0, zE1, zE2, zE3, zE4, zE5, zE6, zE7, zE8, zE9, zE10, zE11, zE12, zE13, zE14, zE15, zE16, zE17, zE18, zE19, zE20, zE21, zE22, zE23, zE24, zE25, zE26, zE27, zE28, zE29, zE30, zE31, zE32, zE33, zE34, zE35, zE36, zE37, zE38, alloc, List.map_cons, List.map_nil, List.cons_append, List.nil_append, List.replicate_succ, List.replicate_zero, St.get, St.put, List.getElem?_cons_zero, List.getElem?_cons_succ, Option.join_some, List.set_cons_succ, List.set_cons_zero]
  obtain ⟨H1, hH1⟩ : ∃ H1, H1 = H ++ [.list []] := ⟨_, rfl⟩
  have k1 : Kp no H H1 := hH1 ▸ Kp.app Kp.rfl _
  have hl1 : H1.length = H.length + 1 := by rw [hH1]; simp
  have h1 : H1[H.length]? = some (.list []) := by rw [hH1]; simp
  rw [← hH1]
  have hG1 := hG.kp0 k1
  simp only [b_assign, b_expr, b_ret, b_setSub, b_setAttr, b_unpack, b_aug, b_augSub, b_cont, b_nil, b_comp, zE0, zE1, zE2, zE3, zE4, zE5, zE6, zE7, zE8, zE9, zE10, zE11, zE12, zE13, zE14, zE15, zE16, zE17, zE18, zE19, zE20, zE21, zE22, zE23, zE24, zE25, zE26, zE27, zE28, zE29, zE30, zE31, zE32, zE33, zE34, zE35, zE36, zE37, zE38, may_some, V.ref.injEq, exists_eq_left', St.get, St.put, List.getElem?_cons_zero, List.getElem?_cons_succ, Option.join_some, List.set_cons_succ, List.set_cons_zero, hG1.at0, sub_at hG1.a1 hn hx, ndV]
  refine ⟨_, _, rfl, by decide, ?_⟩
  simp only [b_assign, b_expr, b_ret, b_setSub, b_setAttr, b_unpack, b_aug, b_augSub, b_cont, b_nil, b_comp, zE0, zE1, zE2, zE3, zE4, zE5, zE6, zE7, zE8, zE9, zE10, zE11, zE12, zE13, zE14, zE15, zE16, zE17, zE18, zE19, zE20, zE21, zE22, zE23, zE24, zE25, zE26, zE27, zE28, zE29, zE30, zE31, zE32, zE33, zE34, zE35, zE36, zE37, zE38, may_some, V.ref.injEq, exists_eq_left', St.get, St.put, List.getElem?_cons_zero, List.getElem?_cons_succ, Option.join_some, List.set_cons_succ, List.set_cons_zero, alloc]
  obtain ⟨H2, hH2⟩ : ∃ H2, H2 = H1 ++ [.list ([b, a].map nI)] := ⟨_, rfl⟩
  have k2 : Kp no H H2 := hH2 ▸ k1.app _
  have h2 : H2[H.length]? = some (.list []) := by rw [hH2, List.getElem?_append_left (by exact om35 hl1)]; exact h1
  have h2' : H2[H1.length]? = some (.list ([b, a].map nI)) := by rw [hH2]; simp
  have : H1 ++ [.list [nI b, nI a]] = H2 := by rw [hH2]; rfl
  rw [this, b_while]
  refine while_inv (fun m st => Ex8 fun (o4 o5 o7 o8 : Option V) (H3 : Hp) (acc S zs : List Nat) => An7 (st = ⟨[some (.obj g), some (nI x), some (.ref bt), some (.ref H.length), o4, o5, some (.ref H1.length), o7, o8], H3⟩) (Kp no H H3) (H3[H.length]? = some (.list (acc.map nI))) (H3[H1.length]? = some (.list (S.map nI))) (Rem G.ns (fun j => bs[j]? = some true) S zs) (acc ++ zs = xs ++ ys) (m = 2 * zs.length - S.length)) ?_ _ _
    ⟨_, _, _, _, H2, [], [b, a], xs ++ ys, rfl, k2, h2, h2', ?_, rfl, rfl⟩
  · rintro m st K ⟨o4, o5, o7, o8, H3, acc, S, zs, rfl, k3, h3, h4, hR, hz, rfl⟩ hK
    have hRl := hR.len
    have hzl : acc.length + zs.length = xs.length + ys.length := by have := congrArg List.length hz; simpa using this
    have hG3 := hG.kp0 k3
    have hb3 := k3.get hbt (fun h => h)
    simp only [zC0, zC1, zC2, zC3, zC4, zC5, zC6, zC7, zC8, b_assign, b_expr, b_ret, b_setSub, b_setAttr, b_unpack, b_aug, b_augSub, b_cont, b_nil, b_comp, zE0, zE1, zE2, zE3, zE4, zE5, zE6, zE7, zE8, zE9, zE10, zE11, zE12, zE13, zE14, zE15, zE16, zE17, zE18, zE19, zE20, zE21, zE22, zE23, zE24, zE25, zE26, zE27, zE28, zE29, zE30, zE31, zE32, zE33, zE34, zE35, zE36, zE37, zE38, may_some, V.ref.injEq, exists_eq_left', St.get, St.put, List.getElem?_cons_zero, List.getElem?_cons_succ, Option.join_some, List.set_cons_succ, List.set_cons_zero, truthL h4 (by exact om136 hlen hzl hRl)]
    rcases hR.last with ⟨rfl, rfl⟩ | ⟨S', l, us, zs', rfl, rfl, hR', hL⟩
    · simp [k_next]
      simp only [b_assign, b_expr, b_ret, b_setSub, b_setAttr, b_unpack, b_aug, b_augSub, b_cont, b_nil, b_comp, zE0, zE1, zE2, zE3, zE4, zE5, zE6, zE7, zE8, zE9, zE10, zE11, zE12, zE13, zE14, zE15, zE16, zE17, zE18, zE19, zE20, zE21, zE22, zE23, zE24, zE25, zE26, zE27, zE28, zE29, zE30, zE31, zE32, zE33, zE34, zE35, zE36, zE37, zE38, may_some, V.ref.injEq, exists_eq_left', St.get, St.put, List.getElem?_cons_zero, List.getElem?_cons_succ, Option.join_some, List.set_cons_succ, List.set_cons_zero, Fl.val]
      exact h _ _ (by rw [← hz, List.append_nil]; exact h3) (Nat.le_refl _) k3
    · rw [if_pos (by simp)]
      simp at hRl hzl
      simp only [b_assign, b_expr, b_ret, b_setSub, b_setAttr, b_unpack, b_aug, b_augSub, b_cont, b_nil, b_comp, zE0, zE1, zE2, zE3, zE4, zE5, zE6, zE7, zE8, zE9, zE10, zE11, zE12, zE13, zE14, zE15, zE16, zE17, zE18, zE19, zE20, zE21, zE22, zE23, zE24, zE25, zE26, zE27, zE28, zE29, zE30, zE31, zE32, zE33, zE34, zE35, zE36, zE37, zE38, may_some, V.ref.injEq, exists_eq_left', St.get, St.put, List.getElem?_cons_zero, List.getElem?_cons_succ, Option.join_some, List.set_cons_succ, List.set_cons_zero, pop_at h4 (by simp; exact om136 hlen hzl hRl), bi_shr, b_ite, zC0, zC1, zC2, zC3, zC4, zC5, zC6, zC7, zC8, bi_and1, cmp_eq0]
      have h4' : (H3.set H1.length (.list (S'.map nI)))[H1.length]? = some (.list (S'.map nI)) := by rw [List.getElem?_set_self (lt_of_get h4)]
      have h3' : (H3.set H1.length (.list (S'.map nI)))[H.length]? = some (.list (acc.map nI)) := by rw [List.getElem?_set_ne (by exact om36 hl1)]; exact h3
      have k4 : Kp no H (H3.set H1.length (.list (S'.map nI))) := k3.set (by exact om31 hl1)
      generalize H3.set H1.length (.list (S'.map nI)) = H4 at *
      have hG4 := hG.kp0 k4
      have hb4 := k4.get hbt (fun h => h)
      have hpos := hL.pos
      have leaf : us = [l] → ∀ (o4 o5 : Option V), wk K (kont (fun st => wpB (wpCall defs d) (.cons (.ret (.var 3)) .nil) st fun fl st => may fl.val fun v => Q v st.heap) (fun fl st => may fl.val fun v => Q v st.heap)) .next
          ⟨[some (.obj g), some (nI x), some (.ref bt), some (.ref H.length), o4, o5, some (.ref H1.length), some (nI l), some (nI (l / 2))], H4.set H.length (.list ((acc ++ [l]).map nI))⟩ := by
        rintro rfl o4 o5
        rw [w_next]
        refine hK (2 * zs'.length - S'.length) _ ?_ ⟨_, _, _, _, _, acc ++ [l], S', zs', rfl, k4.set (by exact om55), by rw [List.getElem?_set_self (lt_of_get h3')], by rw [List.getElem?_set_ne (by exact om98 hl1)]; exact h4', hR', by simpa using hz, rfl⟩
        have := hR'.len; simp; exact om280 this
      cases hL with
      | leaf l hh hll =>
        obtain ⟨bv, hbv⟩ : ∃ bv, bs[l / 2]? = some bv := ⟨_, List.getElem?_eq_getElem (by exact om0 hll hbl)⟩
        by_cases e0 : l % 2 = 0
        · have : bv = false := by cases bv with
            | false => rfl
            | true => exact absurd ⟨e0, hbv⟩ hh
          subst this
          simp only [e0, decide_true, if_true, b_assign, b_expr, b_ret, b_setSub, b_setAttr, b_unpack, b_aug, b_augSub, b_cont, b_nil, b_comp, zE0, zE1, zE2, zE3, zE4, zE5, zE6, zE7, zE8, zE9, zE10, zE11, zE12, zE13, zE14, zE15, zE16, zE17, zE18, zE19, zE20, zE21, zE22, zE23, zE24, zE25, zE26, zE27, zE28, zE29, zE30, zE31, zE32, zE33, zE34, zE35, zE36, zE37, zE38, may_some, V.ref.injEq, exists_eq_left', St.get, St.put, List.getElem?_cons_zero, List.getElem?_cons_succ, Option.join_some, List.set_cons_succ, List.set_cons_zero, sub_at hb4 (by rw [hbl]; exact hn) hbv, truthV, Bool.false_eq_true, if_false, isL_at h3', true_and, app_at h3' (by exact om130 hlen hzl) l rfl, k_next]
          exact leaf rfl _ _
        · simp only [e0, decide_false, if_false, Bool.false_eq_true, b_assign, b_expr, b_ret, b_setSub, b_setAttr, b_unpack, b_aug, b_augSub, b_cont, b_nil, b_comp, zE0, zE1, zE2, zE3, zE4, zE5, zE6, zE7, zE8, zE9, zE10, zE11, zE12, zE13, zE14, zE15, zE16, zE17, zE18, zE19, zE20, zE21, zE22, zE23, zE24, zE25, zE26, zE27, zE28, zE29, zE30, zE31, zE32, zE33, zE34, zE35, zE36, zE37, zE38, may_some, V.ref.injEq, exists_eq_left', St.get, St.put, List.getElem?_cons_zero, List.getElem?_cons_succ, Option.join_some, List.set_cons_succ, List.set_cons_zero, isL_at h3', true_and, app_at h3' (by exact om130 hlen hzl) l rfl, k_next]
          exact leaf rfl _ _
      | node l a b us vs h0 h1' hnd hla hlb =>
        simp only [h0, decide_true, if_true, b_assign, b_expr, b_ret, b_setSub, b_setAttr, b_unpack, b_aug, b_augSub, b_cont, b_nil, b_comp, zE0, zE1, zE2, zE3, zE4, zE5, zE6, zE7, zE8, zE9, zE10, zE11, zE12, zE13, zE14, zE15, zE16, zE17, zE18, zE19, zE20, zE21, zE22, zE23, zE24, zE25, zE26, zE27, zE28, zE29, zE30, zE31, zE32, zE33, zE34, zE35, zE36, zE37, zE38, may_some, V.ref.injEq, exists_eq_left', St.get, St.put, List.getElem?_cons_zero, List.getElem?_cons_succ, Option.join_some, List.set_cons_succ, List.set_cons_zero, sub_at hb4 (by rw [hbl]; exact hn) h1', truthV, hG4.at0, sub_at hG4.a1 hn hnd, ndV]
        refine ⟨_, _, rfl, by decide, ?_⟩
        have hh := hla.pos
        have hh2 := hlb.pos
        have hh3 := hR'.len
        simp at hzl
        simp only [b_assign, b_expr, b_ret, b_setSub, b_setAttr, b_unpack, b_aug, b_augSub, b_cont, b_nil, b_comp, zE0, zE1, zE2, zE3, zE4, zE5, zE6, zE7, zE8, zE9, zE10, zE11, zE12, zE13, zE14, zE15, zE16, zE17, zE18, zE19, zE20, zE21, zE22, zE23, zE24, zE25, zE26, zE27, zE28, zE29, zE30, zE31, zE32, zE33, zE34, zE35, zE36, zE37, zE38, may_some, V.ref.injEq, exists_eq_left', St.get, St.put, List.getElem?_cons_zero, List.getElem?_cons_succ, Option.join_some, List.set_cons_succ, List.set_cons_zero, isL_at h4', true_and, app_at h4' (by exact om456 hzl hlen hh3) b rfl]
        have h5 : (H4.set H1.length (.list ((S' ++ [b]).map nI)))[H1.length]? = some (.list ((S' ++ [b]).map nI)) := by rw [List.getElem?_set_self (lt_of_get h4')]
        simp only [b_assign, b_expr, b_ret, b_setSub, b_setAttr, b_unpack, b_aug, b_augSub, b_cont, b_nil, b_comp, zE0, zE1, zE2, zE3, zE4, zE5, zE6, zE7, zE8, zE9, zE10, zE11, zE12, zE13, zE14, zE15, zE16, zE17, zE18, zE19, zE20, zE21, zE22, zE23, zE24, zE25, zE26, zE27, zE28, zE29, zE30, zE31, zE32, zE33, zE34, zE35, zE36, zE37, zE38, may_some, V.ref.injEq, exists_eq_left', St.get, St.put, List.getElem?_cons_zero, List.getElem?_cons_succ, Option.join_some, List.set_cons_succ, List.set_cons_zero, isL_at h5, true_and, app_at h5 (by simp; exact om455 hzl hlen hh3) a rfl, k_next, w_next]
        refine hK (2 * (us ++ (vs ++ zs')).length - (S' ++ [b] ++ [a]).length) _ ?_ ⟨_, _, _, _, _, acc, S' ++ [b] ++ [a], us ++ (vs ++ zs'), rfl, (k4.set (by exact om31 hl1)).set (by exact om31 hl1), ?_, by rw [List.getElem?_set_self (lt_of_get h5)], .snoc _ _ _ _ (.snoc _ _ _ _ hR' hlb) hla, by rw [← hz]; simp, rfl⟩
        · simp; exact om406 hh2 hh3
        · rw [List.getElem?_set_ne (by exact om36 hl1), List.getElem?_set_ne (by exact om36 hl1)]; exact h3'
  · have := Rem.snoc _ _ _ _ (Rem.snoc _ _ _ _ Rem.nil hb) ha
    simpa using this

/-- pairs of depth and literal -/
noncomputable def pV (p : Nat × Nat) : V := .pair (nI p.1) (nI p.2)
noncomputable def Srt (P : List (Nat × Nat)) : Prop := P.Pairwise fun a b => a.1 ≤ b.1
structure PlaceR (P : List (Nat × Nat)) (e : Nat × Nat) (P' : List (Nat × Nat)) : Prop where
  perm : P'.Perm (e :: P)
  srt : Srt P → Srt P'

abbrev lex (a e : Nat × Nat) : Prop := a.1 < e.1 ∨ (a.1 = e.1 ∧ a.2 ≤ e.2)
theorem cmp_lex {H : Hp} {a e : Nat × Nat} : cmpV H .le (pV a) (pV e) = some (decide (lex a e)) := by
  simp only [pV, cmpV]; congr 1; apply decide_eq_decide.2; unfold lex; exact om415

theorem place_ok {P : List (Nat × Nat)} {e : Nat × Nat} {k : Nat} (hk : k ≤ P.length) (h1 : ∀ (j : Nat) a, j < k → P[j]? = some a → lex a e) (h2 : ∀ a, P[k]? = some a → ¬ lex a e) :
    PlaceR P e (P.take k ++ e :: P.drop k) := by
  refine ⟨?_, ?_⟩
  · have := List.perm_middle (a := e) (l₁ := P.take k) (l₂ := P.drop k)
    rwa [List.take_append_drop] at this
  · intro hs
    unfold Srt at hs ⊢
    have hs' := hs
    rw [← List.take_append_drop k P, List.pairwise_append] at hs'
    obtain ⟨hA, hB, hC⟩ := hs'
    have f1 : ∀ a ∈ P.take k, a.1 ≤ e.1 := by
      intro a ha
      obtain ⟨j, hj, hja⟩ := List.getElem_of_mem ha
      have hj' : j < k := by rw [List.length_take] at hj; exact om303 hj
      have := h1 j a hj' (by rw [← List.getElem?_take_of_lt hj', List.getElem?_eq_getElem hj, hja])
      unfold lex at this; exact om408 this
    have f2 : ∀ a ∈ P.drop k, e.1 ≤ a.1 := by
      cases hd : P.drop k with
      | nil => simp
      | cons b R =>
        have hb : P[k]? = some b := by rw [← Nat.add_zero k, ← List.getElem?_drop, hd]; rfl
        have := h2 b hb
        rw [hd] at hB
        have hB' := List.pairwise_cons.1 hB
        intro a ha
        have hbe : e.1 ≤ b.1 := by unfold lex at this; exact om407 this
        rcases List.mem_cons.1 ha with rfl | ha
        · exact hbe
        · exact Nat.le_trans hbe (hB'.1 a ha)
    rw [List.pairwise_append]
    refine ⟨hA, List.pairwise_cons.2 ⟨f2, hB⟩, ?_⟩
    intro a ha b hb
    rcases List.mem_cons.1 hb with rfl | hb
    · exact f1 a ha
    · exact hC a ha b hb

theorem c_place {d : Nat} {H : Hp} {t : Nat} {P : List (Nat × Nat)} {e : Nat × Nat} {Q : V → Hp → Prop} (ht : H[t]? = some (.list (P.map pV))) (hl : P.length + 1 < lim)
    (h : ∀ H' P', H'[t]? = some (.list (P'.map pV)) → Kp (fun i => i = t) H H' → PlaceR P e P' → Q .none H') :
    wpCall defs (d + 1) 12 [.ref t, pV e] H Q := by
  refine call_in 2 4 b_place_by_level rfl rfl ?_
  unfold b_place_by_level
  simp only [List.map_cons, List.map_nil, List.cons_append, List.nil_append, List.replicate_succ, List.replicate_zero, b_assign, b_expr, b_ret, b_setSub, b_setAttr, b_unpack, b_aug, b_augSub, b_cont, b_nil, b_comp, zE0, zE1, zE2, zE3, zE4, zE5, zE6, zE7, zE8, zE9, zE10, zE11, zE12, zE13, zE14, zE15, zE16, zE17, zE18, zE19, zE20, zE21, zE22, zE23, zE24, zE25, zE26, zE27, zE28, zE29, zE30, zE31, zE32, zE33, zE34, zE35, zE36, zE37, zE38, may_some, V.ref.injEq, exists_eq_left', St.get, St.put, List.getElem?_cons_zero, List.getElem?_cons_succ, Option.join_some, List.set_cons_succ, List.set_cons_zero]
  rw [b_while]
  refine while_inv (fun m st => ∃ (k : Nat), An4 (st = ⟨[some (.ref t), some (pV e), some (nI k), none], H⟩) (k ≤ P.length) ((∀ (j : Nat) a, j < k → P[j]? = some a → lex a e)) (m = P.length - k)) ?_ _ _ ⟨0, rfl, by exact om11, fun _ _ h => by exact om77 h, rfl⟩
  rintro m st K ⟨k, rfl, hk, hj, rfl⟩ hK
  have fin : (∀ a, P[k]? = some a → ¬ lex a e) → insertV H (.ref t) (nI k) (pV e) = some (H.set t (.list ((P.take k ++ e :: P.drop k).map pV))) ∧ Q .none (H.set t (.list ((P.take k ++ e :: P.drop k).map pV))) := by
    intro h2
    refine ⟨?_, h _ (P.take k ++ e :: P.drop k) (by rw [List.getElem?_set_self (lt_of_get ht)]) (Kp.rfl.set (fun _ => rfl)) (place_ok hk hj h2)⟩
    simp only [insertV, ht]
    rw [if_pos ⟨by exact om21, by simpa using hk, by simp; exact om14 hl⟩]
    simp [List.map_take, List.map_drop]
  simp only [zC0, zC1, zC2, zC3, zC4, zC5, zC6, zC7, zC8, b_assign, b_expr, b_ret, b_setSub, b_setAttr, b_unpack, b_aug, b_augSub, b_cont, b_nil, b_comp, zE0, zE1, zE2, zE3, zE4, zE5, zE6, zE7, zE8, zE9, zE10, zE11, zE12, zE13, zE14, zE15, zE16, zE17, zE18, zE19, zE20, zE21, zE22, zE23, zE24, zE25, zE26, zE27, zE28, zE29, zE30, zE31, zE32, zE33, zE34, zE35, zE36, zE37, zE38, may_some, V.ref.injEq, exists_eq_left', St.get, St.put, List.getElem?_cons_zero, List.getElem?_cons_succ, Option.join_some, List.set_cons_succ, List.set_cons_zero, len_at ht (by exact om14 hl), cmp_lt]
  by_cases e1 : k < P.length
  · obtain ⟨a, ha⟩ : ∃ a, P[k]? = some a := ⟨_, List.getElem?_eq_getElem e1⟩
    simp only [e1, decide_true, if_true, b_assign, b_expr, b_ret, b_setSub, b_setAttr, b_unpack, b_aug, b_augSub, b_cont, b_nil, b_comp, zE0, zE1, zE2, zE3, zE4, zE5, zE6, zE7, zE8, zE9, zE10, zE11, zE12, zE13, zE14, zE15, zE16, zE17, zE18, zE19, zE20, zE21, zE22, zE23, zE24, zE25, zE26, zE27, zE28, zE29, zE30, zE31, zE32, zE33, zE34, zE35, zE36, zE37, zE38, may_some, V.ref.injEq, exists_eq_left', St.get, St.put, List.getElem?_cons_zero, List.getElem?_cons_succ, Option.join_some, List.set_cons_succ, List.set_cons_zero, sub_at ht (by exact om14 hl) ha, cmp_lex]
    by_cases e2 : lex a e
    · simp only [e2, decide_true, if_true, b_assign, b_expr, b_ret, b_setSub, b_setAttr, b_unpack, b_aug, b_augSub, b_cont, b_nil, b_comp, zE0, zE1, zE2, zE3, zE4, zE5, zE6, zE7, zE8, zE9, zE10, zE11, zE12, zE13, zE14, zE15, zE16, zE17, zE18, zE19, zE20, zE21, zE22, zE23, zE24, zE25, zE26, zE27, zE28, zE29, zE30, zE31, zE32, zE33, zE34, zE35, zE36, zE37, zE38, may_some, V.ref.injEq, exists_eq_left', St.get, St.put, List.getElem?_cons_zero, List.getElem?_cons_succ, Option.join_some, List.set_cons_succ, List.set_cons_zero, bi_add1, w_next]
      refine hK (P.length - (k + 1)) _ (by exact om236 e1) ⟨k + 1, rfl, e1, ?_, rfl⟩
      intro j b hjk hb
      by_cases e3 : j < k
      · exact hj j b e3 hb
      · have : j = k := by exact om22 hjk e3
        subst this; rw [ha] at hb; injection hb with hb; exact hb ▸ e2
    · simp only [e2, decide_false, if_false, Bool.false_eq_true]
      obtain ⟨ei, hq⟩ := fin (by intro b hb; rw [ha] at hb; injection hb with hb; exact hb ▸ e2)
      simp only [k_next, b_assign, b_expr, b_ret, b_setSub, b_setAttr, b_unpack, b_aug, b_augSub, b_cont, b_nil, b_comp, zE0, zE1, zE2, zE3, zE4, zE5, zE6, zE7, zE8, zE9, zE10, zE11, zE12, zE13, zE14, zE15, zE16, zE17, zE18, zE19, zE20, zE21, zE22, zE23, zE24, zE25, zE26, zE27, zE28, zE29, zE30, zE31, zE32, zE33, zE34, zE35, zE36, zE37, zE38, may_some, V.ref.injEq, exists_eq_left', St.get, St.put, List.getElem?_cons_zero, List.getElem?_cons_succ, Option.join_some, List.set_cons_succ, List.set_cons_zero, isL_at ht, true_and, ei, Fl.val]
      exact hq
  · simp only [e1, decide_false, if_false, Bool.false_eq_true]
    obtain ⟨ei, hq⟩ := fin (by intro b hb; exact absurd (List.getElem?_eq_some_iff.1 hb).1 e1)
    simp only [k_next, b_assign, b_expr, b_ret, b_setSub, b_setAttr, b_unpack, b_aug, b_augSub, b_cont, b_nil, b_comp, zE0, zE1, zE2, zE3, zE4, zE5, zE6, zE7, zE8, zE9, zE10, zE11, zE12, zE13, zE14, zE15, zE16, zE17, zE18, zE19, zE20, zE21, zE22, zE23, zE24, zE25, zE26, zE27, zE28, zE29, zE30, zE31, zE32, zE33, zE34, zE35, zE36, zE37, zE38, may_some, V.ref.injEq, exists_eq_left', St.get, St.put, List.getElem?_cons_zero, List.getElem?_cons_succ, Option.join_some, List.set_cons_succ, List.set_cons_zero, isL_at ht, true_and, ei, Fl.val]
    exact hq
end Mine
end

-- part C5
section
set_option Elab.async false
set_option linter.unusedVariables false
set_option linter.unusedSimpArgs false
namespace Mine

theorem popAt_at {H : Hp} {n : Nat} {a : Nat × Nat} {R : List (Nat × Nat)} (h : H[n]? = some (.list ((a :: R).map pV))) (hl : (a :: R).length < lim) :
    popAtV H (.ref n) (.int 0) = some (pV a, H.set n (.list (R.map pV))) := by
  have : ((a :: R).map pV).length < lim := by simpa using hl
  simp only [popAtV, h]
  rw [if_pos ⟨by exact om548, this⟩]; simp

theorem cmp_gt1 {H : Hp} {a : Nat} : cmpV H .gt (nI a) (.int 1) = some (decide (1 < a)) := by simp [cmpV, cmpI]; exact om537
theorem cmp_gt0 {H : Hp} {a : Nat} : cmpV H .gt (nI a) (.int 0) = some (decide (0 < a)) := by simp [cmpV, cmpI]
theorem sub_at0 {H : Hp} {n : Nat} {α : Type} {f : α → V} {xs : List α} (h : H[n]? = some (.list (xs.map f))) (hl : xs.length < lim) {x : α} (hk : xs[0]? = some x) : subV H (.ref n) (.int 0) = some (f x) := sub_at h hl hk
noncomputable def dget (ds : List Nat) (l : Nat) : Nat := (ds[l / 2]?).getD 0
theorem dget_eq {ds : List Nat} {l : Nat} (h : l / 2 < ds.length) : ds[l / 2]? = some (dget ds l) := by
  unfold dget; rw [List.getElem?_eq_getElem h]; rfl

theorem c_join {d : Nat} {H : Hp} {f dp lt : Nat} {F : Gr} {ds lits : List Nat} {Q : V → Hp → Prop} (J : Nds → List Nat → List (Nat × Nat) → Prop)
    (hF : IsG H f F) (hdp : H[dp]? = some (.list (ds.map nI))) (hlt : H[lt]? = some (.list (lits.map nI))) (hs1 : ¬ gr f dp) (hll : lits.length + 2 < lim) (hdl : ds.length < lim)
    (hin : ∀ l, l ∈ lits → l / 2 < ds.length)
    (start : ∀ P, P.Perm (lits.map fun l => (dget ds l, l)) → Srt P → J F.ns ds P)
    (bnd : ∀ ns ds P, J ns ds P → ns.length < lim ∧ ds.length + 1 < lim ∧ P.length + 1 < lim ∧ P ≠ [])
    (step : ∀ ns ds a b R, J ns ds (a :: b :: R) → ∀ ns' res, LandR ns a.2 b.2 ns' res → ∀ ds', ds' = (if res / 2 = ds.length then ds ++ [1 + b.1] else ds) →
      ∃ dd, ds'[res / 2]? = some dd ∧ ∀ P', PlaceR R (dd, res) P' → J ns' ds' P')
    (fin : ∀ ns ds p, J ns ds [p] → ∀ H', IsG H' f ⟨ns, F.ins, F.outs⟩ → H'[dp]? = some (.list (ds.map nI)) → Kp (fun i => gr f i ∨ i = dp) H H' → Q (nI p.2) H') :
    wpCall defs (d + 2) 13 [.obj f, .ref dp, .ref lt] H Q := by
  refine call_in 3 11 b_join_balanced rfl rfl ?_
  unfold b_join_balanced
  have hlt' := hF.lt
  have hdpl := lt_of_get hdp
  rw [b_assign]
  simp only [zE0, zE1, zE2, zE3, zE4, zE5, zE6, zE7, zE8, zE9, zE10, zE11, zE12, zE13, zE14, zE15, zE16, zE17, zE18, zE19, zE20, zE21, zE22, zE23, zE24, zE25, zE26, zE27, zE28, zE29, zE30, zE31, zE32, zE33, zE34, zE35, zE36, zE37, zE38, alloc, List.map_cons, List.map_nil, List.cons_append, List.nil_append, List.replicate_succ, List.replicate_zero, St.get, St.put, List.getElem?_cons_zero, List.getElem?_cons_succ, Option.join_some, List.set_cons_succ, List.set_cons_zero]
  obtain ⟨H1, hH1⟩ : ∃ H1, H1 = H ++ [.list []] := ⟨_, rfl⟩
  have k1 : Kp no H H1 := hH1 ▸ Kp.app Kp.rfl _
  have h1 : H1[H.length]? = some (.list []) := by rw [hH1]; simp
  rw [← hH1, b_for]
  simp only [wpI, b_assign, b_expr, b_ret, b_setSub, b_setAttr, b_unpack, b_aug, b_augSub, b_cont, b_nil, b_comp, zE0, zE1, zE2, zE3, zE4, zE5, zE6, zE7, zE8, zE9, zE10, zE11, zE12, zE13, zE14, zE15, zE16, zE17, zE18, zE19, zE20, zE21, zE22, zE23, zE24, zE25, zE26, zE27, zE28, zE29, zE30, zE31, zE32, zE33, zE34, zE35, zE36, zE37, zE38, may_some, V.ref.injEq, exists_eq_left', St.get, St.put, List.getElem?_cons_zero, List.getElem?_cons_succ, Option.join_some, List.set_cons_succ, List.set_cons_zero]
  refine ⟨_, k1.get hlt (fun h => h), by simp; exact om212 hll, for_inv (fun k st => Ex3 fun (o4 : Option V) (H2 : Hp) (P : List (Nat × Nat)) => An5 (st = ⟨[some (.obj f), some (.ref dp), some (.ref lt), some (.ref H.length), o4, none, none, none, none, none, none], H2⟩) (Kp no H H2) (H2[H.length]? = some (.list (P.map pV))) (P.Perm ((lits.take k).map fun l => (dget ds l, l))) (Srt P)) ?_ ?_ ?_ ?_⟩
  · exact ⟨_, _, [], rfl, k1, h1, by simp, List.Pairwise.nil⟩
  · rintro k st ⟨o4, H2, P, rfl, k2, _⟩
    exact k2.get hlt (fun h => h)
  · rintro k v st K hv ⟨o4, H2, P, rfl, k2, h2, hP, hS⟩ kn kc kr
    obtain ⟨l, hkl, rfl⟩ := map_at hv
    have hPl := hP.length_eq
    simp at hPl
    have hlm := hin l (mem_at hkl)
    simp only [b_assign, b_expr, b_ret, b_setSub, b_setAttr, b_unpack, b_aug, b_augSub, b_cont, b_nil, b_comp, zE0, zE1, zE2, zE3, zE4, zE5, zE6, zE7, zE8, zE9, zE10, zE11, zE12, zE13, zE14, zE15, zE16, zE17, zE18, zE19, zE20, zE21, zE22, zE23, zE24, zE25, zE26, zE27, zE28, zE29, zE30, zE31, zE32, zE33, zE34, zE35, zE36, zE37, zE38, may_some, V.ref.injEq, exists_eq_left', St.get, St.put, List.getElem?_cons_zero, List.getElem?_cons_succ, Option.join_some, List.set_cons_succ, List.set_cons_zero, bi_shr, sub_at (k2.get hdp (fun h => h)) hdl (dget_eq hlm)]
    refine c_place (P := P) (e := (dget ds l, l)) h2 (by exact om361 hll hPl) ?_
    intro H3 P' h3 k3 hp
    refine ⟨rfl, kn _ ⟨_, _, P', rfl, k2.trans k3 (by intro i h1 h2; exact om166 h1 h2), h3, ?_, hp.srt hS⟩⟩
    rw [List.take_add_one, hkl]
    simp only [Option.toList, List.map_append, List.map_cons, List.map_nil]
    exact hp.perm.trans ((hP.cons _).trans (List.perm_append_singleton _ _).symm)
  · rintro st ⟨o4, H2, P, rfl, k2, h2, hP, hS⟩
    rw [List.length_map, List.take_of_length_le (Nat.le_refl _)] at hP
    have hJ := start P hP hS
    rw [k_next, b_while]
    refine while_inv (fun m st => Ex8 fun (o5 o6 o7 o8 : Option V) (H2 : Hp) (ns : Nds) (ds : List Nat) (P : List (Nat × Nat)) => An7 (st = ⟨[some (.obj f), some (.ref dp), some (.ref lt), some (.ref H.length), o4, o5, o6, o7, o8, none, none], H2⟩) (Kp (fun i => gr f i ∨ i = dp) H H2) (IsG H2 f ⟨ns, F.ins, F.outs⟩) (H2[dp]? = some (.list (ds.map nI))) (H2[H.length]? = some (.list (P.map pV))) (J ns ds P) (m = P.length)) ?_ _ _
      ⟨_, _, _, _, H2, F.ns, ds, P, rfl, k2.mono (fun _ _ h => h.elim), hF.kp0 k2, k2.get hdp (fun h => h), h2, hJ, rfl⟩
    rintro m st K ⟨o5, o6, o7, o8, H2, ns, ds, P, rfl, k2, hG2, hd2, h2, hJ, rfl⟩ hK
    obtain ⟨b1, b2, b3, b4⟩ := bnd _ _ _ hJ
    simp only [zC0, zC1, zC2, zC3, zC4, zC5, zC6, zC7, zC8, b_assign, b_expr, b_ret, b_setSub, b_setAttr, b_unpack, b_aug, b_augSub, b_cont, b_nil, b_comp, zE0, zE1, zE2, zE3, zE4, zE5, zE6, zE7, zE8, zE9, zE10, zE11, zE12, zE13, zE14, zE15, zE16, zE17, zE18, zE19, zE20, zE21, zE22, zE23, zE24, zE25, zE26, zE27, zE28, zE29, zE30, zE31, zE32, zE33, zE34, zE35, zE36, zE37, zE38, may_some, V.ref.injEq, exists_eq_left', St.get, St.put, List.getElem?_cons_zero, List.getElem?_cons_succ, Option.join_some, List.set_cons_succ, List.set_cons_zero, len_at h2 (by exact om14 b3), cmp_gt1]
    match P, b4 with
    | [p], _ =>
      simp only [List.length_cons, List.length_nil, Nat.zero_add, Nat.lt_irrefl, decide_false, if_false, Bool.false_eq_true, k_next]
      simp only [b_assign, b_expr, b_ret, b_setSub, b_setAttr, b_unpack, b_aug, b_augSub, b_cont, b_nil, b_comp, zE0, zE1, zE2, zE3, zE4, zE5, zE6, zE7, zE8, zE9, zE10, zE11, zE12, zE13, zE14, zE15, zE16, zE17, zE18, zE19, zE20, zE21, zE22, zE23, zE24, zE25, zE26, zE27, zE28, zE29, zE30, zE31, zE32, zE33, zE34, zE35, zE36, zE37, zE38, may_some, V.ref.injEq, exists_eq_left', St.get, St.put, List.getElem?_cons_zero, List.getElem?_cons_succ, Option.join_some, List.set_cons_succ, List.set_cons_zero, sub_at0 h2 (by exact om14 b3) (show [p][0]? = some p from rfl)]
      simp only [pV, subP1, b_assign, b_expr, b_ret, b_setSub, b_setAttr, b_unpack, b_aug, b_augSub, b_cont, b_nil, b_comp, zE0, zE1, zE2, zE3, zE4, zE5, zE6, zE7, zE8, zE9, zE10, zE11, zE12, zE13, zE14, zE15, zE16, zE17, zE18, zE19, zE20, zE21, zE22, zE23, zE24, zE25, zE26, zE27, zE28, zE29, zE30, zE31, zE32, zE33, zE34, zE35, zE36, zE37, zE38, may_some, V.ref.injEq, exists_eq_left', St.get, St.put, List.getElem?_cons_zero, List.getElem?_cons_succ, Option.join_some, List.set_cons_succ, List.set_cons_zero, Fl.val]
      exact fin _ _ _ hJ _ hG2 hd2 k2
    | a :: b :: R, _ =>
      have e : decide (1 < (a :: b :: R).length) = true := by simp
      simp only [e, if_true]
      simp only [List.length_cons] at b3
      simp only [b_assign, b_expr, b_ret, b_setSub, b_setAttr, b_unpack, b_aug, b_augSub, b_cont, b_nil, b_comp, zE0, zE1, zE2, zE3, zE4, zE5, zE6, zE7, zE8, zE9, zE10, zE11, zE12, zE13, zE14, zE15, zE16, zE17, zE18, zE19, zE20, zE21, zE22, zE23, zE24, zE25, zE26, zE27, zE28, zE29, zE30, zE31, zE32, zE33, zE34, zE35, zE36, zE37, zE38, may_some, V.ref.injEq, exists_eq_left', St.get, St.put, List.getElem?_cons_zero, List.getElem?_cons_succ, Option.join_some, List.set_cons_succ, List.set_cons_zero, isL_at h2, true_and, popAt_at h2 (by simp; exact om14 b3)]
      have h3 : (H2.set H.length (.list ((b :: R).map pV)))[H.length]? = some (.list ((b :: R).map pV)) := by rw [List.getElem?_set_self (lt_of_get h2)]
      have q3 : Kp (fun i => i = H.length) H2 (H2.set H.length (.list ((b :: R).map pV))) := Kp.rfl.set (fun _ => rfl)
      have k3 := k2.trans q3 (by intro i h1 h2; exact om56 h1 h2)
      have hG3 := hG2.kp q3 (by intro i h1 h2 h3; exact om28 hlt' h3 h2)
      have hd3 := q3.get hd2 (by exact om13 hdpl)
      generalize H2.set H.length (.list ((b :: R).map pV)) = H3 at *
      simp only [b_assign, b_expr, b_ret, b_setSub, b_setAttr, b_unpack, b_aug, b_augSub, b_cont, b_nil, b_comp, zE0, zE1, zE2, zE3, zE4, zE5, zE6, zE7, zE8, zE9, zE10, zE11, zE12, zE13, zE14, zE15, zE16, zE17, zE18, zE19, zE20, zE21, zE22, zE23, zE24, zE25, zE26, zE27, zE28, zE29, zE30, zE31, zE32, zE33, zE34, zE35, zE36, zE37, zE38, may_some, V.ref.injEq, exists_eq_left', St.get, St.put, List.getElem?_cons_zero, List.getElem?_cons_succ, Option.join_some, List.set_cons_succ, List.set_cons_zero, isL_at h3, true_and, popAt_at h3 (by simp; exact om86 b3)]
      have h4 : (H3.set H.length (.list (R.map pV)))[H.length]? = some (.list (R.map pV)) := by rw [List.getElem?_set_self (lt_of_get h3)]
      have q4 : Kp (fun i => i = H.length) H3 (H3.set H.length (.list (R.map pV))) := Kp.rfl.set (fun _ => rfl)
      have k4 := k3.trans q4 (by intro i h1 h2; exact om56 h1 h2)
      have hG4 := hG3.kp q4 (by intro i h1 h2 h3; exact om28 hlt' h3 h2)
      have hd4 := q4.get hd3 (by exact om13 hdpl)
      generalize H3.set H.length (.list (R.map pV)) = H4 at *
      simp only [b_assign, b_expr, b_ret, b_setSub, b_setAttr, b_unpack, b_aug, b_augSub, b_cont, b_nil, b_comp, zE0, zE1, zE2, zE3, zE4, zE5, zE6, zE7, zE8, zE9, zE10, zE11, zE12, zE13, zE14, zE15, zE16, zE17, zE18, zE19, zE20, zE21, zE22, zE23, zE24, zE25, zE26, zE27, zE28, zE29, zE30, zE31, zE32, zE33, zE34, zE35, zE36, zE37, zE38, may_some, V.ref.injEq, exists_eq_left', St.get, St.put, List.getElem?_cons_zero, List.getElem?_cons_succ, Option.join_some, List.set_cons_succ, List.set_cons_zero, pV, subP0, subP1, isO_at hG4, true_and]
      refine c_land hG4 b1 ?_
      intro H5 ns' res hL hG5 q5 hl5
      have k5 := k4.trans q5 (by intro i h1 h2; exact Or.inl h2)
      have h5 := q5.get h4 (by unfold gr; exact om72 hlt')
      have hd5 := q5.get hd4 hs1
      obtain ⟨dd, hdd, hJ'⟩ := step _ _ _ _ _ hJ _ _ hL _ rfl
      simp only [b_assign, b_expr, b_ret, b_setSub, b_setAttr, b_unpack, b_aug, b_augSub, b_cont, b_nil, b_comp, zE0, zE1, zE2, zE3, zE4, zE5, zE6, zE7, zE8, zE9, zE10, zE11, zE12, zE13, zE14, zE15, zE16, zE17, zE18, zE19, zE20, zE21, zE22, zE23, zE24, zE25, zE26, zE27, zE28, zE29, zE30, zE31, zE32, zE33, zE34, zE35, zE36, zE37, zE38, may_some, V.ref.injEq, exists_eq_left', St.get, St.put, List.getElem?_cons_zero, List.getElem?_cons_succ, Option.join_some, List.set_cons_succ, List.set_cons_zero, b_ite, zC0, zC1, zC2, zC3, zC4, zC5, zC6, zC7, zC8, bi_shr, len_at hd5 (by exact om14 b2), cmp_eq]
      have tail : ∀ (H6 : Hp) (K2 : Fl → St → Prop), (∀ st, K st → K2 .next st) → Kp (fun i => gr f i ∨ i = dp) H H6 → IsG H6 f ⟨ns', F.ins, F.outs⟩ → H6[dp]? = some (.list ((if res / 2 = ds.length then ds ++ [1 + b.1] else ds).map nI)) → H6[H.length]? = some (.list (R.map pV)) →
          may (subV H6 (.ref dp) (nI (res / 2))) fun w => wpCall defs (d + 1) 12 [.ref H.length, w.pair (nI res)] H6 fun v h => v = .none ∧ K2 .next ⟨[some (.obj f), some (.ref dp), some (.ref lt), some (.ref H.length), o4, some (.pair (nI a.1) (nI a.2)), some (.pair (nI b.1) (nI b.2)), some (nI res), some (nI (res / 2)), none, none], h⟩ := by
        intro H6 K2 hK2 k6 hG6 hd6 h6
        have hdl' : (if res / 2 = ds.length then ds ++ [1 + b.1] else ds).length < lim := by split <;> (try simp only [List.length_append, List.length_cons, List.length_nil]) <;> (first | exact om565 b2 | exact om14 b2)
        simp only [b_assign, b_expr, b_ret, b_setSub, b_setAttr, b_unpack, b_aug, b_augSub, b_cont, b_nil, b_comp, zE0, zE1, zE2, zE3, zE4, zE5, zE6, zE7, zE8, zE9, zE10, zE11, zE12, zE13, zE14, zE15, zE16, zE17, zE18, zE19, zE20, zE21, zE22, zE23, zE24, zE25, zE26, zE27, zE28, zE29, zE30, zE31, zE32, zE33, zE34, zE35, zE36, zE37, zE38, may_some, V.ref.injEq, exists_eq_left', St.get, St.put, List.getElem?_cons_zero, List.getElem?_cons_succ, Option.join_some, List.set_cons_succ, List.set_cons_zero, sub_at hd6 hdl' hdd]
        refine c_place (P := R) (e := (dd, res)) h6 (by exact om86 b3) ?_
        intro H7 P' h7 q7 hp
        refine ⟨rfl, ?_⟩
        have := hp.perm.length_eq
        apply hK2
        exact hK P'.length _ (by simp at this ⊢; exact om263 this) ⟨_, _, _, _, H7, ns', _, P', rfl, k6.trans q7 (by intro i h1 h2; exact om56 h1 h2), hG6.kp q7 (by intro i h1 h2 h3; exact om28 hlt' h3 h2), q7.get hd6 (by exact om13 hdpl), h7, hJ' P' hp, rfl⟩
      by_cases en : res / 2 = ds.length
      · simp only [en, decide_true, if_true, b_assign, b_expr, b_ret, b_setSub, b_setAttr, b_unpack, b_aug, b_augSub, b_cont, b_nil, b_comp, zE0, zE1, zE2, zE3, zE4, zE5, zE6, zE7, zE8, zE9, zE10, zE11, zE12, zE13, zE14, zE15, zE16, zE17, zE18, zE19, zE20, zE21, zE22, zE23, zE24, zE25, zE26, zE27, zE28, zE29, zE30, zE31, zE32, zE33, zE34, zE35, zE36, zE37, zE38, may_some, V.ref.injEq, exists_eq_left', St.get, St.put, List.getElem?_cons_zero, List.getElem?_cons_succ, Option.join_some, List.set_cons_succ, List.set_cons_zero, isL_at hd5, true_and, pV, subP0, bi_1add, app_at hd5 (by exact om14 b2) (1 + b.1) rfl, k_next]
        rw [← en]
        have hl6 := lt_of_get hd5
        refine tail _ (wk K _) (fun _ h => h) (k5.set (fun _ => Or.inr rfl)) (hG5.kp (Kp.set (S := fun i => i = dp) Kp.rfl (fun _ => rfl)) (by intro i h1 h2 h3; subst h3; exact hs1 ⟨h1, h2⟩)) ?_ ?_
        · rw [if_pos en, List.getElem?_set_self hl6]
        · rw [List.getElem?_set_ne (by exact om33 hdpl)]; exact h5
      · simp only [en, decide_false, if_false, Bool.false_eq_true, k_next, b_assign, b_expr, b_ret, b_setSub, b_setAttr, b_unpack, b_aug, b_augSub, b_cont, b_nil, b_comp, zE0, zE1, zE2, zE3, zE4, zE5, zE6, zE7, zE8, zE9, zE10, zE11, zE12, zE13, zE14, zE15, zE16, zE17, zE18, zE19, zE20, zE21, zE22, zE23, zE24, zE25, zE26, zE27, zE28, zE29, zE30, zE31, zE32, zE33, zE34, zE35, zE36, zE37, zE38, may_some, V.ref.injEq, exists_eq_left', St.get, St.put, List.getElem?_cons_zero, List.getElem?_cons_succ, Option.join_some, List.set_cons_succ, List.set_cons_zero]
        exact tail _ (wk K _) (fun _ h => h) k5 hG5 (by rw [if_neg en]; exact hd5) h5
end Mine
end

-- part L1
section
set_option Elab.async false
set_option linter.unusedVariables false
set_option linter.unusedSimpArgs false
namespace Mine

theorem xor1 (x : Nat) : (x ^^^ 1) / 2 = x / 2 ∧ (x ^^^ 1) % 2 = (x + 1) % 2 := by
  refine ⟨?_, ?_⟩
  · rw [Nat.xor_div_two]; simp
  · have h := @Nat.xor_mod_two_pow x 1 1
    simp only [Nat.pow_one] at h
    rw [h]; rcases Nat.mod_two_eq_zero_or_one x with e | e <;> simp [e, Nat.add_mod]
theorem xorm (x l : Nat) : (x ^^^ (l % 2)) / 2 = x / 2 ∧ (x ^^^ (l % 2)) % 2 = (x + l) % 2 := by
  rcases Nat.mod_two_eq_zero_or_one l with e | e
  · rw [e, Nat.xor_zero]; exact om327 e
  · rw [e]; have := xor1 x; exact om431 e this.2 this.1

/-- the value of a literal -/
noncomputable def lv (v : Nat → Bool) (l : Nat) : Bool := Bool.xor (v (l / 2)) (decide (l % 2 = 1))
theorem lv_moved (v : Nat → Bool) (x l : Nat) : lv v (x ^^^ (l % 2)) = Bool.xor (lv v x) (decide (l % 2 = 1)) := by
  have := xorm x l
  unfold lv; rw [this.1, this.2]
  rcases Nat.mod_two_eq_zero_or_one l with e | e <;> rcases Nat.mod_two_eq_zero_or_one x with e' | e' <;> simp [e, e', Nat.add_mod]

structure Val (ns : Nds) (v : Nat → Bool) : Prop where
  zero : v 0 = false
  and : ∀ i l r, ns[i]? = some (some (l, r)) → v i = (lv v l && lv v r)

noncomputable def Pre (ns ns' : Nds) : Prop := ∃ t, ns' = ns ++ t
theorem Pre.rfl {ns : Nds} : Pre ns ns := ⟨[], by simp⟩
theorem Pre.get {ns ns' : Nds} (h : Pre ns ns') {i : Nat} {x} (hx : ns[i]? = some x) : ns'[i]? = some x := by
  obtain ⟨t, rfl⟩ := h
  rw [List.getElem?_append_left (List.getElem?_eq_some_iff.1 hx).1]; exact hx
theorem Pre.trans {a b c : Nds} (h : Pre a b) (h' : Pre b c) : Pre a c := by
  obtain ⟨t, rfl⟩ := h; obtain ⟨u, rfl⟩ := h'; exact ⟨t ++ u, by simp⟩
theorem Pre.len {a b : Nds} (h : Pre a b) : a.length ≤ b.length := by obtain ⟨t, rfl⟩ := h; simp
theorem Pre.back {ns ns' : Nds} (h : Pre ns ns') {i : Nat} {x} (hi : i < ns.length) (hx : ns'[i]? = some x) : ns[i]? = some x := by
  obtain ⟨t, rfl⟩ := h
  rwa [List.getElem?_append_left hi] at hx
theorem Val.pre {ns ns' : Nds} {v} (h : Val ns' v) (p : Pre ns ns') : Val ns v := ⟨h.zero, fun i l r hi => h.and i l r (p.get hi)⟩
theorem Closed.pre {ns ns' : Nds} {U} (h : Closed ns' U) (p : Pre ns ns') : Closed ns U := fun i l r hi => h i l r (p.get hi)

structure WG (n : Nat) (ns : Nds) : Prop where
  base : ∀ i, i ≤ n → ns[i]? = some none
  and : ∀ i, n < i → i < ns.length → ∃ l r, ns[i]? = some (some (l, r))
  ok : ∀ i l r, ns[i]? = some (some (l, r)) → 0 < l / 2 ∧ l / 2 < r / 2 ∧ r / 2 < i
  uq : ∀ (i j : Nat) p, ns[i]? = some (some p) → ns[j]? = some (some p) → i = j
theorem WG.low {n : Nat} {ns : Nds} (h : WG n ns) : Low ns := fun i l r hi => by have := h.ok i l r hi; exact om312 this.2.1 this.2.2
theorem WG.len {n : Nat} {ns : Nds} (h : WG n ns) : n < ns.length := (List.getElem?_eq_some_iff.1 (h.base n (Nat.le_refl n))).1
theorem WG.G0 {n : Nat} : WG n (G0 n).ns := by
  refine ⟨?_, ?_, ?_, ?_⟩
  · intro i hi; simp only [Mine.G0]; rw [List.getElem?_replicate, if_pos (by exact om104 hi)]
  · intro i hi h2; simp [Mine.G0] at h2; exact om78 h2 hi
  · intro i l r hi; simp only [Mine.G0] at hi; rw [List.getElem?_replicate] at hi; split at hi <;> simp at hi
  · intro i j p hi; simp only [Mine.G0] at hi; rw [List.getElem?_replicate] at hi; split at hi <;> simp at hi

theorem app_get {ns : Nds} {x : Option (Nat × Nat)} {i : Nat} {y} (h : (ns ++ [x])[i]? = some y) : ns[i]? = some y ∨ (i = ns.length ∧ y = x) := by
  by_cases hi : i < ns.length
  · rw [List.getElem?_append_left hi] at h; exact Or.inl h
  · rw [List.getElem?_append_right (by exact om12 hi)] at h
    have : i - ns.length = 0 := by
      have := (List.getElem?_eq_some_iff.1 h).1; simp at this; exact om491 this
    rw [this] at h; simp at h
    exact Or.inr ⟨by exact om249 this hi, h.symm⟩

theorem WG.snoc {n : Nat} {ns : Nds} (h : WG n ns) {l r : Nat} (h0 : 0 < l / 2) (h1 : l / 2 < r / 2) (h2 : r / 2 < ns.length) (h3 : ∀ i : Nat, ns[i]? ≠ some (some (l, r))) : WG n (ns ++ [some (l, r)]) := by
  have hp : Pre ns (ns ++ [some (l, r)]) := ⟨_, rfl⟩
  have hl := h.len
  refine ⟨fun i hi => hp.get (h.base i hi), ?_, ?_, ?_⟩
  · intro i hi hi2
    by_cases e : i < ns.length
    · obtain ⟨a, b, hab⟩ := h.and i hi e; exact ⟨a, b, hp.get hab⟩
    · simp at hi2
      have : i = ns.length := by exact om22 hi2 e
      subst this; exact ⟨l, r, by simp⟩
  · intro i a b hi
    rcases app_get hi with hi | ⟨rfl, e⟩
    · exact h.ok i a b hi
    · injection e with e; injection e with e1 e2; subst e1; subst e2; exact ⟨h0, h1, h2⟩
  · intro i j p hi hj
    rcases app_get hi with hi | ⟨rfl, e⟩ <;> rcases app_get hj with hj | ⟨rfl, e'⟩
    · exact h.uq i j p hi hj
    · injection e' with e'; subst e'; exact absurd hi (h3 i)
    · injection e with e; subst e; exact absurd hj (h3 j)
    · rfl

/-- what land does, as the law needs it -/
theorem land_cases {n : Nat} {ns ns' : Nds} {x y res : Nat} (hw : WG n ns) (hx : x / 2 < ns.length) (hy : y / 2 < ns.length) (h : LandR ns x y ns' res) :
    (ns' = ns ∧ res / 2 < ns.length ∧ (∀ v, Val ns v → lv v res = (lv v x && lv v y)) ∧
      (res / 2 = 0 ∨ res / 2 = x / 2 ∨ res / 2 = y / 2 ∨ ∃ l r, ns[res / 2]? = some (some (l, r)) ∧ ((l = x ∧ r = y) ∨ (l = y ∧ r = x))) ∧
      (x / 2 ≠ y / 2 → 0 < x / 2 → 0 < y / 2 → ∃ (i l r : Nat), ns[i]? = some (some (l, r)) ∧ ((l = x ∧ r = y) ∨ (l = y ∧ r = x))))
    ∨ (∃ l r, ((l = x ∧ r = y) ∨ (l = y ∧ r = x)) ∧ ns' = ns ++ [some (l, r)] ∧ res = 2 * ns.length ∧ 0 < l / 2 ∧ l / 2 < r / 2 ∧ ∀ i : Nat, ns[i]? ≠ some (some (l, r))) := by
  unfold LandR at h
  obtain ⟨lo, hi, hlh, hle, elo, ehi⟩ : ∃ lo hi, ((lo = x ∧ hi = y) ∨ (lo = y ∧ hi = x)) ∧ lo ≤ hi ∧ min x y = lo ∧ max x y = hi := by
    by_cases e : x ≤ y
    · exact ⟨x, y, Or.inl ⟨rfl, rfl⟩, e, Nat.min_eq_left e, Nat.max_eq_right e⟩
    · exact ⟨y, x, Or.inr ⟨rfl, rfl⟩, by exact om66 e, Nat.min_eq_right (by exact om66 e), Nat.max_eq_left (by exact om66 e)⟩
  rw [elo, ehi] at h
  have hlp := hw.len
  have hlo : lo / 2 < ns.length := by exact om396 elo hy
  have hhi : hi / 2 < ns.length := by exact om394 ehi hx hy
  have sw : ∀ v, (lv v x && lv v y) = (lv v lo && lv v hi) := by
    intro v; rcases hlh with ⟨rfl, rfl⟩ | ⟨rfl, rfl⟩
    · rfl
    · exact Bool.and_comm _ _
  have hx1 := xor1 hi
  have strict : ¬ (lo = 0 ∨ lo = hi ^^^ 1) → ¬ (lo = 1 ∨ lo = hi) → 0 < lo / 2 ∧ lo / 2 < hi / 2 := by
    intro h1 h2
    refine ⟨by exact om356 h1 h2, ?_⟩
    apply Nat.lt_of_not_le
    intro h3
    have : lo / 2 = hi / 2 := by exact om395 ehi elo h3
    exact om326 hx1.2 hx1.1 this h1 h2
  cases h with
  | zero h =>
    left
    refine ⟨rfl, by exact om237 hlp, ?_, Or.inl rfl, ?_⟩
    · intro v hv
      rw [sw]
      rcases h with rfl | rfl
      · simp [lv, hv.zero]
      · unfold lv; rw [hx1.1, hx1.2]
        rcases Nat.mod_two_eq_zero_or_one hi with e | e <;> simp [e, hv.zero, Nat.add_mod]
    · intro h1 h2 h3; exfalso; exact om436 elo ehi hx1.1 h h1 h2 h3
  | same h0 h =>
    left
    refine ⟨rfl, hhi, ?_, by exact om171 ehi, ?_⟩
    · intro v hv
      rw [sw]
      rcases h with rfl | rfl
      · simp [lv, hv.zero]
      · simp
    · intro h1 h2 h3; exfalso; exact om413 hlh h h1 h2 h3
  | old h0 h1 i h =>
    left
    have e : 2 * i / 2 = i := by exact om6
    refine ⟨rfl, by rw [e]; exact (List.getElem?_eq_some_iff.1 h).1, ?_, ?_, ?_⟩
    · intro v hv
      rw [sw, ← hv.and i _ _ h]; unfold lv; rw [e]; simp
    · rw [e]; exact Or.inr (Or.inr (Or.inr ⟨lo, hi, h, hlh⟩))
    · intro _ _ _; exact ⟨i, lo, hi, h, hlh⟩
  | new h0 h1 h =>
    right
    have := strict h0 h1
    exact ⟨lo, hi, hlh, rfl, rfl, this.1, this.2, h⟩

noncomputable def dep (ds : List Nat) (i : Nat) : Nat := (ds[i]?).getD 0
theorem dget_dep {ds : List Nat} {l : Nat} : dget ds l = dep ds (l / 2) := rfl
structure Dep (ns : Nds) (ds : List Nat) : Prop where
  len : ds.length = ns.length
  none : ∀ i : Nat, ns[i]? = some none → dep ds i = 0
  and : ∀ i l r, ns[i]? = some (some (l, r)) → dep ds i = 1 + max (dep ds (l / 2)) (dep ds (r / 2))
theorem dep_app {ds : List Nat} {x i : Nat} (h : i < ds.length) : dep (ds ++ [x]) i = dep ds i := by
  unfold dep; rw [List.getElem?_append_left h]
theorem dep_last {ds : List Nat} {x : Nat} : dep (ds ++ [x]) ds.length = x := by
  unfold dep; simp
theorem Dep.snoc {n : Nat} {ns : Nds} {ds : List Nat} (h : Dep ns ds) (hw : WG n ns) {l r x : Nat} (hl : l / 2 < ns.length) (hr : r / 2 < ns.length) (hx : x = 1 + max (dep ds (l / 2)) (dep ds (r / 2))) :
    Dep (ns ++ [some (l, r)]) (ds ++ [x]) := by
  have hlen := h.len
  refine ⟨by simp [hlen], ?_, ?_⟩
  · intro i hi
    rcases app_get hi with hi | ⟨_, e⟩
    · rw [dep_app (by rw [hlen]; exact (List.getElem?_eq_some_iff.1 hi).1)]; exact h.none i hi
    · cases e
  · intro i a b hi
    rcases app_get hi with hi | ⟨e1, e⟩
    · have h1 := (List.getElem?_eq_some_iff.1 hi).1
      have := hw.ok i a b hi
      rw [dep_app (by exact om0 h1 hlen), dep_app (by exact om424 this.2.1 this.2.2 h1 hlen), dep_app (by exact om29 this.2.2 h1 hlen)]; exact h.and i a b hi
    · injection e with e; injection e with e2 e3; subst e2; subst e3
      rw [e1, ← hlen, dep_last, dep_app (by exact om0 hl hlen), dep_app (by exact om0 hr hlen), hx]
end Mine
end

-- part L2
section
set_option Elab.async false
set_option linter.unusedVariables false
set_option linter.unusedSimpArgs false
namespace Mine

/-- the sum of the powers -/
noncomputable def pw (xs : List Nat) : Nat := (xs.map (2 ^ ·)).sum
theorem pw_cons {x : Nat} {xs : List Nat} : pw (x :: xs) = 2 ^ x + pw xs := by simp [pw]
theorem pw_perm {xs ys : List Nat} (h : xs.Perm ys) : pw xs = pw ys := (h.map _).sum_nat

theorem pw_mul {b : Nat} : ∀ {xs : List Nat}, (∀ x, x ∈ xs → b ≤ x) → ∃ m, pw xs = m * 2 ^ b
  | [], _ => ⟨0, by simp [pw]⟩
  | x :: xs, h => by
    obtain ⟨m, hm⟩ := pw_mul (xs := xs) (fun y hy => h y (List.mem_cons_of_mem _ hy))
    have hx := h x (List.mem_cons_self ..)
    refine ⟨2 ^ (x - b) + m, ?_⟩
    rw [pw_cons, hm, Nat.add_mul, ← Nat.pow_add, Nat.sub_add_cancel hx]

theorem kraft {a b c D : Nat} {R : List Nat} (hab : a ≤ b) (hR : ∀ x, x ∈ R → b ≤ x) (h : pw (a :: b :: R) ≤ 2 ^ D) (hc : c ≤ b + 1) : pw (c :: R) ≤ 2 ^ D := by
  obtain ⟨m, hm⟩ := pw_mul hR
  rw [pw_cons, pw_cons, hm] at h
  rw [pw_cons, hm]
  have ha : 0 < 2 ^ a := Nat.two_pow_pos a
  have hbD : b < D := by
    apply Nat.lt_of_not_le; intro hD
    have := Nat.pow_le_pow_right (n := 2) (by exact om3) hD
    have h0 : 0 ≤ m * 2 ^ b := Nat.zero_le _
    exact om403 h ha this
  have hc' : 2 ^ c ≤ 2 * 2 ^ b := by
    have := Nat.pow_le_pow_right (n := 2) (by exact om3) hc
    rw [Nat.pow_succ] at this; exact om277 this
  have hD : 2 ^ D = 2 ^ (D - b) * 2 ^ b := by rw [← Nat.pow_add, Nat.sub_add_cancel (Nat.le_of_lt hbD)]
  have hq : m + 1 < 2 ^ (D - b) := by
    apply Nat.lt_of_not_le; intro hq
    have := Nat.mul_le_mul_right (2 ^ b) hq
    rw [Nat.add_mul] at this; exact om447 h ha hD this
  have := Nat.mul_le_mul_right (2 ^ b) (show m + 2 ≤ 2 ^ (D - b) from hq)
  rw [Nat.add_mul] at this; exact om450 this hD hc'

noncomputable def Fre (ns : Nds) (y : Nat) : Prop := ∀ i l r : Nat, ns[i]? = some (some (l, r)) → l / 2 ≠ y ∧ r / 2 ≠ y

/-- all literals' nodes differ and none is a side yet -/
noncomputable def Sgl (ns : Nds) (lits : List Nat) : Prop := (lits.map (· / 2)).Nodup ∧ ∀ l, l ∈ lits → 0 < l / 2 ∧ Fre ns (l / 2)

structure JSg (ns0 : Nds) (ds0 : List Nat) (lits : List Nat) (ns : Nds) (ds : List Nat) (P : List (Nat × Nat)) : Prop where
  len : ns.length + P.length = ns0.length + lits.length
  sg : Sgl ns (P.map (·.2))
  fre : ∀ y, y < ns0.length → Fre ns0 y → (∀ l, l ∈ lits → y ≠ l / 2) → Fre ns y
  src : ∀ p, p ∈ P → (∃ l, l ∈ lits ∧ p.2 / 2 = l / 2) ∨ ns0.length ≤ p.2 / 2
  last : ns0.length < ns.length → ∃ p, p ∈ P ∧ p.2 + 2 = 2 * ns.length
  sum : pw (lits.map (dget ds0)) ≤ pw (P.map (·.1))
  use : ∀ U, Closed ns U → (∀ p, p ∈ P → U (p.2 / 2)) → (∀ l, l ∈ lits → U (l / 2)) ∧ ∀ y, ns0.length ≤ y → y < ns.length → U y

structure JI (n : Nat) (ns0 : Nds) (ds0 : List Nat) (lits : List Nat) (ns : Nds) (ds : List Nat) (P : List (Nat × Nat)) : Prop where
  srt : Srt P
  ne : P ≠ []
  dp : ∀ p, p ∈ P → p.2 / 2 < ns.length ∧ p.1 = dep ds (p.2 / 2)
  pre : Pre ns0 ns
  wg : WG n ns
  pds : ∀ i, i < ns0.length → dep ds i = dep ds0 i
  len : ns.length + P.length ≤ ns0.length + lits.length
  val : ∀ v, Val ns v → P.all (fun p => lv v p.2) = lits.all (lv v)
  sum : ∀ D, pw (lits.map (dget ds0)) ≤ 2 ^ D → pw (P.map (·.1)) ≤ 2 ^ D
  xs : ∃ xs : List Nat, xs.length + P.length ≤ lits.length ∧ (∀ x, x ∈ xs → x < ns.length) ∧ (∀ p, p ∈ P → p.2 / 2 ∈ xs ∨ ∃ l, l ∈ lits ∧ p.2 / 2 = l / 2) ∧
    ∀ y, y ∈ xs → ∀ l r, ns[y]? = some (some (l, r)) → ∀ z, (z = l / 2 ∨ z = r / 2) → z ∈ xs ∨ ∃ l, l ∈ lits ∧ z = l / 2
  hd : Dep ns ds
  sg : Sgl ns0 lits → JSg ns0 ds0 lits ns ds P

theorem all_perm {α : Type} {f : α → Bool} {xs ys : List α} (h : xs.Perm ys) : xs.all f = ys.all f := by
  rw [Bool.eq_iff_iff, List.all_eq_true, List.all_eq_true]
  exact ⟨fun h' x hx => h' x (h.mem_iff.2 hx), fun h' x hx => h' x (h.mem_iff.1 hx)⟩

theorem JI.start {n : Nat} {ns : Nds} {ds lits : List Nat} {P : List (Nat × Nat)} (hw : WG n ns) (hd : Dep ns ds) (hl : ∀ l, l ∈ lits → l / 2 < ns.length) (hne : lits ≠ [])
    (hP : P.Perm (lits.map fun l => (dget ds l, l))) (hS : Srt P) : JI n ns ds lits ns ds P := by
  have hlen := hP.length_eq
  simp at hlen
  have e2 : (P.map (·.2)).Perm lits := by have := hP.map (·.2); simpa [Function.comp_def] using this
  have e1 : (P.map (·.1)).Perm (lits.map (dget ds)) := by have := hP.map (·.1); simpa [Function.comp_def] using this
  have hm : ∀ p, p ∈ P → p.2 ∈ lits ∧ p.1 = dget ds p.2 := by
    intro p hp
    obtain ⟨l, hl, rfl⟩ := List.mem_map.1 (hP.mem_iff.1 hp)
    exact ⟨hl, rfl⟩
  refine ⟨hS, ?_, ?_, Pre.rfl, hw, fun _ _ => rfl, by exact om345 hlen, ?_, ?_, ?_, hd, ?_⟩
  · rintro rfl; simp at hlen; exact hne (List.length_eq_zero_iff.1 hlen.symm)
  · intro p hp; have := hm p hp; exact ⟨hl _ this.1, this.2⟩
  · intro v _
    rw [← all_perm e2, List.all_map]; rfl
  · intro D h; rw [pw_perm e1]; exact h
  · exact ⟨[], by simp; exact om101 hlen, by simp, fun p hp => Or.inr ⟨p.2, (hm p hp).1, rfl⟩, by simp⟩
  · intro hs
    refine ⟨by exact om344 hlen, ⟨?_, ?_⟩, fun y _ h _ => h, fun p hp => Or.inl ⟨p.2, (hm p hp).1, rfl⟩, fun h => absurd h (Nat.lt_irrefl _), by rw [pw_perm e1]; exact Nat.le_refl _, ?_⟩
    · exact ((e2.map (· / 2)).nodup_iff).2 hs.1
    · intro l hl; exact hs.2 l (e2.mem_iff.1 hl)
    · intro U hU hp
      refine ⟨?_, fun y h1 h2 => by exact om18 h2 h1⟩
      intro l hl
      obtain ⟨p, hp', rfl⟩ := List.mem_map.1 (e2.mem_iff.2 hl)
      exact hp p hp'

theorem JI.step {n : Nat} {ns0 : Nds} {ds0 lits : List Nat} {ns : Nds} {ds : List Nat} {a b : Nat × Nat} {R : List (Nat × Nat)} (J : JI n ns0 ds0 lits ns ds (a :: b :: R))
    {ns' : Nds} {res : Nat} (hL : LandR ns a.2 b.2 ns' res) {ds' : List Nat} (hds : ds' = if res / 2 = ds.length then ds ++ [1 + b.1] else ds) :
    ∃ dd, ds'[res / 2]? = some dd ∧ ∀ P', PlaceR R (dd, res) P' → JI n ns0 ds0 lits ns' ds' P' := by
  have hDl := J.hd.len
  obtain ⟨ha1, ha2⟩ := J.dp a (by simp)
  obtain ⟨hb1, hb2⟩ := J.dp b (by simp)
  have hsrt := J.srt
  unfold Srt at hsrt
  rw [List.pairwise_cons, List.pairwise_cons] at hsrt
  obtain ⟨hsa, hsb, hsR⟩ := hsrt
  have hab : a.1 ≤ b.1 := hsa b (by simp)
  have hlen := J.len
  simp only [List.length_cons] at hlen
  have hpl := J.pre.len
  obtain ⟨xs, hx1, hx2, hx3, hx4⟩ := J.xs
  simp only [List.length_cons] at hx1
  have hxa := hx3 a (by simp)
  have hxb := hx3 b (by simp)
  rcases land_cases J.wg ha1 hb1 hL with ⟨rfl, hr, hv, hn, hsg⟩ | ⟨l, r, hlr, rfl, rfl, h0, h1, hnew⟩
  · -- nothing new
    rw [if_neg (by exact om316 hr hDl)] at hds
    subst hds
    have hdd : ds'[res / 2]? = some (dep ds' (res / 2)) := by unfold dep; rw [List.getElem?_eq_getElem (by exact om0 hr hDl)]; rfl
    refine ⟨_, hdd, ?_⟩
    intro P' hP
    have hple := hP.perm.length_eq
    simp only [List.length_cons] at hple
    have hdle : dep ds' (res / 2) ≤ b.1 + 1 := by
      have h0 := J.hd.none 0 (J.wg.base 0 (by exact om11))
      rcases hn with e | e | e | ⟨l, r, hnd, hlr⟩
      · rw [e, h0]; exact om11
      · rw [e, ← ha2]; exact om38 hab
      · rw [e, ← hb2]; exact om30
      · have := J.hd.and _ _ _ hnd
        rcases hlr with ⟨rfl, rfl⟩ | ⟨rfl, rfl⟩ <;> rw [this, ← ha2, ← hb2] <;> (first | exact om566 hab | exact om567 hab)
    refine ⟨hP.srt hsR, ?_, ?_, J.pre, J.wg, J.pds, by exact om75 hlen hple, ?_, ?_, ?_, J.hd, ?_⟩
    · rintro rfl; simp at hple
    · intro p hp
      rcases List.mem_cons.1 (hP.perm.mem_iff.1 hp) with rfl | hp
      · exact ⟨hr, rfl⟩
      · exact J.dp p (by simp [hp])
    · intro v hvv
      rw [all_perm hP.perm, ← J.val v hvv]
      simp only [List.all_cons, hv v hvv, Bool.and_assoc]
    · intro D hD
      have := J.sum D hD
      rw [pw_perm (hP.perm.map (·.1))]
      simp only [List.map_cons] at this ⊢
      refine kraft hab ?_ this hdle
      intro x hx
      obtain ⟨p, hp, rfl⟩ := List.mem_map.1 hx
      exact hsb p hp
    · have mem : ∀ ys : List Nat, (∀ z, z ∈ xs → z ∈ ys) → (res / 2 ∈ ys ∨ ∃ l, l ∈ lits ∧ res / 2 = l / 2) → ∀ p, p ∈ P' → p.2 / 2 ∈ ys ∨ ∃ l, l ∈ lits ∧ p.2 / 2 = l / 2 := by
        intro ys hy hr p hp
        rcases List.mem_cons.1 (hP.perm.mem_iff.1 hp) with rfl | hp
        · exact hr
        · exact (hx3 p (by simp [hp])).imp (hy _) id
      have more : (∀ l r, ns'[res / 2]? = some (some (l, r)) → ∀ z, (z = l / 2 ∨ z = r / 2) → z ∈ xs ∨ ∃ l, l ∈ lits ∧ z = l / 2) → ∃ xs : List Nat, xs.length + P'.length ≤ lits.length ∧ (∀ x, x ∈ xs → x < ns'.length) ∧ (∀ p, p ∈ P' → p.2 / 2 ∈ xs ∨ ∃ l, l ∈ lits ∧ p.2 / 2 = l / 2) ∧
          ∀ y, y ∈ xs → ∀ l r, ns'[y]? = some (some (l, r)) → ∀ z, (z = l / 2 ∨ z = r / 2) → z ∈ xs ∨ ∃ l, l ∈ lits ∧ z = l / 2 := by
        intro hc
        refine ⟨res / 2 :: xs, by simp only [List.length_cons]; exact om134 hx1 hple, ?_, mem _ (fun z h => List.mem_cons_of_mem _ h) (Or.inl (by simp)), ?_⟩
        · intro x hx; rcases List.mem_cons.1 hx with rfl | hx
          · exact hr
          · exact hx2 x hx
        · intro y hy l r hnd z hz
          rcases List.mem_cons.1 hy with rfl | hy
          · exact (hc l r hnd z hz).imp (List.mem_cons_of_mem _) id
          · exact (hx4 y hy l r hnd z hz).imp (List.mem_cons_of_mem _) id
      rcases hn with e | e | e | ⟨l, r, hnd, hlr⟩
      · refine more ?_
        intro l r hnd; rw [e, J.wg.base 0 (by exact om11)] at hnd; cases hnd
      · exact ⟨xs, by exact om75 hx1 hple, hx2, mem _ (fun _ h => h) (e ▸ hxa), hx4⟩
      · exact ⟨xs, by exact om75 hx1 hple, hx2, mem _ (fun _ h => h) (e ▸ hxb), hx4⟩
      · refine more ?_
        intro l' r' hnd' z hz
        rw [hnd] at hnd'; injection hnd' with e; injection e with e; injection e with e1 e2
        subst e1; subst e2
        rcases hlr with ⟨rfl, rfl⟩ | ⟨rfl, rfl⟩ <;> rcases hz with rfl | rfl <;> assumption
    · intro hs
      exfalso
      have hJ := J.sg hs
      have := hJ.sg
      obtain ⟨hnd, hfr⟩ := this
      simp only [List.map_cons, List.nodup_cons, List.mem_cons, List.mem_map] at hnd
      have hfa := hfr a.2 (by simp)
      have hfb := hfr b.2 (by simp)
      obtain ⟨i, l, r, hi, hlr⟩ := hsg (by intro e; exact hnd.1 (Or.inl e)) hfa.1 hfb.1
      have hfa' : ∀ i l r : Nat, ns'[i]? = some (some (l, r)) → l / 2 ≠ a.2 / 2 ∧ r / 2 ≠ a.2 / 2 := hfa.2
      have := hfa' i l r hi
      rcases hlr with ⟨rfl, rfl⟩ | ⟨rfl, rfl⟩
      · exact this.1 rfl
      · exact this.2 rfl
  · have e2 : 2 * ns.length / 2 = ns.length := by exact om6
    rw [e2] at hds ⊢
    rw [if_pos hDl.symm] at hds
    subst hds
    have hpre : Pre ns (ns ++ [some (l, r)]) := ⟨_, rfl⟩
    have hl' : l / 2 < ns.length := by exact om451 hlr ha1 hb1
    have hr' : r / 2 < ns.length := by exact om141 hlr ha1 hb1
    have hwg := J.wg.snoc h0 h1 hr' hnew
    have hd' : Dep (ns ++ [some (l, r)]) (ds ++ [1 + b.1]) := by
      refine J.hd.snoc J.wg hl' hr' ?_
      rcases hlr with ⟨rfl, rfl⟩ | ⟨rfl, rfl⟩ <;> rw [← ha2, ← hb2] <;> (first | exact om568 hab | exact om569 hab)
    have hll : (ns ++ [some (l, r)]).length = ns.length + 1 := by simp
    refine ⟨1 + b.1, by rw [← hDl]; simp, ?_⟩
    intro P' hP
    have hple := hP.perm.length_eq
    simp only [List.length_cons] at hple
    refine ⟨hP.srt hsR, ?_, ?_, J.pre.trans hpre, hwg, ?_, by exact om446 hlen hll hple, ?_, ?_, ?_, hd', ?_⟩
    · rintro rfl; simp at hple
    · intro p hp
      rcases List.mem_cons.1 (hP.perm.mem_iff.1 hp) with rfl | hp
      · exact ⟨by simp only; exact om254 hll, by simp only [e2]; rw [← hDl, dep_last]⟩
      · have := J.dp p (by simp [hp])
        exact ⟨by exact om70 this.1 hll, by rw [dep_app (by exact om0 this.1 hDl)]; exact this.2⟩
    · intro i hi
      rw [dep_app (by exact om386 hi hpl hDl)]; exact J.pds i hi
    · intro v hvv
      have hv0 := hvv.pre hpre
      have := hvv.and ns.length l r (by simp)
      rw [all_perm hP.perm, ← J.val v hv0]
      simp only [List.all_cons, ← Bool.and_assoc]
      congr 1
      have e3 : lv v (2 * ns.length) = v ns.length := by unfold lv; rw [e2]; simp
      rw [e3, this]
      rcases hlr with ⟨rfl, rfl⟩ | ⟨rfl, rfl⟩
      · rfl
      · exact Bool.and_comm _ _
    · intro D hD
      have := J.sum D hD
      rw [pw_perm (hP.perm.map (·.1))]
      simp only [List.map_cons] at this ⊢
      refine kraft hab ?_ this (by exact om526)
      intro x hx
      obtain ⟨p, hp, rfl⟩ := List.mem_map.1 hx
      exact hsb p hp
    · refine ⟨ns.length :: xs, by simp only [List.length_cons]; exact om134 hx1 hple, ?_, ?_, ?_⟩
      · intro x hx; rcases List.mem_cons.1 hx with rfl | hx
        · exact om35 hll
        · have := hx2 x hx; exact om70 this hll
      · intro p hp
        rcases List.mem_cons.1 (hP.perm.mem_iff.1 hp) with rfl | hp
        · exact Or.inl (by simp only [e2]; simp)
        · exact (hx3 p (by simp [hp])).imp (List.mem_cons_of_mem _) id
      · intro y hy l' r' hnd z hz
        rcases app_get hnd with hnd | ⟨rfl, e⟩
        · rcases List.mem_cons.1 hy with rfl | hy
          · have := (List.getElem?_eq_some_iff.1 hnd).1; exact om160 this
          · exact (hx4 y hy l' r' hnd z hz).imp (List.mem_cons_of_mem _) id
        · injection e with e; injection e with e1 e3; subst e1; subst e3
          refine Or.imp (List.mem_cons_of_mem _) id ?_
          rcases hlr with ⟨rfl, rfl⟩ | ⟨rfl, rfl⟩ <;> rcases hz with rfl | rfl <;> assumption
    · intro hs
      have hJ := J.sg hs
      have hJl := hJ.len
      simp only [List.length_cons] at hJl
      obtain ⟨hnd, hfr⟩ := hJ.sg
      simp only [List.map_cons, List.nodup_cons, List.mem_cons, List.mem_map] at hnd
      have hfr' : ∀ p, p ∈ R → 0 < p.2 / 2 ∧ Fre ns (p.2 / 2) := fun p hp => hfr p.2 (by simp; exact Or.inr (Or.inr ⟨p.1, hp⟩))
      have hRa : ∀ p, p ∈ R → p.2 / 2 ≠ a.2 / 2 := fun p hp e => hnd.1 (Or.inr ⟨p.2, ⟨p, hp, rfl⟩, e⟩)
      have hRb : ∀ p, p ∈ R → p.2 / 2 ≠ b.2 / 2 := fun p hp e => hnd.2.1 ⟨p.2, ⟨p, hp, rfl⟩, e⟩
      have keep : ∀ y, y < ns.length → Fre ns y → y ≠ a.2 / 2 → y ≠ b.2 / 2 → Fre (ns ++ [some (l, r)]) y := by
        intro y _ hy h1 h2 i l' r' hi
        rcases app_get hi with hi | ⟨_, e⟩
        · exact hy i l' r' hi
        · injection e with e; injection e with e1 e3; subst e1; subst e3
          rcases hlr with ⟨rfl, rfl⟩ | ⟨rfl, rfl⟩ <;> exact ⟨fun h => by omega, fun h => by omega⟩
      refine ⟨by exact om435 hJl hll hple, ⟨?_, ?_⟩, ?_, ?_, ?_, ?_, ?_⟩
      · rw [((hP.perm.map (·.2)).map (· / 2)).nodup_iff]
        simp only [List.map_cons, List.nodup_cons, List.mem_map]
        refine ⟨?_, hnd.2.2⟩
        rintro ⟨q, ⟨p, hp, rfl⟩, e⟩
        have := (J.dp p (by simp [hp])).1
        exact om230 this e
      · intro q hq
        obtain ⟨p, hp, rfl⟩ := List.mem_map.1 hq
        rcases List.mem_cons.1 (hP.perm.mem_iff.1 hp) with rfl | hp
        · simp only [e2]
          refine ⟨by exact om61 ha1, ?_⟩
          intro i l' r' hi
          have := hwg.ok i l' r' hi
          have h5 := (List.getElem?_eq_some_iff.1 hi).1
          rw [hll] at h5
          exact ⟨by exact om131 h5 this.2.2 this.2.1, by exact om68 h5 this.2.2⟩
        · have := hfr' p hp
          exact ⟨this.1, keep _ (J.dp p (by simp [hp])).1 this.2 (hRa p hp) (hRb p hp)⟩
      · intro y hy hf hne
        have h6 := hJ.fre y hy hf hne
        refine keep y (by exact om17 hy hpl) h6 ?_ ?_ <;> intro e
        · rcases hJ.src a (by simp) with ⟨l0, h1, h2⟩ | h1
          · exact hne l0 h1 (e.trans h2)
          · exact om113 hy e h1
        · rcases hJ.src b (by simp) with ⟨l0, h1, h2⟩ | h1
          · exact hne l0 h1 (e.trans h2)
          · exact om113 hy e h1
      · intro p hp
        rcases List.mem_cons.1 (hP.perm.mem_iff.1 hp) with rfl | hp
        · exact Or.inr (by simp only [e2]; exact om47 hpl)
        · exact hJ.src p (by simp [hp])
      · intro _
        exact ⟨(1 + b.1, 2 * ns.length), hP.perm.mem_iff.2 (by simp), by simp only [hll]; exact om505⟩
      · have := hJ.sum
        rw [pw_perm (hP.perm.map (·.1))]
        simp only [List.map_cons, pw_cons] at this ⊢
        have h7 : 2 ^ a.1 ≤ 2 ^ b.1 := Nat.pow_le_pow_right (by exact om3) hab
        have h8 : 2 ^ (1 + b.1) = 2 * 2 ^ b.1 := by rw [Nat.pow_add]
        exact om437 h8 this h7
      · intro U hU hp
        have hU0 := hU.pre hpre
        have hn := hp _ (hP.perm.mem_iff.2 (List.mem_cons_self ..))
        simp only [e2] at hn
        have hlr' := hU ns.length l r (by simp) hn
        have := hJ.use U hU0 (by
          intro p hp'
          rcases List.mem_cons.1 hp' with rfl | hp'
          · rcases hlr with ⟨rfl, rfl⟩ | ⟨rfl, rfl⟩
            · exact hlr'.1
            · exact hlr'.2
          rcases List.mem_cons.1 hp' with rfl | hp'
          · rcases hlr with ⟨rfl, rfl⟩ | ⟨rfl, rfl⟩
            · exact hlr'.2
            · exact hlr'.1
          · exact hp p (hP.perm.mem_iff.2 (List.mem_cons_of_mem _ hp')))
        refine ⟨this.1, ?_⟩
        intro y h1 h2
        rw [hll] at h2
        by_cases e : y = ns.length
        · rw [e]; exact hn
        · exact this.2 y h1 (by exact om2 h2 e)

/-- what join_balanced does -/
structure JP (n : Nat) (ns0 : Nds) (ds0 lits : List Nat) (ns : Nds) (ds : List Nat) (res : Nat) : Prop where
  rl : res / 2 < ns.length
  pre : Pre ns0 ns
  wg : WG n ns
  hd : Dep ns ds
  pds : ∀ i, i < ns0.length → dep ds i = dep ds0 i
  len : ns.length + 1 ≤ ns0.length + lits.length
  val : ∀ v, Val ns v → lv v res = lits.all (lv v)
  sum : ∀ D, pw (lits.map (dget ds0)) ≤ 2 ^ D → dep ds (res / 2) ≤ D
  xs : ∃ xs : List Nat, xs.length + 1 ≤ lits.length ∧ (∀ x, x ∈ xs → x < ns.length) ∧ (res / 2 ∈ xs ∨ ∃ l, l ∈ lits ∧ res / 2 = l / 2) ∧
    ∀ y, y ∈ xs → ∀ l r, ns[y]? = some (some (l, r)) → ∀ z, (z = l / 2 ∨ z = r / 2) → z ∈ xs ∨ ∃ l, l ∈ lits ∧ z = l / 2
  sg : Sgl ns0 lits → JSg ns0 ds0 lits ns ds [(dep ds (res / 2), res)]

theorem JI.done {n : Nat} {ns0 : Nds} {ds0 lits : List Nat} {ns : Nds} {ds : List Nat} {p : Nat × Nat} (J : JI n ns0 ds0 lits ns ds [p]) : JP n ns0 ds0 lits ns ds p.2 := by
  have hd := J.dp p (by simp)
  have hp : p = (dep ds (p.2 / 2), p.2) := Prod.ext hd.2 rfl
  obtain ⟨xs, h1, h2, h3, h4⟩ := J.xs
  refine ⟨hd.1, J.pre, J.wg, J.hd, J.pds, J.len, ?_, ?_, ⟨xs, h1, h2, h3 p (by simp), h4⟩, ?_⟩
  · intro v hv; rw [← J.val v hv]; simp
  · intro D hD
    have := J.sum D hD
    simp only [List.map_cons, List.map_nil, pw_cons] at this
    rw [← hd.2]
    apply Nat.le_of_not_lt; intro h
    have := Nat.pow_lt_pow_right (a := 2) (by exact om158) h
    omega
  · intro hs; rw [← hp]; exact J.sg hs

theorem c_join' {d : Nat} {H : Hp} {f dp lt n : Nat} {F : Gr} {ds lits : List Nat} {Q : V → Hp → Prop}
    (hF : IsG H f F) (hdp : H[dp]? = some (.list (ds.map nI))) (hlt : H[lt]? = some (.list (lits.map nI))) (hs1 : ¬ gr f dp)
    (hw : WG n F.ns) (hd : Dep F.ns ds) (hin : ∀ l, l ∈ lits → l / 2 < F.ns.length) (hne : lits ≠ []) (hll : F.ns.length + lits.length + 2 < lim)
    (fin : ∀ ns ds' res, JP n F.ns ds lits ns ds' res → ∀ H', IsG H' f ⟨ns, F.ins, F.outs⟩ → H'[dp]? = some (.list (ds'.map nI)) → Kp (fun i => gr f i ∨ i = dp) H H' → Q (nI res) H') :
    wpCall defs (d + 2) 13 [.obj f, .ref dp, .ref lt] H Q := by
  refine c_join (JI n F.ns ds lits) hF hdp hlt hs1 (by exact om292 hll) (by rw [hd.len]; exact om293 hll) (by rw [hd.len]; exact hin) ?_ ?_ ?_ ?_
  · intro P hP hS; exact JI.start hw hd hin hne hP hS
  · intro ns ds P J
    have h1 := J.len
    have h2 := J.hd.len
    have h3 := J.pre.len
    exact ⟨by exact om363 hll h1, (by have : 1 ≤ P.length := List.length_pos_iff.2 J.ne; exact om417 hll h1 h2), by exact om362 hll h1, J.ne⟩
  · intro ns ds a b R J ns' res hL ds' hds; exact J.step hL hds
  · intro ns ds p J H' h1 h2 h3; exact fin _ _ _ J.done H' h1 h2 h3
end Mine
end

-- part C6
section
set_option Elab.async false
set_option linter.unusedVariables false
set_option linter.unusedSimpArgs false
namespace Mine

noncomputable def isUA (ns : Nds) (us : List Bool) (i : Nat) : Bool := (us[i]? == some true) && (match ns[i]? with | some (some _) => true | _ => false)
theorem isUA_iff {ns : Nds} {us : List Bool} {i : Nat} : isUA ns us i = true ↔ us[i]? = some true ∧ IsAnd ns i := by
  unfold isUA IsAnd
  rw [Bool.and_eq_true, beq_iff_eq]
  refine and_congr Iff.rfl ?_
  constructor
  · intro h; split at h
    · rename_i p hp; exact ⟨p, hp⟩
    · cases h
  · rintro ⟨p, hp⟩; rw [hp]

noncomputable def nM (tb : List Nat) (i : Nat) : Nat := dep tb i / 2
theorem mul_xor (m l : Nat) : (2 * m) ^^^ (l % 2) = 2 * m + l % 2 := by
  have := xorm (2 * m) l
  exact om325 this.2 this.1

structure Sw (n : Nat) (ns : Nds) (us : List Bool) (k : Nat) (tb : List Nat) (ns' : Nds) : Prop where
  len : tb.length = ns.length
  wg : WG n ns'
  inp : ∀ i, i ≤ n → dep tb i = 2 * i
  rng : ∀ i, i < k → (i ≤ n ∨ us[i]? = some true) → dep tb i = 2 * nM tb i ∧ nM tb i < ns'.length
  mono : ∀ i j, i < j → j < k → (i ≤ n ∨ us[i]? = some true) → (j ≤ n ∨ us[j]? = some true) → nM tb i < nM tb j
  and : ∀ i l r, i < k → us[i]? = some true → ns[i]? = some (some (l, r)) → ns'[nM tb i]? = some (some (2 * nM tb (l / 2) + l % 2, 2 * nM tb (r / 2) + r % 2))
  sur : ∀ j, n < j → j < ns'.length → ∃ i, n < i ∧ i < k ∧ us[i]? = some true ∧ nM tb i = j
  cnt : ns'.length = n + 1 + ((List.range k).filter (isUA ns us)).length

theorem Sw.start {n : Nat} {ns : Nds} {us : List Bool} {tb : List Nat} (hw : WG n ns) (h : Fn tb ns.length (fun i => if i ≤ n then 2 * i else 0)) : Sw n ns us (n + 1) tb (G0 n).ns := by
  have hlen := hw.len
  have e : ∀ i, i ≤ n → dep tb i = 2 * i := by
    intro i hi; unfold dep; rw [h.at' i (by exact om41 hlen hi), if_pos hi]; rfl
  have e2 : ∀ i, i ≤ n → nM tb i = i := by intro i hi; unfold nM; rw [e i hi]; exact om6
  refine ⟨h.len, WG.G0, e, ?_, ?_, ?_, ?_, ?_⟩
  · intro i hi _; rw [e i (by exact om32 hi), e2 i (by exact om32 hi), G0_len]; exact om324 hi
  · intro i j hij hj _ _; rw [e2 i (by exact om300 hj hij), e2 j (by exact om32 hj)]; exact hij
  · intro i l r hi _ hnd; rw [hw.base i (by exact om32 hi)] at hnd; cases hnd
  · intro j h1 h2; rw [G0_len] at h2; exact om78 h2 h1
  · rw [G0_len]
    have : (List.range (n + 1)).filter (isUA ns us) = [] := by
      rw [List.filter_eq_nil_iff]
      intro i hi; rw [List.mem_range] at hi
      rw [isUA_iff]; rintro ⟨_, p, hp⟩; rw [hw.base i (by exact om32 hi)] at hp; cases hp
    rw [this]; rfl

theorem dep_set {tb : List Nat} {k x i : Nat} (hk : k < tb.length) : dep (tb.set k x) i = if i = k then x else dep tb i := by
  unfold dep
  by_cases e : i = k
  · subst e; rw [List.getElem?_set_self hk, if_pos rfl]; rfl
  · rw [List.getElem?_set_ne (fun h => e h.symm), if_neg e]
theorem nM_set {tb : List Nat} {k x i : Nat} (hk : k < tb.length) : nM (tb.set k x) i = if i = k then x / 2 else nM tb i := by
  unfold nM; rw [dep_set hk]; split <;> rfl

theorem Sw.skip {n : Nat} {ns : Nds} {us : List Bool} {k : Nat} {tb : List Nat} {ns' : Nds} (h : Sw n ns us k tb ns') (hn : n < k) (hu : ¬ us[k]? = some true) : Sw n ns us (k + 1) tb ns' := by
  have e : ∀ i, i < k + 1 → (i ≤ n ∨ us[i]? = some true) → i < k := by
    intro i hi hh; by_cases e : i = k
    · rw [e] at hh; rcases hh with hh | hh
      · exact om317 hn hh
      · exact absurd hh hu
    · exact om2 hi e
  refine ⟨h.len, h.wg, h.inp, fun i hi hk => h.rng i (e i hi hk) hk, fun i j hij hj hi hj' => h.mono i j hij (e j hj hj') hi hj', fun i l r hi hu' => h.and i l r (e i hi (Or.inr hu')) hu', ?_, ?_⟩
  · intro j h1 h2; obtain ⟨i, h3, h4, h5⟩ := h.sur j h1 h2; exact ⟨i, h3, by exact om23 h4, h5⟩
  · rw [List.range_succ, List.filter_append, h.cnt]
    have : isUA ns us k = false := by
      rw [← Bool.not_eq_true, isUA_iff]; exact fun h => hu h.1
    simp [this]

theorem Sw.step {n : Nat} {ns : Nds} {us : List Bool} {k : Nat} {tb : List Nat} {ns' : Nds} (h : Sw n ns us k tb ns') (hw : WG n ns) (hn : n < k) (hkl : k < ns.length) (hu : us[k]? = some true) {l r : Nat} (hk : ns[k]? = some (some (l, r)))
    (hcl : Closed ns fun i => us[i]? = some true) {ns'' : Nds} {res : Nat} (hL : LandR ns' (2 * nM tb (l / 2) + l % 2) (2 * nM tb (r / 2) + r % 2) ns'' res) :
    Sw n ns us (k + 1) (tb.set k res) ns'' ∧ ns''.length = ns'.length + 1 := by
  have hok := hw.ok _ _ _ hk
  have hul := hcl _ _ _ hk hu
  have hlen := h.len
  have r1 := h.rng (l / 2) (by exact om1 hok.2.1 hok.2.2) (Or.inr hul.1)
  have r2 := h.rng (r / 2) (by exact om4 hok.2.2) (Or.inr hul.2)
  have m1 := h.mono 0 (l / 2) (by exact om472 hok.1) (by exact om1 hok.2.1 hok.2.2) (Or.inl (by exact om11)) (Or.inr hul.1)
  have m2 := h.mono (l / 2) (r / 2) (by exact om4 hok.2.1) (by exact om4 hok.2.2) (Or.inr hul.1) (Or.inr hul.2)
  have hx : (2 * nM tb (l / 2) + l % 2) / 2 = nM tb (l / 2) := by exact om24
  have hy : (2 * nM tb (r / 2) + r % 2) / 2 = nM tb (r / 2) := by exact om24
  have inj : ∀ i j, i < k → j < k → (i ≤ n ∨ us[i]? = some true) → (j ≤ n ∨ us[j]? = some true) → nM tb i = nM tb j → i = j := by
    intro i j hi hj h1 h2 e
    rcases Nat.lt_trichotomy i j with h3 | h3 | h3
    · have := h.mono i j h3 hj h1 h2; exact om381 this e
    · exact h3
    · have := h.mono j i h3 hi h2 h1; exact om383 this e
  rcases land_cases h.wg (by exact om71 r1.2) (by exact om71 r2.2) hL with ⟨rfl, _, _, _, hsg⟩ | ⟨a, b, hab, rfl, rfl, h0, h1, hnew⟩
  · exfalso
    obtain ⟨i, a, b, hi, hab⟩ := hsg (by exact om388 m2) (by exact om118 m1) (by exact om118 m2)
    have hoi := h.wg.ok _ _ _ hi
    have hin : n < i := by
      apply Nat.lt_of_not_le; intro h2; rw [h.wg.base i h2] at hi; cases hi
    obtain ⟨j, hj1, hj2, hj3, hj4⟩ := h.sur i hin (List.getElem?_eq_some_iff.1 hi).1
    obtain ⟨lj, rj, hj5⟩ := hw.and j hj1 (by exact om1 hj2 hkl)
    have hj6 := h.and j lj rj hj2 hj3 hj5
    rw [hj4, hi] at hj6
    injection hj6 with e; injection e with e; injection e with e1 e2
    have hab' : a = 2 * nM tb (l / 2) + l % 2 ∧ b = 2 * nM tb (r / 2) + r % 2 := by
      rcases hab with h | h
      · exact h
      · exfalso; exact om142 hoi.2.1 h.1 h.2 m2
    have hcj := hcl _ _ _ hj5 hj3
    have hoj := hw.ok _ _ _ hj5
    have i1 := inj (lj / 2) (l / 2) (by exact om42 hoj.2.1 hoj.2.2 hj2) (by exact om1 hok.2.1 hok.2.2) (Or.inr hcj.1) (Or.inr hul.1) (by exact om140 e1 hab'.1)
    have i2 := inj (rj / 2) (r / 2) (by exact om1 hoj.2.2 hj2) (by exact om4 hok.2.2) (Or.inr hcj.2) (Or.inr hul.2) (by exact om140 e2 hab'.2)
    have e3 : lj = l := by exact om139 i1 e1 hab'.1
    have e4 : rj = r := by exact om139 i2 e2 hab'.2
    subst e3; subst e4
    have := hw.uq _ _ _ hj5 hk
    exact om92 hj2 this
  · have hab' : a = 2 * nM tb (l / 2) + l % 2 ∧ b = 2 * nM tb (r / 2) + r % 2 := by
      rcases hab with h | h
      · exact h
      · exfalso; exact om142 h1 h.1 h.2 m2
    obtain ⟨rfl, rfl⟩ := hab'
    have hkt : k < tb.length := by exact om0 hkl hlen
    have hll : (ns' ++ [some (2 * nM tb (l / 2) + l % 2, 2 * nM tb (r / 2) + r % 2)]).length = ns'.length + 1 := by simp
    have nm : ∀ i, i < k → nM (tb.set k (2 * ns'.length)) i = nM tb i := by intro i hi; rw [nM_set hkt, if_neg (by exact om13 hi)]
    have nk : nM (tb.set k (2 * ns'.length)) k = ns'.length := by rw [nM_set hkt, if_pos rfl]; exact om6
    have hpre : Pre ns' (ns' ++ [some (2 * nM tb (l / 2) + l % 2, 2 * nM tb (r / 2) + r % 2)]) := ⟨_, rfl⟩
    refine ⟨⟨by simpa using hlen, h.wg.snoc h0 h1 (by exact om71 r2.2) hnew, ?_, ?_, ?_, ?_, ?_, ?_⟩, hll⟩
    · intro i hi; rw [dep_set hkt, if_neg (by exact om116 hn hi)]; exact h.inp i hi
    · intro i hi hki
      by_cases e : i = k
      · subst e; rw [nk, dep_set hkt, if_pos rfl]; exact ⟨rfl, by exact om35 hll⟩
      · have := h.rng i (by exact om2 hi e) hki
        rw [nm i (by exact om2 hi e), dep_set hkt, if_neg e]; exact ⟨this.1, by exact om70 this.2 hll⟩
    · intro i j hij hj hi hj'
      by_cases e : j = k
      · subst e; rw [nk, nm i hij]; exact (h.rng i hij hi).2
      · rw [nm i (by exact om5 hj hij), nm j (by exact om2 hj e)]; exact h.mono i j hij (by exact om2 hj e) hi hj'
    · intro i li ri hi hui hnd
      have hoi := hw.ok _ _ _ hnd
      by_cases e : i = k
      · subst e; rw [hk] at hnd; injection hnd with e; injection e with e; injection e with e1 e2; subst e1; subst e2
        rw [nk, nm _ (by exact om1 hok.2.1 hok.2.2), nm _ (by exact om4 hok.2.2)]; simp
      · rw [nm _ (by exact om2 hi e), nm _ (by exact om53 hi hoi.2.2 hoi.2.1), nm _ (by exact om5 hi hoi.2.2)]
        exact hpre.get (h.and i li ri (by exact om2 hi e) hui hnd)
    · intro j h1 h2
      by_cases e : j = ns'.length
      · exact ⟨k, hn, by exact om9, hu, by rw [nk, e]⟩
      · obtain ⟨i, h3, h4, h5, h6⟩ := h.sur j h1 (by exact om314 h2 hll e)
        exact ⟨i, h3, by exact om23 h4, h5, by rw [nm i h4]; exact h6⟩
    · rw [List.range_succ, List.filter_append, hll, h.cnt]
      have : isUA ns us k = true := isUA_iff.2 ⟨hu, _, hk⟩
      simp [this]; exact om108

structure SwR (n : Nat) (ns : Nds) (us : List Bool) (ns' : Nds) (M : Nat → Nat) : Prop where
  wg : WG n ns'
  inp : ∀ i, i ≤ n → M i = i
  rng : ∀ i, (i ≤ n ∨ us[i]? = some true) → M i < ns'.length
  and : ∀ i l r, us[i]? = some true → ns[i]? = some (some (l, r)) → ns'[M i]? = some (some (2 * M (l / 2) + l % 2, 2 * M (r / 2) + r % 2))
  cnt : ns'.length = n + 1 + ((List.range ns.length).filter (isUA ns us)).length

theorem c_swept {d : Nat} {H : Hp} {g n : Nat} {G : Gr} {Q : V → Hp → Prop} (hG : IsG H g G) (hw : WG n G.ns) (hi : G.ins = inp n) (hO : ∀ o, o ∈ G.outs → o / 2 < G.ns.length)
    (hn : 2 * G.ns.length + 2 < lim) (ho : G.outs.length < lim)
    (h : ∀ H' g' us ns' M, IsG H' g' ⟨ns', inp n, G.outs.map fun o => 2 * M (o / 2) + o % 2⟩ → H.length ≤ g' → Kp no H H' → UsedR G.ns G.outs us → SwR n G.ns us ns' M → Q (.obj g') H') :
    wpCall defs (d + 2) 5 [.obj g] H Q := by
  refine call_in 1 13 b_swept rfl rfl ?_
  unfold b_swept
  have hlt := hG.lt
  have hnn := hw.len
  rw [b_assign]
  simp only [zE0, zE1, zE2, zE3, zE4, zE5, zE6, zE7, zE8, zE9, zE10, zE11, zE12, zE13, zE14, zE15, zE16, zE17, zE18, zE19, zE20, zE21, zE22, zE23, zE24, zE25, zE26, zE27, zE28, zE29, zE30, zE31, zE32, zE33, zE34, zE35, zE36, zE37, zE38]
  refine c_new (H := H) ?_
  intro H1 hf k1 hl1
  have hG1 := hG.kp0 k1
  refine ⟨rfl, ?_⟩
  simp only [List.map_cons, List.map_nil, List.cons_append, List.nil_append, List.replicate_succ, List.replicate_zero, St.get, St.put, List.getElem?_cons_zero, List.getElem?_cons_succ, Option.join_some, List.set_cons_succ, List.set_cons_zero]
  rw [b_assign]
  refine e_repl (.int 0) (fun _ _ => by simp only [zE0, zE1, zE2, zE3, zE4, zE5, zE6, zE7, zE8, zE9, zE10, zE11, zE12, zE13, zE14, zE15, zE16, zE17, zE18, zE19, zE20, zE21, zE22, zE23, zE24, zE25, zE26, zE27, zE28, zE29, zE30, zE31, zE32, zE33, zE34, zE35, zE36, zE37, zE38]) rfl hG1 (by exact om44 hn) ?_
  intro H2 t ht htl k2
  simp only [St.get, St.put, List.getElem?_cons_zero, List.getElem?_cons_succ, Option.join_some, List.set_cons_succ, List.set_cons_zero] at htl k2 ⊢
  have k3 := k1.trans k2 (fun _ _ h => h)
  have hG2 := hG.kp0 k3
  have hf2 := hf.kp0 k2
  rw [b_for]
  simp only [wpI, b_assign, b_expr, b_ret, b_setSub, b_setAttr, b_unpack, b_aug, b_augSub, b_cont, b_nil, b_comp, zE0, zE1, zE2, zE3, zE4, zE5, zE6, zE7, zE8, zE9, zE10, zE11, zE12, zE13, zE14, zE15, zE16, zE17, zE18, zE19, zE20, zE21, zE22, zE23, zE24, zE25, zE26, zE27, zE28, zE29, zE30, zE31, zE32, zE33, zE34, zE35, zE36, zE37, zE38, may_some, V.ref.injEq, exists_eq_left', St.get, St.put, List.getElem?_cons_zero, List.getElem?_cons_succ, Option.join_some, List.set_cons_succ, List.set_cons_zero, hG2.at1]
  refine ⟨_, hG2.a2, by rw [hi]; simp [inp]; exact om291 hn hnn, for_inv (fun k st => Ex3 fun (o3 : Option V) (H2 : Hp) (tb : List Nat) => An5 (st = ⟨[some (.obj g), some (.obj H.length), some (.ref t), o3, none, none, none, none, none, none, none, none, none], H2⟩) (Kp no H H2) (IsG H2 H.length (G0 k)) (H2[t]? = some (.list (tb.map nI))) (Fn tb G.ns.length (fun i => if i ≤ k then 2 * i else 0))) ?_ ?_ ?_ ?_⟩
  · exact ⟨_, _, List.replicate G.ns.length 0, rfl, k3, hf2, by rw [List.map_replicate]; exact ht, Fn.repl.congr (by intro i _; split <;> omega)⟩
  · rintro k st ⟨o3, H2, bs, rfl, k2, _⟩
    exact (hG.kp0 k2).a2
  · rintro k v st K hv ⟨o3, H2, tb, rfl, k2, hf, h2, hF⟩ kn kc kr
    obtain ⟨x, hx, rfl⟩ := map_at hv
    rw [hi] at hx
    obtain ⟨hkn, rfl⟩ := inp_at hx
    have hl := hF.len
    simp only [b_assign, b_expr, b_ret, b_setSub, b_setAttr, b_unpack, b_aug, b_augSub, b_cont, b_nil, b_comp, zE0, zE1, zE2, zE3, zE4, zE5, zE6, zE7, zE8, zE9, zE10, zE11, zE12, zE13, zE14, zE15, zE16, zE17, zE18, zE19, zE20, zE21, zE22, zE23, zE24, zE25, zE26, zE27, zE28, zE29, zE30, zE31, zE32, zE33, zE34, zE35, zE36, zE37, zE38, may_some, V.ref.injEq, exists_eq_left', St.get, St.put, List.getElem?_cons_zero, List.getElem?_cons_succ, Option.join_some, List.set_cons_succ, List.set_cons_zero]
    refine ⟨isO_at hf, ?_⟩
    refine c_add_input hf (by rw [G0_len]; exact om359 hn hnn hkn) (by simp [G0, inp]; exact om360 hn hnn hkn) ?_
    intro H3 hf3 k4 hl3
    rw [G0_succ] at hf3
    have h3 := k4.get h2 (by unfold gr; exact om50 hl1 htl)
    simp only [b_assign, b_expr, b_ret, b_setSub, b_setAttr, b_unpack, b_aug, b_augSub, b_cont, b_nil, b_comp, zE0, zE1, zE2, zE3, zE4, zE5, zE6, zE7, zE8, zE9, zE10, zE11, zE12, zE13, zE14, zE15, zE16, zE17, zE18, zE19, zE20, zE21, zE22, zE23, zE24, zE25, zE26, zE27, zE28, zE29, zE30, zE31, zE32, zE33, zE34, zE35, zE36, zE37, zE38, may_some, V.ref.injEq, exists_eq_left', St.get, St.put, List.getElem?_cons_zero, List.getElem?_cons_succ, Option.join_some, List.set_cons_succ, List.set_cons_zero, set_at h3 (by exact om25 hn hl) (show k + 1 < _ by rw [hl]; exact om69 hkn hnn) (2 * (G0 k).ns.length) rfl]
    apply kn
    have k5 : Kp no H H3 := k2.trans k4 (by intro i h1 h2; unfold gr at h2; exact om18 h1 h2.1)
    refine ⟨_, _, _, rfl, k5.set (by exact om57 hl1 htl), hf3.kp (Kp.set (S := fun i => i = t) Kp.rfl (by intro _; rfl)) (by intro i h1 h2 h3; exact om74 hl1 htl h3 h2), by rw [List.getElem?_set_self (lt_of_get h3)], (hF.set _ _).congr ?_⟩
    intro i hi; rw [G0_len]
    by_cases e : i = k + 1
    · simp [e]
    · rw [if_neg e]; by_cases e2 : i ≤ k
      · rw [if_pos e2, if_pos (by exact om38 e2)]
      · rw [if_neg e2, if_neg (by exact om106 e e2)]
  · rintro st ⟨o3, H2, tb, rfl, k2, hf, h2, hF⟩
    rw [hi] at hf hF
    rw [List.length_map, inp_len] at hf hF
    have hG2 := hG.kp0 k2
    have hl2 := hf.lt
    simp only [k_next, b_assign, b_expr, b_ret, b_setSub, b_setAttr, b_unpack, b_aug, b_augSub, b_cont, b_nil, b_comp, zE0, zE1, zE2, zE3, zE4, zE5, zE6, zE7, zE8, zE9, zE10, zE11, zE12, zE13, zE14, zE15, zE16, zE17, zE18, zE19, zE20, zE21, zE22, zE23, zE24, zE25, zE26, zE27, zE28, zE29, zE30, zE31, zE32, zE33, zE34, zE35, zE36, zE37, zE38, may_some, V.ref.injEq, exists_eq_left', St.get, St.put, List.getElem?_cons_zero, List.getElem?_cons_succ, Option.join_some, List.set_cons_succ, List.set_cons_zero]
    refine c_used hG2 (by exact om44 hn) ho hw.low hO ?_
    intro H3 ut us hut hutl k4 hU
    have k5 := k2.trans k4 (fun _ _ h => h)
    have hG3 := hG.kp0 k5
    have htl2 := lt_of_get h2
    rw [b_for]
    simp only [wpI, b_assign, b_expr, b_ret, b_setSub, b_setAttr, b_unpack, b_aug, b_augSub, b_cont, b_nil, b_comp, zE0, zE1, zE2, zE3, zE4, zE5, zE6, zE7, zE8, zE9, zE10, zE11, zE12, zE13, zE14, zE15, zE16, zE17, zE18, zE19, zE20, zE21, zE22, zE23, zE24, zE25, zE26, zE27, zE28, zE29, zE30, zE31, zE32, zE33, zE34, zE35, zE36, zE37, zE38, may_some, V.ref.injEq, exists_eq_left', St.get, St.put, List.getElem?_cons_zero, List.getElem?_cons_succ, Option.join_some, List.set_cons_succ, List.set_cons_zero, hG3.at0, len_at hG3.a1 (show G.ns.length < lim by exact om44 hn)]
    have hl20 : lim = 2 ^ 20 := rfl
    have hul := hU.len
    refine ⟨_, rfl, by exact om10, by exact om205 hn hl20, for_inv (fun k st => Ex7 fun (o3 o5 o6 o7 : Option V) (H3 : Hp) (tb : List Nat) (ns' : Nds) => An6 (st = ⟨[some (.obj g), some (.obj H.length), some (.ref t), o3, some (.ref ut), o5, o6, o7, none, none, none, none, none], H3⟩) (Kp no H H3) (IsG H3 H.length ⟨ns', inp n, []⟩) (H3[t]? = some (.list (tb.map nI))) (H3[ut]? = some (.list (us.map .bool))) (Sw n G.ns us (max k (n + 1)) tb ns')) ?_ ?_ ?_ ?_⟩
    · exact ⟨_, _, _, _, H3, tb, _, rfl, k5, hf.kp0 k4, k4.get h2 (fun h => h), hut, by rw [Nat.max_eq_right (by exact om11)]; exact Sw.start hw hF⟩
    · intros; trivial
    · rintro k v st K hv ⟨o3, o5, o6, o7, H3, tb, ns', rfl, k5, hf, h3, hut, hS⟩ kn kc kr
      obtain ⟨hkN, rfl⟩ := ru_at hv
      have hG3 := hG.kp0 k5
      obtain ⟨nd, hnd⟩ : ∃ nd, G.ns[k]? = some nd := ⟨_, List.getElem?_eq_getElem hkN⟩
      simp only [b_assign, b_expr, b_ret, b_setSub, b_setAttr, b_unpack, b_aug, b_augSub, b_cont, b_nil, b_comp, zE0, zE1, zE2, zE3, zE4, zE5, zE6, zE7, zE8, zE9, zE10, zE11, zE12, zE13, zE14, zE15, zE16, zE17, zE18, zE19, zE20, zE21, zE22, zE23, zE24, zE25, zE26, zE27, zE28, zE29, zE30, zE31, zE32, zE33, zE34, zE35, zE36, zE37, zE38, may_some, V.ref.injEq, exists_eq_left', St.get, St.put, List.getElem?_cons_zero, List.getElem?_cons_succ, Option.join_some, List.set_cons_succ, List.set_cons_zero, hG3.at0, sub_at hG3.a1 (by exact om44 hn) hnd, b_ite, zC0, zC1, zC2, zC3, zC4, zC5, zC6, zC7, zC8]
      cases nd with
      | none =>
        have hkn : k ≤ n := by
          apply Nat.le_of_not_lt; intro h1
          obtain ⟨l, r, h2⟩ := hw.and k h1 hkN
          rw [hnd] at h2; cases h2
        simp [ndV, k_next]
        apply kn
        rw [Nat.max_eq_right (by exact om38 hkn)] at hS
        exact ⟨_, _, _, _, H3, tb, ns', rfl, k5, hf, h3, hut, by rw [Nat.max_eq_right (by exact om283 hkn)]; exact hS⟩
      | some p =>
        have hkn : n < k := by
          apply Nat.lt_of_not_le; intro h1
          rw [hw.base k h1] at hnd; cases hnd
        rw [Nat.max_eq_left (by exact om34 hkn)] at hS
        obtain ⟨bv, hbv⟩ : ∃ bv, us[k]? = some bv := ⟨_, List.getElem?_eq_getElem (by exact om0 hkN hul)⟩
        have hT := hS.len
        have hok := hw.ok _ _ _ hnd
        simp [ndV, k_next]
        simp only [b_assign, b_expr, b_ret, b_setSub, b_setAttr, b_unpack, b_aug, b_augSub, b_cont, b_nil, b_comp, zE0, zE1, zE2, zE3, zE4, zE5, zE6, zE7, zE8, zE9, zE10, zE11, zE12, zE13, zE14, zE15, zE16, zE17, zE18, zE19, zE20, zE21, zE22, zE23, zE24, zE25, zE26, zE27, zE28, zE29, zE30, zE31, zE32, zE33, zE34, zE35, zE36, zE37, zE38, may_some, V.ref.injEq, exists_eq_left', St.get, St.put, List.getElem?_cons_zero, List.getElem?_cons_succ, Option.join_some, List.set_cons_succ, List.set_cons_zero, sub_at hut (by exact om25 hn hul) hbv, truthV]
        cases bv with
        | false =>
          simp only [Bool.false_eq_true, if_false, k_next]
          apply kn
          exact ⟨_, _, _, _, H3, tb, ns', rfl, k5, hf, h3, hut, by rw [Nat.max_eq_left (by exact om96 hkn)]; exact hS.skip hkn (by rw [hbv]; simp)⟩
        | true =>
          have huc := hU.cl k p.1 p.2 hnd hbv
          have g1 : ∀ i, i < G.ns.length → tb[i]? = some (dep tb i) := by intro i hi; unfold dep; rw [List.getElem?_eq_getElem (by exact om0 hi hT)]; rfl
          have r1 := hS.rng (p.1 / 2) (by exact om1 hok.2.1 hok.2.2) (Or.inr huc.1)
          have r2 := hS.rng (p.2 / 2) (by exact om4 hok.2.2) (Or.inr huc.2)
          have e1 : tb[p.1 / 2]? = some (2 * nM tb (p.1 / 2)) := by rw [g1 _ (by exact om42 hok.2.1 hok.2.2 hkN), ← r1.1]
          have e2 : tb[p.2 / 2]? = some (2 * nM tb (p.2 / 2)) := by rw [g1 _ (by exact om1 hok.2.2 hkN), ← r2.1]
          have hcnt : ns'.length ≤ n + 1 + k := by
            have := hS.cnt
            have h9 := List.length_filter_le (isUA G.ns us) (List.range k)
            rw [List.length_range] at h9
            exact om398 this h9
          simp only [if_true, b_assign, b_expr, b_ret, b_setSub, b_setAttr, b_unpack, b_aug, b_augSub, b_cont, b_nil, b_comp, zE0, zE1, zE2, zE3, zE4, zE5, zE6, zE7, zE8, zE9, zE10, zE11, zE12, zE13, zE14, zE15, zE16, zE17, zE18, zE19, zE20, zE21, zE22, zE23, zE24, zE25, zE26, zE27, zE28, zE29, zE30, zE31, zE32, zE33, zE34, zE35, zE36, zE37, zE38, may_some, V.ref.injEq, exists_eq_left', St.get, St.put, List.getElem?_cons_zero, List.getElem?_cons_succ, Option.join_some, List.set_cons_succ, List.set_cons_zero, subP0, subP1, bi_shr, bi_and1, sub_at h3 (by exact om25 hn hT) e1, sub_at h3 (by exact om25 hn hT) e2, bi_xor, mul_xor]
          refine ⟨isO_at hf, ?_⟩
          refine c_land hf (by simp only; exact om416 hn hnn hkN hcnt) ?_
          intro H4 ns'' res hL hf4 q4 hl4
          have hst := hS.step hw hkn hkN hbv hnd hU.cl hL
          have h4 := q4.get h3 (by unfold gr; exact om50 hl1 htl)
          simp only [b_assign, b_expr, b_ret, b_setSub, b_setAttr, b_unpack, b_aug, b_augSub, b_cont, b_nil, b_comp, zE0, zE1, zE2, zE3, zE4, zE5, zE6, zE7, zE8, zE9, zE10, zE11, zE12, zE13, zE14, zE15, zE16, zE17, zE18, zE19, zE20, zE21, zE22, zE23, zE24, zE25, zE26, zE27, zE28, zE29, zE30, zE31, zE32, zE33, zE34, zE35, zE36, zE37, zE38, may_some, V.ref.injEq, exists_eq_left', St.get, St.put, List.getElem?_cons_zero, List.getElem?_cons_succ, Option.join_some, List.set_cons_succ, List.set_cons_zero, set_at h4 (by exact om25 hn hT) (show k < tb.length by exact om0 hkN hT) res rfl, k_next]
          apply kn
          refine ⟨_, _, _, _, _, tb.set k res, ns'', rfl, (k5.trans q4 (by intro i h1 h2; unfold gr at h2; exact om18 h1 h2.1)).set (by exact om57 hl1 htl), hf4.kp (Kp.set (S := fun i => i = t) Kp.rfl (by intro _; rfl)) (by intro i h1 h2 h3; exact om74 hl1 htl h3 h2), by rw [List.getElem?_set_self (lt_of_get h4)], ?_, by rw [Nat.max_eq_left (by exact om96 hkn)]; exact hst.1⟩
          rw [List.getElem?_set_ne (by exact om48 htl2 hutl)]; exact q4.get hut (by unfold gr; exact om429 htl2 hutl hl1 htl)
    · rintro st ⟨o3, o5, o6, o7, H3, tb, ns', rfl, k5, hf, h3, hut, hS⟩
      rw [ru_len, Nat.max_eq_left (by exact om34 hnn)] at hS
      have hG3 := hG.kp0 k5
      have hT := hS.len
      have g1 : ∀ i, i < G.ns.length → tb[i]? = some (dep tb i) := by intro i hi; unfold dep; rw [List.getElem?_eq_getElem (by exact om0 hi hT)]; rfl
      rw [k_next, b_for]
      simp only [wpI, b_assign, b_expr, b_ret, b_setSub, b_setAttr, b_unpack, b_aug, b_augSub, b_cont, b_nil, b_comp, zE0, zE1, zE2, zE3, zE4, zE5, zE6, zE7, zE8, zE9, zE10, zE11, zE12, zE13, zE14, zE15, zE16, zE17, zE18, zE19, zE20, zE21, zE22, zE23, zE24, zE25, zE26, zE27, zE28, zE29, zE30, zE31, zE32, zE33, zE34, zE35, zE36, zE37, zE38, may_some, V.ref.injEq, exists_eq_left', St.get, St.put, List.getElem?_cons_zero, List.getElem?_cons_succ, Option.join_some, List.set_cons_succ, List.set_cons_zero, hG3.at2]
      refine ⟨_, hG3.a3, by simpa using ho, for_inv (fun k st => Ex2 fun (o8 : Option V) (H3 : Hp) => An4 (st = ⟨[some (.obj g), some (.obj H.length), some (.ref t), o3, some (.ref ut), o5, o6, o7, o8, none, none, none, none], H3⟩) (Kp no H H3) (IsG H3 H.length ⟨ns', inp n, (G.outs.take k).map fun o => 2 * nM tb (o / 2) + o % 2⟩) (H3[t]? = some (.list (tb.map nI)))) ?_ ?_ ?_ ?_⟩
      · exact ⟨_, H3, rfl, k5, hf, h3⟩
      · rintro k st ⟨o8, H3, rfl, k5, _⟩
        exact (hG.kp0 k5).a3
      · rintro k v st K hv ⟨o8, H3, rfl, k5, hf, h3⟩ kn kc kr
        obtain ⟨o, hko, rfl⟩ := map_at hv
        have hom := mem_at hko
        have hkl := (List.getElem?_eq_some_iff.1 hko).1
        have hoN := hO o hom
        have r1 := hS.rng (o / 2) hoN (Or.inr (hU.out o hom))
        have e1 : tb[o / 2]? = some (2 * nM tb (o / 2)) := by rw [g1 _ hoN, ← r1.1]
        simp only [b_assign, b_expr, b_ret, b_setSub, b_setAttr, b_unpack, b_aug, b_augSub, b_cont, b_nil, b_comp, zE0, zE1, zE2, zE3, zE4, zE5, zE6, zE7, zE8, zE9, zE10, zE11, zE12, zE13, zE14, zE15, zE16, zE17, zE18, zE19, zE20, zE21, zE22, zE23, zE24, zE25, zE26, zE27, zE28, zE29, zE30, zE31, zE32, zE33, zE34, zE35, zE36, zE37, zE38, may_some, V.ref.injEq, exists_eq_left', St.get, St.put, List.getElem?_cons_zero, List.getElem?_cons_succ, Option.join_some, List.set_cons_succ, List.set_cons_zero, bi_shr, bi_and1, sub_at h3 (by exact om25 hn hT) e1, bi_xor, mul_xor]
        refine ⟨isO_at hf, ?_⟩
        refine c_add_output hf (by simp; exact om117 ho) ?_
        intro H4 hf4 q4 hl4
        refine ⟨rfl, kn _ ⟨_, H4, rfl, k5.trans q4 (by intro i h1 h2; unfold gr at h2; exact om18 h1 h2.1), ?_, q4.get h3 (by unfold gr; exact om50 hl1 htl)⟩⟩
        rw [List.take_add_one, hko]
        simpa using hf4
      · rintro st ⟨o8, H3, rfl, k5, hf, h3⟩
        rw [List.length_map, List.take_of_length_le (Nat.le_refl _)] at hf
        simp only [k_next, b_assign, b_expr, b_ret, b_setSub, b_setAttr, b_unpack, b_aug, b_augSub, b_cont, b_nil, b_comp, zE0, zE1, zE2, zE3, zE4, zE5, zE6, zE7, zE8, zE9, zE10, zE11, zE12, zE13, zE14, zE15, zE16, zE17, zE18, zE19, zE20, zE21, zE22, zE23, zE24, zE25, zE26, zE27, zE28, zE29, zE30, zE31, zE32, zE33, zE34, zE35, zE36, zE37, zE38, may_some, V.ref.injEq, exists_eq_left', St.get, St.put, List.getElem?_cons_zero, List.getElem?_cons_succ, Option.join_some, List.set_cons_succ, List.set_cons_zero, Fl.val]
        refine h _ _ us ns' (nM tb) hf (Nat.le_refl _) k5 hU ⟨hS.wg, ?_, ?_, ?_, hS.cnt⟩
        · intro i hi; unfold nM; rw [hS.inp i hi]; exact om6
        · intro i hi
          refine (hS.rng i ?_ hi).2
          rcases hi with hi | hi
          · exact om41 hnn hi
          · have := (List.getElem?_eq_some_iff.1 hi).1; exact om26 this hul
        · intro i l r hu hnd; exact hS.and i l r (List.getElem?_eq_some_iff.1 hnd).1 hu hnd
end Mine
end

-- part C7
section
set_option Elab.async false
set_option linter.unusedVariables false
set_option linter.unusedSimpArgs false
namespace Mine

noncomputable def mvd (tb : List Nat) (l : Nat) : Nat := dget tb l ^^^ (l % 2)
theorem mvd_div (tb : List Nat) (l : Nat) : mvd tb l / 2 = dep tb (l / 2) / 2 := (xorm _ _).1

theorem c_finish {d : Nat} {H : Hp} {g f t n : Nat} {G F : Gr} {tb : List Nat} {Q : V → Hp → Prop} (hG : IsG H g G) (hF : IsG H f F) (ht : H[t]? = some (.list (tb.map nI)))
    (hgf : g + 4 < f) (htf : ¬ gr f t) (htl : tb.length < lim) (ho : G.outs.length < lim) (hot : ∀ o, o ∈ G.outs → o / 2 < tb.length)
    (hw : WG n F.ns) (hi : F.ins = inp n) (hF0 : F.outs = []) (hO : ∀ o, o ∈ G.outs → mvd tb o / 2 < F.ns.length) (hn : 2 * F.ns.length + 2 < lim)
    (h : ∀ H' g' us ns' M, IsG H' g' ⟨ns', inp n, (G.outs.map (mvd tb)).map fun o => 2 * M (o / 2) + o % 2⟩ → H.length ≤ g' → Kp (gr f) H H' → UsedR F.ns (G.outs.map (mvd tb)) us → SwR n F.ns us ns' M → Q (.obj g') H') :
    wpCall defs (d + 3) 9 [.obj g, .obj f, .ref t] H Q := by
  refine call_in 3 6 b_finish rfl rfl ?_
  unfold b_finish
  have hltF := hF.lt
  simp only [List.map_cons, List.map_nil, List.cons_append, List.nil_append, List.replicate_succ, List.replicate_zero]
  rw [b_for]
  simp only [wpI, b_assign, b_expr, b_ret, b_setSub, b_setAttr, b_unpack, b_aug, b_augSub, b_cont, b_nil, b_comp, zE0, zE1, zE2, zE3, zE4, zE5, zE6, zE7, zE8, zE9, zE10, zE11, zE12, zE13, zE14, zE15, zE16, zE17, zE18, zE19, zE20, zE21, zE22, zE23, zE24, zE25, zE26, zE27, zE28, zE29, zE30, zE31, zE32, zE33, zE34, zE35, zE36, zE37, zE38, may_some, V.ref.injEq, exists_eq_left', St.get, St.put, List.getElem?_cons_zero, List.getElem?_cons_succ, Option.join_some, List.set_cons_succ, List.set_cons_zero, hG.at2]
  refine ⟨_, hG.a3, by simpa using ho, for_inv (fun k st => Ex2 fun (o3 : Option V) (H2 : Hp) => An3 (st = ⟨[some (.obj g), some (.obj f), some (.ref t), o3, none, none], H2⟩) (Kp (gr f) H H2) (IsG H2 f ⟨F.ns, F.ins, (G.outs.take k).map (mvd tb)⟩)) ?_ ?_ ?_ ?_⟩
  · exact ⟨_, H, rfl, Kp.rfl, by have h9 := hF; unfold IsG at h9 ⊢; rw [hF0] at h9; simpa using h9⟩
  · rintro k st ⟨o3, H2, rfl, k2, _⟩
    exact (hG.kp k2 (by intro i h1 h2 h3; unfold gr at h3; exact om115 hgf h3.1 h2)).a3
  · rintro k v st K hv ⟨o3, H2, rfl, k2, hf⟩ kn kc kr
    obtain ⟨o, hko, rfl⟩ := map_at hv
    have hkl := (List.getElem?_eq_some_iff.1 hko).1
    have hG2 := hG.kp k2 (by intro i h1 h2 h3; unfold gr at h3; exact om115 hgf h3.1 h2)
    have ht2 := k2.get ht htf
    simp only [b_assign, b_expr, b_ret, b_setSub, b_setAttr, b_unpack, b_aug, b_augSub, b_cont, b_nil, b_comp, zE0, zE1, zE2, zE3, zE4, zE5, zE6, zE7, zE8, zE9, zE10, zE11, zE12, zE13, zE14, zE15, zE16, zE17, zE18, zE19, zE20, zE21, zE22, zE23, zE24, zE25, zE26, zE27, zE28, zE29, zE30, zE31, zE32, zE33, zE34, zE35, zE36, zE37, zE38, may_some, V.ref.injEq, exists_eq_left', St.get, St.put, List.getElem?_cons_zero, List.getElem?_cons_succ, Option.join_some, List.set_cons_succ, List.set_cons_zero]
    refine ⟨isO_at hf, ?_⟩
    refine c_moved ht2 htl (dget_eq (hot o (mem_at hko))) ?_
    refine c_add_output hf (by simp; exact om117 ho) ?_
    intro H3 hf3 q3 hl3
    refine ⟨rfl, kn _ ⟨_, H3, rfl, k2.trans q3 (fun _ _ h => h), ?_⟩⟩
    rw [List.take_add_one, hko]
    simpa [mvd] using hf3
  · rintro st ⟨o3, H2, rfl, k2, hf⟩
    rw [List.length_map, List.take_of_length_le (Nat.le_refl _)] at hf
    simp only [k_next, b_assign, b_expr, b_ret, b_setSub, b_setAttr, b_unpack, b_aug, b_augSub, b_cont, b_nil, b_comp, zE0, zE1, zE2, zE3, zE4, zE5, zE6, zE7, zE8, zE9, zE10, zE11, zE12, zE13, zE14, zE15, zE16, zE17, zE18, zE19, zE20, zE21, zE22, zE23, zE24, zE25, zE26, zE27, zE28, zE29, zE30, zE31, zE32, zE33, zE34, zE35, zE36, zE37, zE38, may_some, V.ref.injEq, exists_eq_left', St.get, St.put, List.getElem?_cons_zero, List.getElem?_cons_succ, Option.join_some, List.set_cons_succ, List.set_cons_zero]
    have hle := k2.len
    refine c_swept hf hw hi ?_ hn (by simpa using ho) ?_
    · intro o ho
      obtain ⟨o', ho', rfl⟩ := List.mem_map.1 ho
      exact hO o' ho'
    · intro H3 g' us ns' M hg hgl k3 hU hS
      simp only [Fl.val, may_some]
      exact h _ _ us ns' M hg (by exact om51 hle hgl) (k2.trans k3 (fun _ _ h => h.elim)) hU hS

theorem Lv.ex {ns : Nds} {A : Nat → Prop} (hw : Low ns) (hA : ∀ j, A j → IsAnd ns j) : ∀ (k l : Nat), l / 2 < k → l / 2 < ns.length → ∃ xs, Lv ns A l xs ∧ xs.length ≤ 2 ^ (l / 2) := by
  intro k
  induction k with
  | zero => intro l h; exact om165 h
  | succ k ih =>
    intro l hk hl
    by_cases e : l % 2 = 0 ∧ A (l / 2)
    · obtain ⟨⟨a, b⟩, hp⟩ := hA _ e.2
      have := hw _ _ _ hp
      obtain ⟨xs, hx, hxl⟩ := ih a (by exact om5 hk this.1) (by exact om1 this.1 hl)
      obtain ⟨ys, hy, hyl⟩ := ih b (by exact om5 hk this.2) (by exact om1 this.2 hl)
      refine ⟨xs ++ ys, .node l a b xs ys e.1 e.2 hp hx hy, ?_⟩
      have h1 : 2 ^ (a / 2) ≤ 2 ^ (l / 2 - 1) := Nat.pow_le_pow_right (by exact om3) (by exact om45 this.1)
      have h2 : 2 ^ (b / 2) ≤ 2 ^ (l / 2 - 1) := Nat.pow_le_pow_right (by exact om3) (by exact om45 this.2)
      have h3 : 2 ^ (l / 2) = 2 * 2 ^ (l / 2 - 1) := by
        rw [← Nat.pow_succ', show (l / 2 - 1).succ = l / 2 by exact om62 this.2]
      rw [List.length_append]; exact om143 h3 h1 h2 hxl hyl
    · exact ⟨[l], .leaf l e hl, by simp; exact Nat.one_le_two_pow⟩

theorem c_balance {d : Nat} {H : Hp} {g n : Nat} {G : Gr} {Q : V → Hp → Prop} (B : List Bool → Nat → Nds → List Nat → List Nat → Prop)
    (hG : IsG H g G) (hw : WG n G.ns) (hi : G.ins = inp n) (hO : ∀ o, o ∈ G.outs → o / 2 < G.ns.length)
    (hn : G.ns.length < 18) (ho : G.outs.length < lim)
    (start : ∀ bs tb, AbsR G.ns (fun i => sides G.ns i + ends G.outs i) bs → Fn tb G.ns.length (fun i => if i ≤ n then 2 * i else 0) → B bs 0 (G0 n).ns (List.replicate (n + 1) 0) tb)
    (skip : ∀ bs k fns ds tb, AbsR G.ns (fun i => sides G.ns i + ends G.outs i) bs → B bs k fns ds tb → k < G.ns.length → (G.ns[k]? = some none ∨ bs[k]? = some true ∨ sides G.ns k + ends G.outs k = 0) → B bs (k + 1) fns ds tb)
    (inv : ∀ bs k fns ds tb, B bs k fns ds tb → WG n fns ∧ Dep fns ds ∧ tb.length = G.ns.length ∧ fns.length ≤ n + 2 ^ k)
    (step : ∀ bs k fns ds tb, AbsR G.ns (fun i => sides G.ns i + ends G.outs i) bs → B bs k fns ds tb → ∀ a b, G.ns[k]? = some (some (a, b)) → ¬ bs[k]? = some true → sides G.ns k + ends G.outs k ≠ 0 →
      ∀ xs ys, Lv G.ns (fun j => bs[j]? = some true) a xs → Lv G.ns (fun j => bs[j]? = some true) b ys → xs.length + ys.length ≤ 2 ^ k →
      (∀ l, l ∈ xs ++ ys → l / 2 < G.ns.length ∧ mvd tb l / 2 < fns.length) ∧
      ∀ fns' ds' res, JP n fns ds ((xs ++ ys).map (mvd tb)) fns' ds' res → B bs (k + 1) fns' ds' (tb.set k res))
    (outs : ∀ bs fns ds tb, AbsR G.ns (fun i => sides G.ns i + ends G.outs i) bs → B bs G.ns.length fns ds tb → ∀ o, o ∈ G.outs → mvd tb o / 2 < fns.length)
    (h : ∀ H' g' bs fns ds tb us ns' M, AbsR G.ns (fun i => sides G.ns i + ends G.outs i) bs → B bs G.ns.length fns ds tb →
      IsG H' g' ⟨ns', inp n, (G.outs.map (mvd tb)).map fun o => 2 * M (o / 2) + o % 2⟩ → H.length ≤ g' → Kp no H H' → UsedR fns (G.outs.map (mvd tb)) us → SwR n fns us ns' M → Q (.obj g') H') :
    wpCall defs (d + 4) 14 [.obj g] H Q := by
  refine call_in 1 18 b_balance rfl rfl ?_
  unfold b_balance
  have hlt := hG.lt
  have hnn := hw.len
  have hl20 : lim = 2 ^ 20 := rfl
  rw [b_assign]
  simp only [zE0, zE1, zE2, zE3, zE4, zE5, zE6, zE7, zE8, zE9, zE10, zE11, zE12, zE13, zE14, zE15, zE16, zE17, zE18, zE19, zE20, zE21, zE22, zE23, zE24, zE25, zE26, zE27, zE28, zE29, zE30, zE31, zE32, zE33, zE34, zE35, zE36, zE37, zE38, may_some, List.map_cons, List.map_nil, List.cons_append, List.nil_append, List.replicate_succ, List.replicate_zero, St.get, St.put, List.getElem?_cons_zero, List.getElem?_cons_succ, Option.join_some, List.set_cons_succ, List.set_cons_zero]
  refine c_counts hG (by exact om19 hn hl20) ho hw.low hO ?_
  intro H1 ct cs hct hctl k1 hcs
  have hG1 := hG.kp0 k1
  have hctl1 := lt_of_get hct
  try simp only [St.get, St.put, List.getElem?_cons_zero, List.getElem?_cons_succ, Option.join_some, List.set_cons_succ, List.set_cons_zero]
  rw [b_assign]
  simp only [zE0, zE1, zE2, zE3, zE4, zE5, zE6, zE7, zE8, zE9, zE10, zE11, zE12, zE13, zE14, zE15, zE16, zE17, zE18, zE19, zE20, zE21, zE22, zE23, zE24, zE25, zE26, zE27, zE28, zE29, zE30, zE31, zE32, zE33, zE34, zE35, zE36, zE37, zE38, may_some, St.get, St.put, List.getElem?_cons_zero, List.getElem?_cons_succ, Option.join_some, List.set_cons_succ, List.set_cons_zero]
  refine c_absorbed hG1 (by exact om19 hn hl20) hw.low hct hcs ?_
  intro H2 bt bs hbt hbtl k2 hbs
  have k12 := k1.trans k2 (fun _ _ h => h)
  have hG2 := hG.kp0 k12
  have hbtl1 := lt_of_get hbt
  have hbl := hbs.len
  try simp only [St.get, St.put, List.getElem?_cons_zero, List.getElem?_cons_succ, Option.join_some, List.set_cons_succ, List.set_cons_zero]
  rw [b_unpack]
  simp only [zE0, zE1, zE2, zE3, zE4, zE5, zE6, zE7, zE8, zE9, zE10, zE11, zE12, zE13, zE14, zE15, zE16, zE17, zE18, zE19, zE20, zE21, zE22, zE23, zE24, zE25, zE26, zE27, zE28, zE29, zE30, zE31, zE32, zE33, zE34, zE35, zE36, zE37, zE38, may_some, St.get, St.put, List.getElem?_cons_zero, List.getElem?_cons_succ, Option.join_some, List.set_cons_succ, List.set_cons_zero]
  refine c_started hG2 (by exact om19 hn hl20) hi hnn ?_
  intro H3 f t tb hf ht hfl hft k3 htb
  have k13 := k12.trans k3 (fun _ _ h => h)
  have htl1 := lt_of_get ht
  refine ⟨_, _, rfl, by decide, ?_⟩
  try simp only [St.get, St.put, List.getElem?_cons_zero, List.getElem?_cons_succ, Option.join_some, List.set_cons_succ, List.set_cons_zero]
  rw [b_assign]
  refine e_repl (.int 0) (fun _ _ => by simp only [zE0, zE1, zE2, zE3, zE4, zE5, zE6, zE7, zE8, zE9, zE10, zE11, zE12, zE13, zE14, zE15, zE16, zE17, zE18, zE19, zE20, zE21, zE22, zE23, zE24, zE25, zE26, zE27, zE28, zE29, zE30, zE31, zE32, zE33, zE34, zE35, zE36, zE37, zE38]) rfl hf (by rw [G0_len]; exact om307 hn hnn hl20) ?_
  intro H4 dp hdp hdpl k4
  simp only [St.get, St.put, List.getElem?_cons_zero, List.getElem?_cons_succ, Option.join_some, List.set_cons_succ, List.set_cons_zero] at hdpl k4 ⊢
  have k14 := k13.trans k4 (fun _ _ h => h)
  have hG4 := hG.kp0 k14
  have hf4 := hf.kp0 k4
  have hct4 := (k2.trans (k3.trans k4 (fun _ _ h => h)) (fun _ _ h => h)).get hct (fun h => h)
  have hbt4 := (k3.trans k4 (fun _ _ h => h)).get hbt (fun h => h)
  have ht4 := k4.get ht (fun h => h)
  have l1 := k1.len
  have l2 := k2.len
  have l3 := k3.len
  have hB0 := start bs tb hbs htb
  have hBi : ∀ k fns ds tb, k < 18 → B bs k fns ds tb → WG n fns ∧ Dep fns ds ∧ tb.length = G.ns.length ∧ fns.length ≤ 2 ^ 18 + 18 := by
    intro k fns ds tb hk hB
    obtain ⟨h1, h2, h3, h4⟩ := inv bs k fns ds tb hB
    have := Nat.pow_le_pow_right (n := 2) (by exact om3) (show k ≤ 18 by exact om480 hk)
    exact ⟨h1, h2, h3, by exact om422 hn hnn h4 this⟩
  rw [b_for]
  simp only [wpI, b_assign, b_expr, b_ret, b_setSub, b_setAttr, b_unpack, b_aug, b_augSub, b_cont, b_nil, b_comp, zE0, zE1, zE2, zE3, zE4, zE5, zE6, zE7, zE8, zE9, zE10, zE11, zE12, zE13, zE14, zE15, zE16, zE17, zE18, zE19, zE20, zE21, zE22, zE23, zE24, zE25, zE26, zE27, zE28, zE29, zE30, zE31, zE32, zE33, zE34, zE35, zE36, zE37, zE38, may_some, V.ref.injEq, exists_eq_left', St.get, St.put, List.getElem?_cons_zero, List.getElem?_cons_succ, Option.join_some, List.set_cons_succ, List.set_cons_zero, hG4.at0, len_at hG4.a1 (show G.ns.length < lim by exact om19 hn hl20)]
  refine ⟨_, rfl, by exact om10, by exact om478 hn, for_inv (fun k st => Ex7 fun (o6 o7 o8 : Option V) (H5 : Hp) (fns : Nds) (ds tb : List Nat) => An8 (st = ⟨[some (.obj g), some (.ref ct), some (.ref bt), some (.obj f), some (.ref t), some (.ref dp), o6, o7, o8, none, none, none, none, none, none, none, none, none], H5⟩) (Kp no H H5) (IsG H5 f ⟨fns, inp n, []⟩) (H5[ct]? = some (.list (cs.map nI))) (H5[bt]? = some (.list (bs.map .bool))) (H5[t]? = some (.list (tb.map nI))) (H5[dp]? = some (.list (ds.map nI))) (B bs k fns ds tb)) ?_ ?_ ?_ ?_⟩
  · refine ⟨_, _, _, H4, (G0 n).ns, List.replicate (n + 1) 0, tb, rfl, k14, hf4, hct4, hbt4, ht4, ?_, hB0⟩
    rw [G0_len] at hdp
    rw [List.map_replicate]; exact hdp
  · intros; trivial
  · rintro k v st K hv ⟨o6, o7, o8, H5, fns, ds, tb, rfl, k5, hf, hct, hbt, ht, hdp, hB⟩ kn kc kr
    obtain ⟨hkN, rfl⟩ := ru_at hv
    have hG5 := hG.kp0 k5
    obtain ⟨nd, hnd⟩ : ∃ nd, G.ns[k]? = some nd := ⟨_, List.getElem?_eq_getElem hkN⟩
    obtain ⟨bv, hbv⟩ : ∃ bv, bs[k]? = some bv := ⟨_, List.getElem?_eq_getElem (by exact om0 hkN hbl)⟩
    have hcv := hcs.at' k hkN
    have hcl := hcs.len
    have stay : (G.ns[k]? = some none ∨ bs[k]? = some true ∨ sides G.ns k + ends G.outs k = 0) → K .cont ⟨[some (.obj g), some (.ref ct), some (.ref bt), some (.obj f), some (.ref t), some (.ref dp), some (nI k), o7, o8, none, none, none, none, none, none, none, none, none], H5⟩ := by
      intro hh
      apply kc
      exact ⟨_, _, _, H5, fns, ds, tb, rfl, k5, hf, hct, hbt, ht, hdp, skip bs k fns ds tb hbs hB hkN hh⟩
    simp only [b_assign, b_expr, b_ret, b_setSub, b_setAttr, b_unpack, b_aug, b_augSub, b_cont, b_nil, b_comp, zE0, zE1, zE2, zE3, zE4, zE5, zE6, zE7, zE8, zE9, zE10, zE11, zE12, zE13, zE14, zE15, zE16, zE17, zE18, zE19, zE20, zE21, zE22, zE23, zE24, zE25, zE26, zE27, zE28, zE29, zE30, zE31, zE32, zE33, zE34, zE35, zE36, zE37, zE38, may_some, V.ref.injEq, exists_eq_left', St.get, St.put, List.getElem?_cons_zero, List.getElem?_cons_succ, Option.join_some, List.set_cons_succ, List.set_cons_zero, hG5.at0, sub_at hG5.a1 (by exact om19 hn hl20) hnd, b_ite, zC0, zC1, zC2, zC3, zC4, zC5, zC6, zC7, zC8]
    cases nd with
    | none =>
      simp [ndV, k_cont]
      exact stay (Or.inl hnd)
    | some p =>
      simp [ndV]
      simp only [b_assign, b_expr, b_ret, b_setSub, b_setAttr, b_unpack, b_aug, b_augSub, b_cont, b_nil, b_comp, zE0, zE1, zE2, zE3, zE4, zE5, zE6, zE7, zE8, zE9, zE10, zE11, zE12, zE13, zE14, zE15, zE16, zE17, zE18, zE19, zE20, zE21, zE22, zE23, zE24, zE25, zE26, zE27, zE28, zE29, zE30, zE31, zE32, zE33, zE34, zE35, zE36, zE37, zE38, may_some, V.ref.injEq, exists_eq_left', St.get, St.put, List.getElem?_cons_zero, List.getElem?_cons_succ, Option.join_some, List.set_cons_succ, List.set_cons_zero, sub_at hbt (by exact om16 hn hl20 hbl) hbv, truthV]
      cases bv with
      | true =>
        simp only [if_true, k_cont]
        exact stay (Or.inr (Or.inl hbv))
      | false =>
        simp only [Bool.false_eq_true, if_false, b_assign, b_expr, b_ret, b_setSub, b_setAttr, b_unpack, b_aug, b_augSub, b_cont, b_nil, b_comp, zE0, zE1, zE2, zE3, zE4, zE5, zE6, zE7, zE8, zE9, zE10, zE11, zE12, zE13, zE14, zE15, zE16, zE17, zE18, zE19, zE20, zE21, zE22, zE23, zE24, zE25, zE26, zE27, zE28, zE29, zE30, zE31, zE32, zE33, zE34, zE35, zE36, zE37, zE38, may_some, V.ref.injEq, exists_eq_left', St.get, St.put, List.getElem?_cons_zero, List.getElem?_cons_succ, Option.join_some, List.set_cons_succ, List.set_cons_zero, sub_at hct (by exact om16 hn hl20 hcl) hcv, cmp_eq0]
        by_cases e0 : sides G.ns k + ends G.outs k = 0
        · simp only [e0, decide_true, if_true, k_cont]
          exact stay (Or.inr (Or.inr e0))
        · simp only [e0, decide_false, Bool.false_eq_true, if_false, k_next, alloc]
          have hokk := hw.ok k p.1 p.2 hnd
          obtain ⟨xs, hxs, hxl⟩ := Lv.ex (A := fun j => bs[j]? = some true) hw.low (fun j hj => (hbs.so j hj).2.1) (p.1 / 2 + 1) p.1 (by exact om9) (by exact om42 hokk.2.1 hokk.2.2 hkN)
          obtain ⟨ys, hys, hyl⟩ := Lv.ex (A := fun j => bs[j]? = some true) hw.low (fun j hj => (hbs.so j hj).2.1) (p.2 / 2 + 1) p.2 (by exact om9) (by exact om1 hokk.2.2 hkN)
          have hxy : xs.length + ys.length ≤ 2 ^ k := by
            have h1 : 2 ^ (p.1 / 2) ≤ 2 ^ (k - 1) := Nat.pow_le_pow_right (by exact om3) (by exact om310 hokk.2.1 hokk.2.2)
            have h2 : 2 ^ (p.2 / 2) ≤ 2 ^ (k - 1) := Nat.pow_le_pow_right (by exact om3) (by exact om45 hokk.2.2)
            have h3 : 2 ^ k = 2 * 2 ^ (k - 1) := by rw [← Nat.pow_succ', show (k - 1).succ = k by exact om62 hokk.2.2]
            exact om143 h3 h1 h2 hxl hyl
          have hk18 : 2 ^ k ≤ 2 ^ 18 := Nat.pow_le_pow_right (by exact om3) (by exact om225 hn hkN)
          obtain ⟨i1, i2, i3, i4⟩ := hBi k fns ds tb (by exact om224 hn hkN) hB
          obtain ⟨s1, s2⟩ := step bs k fns ds tb hbs hB p.1 p.2 hnd (by rw [hbv]; simp) e0 xs ys hxs hys hxy
          have l5 := k5.len
          have hg5l := hG5.lt
          have htl5 := lt_of_get ht
          have hdl5 := lt_of_get hdp
          have hfl5 := hf.lt
          obtain ⟨H6, hH6⟩ : ∃ H6, H6 = H5 ++ [.list []] := ⟨_, rfl⟩
          have q6 : Kp no H5 H6 := hH6 ▸ Kp.app Kp.rfl _
          have h6 : H6[H5.length]? = some (.list []) := by rw [hH6]; simp
          rw [← hH6, b_for]
          simp only [wpI, zE0, zE1, zE2, zE3, zE4, zE5, zE6, zE7, zE8, zE9, zE10, zE11, zE12, zE13, zE14, zE15, zE16, zE17, zE18, zE19, zE20, zE21, zE22, zE23, zE24, zE25, zE26, zE27, zE28, zE29, zE30, zE31, zE32, zE33, zE34, zE35, zE36, zE37, zE38, may_some, St.get, St.put, List.getElem?_cons_zero, List.getElem?_cons_succ, Option.join_some, List.set_cons_succ, List.set_cons_zero]
          refine c_leaves (hG5.kp0 q6) (by exact om19 hn hl20) (q6.get hbt (fun h => h)) hbl hnd hxs hys (by exact om336 hl20 hk18 hxy) ?_
          intro H7 lt hlt hltl q7
          have q57 := q6.trans q7 (fun _ _ h => h)
          have h6l := lt_of_get h6
          refine ⟨_, hlt, by simp; exact om337 hl20 hk18 hxy, for_inv (fun j st => Ex2 fun (o8 : Option V) (H8 : Hp) => An3 (st = ⟨[some (.obj g), some (.ref ct), some (.ref bt), some (.obj f), some (.ref t), some (.ref dp), some (nI k), some (.ref H5.length), o8, none, none, none, none, none, none, none, none, none], H8⟩) (Kp (fun i => i = H5.length) H7 H8) (H8[H5.length]? = some (.list ((((xs ++ ys).take j).map (mvd tb)).map nI)))) ?_ ?_ ?_ ?_⟩
          · exact ⟨_, H7, rfl, Kp.rfl, q7.get h6 (fun h => h)⟩
          · rintro j st ⟨o8, H8, rfl, q8, _⟩
            exact q8.get hlt (by exact om114 h6l hltl)
          · rintro j v st K' hv ⟨o8, H8, rfl, q8, h8⟩ kn' kc' kr'
            obtain ⟨l, hjl, rfl⟩ := map_at hv
            have hlm := s1 l (mem_at hjl)
            have hjL := (List.getElem?_eq_some_iff.1 hjl).1
            rw [List.length_append] at hjL
            have ht8 := q8.get (q57.get ht (fun h => h)) (by exact om13 htl5)
            simp only [b_assign, b_expr, b_ret, b_setSub, b_setAttr, b_unpack, b_aug, b_augSub, b_cont, b_nil, b_comp, zE0, zE1, zE2, zE3, zE4, zE5, zE6, zE7, zE8, zE9, zE10, zE11, zE12, zE13, zE14, zE15, zE16, zE17, zE18, zE19, zE20, zE21, zE22, zE23, zE24, zE25, zE26, zE27, zE28, zE29, zE30, zE31, zE32, zE33, zE34, zE35, zE36, zE37, zE38, may_some, V.ref.injEq, exists_eq_left', St.get, St.put, List.getElem?_cons_zero, List.getElem?_cons_succ, Option.join_some, List.set_cons_succ, List.set_cons_zero]
            refine ⟨isL_at h8, ?_⟩
            refine c_moved ht8 (by exact om16 hn hl20 i3) (dget_eq (by exact om0 hlm.1 i3)) ?_
            have hll : (((xs ++ ys).take j).map (mvd tb)).length < lim := by simp; exact om402 hl20 hk18 hxy
            simp only [b_assign, b_expr, b_ret, b_setSub, b_setAttr, b_unpack, b_aug, b_augSub, b_cont, b_nil, b_comp, zE0, zE1, zE2, zE3, zE4, zE5, zE6, zE7, zE8, zE9, zE10, zE11, zE12, zE13, zE14, zE15, zE16, zE17, zE18, zE19, zE20, zE21, zE22, zE23, zE24, zE25, zE26, zE27, zE28, zE29, zE30, zE31, zE32, zE33, zE34, zE35, zE36, zE37, zE38, may_some, V.ref.injEq, exists_eq_left', St.get, St.put, List.getElem?_cons_zero, List.getElem?_cons_succ, Option.join_some, List.set_cons_succ, List.set_cons_zero, app_at h8 hll (mvd tb l) (v := nI (dget tb l ^^^ (l % 2))) rfl, true_and]
            apply kn'
            refine ⟨_, _, rfl, q8.set (fun _ => rfl), ?_⟩
            rw [List.getElem?_set_self (lt_of_get h8), List.take_add_one, hjl]
            simp
          · rintro st ⟨o8, H8, rfl, q8, h8⟩
            rw [List.length_map, List.take_of_length_le (Nat.le_refl _)] at h8
            have l7 := q57.len
            have e5 : ∀ i, i < H5.length → ¬ (fun i => i = H5.length) i := fun i hi h => by simp only at h; exact om92 hi h
            have ht8 := q8.get (q57.get ht (fun h => h)) (by exact om13 htl5)
            have hct8 := q8.get (q57.get hct (fun h => h)) (by exact om463 hctl1 hbtl hbtl1 hdpl l3 hdl5)
            have hbt8 := q8.get (q57.get hbt (fun h => h)) (by exact om430 hbtl1 l3 hdpl hdl5)
            have hdp8 := q8.get (q57.get hdp (fun h => h)) (by exact om13 hdl5)
            have hf8 : IsG H8 f ⟨fns, inp n, []⟩ := (hf.kp0 q57).kp q8 (by intro i h1 h2 h3; exact om28 hfl5 h3 h2)
            have k8 : Kp no H H8 := (k5.trans q57 (fun _ _ h => h)).trans q8 (by intro i h1 h2; exact om170 h1 h2 l5)
            simp only [k_next, b_assign, b_expr, b_ret, b_setSub, b_setAttr, b_unpack, b_aug, b_augSub, b_cont, b_nil, b_comp, zE0, zE1, zE2, zE3, zE4, zE5, zE6, zE7, zE8, zE9, zE10, zE11, zE12, zE13, zE14, zE15, zE16, zE17, zE18, zE19, zE20, zE21, zE22, zE23, zE24, zE25, zE26, zE27, zE28, zE29, zE30, zE31, zE32, zE33, zE34, zE35, zE36, zE37, zE38, may_some, V.ref.injEq, exists_eq_left', St.get, St.put, List.getElem?_cons_zero, List.getElem?_cons_succ, Option.join_some, List.set_cons_succ, List.set_cons_zero]
            refine c_join' hf8 hdp8 h8 (by unfold gr; exact om426 hft htl1 hdpl) i1 i2 ?_ ?_ ?_ ?_
            · intro l hl
              obtain ⟨l', hl', rfl⟩ := List.mem_map.1 hl
              exact (s1 l' hl').2
            · have := hxs.pos
              intro h9
              have h10 := congrArg List.length h9
              rw [List.length_map, List.length_append, List.length_nil] at h10; exact om247 h10 this
            · simp only [List.length_map, List.length_append]; exact om401 hl20 i4 hk18 hxy
            · intro fns' ds' res hJ H9 hf9 hdp9 q9
              have ht9 := q9.get ht8 (by unfold gr; exact om427 hft htl1 hdpl)
              simp only [b_assign, b_expr, b_ret, b_setSub, b_setAttr, b_unpack, b_aug, b_augSub, b_cont, b_nil, b_comp, zE0, zE1, zE2, zE3, zE4, zE5, zE6, zE7, zE8, zE9, zE10, zE11, zE12, zE13, zE14, zE15, zE16, zE17, zE18, zE19, zE20, zE21, zE22, zE23, zE24, zE25, zE26, zE27, zE28, zE29, zE30, zE31, zE32, zE33, zE34, zE35, zE36, zE37, zE38, may_some, V.ref.injEq, exists_eq_left', St.get, St.put, List.getElem?_cons_zero, List.getElem?_cons_succ, Option.join_some, List.set_cons_succ, List.set_cons_zero, set_at ht9 (by exact om16 hn hl20 i3) (show k < tb.length by exact om0 hkN i3) res rfl]
              apply kn
              have qs : Kp (fun i => i = t) H9 (H9.set t (.list ((tb.set k res).map nI))) := Kp.rfl.set (fun _ => rfl)
              refine ⟨_, _, _, _, fns', ds', tb.set k res, rfl, (k8.trans q9 (by intro i h1 h2; unfold gr at h2; exact om179 hctl hctl1 hbtl hbtl1 hfl hft htl1 hdpl h1 h2)).set (by exact om176 hctl hctl1 hbtl hbtl1 hfl hft), hf9.kp qs (by intro i h1 h2 h3; exact om28 hft h3 h2), ?_, ?_, ?_, ?_, s2 fns' ds' res hJ⟩
              · exact qs.get (q9.get hct8 (by unfold gr; exact om467 hctl1 hbtl hbtl1 hfl hft htl1 hdpl)) (by exact om453 hft hbtl1 hfl hctl1 hbtl)
              · exact qs.get (q9.get hbt8 (by unfold gr; exact om452 hft htl1 hdpl hbtl1 hfl)) (by exact om367 hft hbtl1 hfl)
              · rw [List.getElem?_set_self (lt_of_get ht9)]
              · exact qs.get hdp9 (by exact om114 htl1 hdpl)
  · rintro st ⟨o6, o7, o8, H5, fns, ds, tb, rfl, k5, hf, hct, hbt, ht, hdp, hB⟩
    rw [ru_len] at hB
    have hG5 := hG.kp0 k5
    obtain ⟨i1, i2, i3, i4⟩ := hBi _ fns ds tb (by exact om479 hn) hB
    simp only [k_next, b_assign, b_expr, b_ret, b_setSub, b_setAttr, b_unpack, b_aug, b_augSub, b_cont, b_nil, b_comp, zE0, zE1, zE2, zE3, zE4, zE5, zE6, zE7, zE8, zE9, zE10, zE11, zE12, zE13, zE14, zE15, zE16, zE17, zE18, zE19, zE20, zE21, zE22, zE23, zE24, zE25, zE26, zE27, zE28, zE29, zE30, zE31, zE32, zE33, zE34, zE35, zE36, zE37, zE38, may_some, V.ref.injEq, exists_eq_left', St.get, St.put, List.getElem?_cons_zero, List.getElem?_cons_succ, Option.join_some, List.set_cons_succ, List.set_cons_zero]
    refine c_finish hG5 hf ht (by exact om462 hlt hctl hctl1 hbtl hbtl1 hfl) (by unfold gr; exact om72 hft) (by exact om16 hn hl20 i3) ho (by intro o ho; rw [i3]; exact hO o ho) i1 rfl rfl (outs bs fns ds tb hbs hB) (by simp only; exact om257 hl20 i4) ?_
    intro H6 g' us ns' M hg hgl k6 hU hS
    have := k5.len
    simp only [Fl.val, may_some]
    exact h _ g' bs fns ds tb us ns' M hbs hB hg (by exact om51 this hgl) (k5.trans k6 (by intro i h1 h2; unfold gr at h2; exact om177 hctl hctl1 hbtl hbtl1 hfl h1 h2.1)) hU hS
end Mine
end

-- part C8
section
set_option Elab.async false
set_option linter.unusedVariables false
set_option linter.unusedSimpArgs false
namespace Mine

theorem bi_shl {a k : Nat} (hk : k ≤ 1000) (ha : a < 2 ^ 1000) : binV .shl (nI a) (nI k) = some (nI (a * 2 ^ k)) := by
  simp only [binV, binI]
  rw [if_pos ⟨by exact om21, by exact om497 hk, by simpa using ha⟩]
  simp
theorem bi_shl1 {k : Nat} (hk : k ≤ 1000) : binV .shl (.int 1) (nI k) = some (nI (2 ^ k)) := by
  have := bi_shl (a := 1) hk (by exact Nat.one_lt_two_pow (by decide))
  rw [Nat.one_mul] at this; exact this
theorem bi_sub1 {a : Nat} (h : 1 ≤ a) : binV .sub (nI a) (.int 1) = some (nI (a - 1)) := by
  simp only [binV, binI, Option.map_some]; congr 2; exact om495 h

theorem ru2_at {a b k : Nat} {v : V} (h : (rangeUp (a : Int) (b : Int))[k]? = some v) : k < b - a ∧ v = nI (a + k) := by
  unfold rangeUp at h
  rw [List.getElem?_map] at h
  have e : ((b : Int) - (a : Int)).toNat = b - a := by exact om288
  rw [e] at h
  by_cases hk : k < b - a
  · rw [List.getElem?_range hk] at h
    simp at h
    exact ⟨hk, by rw [← h]; simp⟩
  · rw [List.getElem?_eq_none (by simp; exact om355 hk)] at h; simp at h
theorem ru2_len {a b : Nat} : (rangeUp (a : Int) (b : Int)).length = b - a := by unfold rangeUp; simp

noncomputable def colS (i : Nat) : Nat → Nat
  | 0 => (2 ^ (2 ^ i) - 1) * 2 ^ (2 ^ i)
  | k + 1 => colS i k ||| colS i k * 2 ^ (2 ^ (i + 1 + k))
noncomputable def colN (i n : Nat) : Nat := colS i (n - (i + 1))
theorem colS_lt (i : Nat) : ∀ k, colS i k < 2 ^ (2 ^ (i + 1 + k))
  | 0 => by
    have h : 0 < 2 ^ (2 ^ i) := Nat.two_pow_pos _
    have e : 2 ^ (2 ^ (i + 1)) = 2 ^ (2 ^ i) * 2 ^ (2 ^ i) := by rw [← Nat.pow_add, Nat.pow_succ]; congr 1; exact om155
    simp only [colS, Nat.add_zero]
    rw [e]
    exact Nat.mul_lt_mul_of_pos_right (by exact om144 h) h
  | k + 1 => by
    have ih := colS_lt i k
    have e : 2 ^ (2 ^ (i + 1 + (k + 1))) = 2 ^ (2 ^ (i + 1 + k)) * 2 ^ (2 ^ (i + 1 + k)) := by
      rw [← Nat.pow_add, ← Nat.add_assoc, Nat.pow_succ]; congr 1; exact om155
    simp only [colS]
    apply Nat.or_lt_two_pow
    · rw [e]; exact Nat.lt_of_lt_of_le ih (Nat.le_mul_of_pos_right _ (Nat.two_pow_pos _))
    · rw [e]; exact Nat.mul_lt_mul_of_pos_right ih (Nat.two_pow_pos _)
theorem colN_lt {i n : Nat} (h : i < n) : colN i n < 2 ^ (2 ^ n) := by
  have := colS_lt i (n - (i + 1))
  rw [show i + 1 + (n - (i + 1)) = n by exact om239 h] at this; exact this

theorem pow2_128 {n : Nat} (h : n ≤ 7) : 2 ^ n ≤ 128 := Nat.pow_le_pow_right (n := 2) (by exact om3) h
theorem pow2_big {n : Nat} (h : n ≤ 7) : 2 ^ (2 ^ n) ≤ 2 ^ 128 := Nat.pow_le_pow_right (n := 2) (by exact om3) (pow2_128 h)
theorem big_lt : 2 ^ 128 < 2 ^ 1000 := Nat.pow_lt_pow_right (by exact om158) (by exact om547)

theorem c_column {d : Nat} {H : Hp} {i n : Nat} {Q : V → Hp → Prop} (hi : i < n) (hn : n ≤ 7) (h : Q (nI (colN i n)) H) : wpCall defs (d + 1) 16 [nI i, nI n] H Q := by
  refine call_in 2 5 b_law_column rfl rfl ?_
  unfold b_law_column
  have p1 := pow2_128 (n := i) (by exact om94 hi hn)
  have p2 := pow2_big (n := i) (by exact om94 hi hn)
  have p0 : 0 < 2 ^ (2 ^ i) := Nat.two_pow_pos _
  have b := big_lt
  have hc : 2 ^ (2 ^ i) - 1 < 2 ^ 1000 := by exact om496 p2
  simp only [List.map_cons, List.map_nil, List.cons_append, List.nil_append, List.replicate_succ, List.replicate_zero]
  rw [b_assign]
  simp only [zE0, zE1, zE2, zE3, zE4, zE5, zE6, zE7, zE8, zE9, zE10, zE11, zE12, zE13, zE14, zE15, zE16, zE17, zE18, zE19, zE20, zE21, zE22, zE23, zE24, zE25, zE26, zE27, zE28, zE29, zE30, zE31, zE32, zE33, zE34, zE35, zE36, zE37, zE38, may_some, St.get, St.put, List.getElem?_cons_zero, List.getElem?_cons_succ, Option.join_some, List.set_cons_succ, List.set_cons_zero, bi_shl1 (show i ≤ 1000 by exact om234 hi hn), bi_shl1 (show 2 ^ i ≤ 1000 by exact om43 p1), bi_sub1 (show 1 ≤ 2 ^ (2 ^ i) from p0), bi_shl (show 2 ^ i ≤ 1000 by exact om43 p1) hc]
  rw [b_for]
  simp only [wpI, b_assign, b_expr, b_ret, b_setSub, b_setAttr, b_unpack, b_aug, b_augSub, b_cont, b_nil, b_comp, zE0, zE1, zE2, zE3, zE4, zE5, zE6, zE7, zE8, zE9, zE10, zE11, zE12, zE13, zE14, zE15, zE16, zE17, zE18, zE19, zE20, zE21, zE22, zE23, zE24, zE25, zE26, zE27, zE28, zE29, zE30, zE31, zE32, zE33, zE34, zE35, zE36, zE37, zE38, may_some, V.ref.injEq, exists_eq_left', St.get, St.put, List.getElem?_cons_zero, List.getElem?_cons_succ, Option.join_some, List.set_cons_succ, List.set_cons_zero, bi_add1]
  refine ⟨_, _, rfl, rfl, by exact om21, by exact om233 hi hn, by exact om10, by exact om151 hn, for_inv (fun k st => ∃ (o3 : Option V), st = ⟨[some (nI i), some (nI n), some (nI (colS i k)), o3, none], H⟩) ⟨_, rfl⟩ ?_ ?_ ?_⟩
  · intros; trivial
  · rintro k v st K hv ⟨o3, rfl⟩ kn kc kr
    obtain ⟨hk, rfl⟩ := ru2_at hv
    have p3 := pow2_128 (n := i + 1 + k) (by exact om111 hk hn)
    have p4 := pow2_big (n := i + 1 + k) (by exact om111 hk hn)
    have := colS_lt i k
    simp only [b_assign, b_expr, b_ret, b_setSub, b_setAttr, b_unpack, b_aug, b_augSub, b_cont, b_nil, b_comp, zE0, zE1, zE2, zE3, zE4, zE5, zE6, zE7, zE8, zE9, zE10, zE11, zE12, zE13, zE14, zE15, zE16, zE17, zE18, zE19, zE20, zE21, zE22, zE23, zE24, zE25, zE26, zE27, zE28, zE29, zE30, zE31, zE32, zE33, zE34, zE35, zE36, zE37, zE38, may_some, V.ref.injEq, exists_eq_left', St.get, St.put, List.getElem?_cons_zero, List.getElem?_cons_succ, Option.join_some, List.set_cons_succ, List.set_cons_zero, bi_shl1 (show i + 1 + k ≤ 1000 by exact om302 hk hn), bi_shl (show 2 ^ (i + 1 + k) ≤ 1000 by exact om43 p3) (show colS i k < 2 ^ 1000 by exact om232 this p4), bi_or]
    exact kn _ ⟨_, rfl⟩
  · rintro st ⟨o3, rfl⟩
    rw [ru2_len]
    simp only [k_next, b_assign, b_expr, b_ret, b_setSub, b_setAttr, b_unpack, b_aug, b_augSub, b_cont, b_nil, b_comp, zE0, zE1, zE2, zE3, zE4, zE5, zE6, zE7, zE8, zE9, zE10, zE11, zE12, zE13, zE14, zE15, zE16, zE17, zE18, zE19, zE20, zE21, zE22, zE23, zE24, zE25, zE26, zE27, zE28, zE29, zE30, zE31, zE32, zE33, zE34, zE35, zE36, zE37, zE38, may_some, V.ref.injEq, exists_eq_left', St.get, St.put, List.getElem?_cons_zero, List.getElem?_cons_succ, Option.join_some, List.set_cons_succ, List.set_cons_zero, Fl.val]
    exact h

structure ColR (n : Nat) (ns : Nds) (cl : List Nat) : Prop where
  len : cl.length = ns.length
  zero : dep cl 0 = 0
  inp : ∀ i, i < n → dep cl (i + 1) = colN i n
  and : ∀ i l r, ns[i]? = some (some (l, r)) → dep cl i = ((2 ^ (2 ^ n) - 1) &&& (dep cl (l / 2) ^^^ (if l % 2 = 1 then 2 ^ (2 ^ n) - 1 else 0))) &&& (dep cl (r / 2) ^^^ (if r % 2 = 1 then 2 ^ (2 ^ n) - 1 else 0))

theorem dep_at {cl : List Nat} {i : Nat} (h : i < cl.length) : cl[i]? = some (dep cl i) := by unfold dep; rw [List.getElem?_eq_getElem h]; rfl

theorem c_columns {d : Nat} {H : Hp} {g n : Nat} {G : Gr} {Q : V → Hp → Prop} (hG : IsG H g G) (hw : WG n G.ns) (hi : G.ins = inp n) (hn : n ≤ 7) (hN : G.ns.length < lim)
    (h : ∀ H' t cl, H'[t]? = some (.list (cl.map nI)) → H.length ≤ t → Kp no H H' → ColR n G.ns cl → Q (.ref t) H') : wpCall defs (d + 2) 17 [.obj g] H Q := by
  refine call_in 1 12 b_law_columns rfl rfl ?_
  unfold b_law_columns
  have hlt := hG.lt
  have hnn := hw.len
  have hl20 : lim = 2 ^ 20 := rfl
  have p1 := pow2_128 hn
  have p0 : 0 < 2 ^ (2 ^ n) := Nat.two_pow_pos _
  simp only [List.map_cons, List.map_nil, List.cons_append, List.nil_append, List.replicate_succ, List.replicate_zero]
  have hil : G.ins.length = n := by rw [hi, inp_len]
  have hil' : G.ins.length < lim := by exact om126 hl20 hil hn
  rw [b_assign]
  simp only [zE0, zE1, zE2, zE3, zE4, zE5, zE6, zE7, zE8, zE9, zE10, zE11, zE12, zE13, zE14, zE15, zE16, zE17, zE18, zE19, zE20, zE21, zE22, zE23, zE24, zE25, zE26, zE27, zE28, zE29, zE30, zE31, zE32, zE33, zE34, zE35, zE36, zE37, zE38, may_some, St.get, St.put, List.getElem?_cons_zero, List.getElem?_cons_succ, Option.join_some, List.set_cons_succ, List.set_cons_zero, hG.at1, len_at hG.a2 hil']
  rw [hil, b_assign]
  simp only [zE0, zE1, zE2, zE3, zE4, zE5, zE6, zE7, zE8, zE9, zE10, zE11, zE12, zE13, zE14, zE15, zE16, zE17, zE18, zE19, zE20, zE21, zE22, zE23, zE24, zE25, zE26, zE27, zE28, zE29, zE30, zE31, zE32, zE33, zE34, zE35, zE36, zE37, zE38, may_some, St.get, St.put, List.getElem?_cons_zero, List.getElem?_cons_succ, Option.join_some, List.set_cons_succ, List.set_cons_zero, bi_shl1 (show n ≤ 1000 by exact om152 hn), bi_shl1 (show 2 ^ n ≤ 1000 by exact om43 p1), bi_sub1 (show 1 ≤ 2 ^ (2 ^ n) from p0)]
  rw [b_assign]
  refine e_repl (.int 0) (fun _ _ => by simp only [zE0, zE1, zE2, zE3, zE4, zE5, zE6, zE7, zE8, zE9, zE10, zE11, zE12, zE13, zE14, zE15, zE16, zE17, zE18, zE19, zE20, zE21, zE22, zE23, zE24, zE25, zE26, zE27, zE28, zE29, zE30, zE31, zE32, zE33, zE34, zE35, zE36, zE37, zE38]) rfl hG hN ?_
  intro H1 t ht htl k1
  simp only [St.get, St.put, List.getElem?_cons_zero, List.getElem?_cons_succ, Option.join_some, List.set_cons_succ, List.set_cons_zero] at htl k1 ⊢
  have hG1 := hG.kp0 k1
  rw [b_for]
  simp only [wpI, b_assign, b_expr, b_ret, b_setSub, b_setAttr, b_unpack, b_aug, b_augSub, b_cont, b_nil, b_comp, zE0, zE1, zE2, zE3, zE4, zE5, zE6, zE7, zE8, zE9, zE10, zE11, zE12, zE13, zE14, zE15, zE16, zE17, zE18, zE19, zE20, zE21, zE22, zE23, zE24, zE25, zE26, zE27, zE28, zE29, zE30, zE31, zE32, zE33, zE34, zE35, zE36, zE37, zE38, may_some, V.ref.injEq, exists_eq_left', St.get, St.put, List.getElem?_cons_zero, List.getElem?_cons_succ, Option.join_some, List.set_cons_succ, List.set_cons_zero]
  refine ⟨_, rfl, by exact om10, by exact om151 hn, for_inv (fun k st => Ex3 fun (o4 : Option V) (H2 : Hp) (cl : List Nat) => An4 (st = ⟨[some (.obj g), some (nI n), some (nI (2 ^ (2 ^ n) - 1)), some (.ref t), o4, none, none, none, none, none, none, none], H2⟩) (Kp no H H2) (H2[t]? = some (.list (cl.map nI))) (Fn cl G.ns.length (fun i => if 0 < i ∧ i ≤ k then colN (i - 1) n else 0))) ?_ ?_ ?_ ?_⟩
  · exact ⟨_, H1, List.replicate G.ns.length 0, rfl, k1, by rw [List.map_replicate]; exact ht, Fn.repl.congr (by intro i _; rw [if_neg (by exact om536)])⟩
  · intros; trivial
  · rintro k v st K hv ⟨o4, H2, cl, rfl, k2, h2, hF⟩ kn kc kr
    obtain ⟨hk, rfl⟩ := ru_at hv
    have hG2 := hG.kp0 k2
    have hx : G.ins[k]? = some (k + 1) := by rw [hi, inp, List.getElem?_map, List.getElem?_range hk]; rfl
    have hl := hF.len
    simp only [b_assign, b_expr, b_ret, b_setSub, b_setAttr, b_unpack, b_aug, b_augSub, b_cont, b_nil, b_comp, zE0, zE1, zE2, zE3, zE4, zE5, zE6, zE7, zE8, zE9, zE10, zE11, zE12, zE13, zE14, zE15, zE16, zE17, zE18, zE19, zE20, zE21, zE22, zE23, zE24, zE25, zE26, zE27, zE28, zE29, zE30, zE31, zE32, zE33, zE34, zE35, zE36, zE37, zE38, may_some, V.ref.injEq, exists_eq_left', St.get, St.put, List.getElem?_cons_zero, List.getElem?_cons_succ, Option.join_some, List.set_cons_succ, List.set_cons_zero]
    refine c_column hk hn ?_
    simp only [b_assign, b_expr, b_ret, b_setSub, b_setAttr, b_unpack, b_aug, b_augSub, b_cont, b_nil, b_comp, zE0, zE1, zE2, zE3, zE4, zE5, zE6, zE7, zE8, zE9, zE10, zE11, zE12, zE13, zE14, zE15, zE16, zE17, zE18, zE19, zE20, zE21, zE22, zE23, zE24, zE25, zE26, zE27, zE28, zE29, zE30, zE31, zE32, zE33, zE34, zE35, zE36, zE37, zE38, may_some, V.ref.injEq, exists_eq_left', St.get, St.put, List.getElem?_cons_zero, List.getElem?_cons_succ, Option.join_some, List.set_cons_succ, List.set_cons_zero, hG2.at1, sub_at hG2.a2 hil' hx, set_at h2 (by exact om27 hN hl) (show k + 1 < cl.length by exact om377 hk hnn hl) (colN k n) rfl]
    apply kn
    refine ⟨_, _, cl.set (k + 1) (colN k n), rfl, k2.set (by exact om7 htl), by rw [List.getElem?_set_self (lt_of_get h2)], (hF.set _ _).congr ?_⟩
    intro i hi
    by_cases e : i = k + 1
    · subst e; simp
    · rw [if_neg e]; by_cases e2 : 0 < i ∧ i ≤ k
      · rw [if_pos e2, if_pos (by exact om219 e2.1 e2.2)]
      · rw [if_neg e2, if_neg (by exact om285 e2 e)]
  · rintro st ⟨o4, H2, cl, rfl, k2, h2, hF⟩
    rw [ru_len] at hF
    have hG2 := hG.kp0 k2
    rw [k_next, b_for]
    simp only [wpI, b_assign, b_expr, b_ret, b_setSub, b_setAttr, b_unpack, b_aug, b_augSub, b_cont, b_nil, b_comp, zE0, zE1, zE2, zE3, zE4, zE5, zE6, zE7, zE8, zE9, zE10, zE11, zE12, zE13, zE14, zE15, zE16, zE17, zE18, zE19, zE20, zE21, zE22, zE23, zE24, zE25, zE26, zE27, zE28, zE29, zE30, zE31, zE32, zE33, zE34, zE35, zE36, zE37, zE38, may_some, V.ref.injEq, exists_eq_left', St.get, St.put, List.getElem?_cons_zero, List.getElem?_cons_succ, Option.join_some, List.set_cons_succ, List.set_cons_zero, hG2.at0, len_at hG2.a1 hN]
    refine ⟨_, rfl, by exact om10, by exact om93 hN hl20, for_inv (fun k st => Ex6 fun (o5 o6 o7 o8 : Option V) (H2 : Hp) (cl : List Nat) => An7 (st = ⟨[some (.obj g), some (nI n), some (nI (2 ^ (2 ^ n) - 1)), some (.ref t), o4, o5, o6, o7, o8, none, none, none], H2⟩) (Kp no H H2) (H2[t]? = some (.list (cl.map nI))) (cl.length = G.ns.length) (dep cl 0 = 0) ((∀ i, i < n → dep cl (i + 1) = colN i n)) (∀ i l r, i < k → G.ns[i]? = some (some (l, r)) → dep cl i = ((2 ^ (2 ^ n) - 1) &&& (dep cl (l / 2) ^^^ (if l % 2 = 1 then 2 ^ (2 ^ n) - 1 else 0))) &&& (dep cl (r / 2) ^^^ (if r % 2 = 1 then 2 ^ (2 ^ n) - 1 else 0)))) ?_ ?_ ?_ ?_⟩
    · refine ⟨_, _, _, _, H2, cl, rfl, k2, h2, hF.len, ?_, ?_, fun _ _ _ h => by exact om80 h⟩
      · unfold dep; rw [hF.at' 0 (by exact om61 hnn), if_neg (by exact om535)]; rfl
      · intro i hi; unfold dep; rw [hF.at' (i + 1) (by exact om69 hi hnn), if_pos (by exact om244 hi)]; rfl
    · intros; trivial
    · rintro k v st K hv ⟨o5, o6, o7, o8, H2, cl, rfl, k2, h2, hl, hz, hin, hc⟩ kn kc kr
      obtain ⟨hkN, rfl⟩ := ru_at hv
      have hG2 := hG.kp0 k2
      obtain ⟨nd, hnd⟩ : ∃ nd, G.ns[k]? = some nd := ⟨_, List.getElem?_eq_getElem hkN⟩
      simp only [b_assign, b_expr, b_ret, b_setSub, b_setAttr, b_unpack, b_aug, b_augSub, b_cont, b_nil, b_comp, zE0, zE1, zE2, zE3, zE4, zE5, zE6, zE7, zE8, zE9, zE10, zE11, zE12, zE13, zE14, zE15, zE16, zE17, zE18, zE19, zE20, zE21, zE22, zE23, zE24, zE25, zE26, zE27, zE28, zE29, zE30, zE31, zE32, zE33, zE34, zE35, zE36, zE37, zE38, may_some, V.ref.injEq, exists_eq_left', St.get, St.put, List.getElem?_cons_zero, List.getElem?_cons_succ, Option.join_some, List.set_cons_succ, List.set_cons_zero, hG2.at0, sub_at hG2.a1 hN hnd, b_ite, zC0, zC1, zC2, zC3, zC4, zC5, zC6, zC7, zC8]
      cases nd with
      | none =>
        simp [ndV, k_next]
        apply kn
        refine ⟨_, _, _, _, H2, cl, rfl, k2, h2, hl, hz, hin, ?_⟩
        intro i l r hi hnd'
        by_cases e : i = k
        · subst e; rw [hnd] at hnd'; cases hnd'
        · exact hc i l r (by exact om2 hi e) hnd'
      | some p =>
        have hok := hw.ok _ _ _ hnd
        have hkn : n < k := by
          apply Nat.lt_of_not_le; intro h1
          rw [hw.base k h1] at hnd; cases hnd
        simp [ndV, k_next]
        have side : ∀ (q both : Nat) (o8 : Option V) (K' : Fl → St → Prop), q / 2 < G.ns.length →
            (K' .next ⟨[some (.obj g), some (nI n), some (nI (2 ^ (2 ^ n) - 1)), some (.ref t), o4, some (nI k), some (.pair (nI p.1) (nI p.2)), some (nI (both &&& (dep cl (q / 2) ^^^ (if q % 2 = 1 then 2 ^ (2 ^ n) - 1 else 0)))), some (nI q), none, none, none], H2⟩) →
            wpB (wpCall defs (d + 1)) (.cons (.aug 7 .and (.bin .xor (.sub (.var 3) (.bin .shr (.var 8) (.int 1))) (.ite (.cmp .eq (.bin .and (.var 8) (.int 1)) (.int 1)) (.var 2) (.int 0)))) .nil)
              ⟨[some (.obj g), some (nI n), some (nI (2 ^ (2 ^ n) - 1)), some (.ref t), o4, some (nI k), some (.pair (nI p.1) (nI p.2)), some (nI both), some (nI q), none, none, none], H2⟩ K' := by
          intro q both o8 K' hq hK
          simp only [b_assign, b_expr, b_ret, b_setSub, b_setAttr, b_unpack, b_aug, b_augSub, b_cont, b_nil, b_comp, zE0, zE1, zE2, zE3, zE4, zE5, zE6, zE7, zE8, zE9, zE10, zE11, zE12, zE13, zE14, zE15, zE16, zE17, zE18, zE19, zE20, zE21, zE22, zE23, zE24, zE25, zE26, zE27, zE28, zE29, zE30, zE31, zE32, zE33, zE34, zE35, zE36, zE37, zE38, may_some, V.ref.injEq, exists_eq_left', St.get, St.put, List.getElem?_cons_zero, List.getElem?_cons_succ, Option.join_some, List.set_cons_succ, List.set_cons_zero, zC0, zC1, zC2, zC3, zC4, zC5, zC6, zC7, zC8, bi_shr, bi_and1, cmp_eq1, sub_at h2 (by exact om27 hN hl) (dep_at (show q / 2 < cl.length by exact om0 hq hl))]
          by_cases e : q % 2 = 1
          · simp only [e, decide_true, if_true, b_assign, b_expr, b_ret, b_setSub, b_setAttr, b_unpack, b_aug, b_augSub, b_cont, b_nil, b_comp, zE0, zE1, zE2, zE3, zE4, zE5, zE6, zE7, zE8, zE9, zE10, zE11, zE12, zE13, zE14, zE15, zE16, zE17, zE18, zE19, zE20, zE21, zE22, zE23, zE24, zE25, zE26, zE27, zE28, zE29, zE30, zE31, zE32, zE33, zE34, zE35, zE36, zE37, zE38, may_some, V.ref.injEq, exists_eq_left', St.get, St.put, List.getElem?_cons_zero, List.getElem?_cons_succ, Option.join_some, List.set_cons_succ, List.set_cons_zero, bi_xor, bi_and] at hK ⊢
            exact hK
          · simp only [e, decide_false, if_false, Bool.false_eq_true, b_assign, b_expr, b_ret, b_setSub, b_setAttr, b_unpack, b_aug, b_augSub, b_cont, b_nil, b_comp, zE0, zE1, zE2, zE3, zE4, zE5, zE6, zE7, zE8, zE9, zE10, zE11, zE12, zE13, zE14, zE15, zE16, zE17, zE18, zE19, zE20, zE21, zE22, zE23, zE24, zE25, zE26, zE27, zE28, zE29, zE30, zE31, zE32, zE33, zE34, zE35, zE36, zE37, zE38, may_some, V.ref.injEq, exists_eq_left', St.get, St.put, List.getElem?_cons_zero, List.getElem?_cons_succ, Option.join_some, List.set_cons_succ, List.set_cons_zero, show (V.int 0) = nI 0 from rfl, bi_xor, bi_and] at hK ⊢
            exact hK
        rw [b_for]
        simp only [wpI, zE0, zE1, zE2, zE3, zE4, zE5, zE6, zE7, zE8, zE9, zE10, zE11, zE12, zE13, zE14, zE15, zE16, zE17, zE18, zE19, zE20, zE21, zE22, zE23, zE24, zE25, zE26, zE27, zE28, zE29, zE30, zE31, zE32, zE33, zE34, zE35, zE36, zE37, zE38, may_some, St.get, St.put, List.getElem?_cons_zero, List.getElem?_cons_succ, Option.join_some, List.set_cons_succ, List.set_cons_zero]
        rw [wpFor_cons]
        refine ⟨trivial, side p.1 _ none _ (by exact om42 hok.2.1 hok.2.2 hkN) ?_⟩
        rw [w_next, wpFor_cons]
        refine ⟨trivial, side p.2 _ none _ (by exact om1 hok.2.2 hkN) ?_⟩
        rw [w_next, wpFor_nil]
        refine ⟨trivial, ?_⟩
        rw [k_next]
        simp only [b_assign, b_expr, b_ret, b_setSub, b_setAttr, b_unpack, b_aug, b_augSub, b_cont, b_nil, b_comp, zE0, zE1, zE2, zE3, zE4, zE5, zE6, zE7, zE8, zE9, zE10, zE11, zE12, zE13, zE14, zE15, zE16, zE17, zE18, zE19, zE20, zE21, zE22, zE23, zE24, zE25, zE26, zE27, zE28, zE29, zE30, zE31, zE32, zE33, zE34, zE35, zE36, zE37, zE38, may_some, V.ref.injEq, exists_eq_left', St.get, St.put, List.getElem?_cons_zero, List.getElem?_cons_succ, Option.join_some, List.set_cons_succ, List.set_cons_zero, set_at h2 (by exact om27 hN hl) (show k < cl.length by exact om0 hkN hl) (((2 ^ (2 ^ n) - 1) &&& (dep cl (p.1 / 2) ^^^ (if p.1 % 2 = 1 then 2 ^ (2 ^ n) - 1 else 0))) &&& (dep cl (p.2 / 2) ^^^ (if p.2 % 2 = 1 then 2 ^ (2 ^ n) - 1 else 0))) rfl, k_next]
        apply kn
        have hkc : k < cl.length := by exact om0 hkN hl
        refine ⟨_, _, _, _, _, cl.set k _, rfl, k2.set (by exact om7 htl), by rw [List.getElem?_set_self (lt_of_get h2)], by simpa using hl, ?_, ?_, ?_⟩
        · rw [dep_set hkc, if_neg (by exact om242 hok.2.2)]; exact hz
        · intro i hi; rw [dep_set hkc, if_neg (by exact om311 hi hkn)]; exact hin i hi
        · intro i l r hi hnd'
          have hok' := hw.ok _ _ _ hnd'
          by_cases e : i = k
          · subst e; rw [hnd] at hnd'; injection hnd' with e; injection e with e; subst e
            have n1 : l / 2 ≠ i := by exact om309 hok'.2.1 hok'.2.2
            have n2 : r / 2 ≠ i := by exact om33 hok'.2.2
            simp only [dep_set hkc, n1, n2, if_true, if_false]
          · have n1 : l / 2 ≠ k := by exact om131 hi hok'.2.2 hok'.2.1
            have n2 : r / 2 ≠ k := by exact om68 hi hok'.2.2
            simp only [dep_set hkc, e, n1, n2, if_false]
            exact hc i l r (by exact om2 hi e) hnd'
    · rintro st ⟨o5, o6, o7, o8, H2, cl, rfl, k2, h2, hl, hz, hin, hc⟩
      rw [ru_len] at hc
      simp only [k_next, b_assign, b_expr, b_ret, b_setSub, b_setAttr, b_unpack, b_aug, b_augSub, b_cont, b_nil, b_comp, zE0, zE1, zE2, zE3, zE4, zE5, zE6, zE7, zE8, zE9, zE10, zE11, zE12, zE13, zE14, zE15, zE16, zE17, zE18, zE19, zE20, zE21, zE22, zE23, zE24, zE25, zE26, zE27, zE28, zE29, zE30, zE31, zE32, zE33, zE34, zE35, zE36, zE37, zE38, may_some, V.ref.injEq, exists_eq_left', St.get, St.put, List.getElem?_cons_zero, List.getElem?_cons_succ, Option.join_some, List.set_cons_succ, List.set_cons_zero, Fl.val]
      exact h _ _ cl h2 htl k2 ⟨hl, hz, hin, fun i l r hi => hc i l r (List.getElem?_eq_some_iff.1 hi).1 hi⟩

theorem c_depths {d : Nat} {H : Hp} {g n : Nat} {G : Gr} {Q : V → Hp → Prop} (hG : IsG H g G) (hw : WG n G.ns) (hN : G.ns.length < lim)
    (h : ∀ H' t ds, H'[t]? = some (.list (ds.map nI)) → H.length ≤ t → Kp no H H' → Dep G.ns ds → Q (.ref t) H') : wpCall defs (d + 1) 18 [.obj g] H Q := by
  refine call_in 1 4 b_law_depths rfl rfl ?_
  unfold b_law_depths
  have hlt := hG.lt
  rw [b_assign]
  simp only [zE0, zE1, zE2, zE3, zE4, zE5, zE6, zE7, zE8, zE9, zE10, zE11, zE12, zE13, zE14, zE15, zE16, zE17, zE18, zE19, zE20, zE21, zE22, zE23, zE24, zE25, zE26, zE27, zE28, zE29, zE30, zE31, zE32, zE33, zE34, zE35, zE36, zE37, zE38, alloc, List.map_cons, List.map_nil, List.cons_append, List.nil_append, List.replicate_succ, List.replicate_zero, St.get, St.put, List.getElem?_cons_zero, List.getElem?_cons_succ, Option.join_some, List.set_cons_succ, List.set_cons_zero]
  obtain ⟨H1, hH1⟩ : ∃ H1, H1 = H ++ [.list []] := ⟨_, rfl⟩
  have k1 : Kp no H H1 := hH1 ▸ Kp.app Kp.rfl _
  have h1 : H1[H.length]? = some (.list []) := by rw [hH1]; simp
  rw [← hH1, b_for]
  have hG1 := hG.kp0 k1
  simp only [wpI, b_assign, b_expr, b_ret, b_setSub, b_setAttr, b_unpack, b_aug, b_augSub, b_cont, b_nil, b_comp, zE0, zE1, zE2, zE3, zE4, zE5, zE6, zE7, zE8, zE9, zE10, zE11, zE12, zE13, zE14, zE15, zE16, zE17, zE18, zE19, zE20, zE21, zE22, zE23, zE24, zE25, zE26, zE27, zE28, zE29, zE30, zE31, zE32, zE33, zE34, zE35, zE36, zE37, zE38, may_some, V.ref.injEq, exists_eq_left', St.get, St.put, List.getElem?_cons_zero, List.getElem?_cons_succ, Option.join_some, List.set_cons_succ, List.set_cons_zero, hG1.at0]
  refine ⟨_, hG1.a1, by simpa using hN, for_inv (fun k st => Ex3 fun (o2 : Option V) (H2 : Hp) (ds : List Nat) => An6 (st = ⟨[some (.obj g), some (.ref H.length), o2, none], H2⟩) (Kp no H H2) (H2[H.length]? = some (.list (ds.map nI))) (ds.length = k) ((∀ i : Nat, i < k → G.ns[i]? = some none → dep ds i = 0)) (∀ i l r, i < k → G.ns[i]? = some (some (l, r)) → dep ds i = 1 + max (dep ds (l / 2)) (dep ds (r / 2)))) ?_ ?_ ?_ ?_⟩
  · exact ⟨_, H1, [], rfl, k1, h1, rfl, fun _ h => by exact om79 h, fun _ _ _ h => by exact om80 h⟩
  · rintro k st ⟨o2, H2, ds, rfl, k2, _⟩
    exact (hG.kp0 k2).a1
  · rintro k v st K hv ⟨o2, H2, ds, rfl, k2, h2, hl, hn0, hc⟩ kn kc kr
    obtain ⟨nd, hko, rfl⟩ := map_at hv
    have hkl := (List.getElem?_eq_some_iff.1 hko).1
    have fin : ∀ x o2, (nd = none → x = 0) → (∀ l r, nd = some (l, r) → x = 1 + max (dep ds (l / 2)) (dep ds (r / 2))) → K .next ⟨[some (.obj g), some (.ref H.length), o2, none], H2.set H.length (.list ((ds ++ [x]).map nI))⟩ := by
      intro x o2 hx0 hx
      apply kn
      refine ⟨_, _, ds ++ [x], rfl, k2.set (by exact om55), by rw [List.getElem?_set_self (lt_of_get h2)], by simp [hl], ?_, ?_⟩
      · intro i hi hnd
        by_cases e : i = k
        · rw [e, ← hl, dep_last]; rw [e, hko] at hnd; injection hnd with hnd; exact hx0 hnd
        · rw [dep_app (by exact om40 hi hl e)]; exact hn0 i (by exact om2 hi e) hnd
      · intro i l r hi hnd
        have hok := hw.ok _ _ _ hnd
        by_cases e : i = k
        · rw [e, hko] at hnd; injection hnd with hnd
          have := hx l r hnd
          rw [e, ← hl, dep_last, dep_app (by exact om425 hok.2.1 hok.2.2 e hl), dep_app (by exact om384 hok.2.2 e hl)]; exact this
        · rw [dep_app (by exact om40 hi hl e), dep_app (by exact om419 hi hok.2.2 hok.2.1 hl), dep_app (by exact om369 hi hok.2.2 hl)]; exact hc i l r (by exact om2 hi e) hnd
    simp only [b_assign, b_expr, b_ret, b_setSub, b_setAttr, b_unpack, b_aug, b_augSub, b_cont, b_nil, b_comp, zE0, zE1, zE2, zE3, zE4, zE5, zE6, zE7, zE8, zE9, zE10, zE11, zE12, zE13, zE14, zE15, zE16, zE17, zE18, zE19, zE20, zE21, zE22, zE23, zE24, zE25, zE26, zE27, zE28, zE29, zE30, zE31, zE32, zE33, zE34, zE35, zE36, zE37, zE38, may_some, V.ref.injEq, exists_eq_left', St.get, St.put, List.getElem?_cons_zero, List.getElem?_cons_succ, Option.join_some, List.set_cons_succ, List.set_cons_zero, b_ite, zC0, zC1, zC2, zC3, zC4, zC5, zC6, zC7, zC8]
    cases nd with
    | none =>
      simp [ndV, k_next]
      simp only [b_assign, b_expr, b_ret, b_setSub, b_setAttr, b_unpack, b_aug, b_augSub, b_cont, b_nil, b_comp, zE0, zE1, zE2, zE3, zE4, zE5, zE6, zE7, zE8, zE9, zE10, zE11, zE12, zE13, zE14, zE15, zE16, zE17, zE18, zE19, zE20, zE21, zE22, zE23, zE24, zE25, zE26, zE27, zE28, zE29, zE30, zE31, zE32, zE33, zE34, zE35, zE36, zE37, zE38, may_some, V.ref.injEq, exists_eq_left', St.get, St.put, List.getElem?_cons_zero, List.getElem?_cons_succ, Option.join_some, List.set_cons_succ, List.set_cons_zero, isL_at h2, true_and, app_at h2 (by exact om54 hkl hN hl) 0 (v := .int 0) rfl, k_next]
      exact fin 0 _ (fun _ => rfl) (fun l r h => by cases h)
    | some p =>
      have hok := hw.ok _ _ _ hko
      simp [ndV, k_next]
      simp only [b_assign, b_expr, b_ret, b_setSub, b_setAttr, b_unpack, b_aug, b_augSub, b_cont, b_nil, b_comp, zE0, zE1, zE2, zE3, zE4, zE5, zE6, zE7, zE8, zE9, zE10, zE11, zE12, zE13, zE14, zE15, zE16, zE17, zE18, zE19, zE20, zE21, zE22, zE23, zE24, zE25, zE26, zE27, zE28, zE29, zE30, zE31, zE32, zE33, zE34, zE35, zE36, zE37, zE38, may_some, V.ref.injEq, exists_eq_left', St.get, St.put, List.getElem?_cons_zero, List.getElem?_cons_succ, Option.join_some, List.set_cons_succ, List.set_cons_zero, isL_at h2, true_and, subP0, subP1, bi_shr, sub_at h2 (by exact om54 hkl hN hl) (dep_at (show p.1 / 2 < ds.length by exact om29 hok.2.1 hok.2.2 hl)), sub_at h2 (by exact om54 hkl hN hl) (dep_at (show p.2 / 2 < ds.length by exact om0 hok.2.2 hl))]
      refine ⟨_, rfl, _, rfl, ?_⟩
      have e : (if (↑(dep ds (p.1 / 2)) : Int) < ↑(dep ds (p.2 / 2)) then (↑(dep ds (p.2 / 2)) : Int) else ↑(dep ds (p.1 / 2))) = ((max (dep ds (p.1 / 2)) (dep ds (p.2 / 2)) : Nat) : Int) := by
        split <;> omega
      rw [e]
      simp only [bi_1add, may_some, app_at h2 (show ds.length < lim by exact om54 hkl hN hl) (1 + max (dep ds (p.1 / 2)) (dep ds (p.2 / 2))) (v := nI (1 + max (dep ds (p.1 / 2)) (dep ds (p.2 / 2)))) rfl, true_and, k_next]
      exact fin _ _ (fun h => by cases h) (fun l r h => by injection h with h; subst h; rfl)
  · rintro st ⟨o2, H2, ds, rfl, k2, h2, hl, hn0, hc⟩
    rw [List.length_map] at hl hn0 hc
    simp only [k_next, b_assign, b_expr, b_ret, b_setSub, b_setAttr, b_unpack, b_aug, b_augSub, b_cont, b_nil, b_comp, zE0, zE1, zE2, zE3, zE4, zE5, zE6, zE7, zE8, zE9, zE10, zE11, zE12, zE13, zE14, zE15, zE16, zE17, zE18, zE19, zE20, zE21, zE22, zE23, zE24, zE25, zE26, zE27, zE28, zE29, zE30, zE31, zE32, zE33, zE34, zE35, zE36, zE37, zE38, may_some, V.ref.injEq, exists_eq_left', St.get, St.put, List.getElem?_cons_zero, List.getElem?_cons_succ, Option.join_some, List.set_cons_succ, List.set_cons_zero, Fl.val]
    exact h _ _ ds h2 (Nat.le_refl _) k2 ⟨hl, fun i hi => hn0 i (List.getElem?_eq_some_iff.1 hi).1 hi, fun i l r hi => hc i l r (List.getElem?_eq_some_iff.1 hi).1 hi⟩
end Mine
end

-- part C9
section
set_option Elab.async false
set_option linter.unusedVariables false
set_option linter.unusedSimpArgs false
namespace Mine

theorem sub_sum {f : Nat → Nat} : ∀ {xs ys : List Nat}, xs.Nodup → (∀ x, x ∈ xs → x ∈ ys) → (xs.map f).sum ≤ (ys.map f).sum
  | [], ys, _, _ => by simp
  | x :: xs, ys, h, hs => by
    rw [List.nodup_cons] at h
    have hx := hs x (List.mem_cons_self ..)
    have hp := List.perm_cons_erase hx
    have := sub_sum (f := f) (xs := xs) (ys := ys.erase x) h.2 (by
      intro y hy
      refine (List.mem_erase_of_ne ?_).2 (hs y (List.mem_cons_of_mem _ hy))
      rintro rfl; exact h.1 hy)
    have h2 := (hp.map f).sum_nat
    simp only [List.map_cons, List.sum_cons] at h2 ⊢
    exact om399 h2 this
theorem sum_one : ∀ (xs : List Nat), (xs.map fun _ => 1).sum = xs.length
  | [] => rfl
  | x :: xs => by simp only [List.map_cons, List.sum_cons, sum_one xs, List.length_cons]; exact om507
theorem sub_len {xs ys : List Nat} (h : xs.Nodup) (hs : ∀ x, x ∈ xs → x ∈ ys) : xs.length ≤ ys.length := by
  have := sub_sum (f := fun _ => 1) h hs
  rwa [sum_one, sum_one] at this

theorem intsOf_map (xs : List Nat) : intsOf (xs.map nI) = some (xs.map fun (x : Nat) => (x : Int)) := by
  induction xs with
  | nil => rfl
  | cons x xs ih => simp only [List.map_cons, intsOf, ih]; rfl

theorem memI {w : Nat} {fs : List Nat} : (w : Int) ∈ (fs.map fun (x : Nat) => (x : Int)) ↔ w ∈ fs := by
  rw [List.mem_map]
  constructor
  · rintro ⟨a, ha, e⟩
    have : a = w := by exact om250 e
    exact this ▸ ha
  · intro h; exact ⟨w, h, rfl⟩

structure ReachR (ns : Nds) (outs : List Nat) (fs : List Nat) : Prop where
  nd : fs.Nodup
  and : ∀ x, x ∈ fs → IsAnd ns x
  out : ∀ o, o ∈ outs → IsAnd ns (o / 2) → o / 2 ∈ fs
  cl : ∀ i l r, i ∈ fs → ns[i]? = some (some (l, r)) → (IsAnd ns (l / 2) → l / 2 ∈ fs) ∧ (IsAnd ns (r / 2) → r / 2 ∈ fs)
  mi : ∀ U : Nat → Prop, (∀ o, o ∈ outs → U (o / 2)) → Closed ns U → ∀ x, x ∈ fs → U x

theorem c_reached {d : Nat} {H : Hp} {g : Nat} {G : Gr} {Q : V → Hp → Prop} (hG : IsG H g G) (hw : Low G.ns) (hO : ∀ o, o ∈ G.outs → o / 2 < G.ns.length) (hn : G.ns.length < 100) (ho : G.outs.length < 1000)
    (h : ∀ H' fs, Kp no H H' → ReachR G.ns G.outs fs → Q (nI fs.length) H') : wpCall defs (d + 1) 20 [.obj g] H Q := by
  refine call_in 1 7 b_law_reached rfl rfl ?_
  unfold b_law_reached
  have hlt := hG.lt
  have hl20 : lim = 2 ^ 20 := rfl
  rw [b_assign]
  simp only [zE0, zE1, zE2, zE3, zE4, zE5, zE6, zE7, zE8, zE9, zE10, zE11, zE12, zE13, zE14, zE15, zE16, zE17, zE18, zE19, zE20, zE21, zE22, zE23, zE24, zE25, zE26, zE27, zE28, zE29, zE30, zE31, zE32, zE33, zE34, zE35, zE36, zE37, zE38, alloc, List.map_cons, List.map_nil, List.cons_append, List.nil_append, List.replicate_succ, List.replicate_zero, St.get, St.put, List.getElem?_cons_zero, List.getElem?_cons_succ, Option.join_some, List.set_cons_succ, List.set_cons_zero]
  obtain ⟨H1, hH1⟩ : ∃ H1, H1 = H ++ [.set []] := ⟨_, rfl⟩
  have k1 : Kp no H H1 := hH1 ▸ Kp.app Kp.rfl _
  have h1 : H1[H.length]? = some (.set []) := by rw [hH1]; simp
  have hl1 : H1.length = H.length + 1 := by rw [hH1]; simp
  rw [← hH1, b_comp]
  have hG1 := hG.kp0 k1
  simp only [zE0, zE1, zE2, zE3, zE4, zE5, zE6, zE7, zE8, zE9, zE10, zE11, zE12, zE13, zE14, zE15, zE16, zE17, zE18, zE19, zE20, zE21, zE22, zE23, zE24, zE25, zE26, zE27, zE28, zE29, zE30, zE31, zE32, zE33, zE34, zE35, zE36, zE37, zE38, may_some, St.get, St.put, List.getElem?_cons_zero, List.getElem?_cons_succ, Option.join_some, List.set_cons_succ, List.set_cons_zero, hG1.at2]
  refine ⟨_, G.outs.map fun (x : Nat) => (x : Int), rfl, by rw [hG1.a3, List.map_map]; rfl, by simp; exact om90 ho hl20, ?_⟩
  have e : ((G.outs.map fun (x : Nat) => (x : Int)).map fun i => V.int (i / 2)) = (G.outs.map (· / 2)).map nI := by
    rw [List.map_map, List.map_map]; apply List.map_congr_left; intro x _; simp
  rw [e]
  obtain ⟨H2, hH2⟩ : ∃ H2, H2 = H1 ++ [.list ((G.outs.map (· / 2)).map nI)] := ⟨_, rfl⟩
  have k2 : Kp no H H2 := hH2 ▸ k1.app _
  have h2 : H2[H.length]? = some (.set []) := by rw [hH2, List.getElem?_append_left (by exact om35 hl1)]; exact h1
  have h2' : H2[H1.length]? = some (.list ((G.outs.map (· / 2)).map nI)) := by rw [hH2]; simp
  try simp only [St.get, St.put, List.getElem?_cons_zero, List.getElem?_cons_succ, Option.join_some, List.set_cons_succ, List.set_cons_zero]
  rw [← hH2, b_while]
  refine while_inv (fun m st => Ex5 fun (o3 o4 : Option V) (H3 : Hp) (fs ws : List Nat) => An12 (st = ⟨[some (.obj g), some (.ref H.length), some (.ref H1.length), o3, o4, none, none], H3⟩) (Kp no H H3) (H3[H.length]? = some (.set (fs.map fun (x : Nat) => (x : Int)))) (H3[H1.length]? = some (.list (ws.map nI))) (fs.Nodup) ((∀ x, x ∈ fs → IsAnd G.ns x)) ((∀ w, w ∈ ws → w < G.ns.length)) ((∀ o, o ∈ G.outs → IsAnd G.ns (o / 2) → o / 2 ∈ fs ∨ o / 2 ∈ ws)) ((∀ i l r, i ∈ fs → G.ns[i]? = some (some (l, r)) → (IsAnd G.ns (l / 2) → l / 2 ∈ fs ∨ l / 2 ∈ ws) ∧ (IsAnd G.ns (r / 2) → r / 2 ∈ fs ∨ r / 2 ∈ ws))) ((∀ U : Nat → Prop, (∀ o, o ∈ G.outs → U (o / 2)) → Closed G.ns U → (∀ x, x ∈ fs → U x) ∧ ∀ w, w ∈ ws → U w)) (ws.length ≤ G.outs.length + fs.length) (m = 3 * (G.ns.length - fs.length) + ws.length)) ?_ _ _
    ⟨_, _, H2, [], G.outs.map (· / 2), rfl, k2, h2, h2', List.nodup_nil, by simp, ?_, ?_, by simp, ?_, by simp, rfl⟩
  · rintro m st K ⟨o3, o4, H3, fs, ws, rfl, k3, h3, h4, hnd, hand, hlw, hout, hcl, hmi, hwl, rfl⟩ hK
    have hG3 := hG.kp0 k3
    have hfl : fs.length ≤ G.ns.length := by
      have := sub_len (ys := List.range G.ns.length) hnd (by
        intro x hx; obtain ⟨p, hp⟩ := hand x hx
        rw [List.mem_range]; exact (List.getElem?_eq_some_iff.1 hp).1)
      rwa [List.length_range] at this
    simp only [zC0, zC1, zC2, zC3, zC4, zC5, zC6, zC7, zC8, b_assign, b_expr, b_ret, b_setSub, b_setAttr, b_unpack, b_aug, b_augSub, b_cont, b_nil, b_comp, zE0, zE1, zE2, zE3, zE4, zE5, zE6, zE7, zE8, zE9, zE10, zE11, zE12, zE13, zE14, zE15, zE16, zE17, zE18, zE19, zE20, zE21, zE22, zE23, zE24, zE25, zE26, zE27, zE28, zE29, zE30, zE31, zE32, zE33, zE34, zE35, zE36, zE37, zE38, may_some, V.ref.injEq, exists_eq_left', St.get, St.put, List.getElem?_cons_zero, List.getElem?_cons_succ, Option.join_some, List.set_cons_succ, List.set_cons_zero, len_at h4 (show ws.length < lim by exact om421 hn ho hl20 hwl hfl), cmp_gt0]
    rcases List.eq_nil_or_concat ws with rfl | ⟨ws', w, rfl⟩
    · simp only [List.length_nil, Nat.lt_irrefl, decide_false, Bool.false_eq_true, if_false, k_next]
      have el : lenV H3 (.ref H.length) = some fs.length := by
        simp only [lenV, h3, List.length_map]; rw [if_pos (by exact om306 hn hl20 hfl)]
      simp only [b_assign, b_expr, b_ret, b_setSub, b_setAttr, b_unpack, b_aug, b_augSub, b_cont, b_nil, b_comp, zE0, zE1, zE2, zE3, zE4, zE5, zE6, zE7, zE8, zE9, zE10, zE11, zE12, zE13, zE14, zE15, zE16, zE17, zE18, zE19, zE20, zE21, zE22, zE23, zE24, zE25, zE26, zE27, zE28, zE29, zE30, zE31, zE32, zE33, zE34, zE35, zE36, zE37, zE38, may_some, V.ref.injEq, exists_eq_left', St.get, St.put, List.getElem?_cons_zero, List.getElem?_cons_succ, Option.join_some, List.set_cons_succ, List.set_cons_zero, el, Fl.val]
      refine h _ fs k3 ⟨hnd, hand, ?_, ?_, fun U h1 h2 => (hmi U h1 h2).1⟩
      · intro o ho ha; simpa using hout o ho ha
      · intro i l r hi hnd; simpa using hcl i l r hi hnd
    · simp only [List.concat_eq_append, List.length_append, List.length_cons, List.length_nil] at *
      rw [if_pos (by simp)]
      have hwN := hlw w (by simp)
      obtain ⟨nd, hnd'⟩ : ∃ nd, G.ns[w]? = some nd := ⟨_, List.getElem?_eq_getElem hwN⟩
      simp only [b_assign, b_expr, b_ret, b_setSub, b_setAttr, b_unpack, b_aug, b_augSub, b_cont, b_nil, b_comp, zE0, zE1, zE2, zE3, zE4, zE5, zE6, zE7, zE8, zE9, zE10, zE11, zE12, zE13, zE14, zE15, zE16, zE17, zE18, zE19, zE20, zE21, zE22, zE23, zE24, zE25, zE26, zE27, zE28, zE29, zE30, zE31, zE32, zE33, zE34, zE35, zE36, zE37, zE38, may_some, V.ref.injEq, exists_eq_left', St.get, St.put, List.getElem?_cons_zero, List.getElem?_cons_succ, Option.join_some, List.set_cons_succ, List.set_cons_zero, pop_at h4 (by simp; exact om461 hwl ho hfl hn hl20), b_ite, zC0, zC1, zC2, zC3, zC4, zC5, zC6, zC7, zC8]
      have q4 : Kp (fun i => i = H1.length) H3 (H3.set H1.length (.list (ws'.map nI))) := Kp.rfl.set (fun _ => rfl)
      have h4' : (H3.set H1.length (.list (ws'.map nI)))[H1.length]? = some (.list (ws'.map nI)) := by rw [List.getElem?_set_self (lt_of_get h4)]
      have h3' := q4.get h3 (by exact om255 hl1)
      have k4 : Kp no H (H3.set H1.length (.list (ws'.map nI))) := k3.trans q4 (by intro i h1 h2; exact om168 h1 h2 hl1)
      generalize H3.set H1.length (.list (ws'.map nI)) = H4 at *
      have hG4 := hG.kp0 k4
      simp only [hG4.at0, may_some, sub_at hG4.a1 (by exact om89 hn hl20) hnd']
      have drop : (nd = none ∨ w ∈ fs) → ∀ o4, K ⟨[some (.obj g), some (.ref H.length), some (.ref H1.length), some (nI w), o4, none, none], H4⟩ := by
        intro hh o4
        have dis : ∀ z, IsAnd G.ns z → (z ∈ fs ∨ z ∈ ws' ++ [w]) → z ∈ fs ∨ z ∈ ws' := by
          rintro z ⟨p, hp⟩ (hz | hz)
          · exact Or.inl hz
          · rcases List.mem_append.1 hz with hz | hz
            · exact Or.inr hz
            · simp at hz; subst hz
              rcases hh with rfl | hh
              · rw [hnd'] at hp; cases hp
              · exact Or.inl hh
        refine hK (3 * (G.ns.length - fs.length) + ws'.length) _ (by exact om286) ⟨_, _, H4, fs, ws', rfl, k4, h3', h4', hnd, hand, fun x hx => hlw x (by simp [hx]), ?_, ?_, ?_, by exact om350 hwl, rfl⟩
        · intro o ho ha; exact dis _ ha (hout o ho ha)
        · intro i l r hi hx
          have := hcl i l r hi hx
          exact ⟨fun ha => dis _ ha (this.1 ha), fun ha => dis _ ha (this.2 ha)⟩
        · intro U h1 h2; have := hmi U h1 h2; exact ⟨this.1, fun x hx => this.2 x (by simp [hx])⟩
      cases nd with
      | none =>
        simp [ndV, k_next, b_nil, w_next]
        exact drop (Or.inl rfl) _
      | some p =>
        have hlow := hw _ _ _ hnd'
        have en : notInV H4 (nI w) (.ref H.length) = some (!decide (w ∈ fs)) := by
          simp only [notInV, h3']; rw [if_pos ⟨by exact om21, by exact om88 hn hwN⟩]; congr 2; exact decide_eq_decide.2 memI
        simp [ndV]
        simp only [b_assign, b_expr, b_ret, b_setSub, b_setAttr, b_unpack, b_aug, b_augSub, b_cont, b_nil, b_comp, zE0, zE1, zE2, zE3, zE4, zE5, zE6, zE7, zE8, zE9, zE10, zE11, zE12, zE13, zE14, zE15, zE16, zE17, zE18, zE19, zE20, zE21, zE22, zE23, zE24, zE25, zE26, zE27, zE28, zE29, zE30, zE31, zE32, zE33, zE34, zE35, zE36, zE37, zE38, may_some, V.ref.injEq, exists_eq_left', St.get, St.put, List.getElem?_cons_zero, List.getElem?_cons_succ, Option.join_some, List.set_cons_succ, List.set_cons_zero, en]
        by_cases hin : w ∈ fs
        · simp only [hin, decide_true, Bool.not_true, Bool.false_eq_true, if_false, k_next, w_next]
          exact drop (Or.inr hin) _
        · simp only [hin, decide_false, Bool.not_false, if_true, k_next]
          have hnd2 : (fs ++ [w]).Nodup := by
            rw [List.nodup_append]
            refine ⟨hnd, by simp, ?_⟩
            intro a ha b hb; simp at hb; subst hb; rintro rfl; exact hin ha
          have hand2 : ∀ x, x ∈ fs ++ [w] → IsAnd G.ns x := by
            intro x hx; rcases List.mem_append.1 hx with hx | hx
            · exact hand x hx
            · simp at hx; subst hx; exact ⟨p, hnd'⟩
          have hfl2 : fs.length + 1 ≤ G.ns.length := by
            have := sub_len (ys := List.range G.ns.length) hnd2 (by
              intro x hx; obtain ⟨p, hp⟩ := hand2 x hx
              rw [List.mem_range]; exact (List.getElem?_eq_some_iff.1 hp).1)
            rw [List.length_range] at this; simpa using this
          have ea : addV H4 (.ref H.length) (nI w) = some (H4.set H.length (.set ((fs ++ [w]).map fun (x : Nat) => (x : Int)))) := by
            simp only [addV, h3', List.length_map]; rw [if_pos ⟨by exact om269 hfl2 hn, by exact om21, by exact om88 hn hwN⟩, if_neg (fun h => hin (memI.1 h))]; simp
          have h5 : (H4.set H.length (.set ((fs ++ [w]).map fun (x : Nat) => (x : Int))))[H.length]? = some (.set ((fs ++ [w]).map fun (x : Nat) => (x : Int))) := by rw [List.getElem?_set_self (lt_of_get h3')]
          have h5' : (H4.set H.length (.set ((fs ++ [w]).map fun (x : Nat) => (x : Int))))[H1.length]? = some (.list (ws'.map nI)) := by rw [List.getElem?_set_ne (by exact om98 hl1)]; exact h4'
          have k5 : Kp no H (H4.set H.length (.set ((fs ++ [w]).map fun (x : Nat) => (x : Int)))) := k4.set (by exact om55)
          simp only [b_assign, b_expr, b_ret, b_setSub, b_setAttr, b_unpack, b_aug, b_augSub, b_cont, b_nil, b_comp, zE0, zE1, zE2, zE3, zE4, zE5, zE6, zE7, zE8, zE9, zE10, zE11, zE12, zE13, zE14, zE15, zE16, zE17, zE18, zE19, zE20, zE21, zE22, zE23, zE24, zE25, zE26, zE27, zE28, zE29, zE30, zE31, zE32, zE33, zE34, zE35, zE36, zE37, zE38, may_some, V.ref.injEq, exists_eq_left', St.get, St.put, List.getElem?_cons_zero, List.getElem?_cons_succ, Option.join_some, List.set_cons_succ, List.set_cons_zero, ea]
          refine ⟨⟨_, _, rfl, h3'⟩, ?_⟩
          generalize H4.set H.length (.set ((fs ++ [w]).map fun (x : Nat) => (x : Int))) = H5 at *
          simp only [b_assign, b_expr, b_ret, b_setSub, b_setAttr, b_unpack, b_aug, b_augSub, b_cont, b_nil, b_comp, zE0, zE1, zE2, zE3, zE4, zE5, zE6, zE7, zE8, zE9, zE10, zE11, zE12, zE13, zE14, zE15, zE16, zE17, zE18, zE19, zE20, zE21, zE22, zE23, zE24, zE25, zE26, zE27, zE28, zE29, zE30, zE31, zE32, zE33, zE34, zE35, zE36, zE37, zE38, may_some, V.ref.injEq, exists_eq_left', St.get, St.put, List.getElem?_cons_zero, List.getElem?_cons_succ, Option.join_some, List.set_cons_succ, List.set_cons_zero, true_and, isL_at h5', subP0, subP1, bi_shr, app_at h5' (show ws'.length < lim by exact om460 hfl2 hwl hn ho hl20) (p.1 / 2) rfl]
          have h6 : (H5.set H1.length (.list ((ws' ++ [p.1 / 2]).map nI)))[H1.length]? = some (.list ((ws' ++ [p.1 / 2]).map nI)) := by rw [List.getElem?_set_self (lt_of_get h5')]
          simp only [b_assign, b_expr, b_ret, b_setSub, b_setAttr, b_unpack, b_aug, b_augSub, b_cont, b_nil, b_comp, zE0, zE1, zE2, zE3, zE4, zE5, zE6, zE7, zE8, zE9, zE10, zE11, zE12, zE13, zE14, zE15, zE16, zE17, zE18, zE19, zE20, zE21, zE22, zE23, zE24, zE25, zE26, zE27, zE28, zE29, zE30, zE31, zE32, zE33, zE34, zE35, zE36, zE37, zE38, may_some, V.ref.injEq, exists_eq_left', St.get, St.put, List.getElem?_cons_zero, List.getElem?_cons_succ, Option.join_some, List.set_cons_succ, List.set_cons_zero, true_and, isL_at h6, subP0, subP1, bi_shr, app_at h6 (show (ws' ++ [p.1 / 2]).length < lim by simp; exact om459 hfl2 hwl hn ho hl20) (p.2 / 2) rfl, k_next, w_next]
          refine hK (3 * (G.ns.length - (fs ++ [w]).length) + (ws' ++ [p.1 / 2] ++ [p.2 / 2]).length) _ (by simp; exact om349 hfl2) ⟨_, _, _, fs ++ [w], ws' ++ [p.1 / 2] ++ [p.2 / 2], rfl, (k5.set (by exact om31 hl1)).set (by exact om31 hl1), ?_, by rw [List.getElem?_set_self (lt_of_get h6)], hnd2, hand2, ?_, ?_, ?_, ?_, by simp; exact om346 hwl, rfl⟩
          · rw [List.getElem?_set_ne (by exact om36 hl1), List.getElem?_set_ne (by exact om36 hl1)]; exact h5
          · intro x hx
            simp at hx
            rcases hx with hx | rfl | rfl
            · exact hlw x (by simp [hx])
            · exact om1 hlow.1 hwN
            · exact om1 hlow.2 hwN
          · intro o ho ha
            rcases hout o ho ha with hz | hz
            · exact Or.inl (by simp [hz])
            · simp at hz; rcases hz with hz | hz
              · exact Or.inr (by simp [hz])
              · exact Or.inl (by simp [hz])
          · intro i l r hi hx
            have dis : ∀ z, (z ∈ fs ∨ z ∈ ws' ++ [w]) → z ∈ fs ++ [w] ∨ z ∈ ws' ++ [p.1 / 2] ++ [p.2 / 2] := by
              intro z hz
              rcases hz with hz | hz
              · exact Or.inl (by simp [hz])
              · simp at hz; rcases hz with hz | hz
                · exact Or.inr (by simp [hz])
                · exact Or.inl (by simp [hz])
            rcases List.mem_append.1 hi with hi | hi
            · have := hcl i l r hi hx
              exact ⟨fun ha => dis _ (this.1 ha), fun ha => dis _ (this.2 ha)⟩
            · simp at hi; subst hi
              rw [hnd'] at hx; injection hx with hx; injection hx with hx; subst hx
              exact ⟨fun _ => Or.inr (by simp), fun _ => Or.inr (by simp)⟩
          · intro U h1 h2
            have h9 := hmi U h1 h2
            have hw' := h2 _ _ _ hnd' (h9.2 w (by simp))
            refine ⟨?_, ?_⟩
            · intro x hx
              rcases List.mem_append.1 hx with hx | hx
              · exact h9.1 x hx
              · simp at hx; subst hx; exact h9.2 _ (by simp)
            · intro x hx
              simp at hx
              rcases hx with hx | rfl | rfl
              · exact h9.2 x (by simp [hx])
              · exact hw'.1
              · exact hw'.2
  · intro w hw
    obtain ⟨o, ho, rfl⟩ := List.mem_map.1 hw
    exact hO o ho
  · intro o ho _; exact Or.inr (List.mem_map.2 ⟨o, ho, rfl⟩)
  · intro U h1 h2
    refine ⟨by simp, ?_⟩
    intro w hw
    obtain ⟨o, ho, rfl⟩ := List.mem_map.1 hw
    exact h1 o ho
end Mine
end

-- part C10
section
set_option Elab.async false
set_option linter.unusedVariables false
set_option linter.unusedSimpArgs false
namespace Mine

noncomputable def blN (x : Nat) : Nat := if x = 0 then 0 else Nat.log2 x + 1
theorem blN_le {s : Nat} (h : 1 ≤ s) : s ≤ 2 ^ blN (s - 1) := by
  unfold blN
  by_cases e : s - 1 = 0
  · rw [if_pos e]; exact om486 e
  · rw [if_neg e]
    have := (Nat.log2_lt (k := Nat.log2 (s - 1) + 1) e).1 (by exact om9)
    exact om216 this
theorem blN_min {s D : Nat} (h : s ≤ 2 ^ D) : blN (s - 1) ≤ D := by
  unfold blN
  by_cases e : s - 1 = 0
  · rw [if_pos e]; exact om11
  · rw [if_neg e]
    have := (Nat.log2_lt (k := D) e).2 (by exact om279 h e)
    exact om34 this

noncomputable def andB (ns : Nds) (j : Nat) : Bool := match ns[j]? with | some (some _) => true | _ => false
theorem andB_iff {ns : Nds} {j : Nat} : andB ns j = true ↔ IsAnd ns j := by
  unfold andB IsAnd
  constructor
  · intro h; split at h
    · rename_i p hp; exact ⟨p, hp⟩
    · cases h
  · rintro ⟨p, hp⟩; rw [hp]
/-- what a side brings -/
noncomputable def sl (ns : Nds) (cnt : Nat → Nat) (le su : List Nat) (q : Nat) : Nat :=
  if q % 2 = 0 ∧ andB ns (q / 2) = true ∧ cnt (q / 2) = 1 then dep su (q / 2) else 2 ^ dep le (q / 2)

structure LstR (ns : Nds) (cnt : Nat → Nat) (le su : List Nat) : Prop where
  len : le.length = ns.length
  none : ∀ i : Nat, ns[i]? = some none → dep le i = 0
  and : ∀ i l r, ns[i]? = some (some (l, r)) → dep su i = sl ns cnt le su l + sl ns cnt le su r ∧ dep le i = blN (dep su i - 1) ∧ 1 ≤ dep su i

theorem max_at {H : Hp} {n : Nat} {xs : List Nat} (h : H[n]? = some (.list (xs.map nI))) : listV H (.ref n) = some (xs.map nI) := by simp [listV, h]

theorem c_least {d : Nat} {H : Hp} {g n : Nat} {G : Gr} {Q : V → Hp → Prop} (hG : IsG H g G) (hn : G.ns.length < 100) (ho : G.outs.length < lim)
    (hw : WG n G.ns) (hO : ∀ o, o ∈ G.outs → o / 2 < G.ns.length)
    (h : ∀ H' t le su sg, H'[t]? = some (.list (le.map nI)) → H.length ≤ t → Kp no H H' → LstR G.ns (fun i => sides G.ns i + ends G.outs i) le su → (sg = true → ∀ i, i < G.ns.length → sides G.ns i ≤ 1) → Q (.pair (.ref t) (.bool sg)) H') :
    wpCall defs (d + 1) 19 [.obj g] H Q := by
  refine call_in 1 14 b_law_least rfl rfl ?_
  unfold b_law_least
  have hl20 : lim = 2 ^ 20 := rfl
  have hN : G.ns.length < lim := by exact om89 hn hl20
  have hlow := hw.low
  have hnn := hw.len
  rw [b_assign]
  refine e_repl (.int 0) (fun _ _ => by simp only [zE0, zE1, zE2, zE3, zE4, zE5, zE6, zE7, zE8, zE9, zE10, zE11, zE12, zE13, zE14, zE15, zE16, zE17, zE18, zE19, zE20, zE21, zE22, zE23, zE24, zE25, zE26, zE27, zE28, zE29, zE30, zE31, zE32, zE33, zE34, zE35, zE36, zE37, zE38]) rfl hG hN ?_
  intro H0 s hs hsl k0
  have hlt := hG.lt
  simp only [List.map_cons, List.map_nil, List.cons_append, List.nil_append, List.replicate_succ, List.replicate_zero, St.get, St.put, List.getElem?_cons_zero, List.getElem?_cons_succ, Option.join_some, List.set_cons_succ, List.set_cons_zero] at hsl k0 ⊢
  have hG0 := hG.kp0 k0
  rw [b_assign]
  refine e_repl (.int 0) (fun _ _ => by simp only [zE0, zE1, zE2, zE3, zE4, zE5, zE6, zE7, zE8, zE9, zE10, zE11, zE12, zE13, zE14, zE15, zE16, zE17, zE18, zE19, zE20, zE21, zE22, zE23, zE24, zE25, zE26, zE27, zE28, zE29, zE30, zE31, zE32, zE33, zE34, zE35, zE36, zE37, zE38]) rfl hG0 hN ?_
  intro H1 t ht htl k1
  simp only [St.get, St.put, List.getElem?_cons_zero, List.getElem?_cons_succ, Option.join_some, List.set_cons_succ, List.set_cons_zero] at htl k1 ⊢
  have hst := lt_of_get hs
  have hs1 := k1.get hs (fun h => h)
  have k1 := k0.trans k1 (fun _ _ h => h)
  have hG1 := hG.kp0 k1
  rw [b_for]
  simp only [wpI, b_assign, b_expr, b_ret, b_setSub, b_setAttr, b_unpack, b_aug, b_augSub, b_cont, b_nil, b_comp, zE0, zE1, zE2, zE3, zE4, zE5, zE6, zE7, zE8, zE9, zE10, zE11, zE12, zE13, zE14, zE15, zE16, zE17, zE18, zE19, zE20, zE21, zE22, zE23, zE24, zE25, zE26, zE27, zE28, zE29, zE30, zE31, zE32, zE33, zE34, zE35, zE36, zE37, zE38, may_some, V.ref.injEq, exists_eq_left', St.get, St.put, List.getElem?_cons_zero, List.getElem?_cons_succ, Option.join_some, List.set_cons_succ, List.set_cons_zero, hG1.at0]
  refine ⟨_, hG1.a1, by simpa using hN, for_inv (fun k st => Ex3 fun (o3 : Option V) (H2 : Hp) (cs : List Nat) => An5 (st = ⟨[some (.obj g), some (.ref s), some (.ref t), o3, none, none, none, none, none, none, none, none, none, none], H2⟩) (Kp no H H2) (H2[t]? = some (.list (List.replicate G.ns.length (V.int 0)))) (H2[s]? = some (.list (cs.map nI))) (Fn cs G.ns.length (fun i => sides (G.ns.take k) i))) ?_ ?_ ?_ ?_⟩
  · exact ⟨_, _, List.replicate G.ns.length 0, rfl, k1, ht, by rw [List.map_replicate]; exact hs1, Fn.repl⟩
  · rintro k st ⟨o3, H2, bs, rfl, k2, _⟩
    exact (hG.kp0 k2).a1
  · rintro k v st K hv ⟨o3, H2, cs, rfl, k2, h2t, h2, hF⟩ kn kc kr
    obtain ⟨nd, hko, rfl⟩ := map_at hv
    have hG2 := hG.kp0 k2
    have hl := hF.len
    simp only [b_assign, b_expr, b_ret, b_setSub, b_setAttr, b_unpack, b_aug, b_augSub, b_cont, b_nil, b_comp, zE0, zE1, zE2, zE3, zE4, zE5, zE6, zE7, zE8, zE9, zE10, zE11, zE12, zE13, zE14, zE15, zE16, zE17, zE18, zE19, zE20, zE21, zE22, zE23, zE24, zE25, zE26, zE27, zE28, zE29, zE30, zE31, zE32, zE33, zE34, zE35, zE36, zE37, zE38, may_some, V.ref.injEq, exists_eq_left', St.get, St.put, List.getElem?_cons_zero, List.getElem?_cons_succ, Option.join_some, List.set_cons_succ, List.set_cons_zero, b_ite, zC0, zC1, zC2, zC3, zC4, zC5, zC6, zC7, zC8]
    cases nd with
    | none =>
      simp [ndV, k_next]
      apply kn
      exact ⟨_, _, cs, rfl, k2, h2t, h2, hF.congr (fun i _ => by rw [sides_take hko]; rfl)⟩
    | some p =>
      have hlow := hlow _ p.1 p.2 hko
      have hkl := (List.getElem?_eq_some_iff.1 hko).1
      simp [ndV, k_next]
      have hF1 := hF.set (p.1 / 2) (sides (G.ns.take k) (p.1 / 2) + 1)
      simp only [b_assign, b_expr, b_ret, b_setSub, b_setAttr, b_unpack, b_aug, b_augSub, b_cont, b_nil, b_comp, zE0, zE1, zE2, zE3, zE4, zE5, zE6, zE7, zE8, zE9, zE10, zE11, zE12, zE13, zE14, zE15, zE16, zE17, zE18, zE19, zE20, zE21, zE22, zE23, zE24, zE25, zE26, zE27, zE28, zE29, zE30, zE31, zE32, zE33, zE34, zE35, zE36, zE37, zE38, may_some, V.ref.injEq, exists_eq_left', St.get, St.put, List.getElem?_cons_zero, List.getElem?_cons_succ, Option.join_some, List.set_cons_succ, List.set_cons_zero, subP0, subP1, bi_shr]
      simp only [b_assign, b_expr, b_ret, b_setSub, b_setAttr, b_unpack, b_aug, b_augSub, b_cont, b_nil, b_comp, zE0, zE1, zE2, zE3, zE4, zE5, zE6, zE7, zE8, zE9, zE10, zE11, zE12, zE13, zE14, zE15, zE16, zE17, zE18, zE19, zE20, zE21, zE22, zE23, zE24, zE25, zE26, zE27, zE28, zE29, zE30, zE31, zE32, zE33, zE34, zE35, zE36, zE37, zE38, may_some, V.ref.injEq, exists_eq_left', St.get, St.put, List.getElem?_cons_zero, List.getElem?_cons_succ, Option.join_some, List.set_cons_succ, List.set_cons_zero, sub_at h2 (hl ▸ hN) (hF.at' (p.1 / 2) (by exact om1 hlow.1 hkl)), bi_add1, set_at h2 (hl ▸ hN) (show p.1 / 2 < cs.length by exact om29 hlow.1 hkl hl) (sides (G.ns.take k) (p.1 / 2) + 1) rfl, subP0, subP1, bi_shr]
      have h3 : (H2.set s (.list ((cs.set (p.1 / 2) (sides (G.ns.take k) (p.1 / 2) + 1)).map nI)))[s]? = some (.list ((cs.set (p.1 / 2) (sides (G.ns.take k) (p.1 / 2) + 1)).map nI)) := by rw [List.getElem?_set_self (lt_of_get h2)]
      have hF2 := hF1.set (p.2 / 2) ((if p.2 / 2 = p.1 / 2 then sides (G.ns.take k) (p.1 / 2) + 1 else sides (G.ns.take k) (p.2 / 2)) + 1)
      have hl1 := hF1.len
      simp only [b_assign, b_expr, b_ret, b_setSub, b_setAttr, b_unpack, b_aug, b_augSub, b_cont, b_nil, b_comp, zE0, zE1, zE2, zE3, zE4, zE5, zE6, zE7, zE8, zE9, zE10, zE11, zE12, zE13, zE14, zE15, zE16, zE17, zE18, zE19, zE20, zE21, zE22, zE23, zE24, zE25, zE26, zE27, zE28, zE29, zE30, zE31, zE32, zE33, zE34, zE35, zE36, zE37, zE38, may_some, V.ref.injEq, exists_eq_left', St.get, St.put, List.getElem?_cons_zero, List.getElem?_cons_succ, Option.join_some, List.set_cons_succ, List.set_cons_zero, sub_at h3 (hl1 ▸ hN) (hF1.at' (p.2 / 2) (by exact om1 hlow.2 hkl)), bi_add1, set_at h3 (hl1 ▸ hN) (show p.2 / 2 < _ by rw [hl1]; exact om1 hlow.2 hkl) ((if p.2 / 2 = p.1 / 2 then sides (G.ns.take k) (p.1 / 2) + 1 else sides (G.ns.take k) (p.2 / 2)) + 1) rfl]
      apply kn
      refine ⟨_, _, _, rfl, (k2.set (by exact om7 hsl)).set (by exact om7 hsl), ?_, by rw [List.getElem?_set_self (lt_of_get h3)], hF2.congr ?_⟩
      · rw [List.getElem?_set_ne (by exact om48 hst htl), List.getElem?_set_ne (by exact om48 hst htl)]; exact h2t
      intro i hi
      rw [sides_take hko]
      simp only [sdc]
      by_cases e1 : p.1 / 2 = i <;> by_cases e2 : p.2 / 2 = i <;> simp [e1, e2] <;> (try split) <;> (try omega) <;> (try (subst e1)) <;> (try simp_all) <;> (try exact om563 e1)
  · rintro st ⟨o3, H2, cs, rfl, k2, h2t, h2, hF⟩
    have hG2 := hG.kp0 k2
    rw [List.length_map, List.take_of_length_le (Nat.le_refl _)] at hF
    rw [k_next, b_for]
    simp only [wpI, zE0, zE1, zE2, zE3, zE4, zE5, zE6, zE7, zE8, zE9, zE10, zE11, zE12, zE13, zE14, zE15, zE16, zE17, zE18, zE19, zE20, zE21, zE22, zE23, zE24, zE25, zE26, zE27, zE28, zE29, zE30, zE31, zE32, zE33, zE34, zE35, zE36, zE37, zE38, may_some, V.ref.injEq, exists_eq_left', St.get, St.put, List.getElem?_cons_zero, List.getElem?_cons_succ, Option.join_some, List.set_cons_succ, List.set_cons_zero, hG2.at2]
    refine ⟨_, hG2.a3, by simpa using ho, for_inv (fun k st => Ex3 fun (o4 : Option V) (H2 : Hp) (ec : List Nat) => An5 (st = ⟨[some (.obj g), some (.ref s), some (.ref t), o3, o4, none, none, none, none, none, none, none, none, none], H2⟩) (Kp no H H2) (H2[s]? = some (.list (cs.map nI))) (H2[t]? = some (.list (ec.map nI))) (Fn ec G.ns.length (fun i => ends (G.outs.take k) i))) ?_ ?_ ?_ ?_⟩
    · exact ⟨_, _, List.replicate G.ns.length 0, rfl, k2, h2, by rw [List.map_replicate]; exact h2t, Fn.repl⟩
    · rintro k st ⟨o4, H2, bs, rfl, k2, _⟩
      exact (hG.kp0 k2).a3
    · rintro k v st K hv ⟨o4, H2, ec, rfl, k2, h2s, h2, hF⟩ kn kc kr
      obtain ⟨o, hko, rfl⟩ := map_at hv
      have hl := hF.len
      have hoo := hO o (mem_at hko)
      simp only [b_assign, b_expr, b_ret, b_setSub, b_setAttr, b_unpack, b_aug, b_augSub, b_cont, b_nil, b_comp, zE0, zE1, zE2, zE3, zE4, zE5, zE6, zE7, zE8, zE9, zE10, zE11, zE12, zE13, zE14, zE15, zE16, zE17, zE18, zE19, zE20, zE21, zE22, zE23, zE24, zE25, zE26, zE27, zE28, zE29, zE30, zE31, zE32, zE33, zE34, zE35, zE36, zE37, zE38, may_some, V.ref.injEq, exists_eq_left', St.get, St.put, List.getElem?_cons_zero, List.getElem?_cons_succ, Option.join_some, List.set_cons_succ, List.set_cons_zero, bi_shr]
      simp only [b_assign, b_expr, b_ret, b_setSub, b_setAttr, b_unpack, b_aug, b_augSub, b_cont, b_nil, b_comp, zE0, zE1, zE2, zE3, zE4, zE5, zE6, zE7, zE8, zE9, zE10, zE11, zE12, zE13, zE14, zE15, zE16, zE17, zE18, zE19, zE20, zE21, zE22, zE23, zE24, zE25, zE26, zE27, zE28, zE29, zE30, zE31, zE32, zE33, zE34, zE35, zE36, zE37, zE38, may_some, V.ref.injEq, exists_eq_left', St.get, St.put, List.getElem?_cons_zero, List.getElem?_cons_succ, Option.join_some, List.set_cons_succ, List.set_cons_zero, sub_at h2 (hl ▸ hN) (hF.at' (o / 2) hoo), bi_add1, set_at h2 (hl ▸ hN) (show o / 2 < _ by rw [hl]; exact hoo) (ends (G.outs.take k) (o / 2) + 1) rfl]
      apply kn
      refine ⟨_, _, _, rfl, k2.set (by exact om174 hst htl hsl), by rw [List.getElem?_set_ne (by exact om49 hst htl)]; exact h2s, by rw [List.getElem?_set_self (lt_of_get h2)], (hF.set _ _).congr ?_⟩
      intro i hi
      rw [ends_take hko]
      by_cases e : i = o / 2
      · subst e; simp
      · rw [if_neg e, if_neg (fun h => e h.symm)]; rfl
    · rintro st ⟨o4, H2, ec, rfl, k2, h2s, h2, hE⟩
      rw [List.length_map, List.take_of_length_le (Nat.le_refl _)] at hE
      have hG2 := hG.kp0 k2
      rw [k_next, b_assign]
      refine e_repl (.int 0) (fun _ _ => by simp only [zE0, zE1, zE2, zE3, zE4, zE5, zE6, zE7, zE8, zE9, zE10, zE11, zE12, zE13, zE14, zE15, zE16, zE17, zE18, zE19, zE20, zE21, zE22, zE23, zE24, zE25, zE26, zE27, zE28, zE29, zE30, zE31, zE32, zE33, zE34, zE35, zE36, zE37, zE38]) rfl hG2 hN ?_
      intro H3 u hu hul k3
      simp only [St.get, St.put, List.getElem?_cons_zero, List.getElem?_cons_succ, Option.join_some, List.set_cons_succ, List.set_cons_zero] at hul k3 ⊢
      have hs3 := k3.get h2s (fun h => h)
      have ht3 := k3.get h2 (fun h => h)
      have hsl3 := lt_of_get h2s
      have htl3 := lt_of_get h2
      have k3 := k2.trans k3 (fun _ _ h => h)
      have hG3 := hG.kp0 k3
      rw [b_assign]
      refine e_repl (.int 0) (fun _ _ => by simp only [zE0, zE1, zE2, zE3, zE4, zE5, zE6, zE7, zE8, zE9, zE10, zE11, zE12, zE13, zE14, zE15, zE16, zE17, zE18, zE19, zE20, zE21, zE22, zE23, zE24, zE25, zE26, zE27, zE28, zE29, zE30, zE31, zE32, zE33, zE34, zE35, zE36, zE37, zE38]) rfl hG3 hN ?_
      intro H4 w hw4 hwl k4
      simp only [St.get, St.put, List.getElem?_cons_zero, List.getElem?_cons_succ, Option.join_some, List.set_cons_succ, List.set_cons_zero] at hwl k4 ⊢
      have hs4 := k4.get hs3 (fun h => h)
      have ht4 := k4.get ht3 (fun h => h)
      have hu4 := k4.get hu (fun h => h)
      have hul4 := lt_of_get hu
      have k4 := k3.trans k4 (fun _ _ h => h)
      have hG4 := hG.kp0 k4
      have hcl := hF.len
      have hel := hE.len
      rw [b_for]
      simp only [wpI, b_assign, b_expr, b_ret, b_setSub, b_setAttr, b_unpack, b_aug, b_augSub, b_cont, b_nil, b_comp, zE0, zE1, zE2, zE3, zE4, zE5, zE6, zE7, zE8, zE9, zE10, zE11, zE12, zE13, zE14, zE15, zE16, zE17, zE18, zE19, zE20, zE21, zE22, zE23, zE24, zE25, zE26, zE27, zE28, zE29, zE30, zE31, zE32, zE33, zE34, zE35, zE36, zE37, zE38, may_some, V.ref.injEq, exists_eq_left', St.get, St.put, List.getElem?_cons_zero, List.getElem?_cons_succ, Option.join_some, List.set_cons_succ, List.set_cons_zero, hG4.at0, len_at hG4.a1 hN]
      refine ⟨_, rfl, by exact om10, by exact om475 hn, for_inv (fun k st => Ex7 fun (o3 o7 o8 o9 : Option V) (H5 : Hp) (su le : List Nat) => An13 (st = ⟨[some (.obj g), some (.ref s), some (.ref t), o3, o4, some (.ref u), some (.ref w), o7, o8, o9, none, none, none, none], H5⟩) (Kp no H H5) (H5[s]? = some (.list (cs.map nI))) (H5[t]? = some (.list (ec.map nI))) (H5[u]? = some (.list (su.map nI))) (H5[w]? = some (.list (le.map nI))) (su.length = G.ns.length) (le.length = G.ns.length) ((∀ i, k ≤ i → dep su i = 0)) ((∀ i, k ≤ i → dep le i = 0)) ((∀ i : Nat, i < k → G.ns[i]? = some none → dep le i = 0)) ((∀ i, i < k → dep su i ≤ 2 ^ i ∧ dep le i ≤ i)) (∀ i l r, i < k → G.ns[i]? = some (some (l, r)) → dep su i = sl G.ns (fun i => sides G.ns i + ends G.outs i) le su l + sl G.ns (fun i => sides G.ns i + ends G.outs i) le su r ∧ dep le i = blN (dep su i - 1) ∧ 1 ≤ dep su i)) ?_ ?_ ?_ ?_⟩
      · have d0 : ∀ i, dep (List.replicate G.ns.length 0) i = 0 := by
          intro i; unfold dep; rw [List.getElem?_replicate]; split <;> rfl
        exact ⟨_, _, _, _, H4, List.replicate G.ns.length 0, List.replicate G.ns.length 0, rfl, k4, hs4, ht4, by rw [List.map_replicate]; exact hu4, by rw [List.map_replicate]; exact hw4, by simp, by simp, fun i _ => d0 i, fun i _ => d0 i, fun _ h => by exact om79 h, fun _ h => by exact om305 h, fun _ _ _ h => by exact om172 h⟩
      · intros; trivial
      · rintro k v st K hv ⟨o3, o7, o8, o9, H5, su, le, rfl, k5, hs5, ht5, hu5, hw5, hsu, hle, hz1, hz2, hno, hbd, hand⟩ kn kc kr
        obtain ⟨hkN, rfl⟩ := ru_at hv
        have hG5 := hG.kp0 k5
        obtain ⟨nd, hnd⟩ : ∃ nd, G.ns[k]? = some nd := ⟨_, List.getElem?_eq_getElem hkN⟩
        simp only [b_assign, b_expr, b_ret, b_setSub, b_setAttr, b_unpack, b_aug, b_augSub, b_cont, b_nil, b_comp, zE0, zE1, zE2, zE3, zE4, zE5, zE6, zE7, zE8, zE9, zE10, zE11, zE12, zE13, zE14, zE15, zE16, zE17, zE18, zE19, zE20, zE21, zE22, zE23, zE24, zE25, zE26, zE27, zE28, zE29, zE30, zE31, zE32, zE33, zE34, zE35, zE36, zE37, zE38, may_some, V.ref.injEq, exists_eq_left', St.get, St.put, List.getElem?_cons_zero, List.getElem?_cons_succ, Option.join_some, List.set_cons_succ, List.set_cons_zero, hG5.at0, sub_at hG5.a1 hN hnd, b_ite, zC0, zC1, zC2, zC3, zC4, zC5, zC6, zC7, zC8]
        cases nd with
        | none =>
          simp [ndV, k_next]
          apply kn
          refine ⟨_, _, _, _, H5, su, le, rfl, k5, hs5, ht5, hu5, hw5, hsu, hle, fun i hi => hz1 i (by exact om37 hi), fun i hi => hz2 i (by exact om37 hi), ?_, ?_, ?_⟩
          · intro i hi hn'
            by_cases e : i = k
            · rw [e]; exact hz2 k (Nat.le_refl _)
            · exact hno i (by exact om2 hi e) hn'
          · intro i hi
            by_cases e : i = k
            · rw [e, hz1 k (Nat.le_refl _), hz2 k (Nat.le_refl _)]; exact ⟨Nat.zero_le _, Nat.zero_le _⟩
            · exact hbd i (by exact om2 hi e)
          · intro i l r hi hnd'
            by_cases e : i = k
            · rw [e, hnd] at hnd'; cases hnd'
            · exact hand i l r (by exact om2 hi e) hnd'
        | some p =>
          have hok := hw.ok _ _ _ hnd
          simp [ndV, k_next]
          have step : ∀ (q x : Nat) (o9 : Option V) (H6 : Hp) (K' : Fl → St → Prop), q / 2 < k → Kp no H H6 → H6[s]? = some (.list (cs.map nI)) → H6[t]? = some (.list (ec.map nI)) → H6[u]? = some (.list ((su.set k x).map nI)) → H6[w]? = some (.list (le.map nI)) →
              (∀ H7 o9, Kp no H H7 → H7[s]? = some (.list (cs.map nI)) → H7[t]? = some (.list (ec.map nI)) → H7[u]? = some (.list ((su.set k (x + sl G.ns (fun i => sides G.ns i + ends G.outs i) le su q)).map nI)) → H7[w]? = some (.list (le.map nI)) →
                K' .next ⟨[some (.obj g), some (.ref s), some (.ref t), some (.pair (nI p.1) (nI p.2)), o4, some (.ref u), some (.ref w), some (nI k), some (nI q), o9, none, none, none, none], H7⟩) →
              wpB (wpCall defs d) (.cons (.assign 9 (.bin .shr (.var 8) (.int 1)))
                (.cons (.ite (.and (.cmp .eq (.bin .and (.var 8) (.int 1)) (.int 0)) (.and (.notNone (.sub (.attr (.var 0) 0) (.var 9))) (.cmp .eq (.bin .add (.sub (.var 1) (.var 9)) (.sub (.var 2) (.var 9))) (.int 1)))) (.cons (.augSub (.var 5) (.var 7) .add (.sub (.var 5) (.var 9)))
                .nil) (.cons (.augSub (.var 5) (.var 7) .add (.bin .shl (.int 1) (.sub (.var 6) (.var 9)))) .nil)) .nil))
                ⟨[some (.obj g), some (.ref s), some (.ref t), some (.pair (nI p.1) (nI p.2)), o4, some (.ref u), some (.ref w), some (nI k), some (nI q), o9, none, none, none, none], H6⟩ K' := by
            intro q x o9 H6 K' hq k6 hs6 ht6 hu6 hw6 hK
            have hG6 := hG.kp0 k6
            obtain ⟨nb, hnb⟩ : ∃ nb, G.ns[q / 2]? = some nb := ⟨_, List.getElem?_eq_getElem (by exact om1 hq hkN)⟩
            have e1 : (su.set k x)[k]? = some x := by rw [List.getElem?_set_self (by exact om0 hkN hsu)]
            have e2 : (su.set k x)[q / 2]? = some (dep su (q / 2)) := by rw [List.getElem?_set_ne (by exact om95 hq)]; exact dep_at (by exact om29 hq hkN hsu)
            have lo := (hbd _ hq).2
            have put : ∀ y, sl G.ns (fun i => sides G.ns i + ends G.outs i) le su q = y → ∀ o9, K' .next ⟨[some (.obj g), some (.ref s), some (.ref t), some (.pair (nI p.1) (nI p.2)), o4, some (.ref u), some (.ref w), some (nI k), some (nI q), o9, none, none, none, none], H6.set u (.list (((su.set k x).set k (x + y)).map nI))⟩ := by
              intro y hy o9
              refine hK _ o9 (k6.set (by exact om175 hst htl htl3 hul hsl)) (by rw [List.getElem?_set_ne (by exact om49 hsl3 hul)]; exact hs6) (by rw [List.getElem?_set_ne (by exact om49 htl3 hul)]; exact ht6) ?_ (by rw [List.getElem?_set_ne (by exact om48 hul4 hwl)]; exact hw6)
              rw [List.getElem?_set_self (lt_of_get hu6), List.set_set, hy]
            have shl : sl G.ns (fun i => sides G.ns i + ends G.outs i) le su q = 2 ^ dep le (q / 2) → wpB (wpCall defs d) (.cons (.augSub (.var 5) (.var 7) .add (.bin .shl (.int 1) (.sub (.var 6) (.var 9)))) .nil)
                ⟨[some (.obj g), some (.ref s), some (.ref t), some (.pair (nI p.1) (nI p.2)), o4, some (.ref u), some (.ref w), some (nI k), some (nI q), some (nI (q / 2)), none, none, none, none], H6⟩ (kont (fun st => K' .next st) K') := by
              intro hy
              simp only [b_assign, b_expr, b_ret, b_setSub, b_setAttr, b_unpack, b_aug, b_augSub, b_cont, b_nil, b_comp, zE0, zE1, zE2, zE3, zE4, zE5, zE6, zE7, zE8, zE9, zE10, zE11, zE12, zE13, zE14, zE15, zE16, zE17, zE18, zE19, zE20, zE21, zE22, zE23, zE24, zE25, zE26, zE27, zE28, zE29, zE30, zE31, zE32, zE33, zE34, zE35, zE36, zE37, zE38, may_some, V.ref.injEq, exists_eq_left', St.get, St.put, List.getElem?_cons_zero, List.getElem?_cons_succ, Option.join_some, List.set_cons_succ, List.set_cons_zero, sub_at hu6 (show (su.set k x).length < lim by simp; exact om8 hn hl20 hsu) e1, sub_at hw6 (show le.length < lim by exact om8 hn hl20 hle) (dep_at (show q / 2 < le.length by exact om29 hq hkN hle)), bi_shl1 (show dep le (q / 2) ≤ 1000 by exact om372 hn hkN hq lo), bi_add, set_at hu6 (show (su.set k x).length < lim by simp; exact om8 hn hl20 hsu) (show k < (su.set k x).length by simp; exact om0 hkN hsu) (x + 2 ^ dep le (q / 2)) rfl, k_next]
              exact put _ hy _
            simp only [b_assign, b_expr, b_ret, b_setSub, b_setAttr, b_unpack, b_aug, b_augSub, b_cont, b_nil, b_comp, zE0, zE1, zE2, zE3, zE4, zE5, zE6, zE7, zE8, zE9, zE10, zE11, zE12, zE13, zE14, zE15, zE16, zE17, zE18, zE19, zE20, zE21, zE22, zE23, zE24, zE25, zE26, zE27, zE28, zE29, zE30, zE31, zE32, zE33, zE34, zE35, zE36, zE37, zE38, may_some, V.ref.injEq, exists_eq_left', St.get, St.put, List.getElem?_cons_zero, List.getElem?_cons_succ, Option.join_some, List.set_cons_succ, List.set_cons_zero, zC0, zC1, zC2, zC3, zC4, zC5, zC6, zC7, zC8, b_ite, bi_shr, bi_and1, cmp_eq0]
            by_cases e0 : q % 2 = 0
            · simp only [e0, decide_true, if_true, b_assign, b_expr, b_ret, b_setSub, b_setAttr, b_unpack, b_aug, b_augSub, b_cont, b_nil, b_comp, zE0, zE1, zE2, zE3, zE4, zE5, zE6, zE7, zE8, zE9, zE10, zE11, zE12, zE13, zE14, zE15, zE16, zE17, zE18, zE19, zE20, zE21, zE22, zE23, zE24, zE25, zE26, zE27, zE28, zE29, zE30, zE31, zE32, zE33, zE34, zE35, zE36, zE37, zE38, may_some, V.ref.injEq, exists_eq_left', St.get, St.put, List.getElem?_cons_zero, List.getElem?_cons_succ, Option.join_some, List.set_cons_succ, List.set_cons_zero, hG6.at0, sub_at hG6.a1 hN hnb]
              cases nb with
              | none =>
                simp [ndV]
                have := shl (by unfold sl; rw [if_neg]; rw [andB_iff]; rintro ⟨_, ⟨p, hp⟩, _⟩; rw [hnb] at hp; cases hp)
                simpa only [b_assign, b_expr, b_ret, b_setSub, b_setAttr, b_unpack, b_aug, b_augSub, b_cont, b_nil, b_comp, zE0, zE1, zE2, zE3, zE4, zE5, zE6, zE7, zE8, zE9, zE10, zE11, zE12, zE13, zE14, zE15, zE16, zE17, zE18, zE19, zE20, zE21, zE22, zE23, zE24, zE25, zE26, zE27, zE28, zE29, zE30, zE31, zE32, zE33, zE34, zE35, zE36, zE37, zE38, may_some, V.ref.injEq, exists_eq_left', St.get, St.put, List.getElem?_cons_zero, List.getElem?_cons_succ, Option.join_some, List.set_cons_succ, List.set_cons_zero] using this
              | some pb =>
                simp [ndV]
                simp only [b_assign, b_expr, b_ret, b_setSub, b_setAttr, b_unpack, b_aug, b_augSub, b_cont, b_nil, b_comp, zE0, zE1, zE2, zE3, zE4, zE5, zE6, zE7, zE8, zE9, zE10, zE11, zE12, zE13, zE14, zE15, zE16, zE17, zE18, zE19, zE20, zE21, zE22, zE23, zE24, zE25, zE26, zE27, zE28, zE29, zE30, zE31, zE32, zE33, zE34, zE35, zE36, zE37, zE38, may_some, V.ref.injEq, exists_eq_left', St.get, St.put, List.getElem?_cons_zero, List.getElem?_cons_succ, Option.join_some, List.set_cons_succ, List.set_cons_zero, sub_at hs6 (show cs.length < lim by exact om8 hn hl20 hcl) (hF.at' (q / 2) (by exact om1 hq hkN)), sub_at ht6 (show ec.length < lim by exact om8 hn hl20 hel) (hE.at' (q / 2) (by exact om1 hq hkN)), bi_add, cmp_eq1]
                by_cases e3 : sides G.ns (q / 2) + ends G.outs (q / 2) = 1
                · simp only [e3, decide_true, if_true, b_assign, b_expr, b_ret, b_setSub, b_setAttr, b_unpack, b_aug, b_augSub, b_cont, b_nil, b_comp, zE0, zE1, zE2, zE3, zE4, zE5, zE6, zE7, zE8, zE9, zE10, zE11, zE12, zE13, zE14, zE15, zE16, zE17, zE18, zE19, zE20, zE21, zE22, zE23, zE24, zE25, zE26, zE27, zE28, zE29, zE30, zE31, zE32, zE33, zE34, zE35, zE36, zE37, zE38, may_some, V.ref.injEq, exists_eq_left', St.get, St.put, List.getElem?_cons_zero, List.getElem?_cons_succ, Option.join_some, List.set_cons_succ, List.set_cons_zero, sub_at hu6 (show (su.set k x).length < lim by simp; exact om8 hn hl20 hsu) e1, sub_at hu6 (show (su.set k x).length < lim by simp; exact om8 hn hl20 hsu) e2, bi_add, set_at hu6 (show (su.set k x).length < lim by simp; exact om8 hn hl20 hsu) (show k < (su.set k x).length by simp; exact om0 hkN hsu) (x + dep su (q / 2)) rfl, k_next]
                  exact put _ (by unfold sl; rw [if_pos ⟨e0, andB_iff.2 ⟨pb, hnb⟩, e3⟩]) _
                · simp only [e3, decide_false, if_false, Bool.false_eq_true]
                  have := shl (by unfold sl; rw [if_neg]; rintro ⟨_, _, h⟩; exact e3 h)
                  simpa only [b_assign, b_expr, b_ret, b_setSub, b_setAttr, b_unpack, b_aug, b_augSub, b_cont, b_nil, b_comp, zE0, zE1, zE2, zE3, zE4, zE5, zE6, zE7, zE8, zE9, zE10, zE11, zE12, zE13, zE14, zE15, zE16, zE17, zE18, zE19, zE20, zE21, zE22, zE23, zE24, zE25, zE26, zE27, zE28, zE29, zE30, zE31, zE32, zE33, zE34, zE35, zE36, zE37, zE38, may_some, V.ref.injEq, exists_eq_left', St.get, St.put, List.getElem?_cons_zero, List.getElem?_cons_succ, Option.join_some, List.set_cons_succ, List.set_cons_zero] using this
            · simp only [e0, decide_false, if_false, Bool.false_eq_true]
              have := shl (by unfold sl; rw [if_neg]; rintro ⟨h, _⟩; exact e0 h)
              simpa only [b_assign, b_expr, b_ret, b_setSub, b_setAttr, b_unpack, b_aug, b_augSub, b_cont, b_nil, b_comp, zE0, zE1, zE2, zE3, zE4, zE5, zE6, zE7, zE8, zE9, zE10, zE11, zE12, zE13, zE14, zE15, zE16, zE17, zE18, zE19, zE20, zE21, zE22, zE23, zE24, zE25, zE26, zE27, zE28, zE29, zE30, zE31, zE32, zE33, zE34, zE35, zE36, zE37, zE38, may_some, V.ref.injEq, exists_eq_left', St.get, St.put, List.getElem?_cons_zero, List.getElem?_cons_succ, Option.join_some, List.set_cons_succ, List.set_cons_zero] using this
          rw [b_for]
          simp only [wpI, zE0, zE1, zE2, zE3, zE4, zE5, zE6, zE7, zE8, zE9, zE10, zE11, zE12, zE13, zE14, zE15, zE16, zE17, zE18, zE19, zE20, zE21, zE22, zE23, zE24, zE25, zE26, zE27, zE28, zE29, zE30, zE31, zE32, zE33, zE34, zE35, zE36, zE37, zE38, may_some, St.get, St.put, List.getElem?_cons_zero, List.getElem?_cons_succ, Option.join_some, List.set_cons_succ, List.set_cons_zero]
          rw [wpFor_cons]
          have hu50 : H5[u]? = some (.list ((su.set k 0).map nI)) := by
            have : su.set k 0 = su := by
              apply List.ext_getElem?
              intro i; rw [List.getElem?_set]; split
              · rename_i e; subst e; rw [if_pos (by exact om0 hkN hsu)]
                rw [dep_at (show k < su.length by exact om0 hkN hsu), hz1 k (Nat.le_refl _)]
              · rfl
            rw [this]; exact hu5
          refine ⟨trivial, step p.1 0 _ H5 _ (by exact om1 hok.2.1 hok.2.2) k5 hs5 ht5 hu50 hw5 ?_⟩
          intro H6 o9 k6 hs6 ht6 hu6 hw6
          rw [w_next, wpFor_cons]
          refine ⟨trivial, step p.2 _ _ H6 _ (by exact om4 hok.2.2) k6 hs6 ht6 hu6 hw6 ?_⟩
          intro H7 o9 k7 hs7 ht7 hu7 hw7
          rw [w_next, wpFor_nil]
          refine ⟨trivial, ?_⟩
          rw [k_next]
          generalize hS : 0 + sl G.ns (fun i => sides G.ns i + ends G.outs i) le su p.1 + sl G.ns (fun i => sides G.ns i + ends G.outs i) le su p.2 = S at *
          have slb : ∀ q, q / 2 < k → 1 ≤ sl G.ns (fun i => sides G.ns i + ends G.outs i) le su q ∧ sl G.ns (fun i => sides G.ns i + ends G.outs i) le su q ≤ 2 ^ (k - 1) := by
            intro q hq
            have hb := hbd _ hq
            have hm : 2 ^ (q / 2) ≤ 2 ^ (k - 1) := Nat.pow_le_pow_right (by exact om3) (by exact om45 hq)
            unfold sl
            split
            · rename_i hc
              obtain ⟨pb, hpb⟩ := andB_iff.1 hc.2.1
              have := (hand _ pb.1 pb.2 hq hpb).2.2
              exact om351 this hb.1 hm
            · have := Nat.pow_le_pow_right (n := 2) (by exact om3) (show dep le (q / 2) ≤ k - 1 by exact om321 hq hb.2)
              have := Nat.two_pow_pos (dep le (q / 2))
              omega
          have b1 := slb p.1 (by exact om1 hok.2.1 hok.2.2)
          have b2 := slb p.2 (by exact om4 hok.2.2)
          have hk2 : 2 ^ k = 2 * 2 ^ (k - 1) := by rw [← Nat.pow_succ', show (k - 1).succ = k by exact om62 hok.2.2]
          have hSk : (su.set k S)[k]? = some S := by rw [List.getElem?_set_self (by exact om0 hkN hsu)]
          have eb : (if (((S - 1 : Nat) : Int) = 0) then (0 : Int) else (((((S - 1 : Nat) : Int).toNat.log2 + 1 : Nat)) : Int)) = ((blN (S - 1) : Nat) : Int) := by
            unfold blN
            by_cases e : S - 1 = 0
            · rw [if_pos (by exact om490 e), if_pos e]; rfl
            · rw [if_neg (by exact om328 hS b1.1 b2.1), if_neg e, Int.toNat_natCast]
          simp only [b_assign, b_expr, b_ret, b_setSub, b_setAttr, b_unpack, b_aug, b_augSub, b_cont, b_nil, b_comp, zE0, zE1, zE2, zE3, zE4, zE5, zE6, zE7, zE8, zE9, zE10, zE11, zE12, zE13, zE14, zE15, zE16, zE17, zE18, zE19, zE20, zE21, zE22, zE23, zE24, zE25, zE26, zE27, zE28, zE29, zE30, zE31, zE32, zE33, zE34, zE35, zE36, zE37, zE38, may_some, V.ref.injEq, exists_eq_left', St.get, St.put, List.getElem?_cons_zero, List.getElem?_cons_succ, Option.join_some, List.set_cons_succ, List.set_cons_zero, sub_at hu7 (show (su.set k S).length < lim by simp; exact om8 hn hl20 hsu) hSk, bi_sub1 (show 1 ≤ S by exact om124 hS b2.1)]
          refine ⟨_, rfl, _, rfl, by exact om21, ?_⟩
          rw [eb]
          simp only [may_some, set_at hw7 (show le.length < lim by exact om8 hn hl20 hle) (show k < le.length by exact om0 hkN hle) (blN (S - 1)) (v := .int (blN (S - 1))) rfl, k_next]
          apply kn
          have hsk : k < su.length := by exact om0 hkN hsu
          have hlk : k < le.length := by exact om0 hkN hle
          have slc : ∀ q, q / 2 < k → sl G.ns (fun i => sides G.ns i + ends G.outs i) (le.set k (blN (S - 1))) (su.set k S) q = sl G.ns (fun i => sides G.ns i + ends G.outs i) le su q := by
            intro q hq
            have hqk : q / 2 ≠ k := by exact om33 hq
            unfold sl
            simp only [dep_set hsk, dep_set hlk, hqk, if_false]
          refine ⟨_, _, _, _, _, su.set k S, le.set k (blN (S - 1)), rfl, k7.set (by exact om178 hsl htl hst hul htl3 hwl hul4), ?_, ?_, ?_, by rw [List.getElem?_set_self (lt_of_get hw7)], by simpa using hsu, by simpa using hle, ?_, ?_, ?_, ?_, ?_⟩
          · rw [List.getElem?_set_ne (by exact om466 htl hst hul htl3 hwl hul4)]; exact hs7
          · rw [List.getElem?_set_ne (by exact om428 htl3 hul hul4 hwl)]; exact ht7
          · rw [List.getElem?_set_ne (by exact om49 hul4 hwl)]; exact hu7
          · intro i hi; rw [dep_set hsk, if_neg (by exact om102 hi)]; exact hz1 i (by exact om37 hi)
          · intro i hi; rw [dep_set hlk, if_neg (by exact om102 hi)]; exact hz2 i (by exact om37 hi)
          · intro i hi hn'
            by_cases e : i = k
            · rw [e, hnd] at hn'; cases hn'
            · rw [dep_set hlk, if_neg e]; exact hno i (by exact om2 hi e) hn'
          · intro i hi
            by_cases e : i = k
            · rw [dep_set hsk, dep_set hlk, if_pos e, if_pos e, e]
              exact ⟨by exact om137 hS b1.2 b2.2 hk2, blN_min (by exact om137 hS b1.2 b2.2 hk2)⟩
            · rw [dep_set hsk, dep_set hlk, if_neg e, if_neg e]; exact hbd i (by exact om2 hi e)
          · intro i l r hi hnd'
            have hok' := hw.ok _ _ _ hnd'
            by_cases e : i = k
            · rw [e, hnd] at hnd'; injection hnd' with hnd'; injection hnd' with hnd'
              rw [dep_set hsk, dep_set hlk, if_pos e, if_pos e, slc l (by exact om132 hok'.2.1 hok'.2.2 e), slc r (by exact om26 hok'.2.2 e)]
              subst hnd'
              exact ⟨by rw [← hS]; simp, rfl, by exact om124 hS b2.1⟩
            · rw [dep_set hsk, dep_set hlk, if_neg e, if_neg e, slc l (by exact om53 hi hok'.2.2 hok'.2.1), slc r (by exact om5 hi hok'.2.2)]
              exact hand i l r (by exact om2 hi e) hnd'
      · rintro st ⟨o3, o7, o8, o9, H5, su, le, rfl, k5, hs5, ht5, hu5, hw5, hsu, hle, hz1, hz2, hno, hbd, hand⟩
        rw [ru_len] at *
        simp only [k_next, b_assign, b_expr, b_ret, b_setSub, b_setAttr, b_unpack, b_aug, b_augSub, b_cont, b_nil, b_comp, zE0, zE1, zE2, zE3, zE4, zE5, zE6, zE7, zE8, zE9, zE10, zE11, zE12, zE13, zE14, zE15, zE16, zE17, zE18, zE19, zE20, zE21, zE22, zE23, zE24, zE25, zE26, zE27, zE28, zE29, zE30, zE31, zE32, zE33, zE34, zE35, zE36, zE37, zE38, may_some, V.ref.injEq, exists_eq_left', St.get, St.put, List.getElem?_cons_zero, List.getElem?_cons_succ, Option.join_some, List.set_cons_succ, List.set_cons_zero, max_at hs5, intsOf_map]
        refine ⟨by intro e; have := congrArg List.length e; rw [List.length_map, List.length_nil] at this; exact om315 hnn this hcl, by simp; exact om8 hn hl20 hcl, ?_⟩
        intro i hi hmax
        simp only [cmpV, cmpI, may_some, Fl.val]
        refine h _ _ le su _ hw5 (by exact om468 hsl htl hst hul htl3 hwl hul4) k5 ⟨hle, fun i hi => hno i (List.getElem?_eq_some_iff.1 hi).1 hi, fun i l r hi => hand i l r (List.getElem?_eq_some_iff.1 hi).1 hi⟩ ?_
        intro hsg j hj
        have := hmax (sides G.ns j : Nat) (List.mem_map.2 ⟨_, mem_at (hF.at' j hj), rfl⟩)
        have := of_decide_eq_true hsg
        omega
end Mine
end

-- part L3
section
set_option Elab.async false
set_option linter.unusedVariables false
set_option linter.unusedSimpArgs false
namespace Mine

theorem sum_ge {α : Type} {f : α → Nat} : ∀ {xs : List α} {i : Nat} {x : α}, xs[i]? = some x → f x ≤ (xs.map f).sum
  | [], i, x, h => by simp at h
  | y :: xs, 0, x, h => by simp at h; subst h; simp
  | y :: xs, i + 1, x, h => by have := sum_ge (f := f) (xs := xs) (i := i) (x := x) (by simpa using h); simp; exact om128 this
theorem sum_ge2 {α : Type} {f : α → Nat} : ∀ {xs : List α} {i j : Nat} {x y : α}, i < j → xs[i]? = some x → xs[j]? = some y → f x + f y ≤ (xs.map f).sum
  | [], i, j, x, y, _, h, _ => by simp at h
  | z :: xs, 0, j + 1, x, y, _, h, h' => by
    simp at h; subst h
    have := sum_ge (f := f) (xs := xs) (i := j) (x := y) (by simpa using h'); simp; exact om47 this
  | z :: xs, i + 1, j + 1, x, y, hij, h, h' => by
    have := sum_ge2 (f := f) (xs := xs) (i := i) (j := j) (x := x) (y := y) (by exact om211 hij) (by simpa using h) (by simpa using h'); simp; exact om128 this

theorem side_pos {ns : Nds} {i l r y : Nat} (h : ns[i]? = some (some (l, r))) (hy : l / 2 = y ∨ r / 2 = y) : 1 ≤ sides ns y := by
  have := sum_ge (f := sdc y) h
  unfold sides
  simp only [sdc] at this
  rcases hy with hy | hy
  · rw [if_pos hy] at this; exact om266 this
  · rw [if_pos hy] at this; exact om271 this
theorem side_two {ns : Nds} {i j l r l' r' y : Nat} (hij : i ≠ j) (h : ns[i]? = some (some (l, r))) (h' : ns[j]? = some (some (l', r'))) (hy : l / 2 = y ∨ r / 2 = y) (hy' : l' / 2 = y ∨ r' / 2 = y) : 2 ≤ sides ns y := by
  have h1 : 1 ≤ sdc y (some (l, r)) := by
    simp only [sdc]; rcases hy with hy | hy <;> rw [if_pos hy] <;> (first | exact om570 | exact om571)
  have h2 : 1 ≤ sdc y (some (l', r')) := by
    simp only [sdc]; rcases hy' with hy | hy <;> rw [if_pos hy] <;> (first | exact om570 | exact om571)
  unfold sides
  rcases Nat.lt_or_gt_of_ne hij with h3 | h3
  · have := sum_ge2 (f := sdc y) h3 h h'; exact om127 this h1 h2
  · have := sum_ge2 (f := sdc y) h3 h' h; exact om127 this h2 h1

noncomputable def absB (bs : List Bool) (j : Nat) : Bool := bs[j]? == some true
theorem absB_iff {bs : List Bool} {j : Nat} : absB bs j = true ↔ bs[j]? = some true := by unfold absB; exact beq_iff_eq
noncomputable def asd (bs : List Bool) (q : Nat) : List Nat := if q % 2 = 0 ∧ absB bs (q / 2) = true then [q / 2] else []
noncomputable def aS (ns : Nds) (bs : List Bool) (i : Nat) : List Nat := match ns[i]? with
  | some (some p) => asd bs p.1 ++ asd bs p.2
  | _ => []
theorem asd_mem {bs : List Bool} {q w : Nat} : w ∈ asd bs q ↔ (q = 2 * w ∧ bs[w]? = some true) := by
  unfold asd
  constructor
  · intro h; split at h
    · rename_i hc; simp at h; subst h; exact ⟨by exact om485 hc.1, absB_iff.1 hc.2⟩
    · simp at h
  · rintro ⟨rfl, h⟩
    have e : 2 * w / 2 = w := by exact om6
    rw [if_pos ⟨by exact om154, by rw [e]; exact absB_iff.2 h⟩, e]; simp
theorem aS_eq {ns : Nds} {bs : List Bool} {i l r : Nat} (h : ns[i]? = some (some (l, r))) : aS ns bs i = asd bs l ++ asd bs r := by unfold aS; rw [h]
theorem aS_mem {ns : Nds} {bs : List Bool} {i w : Nat} : w ∈ aS ns bs i ↔ ∃ l r, ns[i]? = some (some (l, r)) ∧ (l = 2 * w ∨ r = 2 * w) ∧ bs[w]? = some true := by
  constructor
  · intro h
    unfold aS at h
    split at h
    · rename_i p hp
      rcases List.mem_append.1 h with h | h
      · have := asd_mem.1 h; exact ⟨p.1, p.2, hp, Or.inl this.1, this.2⟩
      · have := asd_mem.1 h; exact ⟨p.1, p.2, hp, Or.inr this.1, this.2⟩
    · simp at h
  · rintro ⟨l, r, h, hlr, hw⟩
    rw [aS_eq h, List.mem_append]
    rcases hlr with h | h
    · exact Or.inl (asd_mem.2 ⟨h, hw⟩)
    · exact Or.inr (asd_mem.2 ⟨h, hw⟩)

noncomputable def Wt (ns : Nds) (bs : List Bool) (ω : Nat → Nat) : Nat → Nat → Nat
  | 0, _ => 0
  | k + 1, i => ω i + ((aS ns bs i).map (Wt ns bs ω k)).sum
noncomputable def WW (ns : Nds) (bs : List Bool) (ω : Nat → Nat) (i : Nat) : Nat := Wt ns bs ω (i + 1) i
theorem aS_lt {ns : Nds} {bs : List Bool} (hw : Low ns) {i w : Nat} (h : w ∈ aS ns bs i) : w < i := by
  obtain ⟨l, r, h1, h2, _⟩ := aS_mem.1 h
  have := hw _ _ _ h1; exact om409 h2 this.1 this.2
theorem Wt_stable {ns : Nds} {bs : List Bool} {ω : Nat → Nat} (hw : Low ns) : ∀ (m i : Nat), i < m → ∀ k, i < k → Wt ns bs ω k i = WW ns bs ω i := by
  intro m
  induction m with
  | zero => intro i h; exact om164 h
  | succ m ih =>
    intro i hi k hk
    match k, hk with
    | k + 1, hk =>
      unfold WW
      simp only [Wt]
      congr 2
      apply List.map_congr_left
      intro w hw'
      have := aS_lt hw hw'
      rw [ih w (by exact om5 hi this) k (by exact om5 hk this), ih w (by exact om5 hi this) i (by exact om4 this)]
theorem WW_eq {ns : Nds} {bs : List Bool} {ω : Nat → Nat} (hw : Low ns) (i : Nat) : WW ns bs ω i = ω i + ((aS ns bs i).map (WW ns bs ω)).sum := by
  rw [WW, Wt]
  congr 2
  apply List.map_congr_left
  intro w hw'
  have := aS_lt hw hw'
  exact Wt_stable hw (w + 1) w (by exact om9) i (by exact om4 this)

theorem sum_flat {α : Type} {f : α → Nat} {g : Nat → List α} : ∀ (xs : List Nat), ((xs.flatMap g).map f).sum = (xs.map fun x => ((g x).map f).sum).sum
  | [] => rfl
  | x :: xs => by rw [List.flatMap_cons, List.map_append, List.sum_append, sum_flat xs]; simp
theorem sum_split {f : Nat → Nat} {p : Nat → Bool} : ∀ (xs : List Nat), (xs.map f).sum = ((xs.filter p).map f).sum + ((xs.filter fun x => !p x).map f).sum
  | [] => rfl
  | x :: xs => by
    have ih := sum_split (f := f) (p := p) xs
    cases hp : p x <;> simp [hp] <;> (first | exact om572 ih | exact om573 ih)
theorem sum_add {f g : Nat → Nat} : ∀ (xs : List Nat), (xs.map fun x => f x + g x).sum = (xs.map f).sum + (xs.map g).sum
  | [] => rfl
  | x :: xs => by simp only [List.map_cons, List.sum_cons, sum_add xs]; exact om414

/-- what is known of the absorbed ones -/
structure Ctx (n : Nat) (ns : Nds) (outs : List Nat) (bs : List Bool) : Prop where
  wg : WG n ns
  out : ∀ o, o ∈ outs → o / 2 < ns.length
  abs : AbsR ns (fun i => sides ns i + ends outs i) bs

theorem Ctx.even {n : Nat} {ns : Nds} {outs : List Nat} {bs : List Bool} (C : Ctx n ns outs bs) {i l r w : Nat} (h : ns[i]? = some (some (l, r))) (ha : bs[w]? = some true) {q : Nat} (hq : q = l ∨ q = r) (hqw : q / 2 = w) : q = 2 * w := by
  obtain ⟨hc, _, j, l', r', hj, he⟩ := C.abs.so w ha
  have hc : sides ns w + ends outs w = 1 := hc
  by_cases e : i = j
  · subst e; rw [h] at hj; injection hj with hj; injection hj with hj; injection hj with e1 e2; subst e1; subst e2
    have := C.wg.ok _ _ _ h
    exact om410 he hq this.2.1 hqw
  · have := side_two e h hj (y := w) (by exact om411 hq hqw) (by exact om52 he)
    omega
theorem Ctx.noout {n : Nat} {ns : Nds} {outs : List Nat} {bs : List Bool} (C : Ctx n ns outs bs) {o : Nat} (ho : o ∈ outs) : ¬ bs[o / 2]? = some true := by
  intro ha
  obtain ⟨hc, _, j, l', r', hj, he⟩ := C.abs.so _ ha
  have hc : sides ns (o / 2) + ends outs (o / 2) = 1 := hc
  have h1 := side_pos hj (y := o / 2) (by exact om52 he)
  have h2 : 1 ≤ ends outs (o / 2) := by
    obtain ⟨i, hi⟩ := List.getElem?_of_mem ho
    have := sum_ge (f := fun x => if x / 2 = o / 2 then 1 else 0) hi
    simpa [ends] using this
  omega
theorem Ctx.one {n : Nat} {ns : Nds} {outs : List Nat} {bs : List Bool} (C : Ctx n ns outs bs) {w : Nat} (ha : bs[w]? = some true) : sides ns w ≤ 1 := by
  have : sides ns w + ends outs w = 1 := (C.abs.so w ha).1
  exact om248 this

theorem Ctx.flat {n : Nat} {ns : Nds} {outs : List Nat} {bs : List Bool} (C : Ctx n ns outs bs) {R : List Nat} (hR : R.Nodup) : (R.flatMap (aS ns bs)).Nodup := by
  unfold List.Nodup
  rw [List.pairwise_flatMap]
  refine ⟨?_, ?_⟩
  · intro i _
    show (aS ns bs i).Nodup
    unfold aS
    split
    · rename_i p hp
      have := C.wg.ok _ p.1 p.2 hp
      unfold asd
      rw [List.nodup_append]
      refine ⟨by split <;> simp, by split <;> simp, ?_⟩
      intro a ha b hb
      split at ha <;> split at hb <;> simp at ha hb
      exact om385 this.2.1 ha hb
    · simp
  · refine List.Pairwise.imp ?_ hR
    intro i j hij w hw w' hw' e
    subst e
    obtain ⟨l, r, h1, h2, h3⟩ := aS_mem.1 hw
    obtain ⟨l', r', h1', h2', _⟩ := aS_mem.1 hw'
    have := side_two hij h1 h1' (y := w) (by exact om52 h2) (by exact om52 h2')
    have := C.one h3
    omega

theorem Ctx.le {n : Nat} {ns : Nds} {outs : List Nat} {bs : List Bool} (C : Ctx n ns outs bs) {ω : Nat → Nat} {R : List Nat} (hR : R.Nodup) (hcl : ∀ x, x ∈ R → ∀ w, w ∈ aS ns bs x → w ∈ R) :
    ((R.filter fun x => !absB bs x).map (WW ns bs ω)).sum ≤ (R.map ω).sum := by
  have h1 := sum_split (f := WW ns bs ω) (p := absB bs) R
  have h2 : (R.map (WW ns bs ω)).sum = (R.map ω).sum + ((R.flatMap (aS ns bs)).map (WW ns bs ω)).sum := by
    rw [sum_flat, ← sum_add]
    congr 1; apply List.map_congr_left; intro x _; exact WW_eq C.wg.low x
  have h3 : ((R.flatMap (aS ns bs)).map (WW ns bs ω)).sum ≤ ((R.filter (absB bs)).map (WW ns bs ω)).sum := by
    refine sub_sum (C.flat hR) ?_
    intro w hw
    obtain ⟨x, hx, hw⟩ := List.mem_flatMap.1 hw
    exact List.mem_filter.2 ⟨hcl x hx w hw, absB_iff.2 (aS_mem.1 hw).choose_spec.choose_spec.2.2⟩
  exact om442 h2 h1 h3
theorem Ctx.ge {n : Nat} {ns : Nds} {outs : List Nat} {bs : List Bool} (C : Ctx n ns outs bs) {ω : Nat → Nat} {R : List Nat} (hR : R.Nodup) (hp : ∀ w, w ∈ R → bs[w]? = some true → ∃ x, x ∈ R ∧ w ∈ aS ns bs x) :
    (R.map ω).sum ≤ ((R.filter fun x => !absB bs x).map (WW ns bs ω)).sum := by
  have h1 := sum_split (f := WW ns bs ω) (p := absB bs) R
  have h2 : (R.map (WW ns bs ω)).sum = (R.map ω).sum + ((R.flatMap (aS ns bs)).map (WW ns bs ω)).sum := by
    rw [sum_flat, ← sum_add]
    congr 1; apply List.map_congr_left; intro x _; exact WW_eq C.wg.low x
  have h3 : ((R.filter (absB bs)).map (WW ns bs ω)).sum ≤ ((R.flatMap (aS ns bs)).map (WW ns bs ω)).sum := by
    refine sub_sum (hR.filter _) ?_
    intro w hw
    obtain ⟨hw1, hw2⟩ := List.mem_filter.1 hw
    obtain ⟨x, hx, hwx⟩ := hp w hw1 (absB_iff.1 hw2)
    exact List.mem_flatMap.2 ⟨x, hx, hwx⟩
  exact om441 h1 h2 h3

/-- the size of a cluster -/
noncomputable def cs (ns : Nds) (bs : List Bool) : Nat → Nat := WW ns bs (fun _ => 1)
/-- the sides that are leaves at y -/
noncomputable def om (ns : Nds) (bs : List Bool) (y i : Nat) : Nat := match ns[i]? with
  | some (some p) => (if asd bs p.1 = [] ∧ p.1 / 2 = y then 1 else 0) + (if asd bs p.2 = [] ∧ p.2 / 2 = y then 1 else 0)
  | _ => 0
/-- how often y is a leaf of the cluster at i -/
noncomputable def wl (ns : Nds) (bs : List Bool) (y : Nat) : Nat → Nat := WW ns bs (om ns bs y)
noncomputable def nc (y : Nat) (xs : List Nat) : Nat := (xs.map fun x => if x / 2 = y then 1 else 0).sum
theorem nc_app {y : Nat} {xs ys : List Nat} : nc y (xs ++ ys) = nc y xs + nc y ys := by simp [nc]

theorem asd_pos {bs : List Bool} {q : Nat} (h0 : q % 2 = 0) (h1 : bs[q / 2]? = some true) : asd bs q = [q / 2] := by
  unfold asd; rw [if_pos ⟨h0, absB_iff.2 h1⟩]
theorem asd_neg {bs : List Bool} {q : Nat} (h : ¬ (q % 2 = 0 ∧ bs[q / 2]? = some true)) : asd bs q = [] := by
  unfold asd; rw [if_neg (fun h' => h ⟨h'.1, absB_iff.1 h'.2⟩)]

theorem Lv.length {ns : Nds} {bs : List Bool} (hw : Low ns) {q : Nat} {xs : List Nat} (h : Lv ns (fun j => bs[j]? = some true) q xs) : xs.length = 1 + ((asd bs q).map (cs ns bs)).sum := by
  induction h with
  | leaf l h hl => rw [asd_neg h]; rfl
  | node l a b xs ys h0 h1 h ha hb ia ib =>
    rw [asd_pos h0 h1, List.length_append, ia, ib]
    have e : ([l / 2].map (cs ns bs)).sum = cs ns bs (l / 2) := by simp
    have := WW_eq (bs := bs) (ω := fun _ => 1) hw (l / 2)
    rw [aS_eq h, List.map_append, List.sum_append] at this
    rw [e]; unfold cs at *; exact om125 this
theorem Lv.nc {ns : Nds} {bs : List Bool} (hw : Low ns) {q : Nat} {xs : List Nat} (y : Nat) (h : Lv ns (fun j => bs[j]? = some true) q xs) : Mine.nc y xs = (if asd bs q = [] ∧ q / 2 = y then 1 else 0) + ((asd bs q).map (wl ns bs y)).sum := by
  induction h with
  | leaf l h hl => rw [asd_neg h]; simp [Mine.nc]
  | node l a b xs ys h0 h1 h ha hb ia ib =>
    rw [asd_pos h0 h1, nc_app, ia, ib]
    have e : ([l / 2].map (wl ns bs y)).sum = wl ns bs y (l / 2) := by simp
    have := WW_eq (bs := bs) (ω := om ns bs y) hw (l / 2)
    rw [aS_eq h, List.map_append, List.sum_append] at this
    rw [e, if_neg (show ¬ ([l / 2] = [] ∧ l / 2 = y) by simp)]
    have e2 : om ns bs y (l / 2) = (if asd bs a = [] ∧ a / 2 = y then 1 else 0) + (if asd bs b = [] ∧ b / 2 = y then 1 else 0) := by unfold om; rw [h]
    rw [e2] at this
    unfold wl at *; exact om438 this
/-- the leaves of a node -/
theorem node_len {ns : Nds} {bs : List Bool} (hw : Low ns) {k a b : Nat} {xs ys : List Nat} (hk : ns[k]? = some (some (a, b))) (ha : Lv ns (fun j => bs[j]? = some true) a xs) (hb : Lv ns (fun j => bs[j]? = some true) b ys) :
    xs.length + ys.length = 1 + cs ns bs k := by
  rw [ha.length hw, hb.length hw]
  have := WW_eq (bs := bs) (ω := fun _ => 1) hw k
  rw [aS_eq hk, List.map_append, List.sum_append] at this
  unfold cs at *; exact om125 this
theorem node_nc {ns : Nds} {bs : List Bool} (hw : Low ns) {k a b : Nat} {xs ys : List Nat} (y : Nat) (hk : ns[k]? = some (some (a, b))) (ha : Lv ns (fun j => bs[j]? = some true) a xs) (hb : Lv ns (fun j => bs[j]? = some true) b ys) :
    nc y (xs ++ ys) = wl ns bs y k := by
  rw [nc_app, ha.nc hw y, hb.nc hw y]
  have := WW_eq (bs := bs) (ω := om ns bs y) hw k
  rw [aS_eq hk, List.map_append, List.sum_append] at this
  have e2 : om ns bs y k = (if asd bs a = [] ∧ a / 2 = y then 1 else 0) + (if asd bs b = [] ∧ b / 2 = y then 1 else 0) := by unfold om; rw [hk]
  rw [e2] at this
  unfold wl at *; exact om439 this

theorem wl_lt {ns : Nds} {bs : List Bool} (hw : Low ns) (y : Nat) : ∀ (m x : Nat), x < m → x ≤ y → wl ns bs y x = 0 := by
  intro m
  induction m with
  | zero => intro x h; exact om304 h
  | succ m ih =>
    intro x hx hy
    unfold wl
    rw [WW_eq hw]
    have h1 : om ns bs y x = 0 := by
      unfold om; split
      · rename_i p hp
        have := hw _ p.1 p.2 hp
        rw [if_neg (by exact om81 this.1 hy), if_neg (by exact om81 this.2 hy)]
      · rfl
    have h2 : ((aS ns bs x).map (WW ns bs (om ns bs y))).sum = 0 := by
      have : (aS ns bs x).map (WW ns bs (om ns bs y)) = (aS ns bs x).map (fun _ => 0) := by
        apply List.map_congr_left
        intro w hw'
        have := aS_lt hw hw'
        exact ih w (by exact om5 hx this) (by exact om318 this hy)
      rw [this]
      generalize aS ns bs x = l
      induction l with
      | nil => rfl
      | cons a l ih => simpa using ih
    exact om259 h1 h2

theorem sides_range (ns : Nds) (y : Nat) : sides ns y = ((List.range ns.length).map fun i => sdc y ((ns[i]?).join)).sum := by
  have : ns = (List.range ns.length).map fun i => (ns[i]?).join := by
    apply List.ext_getElem?
    intro i
    rw [List.getElem?_map]
    by_cases h : i < ns.length
    · rw [List.getElem?_range h, Option.map_some, List.getElem?_eq_getElem h]; rfl
    · rw [List.getElem?_eq_none (by exact om12 h), List.getElem?_eq_none (by simp; exact om12 h)]; rfl
  unfold sides
  conv => lhs; rw [this]
  rw [List.map_map]; rfl

/-- in the single case a node is a leaf once -/
theorem Ctx.single {n : Nat} {ns : Nds} {outs : List Nat} {bs : List Bool} (C : Ctx n ns outs bs) (hs : ∀ i, i < ns.length → sides ns i ≤ 1) (y : Nat) (hy : y < ns.length) {x : Nat} (hx : x < ns.length) (hax : ¬ bs[x]? = some true) :
    wl ns bs y x ≤ 1 ∧ ∀ x', x' < ns.length → ¬ bs[x']? = some true → x ≠ x' → wl ns bs y x + wl ns bs y x' ≤ 1 := by
  have h1 := C.le (ω := om ns bs y) (R := List.range ns.length) List.nodup_range (by
    intro x _ w hw
    obtain ⟨_, _, h, _, _⟩ := aS_mem.1 hw
    have := aS_lt C.wg.low hw
    have := (List.getElem?_eq_some_iff.1 h).1
    rw [List.mem_range]; omega)
  have h2 : ((List.range ns.length).map (om ns bs y)).sum ≤ sides ns y := by
    rw [sides_range]
    generalize List.range ns.length = L
    induction L with
    | nil => exact Nat.le_refl _
    | cons i L ih =>
      simp only [List.map_cons, List.sum_cons]
      have : om ns bs y i ≤ sdc y ((ns[i]?).join) := by
        unfold om
        split
        · rename_i p hp
          rw [hp]
          simp only [Option.join, sdc]
          have e1 : (if asd bs p.1 = [] ∧ p.1 / 2 = y then 1 else 0) ≤ (if p.1 / 2 = y then 1 else 0) := by split <;> split <;> omega
          have e2 : (if asd bs p.2 = [] ∧ p.2 / 2 = y then 1 else 0) ≤ (if p.2 / 2 = y then 1 else 0) := by split <;> split <;> omega
          simp only [Option.bind, id]
          exact om76 e1 e2
        · exact om11
      exact om76 this ih
  have h3 := hs y hy
  have mem : ∀ z, z < ns.length → ¬ bs[z]? = some true → z ∈ (List.range ns.length).filter (fun x => !absB bs x) := by
    intro z hz ha
    refine List.mem_filter.2 ⟨List.mem_range.2 hz, ?_⟩
    have : absB bs z = false := by rw [← Bool.not_eq_true, absB_iff]; exact ha
    rw [this]; rfl
  refine ⟨?_, ?_⟩
  · have := sub_sum (f := WW ns bs (om ns bs y)) (xs := [x]) (ys := (List.range ns.length).filter (fun x => !absB bs x)) (by simp) (by
      intro z hz; simp at hz; subst hz; exact mem _ hx hax)
    simp only [List.map_cons, List.map_nil, List.sum_cons, List.sum_nil] at this
    unfold wl; exact om404 this h1 h2 h3
  · intro x' hx' hax' hne
    have := sub_sum (f := WW ns bs (om ns bs y)) (xs := [x, x']) (ys := (List.range ns.length).filter (fun x => !absB bs x)) (by simp [hne]) (by
      intro z hz; simp at hz; rcases hz with rfl | rfl
      · exact mem _ hx hax
      · exact mem _ hx' hax')
    simp only [List.map_cons, List.map_nil, List.sum_cons, List.sum_nil] at this
    unfold wl; exact om445 this h1 h2 h3
end Mine
end

-- part L4
section
set_option Elab.async false
set_option linter.unusedVariables false
set_option linter.unusedSimpArgs false
namespace Mine

abbrev Ab (bs : List Bool) : Nat → Prop := fun j => bs[j]? = some true
noncomputable def cnt (ns : Nds) (outs : List Nat) (i : Nat) : Nat := sides ns i + ends outs i
noncomputable def Rt (ns : Nds) (outs : List Nat) (bs : List Bool) (i : Nat) : Prop := IsAnd ns i ∧ ¬ bs[i]? = some true ∧ cnt ns outs i ≠ 0
noncomputable def rtB (ns : Nds) (outs : List Nat) (bs : List Bool) (i : Nat) : Bool := andB ns i && !absB bs i && !decide (cnt ns outs i = 0)
theorem rtB_iff {ns : Nds} {outs : List Nat} {bs : List Bool} {i : Nat} : rtB ns outs bs i = true ↔ Rt ns outs bs i := by
  unfold rtB Rt
  rw [Bool.and_eq_true, Bool.and_eq_true, andB_iff, ← absB_iff]
  simp [and_assoc]
noncomputable def Hd (n : Nat) (ns : Nds) (outs : List Nat) (bs : List Bool) (k i : Nat) : Prop := i ≤ n ∨ (i < k ∧ Rt ns outs bs i)

structure BS (n : Nat) (ns : Nds) (outs : List Nat) (bs : List Bool) (le : List Nat) (k : Nat) (fns : Nds) (ds tb : List Nat) : Prop where
  new : ∀ i, i < k → Rt ns outs bs i → n < dep tb i / 2
  inj : ∀ i j, Hd n ns outs bs k i → Hd n ns outs bs k j → dep tb i / 2 = dep tb j / 2 → i = j
  fre : ∀ i, Hd n ns outs bs k i → 0 < i → (∀ x, x < k → Rt ns outs bs x → wl ns bs i x = 0) → Fre fns (dep tb i / 2)
  dp : ∀ i, Hd n ns outs bs k i → dep ds (dep tb i / 2) = dep le i
  use : ∀ x, x < k → Rt ns outs bs x → ∀ U, Closed fns U → U (dep tb x / 2) → ∀ y, 0 < wl ns bs y x → U (dep tb y / 2)
  cnt : ∀ U : Nat → Bool, Closed fns (fun y => U y = true) → (((List.range k).filter fun i => rtB ns outs bs i && U (dep tb i / 2)).map (cs ns bs)).sum ≤ ((List.range fns.length).filter fun y => decide (n < y) && U y).length

structure BI (n : Nat) (ns : Nds) (outs : List Nat) (bs : List Bool) (le fs : List Nat) (k : Nat) (fns : Nds) (ds tb : List Nat) : Prop where
  wg : WG n fns
  hd : Dep fns ds
  tl : tb.length = ns.length
  tin : ∀ i, i ≤ n → dep tb i = 2 * i
  rng : ∀ i, Hd n ns outs bs k i → dep tb i / 2 < fns.length
  len : fns.length ≤ n + 2 ^ k
  val : ∀ v v0, Val fns v → Val ns v0 → (∀ i, i ≤ n → v i = v0 i) → ∀ i, Hd n ns outs bs k i → lv v (dep tb i) = v0 i
  dpt : ∀ i, Hd n ns outs bs k i → dep ds (dep tb i / 2) ≤ dep le i
  xs : ∃ X : List Nat, X.length ≤ (((List.range k).filter fun i => rtB ns outs bs i && decide (i ∈ fs)).map (cs ns bs)).sum ∧ (∀ x, x ∈ X → x < fns.length) ∧
    (∀ x, x ∈ X → ∀ l r, fns[x]? = some (some (l, r)) → ∀ z, (z = l / 2 ∨ z = r / 2) → z ∈ X ∨ z ≤ n) ∧ ∀ i, i < k → Rt ns outs bs i → i ∈ fs → dep tb i / 2 ∈ X ∨ dep tb i / 2 ≤ n
  sg : (∀ i, i < ns.length → sides ns i ≤ 1) → BS n ns outs bs le k fns ds tb

theorem Dep.G0 {n : Nat} : Dep (G0 n).ns (List.replicate (n + 1) 0) := by
  refine ⟨by rw [G0_len]; simp, ?_, ?_⟩
  · intro i _; unfold dep; rw [List.getElem?_replicate]; split <;> rfl
  · intro i l r h
    have := WG.G0 (n := n)
    by_cases hi : i ≤ n
    · rw [this.base i hi] at h; cases h
    · have := (List.getElem?_eq_some_iff.1 h).1; rw [G0_len] at this; exact om370 this hi

theorem BI.start {n : Nat} {ns : Nds} {outs : List Nat} {bs : List Bool} {le su fs tb : List Nat} (C : Ctx n ns outs bs) (L : LstR ns (cnt ns outs) le su) (h : Fn tb ns.length (fun i => if i ≤ n then 2 * i else 0)) :
    BI n ns outs bs le fs 0 (G0 n).ns (List.replicate (n + 1) 0) tb := by
  have hlen := C.wg.len
  have e : ∀ i, i ≤ n → dep tb i = 2 * i := by
    intro i hi; unfold dep; rw [h.at' i (by exact om41 hlen hi), if_pos hi]; rfl
  have e2 : ∀ i, i ≤ n → dep tb i / 2 = i := by intro i hi; rw [e i hi]; exact om6
  have hh : ∀ i, Hd n ns outs bs 0 i → i ≤ n := by
    intro i hi; unfold Hd at hi; exact om167 hi
  have d0 : ∀ i, dep (List.replicate (n + 1) 0) i = 0 := by
    intro i; unfold dep; rw [List.getElem?_replicate]; split <;> rfl
  refine ⟨WG.G0, Dep.G0, h.len, e, ?_, ?_, ?_, ?_, ?_, ?_⟩
  · intro i hi; rw [e2 i (hh i hi), G0_len]; have := hh i hi; exact om104 this
  · rw [G0_len]; simp
  · intro v v0 _ _ hv i hi
    rw [e i (hh i hi), ← hv i (hh i hi)]; unfold lv
    rw [show 2 * i / 2 = i by exact om6, show 2 * i % 2 = 0 by exact om154]; simp
  · intro i hi; rw [d0]; exact Nat.zero_le _
  · exact ⟨[], by simp, by simp, by simp, fun i h => absurd h (Nat.not_lt_zero _)⟩
  · intro _
    refine ⟨fun i h => absurd h (Nat.not_lt_zero _), ?_, ?_, ?_, fun x h => absurd h (Nat.not_lt_zero _), fun U _ => by simp⟩
    · intro i j hi hj; rw [e2 i (hh i hi), e2 j (hh j hj)]; exact id
    · intro i hi _ _ x l r hx
      by_cases hi : x ≤ n
      · rw [WG.G0.base x hi] at hx; cases hx
      · have := (List.getElem?_eq_some_iff.1 hx).1; rw [G0_len] at this; exact om420 this hi
    · intro i hi; rw [d0, L.none i (C.wg.base i (hh i hi))]

theorem BI.skip {n : Nat} {ns : Nds} {outs : List Nat} {bs : List Bool} {le fs : List Nat} {k : Nat} {fns : Nds} {ds tb : List Nat} (C : Ctx n ns outs bs) (B : BI n ns outs bs le fs k fns ds tb) (hk : ¬ Rt ns outs bs k) :
    BI n ns outs bs le fs (k + 1) fns ds tb := by
  have hh : ∀ i, Hd n ns outs bs (k + 1) i → Hd n ns outs bs k i := by
    rintro i (h | ⟨h1, h2⟩)
    · exact Or.inl h
    · refine Or.inr ⟨?_, h2⟩
      by_cases e : i = k
      · exact absurd (e ▸ h2) hk
      · exact om2 h1 e
  have hr : ∀ i, i < k + 1 → Rt ns outs bs i → i < k := by
    intro i h1 h2
    by_cases e : i = k
    · exact absurd (e ▸ h2) hk
    · exact om2 h1 e
  have hb : rtB ns outs bs k = false := by rw [← Bool.not_eq_true, rtB_iff]; exact hk
  have hf : ∀ p : Nat → Bool, ((List.range (k + 1)).filter fun i => rtB ns outs bs i && p i) = (List.range k).filter fun i => rtB ns outs bs i && p i := by
    intro p; rw [List.range_succ, List.filter_append]; simp [hb]
  refine ⟨B.wg, B.hd, B.tl, B.tin, fun i hi => B.rng i (hh i hi), ?_, fun v v0 h1 h2 h3 i hi => B.val v v0 h1 h2 h3 i (hh i hi), fun i hi => B.dpt i (hh i hi), ?_, ?_⟩
  · have := B.len; have := Nat.pow_le_pow_right (n := 2) (by exact om3) (show k ≤ k + 1 by exact om30); omega
  · obtain ⟨X, h1, h2, h3, h4⟩ := B.xs
    exact ⟨X, by rw [hf]; exact h1, h2, h3, fun i hi hr' hf' => h4 i (hr i hi hr') hr' hf'⟩
  · intro hs
    have S := B.sg hs
    refine ⟨fun i hi h => S.new i (hr i hi h) h, fun i j hi hj => S.inj i j (hh i hi) (hh j hj), ?_, fun i hi => S.dp i (hh i hi), fun x hx h => S.use x (hr x hx h) h, ?_⟩
    · intro i hi h0 h; exact S.fre i (hh i hi) h0 (fun x hx h' => h x (by exact om23 hx) h')
    · intro U hU; rw [hf]; exact S.cnt U hU

noncomputable def IsSide (ns : Nds) (q : Nat) : Prop := ∃ (i l r : Nat), ns[i]? = some (some (l, r)) ∧ (q = l ∨ q = r)

theorem Lv.leaf_ok {n : Nat} {ns : Nds} {outs : List Nat} {bs : List Bool} (C : Ctx n ns outs bs) {q : Nat} {xs : List Nat} (h : Lv ns (Ab bs) q xs) (hq : IsSide ns q) :
    ∀ x, x ∈ xs → IsSide ns x ∧ x / 2 ≤ q / 2 ∧ ¬ bs[x / 2]? = some true := by
  induction h with
  | leaf l h hl =>
    intro x hx
    simp at hx; subst hx
    refine ⟨hq, Nat.le_refl _, ?_⟩
    intro ha
    obtain ⟨i, a, b, hi, hab⟩ := hq
    have := C.even hi ha hab rfl
    exact h ⟨by exact om251 this, ha⟩
  | node l a b xs ys h0 h1 h ha hb ia ib =>
    have hok := C.wg.ok _ _ _ h
    intro x hx
    rcases List.mem_append.1 hx with hx | hx
    · have := ia ⟨_, _, _, h, Or.inl rfl⟩ x hx
      exact ⟨this.1, by exact om380 hok.2.1 hok.2.2 this.2.1, this.2.2⟩
    · have := ib ⟨_, _, _, h, Or.inr rfl⟩ x hx
      exact ⟨this.1, by exact om322 hok.2.2 this.2.1, this.2.2⟩

theorem Lv.all {ns : Nds} {bs : List Bool} {v : Nat → Bool} (hv : Val ns v) {q : Nat} {xs : List Nat} (h : Lv ns (Ab bs) q xs) : xs.all (lv v) = lv v q := by
  induction h with
  | leaf => simp
  | node l a b xs ys h0 h1 h ha hb ia ib =>
    rw [List.all_append, ia, ib, ← hv.and _ _ _ h]
    unfold lv; rw [h0]; simp

theorem pw_app {xs ys : List Nat} : pw (xs ++ ys) = pw xs + pw ys := by simp [pw]
theorem pw_mono {f g : Nat → Nat} : ∀ {xs : List Nat}, (∀ x, x ∈ xs → f x ≤ g x) → pw (xs.map f) ≤ pw (xs.map g)
  | [], _ => Nat.le_refl _
  | x :: xs, h => by
    have h1 := pw_mono (f := f) (g := g) (xs := xs) (fun y hy => h y (List.mem_cons_of_mem _ hy))
    have h2 := Nat.pow_le_pow_right (n := 2) (by exact om3) (h x (List.mem_cons_self ..))
    simp only [List.map_cons, pw_cons]; exact om76 h2 h1

theorem Lv.pw {n : Nat} {ns : Nds} {outs : List Nat} {bs : List Bool} {le su : List Nat} (C : Ctx n ns outs bs) (L : LstR ns (cnt ns outs) le su) {q : Nat} {xs : List Nat} (h : Lv ns (Ab bs) q xs) (hq : IsSide ns q) :
    Mine.pw (xs.map fun x => dep le (x / 2)) = sl ns (cnt ns outs) le su q := by
  induction h with
  | leaf l h hl =>
    unfold sl
    rw [if_neg, List.map_cons, List.map_nil, pw_cons]
    · simp [Mine.pw]
    · rintro ⟨h0, h1, h2⟩
      obtain ⟨i, a, b, hi, hab⟩ := hq
      exact h ⟨h0, C.abs.co _ h2 (andB_iff.1 h1) ⟨i, a, b, hi, by exact om129 hab h0⟩⟩
  | node l a b xs ys h0 h1 h ha hb ia ib =>
    rw [List.map_append, pw_app, ia ⟨_, _, _, h, Or.inl rfl⟩, ib ⟨_, _, _, h, Or.inr rfl⟩, ← (L.and _ _ _ h).1]
    have := C.abs.so _ h1
    unfold sl
    rw [if_pos ⟨h0, andB_iff.2 ⟨_, h⟩, this.1⟩]

theorem Lv.fs {ns : Nds} {outs : List Nat} {bs : List Bool} {fs : List Nat} (R : ReachR ns outs fs) {q : Nat} {xs : List Nat} (h : Lv ns (Ab bs) q xs) (hq : IsAnd ns (q / 2) → q / 2 ∈ fs) :
    ∀ x, x ∈ xs → IsAnd ns (x / 2) → x / 2 ∈ fs := by
  induction h with
  | leaf l h hl => intro x hx; simp at hx; subst hx; exact hq
  | node l a b xs ys h0 h1 h ha hb ia ib =>
    have := R.cl _ _ _ (hq ⟨_, h⟩) h
    intro x hx
    rcases List.mem_append.1 hx with hx | hx
    · exact ia this.1 x hx
    · exact ib this.2 x hx

theorem nodup_on {f : Nat → Nat} : ∀ {xs : List Nat}, (∀ a, a ∈ xs → ∀ b, b ∈ xs → f (a / 2) = f (b / 2) → a / 2 = b / 2) → (∀ y, nc y xs ≤ 1) → (xs.map fun x => f (x / 2)).Nodup
  | [], _, _ => by simp
  | x :: xs, hf, hn => by
    have e : ∀ y, nc y (x :: xs) = (if x / 2 = y then 1 else 0) + nc y xs := by intro y; simp [nc]
    rw [List.map_cons, List.nodup_cons]
    refine ⟨?_, nodup_on (fun a ha b hb => hf a (List.mem_cons_of_mem _ ha) b (List.mem_cons_of_mem _ hb)) (fun y => by have := hn y; rw [e] at this; exact om273 this)⟩
    intro hm
    obtain ⟨z, hz, he⟩ := List.mem_map.1 hm
    have h1 := hf z (List.mem_cons_of_mem _ hz) x (List.mem_cons_self ..) he
    have h2 := hn (x / 2)
    rw [e, if_pos rfl] at h2
    obtain ⟨i, hi⟩ := List.getElem?_of_mem hz
    have h3 := sum_ge (f := fun q => if q / 2 = x / 2 then 1 else 0) hi
    simp only [h1, if_true] at h3
    unfold nc at h2; exact om493 h2 h3
theorem nc_pos {y : Nat} {xs : List Nat} (h : 0 < nc y xs) : ∃ q, q ∈ xs ∧ q / 2 = y := by
  induction xs with
  | nil => simp [nc] at h
  | cons x xs ih =>
    have e : nc y (x :: xs) = (if x / 2 = y then 1 else 0) + nc y xs := by simp [nc]
    by_cases hx : x / 2 = y
    · exact ⟨x, List.mem_cons_self .., hx⟩
    · rw [e, if_neg hx] at h
      obtain ⟨q, h1, h2⟩ := ih (by exact om470 h)
      exact ⟨q, List.mem_cons_of_mem _ h1, h2⟩
theorem nc_mem {q : Nat} {xs : List Nat} (h : q ∈ xs) : 1 ≤ nc (q / 2) xs := by
  obtain ⟨i, hi⟩ := List.getElem?_of_mem h
  have := sum_ge (f := fun x => if x / 2 = q / 2 then 1 else 0) hi
  simpa [nc] using this
end Mine
end

-- part L5
section
set_option Elab.async false
set_option linter.unusedVariables false
set_option linter.unusedSimpArgs false
namespace Mine

theorem BI.step {n : Nat} {ns : Nds} {outs : List Nat} {bs : List Bool} {le su fs : List Nat} {k : Nat} {fns : Nds} {ds tb : List Nat} (C : Ctx n ns outs bs) (L : LstR ns (cnt ns outs) le su) (R : ReachR ns outs fs)
    (B : BI n ns outs bs le fs k fns ds tb) {a b : Nat} (hk : ns[k]? = some (some (a, b))) (hna : ¬ bs[k]? = some true) (hc : cnt ns outs k ≠ 0)
    {xs ys : List Nat} (ha : Lv ns (Ab bs) a xs) (hb : Lv ns (Ab bs) b ys) (hxy : xs.length + ys.length ≤ 2 ^ k) :
    (∀ l, l ∈ xs ++ ys → l / 2 < ns.length ∧ mvd tb l / 2 < fns.length) ∧
      ∀ fns' ds' res, JP n fns ds ((xs ++ ys).map (mvd tb)) fns' ds' res → BI n ns outs bs le fs (k + 1) fns' ds' (tb.set k res) := by
  have hok := C.wg.ok _ _ _ hk
  have hkN := (List.getElem?_eq_some_iff.1 hk).1
  have hrt : Rt ns outs bs k := ⟨⟨_, hk⟩, hna, hc⟩
  have hkn : n < k := by
    apply Nat.lt_of_not_le; intro h1
    rw [C.wg.base k h1] at hk; cases hk
  have hll := node_len C.wg.low hk ha hb
  have hnc := fun y => node_nc C.wg.low y hk ha hb
  have leaf : ∀ q, q ∈ xs ++ ys → IsSide ns q ∧ 0 < q / 2 ∧ q / 2 < k ∧ Hd n ns outs bs k (q / 2) := by
    intro q hq
    have h1 : IsSide ns q ∧ q / 2 < k ∧ ¬ bs[q / 2]? = some true := by
      rcases List.mem_append.1 hq with hq | hq
      · have := ha.leaf_ok C ⟨_, _, _, hk, Or.inl rfl⟩ q hq; exact ⟨this.1, by exact om379 hok.2.1 hok.2.2 this.2.1, this.2.2⟩
      · have := hb.leaf_ok C ⟨_, _, _, hk, Or.inr rfl⟩ q hq; exact ⟨this.1, by exact om41 hok.2.2 this.2.1, this.2.2⟩
    obtain ⟨i, l, r, hi, hlr⟩ := h1.1
    have hoi := C.wg.ok _ _ _ hi
    refine ⟨h1.1, by exact om357 hlr hoi.2.1 hoi.1, h1.2.1, ?_⟩
    by_cases e : q / 2 ≤ n
    · exact Or.inl e
    · obtain ⟨l', r', h2⟩ := C.wg.and (q / 2) (by exact om39 e) (by exact om1 h1.2.1 hkN)
      refine Or.inr ⟨h1.2.1, ⟨_, h2⟩, h1.2.2, ?_⟩
      have := side_pos hi (y := q / 2) (by exact om358 hlr)
      unfold cnt; exact om103 this
  refine ⟨?_, ?_⟩
  · intro l hl
    have := leaf l hl
    exact ⟨by exact om1 this.2.2.1 hkN, by rw [mvd_div]; exact B.rng _ this.2.2.2⟩
  intro fns' ds' res J
  have htl := B.tl
  have hkt : k < tb.length := by exact om0 hkN htl
  have hpl := J.pre.len
  have hJl := J.len
  rw [List.length_map, List.length_append] at hJl
  have tk : dep (tb.set k res) k = res := by rw [dep_set hkt, if_pos rfl]
  have to : ∀ i, i ≠ k → dep (tb.set k res) i = dep tb i := fun i hi => by rw [dep_set hkt, if_neg hi]
  have hh : ∀ i, Hd n ns outs bs (k + 1) i → i = k ∨ (i ≠ k ∧ Hd n ns outs bs k i) := by
    intro i h
    by_cases e : i = k
    · exact Or.inl e
    · refine Or.inr ⟨e, ?_⟩
      rcases h with h | ⟨h1, h2⟩
      · exact Or.inl h
      · exact Or.inr ⟨by exact om2 h1 e, h2⟩
  have hp2 : 2 ^ (k + 1) = 2 * 2 ^ k := Nat.pow_succ'
  have hkB : rtB ns outs bs k = true := rtB_iff.2 hrt
  have hsu : pw ((xs ++ ys).map fun q => dep le (q / 2)) = dep su k := by
    rw [List.map_append, pw_app, ha.pw C L ⟨_, _, _, hk, Or.inl rfl⟩, hb.pw C L ⟨_, _, _, hk, Or.inr rfl⟩, ← (L.and _ _ _ hk).1]
  have hLk := L.and _ _ _ hk
  have pds : ∀ i, Hd n ns outs bs k i → dep ds' (dep tb i / 2) = dep ds (dep tb i / 2) := fun i hi => J.pds _ (B.rng i hi)
  have dle : dep ds' (res / 2) ≤ dep le k := by
    refine J.sum (dep le k) ?_
    have h1 : pw (((xs ++ ys).map (mvd tb)).map (dget ds)) ≤ pw ((xs ++ ys).map fun q => dep le (q / 2)) := by
      rw [List.map_map]
      refine pw_mono ?_
      intro q hq
      simp only [Function.comp, dget_dep, mvd_div]
      exact B.dpt _ (leaf q hq).2.2.2
    rw [hsu] at h1
    have h2 := blN_le hLk.2.2
    rw [← hLk.2.1] at h2
    exact om51 h1 h2
  refine ⟨J.wg, J.hd, by simpa using htl, ?_, ?_, ?_, ?_, ?_, ?_, ?_⟩
  · intro i hi; rw [to i (by exact om320 hkn hi)]; exact B.tin i hi
  · intro i hi
    rcases hh i hi with rfl | ⟨h1, h2⟩
    · rw [tk]; exact J.rl
    · rw [to i h1]; have := B.rng i h2; exact om17 this hpl
  · have := B.len; exact om448 hJl this hxy
  · intro v v0 hv hv0 hvi i hi
    rcases hh i hi with rfl | ⟨h1, h2⟩
    · rw [tk, J.val v hv, hv0.and _ _ _ hk, ← ha.all hv0, ← hb.all hv0, ← List.all_append, List.all_map, Bool.eq_iff_iff, List.all_eq_true, List.all_eq_true]
      have key : ∀ q, q ∈ xs ++ ys → lv v (mvd tb q) = lv v0 q := by
        intro q hq
        have h3 := B.val v v0 (hv.pre J.pre) hv0 hvi (q / 2) (leaf q hq).2.2.2
        unfold mvd; rw [lv_moved, dget_dep, h3]; rfl
      constructor
      · intro h q hq; rw [← key q hq]; exact h q hq
      · intro h q hq; simp only [Function.comp]; rw [key q hq]; exact h q hq
    · rw [to i h1]; exact B.val v v0 (hv.pre J.pre) hv0 hvi i h2
  · intro i hi
    rcases hh i hi with rfl | ⟨h1, h2⟩
    · rw [tk]; exact dle
    · rw [to i h1, pds i h2]; exact B.dpt i h2
  · obtain ⟨X, x1, x2, x3, x4⟩ := B.xs
    obtain ⟨Y, y1, y2, y3, y4⟩ := J.xs
    rw [List.length_map, List.length_append] at y1
    by_cases hf : k ∈ fs
    · have lit : ∀ z, (∃ l, l ∈ (xs ++ ys).map (mvd tb) ∧ z = l / 2) → z ∈ X ∨ z ≤ n := by
        rintro z ⟨l, hl, rfl⟩
        obtain ⟨q, hq, rfl⟩ := List.mem_map.1 hl
        rw [mvd_div]
        rcases (leaf q hq).2.2.2 with h1 | ⟨h1, h2⟩
        · rw [B.tin _ h1]; exact Or.inr (by exact om105 h1)
        · refine x4 _ h1 h2 ?_
          have hcl := R.cl _ _ _ hf hk
          rcases List.mem_append.1 hq with hq | hq
          · exact ha.fs R hcl.1 q hq h2.1
          · exact hb.fs R hcl.2 q hq h2.1
      refine ⟨X ++ Y, ?_, ?_, ?_, ?_⟩
      · rw [List.range_succ, List.filter_append, List.map_append, List.sum_append, List.length_append]
        have : ([k].filter fun i => rtB ns outs bs i && decide (i ∈ fs)) = [k] := by simp [hkB, hf]
        rw [this]
        simp only [List.map_cons, List.map_nil, List.sum_cons, List.sum_nil]
        exact om449 y1 hll x1
      · intro x hx
        rcases List.mem_append.1 hx with hx | hx
        · have := x2 x hx; exact om17 this hpl
        · exact y2 x hx
      · intro x hx l r hnd z hz
        have app : (z ∈ X ∨ z ≤ n) → z ∈ X ++ Y ∨ z ≤ n := fun h => h.imp (fun h => List.mem_append_left _ h) id
        rcases List.mem_append.1 hx with hx | hx
        · exact app (x3 x hx l r (J.pre.back (x2 x hx) hnd) z hz)
        · rcases y4 x hx l r hnd z hz with h | h
          · exact Or.inl (List.mem_append_right _ h)
          · exact app (lit z h)
      · intro i hi hr hfi
        have app : ∀ z, (z ∈ X ∨ z ≤ n) → z ∈ X ++ Y ∨ z ≤ n := fun z h => h.imp (fun h => List.mem_append_left _ h) id
        by_cases e : i = k
        · rw [e, tk]
          rcases y3 with h | h
          · exact Or.inl (List.mem_append_right _ h)
          · exact app _ (lit _ h)
        · rw [to i e]; exact app _ (x4 i (by exact om2 hi e) hr hfi)
    · refine ⟨X, ?_, ?_, ?_, ?_⟩
      · rw [List.range_succ, List.filter_append]
        have : ([k].filter fun i => rtB ns outs bs i && decide (i ∈ fs)) = [] := by simp [hf]
        rw [this, List.append_nil]; exact x1
      · intro x hx; have := x2 x hx; exact om17 this hpl
      · intro x hx l r hnd; exact x3 x hx l r (J.pre.back (x2 x hx) hnd)
      · intro i hi hr hfi
        have e : i ≠ k := by rintro rfl; exact hf hfi
        rw [to i e]; exact x4 i (by exact om222 hi e) hr hfi
  · intro hs
    have S := B.sg hs
    have hsg : Sgl fns ((xs ++ ys).map (mvd tb)) := by
      refine ⟨?_, ?_⟩
      · have e : ((xs ++ ys).map (mvd tb)).map (· / 2) = (xs ++ ys).map fun q => dep tb (q / 2) / 2 := by
          rw [List.map_map]; apply List.map_congr_left; intro q _; exact mvd_div tb q
        rw [e]
        refine nodup_on (f := fun y => dep tb y / 2) ?_ ?_
        · intro p hp q hq h
          exact S.inj _ _ (leaf p hp).2.2.2 (leaf q hq).2.2.2 h
        · intro y
          rw [hnc y]
          by_cases hy : y < ns.length
          · exact (C.single hs y hy hkN hna).1
          · rw [wl_lt C.wg.low y (k + 1) k (by exact om9) (by exact om323 hkN hy)]; exact om551
      · intro l hl
        obtain ⟨q, hq, rfl⟩ := List.mem_map.1 hl
        obtain ⟨q1, q2, q3, q4⟩ := leaf q hq
        rw [mvd_div]
        refine ⟨?_, ?_⟩
        · rcases q4 with h1 | ⟨h1, h2⟩
          · rw [B.tin _ h1]; exact om471 q2
          · have := S.new _ h1 h2; exact om61 this
        · refine S.fre _ q4 q2 ?_
          intro x hx hr
          have h1 := nc_mem hq
          rw [hnc] at h1
          have := (C.single hs (q / 2) (by exact om1 q3 hkN) hkN hna).2 x (by exact om1 hx hkN) hr.2.1 (by exact om95 hx)
          exact om272 this h1
    have Z := J.sg hsg
    have zl := Z.len
    simp only [List.length_cons, List.length_nil, List.length_map, List.length_append] at zl
    have hp1 := ha.pos
    have hp2 := hb.pos
    have zlast : res + 2 = 2 * fns'.length := by
      obtain ⟨p, hp, h⟩ := Z.last (by exact om392 zl hp1 hp2)
      simp at hp; subst hp; exact h
    have hwl := B.wg.len
    refine ⟨?_, ?_, ?_, ?_, ?_, ?_⟩
    · intro i hi hr
      by_cases e : i = k
      · rw [e, tk]; exact om454 zl zlast hp1 hp2 hwl
      · rw [to i e]; exact S.new i (by exact om2 hi e) hr
    · intro i j hi hj
      rcases hh i hi with rfl | ⟨h1, h2⟩ <;> rcases hh j hj with rfl | ⟨h3, h4⟩
      · intro _; rfl
      · rw [tk, to j h3]; intro e; have := B.rng j h4; omega
      · rw [tk, to i h1]; intro e; have := B.rng i h2; omega
      · rw [to i h1, to j h3]; exact S.inj i j h2 h4
    · intro i hi h0 hx
      rcases hh i hi with rfl | ⟨h1, h2⟩
      · rw [tk]
        exact (Z.sg.2 res (by simp)).2
      · rw [to i h1]
        refine Z.fre _ (B.rng i h2) (S.fre i h2 h0 (fun x hx' hr => hx x (by exact om23 hx') hr)) ?_
        intro l hl e
        obtain ⟨q, hq, rfl⟩ := List.mem_map.1 hl
        rw [mvd_div] at e
        have := S.inj _ _ h2 (leaf q hq).2.2.2 e
        have h5 := nc_mem hq
        rw [hnc, ← this, hx k (by exact om9) hrt] at h5
        exact om544 h5
    · intro i hi
      rcases hh i hi with rfl | ⟨h1, h2⟩
      · rw [tk]
        refine Nat.le_antisymm dle ?_
        rw [hLk.2.1]
        refine blN_min ?_
        have h1 := Z.sum
        simp only [List.map_cons, List.map_nil, pw_cons] at h1
        have h2 : pw (((xs ++ ys).map (mvd tb)).map (dget ds)) = dep su i := by
          rw [← hsu, List.map_map]
          congr 1
          apply List.map_congr_left
          intro q hq
          simp only [Function.comp, dget_dep, mvd_div]
          exact S.dp _ (leaf q hq).2.2.2
        rw [h2] at h1
        simpa [pw] using h1
      · rw [to i h1, pds i h2]; exact S.dp i h2
    · intro x hx hr U hU hUx y hy
      have hyx : y < x := by
        apply Nat.lt_of_not_le; intro h
        rw [wl_lt C.wg.low y (x + 1) x (by exact om9) h] at hy; exact om543 hy
      rw [to y (by exact om68 hx hyx)]
      by_cases e : x = k
      · subst e
        rw [tk] at hUx
        rw [← hnc] at hy
        obtain ⟨q, hq, rfl⟩ := nc_pos hy
        have := (Z.use U hU (by intro p hp; simp at hp; subst hp; exact hUx)).1 (mvd tb q) (List.mem_map.2 ⟨q, hq, rfl⟩)
        rwa [mvd_div] at this
      · rw [to x e] at hUx
        exact S.use x (by exact om2 hx e) hr U (hU.pre J.pre) hUx y hy
    · intro U hU
      have h0 := S.cnt U (hU.pre J.pre)
      have e1 : ((List.range k).filter fun i => rtB ns outs bs i && U (dep (tb.set k res) i / 2)) = (List.range k).filter fun i => rtB ns outs bs i && U (dep tb i / 2) := by
        apply List.filter_congr
        intro i hi; rw [List.mem_range] at hi; rw [to i (by exact om33 hi)]
      have e2 : fns'.length = fns.length + cs ns bs k := by exact om393 zl hll
      rw [List.range_succ, List.filter_append, List.map_append, List.sum_append, e1, e2, List.range_add, List.filter_append, List.length_append]
      refine Nat.add_le_add h0 ?_
      by_cases hUr : U (res / 2) = true
      · have h1 : ([k].filter fun i => rtB ns outs bs i && U (dep (tb.set k res) i / 2)) = [k] := by simp [hkB, tk, hUr]
        rw [h1]
        have h2 : ((List.range (cs ns bs k)).map fun x => fns.length + x).filter (fun y => decide (n < y) && U y) = (List.range (cs ns bs k)).map fun x => fns.length + x := by
          rw [List.filter_eq_self]
          intro y hy
          obtain ⟨x, hx, rfl⟩ := List.mem_map.1 hy
          rw [List.mem_range] at hx
          have := (Z.use (fun y => U y = true) hU (by intro p hp; simp at hp; subst hp; exact hUr)).2 (fns.length + x) (by exact om290) (by exact om434 zl hll hx)
          simp only [this, Bool.and_true, decide_eq_true_eq]
          exact om119 hwl
        rw [h2]; simp
      · have h1 : ([k].filter fun i => rtB ns outs bs i && U (dep (tb.set k res) i / 2)) = [] := by simp [tk, hUr]
        rw [h1]; simp
end Mine
end

-- part L6
section
set_option Elab.async false
set_option linter.unusedVariables false
set_option linter.unusedSimpArgs false
namespace Mine

theorem val_ex {n : Nat} {ns : Nds} (hw : WG n ns) (a : Nat → Bool) (h0 : a 0 = false) : ∃ v, Val ns v ∧ ∀ i, i ≤ n → v i = a i := by
  have key : ∀ k, ∃ v : Nat → Bool, (∀ i, i ≤ n → v i = a i) ∧ ∀ i l r, i < k → ns[i]? = some (some (l, r)) → v i = (lv v l && lv v r) := by
    intro k
    induction k with
    | zero => exact ⟨a, fun _ _ => rfl, fun _ _ _ h => absurd h (Nat.not_lt_zero _)⟩
    | succ k ih =>
      obtain ⟨v, h1, h2⟩ := ih
      by_cases hk : ∃ l r, ns[k]? = some (some (l, r))
      · obtain ⟨l, r, hk⟩ := hk
        have hok := hw.ok _ _ _ hk
        have hkn : n < k := by
          apply Nat.lt_of_not_le; intro h
          rw [hw.base k h] at hk; cases hk
        have e : ∀ q, q / 2 < k → lv (fun i => if i = k then (lv v l && lv v r) else v i) q = lv v q := by
          intro q hq; unfold lv; simp only; rw [if_neg (by exact om13 hq)]
        refine ⟨fun i => if i = k then (lv v l && lv v r) else v i, ?_, ?_⟩
        · intro i hi; simp only; rw [if_neg (by exact om116 hkn hi)]; exact h1 i hi
        · intro i l' r' hi hnd
          have hok' := hw.ok _ _ _ hnd
          simp only
          by_cases e2 : i = k
          · rw [if_pos e2, e l' (by exact om132 hok'.2.1 hok'.2.2 e2), e r' (by exact om26 hok'.2.2 e2)]
            rw [e2, hk] at hnd; injection hnd with hnd; injection hnd with hnd; injection hnd with e3 e4
            rw [e3, e4]
          · rw [if_neg e2, e l' (by exact om53 hi hok'.2.2 hok'.2.1), e r' (by exact om5 hi hok'.2.2)]
            exact h2 i l' r' (by exact om2 hi e2) hnd
      · refine ⟨v, h1, ?_⟩
        intro i l r hi hnd
        by_cases e : i = k
        · exact absurd ⟨l, r, e ▸ hnd⟩ hk
        · exact h2 i l r (by exact om2 hi e) hnd
  obtain ⟨v, h1, h2⟩ := key ns.length
  exact ⟨v, ⟨by rw [h1 0 (Nat.zero_le _)]; exact h0, fun i l r hi => h2 i l r (List.getElem?_eq_some_iff.1 hi).1 hi⟩, h1⟩

theorem sw_val {n : Nat} {fns ns' : Nds} {us : List Bool} {outs : List Nat} {M : Nat → Nat} (hw : WG n fns) (U : UsedR fns outs us) (W : SwR n fns us ns' M) {v v' : Nat → Bool} (hv : Val fns v) (hv' : Val ns' v')
    (hi : ∀ i, i ≤ n → v' i = v i) : ∀ m i, i < m → (i ≤ n ∨ us[i]? = some true) → v' (M i) = v i := by
  intro m
  induction m with
  | zero => intro i h; exact om161 h
  | succ m ih =>
    intro i him hiu
    by_cases hin : i ≤ n
    · rw [W.inp i hin]; exact hi i hin
    · have hu : us[i]? = some true := by rcases hiu with h | h; exact absurd h hin; exact h
      have hul := U.len
      have hil := (List.getElem?_eq_some_iff.1 hu).1
      obtain ⟨l, r, hnd⟩ := hw.and i (by exact om39 hin) (by exact om26 hil hul)
      have hok := hw.ok _ _ _ hnd
      have hc := U.cl _ _ _ hnd hu
      have e : ∀ q, q / 2 < i → us[q / 2]? = some true → lv v' (2 * M (q / 2) + q % 2) = lv v q := by
        intro q hq hqu
        unfold lv
        rw [show (2 * M (q / 2) + q % 2) / 2 = M (q / 2) by exact om24, show (2 * M (q / 2) + q % 2) % 2 = q % 2 by exact om107, ih (q / 2) (by exact om5 him hq) (Or.inr hqu)]
      rw [hv'.and _ _ _ (W.and i l r hu hnd), hv.and _ _ _ hnd, e l (by exact om1 hok.2.1 hok.2.2) hc.1, e r (by exact om4 hok.2.2) hc.2]

theorem sw_dep {n : Nat} {fns ns' : Nds} {us : List Bool} {outs : List Nat} {M : Nat → Nat} (hw : WG n fns) (U : UsedR fns outs us) (W : SwR n fns us ns' M) {d d' : List Nat} (hv : Dep fns d) (hv' : Dep ns' d') :
    ∀ m i, i < m → (i ≤ n ∨ us[i]? = some true) → dep d' (M i) = dep d i := by
  intro m
  induction m with
  | zero => intro i h; exact om173 h
  | succ m ih =>
    intro i him hiu
    by_cases hin : i ≤ n
    · rw [W.inp i hin, hv'.none i (W.wg.base i hin), hv.none i (hw.base i hin)]
    · have hu : us[i]? = some true := by rcases hiu with h | h; exact absurd h hin; exact h
      have hul := U.len
      have hil := (List.getElem?_eq_some_iff.1 hu).1
      obtain ⟨l, r, hnd⟩ := hw.and i (by exact om39 hin) (by exact om26 hil hul)
      have hok := hw.ok _ _ _ hnd
      have hc := U.cl _ _ _ hnd hu
      rw [hv'.and _ _ _ (W.and i l r hu hnd), hv.and _ _ _ hnd]
      rw [show (2 * M (l / 2) + l % 2) / 2 = M (l / 2) by exact om24, show (2 * M (r / 2) + r % 2) / 2 = M (r / 2) by exact om24, ih (l / 2) (by exact om53 him hok.2.2 hok.2.1) (Or.inr hc.1), ih (r / 2) (by exact om5 him hok.2.2) (Or.inr hc.2)]

theorem col_lt {n : Nat} {ns : Nds} {cl : List Nat} (hw : WG n ns) (c : ColR n ns cl) (i : Nat) : dep cl i < 2 ^ (2 ^ n) := by
  have hp : 0 < 2 ^ (2 ^ n) := Nat.two_pow_pos _
  by_cases hi : i < ns.length
  · by_cases hin : i ≤ n
    · by_cases h0 : i = 0
      · rw [h0, c.zero]; exact hp
      · have := c.inp (i - 1) (by exact om46 hin h0)
        rw [show i - 1 + 1 = i by exact om503 h0] at this
        rw [this]; exact colN_lt (by exact om46 hin h0)
    · obtain ⟨l, r, hnd⟩ := hw.and i (by exact om39 hin) hi
      rw [c.and _ _ _ hnd]
      have h1 := Nat.and_le_left (n := (2 ^ (2 ^ n) - 1) &&& (dep cl (l / 2) ^^^ (if l % 2 = 1 then 2 ^ (2 ^ n) - 1 else 0))) (m := dep cl (r / 2) ^^^ (if r % 2 = 1 then 2 ^ (2 ^ n) - 1 else 0))
      have h2 := Nat.and_le_left (n := 2 ^ (2 ^ n) - 1) (m := dep cl (l / 2) ^^^ (if l % 2 = 1 then 2 ^ (2 ^ n) - 1 else 0))
      exact om298 hp h2 h1
  · have := c.len
    unfold dep; rw [List.getElem?_eq_none (by exact om343 this hi)]; exact hp

theorem bit_x {n b x l : Nat} (hb : b < 2 ^ n) : (x ^^^ (if l % 2 = 1 then 2 ^ (2 ^ n) - 1 else 0)).testBit b = Bool.xor (x.testBit b) (decide (l % 2 = 1)) := by
  rw [Nat.testBit_xor]
  by_cases h : l % 2 = 1
  · rw [if_pos h, Nat.testBit_two_pow_sub_one]; simp [h, hb]
  · rw [if_neg h]; simp [h]
theorem col_val {n : Nat} {ns : Nds} {cl : List Nat} (c : ColR n ns cl) {b : Nat} (hb : b < 2 ^ n) : Val ns (fun i => (dep cl i).testBit b) := by
  refine ⟨by (try simp only); rw [c.zero]; simp, ?_⟩
  intro i l r hnd
  try simp only
  rw [c.and _ _ _ hnd, Nat.testBit_and, Nat.testBit_and, bit_x hb, bit_x hb, Nat.testBit_two_pow_sub_one]
  simp [lv, hb]

theorem xor_mod2 (a b : Nat) : (a ^^^ b) % 2 = (a + b) % 2 := by
  have h := @Nat.xor_mod_two_pow a b 1
  simp only [Nat.pow_one] at h
  rw [h]
  rcases Nat.mod_two_eq_zero_or_one a with e | e <;> rcases Nat.mod_two_eq_zero_or_one b with e' | e' <;> simp [e, e', Nat.add_mod]

structure Fin (n : Nat) (ns : Nds) (outs le fs : List Nat) (ns' : Nds) (f : Nat → Nat) : Prop where
  wg : WG n ns'
  rng : ∀ o, o ∈ outs → f o / 2 < ns'.length
  col : ∀ o, o ∈ outs → ∀ co cn, ColR n ns co → ColR n ns' cn → dep co (o / 2) ^^^ (if (o ^^^ f o) % 2 = 1 then 2 ^ (2 ^ n) - 1 else 0) = dep cn (f o / 2)
  dle : ∀ o, o ∈ outs → ∀ dn, Dep ns' dn → dep dn (f o / 2) ≤ dep le (o / 2)
  deq : (∀ i, i < ns.length → sides ns i ≤ 1) → ∀ o, o ∈ outs → ∀ dn, Dep ns' dn → dep dn (f o / 2) = dep le (o / 2)
  sle : ns'.length ≤ n + 1 + fs.length
  seq : (∀ i, i < ns.length → sides ns i ≤ 1) → ns'.length = n + 1 + fs.length

theorem Ctx.hd {n : Nat} {ns : Nds} {outs : List Nat} {bs : List Bool} (C : Ctx n ns outs bs) {o : Nat} (ho : o ∈ outs) : Hd n ns outs bs ns.length (o / 2) := by
  have hl := C.out o ho
  by_cases h : o / 2 ≤ n
  · exact Or.inl h
  · obtain ⟨l, r, hnd⟩ := C.wg.and (o / 2) (by exact om39 h) hl
    refine Or.inr ⟨hl, ⟨_, hnd⟩, C.noout ho, ?_⟩
    have h2 : 1 ≤ ends outs (o / 2) := by
      obtain ⟨i, hi⟩ := List.getElem?_of_mem ho
      have := sum_ge (f := fun x => if x / 2 = o / 2 then 1 else 0) hi
      simpa [ends] using this
    unfold cnt; exact om275 h2

/-- in the cluster of x -/
inductive Und (ns : Nds) (bs : List Bool) (x : Nat) : Nat → Prop where
  | refl : Und ns bs x x
  | step (z w : Nat) (h : Und ns bs x z) (hw : w ∈ aS ns bs z) : Und ns bs x w

theorem mem_sum {f : Nat → Nat} {xs : List Nat} {x : Nat} (h : x ∈ xs) : f x ≤ (xs.map f).sum := by
  obtain ⟨i, hi⟩ := List.getElem?_of_mem h
  exact sum_ge hi
theorem Und.wl {ns : Nds} {bs : List Bool} (hw : Low ns) {x z : Nat} (h : Und ns bs x z) (y : Nat) : Mine.wl ns bs y z ≤ Mine.wl ns bs y x := by
  induction h with
  | refl => exact Nat.le_refl _
  | step z w h hwz ih =>
    have h1 := WW_eq (bs := bs) (ω := om ns bs y) hw z
    have h2 := mem_sum (f := WW ns bs (om ns bs y)) hwz
    unfold Mine.wl at *; exact om443 h1 ih h2

theorem final {n : Nat} {ns : Nds} {outs : List Nat} {bs : List Bool} {le su fs : List Nat} {fns ns' : Nds} {ds tb : List Nat} {us : List Bool} {M : Nat → Nat} (C : Ctx n ns outs bs) (L : LstR ns (cnt ns outs) le su) (R : ReachR ns outs fs)
    (B : BI n ns outs bs le fs ns.length fns ds tb) (U : UsedR fns (outs.map (mvd tb)) us) (W : SwR n fns us ns' M) :
    Fin n ns outs le fs ns' (fun o => 2 * M (mvd tb o / 2) + mvd tb o % 2) := by
  have hu : ∀ o, o ∈ outs → us[mvd tb o / 2]? = some true := fun o ho => U.out _ (List.mem_map.2 ⟨o, ho, rfl⟩)
  have e1 : ∀ o, (2 * M (mvd tb o / 2) + mvd tb o % 2) / 2 = M (mvd tb o / 2) := fun o => by exact om24
  have e2 : ∀ o, (2 * M (mvd tb o / 2) + mvd tb o % 2) % 2 = mvd tb o % 2 := fun o => by exact om107
  have dd : ∀ o, o ∈ outs → ∀ dn, Dep ns' dn → dep dn ((2 * M (mvd tb o / 2) + mvd tb o % 2) / 2) = dep ds (dep tb (o / 2) / 2) := by
    intro o ho dn hdn
    rw [e1, sw_dep B.wg U W B.hd hdn (mvd tb o / 2 + 1) (mvd tb o / 2) (by exact om9) (Or.inr (hu o ho)), mvd_div]
  have sle : ns'.length ≤ n + 1 + fs.length := by
    obtain ⟨X, x1, x2, x3, x4⟩ := B.xs
    have hUX : ∀ i, us[i]? = some true → i ∈ X ∨ i ≤ n := by
      refine U.mi (fun i => i ∈ X ∨ i ≤ n) ?_ ?_
      · intro o ho
        obtain ⟨o', ho', rfl⟩ := List.mem_map.1 ho
        rw [mvd_div]
        rcases C.hd ho' with h | ⟨h1, h2⟩
        · rw [B.tin _ h]; exact Or.inr (by exact om105 h)
        · exact x4 _ h1 h2 (R.out o' ho' h2.1)
      · intro i l r hnd hi
        rcases hi with hi | hi
        · exact ⟨x3 i hi l r hnd _ (Or.inl rfl), x3 i hi l r hnd _ (Or.inr rfl)⟩
        · rw [B.wg.base i hi] at hnd; cases hnd
    have h1 : ((List.range fns.length).filter (isUA fns us)).length ≤ X.length := by
      refine sub_len (List.nodup_range.filter _) ?_
      intro i hi
      obtain ⟨h1, p, hp⟩ := isUA_iff.1 (List.mem_filter.1 hi).2
      rcases hUX i h1 with h | h
      · exact h
      · rw [B.wg.base i h] at hp; cases hp
    have h2 : (((List.range ns.length).filter fun i => rtB ns outs bs i && decide (i ∈ fs)).map (cs ns bs)).sum ≤ ((fs.filter fun x => !absB bs x).map (cs ns bs)).sum := by
      refine sub_sum (List.nodup_range.filter _) ?_
      intro i hi
      have h3 := (List.mem_filter.1 hi).2
      rw [Bool.and_eq_true, rtB_iff, decide_eq_true_eq] at h3
      refine List.mem_filter.2 ⟨h3.2, ?_⟩
      have : absB bs i = false := by rw [← Bool.not_eq_true, absB_iff]; exact h3.1.2.1
      rw [this]; rfl
    have h3 := C.le (ω := fun _ => 1) R.nd (by
      intro x hx w hw
      obtain ⟨l, r, g1, g2, g3⟩ := aS_mem.1 hw
      have hA := (C.abs.so w g3).2.1
      have := R.cl _ _ _ hx g1
      rcases g2 with rfl | rfl
      · have h9 := this.1; rw [show 2 * w / 2 = w by exact om6] at h9; exact h9 hA
      · have h9 := this.2; rw [show 2 * w / 2 = w by exact om6] at h9; exact h9 hA)
    rw [sum_one] at h3
    have := W.cnt
    unfold cs at *; exact om464 this h1 x1 h2 h3
  refine ⟨W.wg, ?_, ?_, ?_, ?_, ?_, ?_⟩
  · intro o ho; (try simp only); rw [e1]; exact W.rng _ (Or.inr (hu o ho))
  · intro o ho co cn hco hcn
    have hlt1 := col_lt C.wg hco (o / 2)
    have hlt2 := col_lt W.wg hcn ((2 * M (mvd tb o / 2) + mvd tb o % 2) / 2)
    have hp : 0 < 2 ^ (2 ^ n) := Nat.two_pow_pos _
    apply Nat.eq_of_testBit_eq
    intro b
    by_cases hb : b < 2 ^ n
    · rw [bit_x hb, e1]
      have v0 := col_val hco hb
      have v' := col_val hcn hb
      obtain ⟨v, hv, hvi⟩ := val_ex B.wg (fun i => (dep co i).testBit b) (by (try simp only); rw [hco.zero]; simp)
      have hin : ∀ i, i ≤ n → dep cn i = dep co i := by
        intro i hi
        by_cases h0 : i = 0
        · rw [h0, hco.zero, hcn.zero]
        · have h1 := hco.inp (i - 1) (by exact om46 hi h0)
          have h2 := hcn.inp (i - 1) (by exact om46 hi h0)
          rw [show i - 1 + 1 = i by exact om503 h0] at h1 h2
          rw [h1, h2]
      have hM := sw_val B.wg U W hv v' (fun i hi => by (try simp only); rw [hin i hi, hvi i hi]) (mvd tb o / 2 + 1) (mvd tb o / 2) (by exact om9) (Or.inr (hu o ho))
      have hB := B.val v _ hv v0 hvi (o / 2) (C.hd ho)
      try simp only at hM
      try simp only at hB
      rw [hM]
      have h3 : lv v (mvd tb o) = Bool.xor ((dep co (o / 2)).testBit b) (decide (o % 2 = 1)) := by
        unfold mvd; rw [lv_moved, dget_dep, hB]
      unfold lv at h3
      have h4 := xor_mod2 o (2 * M (mvd tb o / 2) + mvd tb o % 2)
      rw [h4, Nat.add_mod, e2]
      revert h3
      rcases Nat.mod_two_eq_zero_or_one o with e | e <;> rcases Nat.mod_two_eq_zero_or_one (mvd tb o) with e' | e' <;> rw [e, e'] <;> cases v (mvd tb o / 2) <;> cases (dep co (o / 2)).testBit b <;> simp
    · have hpow : 2 ^ (2 ^ n) ≤ 2 ^ b := Nat.pow_le_pow_right (by exact om3) (by exact om12 hb)
      rw [Nat.testBit_lt_two_pow (x := dep cn ((2 * M (mvd tb o / 2) + mvd tb o % 2) / 2)) (by exact om17 hlt2 hpow), Nat.testBit_xor, Nat.testBit_lt_two_pow (x := dep co (o / 2)) (by exact om17 hlt1 hpow)]
      split
      · rw [Nat.testBit_lt_two_pow (by exact om218 hp hpow)]; rfl
      · simp
  · intro o ho dn hdn; (try simp only); rw [dd o ho dn hdn]; exact B.dpt _ (C.hd ho)
  · intro hs o ho dn hdn; (try simp only); rw [dd o ho dn hdn]; exact (B.sg hs).dp _ (C.hd ho)
  · exact sle
  · intro hs
    have S := B.sg hs
    have good : ∀ y, y ∈ fs → IsAnd ns y → ∃ x, Rt ns outs bs x ∧ x < ns.length ∧ us[dep tb x / 2]? = some true ∧ Und ns bs x y := by
      refine R.mi (fun y => IsAnd ns y → ∃ x, Rt ns outs bs x ∧ x < ns.length ∧ us[dep tb x / 2]? = some true ∧ Und ns bs x y) ?_ ?_
      · rintro o ho ⟨p, hp⟩
        rcases C.hd ho with h | ⟨h1, h2⟩
        · rw [C.wg.base _ h] at hp; cases hp
        · have := hu o ho
          rw [mvd_div] at this
          exact ⟨o / 2, h2, h1, this, .refl⟩
      · intro i l r hnd hi
        obtain ⟨x, hr, hx, hux, hun⟩ := hi ⟨_, hnd⟩
        have side : ∀ q, (q = l ∨ q = r) → IsAnd ns (q / 2) → ∃ x, Rt ns outs bs x ∧ x < ns.length ∧ us[dep tb x / 2]? = some true ∧ Und ns bs x (q / 2) := by
          intro q hq hA
          by_cases ha : bs[q / 2]? = some true
          · have := C.even hnd ha hq rfl
            exact ⟨x, hr, hx, hux, .step i _ hun (aS_mem.2 ⟨l, r, hnd, by exact om412 hq this, ha⟩)⟩
          · have hp := side_pos hnd (y := q / 2) (by rcases hq with rfl | rfl <;> simp)
            obtain ⟨p, hp'⟩ := hA
            have hql := (List.getElem?_eq_some_iff.1 hp').1
            have h1 : 1 ≤ om ns bs (q / 2) i := by
              unfold om; rw [hnd]
              have h0 : asd bs q = [] := asd_neg (fun h => ha h.2)
              rcases hq with rfl | rfl
              · simp [h0]
              · simp [h0]
            have h2 := WW_eq (bs := bs) (ω := om ns bs (q / 2)) C.wg.low i
            have h3 := hun.wl C.wg.low (q / 2)
            have h4 : 0 < wl ns bs (q / 2) x := by unfold wl at *; exact om405 h1 h2 h3
            refine ⟨q / 2, ⟨⟨p, hp'⟩, ha, by unfold cnt; exact om103 hp⟩, hql, ?_, .refl⟩
            exact S.use x hx hr (fun y => us[y]? = some true) U.cl hux _ h4
        exact ⟨fun h => side l (Or.inl rfl) h, fun h => side r (Or.inr rfl) h⟩
    have par : ∀ w, w ∈ fs → bs[w]? = some true → ∃ x, x ∈ fs ∧ w ∈ aS ns bs x := by
      intro w hw
      refine (R.mi (fun y => (IsAnd ns y → y ∈ fs) ∧ (bs[y]? = some true → ∃ x, x ∈ fs ∧ y ∈ aS ns bs x)) ?_ ?_ w hw).2
      · intro o ho; exact ⟨R.out o ho, fun h => absurd h (C.noout ho)⟩
      · intro i l r hnd hi
        have hif := hi.1 ⟨_, hnd⟩
        have hc := R.cl _ _ _ hif hnd
        refine ⟨⟨hc.1, fun h => ⟨i, hif, aS_mem.2 ⟨l, r, hnd, Or.inl (C.even hnd h (Or.inl rfl) rfl), h⟩⟩⟩, ⟨hc.2, fun h => ⟨i, hif, aS_mem.2 ⟨l, r, hnd, Or.inr (C.even hnd h (Or.inr rfl) rfl), h⟩⟩⟩⟩
    have h1 := C.ge (ω := fun _ => 1) R.nd par
    rw [sum_one] at h1
    have h2 : ((fs.filter fun x => !absB bs x).map (cs ns bs)).sum ≤ (((List.range ns.length).filter fun i => rtB ns outs bs i && absB us (dep tb i / 2)).map (cs ns bs)).sum := by
      refine sub_sum (R.nd.filter _) ?_
      intro y hy
      obtain ⟨hy1, hy2⟩ := List.mem_filter.1 hy
      have hna : ¬ bs[y]? = some true := by
        intro h; rw [absB_iff.2 h] at hy2; cases hy2
      obtain ⟨x, hr, hx, hux, hun⟩ := good y hy1 (R.and y hy1)
      have e : x = y := by
        cases hun with
        | refl => rfl
        | step z w h hw => exact absurd (aS_mem.1 hw).choose_spec.choose_spec.2.2 hna
      subst e
      refine List.mem_filter.2 ⟨List.mem_range.2 hx, ?_⟩
      rw [Bool.and_eq_true]
      exact ⟨rtB_iff.2 hr, absB_iff.2 hux⟩
    have h3 := S.cnt (absB us) (by
      intro i l r hnd hi
      have := U.cl i l r hnd (absB_iff.1 hi)
      exact ⟨absB_iff.2 this.1, absB_iff.2 this.2⟩)
    have h4 : ((List.range fns.length).filter fun y => decide (n < y) && absB us y).length ≤ ((List.range fns.length).filter (isUA fns us)).length := by
      refine sub_len (List.nodup_range.filter _) ?_
      intro y hy
      obtain ⟨hy1, hy2⟩ := List.mem_filter.1 hy
      rw [Bool.and_eq_true, decide_eq_true_eq, absB_iff] at hy2
      obtain ⟨l, r, hnd⟩ := B.wg.and y hy2.1 (List.mem_range.1 hy1)
      exact List.mem_filter.2 ⟨hy1, isUA_iff.2 ⟨hy2.2, _, hnd⟩⟩
    have := W.cnt
    unfold cs at *; exact om465 sle h1 h2 h3 h4 this
end Mine
end

-- part C11
section
set_option Elab.async false
set_option linter.unusedVariables false
set_option linter.unusedSimpArgs false
namespace Mine

theorem reach_ex (ns : Nds) (outs : List Nat) : ∃ fs, ReachR ns outs fs := by
  classical
  refine ⟨(List.range ns.length).filter fun i => decide (IsAnd ns i ∧ ∀ U : Nat → Prop, (∀ o, o ∈ outs → U (o / 2)) → Closed ns U → U i), List.nodup_range.filter _, ?_, ?_, ?_, ?_⟩
  · intro x hx; exact (of_decide_eq_true (List.mem_filter.1 hx).2).1
  · rintro o ho ⟨p, hp⟩
    exact List.mem_filter.2 ⟨List.mem_range.2 (List.getElem?_eq_some_iff.1 hp).1, decide_eq_true ⟨⟨p, hp⟩, fun U h1 _ => h1 o ho⟩⟩
  · intro i l r hi hnd
    have h := (of_decide_eq_true (List.mem_filter.1 hi).2).2
    refine ⟨?_, ?_⟩
    · rintro ⟨p, hp⟩
      exact List.mem_filter.2 ⟨List.mem_range.2 (List.getElem?_eq_some_iff.1 hp).1, decide_eq_true ⟨⟨p, hp⟩, fun U h1 h2 => (h2 _ _ _ hnd (h U h1 h2)).1⟩⟩
    · rintro ⟨p, hp⟩
      exact List.mem_filter.2 ⟨List.mem_range.2 (List.getElem?_eq_some_iff.1 hp).1, decide_eq_true ⟨⟨p, hp⟩, fun U h1 h2 => (h2 _ _ _ hnd (h U h1 h2)).2⟩⟩
  · intro U h1 h2 x hx; exact (of_decide_eq_true (List.mem_filter.1 hx).2).2 U h1 h2

theorem least_ex {ns : Nds} (hw : Low ns) (c : Nat → Nat) : ∃ le su, LstR ns c le su := by
  have key : ∀ k, k ≤ ns.length → ∃ le su : List Nat, le.length = k ∧ su.length = k ∧ (∀ i : Nat, i < k → ns[i]? = some none → dep le i = 0) ∧
      ∀ i l r, i < k → ns[i]? = some (some (l, r)) → dep su i = sl ns c le su l + sl ns c le su r ∧ dep le i = blN (dep su i - 1) ∧ (1 ≤ dep su i) := by
    intro k
    induction k with
    | zero => intro _; exact ⟨[], [], rfl, rfl, fun _ h => absurd h (Nat.not_lt_zero _), fun _ _ _ h => absurd h (Nat.not_lt_zero _)⟩
    | succ k ih =>
      intro hk
      obtain ⟨le, su, h1, h2, h3, h4⟩ := ih (by exact om37 hk)
      have slx : ∀ x y q, q / 2 < k → sl ns c (le ++ [x]) (su ++ [y]) q = sl ns c le su q := by
        intro x y q hq; unfold sl; rw [dep_app (by exact om0 hq h2), dep_app (by exact om0 hq h1)]
      have slp : ∀ q, q / 2 < k → 1 ≤ sl ns c le su q := by
        intro q hq
        unfold sl
        split
        · rename_i hc
          obtain ⟨p, hp⟩ := andB_iff.1 hc.2.1
          exact (h4 _ p.1 p.2 hq hp).2.2
        · exact Nat.two_pow_pos _
      obtain ⟨nd, hnd⟩ : ∃ nd, ns[k]? = some nd := ⟨_, List.getElem?_eq_getElem (by exact om270 hk)⟩
      have mk : ∀ x y, (nd = none → x = 0) → (∀ l r, nd = some (l, r) → y = sl ns c le su l + sl ns c le su r ∧ x = blN (y - 1) ∧ 1 ≤ y) → ∃ le su : List Nat, le.length = k + 1 ∧ su.length = k + 1 ∧ (∀ i : Nat, i < k + 1 → ns[i]? = some none → dep le i = 0) ∧
          ∀ i l r, i < k + 1 → ns[i]? = some (some (l, r)) → dep su i = sl ns c le su l + sl ns c le su r ∧ dep le i = blN (dep su i - 1) ∧ (1 ≤ dep su i) := by
        intro x y hx hy
        refine ⟨le ++ [x], su ++ [y], by simp [h1], by simp [h2], ?_, ?_⟩
        · intro i hi hn
          by_cases e : i = k
          · rw [e, ← h1, dep_last]; rw [e, hnd] at hn; injection hn with hn; exact hx hn
          · rw [dep_app (by exact om40 hi h1 e)]; exact h3 i (by exact om2 hi e) hn
        · intro i l r hi hn
          have hlo := hw _ _ _ hn
          rw [slx x y l (by exact om5 hi hlo.1), slx x y r (by exact om5 hi hlo.2)]
          by_cases e : i = k
          · have e1 : dep (le ++ [x]) i = x := by rw [e, ← h1, dep_last]
            have e2 : dep (su ++ [y]) i = y := by rw [e, ← h2, dep_last]
            rw [e1, e2]; rw [e, hnd] at hn; injection hn with hn; exact hy l r hn
          · rw [dep_app (by exact om40 hi h2 e), dep_app (by exact om40 hi h1 e)]; exact h4 i l r (by exact om2 hi e) hn
      cases nd with
      | none => exact mk 0 0 (fun _ => rfl) (fun l r h => by cases h)
      | some p =>
        have hlo := hw _ p.1 p.2 hnd
        refine mk (blN (sl ns c le su p.1 + sl ns c le su p.2 - 1)) (sl ns c le su p.1 + sl ns c le su p.2) (fun h => by cases h) ?_
        intro l r h
        injection h with h; subst h
        have := slp l hlo.1
        exact ⟨rfl, rfl, Nat.le_trans this (Nat.le_add_right _ _)⟩
  obtain ⟨le, su, h1, h2, h3, h4⟩ := key ns.length (Nat.le_refl _)
  exact ⟨le, su, h1, fun i hi => h3 i (List.getElem?_eq_some_iff.1 hi).1 hi, fun i l r hi => h4 i l r (List.getElem?_eq_some_iff.1 hi).1 hi⟩

/-- a good graph -/
structure GG (n : Nat) (G : Gr) : Prop where
  wg : WG n G.ns
  ins : G.ins = inp n
  out : ∀ o, o ∈ G.outs → o / 2 < G.ns.length

/-- what balance gives -/
theorem c_bal {d : Nat} {H : Hp} {g n : Nat} {G : Gr} {Q : V → Hp → Prop} (hG : IsG H g G) (hg : GG n G) (hn : G.ns.length < 18) (ho : G.outs.length < 1000)
    (h : ∀ H' g' ns' f, IsG H' g' ⟨ns', inp n, G.outs.map f⟩ → H.length ≤ g' → Kp no H H' →
      (∀ le su fs, LstR G.ns (cnt G.ns G.outs) le su → ReachR G.ns G.outs fs → Fin n G.ns G.outs le fs ns' f) → Q (.obj g') H') : wpCall defs (d + 4) 14 [.obj g] H Q := by
  obtain ⟨fs0, hR0⟩ := reach_ex G.ns G.outs
  obtain ⟨le0, su0, hL0⟩ := least_ex hg.wg.low (cnt G.ns G.outs)
  have ctx : ∀ bs, AbsR G.ns (fun i => sides G.ns i + ends G.outs i) bs → Ctx n G.ns G.outs bs := fun bs hb => ⟨hg.wg, hg.out, hb⟩
  refine c_balance (n := n) (fun bs k fns ds tb => ∀ le su fs, LstR G.ns (cnt G.ns G.outs) le su → ReachR G.ns G.outs fs → BI n G.ns G.outs bs le fs k fns ds tb) hG hg.wg hg.ins hg.out hn (Nat.lt_trans ho (by decide)) ?_ ?_ ?_ ?_ ?_ ?_
  · intro bs tb hb ht le su fs hL hR; exact BI.start (ctx bs hb) hL ht
  · intro bs k fns ds tb hb hB hk hc le su fs hL hR
    refine (hB le su fs hL hR).skip (ctx bs hb) ?_
    rintro ⟨⟨p, hp⟩, h2, h3⟩
    rcases hc with hc | hc | hc
    · rw [hc] at hp; cases hp
    · exact h2 hc
    · exact h3 hc
  · intro bs k fns ds tb hB
    have := hB le0 su0 fs0 hL0 hR0
    exact ⟨this.wg, this.hd, this.tl, this.len⟩
  · intro bs k fns ds tb hb hB a b hk hna hc xs ys ha hb' hxy
    refine ⟨((hB le0 su0 fs0 hL0 hR0).step (ctx bs hb) hL0 hR0 hk hna hc ha hb' hxy).1, ?_⟩
    intro fns' ds' res J le su fs hL hR
    exact ((hB le su fs hL hR).step (ctx bs hb) hL hR hk hna hc ha hb' hxy).2 fns' ds' res J
  · intro bs fns ds tb hb hB o ho
    rw [mvd_div]
    exact (hB le0 su0 fs0 hL0 hR0).rng _ ((ctx bs hb).hd ho)
  · intro H' g' bs fns ds tb us ns' M hb hB hg' hgl hk hU hW
    refine h H' g' ns' (fun o => 2 * M (mvd tb o / 2) + mvd tb o % 2) ?_ hgl hk ?_
    · rw [List.map_map] at hg'; exact hg'
    · intro le su fs hL hR
      exact final (ctx bs hb) hL hR (hB le su fs hL hR) hU hW
end Mine
end

-- part C12
section
set_option Elab.async false
set_option linter.unusedVariables false
set_option linter.unusedSimpArgs false
namespace Mine

theorem ndV_flat (x : Option (Nat × Nat)) : V.flat (ndV x) = true := by cases x <;> rfl
theorem list_at {H : Hp} {n : Nat} {xs : List V} (h : H[n]? = some (.list xs)) : listV H (.ref n) = some xs := by simp [listV, h]
theorem cmp_same {H : Hp} {m n : Nat} {xs : List V} (h : H[m]? = some (.list xs)) (h' : H[n]? = some (.list xs)) (hf : ∀ x, x ∈ xs → V.flat x = true) (hl : xs.length < lim) : cmpV H .ne (.ref m) (.ref n) = some false := by
  have : xs.all V.flat = true := List.all_eq_true.2 hf
  simp [cmpV, h, h', this, hl]
theorem cmp_ne {H : Hp} {a b : Nat} : cmpV H .ne (nI a) (nI b) = some (!decide (a = b)) := by
  simp only [cmpV, cmpI]; congr 2; apply decide_eq_decide.2; exact om109
theorem cmp_0lt {H : Hp} {a : Nat} : cmpV H .lt (.int 0) (nI a) = some (decide (0 < a)) := by simp [cmpV, cmpI]

theorem c_law_balanced {d : Nat} {H : Hp} {g n : Nat} {G : Gr} {Q : V → Hp → Prop} (hG : IsG H g G) (hg : GG n G) (hn7 : n ≤ 7) (hn : G.ns.length < 18) (ho : G.outs.length < 1000)
    (h : ∀ H', Kp no H H' → Q (.bool true) H') : wpCall defs (d + 5) 21 [.obj g] H Q := by
  refine call_in 1 27 b_law_balanced rfl rfl ?_
  unfold b_law_balanced
  have hlt := hG.lt
  have hl20 : lim = 2 ^ 20 := rfl
  have hil : G.ins.length = n := by rw [hg.ins, inp_len]
  have hnn := hg.wg.len
  have hN : G.ns.length < lim := by exact om19 hn hl20
  have hO : G.outs.length < lim := by exact om90 ho hl20
  have hI : G.ins.length < lim := by exact om126 hl20 hil hn7
  simp only [List.map_cons, List.map_nil, List.cons_append, List.nil_append, List.replicate_succ, List.replicate_zero]
  -- the three copies
  rw [b_assign]
  simp only [zE0, zE1, zE2, zE3, zE4, zE5, zE6, zE7, zE8, zE9, zE10, zE11, zE12, zE13, zE14, zE15, zE16, zE17, zE18, zE19, zE20, zE21, zE22, zE23, zE24, zE25, zE26, zE27, zE28, zE29, zE30, zE31, zE32, zE33, zE34, zE35, zE36, zE37, zE38, may_sm, V.ref.injEq, exists_eq_left', St.get, St.put, List.getElem?_cons_zero, List.getElem?_cons_succ, Option.join_some, List.set_cons_succ, List.set_cons_zero, hG.at0, list_at hG.a1, alloc]
  refine ⟨by simpa using hN, ?_⟩
  obtain ⟨H1, hH1⟩ : ∃ H1, H1 = H ++ [.list (G.ns.map ndV)] := ⟨_, rfl⟩
  have k1 : Kp no H H1 := hH1 ▸ Kp.app Kp.rfl _
  have hc1 : H1[H.length]? = some (.list (G.ns.map ndV)) := by rw [hH1]; simp
  rw [← hH1]
  have hG1 := hG.kp0 k1
  rw [b_assign]
  simp only [zE0, zE1, zE2, zE3, zE4, zE5, zE6, zE7, zE8, zE9, zE10, zE11, zE12, zE13, zE14, zE15, zE16, zE17, zE18, zE19, zE20, zE21, zE22, zE23, zE24, zE25, zE26, zE27, zE28, zE29, zE30, zE31, zE32, zE33, zE34, zE35, zE36, zE37, zE38, may_sm, V.ref.injEq, exists_eq_left', St.get, St.put, List.getElem?_cons_zero, List.getElem?_cons_succ, Option.join_some, List.set_cons_succ, List.set_cons_zero, hG1.at1, list_at hG1.a2, alloc]
  refine ⟨by simpa using hI, ?_⟩
  obtain ⟨H2, hH2⟩ : ∃ H2, H2 = H1 ++ [.list (G.ins.map nI)] := ⟨_, rfl⟩
  have q2 : Kp no H1 H2 := hH2 ▸ Kp.app Kp.rfl _
  have k2 := k1.trans q2 (fun _ _ h => h)
  have hc2 : H2[H1.length]? = some (.list (G.ins.map nI)) := by rw [hH2]; simp
  rw [← hH2]
  have hG2 := hG.kp0 k2
  rw [b_assign]
  simp only [zE0, zE1, zE2, zE3, zE4, zE5, zE6, zE7, zE8, zE9, zE10, zE11, zE12, zE13, zE14, zE15, zE16, zE17, zE18, zE19, zE20, zE21, zE22, zE23, zE24, zE25, zE26, zE27, zE28, zE29, zE30, zE31, zE32, zE33, zE34, zE35, zE36, zE37, zE38, may_sm, V.ref.injEq, exists_eq_left', St.get, St.put, List.getElem?_cons_zero, List.getElem?_cons_succ, Option.join_some, List.set_cons_succ, List.set_cons_zero, hG2.at2, list_at hG2.a3, alloc]
  refine ⟨by simpa using hO, ?_⟩
  obtain ⟨H3, hH3⟩ : ∃ H3, H3 = H2 ++ [.list (G.outs.map nI)] := ⟨_, rfl⟩
  have q3 : Kp no H2 H3 := hH3 ▸ Kp.app Kp.rfl _
  have k3 := k2.trans q3 (fun _ _ h => h)
  have hc3 : H3[H2.length]? = some (.list (G.outs.map nI)) := by rw [hH3]; simp
  rw [← hH3]
  have hG3 := hG.kp0 k3
  have hc1' := (q2.trans q3 (fun _ _ h => h)).get hc1 (fun h => h)
  have hc2' := q3.get hc2 (fun h => h)
  rw [b_assign]
  simp only [zE0, zE1, zE2, zE3, zE4, zE5, zE6, zE7, zE8, zE9, zE10, zE11, zE12, zE13, zE14, zE15, zE16, zE17, zE18, zE19, zE20, zE21, zE22, zE23, zE24, zE25, zE26, zE27, zE28, zE29, zE30, zE31, zE32, zE33, zE34, zE35, zE36, zE37, zE38, may_sm, V.ref.injEq, exists_eq_left', St.get, St.put, List.getElem?_cons_zero, List.getElem?_cons_succ, Option.join_some, List.set_cons_succ, List.set_cons_zero]
  refine c_bal hG3 hg hn ho ?_
  intro H4 f ns' fm hF hfl q4 fin
  have k4 := k3.trans q4 (fun _ _ h => h)
  have hG4 := hG.kp0 k4
  have c1 := q4.get hc1' (fun h => h)
  have c2 := q4.get hc2' (fun h => h)
  have c3 := q4.get hc3 (fun h => h)
  obtain ⟨fs0, hR0⟩ := reach_ex G.ns G.outs
  obtain ⟨le0, su0, hL0⟩ := least_ex hg.wg.low (cnt G.ns G.outs)
  have F0 := fin le0 su0 fs0 hL0 hR0
  have hn'1 := F0.sle
  have hfs0 : fs0.length ≤ G.ns.length := by
    have := sub_len (ys := List.range G.ns.length) hR0.nd (by
      intro x hx; obtain ⟨p, hp⟩ := hR0.and x hx
      rw [List.mem_range]; exact (List.getElem?_eq_some_iff.1 hp).1)
    rwa [List.length_range] at this
  have hN' : ns'.length < lim := by exact om423 hn hl20 hn'1 hn7 hfs0
  have hwl' := F0.wg.len
  -- nothing turned
  try simp only [zE0, zE1, zE2, zE3, zE4, zE5, zE6, zE7, zE8, zE9, zE10, zE11, zE12, zE13, zE14, zE15, zE16, zE17, zE18, zE19, zE20, zE21, zE22, zE23, zE24, zE25, zE26, zE27, zE28, zE29, zE30, zE31, zE32, zE33, zE34, zE35, zE36, zE37, zE38, may_sm, V.ref.injEq, exists_eq_left', St.get, St.put, List.getElem?_cons_zero, List.getElem?_cons_succ, Option.join_some, List.set_cons_succ, List.set_cons_zero]
  rw [b_ite]
  simp only [zC0, zC1, zC2, zC3, zC4, zC5, zC6, zC7, zC8, zE0, zE1, zE2, zE3, zE4, zE5, zE6, zE7, zE8, zE9, zE10, zE11, zE12, zE13, zE14, zE15, zE16, zE17, zE18, zE19, zE20, zE21, zE22, zE23, zE24, zE25, zE26, zE27, zE28, zE29, zE30, zE31, zE32, zE33, zE34, zE35, zE36, zE37, zE38, may_sm, V.ref.injEq, exists_eq_left', St.get, St.put, List.getElem?_cons_zero, List.getElem?_cons_succ, Option.join_some, List.set_cons_succ, List.set_cons_zero, hG4.at0, hG4.at1, hG4.at2, cmp_same hG4.a1 c1 (by intro x hx; obtain ⟨y, _, rfl⟩ := List.mem_map.1 hx; exact ndV_flat y) (by simpa using hN), cmp_same hG4.a2 c2 (by intro x hx; obtain ⟨y, _, rfl⟩ := List.mem_map.1 hx; rfl) (by simpa using hI), cmp_same hG4.a3 c3 (by intro x hx; obtain ⟨y, _, rfl⟩ := List.mem_map.1 hx; rfl) (by simpa using hO), Bool.false_eq_true, if_false]
  rw [b_nil, k_next, b_ite]
  have hI' : (inp n).length < lim := by rw [inp_len]; exact om258 hl20 hn7
  have hO' : (G.outs.map fm).length < lim := by simpa using hO
  simp only [zC0, zC1, zC2, zC3, zC4, zC5, zC6, zC7, zC8, zE0, zE1, zE2, zE3, zE4, zE5, zE6, zE7, zE8, zE9, zE10, zE11, zE12, zE13, zE14, zE15, zE16, zE17, zE18, zE19, zE20, zE21, zE22, zE23, zE24, zE25, zE26, zE27, zE28, zE29, zE30, zE31, zE32, zE33, zE34, zE35, zE36, zE37, zE38, may_sm, V.ref.injEq, exists_eq_left', St.get, St.put, List.getElem?_cons_zero, List.getElem?_cons_succ, Option.join_some, List.set_cons_succ, List.set_cons_zero, hF.at1, hF.at2, len_at hF.a2 hI', len_at hF.a3 hO', len_at c2 hI, len_at c3 hO, cmp_ne, inp_len, hil, List.length_map, decide_true, Bool.not_true, Bool.false_eq_true, if_false]
  rw [b_nil, k_next, b_assign]
  simp only [zE0, zE1, zE2, zE3, zE4, zE5, zE6, zE7, zE8, zE9, zE10, zE11, zE12, zE13, zE14, zE15, zE16, zE17, zE18, zE19, zE20, zE21, zE22, zE23, zE24, zE25, zE26, zE27, zE28, zE29, zE30, zE31, zE32, zE33, zE34, zE35, zE36, zE37, zE38, may_sm, V.ref.injEq, exists_eq_left', St.get, St.put, List.getElem?_cons_zero, List.getElem?_cons_succ, Option.join_some, List.set_cons_succ, List.set_cons_zero]
  rw [b_for]
  simp only [wpI, zE0, zE1, zE2, zE3, zE4, zE5, zE6, zE7, zE8, zE9, zE10, zE11, zE12, zE13, zE14, zE15, zE16, zE17, zE18, zE19, zE20, zE21, zE22, zE23, zE24, zE25, zE26, zE27, zE28, zE29, zE30, zE31, zE32, zE33, zE34, zE35, zE36, zE37, zE38, may_sm, V.ref.injEq, exists_eq_left', St.get, St.put, List.getElem?_cons_zero, List.getElem?_cons_succ, Option.join_some, List.set_cons_succ, List.set_cons_zero, hF.at0, len_at hF.a1 hN']
  refine ⟨_, rfl, by exact om10, by exact om93 hN' hl20, for_inv (fun k st => ∃ (o6 o7 : Option V), st = ⟨[some (.obj g), some (.ref H.length), some (.ref H1.length), some (.ref H2.length), some (.obj f), some (nI (k - (n + 1))), o6, o7, none, none, none, none, none, none, none, none, none, none, none, none, none, none, none, none, none, none, none], H4⟩) ?_ ?_ ?_ ?_⟩
  · exact ⟨none, none, by simp⟩
  · intros; trivial
  · rintro k v st K hv ⟨o6, o7, rfl⟩ kn kc kr
    obtain ⟨hk, rfl⟩ := ru_at hv
    obtain ⟨nd, hnd⟩ : ∃ nd, ns'[k]? = some nd := ⟨_, List.getElem?_eq_getElem hk⟩
    simp only [b_assign, b_expr, b_ret, b_setSub, b_setAttr, b_unpack, b_aug, b_augSub, b_cont, b_nil, b_comp, zE0, zE1, zE2, zE3, zE4, zE5, zE6, zE7, zE8, zE9, zE10, zE11, zE12, zE13, zE14, zE15, zE16, zE17, zE18, zE19, zE20, zE21, zE22, zE23, zE24, zE25, zE26, zE27, zE28, zE29, zE30, zE31, zE32, zE33, zE34, zE35, zE36, zE37, zE38, may_sm, V.ref.injEq, exists_eq_left', St.get, St.put, List.getElem?_cons_zero, List.getElem?_cons_succ, Option.join_some, List.set_cons_succ, List.set_cons_zero, hF.at0, sub_at hF.a1 hN' hnd, b_ite, zC0, zC1, zC2, zC3, zC4, zC5, zC6, zC7, zC8]
    cases nd with
    | none =>
      have hkn : k ≤ n := by
        apply Nat.le_of_not_lt; intro h1
        obtain ⟨l, r, h2⟩ := F0.wg.and k h1 hk
        rw [hnd] at h2; cases h2
      simp [ndV, k_next]
      apply kn
      exact ⟨_, _, by rw [show k - (n + 1) = 0 by exact om282 hkn, show k + 1 - (n + 1) = 0 by exact om281 hkn]⟩
    | some p =>
      have hkn : n < k := by
        apply Nat.lt_of_not_le; intro h1
        rw [F0.wg.base k h1] at hnd; cases hnd
      have hok := F0.wg.ok _ _ _ hnd
      simp [ndV, k_next]
      simp only [b_assign, b_expr, b_ret, b_setSub, b_setAttr, b_unpack, b_aug, b_augSub, b_cont, b_nil, b_comp, zE0, zE1, zE2, zE3, zE4, zE5, zE6, zE7, zE8, zE9, zE10, zE11, zE12, zE13, zE14, zE15, zE16, zE17, zE18, zE19, zE20, zE21, zE22, zE23, zE24, zE25, zE26, zE27, zE28, zE29, zE30, zE31, zE32, zE33, zE34, zE35, zE36, zE37, zE38, may_sm, V.ref.injEq, exists_eq_left', St.get, St.put, List.getElem?_cons_zero, List.getElem?_cons_succ, Option.join_some, List.set_cons_succ, List.set_cons_zero, bi_add1, zC0, zC1, zC2, zC3, zC4, zC5, zC6, zC7, zC8, b_ite, subP0, subP1, bi_shr, cmp_0lt, cmp_lt, hok.1, hok.2.1, hok.2.2, decide_true, if_true, Bool.not_true, Bool.false_eq_true, if_false, k_next]
      apply kn
      exact ⟨_, _, by rw [show k - (n + 1) + 1 = k + 1 - (n + 1) by exact om240 hkn]⟩
  rintro st ⟨o6, o7, rfl⟩
  rw [ru_len, k_next, b_unpack]
  simp only [zE0, zE1, zE2, zE3, zE4, zE5, zE6, zE7, zE8, zE9, zE10, zE11, zE12, zE13, zE14, zE15, zE16, zE17, zE18, zE19, zE20, zE21, zE22, zE23, zE24, zE25, zE26, zE27, zE28, zE29, zE30, zE31, zE32, zE33, zE34, zE35, zE36, zE37, zE38, may_sm, V.ref.injEq, exists_eq_left', St.get, St.put, List.getElem?_cons_zero, List.getElem?_cons_succ, Option.join_some, List.set_cons_succ, List.set_cons_zero]
  refine c_least hG4 (by exact om148 hn) hO hg.wg hg.out ?_
  intro H5 lt le su sg hlt5 hltl q5 hL hsg
  have hlf := hF.lt
  have k5 := k4.trans q5 (fun _ _ h => h)
  have hG5 := hG.kp0 k5
  have hF5 := hF.kp0 q5
  have c35 := q5.get c3 (fun h => h)
  have c25 := q5.get c2 (fun h => h)
  refine ⟨_, _, rfl, by decide, ?_⟩
  try simp only [zE0, zE1, zE2, zE3, zE4, zE5, zE6, zE7, zE8, zE9, zE10, zE11, zE12, zE13, zE14, zE15, zE16, zE17, zE18, zE19, zE20, zE21, zE22, zE23, zE24, zE25, zE26, zE27, zE28, zE29, zE30, zE31, zE32, zE33, zE34, zE35, zE36, zE37, zE38, may_sm, V.ref.injEq, exists_eq_left', St.get, St.put, List.getElem?_cons_zero, List.getElem?_cons_succ, Option.join_some, List.set_cons_succ, List.set_cons_zero]
  rw [b_assign]
  simp only [zE0, zE1, zE2, zE3, zE4, zE5, zE6, zE7, zE8, zE9, zE10, zE11, zE12, zE13, zE14, zE15, zE16, zE17, zE18, zE19, zE20, zE21, zE22, zE23, zE24, zE25, zE26, zE27, zE28, zE29, zE30, zE31, zE32, zE33, zE34, zE35, zE36, zE37, zE38, may_sm, V.ref.injEq, exists_eq_left', St.get, St.put, List.getElem?_cons_zero, List.getElem?_cons_succ, Option.join_some, List.set_cons_succ, List.set_cons_zero]
  refine c_reached hG5 hg.wg.low hg.out (by exact om148 hn) ho ?_
  intro H6 fs q6 hR
  have k6 := k5.trans q6 (fun _ _ h => h)
  have hG6 := hG.kp0 k6
  have hF6 := hF5.kp0 q6
  have c36 := q6.get c35 (fun h => h)
  have c26 := q6.get c25 (fun h => h)
  have hlt6 := q6.get hlt5 (fun h => h)
  have F := fin le su fs hL hR
  have hsle := F.sle
  try simp only [zE0, zE1, zE2, zE3, zE4, zE5, zE6, zE7, zE8, zE9, zE10, zE11, zE12, zE13, zE14, zE15, zE16, zE17, zE18, zE19, zE20, zE21, zE22, zE23, zE24, zE25, zE26, zE27, zE28, zE29, zE30, zE31, zE32, zE33, zE34, zE35, zE36, zE37, zE38, may_sm, V.ref.injEq, exists_eq_left', St.get, St.put, List.getElem?_cons_zero, List.getElem?_cons_succ, Option.join_some, List.set_cons_succ, List.set_cons_zero]
  rw [b_ite]
  have esz : (decide (fs.length < ns'.length - (n + 1))) = false := by rw [decide_eq_false_iff_not]; exact om353 hsle
  have esq : sg = true → ns'.length - (n + 1) = fs.length := by intro e; have := F.seq (hsg e); exact om334 this
  simp only [zC0, zC1, zC2, zC3, zC4, zC5, zC6, zC7, zC8, zE0, zE1, zE2, zE3, zE4, zE5, zE6, zE7, zE8, zE9, zE10, zE11, zE12, zE13, zE14, zE15, zE16, zE17, zE18, zE19, zE20, zE21, zE22, zE23, zE24, zE25, zE26, zE27, zE28, zE29, zE30, zE31, zE32, zE33, zE34, zE35, zE36, zE37, zE38, may_sm, V.ref.injEq, exists_eq_left', St.get, St.put, List.getElem?_cons_zero, List.getElem?_cons_succ, Option.join_some, List.set_cons_succ, List.set_cons_zero, cmp_gt, cmp_ne, esz, Bool.false_eq_true, if_false, truthV]
  have step2 : ∀ (P : Bool → Prop), P false → (if sg = true then P (!decide (ns'.length - (n + 1) = fs.length)) else P false) := by
    intro P hP
    cases sg with
    | false => simpa using hP
    | true => simpa [esq rfl] using hP
  refine step2 (fun t => if t = true then _ else _) ?_
  simp only [Bool.false_eq_true, if_false]
  rw [b_nil, k_next, b_assign]
  have p1 := pow2_128 hn7
  have p0 : 0 < 2 ^ (2 ^ n) := Nat.two_pow_pos _
  simp only [zE0, zE1, zE2, zE3, zE4, zE5, zE6, zE7, zE8, zE9, zE10, zE11, zE12, zE13, zE14, zE15, zE16, zE17, zE18, zE19, zE20, zE21, zE22, zE23, zE24, zE25, zE26, zE27, zE28, zE29, zE30, zE31, zE32, zE33, zE34, zE35, zE36, zE37, zE38, may_sm, V.ref.injEq, exists_eq_left', St.get, St.put, List.getElem?_cons_zero, List.getElem?_cons_succ, Option.join_some, List.set_cons_succ, List.set_cons_zero, len_at c26 hI, hil, bi_shl1 (show n ≤ 1000 by exact om152 hn7), bi_shl1 (show 2 ^ n ≤ 1000 by exact om43 p1), bi_sub1 (show 1 ≤ 2 ^ (2 ^ n) from p0)]
  rw [b_assign]
  simp only [zE0, zE1, zE2, zE3, zE4, zE5, zE6, zE7, zE8, zE9, zE10, zE11, zE12, zE13, zE14, zE15, zE16, zE17, zE18, zE19, zE20, zE21, zE22, zE23, zE24, zE25, zE26, zE27, zE28, zE29, zE30, zE31, zE32, zE33, zE34, zE35, zE36, zE37, zE38, may_sm, V.ref.injEq, exists_eq_left', St.get, St.put, List.getElem?_cons_zero, List.getElem?_cons_succ, Option.join_some, List.set_cons_succ, List.set_cons_zero]
  refine c_columns (n := n) hG6 hg.wg hg.ins hn7 hN ?_
  intro H7 ot co hot hotl q7 hco
  have hF7 := hF6.kp0 q7
  have k7 := k6.trans q7 (fun _ _ h => h)
  try simp only [zE0, zE1, zE2, zE3, zE4, zE5, zE6, zE7, zE8, zE9, zE10, zE11, zE12, zE13, zE14, zE15, zE16, zE17, zE18, zE19, zE20, zE21, zE22, zE23, zE24, zE25, zE26, zE27, zE28, zE29, zE30, zE31, zE32, zE33, zE34, zE35, zE36, zE37, zE38, may_sm, V.ref.injEq, exists_eq_left', St.get, St.put, List.getElem?_cons_zero, List.getElem?_cons_succ, Option.join_some, List.set_cons_succ, List.set_cons_zero]
  rw [b_assign]
  simp only [zE0, zE1, zE2, zE3, zE4, zE5, zE6, zE7, zE8, zE9, zE10, zE11, zE12, zE13, zE14, zE15, zE16, zE17, zE18, zE19, zE20, zE21, zE22, zE23, zE24, zE25, zE26, zE27, zE28, zE29, zE30, zE31, zE32, zE33, zE34, zE35, zE36, zE37, zE38, may_sm, V.ref.injEq, exists_eq_left', St.get, St.put, List.getElem?_cons_zero, List.getElem?_cons_succ, Option.join_some, List.set_cons_succ, List.set_cons_zero]
  refine c_columns (n := n) hF7 F.wg rfl hn7 hN' ?_
  intro H8 nt cn hnt hntl q8 hcn
  have hF8 := hF7.kp0 q8
  have k8 := k7.trans q8 (fun _ _ h => h)
  try simp only [zE0, zE1, zE2, zE3, zE4, zE5, zE6, zE7, zE8, zE9, zE10, zE11, zE12, zE13, zE14, zE15, zE16, zE17, zE18, zE19, zE20, zE21, zE22, zE23, zE24, zE25, zE26, zE27, zE28, zE29, zE30, zE31, zE32, zE33, zE34, zE35, zE36, zE37, zE38, may_sm, V.ref.injEq, exists_eq_left', St.get, St.put, List.getElem?_cons_zero, List.getElem?_cons_succ, Option.join_some, List.set_cons_succ, List.set_cons_zero]
  rw [b_assign]
  simp only [zE0, zE1, zE2, zE3, zE4, zE5, zE6, zE7, zE8, zE9, zE10, zE11, zE12, zE13, zE14, zE15, zE16, zE17, zE18, zE19, zE20, zE21, zE22, zE23, zE24, zE25, zE26, zE27, zE28, zE29, zE30, zE31, zE32, zE33, zE34, zE35, zE36, zE37, zE38, may_sm, V.ref.injEq, exists_eq_left', St.get, St.put, List.getElem?_cons_zero, List.getElem?_cons_succ, Option.join_some, List.set_cons_succ, List.set_cons_zero]
  refine c_depths (n := n) hF8 F.wg hN' ?_
  intro H9 dt dn hdt hdtl q9 hdn
  have hF9 := hF8.kp0 q9
  have k9 := k8.trans q9 (fun _ _ h => h)
  have q79 := q8.trans q9 (fun _ _ h => h)
  have hot9 := q79.get hot (fun h => h)
  have hnt9 := q9.get hnt (fun h => h)
  have c39 := q79.get (q7.get c36 (fun h => h)) (fun h => h)
  have hlt9 := q79.get (q7.get hlt6 (fun h => h)) (fun h => h)
  have lco := hco.len
  have lcn : cn.length = ns'.length := hcn.len
  have ldn : dn.length = ns'.length := hdn.len
  have lle := hL.len
  try simp only [zE0, zE1, zE2, zE3, zE4, zE5, zE6, zE7, zE8, zE9, zE10, zE11, zE12, zE13, zE14, zE15, zE16, zE17, zE18, zE19, zE20, zE21, zE22, zE23, zE24, zE25, zE26, zE27, zE28, zE29, zE30, zE31, zE32, zE33, zE34, zE35, zE36, zE37, zE38, may_sm, V.ref.injEq, exists_eq_left', St.get, St.put, List.getElem?_cons_zero, List.getElem?_cons_succ, Option.join_some, List.set_cons_succ, List.set_cons_zero]
  rw [b_for]
  simp only [wpI, zE0, zE1, zE2, zE3, zE4, zE5, zE6, zE7, zE8, zE9, zE10, zE11, zE12, zE13, zE14, zE15, zE16, zE17, zE18, zE19, zE20, zE21, zE22, zE23, zE24, zE25, zE26, zE27, zE28, zE29, zE30, zE31, zE32, zE33, zE34, zE35, zE36, zE37, zE38, may_sm, V.ref.injEq, exists_eq_left', St.get, St.put, List.getElem?_cons_zero, List.getElem?_cons_succ, Option.join_some, List.set_cons_succ, List.set_cons_zero, len_at c39 hO]
  refine ⟨_, rfl, by exact om10, by exact om476 ho, for_inv (fun k st => Ex4 fun (o15 o16 o17 o18 : Option V) => st = ⟨[some (.obj g), some (.ref H.length), some (.ref H1.length), some (.ref H2.length), some (.obj f), some (nI (ns'.length - (n + 1))), o6, o7, some (.ref lt), some (.bool sg), some (nI fs.length), some (nI (2 ^ (2 ^ n) - 1)), some (.ref ot), some (.ref nt), some (.ref dt), o15, o16, o17, o18, none, none, none, none, none, none, none, none], H9⟩) ?_ ?_ ?_ ?_⟩
  · exact ⟨none, none, none, none, rfl⟩
  · intros; trivial
  · rintro k v st K hv ⟨o15, o16, o17, o18, rfl⟩ kn kc kr
    obtain ⟨hk, rfl⟩ := ru_at hv
    obtain ⟨o, hko⟩ : ∃ o, G.outs[k]? = some o := ⟨_, List.getElem?_eq_getElem hk⟩
    have hko' : (G.outs.map fm)[k]? = some (fm o) := by rw [List.getElem?_map, hko]; rfl
    have hom := mem_at hko
    have ho1 := hg.out o hom
    have ho2 := F.rng o hom
    have hcol := F.col o hom co cn hco hcn
    have hdle := F.dle o hom dn hdn
    rw [b_assign]
    simp only [zE0, zE1, zE2, zE3, zE4, zE5, zE6, zE7, zE8, zE9, zE10, zE11, zE12, zE13, zE14, zE15, zE16, zE17, zE18, zE19, zE20, zE21, zE22, zE23, zE24, zE25, zE26, zE27, zE28, zE29, zE30, zE31, zE32, zE33, zE34, zE35, zE36, zE37, zE38, may_sm, V.ref.injEq, exists_eq_left', St.get, St.put, List.getElem?_cons_zero, List.getElem?_cons_succ, Option.join_some, List.set_cons_succ, List.set_cons_zero, sub_at c39 hO hko]
    rw [b_assign]
    simp only [zE0, zE1, zE2, zE3, zE4, zE5, zE6, zE7, zE8, zE9, zE10, zE11, zE12, zE13, zE14, zE15, zE16, zE17, zE18, zE19, zE20, zE21, zE22, zE23, zE24, zE25, zE26, zE27, zE28, zE29, zE30, zE31, zE32, zE33, zE34, zE35, zE36, zE37, zE38, may_sm, V.ref.injEq, exists_eq_left', St.get, St.put, List.getElem?_cons_zero, List.getElem?_cons_succ, Option.join_some, List.set_cons_succ, List.set_cons_zero, hF9.at2, sub_at hF9.a3 hO' hko']
    rw [b_assign]
    simp only [zE0, zE1, zE2, zE3, zE4, zE5, zE6, zE7, zE8, zE9, zE10, zE11, zE12, zE13, zE14, zE15, zE16, zE17, zE18, zE19, zE20, zE21, zE22, zE23, zE24, zE25, zE26, zE27, zE28, zE29, zE30, zE31, zE32, zE33, zE34, zE35, zE36, zE37, zE38, may_sm, V.ref.injEq, exists_eq_left', St.get, St.put, List.getElem?_cons_zero, List.getElem?_cons_succ, Option.join_some, List.set_cons_succ, List.set_cons_zero, zC0, zC1, zC2, zC3, zC4, zC5, zC6, zC7, zC8, bi_xor, bi_and1, cmp_eq1]
    have et : ∀ (P : V → Prop), P (nI (if (o ^^^ fm o) % 2 = 1 then 2 ^ (2 ^ n) - 1 else 0)) → (if decide ((o ^^^ fm o) % 2 = 1) = true then P (nI (2 ^ (2 ^ n) - 1)) else P (.int 0)) := by
      intro P hP
      by_cases e : (o ^^^ fm o) % 2 = 1
      · rw [if_pos e] at hP; simpa [e] using hP
      · rw [if_neg e] at hP; rw [if_neg (by simpa using e)]; exact hP
    refine et (fun v => wpB _ _ ⟨[_, _, _, _, _, _, _, _, _, _, _, _, _, _, _, _, _, _, some v, _, _, _, _, _, _, _, _], _⟩ _) ?_
    rw [b_ite]
    simp only [zE0, zE1, zE2, zE3, zE4, zE5, zE6, zE7, zE8, zE9, zE10, zE11, zE12, zE13, zE14, zE15, zE16, zE17, zE18, zE19, zE20, zE21, zE22, zE23, zE24, zE25, zE26, zE27, zE28, zE29, zE30, zE31, zE32, zE33, zE34, zE35, zE36, zE37, zE38, may_sm, V.ref.injEq, exists_eq_left', St.get, St.put, List.getElem?_cons_zero, List.getElem?_cons_succ, Option.join_some, List.set_cons_succ, List.set_cons_zero, zC0, zC1, zC2, zC3, zC4, zC5, zC6, zC7, zC8, bi_shr, sub_at hot9 (show co.length < lim by exact om16 hn hl20 lco) (dep_at (show o / 2 < co.length by exact om0 ho1 lco)), bi_xor, hcol, sub_at hnt9 (show cn.length < lim by exact om27 hN' lcn) (dep_at (show fm o / 2 < cn.length by exact om0 ho2 lcn)), cmp_ne, decide_true, Bool.not_true, Bool.false_eq_true, if_false]
    rw [b_nil, k_next, b_ite]
    have e1 : decide (dep le (o / 2) < dep dn (fm o / 2)) = false := by rw [decide_eq_false_iff_not]; exact om284 hdle
    simp only [zE0, zE1, zE2, zE3, zE4, zE5, zE6, zE7, zE8, zE9, zE10, zE11, zE12, zE13, zE14, zE15, zE16, zE17, zE18, zE19, zE20, zE21, zE22, zE23, zE24, zE25, zE26, zE27, zE28, zE29, zE30, zE31, zE32, zE33, zE34, zE35, zE36, zE37, zE38, may_sm, V.ref.injEq, exists_eq_left', St.get, St.put, List.getElem?_cons_zero, List.getElem?_cons_succ, Option.join_some, List.set_cons_succ, List.set_cons_zero, zC0, zC1, zC2, zC3, zC4, zC5, zC6, zC7, zC8, bi_shr, sub_at hdt (show dn.length < lim by exact om27 hN' ldn) (dep_at (show fm o / 2 < dn.length by exact om0 ho2 ldn)), sub_at hlt9 (show le.length < lim by exact om16 hn hl20 lle) (dep_at (show o / 2 < le.length by exact om0 ho1 lle)), cmp_gt, e1, Bool.false_eq_true, if_false]
    rw [b_nil, k_next, b_ite]
    simp only [zE0, zE1, zE2, zE3, zE4, zE5, zE6, zE7, zE8, zE9, zE10, zE11, zE12, zE13, zE14, zE15, zE16, zE17, zE18, zE19, zE20, zE21, zE22, zE23, zE24, zE25, zE26, zE27, zE28, zE29, zE30, zE31, zE32, zE33, zE34, zE35, zE36, zE37, zE38, may_sm, V.ref.injEq, exists_eq_left', St.get, St.put, List.getElem?_cons_zero, List.getElem?_cons_succ, Option.join_some, List.set_cons_succ, List.set_cons_zero, zC0, zC1, zC2, zC3, zC4, zC5, zC6, zC7, zC8, truthV]
    cases sg with
    | false =>
      simp only [Bool.false_eq_true, if_false, b_nil, k_next]
      exact kn _ ⟨_, _, _, _, rfl⟩
    | true =>
      have e2 := F.deq (hsg rfl) o hom dn hdn
      simp only [if_true, zE0, zE1, zE2, zE3, zE4, zE5, zE6, zE7, zE8, zE9, zE10, zE11, zE12, zE13, zE14, zE15, zE16, zE17, zE18, zE19, zE20, zE21, zE22, zE23, zE24, zE25, zE26, zE27, zE28, zE29, zE30, zE31, zE32, zE33, zE34, zE35, zE36, zE37, zE38, may_sm, V.ref.injEq, exists_eq_left', St.get, St.put, List.getElem?_cons_zero, List.getElem?_cons_succ, Option.join_some, List.set_cons_succ, List.set_cons_zero, bi_shr, sub_at hdt (show dn.length < lim by exact om27 hN' ldn) (dep_at (show fm o / 2 < dn.length by exact om0 ho2 ldn)), sub_at hlt9 (show le.length < lim by exact om16 hn hl20 lle) (dep_at (show o / 2 < le.length by exact om0 ho1 lle)), cmp_ne, e2, decide_true, Bool.not_true, Bool.false_eq_true, if_false, b_nil, k_next]
      exact kn _ ⟨_, _, _, _, rfl⟩
  · rintro st ⟨o15, o16, o17, o18, rfl⟩
    simp only [k_next, b_assign, b_expr, b_ret, b_setSub, b_setAttr, b_unpack, b_aug, b_augSub, b_cont, b_nil, b_comp, zE0, zE1, zE2, zE3, zE4, zE5, zE6, zE7, zE8, zE9, zE10, zE11, zE12, zE13, zE14, zE15, zE16, zE17, zE18, zE19, zE20, zE21, zE22, zE23, zE24, zE25, zE26, zE27, zE28, zE29, zE30, zE31, zE32, zE33, zE34, zE35, zE36, zE37, zE38, may_sm, V.ref.injEq, exists_eq_left', St.get, St.put, List.getElem?_cons_zero, List.getElem?_cons_succ, Option.join_some, List.set_cons_succ, List.set_cons_zero, Fl.val]
    exact h _ k9
end Mine
end

-- part C13
section
set_option Elab.async false
set_option linter.unusedVariables false
set_option linter.unusedSimpArgs false
namespace Mine

theorem GG.G0 (n : Nat) : GG n (G0 n) := ⟨WG.G0, rfl, by intro o h; simp [Mine.G0] at h⟩

theorem c_landG {d : Nat} {H : Hp} {g n : Nat} {G : Gr} {l r : Nat} {Q : V → Hp → Prop} (hG : IsG H g G) (hg : GG n G) (hl : l / 2 < G.ns.length) (hr : r / 2 < G.ns.length) (hN : G.ns.length < lim)
    (h : ∀ H' ns' res, IsG H' g ⟨ns', G.ins, G.outs⟩ → GG n ⟨ns', G.ins, G.outs⟩ → G.ns.length ≤ ns'.length → ns'.length ≤ G.ns.length + 1 → res / 2 < ns'.length → Kp (gr g) H H' → H'.length = H.length → Q (nI res) H') :
    wpCall defs (d + 1) 3 [.obj g, nI l, nI r] H Q := by
  refine c_land hG hN ?_
  intro H' ns' res hL hG' hk hle
  rcases land_cases hg.wg hl hr hL with ⟨rfl, h1, _⟩ | ⟨a, b, hab, rfl, rfl, h0, h1, h2⟩
  · exact h H' _ res hG' ⟨hg.wg, hg.ins, hg.out⟩ (Nat.le_refl _) (by exact om30) h1 hk hle
  · have hbl : b / 2 < G.ns.length := by exact om141 hab hl hr
    refine h H' _ _ hG' ⟨hg.wg.snoc h0 h1 hbl h2, hg.ins, ?_⟩ (by simp) (by simp) (by simp) hk hle
    intro o ho; have := hg.out o ho; simp only [List.length_append, List.length_cons, List.length_nil]; exact om119 this

theorem bi_mod {a b : Nat} (h : 0 < b) : binV .mod (nI a) (nI b) = some (nI (a % b)) := by
  simp only [binV, binI]; rw [if_pos (by exact om145 h)]; rfl
theorem bi_fdiv {a b : Nat} (h : 0 < b) (hb : b < 1000) (ha : a < 10 ^ 100) : binV .fdiv (nI a) (nI b) = some (nI (a / b)) := by
  simp only [binV, binI]; rw [if_pos ⟨by exact om145 h, by simpa using ha, by exact om477 hb⟩]; rfl

structure PotOk (H : Hp) (c p : Nat) : Prop where
  ok : ∃ (cells : List Nat) (p0 p1 p2 : Nat), H[c]? = some (.list (cells.map nI)) ∧ cells.length < lim ∧ (∀ x, x ∈ cells → x < 10 ^ 60) ∧ H[p]? = some (.list ([p0, p1, p2].map nI)) ∧ p1 < 10 ^ 60 ∧ p2 < 1009

theorem c_pick {d : Nat} {H : Hp} {c p m : Nat} {Q : V → Hp → Prop} (hP : PotOk H c p) (hcp : c ≠ p) (hm : 0 < m) (hm2 : m < 1000)
    (h : ∀ H' r, r < m → PotOk H' c p → Kp (fun i => i = p) H H' → H'.length = H.length → Q (nI r) H') : wpCall defs (d + 1) 15 [.ref c, .ref p, nI m] H Q := by
  obtain ⟨cells, p0, p1, p2, hc, hcl, hcx, hp, h1, h2⟩ := hP.ok
  refine call_in 3 7 b_law_pick rfl rfl ?_
  unfold b_law_pick
  have hl3 : [p0, p1, p2].length < lim := (show 3 < lim by decide)
  have e60 : 10 ^ 60 < 10 ^ 100 := by decide
  have hpl := lt_of_get hp
  have done : ∀ (q0 q1 q2 r : Nat), r < m → q1 < 10 ^ 60 → q2 < 1009 → ∀ H', H' = H.set p (.list ([q0, q1, q2].map nI)) → Q (nI r) H' := by
    rintro q0 q1 q2 r hr hq1 hq2 H' rfl
    refine h _ r hr ⟨cells, q0, q1, q2, ?_, hcl, hcx, ?_, hq1, hq2⟩ (Kp.rfl.set (fun _ => rfl)) (by simp)
    · rw [List.getElem?_set_ne (fun e => hcp e.symm)]; exact hc
    · rw [List.getElem?_set_self hpl]
  have s0 : subV H (.ref p) (.int 0) = some (nI p0) := sub_at hp hl3 (k := 0) rfl
  have s1 : subV H (.ref p) (.int 1) = some (nI p1) := sub_at hp hl3 (k := 1) rfl
  have s2 : subV H (.ref p) (.int 2) = some (nI p2) := sub_at hp hl3 (k := 2) rfl
  have w1 : ∀ x, setV H (.ref p) (.int 1) (nI x) = some (H.set p (.list ([p0, x, p2].map nI))) := fun x => set_at hp hl3 (k := 1) (show 1 < 3 by decide) x rfl
  have w2 : ∀ x, setV H (.ref p) (.int 2) (nI x) = some (H.set p (.list ([p0, p1, x].map nI))) := fun x => set_at hp hl3 (k := 2) (show 2 < 3 by decide) x rfl
  have w0 : ∀ x, setV H (.ref p) (.int 0) (nI x) = some (H.set p (.list ([x, p1, p2].map nI))) := fun x => set_at hp hl3 (k := 0) (show 0 < 3 by decide) x rfl
  simp only [List.map_cons, List.map_nil, List.cons_append, List.nil_append, List.replicate_succ, List.replicate_zero]
  simp only [List.map_cons, List.map_nil] at done w0 w1 w2
  rw [b_ite]
  simp only [zC0, zC1, zC2, zC3, zC4, zC5, zC6, zC7, zC8, zE0, zE1, zE2, zE3, zE4, zE5, zE6, zE7, zE8, zE9, zE10, zE11, zE12, zE13, zE14, zE15, zE16, zE17, zE18, zE19, zE20, zE21, zE22, zE23, zE24, zE25, zE26, zE27, zE28, zE29, zE30, zE31, zE32, zE33, zE34, zE35, zE36, zE37, zE38, may_some, V.ref.injEq, exists_eq_left', St.get, St.put, List.getElem?_cons_zero, List.getElem?_cons_succ, Option.join_some, List.set_cons_succ, List.set_cons_zero, s1, cmp_gt0]
  by_cases e1 : 0 < p1
  · simp only [e1, decide_true, if_true]
    rw [b_assign]
    simp only [zE0, zE1, zE2, zE3, zE4, zE5, zE6, zE7, zE8, zE9, zE10, zE11, zE12, zE13, zE14, zE15, zE16, zE17, zE18, zE19, zE20, zE21, zE22, zE23, zE24, zE25, zE26, zE27, zE28, zE29, zE30, zE31, zE32, zE33, zE34, zE35, zE36, zE37, zE38, may_some, V.ref.injEq, exists_eq_left', St.get, St.put, List.getElem?_cons_zero, List.getElem?_cons_succ, Option.join_some, List.set_cons_succ, List.set_cons_zero, s1]
    refine ⟨_, rfl, ?_⟩
    rw [bi_mod hm, may_some, b_setSub]
    simp only [zE0, zE1, zE2, zE3, zE4, zE5, zE6, zE7, zE8, zE9, zE10, zE11, zE12, zE13, zE14, zE15, zE16, zE17, zE18, zE19, zE20, zE21, zE22, zE23, zE24, zE25, zE26, zE27, zE28, zE29, zE30, zE31, zE32, zE33, zE34, zE35, zE36, zE37, zE38, may_some, V.ref.injEq, exists_eq_left', St.get, St.put, List.getElem?_cons_zero, List.getElem?_cons_succ, Option.join_some, List.set_cons_succ, List.set_cons_zero, s1]
    refine ⟨_, rfl, ?_⟩
    rw [bi_fdiv hm hm2 (by exact om146 h1)]
    simp only [may_some, w1]
    simp only [b_assign, b_expr, b_ret, b_setSub, b_setAttr, b_unpack, b_aug, b_augSub, b_cont, b_nil, b_comp, zE0, zE1, zE2, zE3, zE4, zE5, zE6, zE7, zE8, zE9, zE10, zE11, zE12, zE13, zE14, zE15, zE16, zE17, zE18, zE19, zE20, zE21, zE22, zE23, zE24, zE25, zE26, zE27, zE28, zE29, zE30, zE31, zE32, zE33, zE34, zE35, zE36, zE37, zE38, may_some, V.ref.injEq, exists_eq_left', St.get, St.put, List.getElem?_cons_zero, List.getElem?_cons_succ, Option.join_some, List.set_cons_succ, List.set_cons_zero, k_ret, Fl.val]
    exact done _ _ _ _ (Nat.mod_lt _ hm) (Nat.lt_of_le_of_lt (Nat.div_le_self _ _) h1) h2 _ rfl
  simp only [e1, decide_false, Bool.false_eq_true, if_false]
  rw [b_nil, k_next, b_ite]
  simp only [zC0, zC1, zC2, zC3, zC4, zC5, zC6, zC7, zC8, zE0, zE1, zE2, zE3, zE4, zE5, zE6, zE7, zE8, zE9, zE10, zE11, zE12, zE13, zE14, zE15, zE16, zE17, zE18, zE19, zE20, zE21, zE22, zE23, zE24, zE25, zE26, zE27, zE28, zE29, zE30, zE31, zE32, zE33, zE34, zE35, zE36, zE37, zE38, may_some, V.ref.injEq, exists_eq_left', St.get, St.put, List.getElem?_cons_zero, List.getElem?_cons_succ, Option.join_some, List.set_cons_succ, List.set_cons_zero, s0, len_at hc hcl, cmp_lt]
  have x37 : ∀ a, a < 1009 → binV .mul (nI a) (.int 37) = some (nI (a * 37)) := by
    intro a ha; simp only [binV, binI]; rw [if_pos (Nat.lt_trans (show (a : Int).natAbs < 1009 by exact om147 ha) (by decide))]; simp
  have x13 : ∀ a, a < 1009 → binV .mul (nI a) (.int 13) = some (nI (a * 13)) := by
    intro a ha; simp only [binV, binI]; rw [if_pos (Nat.lt_trans (show (a : Int).natAbs < 1009 by exact om147 ha) (by decide))]; simp
  have a7 : ∀ a, binV .add (nI a) (.int 7) = some (nI (a + 7)) := by intro a; simp [binV, binI]
  have m1009 : ∀ a, binV .mod (nI a) (.int 1009) = some (nI (a % 1009)) := fun a => bi_mod (b := 1009) (by decide)
  have t18 : binV .pow (.int 10) (.int 18) = some (nI (10 ^ 18)) := by decide
  by_cases e2 : p0 < cells.length
  · obtain ⟨x, hx⟩ : ∃ x, cells[p0]? = some x := ⟨_, List.getElem?_eq_getElem e2⟩
    have hxb := hcx x (mem_at hx)
    simp only [e2, decide_true, if_true]
    rw [b_assign]
    simp only [zE0, zE1, zE2, zE3, zE4, zE5, zE6, zE7, zE8, zE9, zE10, zE11, zE12, zE13, zE14, zE15, zE16, zE17, zE18, zE19, zE20, zE21, zE22, zE23, zE24, zE25, zE26, zE27, zE28, zE29, zE30, zE31, zE32, zE33, zE34, zE35, zE36, zE37, zE38, may_some, V.ref.injEq, exists_eq_left', St.get, St.put, List.getElem?_cons_zero, List.getElem?_cons_succ, Option.join_some, List.set_cons_succ, List.set_cons_zero, s0, sub_at hc hcl hx]
    rw [b_augSub]
    simp only [zE0, zE1, zE2, zE3, zE4, zE5, zE6, zE7, zE8, zE9, zE10, zE11, zE12, zE13, zE14, zE15, zE16, zE17, zE18, zE19, zE20, zE21, zE22, zE23, zE24, zE25, zE26, zE27, zE28, zE29, zE30, zE31, zE32, zE33, zE34, zE35, zE36, zE37, zE38, may_some, V.ref.injEq, exists_eq_left', St.get, St.put, List.getElem?_cons_zero, List.getElem?_cons_succ, Option.join_some, List.set_cons_succ, List.set_cons_zero, s0, bi_add1, w0]
    have hp' : (H.set p (.list [nI (p0 + 1), nI p1, nI p2]))[p]? = some (.list ([p0 + 1, p1, p2].map nI)) := by rw [List.getElem?_set_self hpl]; rfl
    have hl3' : [p0 + 1, p1, p2].length < lim := (show 3 < lim by decide)
    have cge : ∀ (H : Hp) (a b : Nat), cmpV H .ge (nI a) (nI b) = some (decide (b ≤ a)) := by intro H a b; simp [cmpV, cmpI]
    rw [b_ite]
    simp only [zC0, zC1, zC2, zC3, zC4, zC5, zC6, zC7, zC8, zE0, zE1, zE2, zE3, zE4, zE5, zE6, zE7, zE8, zE9, zE10, zE11, zE12, zE13, zE14, zE15, zE16, zE17, zE18, zE19, zE20, zE21, zE22, zE23, zE24, zE25, zE26, zE27, zE28, zE29, zE30, zE31, zE32, zE33, zE34, zE35, zE36, zE37, zE38, may_some, V.ref.injEq, exists_eq_left', St.get, St.put, List.getElem?_cons_zero, List.getElem?_cons_succ, Option.join_some, List.set_cons_succ, List.set_cons_zero, t18, cge]
    have ss : ∀ q, (H.set p (.list [nI (p0 + 1), nI p1, nI p2])).set p q = H.set p q := fun q => List.set_set ..
    by_cases e3 : 10 ^ 18 ≤ x
    · simp only [e3, decide_true, if_true]
      have w1' := set_at hp' hl3' (k := 1) (show 1 < 3 by decide) (x / m) rfl
      have w1' : setV (H.set p (.list [nI (p0 + 1), nI p1, nI p2])) (.ref p) (.int 1) (nI (x / m)) = some (H.set p (.list [nI (p0 + 1), nI (x / m), nI p2])) := w1'.trans (congrArg some (ss _))
      rw [b_setSub]
      simp only [zE0, zE1, zE2, zE3, zE4, zE5, zE6, zE7, zE8, zE9, zE10, zE11, zE12, zE13, zE14, zE15, zE16, zE17, zE18, zE19, zE20, zE21, zE22, zE23, zE24, zE25, zE26, zE27, zE28, zE29, zE30, zE31, zE32, zE33, zE34, zE35, zE36, zE37, zE38, may_some, V.ref.injEq, exists_eq_left', St.get, St.put, List.getElem?_cons_zero, List.getElem?_cons_succ, Option.join_some, List.set_cons_succ, List.set_cons_zero]
      refine ⟨_, rfl, ?_⟩
      rw [bi_fdiv hm hm2 (by exact om146 hxb)]
      simp only [may_some, w1']
      rw [b_nil, k_next, b_ret]
      simp only [zE0, zE1, zE2, zE3, zE4, zE5, zE6, zE7, zE8, zE9, zE10, zE11, zE12, zE13, zE14, zE15, zE16, zE17, zE18, zE19, zE20, zE21, zE22, zE23, zE24, zE25, zE26, zE27, zE28, zE29, zE30, zE31, zE32, zE33, zE34, zE35, zE36, zE37, zE38, may_some, V.ref.injEq, exists_eq_left', St.get, St.put, List.getElem?_cons_zero, List.getElem?_cons_succ, Option.join_some, List.set_cons_succ, List.set_cons_zero]
      refine ⟨_, rfl, ?_⟩
      rw [bi_mod hm]
      simp only [may_some, k_ret, Fl.val]
      exact done _ _ _ _ (Nat.mod_lt _ hm) (Nat.lt_of_le_of_lt (Nat.div_le_self _ _) hxb) h2 _ rfl
    · simp only [e3, decide_false, Bool.false_eq_true, if_false]
      have s2' : subV (H.set p (.list [nI (p0 + 1), nI p1, nI p2])) (.ref p) (.int 2) = some (nI p2) := sub_at hp' hl3' (k := 2) rfl
      have w2' := set_at hp' hl3' (k := 2) (show 2 < 3 by decide) ((p2 * 37 + x) % 1009) rfl
      have w2' : setV (H.set p (.list [nI (p0 + 1), nI p1, nI p2])) (.ref p) (.int 2) (nI ((p2 * 37 + x) % 1009)) = some (H.set p (.list [nI (p0 + 1), nI p1, nI ((p2 * 37 + x) % 1009)])) := w2'.trans (congrArg some (ss _))
      rw [b_setSub]
      simp only [zE0, zE1, zE2, zE3, zE4, zE5, zE6, zE7, zE8, zE9, zE10, zE11, zE12, zE13, zE14, zE15, zE16, zE17, zE18, zE19, zE20, zE21, zE22, zE23, zE24, zE25, zE26, zE27, zE28, zE29, zE30, zE31, zE32, zE33, zE34, zE35, zE36, zE37, zE38, may_some, V.ref.injEq, exists_eq_left', St.get, St.put, List.getElem?_cons_zero, List.getElem?_cons_succ, Option.join_some, List.set_cons_succ, List.set_cons_zero, s2', x37 p2 h2, bi_add]
      refine ⟨_, rfl, ?_⟩
      simp only [m1009, may_some, w2']
      rw [b_nil, k_next, b_ret]
      simp only [zE0, zE1, zE2, zE3, zE4, zE5, zE6, zE7, zE8, zE9, zE10, zE11, zE12, zE13, zE14, zE15, zE16, zE17, zE18, zE19, zE20, zE21, zE22, zE23, zE24, zE25, zE26, zE27, zE28, zE29, zE30, zE31, zE32, zE33, zE34, zE35, zE36, zE37, zE38, may_some, V.ref.injEq, exists_eq_left', St.get, St.put, List.getElem?_cons_zero, List.getElem?_cons_succ, Option.join_some, List.set_cons_succ, List.set_cons_zero]
      refine ⟨_, rfl, ?_⟩
      rw [bi_mod hm]
      simp only [may_some, k_ret, Fl.val]
      exact done _ _ _ _ (Nat.mod_lt _ hm) h1 (Nat.mod_lt _ (by decide)) _ rfl
  · simp only [e2, decide_false, Bool.false_eq_true, if_false]
    rw [b_nil, k_next, b_setSub]
    simp only [zE0, zE1, zE2, zE3, zE4, zE5, zE6, zE7, zE8, zE9, zE10, zE11, zE12, zE13, zE14, zE15, zE16, zE17, zE18, zE19, zE20, zE21, zE22, zE23, zE24, zE25, zE26, zE27, zE28, zE29, zE30, zE31, zE32, zE33, zE34, zE35, zE36, zE37, zE38, may_some, V.ref.injEq, exists_eq_left', St.get, St.put, List.getElem?_cons_zero, List.getElem?_cons_succ, Option.join_some, List.set_cons_succ, List.set_cons_zero, s2, x13 p2 h2, a7]
    refine ⟨_, rfl, ?_⟩
    simp only [m1009, may_some, w2]
    rw [b_ret]
    have hp' : (H.set p (.list [nI p0, nI p1, nI ((p2 * 13 + 7) % 1009)]))[p]? = some (.list ([p0, p1, (p2 * 13 + 7) % 1009].map nI)) := by rw [List.getElem?_set_self hpl]; rfl
    have s2' : subV (H.set p (.list [nI p0, nI p1, nI ((p2 * 13 + 7) % 1009)])) (.ref p) (.int 2) = some (nI ((p2 * 13 + 7) % 1009)) := sub_at hp' (show 3 < lim by decide) (k := 2) rfl
    simp only [zE0, zE1, zE2, zE3, zE4, zE5, zE6, zE7, zE8, zE9, zE10, zE11, zE12, zE13, zE14, zE15, zE16, zE17, zE18, zE19, zE20, zE21, zE22, zE23, zE24, zE25, zE26, zE27, zE28, zE29, zE30, zE31, zE32, zE33, zE34, zE35, zE36, zE37, zE38, may_some, V.ref.injEq, exists_eq_left', St.get, St.put, List.getElem?_cons_zero, List.getElem?_cons_succ, Option.join_some, List.set_cons_succ, List.set_cons_zero, s2']
    refine ⟨_, rfl, ?_⟩
    rw [bi_mod hm]
    simp only [may_some, Fl.val]
    exact done _ _ _ _ (Nat.mod_lt _ hm) h1 (Nat.mod_lt _ (by decide)) _ rfl
end Mine
end

-- part C14
section
set_option Elab.async false
set_option linter.unusedVariables false
set_option linter.unusedSimpArgs false
namespace Mine

theorem GG.out' {n : Nat} {G : Gr} (h : GG n G) {l : Nat} (hl : l / 2 < G.ns.length) : GG n ⟨G.ns, G.ins, G.outs ++ [l]⟩ := by
  refine ⟨h.wg, h.ins, ?_⟩
  intro o ho
  rcases List.mem_append.1 ho with ho | ho
  · exact h.out o ho
  · simp at ho; subst ho; exact hl

theorem c_fixed {d : Nat} {H : Hp} {Q : V → Hp → Prop} (h : ∀ H' g n G, IsG H' g G → GG n G → n ≤ 7 → G.ns.length < 18 → G.outs.length < 1000 → H.length ≤ g → Kp no H H' → Q (.obj g) H') : wpCall defs (d + 2) 22 [] H Q := by
  refine call_in 0 9 b_law_fixed rfl rfl ?_
  unfold b_law_fixed
  have hl20 : lim = 2 ^ 20 := rfl
  simp only [List.map_cons, List.map_nil, List.cons_append, List.nil_append, List.replicate_succ, List.replicate_zero]
  rw [b_assign]
  simp only [zE0, zE1, zE2, zE3, zE4, zE5, zE6, zE7, zE8, zE9, zE10, zE11, zE12, zE13, zE14, zE15, zE16, zE17, zE18, zE19, zE20, zE21, zE22, zE23, zE24, zE25, zE26, zE27, zE28, zE29, zE30, zE31, zE32, zE33, zE34, zE35, zE36, zE37, zE38]
  refine c_new (H := H) ?_
  intro H1 hf k1 hl1
  refine ⟨rfl, ?_⟩
  try simp only [zE0, zE1, zE2, zE3, zE4, zE5, zE6, zE7, zE8, zE9, zE10, zE11, zE12, zE13, zE14, zE15, zE16, zE17, zE18, zE19, zE20, zE21, zE22, zE23, zE24, zE25, zE26, zE27, zE28, zE29, zE30, zE31, zE32, zE33, zE34, zE35, zE36, zE37, zE38, may_some, V.ref.injEq, exists_eq_left', St.get, St.put, List.getElem?_cons_zero, List.getElem?_cons_succ, Option.join_some, List.set_cons_succ, List.set_cons_zero]
  rw [b_assign]
  simp only [zE0, zE1, zE2, zE3, zE4, zE5, zE6, zE7, zE8, zE9, zE10, zE11, zE12, zE13, zE14, zE15, zE16, zE17, zE18, zE19, zE20, zE21, zE22, zE23, zE24, zE25, zE26, zE27, zE28, zE29, zE30, zE31, zE32, zE33, zE34, zE35, zE36, zE37, zE38, may_some, V.ref.injEq, exists_eq_left', St.get, St.put, List.getElem?_cons_zero, List.getElem?_cons_succ, Option.join_some, List.set_cons_succ, List.set_cons_zero, alloc]
  obtain ⟨H2, hH2⟩ : ∃ H2, H2 = H1 ++ [.list []] := ⟨_, rfl⟩
  have q2 : Kp no H1 H2 := hH2 ▸ Kp.app Kp.rfl _
  have hr : H2[H1.length]? = some (.list []) := by rw [hH2]; simp
  rw [← hH2]
  have hf2 := hf.kp0 q2
  have k2 := k1.trans q2 (fun _ _ h => h)
  rw [b_for]
  simp only [wpI, zE0, zE1, zE2, zE3, zE4, zE5, zE6, zE7, zE8, zE9, zE10, zE11, zE12, zE13, zE14, zE15, zE16, zE17, zE18, zE19, zE20, zE21, zE22, zE23, zE24, zE25, zE26, zE27, zE28, zE29, zE30, zE31, zE32, zE33, zE34, zE35, zE36, zE37, zE38, may_some, V.ref.injEq, exists_eq_left', St.get, St.put, List.getElem?_cons_zero, List.getElem?_cons_succ, Option.join_some, List.set_cons_succ, List.set_cons_zero]
  refine ⟨6, rfl, by decide, by decide, for_inv (fun k st => Ex2 fun (o2 : Option V) (H3 : Hp) => An5 (st = ⟨[some (.obj H.length), some (.ref H1.length), o2, none, none, none, none, none, none], H3⟩) (Kp no H H3) (IsG H3 H.length (G0 k)) (k ≤ 6) (H3[H1.length]? = some (.list (((List.range k).map fun j => 2 * (j + 1)).map nI)))) ?_ ?_ ?_ ?_⟩
  · exact ⟨none, H2, rfl, k2, hf2, by exact om552, hr⟩
  · intros; trivial
  · rintro k v st K hv ⟨o2, H3, rfl, k3, hf3, hk6, hr3⟩ kn kc kr
    obtain ⟨hk, rfl⟩ := ru_at (N := 6) hv
    simp only [b_assign, b_expr, b_ret, b_setSub, b_setAttr, b_unpack, b_aug, b_augSub, b_cont, b_nil, b_comp, zE0, zE1, zE2, zE3, zE4, zE5, zE6, zE7, zE8, zE9, zE10, zE11, zE12, zE13, zE14, zE15, zE16, zE17, zE18, zE19, zE20, zE21, zE22, zE23, zE24, zE25, zE26, zE27, zE28, zE29, zE30, zE31, zE32, zE33, zE34, zE35, zE36, zE37, zE38, may_some, V.ref.injEq, exists_eq_left', St.get, St.put, List.getElem?_cons_zero, List.getElem?_cons_succ, Option.join_some, List.set_cons_succ, List.set_cons_zero]
    refine ⟨isL_at hr3, isO_at hf3, ?_⟩
    refine c_add_input hf3 (by rw [G0_len]; exact om228 hk hl20) (by simp [G0, inp]; exact om91 hk hl20) ?_
    intro H4 hf4 q4 hl4
    rw [G0_succ] at hf4
    have hr4 := q4.get hr3 (by unfold gr; exact om64 hl1)
    have hll : ((List.range k).map fun j => 2 * (j + 1)).length < lim := by simp; exact om91 hk hl20
    simp only [b_assign, b_expr, b_ret, b_setSub, b_setAttr, b_unpack, b_aug, b_augSub, b_cont, b_nil, b_comp, zE0, zE1, zE2, zE3, zE4, zE5, zE6, zE7, zE8, zE9, zE10, zE11, zE12, zE13, zE14, zE15, zE16, zE17, zE18, zE19, zE20, zE21, zE22, zE23, zE24, zE25, zE26, zE27, zE28, zE29, zE30, zE31, zE32, zE33, zE34, zE35, zE36, zE37, zE38, may_some, V.ref.injEq, exists_eq_left', St.get, St.put, List.getElem?_cons_zero, List.getElem?_cons_succ, Option.join_some, List.set_cons_succ, List.set_cons_zero, app_at hr4 hll (2 * (k + 1)) (v := nI (2 * (G0 k).ns.length)) (by rw [G0_len]), true_and]
    apply kn
    have qs : Kp (fun i => i = H1.length) H4 (H4.set H1.length (.list ((((List.range k).map fun j => 2 * (j + 1)) ++ [2 * (k + 1)]).map nI))) := Kp.rfl.set (fun _ => rfl)
    refine ⟨_, _, rfl, (k3.trans q4 (by intro i h1 h2; unfold gr at h2; exact om18 h1 h2.1)).trans qs (by intro i h1 h2; exact om169 h1 h2 hl1), hf4.kp qs (by intro i h1 h2 h3; exact om332 hl1 h3 h2), by exact om484 hk, ?_⟩
    have er : (List.range (k + 1)).map (fun j => 2 * (j + 1)) = (List.range k).map (fun j => 2 * (j + 1)) ++ [2 * (k + 1)] := by rw [List.range_succ, List.map_append]; rfl
    rw [List.getElem?_set_self (lt_of_get hr4), er]
  rintro st ⟨o2, H3, rfl, k3, hf3, _, hr3⟩
  have e6 : (rangeUp 0 6).length = 6 := ru_len (N := 6)
  rw [e6] at hf3 hr3
  rw [k_next]
  have g3 := GG.G0 6
  have n3 := G0_len (n := 6)
  have rl : ((List.range 6).map fun j => 2 * (j + 1)).length < lim := by decide
  have s0 : ∀ H, H[H1.length]? = some (.list (((List.range 6).map fun j => 2 * (j + 1)).map nI)) → subV H (.ref H1.length) (.int 0) = some (nI 2) := fun H h => sub_at h rl (k := 0) rfl
  have s1 : ∀ H, H[H1.length]? = some (.list (((List.range 6).map fun j => 2 * (j + 1)).map nI)) → subV H (.ref H1.length) (.int 1) = some (nI 4) := fun H h => sub_at h rl (k := 1) rfl
  have s2 : ∀ H, H[H1.length]? = some (.list (((List.range 6).map fun j => 2 * (j + 1)).map nI)) → subV H (.ref H1.length) (.int 2) = some (nI 6) := fun H h => sub_at h rl (k := 2) rfl
  have s3 : ∀ H, H[H1.length]? = some (.list (((List.range 6).map fun j => 2 * (j + 1)).map nI)) → subV H (.ref H1.length) (.int 3) = some (nI 8) := fun H h => sub_at h rl (k := 3) rfl
  have s4 : ∀ H, H[H1.length]? = some (.list (((List.range 6).map fun j => 2 * (j + 1)).map nI)) → subV H (.ref H1.length) (.int 4) = some (nI 10) := fun H h => sub_at h rl (k := 4) rfl
  have s5 : ∀ H, H[H1.length]? = some (.list (((List.range 6).map fun j => 2 * (j + 1)).map nI)) → subV H (.ref H1.length) (.int 5) = some (nI 12) := fun H h => sub_at h rl (k := 5) rfl
  have ng : ¬ gr H.length H1.length := by unfold gr; exact om64 hl1
  have kg : ∀ {Ha Hb : Hp}, Kp no H Ha → Kp (gr H.length) Ha Hb → Kp no H Hb := fun k q => k.trans q (by intro i h1 h2; unfold gr at h2; exact om18 h1 h2.1)
  rw [b_assign]
  simp only [zE0, zE1, zE2, zE3, zE4, zE5, zE6, zE7, zE8, zE9, zE10, zE11, zE12, zE13, zE14, zE15, zE16, zE17, zE18, zE19, zE20, zE21, zE22, zE23, zE24, zE25, zE26, zE27, zE28, zE29, zE30, zE31, zE32, zE33, zE34, zE35, zE36, zE37, zE38, may_some, V.ref.injEq, exists_eq_left', St.get, St.put, List.getElem?_cons_zero, List.getElem?_cons_succ, Option.join_some, List.set_cons_succ, List.set_cons_zero]
  refine ⟨isO_at hf3, ?_⟩
  simp only [s0 H3 hr3, s1 H3 hr3, may_some]
  refine c_landG hf3 g3 (by rw [n3]; decide) (by rw [n3]; decide) (by rw [n3]; decide) ?_
  intro H4 n4 deep hf4 g4 a4 b4 d4 q4 _
  have hr4 := q4.get hr3 ng
  have k4 := kg k3 q4
  try simp only [zE0, zE1, zE2, zE3, zE4, zE5, zE6, zE7, zE8, zE9, zE10, zE11, zE12, zE13, zE14, zE15, zE16, zE17, zE18, zE19, zE20, zE21, zE22, zE23, zE24, zE25, zE26, zE27, zE28, zE29, zE30, zE31, zE32, zE33, zE34, zE35, zE36, zE37, zE38, may_some, V.ref.injEq, exists_eq_left', St.get, St.put, List.getElem?_cons_zero, List.getElem?_cons_succ, Option.join_some, List.set_cons_succ, List.set_cons_zero]
  rw [b_assign]
  simp only [zE0, zE1, zE2, zE3, zE4, zE5, zE6, zE7, zE8, zE9, zE10, zE11, zE12, zE13, zE14, zE15, zE16, zE17, zE18, zE19, zE20, zE21, zE22, zE23, zE24, zE25, zE26, zE27, zE28, zE29, zE30, zE31, zE32, zE33, zE34, zE35, zE36, zE37, zE38, may_some, V.ref.injEq, exists_eq_left', St.get, St.put, List.getElem?_cons_zero, List.getElem?_cons_succ, Option.join_some, List.set_cons_succ, List.set_cons_zero]
  refine ⟨isO_at hf4, ?_⟩
  simp only [s2 H4 hr4, s3 H4 hr4, may_some]
  refine c_landG hf4 g4 (by simp only; exact om252 n3 a4) (by simp only; exact om253 n3 a4) (by simp only; exact om335 hl20 n3 b4) ?_
  intro H5 n5 low hf5 g5 a5 b5 d5 q5 _
  simp only at a5 b5
  have hr5 := q5.get hr4 ng
  have k5 := kg k4 q5
  try simp only [zE0, zE1, zE2, zE3, zE4, zE5, zE6, zE7, zE8, zE9, zE10, zE11, zE12, zE13, zE14, zE15, zE16, zE17, zE18, zE19, zE20, zE21, zE22, zE23, zE24, zE25, zE26, zE27, zE28, zE29, zE30, zE31, zE32, zE33, zE34, zE35, zE36, zE37, zE38, may_some, V.ref.injEq, exists_eq_left', St.get, St.put, List.getElem?_cons_zero, List.getElem?_cons_succ, Option.join_some, List.set_cons_succ, List.set_cons_zero]
  rw [b_assign]
  simp only [zE0, zE1, zE2, zE3, zE4, zE5, zE6, zE7, zE8, zE9, zE10, zE11, zE12, zE13, zE14, zE15, zE16, zE17, zE18, zE19, zE20, zE21, zE22, zE23, zE24, zE25, zE26, zE27, zE28, zE29, zE30, zE31, zE32, zE33, zE34, zE35, zE36, zE37, zE38, may_some, V.ref.injEq, exists_eq_left', St.get, St.put, List.getElem?_cons_zero, List.getElem?_cons_succ, Option.join_some, List.set_cons_succ, List.set_cons_zero, bi_xor1]
  refine ⟨isO_at hf5, ?_⟩
  refine c_landG hf5 g5 (by rw [(xor1 deep).1]; simp only; exact om17 d4 a5) (by simp only; exact om4 d5) (by simp only; exact om400 hl20 n3 b4 b5) ?_
  intro H6 n6 mid hf6 g6 a6 b6 d6 q6 _
  simp only at a6 b6
  have hr6 := q6.get hr5 ng
  have k6 := kg k5 q6
  try simp only [zE0, zE1, zE2, zE3, zE4, zE5, zE6, zE7, zE8, zE9, zE10, zE11, zE12, zE13, zE14, zE15, zE16, zE17, zE18, zE19, zE20, zE21, zE22, zE23, zE24, zE25, zE26, zE27, zE28, zE29, zE30, zE31, zE32, zE33, zE34, zE35, zE36, zE37, zE38, may_some, V.ref.injEq, exists_eq_left', St.get, St.put, List.getElem?_cons_zero, List.getElem?_cons_succ, Option.join_some, List.set_cons_succ, List.set_cons_zero]
  rw [b_assign]
  simp only [zE0, zE1, zE2, zE3, zE4, zE5, zE6, zE7, zE8, zE9, zE10, zE11, zE12, zE13, zE14, zE15, zE16, zE17, zE18, zE19, zE20, zE21, zE22, zE23, zE24, zE25, zE26, zE27, zE28, zE29, zE30, zE31, zE32, zE33, zE34, zE35, zE36, zE37, zE38, may_some, V.ref.injEq, exists_eq_left', St.get, St.put, List.getElem?_cons_zero, List.getElem?_cons_succ, Option.join_some, List.set_cons_succ, List.set_cons_zero]
  refine ⟨isO_at hf6, ?_⟩
  refine ⟨isO_at hf6, ?_⟩
  simp only [s4 H6 hr6, may_some]
  refine c_landG hf6 g6 (by simp only; exact om4 d6) (by simp only; exact om397 n3 a4 a5 a6) (by simp only; exact om444 hl20 n3 b4 b5 b6) ?_
  intro H7 n7 t1 hf7 g7 a7 b7 d7 q7 _
  simp only at a7 b7
  have hr7 := q7.get hr6 ng
  have k7 := kg k6 q7
  simp only [s5 H7 hr7, may_some]
  refine c_landG hf7 g7 (by simp only; exact om4 d7) (by simp only; exact om440 n3 a4 a5 a6 a7) (by simp only; exact om458 hl20 n3 b4 b5 b6 b7) ?_
  intro H8 n8 top hf8 g8 a8 b8 d8 q8 _
  simp only at a8 b8
  have k8 := kg k7 q8
  try simp only [zE0, zE1, zE2, zE3, zE4, zE5, zE6, zE7, zE8, zE9, zE10, zE11, zE12, zE13, zE14, zE15, zE16, zE17, zE18, zE19, zE20, zE21, zE22, zE23, zE24, zE25, zE26, zE27, zE28, zE29, zE30, zE31, zE32, zE33, zE34, zE35, zE36, zE37, zE38, may_some, V.ref.injEq, exists_eq_left', St.get, St.put, List.getElem?_cons_zero, List.getElem?_cons_succ, Option.join_some, List.set_cons_succ, List.set_cons_zero]
  rw [b_expr]
  simp only [zE0, zE1, zE2, zE3, zE4, zE5, zE6, zE7, zE8, zE9, zE10, zE11, zE12, zE13, zE14, zE15, zE16, zE17, zE18, zE19, zE20, zE21, zE22, zE23, zE24, zE25, zE26, zE27, zE28, zE29, zE30, zE31, zE32, zE33, zE34, zE35, zE36, zE37, zE38, may_some, V.ref.injEq, exists_eq_left', St.get, St.put, List.getElem?_cons_zero, List.getElem?_cons_succ, Option.join_some, List.set_cons_succ, List.set_cons_zero]
  refine ⟨isO_at hf8, ?_⟩
  refine c_add_output hf8 (by simp [G0]; exact om487 hl20) ?_
  intro H9 hf9 q9 _
  have g9 := g8.out' (l := top) d8
  have k9 := kg k8 q9
  refine ⟨rfl, ?_⟩
  try simp only [zE0, zE1, zE2, zE3, zE4, zE5, zE6, zE7, zE8, zE9, zE10, zE11, zE12, zE13, zE14, zE15, zE16, zE17, zE18, zE19, zE20, zE21, zE22, zE23, zE24, zE25, zE26, zE27, zE28, zE29, zE30, zE31, zE32, zE33, zE34, zE35, zE36, zE37, zE38, may_some, V.ref.injEq, exists_eq_left', St.get, St.put, List.getElem?_cons_zero, List.getElem?_cons_succ, Option.join_some, List.set_cons_succ, List.set_cons_zero]
  rw [b_expr]
  simp only [zE0, zE1, zE2, zE3, zE4, zE5, zE6, zE7, zE8, zE9, zE10, zE11, zE12, zE13, zE14, zE15, zE16, zE17, zE18, zE19, zE20, zE21, zE22, zE23, zE24, zE25, zE26, zE27, zE28, zE29, zE30, zE31, zE32, zE33, zE34, zE35, zE36, zE37, zE38, may_some, V.ref.injEq, exists_eq_left', St.get, St.put, List.getElem?_cons_zero, List.getElem?_cons_succ, Option.join_some, List.set_cons_succ, List.set_cons_zero, bi_xor1]
  refine ⟨isO_at hf9, ?_⟩
  refine c_add_output hf9 (by simp [G0]; exact om488 hl20) ?_
  intro H10 hf10 q10 _
  have g10 := g9.out' (l := mid ^^^ 1) (by rw [(xor1 mid).1]; simp only; exact om387 d6 a7 a8)
  have k10 := kg k9 q10
  refine ⟨rfl, ?_⟩
  simp only [b_assign, b_expr, b_ret, b_setSub, b_setAttr, b_unpack, b_aug, b_augSub, b_cont, b_nil, b_comp, zE0, zE1, zE2, zE3, zE4, zE5, zE6, zE7, zE8, zE9, zE10, zE11, zE12, zE13, zE14, zE15, zE16, zE17, zE18, zE19, zE20, zE21, zE22, zE23, zE24, zE25, zE26, zE27, zE28, zE29, zE30, zE31, zE32, zE33, zE34, zE35, zE36, zE37, zE38, may_some, V.ref.injEq, exists_eq_left', St.get, St.put, List.getElem?_cons_zero, List.getElem?_cons_succ, Option.join_some, List.set_cons_succ, List.set_cons_zero, Fl.val]
  exact h H10 H.length 6 _ hf10 g10 (by exact om553) (by simp only; exact om457 n3 b4 b5 b6 b7 b8) (by simp [G0]) (Nat.le_refl _) k10
end Mine
end

-- part C15
section
set_option Elab.async false
set_option linter.unusedVariables false
set_option linter.unusedSimpArgs false
namespace Mine

theorem PotOk.kp {S : Nat → Prop} {H H' : Hp} {c p : Nat} (h : PotOk H c p) (k : Kp S H H') (hc : ¬ S c) (hp : ¬ S p) : PotOk H' c p := by
  obtain ⟨cells, p0, p1, p2, h1, h2, h3, h4, h5⟩ := h.ok
  exact ⟨cells, p0, p1, p2, k.get h1 hc, h2, h3, k.get h4 hp, h5⟩

/-- the heap while a graph is drawn: cells c, pot p, graph g, free f, made m -/
structure DS (n : Nat) (c p g f m : Nat) (H : Hp) (G : Gr) (fr md : List Nat) : Prop where
  pot : PotOk H c p
  g : IsG H g G
  f : H[f]? = some (.list (fr.map nI))
  m : H[m]? = some (.list (md.map nI))
  gg : GG n G
  fok : ∀ l, l ∈ fr → l / 2 < G.ns.length
  mok : ∀ l, l ∈ md → l / 2 < G.ns.length
structure Ord (c p g f m : Nat) : Prop where
  cp : c < p
  pg : p < g
  gf : g + 4 < f
  fm : f < m

theorem DS.pick {n c p g f m : Nat} {H H' : Hp} {G : Gr} {fr md : List Nat} (D : DS n c p g f m H G fr md) (o : Ord c p g f m) (hp : PotOk H' c p) (k : Kp (fun i => i = p) H H') : DS n c p g f m H' G fr md := by
  obtain ⟨o1, o2, o3, o4⟩ := o
  exact ⟨hp, D.g.kp k (by intro i h1 h2 h3; exact om319 o2 h1 h3), k.get D.f (by exact om296 o3 o2), k.get D.m (by exact om364 o3 o4 o2), D.gg, D.fok, D.mok⟩
theorem DS.graph {n c p g f m : Nat} {H H' : Hp} {G G' : Gr} {fr md : List Nat} (D : DS n c p g f m H G fr md) (o : Ord c p g f m) (hg : IsG H' g G') (gg : GG n G') (hle : G.ns.length ≤ G'.ns.length) (k : Kp (gr g) H H') : DS n c p g f m H' G' fr md := by
  obtain ⟨o1, o2, o3, o4⟩ := o
  exact ⟨D.pot.kp k (by unfold gr; exact om374 o1 o2) (by unfold gr; exact om120 o2), hg, k.get D.f (by unfold gr; exact om72 o3), k.get D.m (by unfold gr; exact om375 o3 o4), gg, fun l h => Nat.lt_of_lt_of_le (D.fok l h) hle, fun l h => Nat.lt_of_lt_of_le (D.mok l h) hle⟩
theorem DS.setf {n c p g f m : Nat} {H : Hp} {G : Gr} {fr md fr' : List Nat} (D : DS n c p g f m H G fr md) (o : Ord c p g f m) (h : ∀ l, l ∈ fr' → l / 2 < G.ns.length) : DS n c p g f m (H.set f (.list (fr'.map nI))) G fr' md := by
  obtain ⟨o1, o2, o3, o4⟩ := o
  have k : Kp (fun i => i = f) H (H.set f (.list (fr'.map nI))) := Kp.rfl.set (fun _ => rfl)
  exact ⟨D.pot.kp k (by exact om366 o3 o2 o1) (by exact om297 o3 o2), D.g.kp k (by intro i h1 h2 h3; exact om28 o3 h3 h2), by rw [List.getElem?_set_self (lt_of_get D.f)], k.get D.m (by exact om243 o4), D.gg, h, D.mok⟩
theorem DS.setm {n c p g f m : Nat} {H : Hp} {G : Gr} {fr md md' : List Nat} (D : DS n c p g f m H G fr md) (o : Ord c p g f m) (h : ∀ l, l ∈ md' → l / 2 < G.ns.length) : DS n c p g f m (H.set m (.list (md'.map nI))) G fr md' := by
  obtain ⟨o1, o2, o3, o4⟩ := o
  have k : Kp (fun i => i = m) H (H.set m (.list (md'.map nI))) := Kp.rfl.set (fun _ => rfl)
  exact ⟨D.pot.kp k (by exact om418 o3 o4 o2 o1) (by exact om365 o3 o4 o2), D.g.kp k (by intro i h1 h2 h3; exact om378 o3 o4 h3 h2), k.get D.f (by exact om13 o4), by rw [List.getElem?_set_self (lt_of_get D.m)], D.gg, D.fok, h⟩

theorem popAtN {H : Hp} {n k x : Nat} {xs : List Nat} (h : H[n]? = some (.list (xs.map nI))) (hl : xs.length < lim) (hk : xs[k]? = some x) :
    popAtV H (.ref n) (nI k) = some (nI x, H.set n (.list ((xs.eraseIdx k).map nI))) := by
  have : (xs.map nI).length < lim := by simpa using hl
  simp only [popAtV, h]
  rw [if_pos ⟨by exact om21, this⟩]
  have e : List.eraseIdx (xs.map nI) k = (xs.eraseIdx k).map nI := by
    rw [List.eraseIdx_eq_take_drop_succ, List.eraseIdx_eq_take_drop_succ]; simp [List.map_take, List.map_drop]
  simp [hk, e]

theorem bi_2add {a : Nat} : binV .add (.int 2) (nI a) = some (nI (2 + a)) := by simp [binV, binI]
theorem bi_add2 {a : Nat} : binV .add (nI a) (.int 2) = some (nI (a + 2)) := by simp [binV, binI]
theorem xor01 {a r : Nat} (h : r < 2) : (a ^^^ r) / 2 = a / 2 := by
  have : r = 0 ∨ r = 1 := by exact om481 h
  rcases this with rfl | rfl
  · simp
  · exact (xor1 a).1

theorem law_end {H : Hp} {g n : Nat} {G : Gr} {loc : List (Option V)} (hloc : St.get ⟨loc, H⟩ 3 = some (.obj g)) (hG : IsG H g G) (hg : GG n G) (hn : n ≤ 7) (hl : G.ns.length < 18) (ho : G.outs.length < 1000) :
    wpB (wpCall defs 7) (.cons (.ret (.and (.call1 21 (.call0 22)) (.call1 21 (.var 3)))) .nil) ⟨loc, H⟩ fun fl _ => fl = .ret (.bool true) := by
  rw [b_ret]
  simp only [zE0, zE1, zE2, zE3, zE4, zE5, zE6, zE7, zE8, zE9, zE10, zE11, zE12, zE13, zE14, zE15, zE16, zE17, zE18, zE19, zE20, zE21, zE22, zE23, zE24, zE25, zE26, zE27, zE28, zE29, zE30, zE31, zE32, zE33, zE34, zE35, zE36, zE37, zE38]
  refine c_fixed (d := 5) ?_
  intro H1 g1 n1 G1 hG1 hg1 hn1 hl1 ho1 hgl k1
  refine c_law_balanced (d := 2) hG1 hg1 hn1 hl1 ho1 ?_
  intro H2 k2
  refine ⟨true, rfl, ?_⟩
  rw [if_pos rfl]
  have : St.get ⟨loc, H2⟩ 3 = some (.obj g) := hloc
  simp only [this, may_some]
  refine c_law_balanced (d := 2) ((hG.kp0 k1).kp0 k2) hg hn hl ho ?_
  intro H3 k3
  rfl

theorem law_step {c p g f m n : Nat} (o : Ord c p g f m) {H : Hp} {G : Gr} {fr md : List Nat} {sc : V} {o6 o7 o8 o9 o10 o11 : Option V} {K : Fl → St → Prop} (D : DS n c p g f m H G fr md)
    (hN : G.ns.length < 900) (hf : 1 ≤ fr.length) (hf2 : fr.length < 900) (hm : 1 ≤ md.length) (hm2 : md.length < 900)
    (h : ∀ H' G' fr' md' o7 o9 o10 o11, DS n c p g f m H' G' fr' md' → G'.outs = G.outs → G.ns.length ≤ G'.ns.length → G'.ns.length ≤ G.ns.length + 1 → 1 ≤ fr'.length → fr'.length ≤ fr.length → md.length ≤ md'.length → md'.length ≤ md.length + 1 →
      K .next ⟨[some sc, some (.ref c), some (.ref p), some (.obj g), some (.ref f), some (.ref m), o6, o7, o8, o9, o10, o11, none, none, none, none, none, none, none, none], H'⟩) :
    wpB (wpCall defs 7) (.cons (.ite (.cmp .gt (.len (.var 4)) (.int 1)) (.cons (.assign 9 (.popAt (.var 4) (.call3 15 (.var 1) (.var 2) (.len (.var 4)))))
  (.cons (.ite (.cmp .eq (.call3 15 (.var 1) (.var 2) (.int 9)) (.int 8)) (.cons (.assign 10 (.sub (.var 5) (.call3 15 (.var 1) (.var 2) (.len (.var 5)))))
  .nil) (.cons (.assign 10 (.popAt (.var 4) (.call3 15 (.var 1) (.var 2) (.len (.var 4)))))
  .nil))
  (.cons (.assign 11 (.call3 15 (.var 1) (.var 2) (.int 5)))
  (.cons (.ite (.cmp .eq (.var 11) (.int 3)) (.cons (.aug 9 .xor (.int 1))
  .nil) .nil)
  (.cons (.ite (.cmp .eq (.var 11) (.int 4)) (.cons (.aug 10 .xor (.int 1))
  .nil) .nil)
  (.cons (.assign 7 (.mcall2 3 (.var 3) (.var 9) (.var 10)))
  (.cons (.expr (.append (.var 4) (.var 7)))
  (.cons (.expr (.append (.var 5) (.var 7)))
  .nil)))))))) .nil)
  .nil) ⟨[some sc, some (.ref c), some (.ref p), some (.obj g), some (.ref f), some (.ref m), o6, o7, o8, o9, o10, o11, none, none, none, none, none, none, none, none], H⟩ K := by
  have hcp : c ≠ p := by have := o.cp; exact om33 this
  have hl20 : lim = 2 ^ 20 := rfl
  rw [b_ite]
  simp only [zC0, zC1, zC2, zC3, zC4, zC5, zC6, zC7, zC8, zE0, zE1, zE2, zE3, zE4, zE5, zE6, zE7, zE8, zE9, zE10, zE11, zE12, zE13, zE14, zE15, zE16, zE17, zE18, zE19, zE20, zE21, zE22, zE23, zE24, zE25, zE26, zE27, zE28, zE29, zE30, zE31, zE32, zE33, zE34, zE35, zE36, zE37, zE38, may_some, V.ref.injEq, exists_eq_left', St.get, St.put, List.getElem?_cons_zero, List.getElem?_cons_succ, Option.join_some, List.set_cons_succ, List.set_cons_zero, len_at D.f (show fr.length < lim by exact om20 hf2 hl20), cmp_gt1]
  by_cases e1 : 1 < fr.length
  · simp only [e1, decide_true, if_true]
    rw [b_assign]
    simp only [zE0, zE1, zE2, zE3, zE4, zE5, zE6, zE7, zE8, zE9, zE10, zE11, zE12, zE13, zE14, zE15, zE16, zE17, zE18, zE19, zE20, zE21, zE22, zE23, zE24, zE25, zE26, zE27, zE28, zE29, zE30, zE31, zE32, zE33, zE34, zE35, zE36, zE37, zE38, may_some, V.ref.injEq, exists_eq_left', St.get, St.put, List.getElem?_cons_zero, List.getElem?_cons_succ, Option.join_some, List.set_cons_succ, List.set_cons_zero, len_at D.f (show fr.length < lim by exact om20 hf2 hl20)]
    refine ⟨isL_at D.f, ?_⟩
    refine c_pick D.pot hcp (show 0 < fr.length by exact om473 e1) (by exact om149 hf2) ?_
    intro H1 r1 hr1 hp1 k1 _
    have D := D.pick o hp1 k1
    obtain ⟨lf, hlf⟩ : ∃ x, fr[r1]? = some x := ⟨_, List.getElem?_eq_getElem hr1⟩
    have lfok := D.fok lf (mem_at hlf)
    simp only [popAtN D.f (show fr.length < lim by exact om20 hf2 hl20) hlf, zE0, zE1, zE2, zE3, zE4, zE5, zE6, zE7, zE8, zE9, zE10, zE11, zE12, zE13, zE14, zE15, zE16, zE17, zE18, zE19, zE20, zE21, zE22, zE23, zE24, zE25, zE26, zE27, zE28, zE29, zE30, zE31, zE32, zE33, zE34, zE35, zE36, zE37, zE38, may_some, V.ref.injEq, exists_eq_left', St.get, St.put, List.getElem?_cons_zero, List.getElem?_cons_succ, Option.join_some, List.set_cons_succ, List.set_cons_zero]
    have D := D.setf o (fr' := fr.eraseIdx r1) (fun l hl => D.fok l (List.mem_of_mem_eraseIdx hl))
    have el : (fr.eraseIdx r1).length = fr.length - 1 := List.length_eraseIdx_of_lt hr1
    generalize H1.set f _ = H2 at *
    generalize fr.eraseIdx r1 = fr1 at *
    rw [b_ite]
    simp only [zC0, zC1, zC2, zC3, zC4, zC5, zC6, zC7, zC8, zE0, zE1, zE2, zE3, zE4, zE5, zE6, zE7, zE8, zE9, zE10, zE11, zE12, zE13, zE14, zE15, zE16, zE17, zE18, zE19, zE20, zE21, zE22, zE23, zE24, zE25, zE26, zE27, zE28, zE29, zE30, zE31, zE32, zE33, zE34, zE35, zE36, zE37, zE38, may_some, V.ref.injEq, exists_eq_left', St.get, St.put, List.getElem?_cons_zero, List.getElem?_cons_succ, Option.join_some, List.set_cons_succ, List.set_cons_zero]
    refine c_pick (m := 9) D.pot hcp (by decide) (by decide) ?_
    intro H3 r3 hr3 hp3 k3 _
    have D := D.pick o hp3 k3
    have e8 : cmpV H3 .eq (nI r3) (.int 8) = some (decide (r3 = 8)) := by simp only [cmpV, cmpI]; congr 1; apply decide_eq_decide.2; exact om541
    simp only [e8, may_some]
    -- the rest of the turn
    have rest : ∀ (H4 : Hp) (fr2 : List Nat) (ri : Nat), DS n c p g f m H4 G fr2 md → ri / 2 < G.ns.length → fr2.length + 1 ≤ fr.length → 
        wpB (wpCall defs 7) (.cons (.assign 11 (.call3 15 (.var 1) (.var 2) (.int 5)))
  (.cons (.ite (.cmp .eq (.var 11) (.int 3)) (.cons (.aug 9 .xor (.int 1))
  .nil) .nil)
  (.cons (.ite (.cmp .eq (.var 11) (.int 4)) (.cons (.aug 10 .xor (.int 1))
  .nil) .nil)
  (.cons (.assign 7 (.mcall2 3 (.var 3) (.var 9) (.var 10)))
  (.cons (.expr (.append (.var 4) (.var 7)))
  (.cons (.expr (.append (.var 5) (.var 7)))
  .nil)))))) ⟨[some sc, some (.ref c), some (.ref p), some (.obj g), some (.ref f), some (.ref m), o6, o7, o8, some (nI lf), some (nI ri), o11, none, none, none, none, none, none, none, none], H4⟩ (kont (fun st => K .next st) K) := by
      intro H4 fr2 ri D hri hf3
      rw [b_assign]
      simp only [zE0, zE1, zE2, zE3, zE4, zE5, zE6, zE7, zE8, zE9, zE10, zE11, zE12, zE13, zE14, zE15, zE16, zE17, zE18, zE19, zE20, zE21, zE22, zE23, zE24, zE25, zE26, zE27, zE28, zE29, zE30, zE31, zE32, zE33, zE34, zE35, zE36, zE37, zE38, may_some, V.ref.injEq, exists_eq_left', St.get, St.put, List.getElem?_cons_zero, List.getElem?_cons_succ, Option.join_some, List.set_cons_succ, List.set_cons_zero]
      refine c_pick (m := 5) D.pot hcp (by decide) (by decide) ?_
      intro H5 r5 hr5 hp5 k5 _
      have D := D.pick o hp5 k5
      have e3 : cmpV H5 .eq (nI r5) (.int 3) = some (decide (r5 = 3)) := by simp only [cmpV, cmpI]; congr 1; apply decide_eq_decide.2; exact om539
      have e4 : cmpV H5 .eq (nI r5) (.int 4) = some (decide (r5 = 4)) := by simp only [cmpV, cmpI]; congr 1; apply decide_eq_decide.2; exact om540
      have last : ∀ l r, l / 2 < G.ns.length → r / 2 < G.ns.length → wpB (wpCall defs 7) (.cons (.assign 7 (.mcall2 3 (.var 3) (.var 9) (.var 10)))
  (.cons (.expr (.append (.var 4) (.var 7)))
  (.cons (.expr (.append (.var 5) (.var 7)))
  .nil))) ⟨[some sc, some (.ref c), some (.ref p), some (.obj g), some (.ref f), some (.ref m), o6, o7, o8, some (nI l), some (nI r), some (nI r5), none, none, none, none, none, none, none, none], H5⟩ (kont (fun st => K .next st) K) := by
        intro l r hl hr
        rw [b_assign]
        simp only [zE0, zE1, zE2, zE3, zE4, zE5, zE6, zE7, zE8, zE9, zE10, zE11, zE12, zE13, zE14, zE15, zE16, zE17, zE18, zE19, zE20, zE21, zE22, zE23, zE24, zE25, zE26, zE27, zE28, zE29, zE30, zE31, zE32, zE33, zE34, zE35, zE36, zE37, zE38, may_some, V.ref.injEq, exists_eq_left', St.get, St.put, List.getElem?_cons_zero, List.getElem?_cons_succ, Option.join_some, List.set_cons_succ, List.set_cons_zero]
        refine ⟨isO_at D.g, ?_⟩
        refine c_landG D.g D.gg hl hr (by exact om20 hN hl20) ?_
        intro H6 ns' res hg' gg' h1 h2 h3 k6 _
        have D := D.graph o hg' gg' h1 k6
        try simp only [zE0, zE1, zE2, zE3, zE4, zE5, zE6, zE7, zE8, zE9, zE10, zE11, zE12, zE13, zE14, zE15, zE16, zE17, zE18, zE19, zE20, zE21, zE22, zE23, zE24, zE25, zE26, zE27, zE28, zE29, zE30, zE31, zE32, zE33, zE34, zE35, zE36, zE37, zE38, may_some, V.ref.injEq, exists_eq_left', St.get, St.put, List.getElem?_cons_zero, List.getElem?_cons_succ, Option.join_some, List.set_cons_succ, List.set_cons_zero]
        rw [b_expr]
        simp only [zE0, zE1, zE2, zE3, zE4, zE5, zE6, zE7, zE8, zE9, zE10, zE11, zE12, zE13, zE14, zE15, zE16, zE17, zE18, zE19, zE20, zE21, zE22, zE23, zE24, zE25, zE26, zE27, zE28, zE29, zE30, zE31, zE32, zE33, zE34, zE35, zE36, zE37, zE38, may_some, V.ref.injEq, exists_eq_left', St.get, St.put, List.getElem?_cons_zero, List.getElem?_cons_succ, Option.join_some, List.set_cons_succ, List.set_cons_zero]
        refine ⟨isL_at D.f, ?_⟩
        simp only [app_at D.f (show fr2.length < lim by exact om348 hf3 hf2 hl20) res (v := nI res) rfl, may_some]
        refine ⟨trivial, ?_⟩
        have D := D.setf o (fr' := fr2 ++ [res]) (by
          intro x hx; rcases List.mem_append.1 hx with hx | hx
          · exact D.fok x hx
          · simp at hx; subst hx; exact h3)
        generalize H6.set f _ = H7 at *
        rw [b_expr]
        simp only [zE0, zE1, zE2, zE3, zE4, zE5, zE6, zE7, zE8, zE9, zE10, zE11, zE12, zE13, zE14, zE15, zE16, zE17, zE18, zE19, zE20, zE21, zE22, zE23, zE24, zE25, zE26, zE27, zE28, zE29, zE30, zE31, zE32, zE33, zE34, zE35, zE36, zE37, zE38, may_some, V.ref.injEq, exists_eq_left', St.get, St.put, List.getElem?_cons_zero, List.getElem?_cons_succ, Option.join_some, List.set_cons_succ, List.set_cons_zero]
        refine ⟨isL_at D.m, ?_⟩
        simp only [app_at D.m (show md.length < lim by exact om20 hm2 hl20) res (v := nI res) rfl, may_some]
        refine ⟨trivial, ?_⟩
        have D := D.setm o (md' := md ++ [res]) (by
          intro x hx; rcases List.mem_append.1 hx with hx | hx
          · exact D.mok x hx
          · simp at hx; subst hx; exact h3)
        rw [b_nil, k_next]
        exact h _ _ _ _ _ _ _ _ D rfl h1 h2 (by simp) (by simp; exact om47 hf3) (by simp) (by simp)
      have x1 : (lf ^^^ 1) / 2 < G.ns.length := by rw [(xor1 lf).1]; exact lfok
      have x2 : (ri ^^^ 1) / 2 < G.ns.length := by rw [(xor1 ri).1]; exact hri
      try simp only [zE0, zE1, zE2, zE3, zE4, zE5, zE6, zE7, zE8, zE9, zE10, zE11, zE12, zE13, zE14, zE15, zE16, zE17, zE18, zE19, zE20, zE21, zE22, zE23, zE24, zE25, zE26, zE27, zE28, zE29, zE30, zE31, zE32, zE33, zE34, zE35, zE36, zE37, zE38, may_some, V.ref.injEq, exists_eq_left', St.get, St.put, List.getElem?_cons_zero, List.getElem?_cons_succ, Option.join_some, List.set_cons_succ, List.set_cons_zero]
      rw [b_ite]
      simp only [zC0, zC1, zC2, zC3, zC4, zC5, zC6, zC7, zC8, zE0, zE1, zE2, zE3, zE4, zE5, zE6, zE7, zE8, zE9, zE10, zE11, zE12, zE13, zE14, zE15, zE16, zE17, zE18, zE19, zE20, zE21, zE22, zE23, zE24, zE25, zE26, zE27, zE28, zE29, zE30, zE31, zE32, zE33, zE34, zE35, zE36, zE37, zE38, may_some, V.ref.injEq, exists_eq_left', St.get, St.put, List.getElem?_cons_zero, List.getElem?_cons_succ, Option.join_some, List.set_cons_succ, List.set_cons_zero, e3]
      by_cases q3 : r5 = 3
      · have q4 : ¬ r5 = 4 := by exact om492 q3
        simp only [q3, decide_true, if_true]
        rw [b_aug]
        simp only [zE0, zE1, zE2, zE3, zE4, zE5, zE6, zE7, zE8, zE9, zE10, zE11, zE12, zE13, zE14, zE15, zE16, zE17, zE18, zE19, zE20, zE21, zE22, zE23, zE24, zE25, zE26, zE27, zE28, zE29, zE30, zE31, zE32, zE33, zE34, zE35, zE36, zE37, zE38, may_some, V.ref.injEq, exists_eq_left', St.get, St.put, List.getElem?_cons_zero, List.getElem?_cons_succ, Option.join_some, List.set_cons_succ, List.set_cons_zero, bi_xor1]
        rw [b_nil, k_next, b_ite]
        have e4' : cmpV H5 .eq (nI 3) (.int 4) = some false := by rw [← q3, e4]; simp [q4]
        simp only [zC0, zC1, zC2, zC3, zC4, zC5, zC6, zC7, zC8, zE0, zE1, zE2, zE3, zE4, zE5, zE6, zE7, zE8, zE9, zE10, zE11, zE12, zE13, zE14, zE15, zE16, zE17, zE18, zE19, zE20, zE21, zE22, zE23, zE24, zE25, zE26, zE27, zE28, zE29, zE30, zE31, zE32, zE33, zE34, zE35, zE36, zE37, zE38, may_some, V.ref.injEq, exists_eq_left', St.get, St.put, List.getElem?_cons_zero, List.getElem?_cons_succ, Option.join_some, List.set_cons_succ, List.set_cons_zero, e4', Bool.false_eq_true, if_false]
        rw [b_nil, k_next]
        have := last (lf ^^^ 1) ri x1 hri
        rw [q3] at this; exact this
      · simp only [q3, decide_false, Bool.false_eq_true, if_false]
        rw [b_nil, k_next, b_ite]
        simp only [zC0, zC1, zC2, zC3, zC4, zC5, zC6, zC7, zC8, zE0, zE1, zE2, zE3, zE4, zE5, zE6, zE7, zE8, zE9, zE10, zE11, zE12, zE13, zE14, zE15, zE16, zE17, zE18, zE19, zE20, zE21, zE22, zE23, zE24, zE25, zE26, zE27, zE28, zE29, zE30, zE31, zE32, zE33, zE34, zE35, zE36, zE37, zE38, may_some, V.ref.injEq, exists_eq_left', St.get, St.put, List.getElem?_cons_zero, List.getElem?_cons_succ, Option.join_some, List.set_cons_succ, List.set_cons_zero, e4]
        by_cases q4 : r5 = 4
        · simp only [q4, decide_true, if_true]
          rw [b_aug]
          simp only [zE0, zE1, zE2, zE3, zE4, zE5, zE6, zE7, zE8, zE9, zE10, zE11, zE12, zE13, zE14, zE15, zE16, zE17, zE18, zE19, zE20, zE21, zE22, zE23, zE24, zE25, zE26, zE27, zE28, zE29, zE30, zE31, zE32, zE33, zE34, zE35, zE36, zE37, zE38, may_some, V.ref.injEq, exists_eq_left', St.get, St.put, List.getElem?_cons_zero, List.getElem?_cons_succ, Option.join_some, List.set_cons_succ, List.set_cons_zero, bi_xor1]
          rw [b_nil, k_next]
          have := last lf (ri ^^^ 1) lfok x2
          rw [q4] at this; exact this
        · simp only [q4, decide_false, Bool.false_eq_true, if_false]
          rw [b_nil, k_next]
          exact last lf ri lfok hri
    by_cases q8 : r3 = 8
    · simp only [q8, decide_true, if_true]
      rw [b_assign]
      simp only [zE0, zE1, zE2, zE3, zE4, zE5, zE6, zE7, zE8, zE9, zE10, zE11, zE12, zE13, zE14, zE15, zE16, zE17, zE18, zE19, zE20, zE21, zE22, zE23, zE24, zE25, zE26, zE27, zE28, zE29, zE30, zE31, zE32, zE33, zE34, zE35, zE36, zE37, zE38, may_some, V.ref.injEq, exists_eq_left', St.get, St.put, List.getElem?_cons_zero, List.getElem?_cons_succ, Option.join_some, List.set_cons_succ, List.set_cons_zero, len_at D.m (show md.length < lim by exact om20 hm2 hl20)]
      refine c_pick D.pot hcp (show 0 < md.length by exact om150 hm) (by exact om149 hm2) ?_
      intro H4 r4 hr4 hp4 k4 _
      have D := D.pick o hp4 k4
      obtain ⟨ri, hri⟩ : ∃ x, md[r4]? = some x := ⟨_, List.getElem?_eq_getElem hr4⟩
      simp only [zE0, zE1, zE2, zE3, zE4, zE5, zE6, zE7, zE8, zE9, zE10, zE11, zE12, zE13, zE14, zE15, zE16, zE17, zE18, zE19, zE20, zE21, zE22, zE23, zE24, zE25, zE26, zE27, zE28, zE29, zE30, zE31, zE32, zE33, zE34, zE35, zE36, zE37, zE38, may_some, V.ref.injEq, exists_eq_left', St.get, St.put, List.getElem?_cons_zero, List.getElem?_cons_succ, Option.join_some, List.set_cons_succ, List.set_cons_zero, sub_at D.m (show md.length < lim by exact om20 hm2 hl20) hri]
      rw [b_nil, k_next]
      exact rest H4 fr1 ri D (D.mok ri (mem_at hri)) (by exact om221 e1 el)
    · simp only [q8, decide_false, Bool.false_eq_true, if_false]
      rw [b_assign]
      simp only [zE0, zE1, zE2, zE3, zE4, zE5, zE6, zE7, zE8, zE9, zE10, zE11, zE12, zE13, zE14, zE15, zE16, zE17, zE18, zE19, zE20, zE21, zE22, zE23, zE24, zE25, zE26, zE27, zE28, zE29, zE30, zE31, zE32, zE33, zE34, zE35, zE36, zE37, zE38, may_some, V.ref.injEq, exists_eq_left', St.get, St.put, List.getElem?_cons_zero, List.getElem?_cons_succ, Option.join_some, List.set_cons_succ, List.set_cons_zero, len_at D.f (show fr1.length < lim by exact om112 hf2 hl20 el)]
      refine ⟨isL_at D.f, ?_⟩
      refine c_pick D.pot hcp (show 0 < fr1.length by exact om220 e1 el) (by exact om229 hf2 el) ?_
      intro H4 r4 hr4 hp4 k4 _
      have D := D.pick o hp4 k4
      obtain ⟨ri, hri⟩ : ∃ x, fr1[r4]? = some x := ⟨_, List.getElem?_eq_getElem hr4⟩
      have riok := D.fok ri (mem_at hri)
      simp only [popAtN D.f (show fr1.length < lim by exact om112 hf2 hl20 el) hri, zE0, zE1, zE2, zE3, zE4, zE5, zE6, zE7, zE8, zE9, zE10, zE11, zE12, zE13, zE14, zE15, zE16, zE17, zE18, zE19, zE20, zE21, zE22, zE23, zE24, zE25, zE26, zE27, zE28, zE29, zE30, zE31, zE32, zE33, zE34, zE35, zE36, zE37, zE38, may_some, V.ref.injEq, exists_eq_left', St.get, St.put, List.getElem?_cons_zero, List.getElem?_cons_succ, Option.join_some, List.set_cons_succ, List.set_cons_zero]
      have D := D.setf o (fr' := fr1.eraseIdx r4) (fun l hl => D.fok l (List.mem_of_mem_eraseIdx hl))
      have el2 : (fr1.eraseIdx r4).length = fr1.length - 1 := List.length_eraseIdx_of_lt hr4
      rw [b_nil, k_next]
      exact rest _ _ ri D riok (by exact om382 hr4 el el2)
  · simp only [e1, decide_false, Bool.false_eq_true, if_false]
    rw [b_nil, k_next, b_nil]
    exact h H G fr md _ _ _ _ D rfl (Nat.le_refl _) (by exact om30) hf (Nat.le_refl _) (Nat.le_refl _) (by exact om30)
end Mine
end

-- part C16
section
set_option Elab.async false
set_option linter.unusedVariables false
set_option linter.unusedSimpArgs false
namespace Mine

theorem ru2add {k n : Nat} : (rangeUp 0 ((n : Nat) : Int)) = rangeUp 0 (n : Int) := rfl

theorem law_ok : ∀ xs : List Int, xs.length ≤ 63 → wpB (wpCall defs 7) b_law ⟨some (.ext xs) :: List.replicate 19 none, []⟩ fun fl _ => fl = .ret (.bool true) := by
  intro xs hxs
  have hl20 : lim = 2 ^ 20 := rfl
  unfold b_law
  simp only [List.replicate_succ, List.replicate_zero]
  rw [b_comp]
  have e0 : ∀ H, listV H (.ext xs) = some (xs.map .int) := fun _ => rfl
  simp only [zE0, zE1, zE2, zE3, zE4, zE5, zE6, zE7, zE8, zE9, zE10, zE11, zE12, zE13, zE14, zE15, zE16, zE17, zE18, zE19, zE20, zE21, zE22, zE23, zE24, zE25, zE26, zE27, zE28, zE29, zE30, zE31, zE32, zE33, zE34, zE35, zE36, zE37, zE38, may_some, V.ref.injEq, exists_eq_left', St.get, St.put, List.getElem?_cons_zero, List.getElem?_cons_succ, Option.join_some, List.set_cons_succ, List.set_cons_zero, e0, alloc]
  refine ⟨by simp; exact om99 hl20 hxs, ?_⟩
  obtain ⟨H1, hH1⟩ : ∃ H1 : Hp, H1 = [] ++ [.list (xs.map .int)] := ⟨_, rfl⟩
  have hl1 : H1.length = 1 := by rw [hH1]; rfl
  have h1 : H1[([] : Hp).length]? = some (.list (xs.map .int)) := by rw [hH1]; rfl
  rw [← hH1]
  simp only [list_at h1, may_some]
  refine ⟨by simp; exact om99 hl20 hxs, by exact om489 hl20, ?_⟩
  obtain ⟨H2, hH2⟩ : ∃ H2 : Hp, H2 = H1 ++ [.list ((xs.map .int).take 40)] := ⟨_, rfl⟩
  have hl2 : H2.length = 2 := by rw [hH2]; simp [hl1]
  have h2 : H2[H1.length]? = some (.list ((xs.take 40).map .int)) := by rw [hH2, List.map_take]; simp
  rw [← hH2]
  refine ⟨H1.length, xs.take 40, rfl, h2, by simp; exact om100 hl20, ?_⟩
  have ec : ((xs.take 40).map fun i => V.int (i % 10 ^ 60)) = ((xs.take 40).map fun i => (i % 10 ^ 60).toNat).map nI := by
    rw [List.map_map]; apply List.map_congr_left; intro i _
    have : 0 ≤ i % 10 ^ 60 := Int.emod_nonneg _ (by decide)
    simp only [Function.comp]; congr 1; exact om201
  rw [ec]
  have hcx : ∀ x, x ∈ (xs.take 40).map (fun i => (i % 10 ^ 60).toNat) → x < 10 ^ 60 := by
    intro x hx
    obtain ⟨i, _, rfl⟩ := List.mem_map.1 hx
    have h9 : 0 ≤ i % 10 ^ 60 := Int.emod_nonneg _ (by decide)
    have h8 : i % 10 ^ 60 < 10 ^ 60 := Int.emod_lt_of_pos _ (by decide)
    exact om200
  have hcl : ((xs.take 40).map (fun i => (i % 10 ^ 60).toNat)).length < lim := by simp; exact om100 hl20
  generalize (xs.take 40).map (fun i => (i % 10 ^ 60).toNat) = cells at *
  obtain ⟨H3, hH3⟩ : ∃ H3 : Hp, H3 = H2 ++ [.list (cells.map nI)] := ⟨_, rfl⟩
  have hl3 : H3.length = 3 := by rw [hH3]; simp [hl2]
  have h3 : H3[H2.length]? = some (.list (cells.map nI)) := by rw [hH3]; simp
  rw [← hH3]
  try simp only [St.get, St.put, List.getElem?_cons_zero, List.getElem?_cons_succ, Option.join_some, List.set_cons_succ, List.set_cons_zero]
  rw [b_assign]
  simp only [zE0, zE1, zE2, zE3, zE4, zE5, zE6, zE7, zE8, zE9, zE10, zE11, zE12, zE13, zE14, zE15, zE16, zE17, zE18, zE19, zE20, zE21, zE22, zE23, zE24, zE25, zE26, zE27, zE28, zE29, zE30, zE31, zE32, zE33, zE34, zE35, zE36, zE37, zE38, may_some, V.ref.injEq, exists_eq_left', St.get, St.put, List.getElem?_cons_zero, List.getElem?_cons_succ, Option.join_some, List.set_cons_succ, List.set_cons_zero, alloc]
  obtain ⟨H4, hH4⟩ : ∃ H4 : Hp, H4 = H3 ++ [.list ([0, 0, 1].map nI)] := ⟨_, rfl⟩
  have hl4 : H4.length = 4 := by rw [hH4]; simp [hl3]
  have q4 : Kp no H3 H4 := hH4 ▸ Kp.app Kp.rfl _
  have h4 : H4[H3.length]? = some (.list ([0, 0, 1].map nI)) := by rw [hH4]; simp
  have e4 : H3 ++ [O.list [V.int 0, V.int 0, V.int 1]] = H4 := by rw [hH4]; rfl
  rw [e4]
  have pot4 : PotOk H4 H2.length H3.length := ⟨cells, 0, 0, 1, q4.get h3 (fun h => h), hcl, hcx, h4, by decide, by decide⟩
  rw [b_assign]
  simp only [zE0, zE1, zE2, zE3, zE4, zE5, zE6, zE7, zE8, zE9, zE10, zE11, zE12, zE13, zE14, zE15, zE16, zE17, zE18, zE19, zE20, zE21, zE22, zE23, zE24, zE25, zE26, zE27, zE28, zE29, zE30, zE31, zE32, zE33, zE34, zE35, zE36, zE37, zE38]
  refine c_new (d := 6) (H := H4) ?_
  intro H5 hg5 k5 hl5
  refine ⟨rfl, ?_⟩
  try simp only [zE0, zE1, zE2, zE3, zE4, zE5, zE6, zE7, zE8, zE9, zE10, zE11, zE12, zE13, zE14, zE15, zE16, zE17, zE18, zE19, zE20, zE21, zE22, zE23, zE24, zE25, zE26, zE27, zE28, zE29, zE30, zE31, zE32, zE33, zE34, zE35, zE36, zE37, zE38, may_some, V.ref.injEq, exists_eq_left', St.get, St.put, List.getElem?_cons_zero, List.getElem?_cons_succ, Option.join_some, List.set_cons_succ, List.set_cons_zero]
  have pot5 := pot4.kp k5 (fun h => h) (fun h => h)
  rw [b_assign]
  simp only [zE0, zE1, zE2, zE3, zE4, zE5, zE6, zE7, zE8, zE9, zE10, zE11, zE12, zE13, zE14, zE15, zE16, zE17, zE18, zE19, zE20, zE21, zE22, zE23, zE24, zE25, zE26, zE27, zE28, zE29, zE30, zE31, zE32, zE33, zE34, zE35, zE36, zE37, zE38, may_some, V.ref.injEq, exists_eq_left', St.get, St.put, List.getElem?_cons_zero, List.getElem?_cons_succ, Option.join_some, List.set_cons_succ, List.set_cons_zero, alloc]
  obtain ⟨H6, hH6⟩ : ∃ H6 : Hp, H6 = H5 ++ [.list []] := ⟨_, rfl⟩
  have hl6 : H6.length = H5.length + 1 := by rw [hH6]; simp
  have q6 : Kp no H5 H6 := hH6 ▸ Kp.app Kp.rfl _
  have h6 : H6[H5.length]? = some (.list []) := by rw [hH6]; simp
  rw [← hH6]
  rw [b_assign]
  simp only [zE0, zE1, zE2, zE3, zE4, zE5, zE6, zE7, zE8, zE9, zE10, zE11, zE12, zE13, zE14, zE15, zE16, zE17, zE18, zE19, zE20, zE21, zE22, zE23, zE24, zE25, zE26, zE27, zE28, zE29, zE30, zE31, zE32, zE33, zE34, zE35, zE36, zE37, zE38, may_some, V.ref.injEq, exists_eq_left', St.get, St.put, List.getElem?_cons_zero, List.getElem?_cons_succ, Option.join_some, List.set_cons_succ, List.set_cons_zero, alloc]
  obtain ⟨H7, hH7⟩ : ∃ H7 : Hp, H7 = H6 ++ [.list []] := ⟨_, rfl⟩
  have q7 : Kp no H6 H7 := hH7 ▸ Kp.app Kp.rfl _
  have h7 : H7[H6.length]? = some (.list []) := by rw [hH7]; simp
  rw [← hH7]
  have q67 := q6.trans q7 (fun _ _ h => h)
  have ord : Ord H2.length H3.length H4.length H5.length H6.length := ⟨by exact om260 hl2 hl3, by exact om262 hl3 hl4, by exact om256 hl5, by exact om35 hl6⟩
  have D0 : DS 0 H2.length H3.length H4.length H5.length H6.length H7 (G0 0) [] [] :=
    ⟨pot5.kp q67 (fun h => h) (fun h => h), hg5.kp0 q67, q7.get h6 (fun h => h), h7, GG.G0 0, by simp, by simp⟩
  generalize H2.length = c at *
  generalize H3.length = p at *
  generalize H4.length = g at *
  generalize H5.length = f at *
  generalize H6.length = m at *
  have hcp : c ≠ p := by have := ord.cp; exact om261 hl2 hl3
  clear q67 q6 q7 h6 h7 pot5 pot4 hg5 k5 h3 h4
  rw [b_for]
  simp only [wpI, zE0, zE1, zE2, zE3, zE4, zE5, zE6, zE7, zE8, zE9, zE10, zE11, zE12, zE13, zE14, zE15, zE16, zE17, zE18, zE19, zE20, zE21, zE22, zE23, zE24, zE25, zE26, zE27, zE28, zE29, zE30, zE31, zE32, zE33, zE34, zE35, zE36, zE37, zE38, may_some, V.ref.injEq, exists_eq_left', St.get, St.put, List.getElem?_cons_zero, List.getElem?_cons_succ, Option.join_some, List.set_cons_succ, List.set_cons_zero]
  refine c_pick (d := 6) (m := 6) D0.pot hcp (by decide) (by decide) ?_
  intro H8 r8 hr8 hp8 k8 _
  have D0 := D0.pick ord hp8 k8
  simp only [bi_2add, may_some]
  refine ⟨_, rfl, by exact om10, by exact om483 hr8, for_inv (fun k st => Ex4 fun (o6 o7 : Option V) (H9 : Hp) (fr : List Nat) => An4 (st = ⟨[some (.ext xs), some (.ref c), some (.ref p), some (.obj g), some (.ref f), some (.ref m), o6, o7, none, none, none, none, none, none, none, none, none, none, none, none], H9⟩) (DS k c p g f m H9 (G0 k) fr fr) (fr.length = k) (k ≤ 2 + r8)) ?_ ?_ ?_ ?_⟩
  · exact ⟨none, none, H8, [], rfl, D0, rfl, by exact om11⟩
  · intros; trivial
  · rintro k v st K hv ⟨o6, o7, H9, fr, rfl, D, hfl, hk⟩ kn kc kr
    obtain ⟨hk2, rfl⟩ := ru_at hv
    have hfl1 : fr.length < lim := by exact om368 hk2 hr8 hl20 hfl
    rw [b_assign]
    simp only [zE0, zE1, zE2, zE3, zE4, zE5, zE6, zE7, zE8, zE9, zE10, zE11, zE12, zE13, zE14, zE15, zE16, zE17, zE18, zE19, zE20, zE21, zE22, zE23, zE24, zE25, zE26, zE27, zE28, zE29, zE30, zE31, zE32, zE33, zE34, zE35, zE36, zE37, zE38, may_some, V.ref.injEq, exists_eq_left', St.get, St.put, List.getElem?_cons_zero, List.getElem?_cons_succ, Option.join_some, List.set_cons_succ, List.set_cons_zero]
    refine ⟨isO_at D.g, ?_⟩
    refine c_add_input (d := 6) D.g (by rw [G0_len]; exact om299 hk2 hr8 hl20) (by simp [G0, inp]; exact om313 hfl1 hfl) ?_
    intro H10 hg10 k10 _
    rw [G0_succ] at hg10
    obtain ⟨o1, o2, o3, o4⟩ := ord
    have D1 : DS (k + 1) c p g f m H10 (G0 (k + 1)) fr fr :=
      ⟨D.pot.kp k10 (by unfold gr; exact om338 hl2 hl4) (by unfold gr; exact om339 hl3 hl4), hg10, k10.get D.f (by unfold gr; exact om64 hl5), k10.get D.m (by unfold gr; exact om331 hl6 hl5), GG.G0 _,
        fun l h => by have := D.fok l h; rw [G0_len] at this ⊢; exact om23 this, fun l h => by have := D.fok l h; rw [G0_len] at this ⊢; exact om23 this⟩
    have new : ∀ l, l ∈ fr ++ [2 * (k + 1)] → l / 2 < (G0 (k + 1)).ns.length := by
      intro l hl
      rcases List.mem_append.1 hl with hl | hl
      · exact D1.fok l hl
      · simp at hl; subst hl; rw [G0_len]; exact om504
    try simp only [zE0, zE1, zE2, zE3, zE4, zE5, zE6, zE7, zE8, zE9, zE10, zE11, zE12, zE13, zE14, zE15, zE16, zE17, zE18, zE19, zE20, zE21, zE22, zE23, zE24, zE25, zE26, zE27, zE28, zE29, zE30, zE31, zE32, zE33, zE34, zE35, zE36, zE37, zE38, may_some, V.ref.injEq, exists_eq_left', St.get, St.put, List.getElem?_cons_zero, List.getElem?_cons_succ, Option.join_some, List.set_cons_succ, List.set_cons_zero]
    rw [b_expr]
    simp only [zE0, zE1, zE2, zE3, zE4, zE5, zE6, zE7, zE8, zE9, zE10, zE11, zE12, zE13, zE14, zE15, zE16, zE17, zE18, zE19, zE20, zE21, zE22, zE23, zE24, zE25, zE26, zE27, zE28, zE29, zE30, zE31, zE32, zE33, zE34, zE35, zE36, zE37, zE38, may_some, V.ref.injEq, exists_eq_left', St.get, St.put, List.getElem?_cons_zero, List.getElem?_cons_succ, Option.join_some, List.set_cons_succ, List.set_cons_zero]
    refine ⟨isL_at D1.f, ?_⟩
    simp only [app_at D1.f hfl1 (2 * (k + 1)) (v := nI (2 * (G0 k).ns.length)) (by rw [G0_len]), may_some]
    refine ⟨trivial, ?_⟩
    have D2 := D1.setf ⟨o1, o2, o3, o4⟩ (fr' := fr ++ [2 * (k + 1)]) new
    rw [b_expr]
    simp only [zE0, zE1, zE2, zE3, zE4, zE5, zE6, zE7, zE8, zE9, zE10, zE11, zE12, zE13, zE14, zE15, zE16, zE17, zE18, zE19, zE20, zE21, zE22, zE23, zE24, zE25, zE26, zE27, zE28, zE29, zE30, zE31, zE32, zE33, zE34, zE35, zE36, zE37, zE38, may_some, V.ref.injEq, exists_eq_left', St.get, St.put, List.getElem?_cons_zero, List.getElem?_cons_succ, Option.join_some, List.set_cons_succ, List.set_cons_zero]
    refine ⟨isL_at D2.m, ?_⟩
    simp only [app_at D2.m hfl1 (2 * (k + 1)) (v := nI (2 * (G0 k).ns.length)) (by rw [G0_len]), may_some]
    refine ⟨trivial, ?_⟩
    have D3 := D2.setm ⟨o1, o2, o3, o4⟩ (md' := fr ++ [2 * (k + 1)]) new
    rw [b_nil]
    apply kn
    exact ⟨_, _, _, fr ++ [2 * (k + 1)], rfl, D3, by simp [hfl], by exact om34 hk2⟩
  rintro st ⟨o6, o7, H9, fr, rfl, D, hfl, _⟩
  rw [ru_len] at D hfl
  generalize hn : 2 + r8 = n at *
  have hn2 : 2 ≤ n := by exact om246 hn
  have hn7 : n ≤ 7 := by exact om245 hn hr8
  rw [k_next, b_for]
  simp only [wpI, zE0, zE1, zE2, zE3, zE4, zE5, zE6, zE7, zE8, zE9, zE10, zE11, zE12, zE13, zE14, zE15, zE16, zE17, zE18, zE19, zE20, zE21, zE22, zE23, zE24, zE25, zE26, zE27, zE28, zE29, zE30, zE31, zE32, zE33, zE34, zE35, zE36, zE37, zE38, may_some, V.ref.injEq, exists_eq_left', St.get, St.put, List.getElem?_cons_zero, List.getElem?_cons_succ, Option.join_some, List.set_cons_succ, List.set_cons_zero, len_at D.f (show fr.length < lim by exact om389 hn hr8 hl20 hfl), bi_add2]
  refine ⟨_, rfl, by exact om10, by exact om329 hn hr8 hfl, for_inv (fun k st => Ex9 fun (o7 o8 o9 o10 o11 : Option V) (H9 : Hp) (G : Gr) (fr md : List Nat) => An9 (st = ⟨[some (.ext xs), some (.ref c), some (.ref p), some (.obj g), some (.ref f), some (.ref m), o6, o7, o8, o9, o10, o11, none, none, none, none, none, none, none, none], H9⟩) (DS n c p g f m H9 G fr md) (G.outs = []) (G.ns.length ≤ n + 1 + k) (1 ≤ fr.length) (fr.length ≤ n) (1 ≤ md.length) (md.length ≤ n + k) (k ≤ n + 2)) ?_ ?_ ?_ ?_⟩
  · exact ⟨o7, none, none, none, none, H9, G0 n, fr, fr, rfl, D, rfl, by rw [G0_len]; exact om531, by exact om121 hn hfl, by exact om101 hfl, by exact om121 hn hfl, by exact om265 hfl, by exact om11⟩
  · intros; trivial
  · rintro k v st K hv ⟨o7, o8, o9, o10, o11, H9, G, fr', md, rfl, D, hGo, h1, h2, h3, h4, h5, h6⟩ kn kc kr
    obtain ⟨hk2, rfl⟩ := ru_at hv
    refine law_step ord D (by exact om432 hn hr8 hk2 hfl h1) h2 (by exact om330 hn hr8 h3) h4 (by exact om433 hn hr8 hk2 hfl h5) ?_
    intro H' G' fr2 md2 o7 o9 o10 o11 D' e1 e2 e3 e4 e5 e6 e7
    apply kn
    exact ⟨_, _, _, _, _, H', G', fr2, md2, rfl, D', by rw [e1]; exact hGo, by exact om135 e3 h1, e4, by exact om51 e5 h3, by exact om274 h4 e6, by exact om135 e7 h5, by exact om301 hk2 hfl⟩
  rintro st ⟨o7', o8, o9, o10, o11, H10, G, fr', md, rfl, D, hGo, h1, h2, h3, h4, h5, _⟩
  rw [ru_len] at h1 h5
  rw [k_next, b_expr]
  obtain ⟨lf, hlf⟩ : ∃ x, fr'[fr'.length - 1]? = some x := ⟨_, List.getElem?_eq_getElem (by exact om494 h2)⟩
  have lfok := D.fok lf (mem_at hlf)
  simp only [zE0, zE1, zE2, zE3, zE4, zE5, zE6, zE7, zE8, zE9, zE10, zE11, zE12, zE13, zE14, zE15, zE16, zE17, zE18, zE19, zE20, zE21, zE22, zE23, zE24, zE25, zE26, zE27, zE28, zE29, zE30, zE31, zE32, zE33, zE34, zE35, zE36, zE37, zE38, may_some, V.ref.injEq, exists_eq_left', St.get, St.put, List.getElem?_cons_zero, List.getElem?_cons_succ, Option.join_some, List.set_cons_succ, List.set_cons_zero]
  refine ⟨isO_at D.g, ?_⟩
  simp only [len_at D.f (show fr'.length < lim by exact om133 hn hr8 hl20 h3), may_some, bi_sub1 (show 1 ≤ fr'.length from h2), sub_at D.f (show fr'.length < lim by exact om133 hn hr8 hl20 h3) hlf]
  refine c_pick (d := 6) (m := 2) D.pot hcp (by decide) (by decide) ?_
  intro H11 r11 hr11 hp11 k11 _
  have D := D.pick ord hp11 k11
  simp only [bi_xor, may_some]
  have hoF : G.outs.length < lim := by rw [hGo]; decide
  refine c_add_output (d := 6) D.g hoF ?_
  intro H12 hg12 k12 _
  have gg12 := D.gg.out' (l := lf ^^^ r11) (by rw [xor01 hr11]; exact lfok)
  have D := D.graph ord hg12 gg12 (Nat.le_refl _) k12
  refine ⟨rfl, ?_⟩
  try simp only [zE0, zE1, zE2, zE3, zE4, zE5, zE6, zE7, zE8, zE9, zE10, zE11, zE12, zE13, zE14, zE15, zE16, zE17, zE18, zE19, zE20, zE21, zE22, zE23, zE24, zE25, zE26, zE27, zE28, zE29, zE30, zE31, zE32, zE33, zE34, zE35, zE36, zE37, zE38, may_some, V.ref.injEq, exists_eq_left', St.get, St.put, List.getElem?_cons_zero, List.getElem?_cons_succ, Option.join_some, List.set_cons_succ, List.set_cons_zero]
  rw [b_for]
  simp only [wpI, zE0, zE1, zE2, zE3, zE4, zE5, zE6, zE7, zE8, zE9, zE10, zE11, zE12, zE13, zE14, zE15, zE16, zE17, zE18, zE19, zE20, zE21, zE22, zE23, zE24, zE25, zE26, zE27, zE28, zE29, zE30, zE31, zE32, zE33, zE34, zE35, zE36, zE37, zE38, may_some, V.ref.injEq, exists_eq_left', St.get, St.put, List.getElem?_cons_zero, List.getElem?_cons_succ, Option.join_some, List.set_cons_succ, List.set_cons_zero]
  refine c_pick (d := 6) (m := 3) D.pot hcp (by decide) (by decide) ?_
  intro H13 r13 hr13 hp13 k13 _
  have D := D.pick ord hp13 k13
  refine ⟨_, rfl, by exact om10, by exact om482 hr13, for_inv (fun k st => Ex4 fun (o7 o12 : Option V) (H9 : Hp) (G : Gr) => An5 (st = ⟨[some (.ext xs), some (.ref c), some (.ref p), some (.obj g), some (.ref f), some (.ref m), o6, o7, o8, o9, o10, o11, o12, none, none, none, none, none, none, none], H9⟩) (DS n c p g f m H9 G fr' md) (G.ns.length < 18) (G.outs.length = 1 + k) (k ≤ r13)) ?_ ?_ ?_ ?_⟩
  · exact ⟨_, none, H13, _, rfl, D, by simp only; exact om390 hn hr8 hfl h1, by simp [hGo], by exact om11⟩
  · intros; trivial
  · rintro k v st K hv ⟨o7, o12, H9, G, rfl, D, hGl, hGo, hk⟩ kn kc kr
    obtain ⟨hk2, rfl⟩ := ru_at hv
    rw [b_assign]
    simp only [zE0, zE1, zE2, zE3, zE4, zE5, zE6, zE7, zE8, zE9, zE10, zE11, zE12, zE13, zE14, zE15, zE16, zE17, zE18, zE19, zE20, zE21, zE22, zE23, zE24, zE25, zE26, zE27, zE28, zE29, zE30, zE31, zE32, zE33, zE34, zE35, zE36, zE37, zE38, may_some, V.ref.injEq, exists_eq_left', St.get, St.put, List.getElem?_cons_zero, List.getElem?_cons_succ, Option.join_some, List.set_cons_succ, List.set_cons_zero, len_at D.m (show md.length < lim by exact om138 hn hr8 hl20 hfl h5)]
    refine c_pick (d := 6) D.pot hcp (show 0 < md.length by exact om150 h4) (by exact om391 hn hr8 hfl h5) ?_
    intro H14 r14 hr14 hp14 k14 _
    have D := D.pick ord hp14 k14
    obtain ⟨ri, hri⟩ : ∃ x, md[r14]? = some x := ⟨_, List.getElem?_eq_getElem hr14⟩
    have riok := D.mok ri (mem_at hri)
    simp only [zE0, zE1, zE2, zE3, zE4, zE5, zE6, zE7, zE8, zE9, zE10, zE11, zE12, zE13, zE14, zE15, zE16, zE17, zE18, zE19, zE20, zE21, zE22, zE23, zE24, zE25, zE26, zE27, zE28, zE29, zE30, zE31, zE32, zE33, zE34, zE35, zE36, zE37, zE38, may_some, V.ref.injEq, exists_eq_left', St.get, St.put, List.getElem?_cons_zero, List.getElem?_cons_succ, Option.join_some, List.set_cons_succ, List.set_cons_zero, sub_at D.m (show md.length < lim by exact om138 hn hr8 hl20 hfl h5) hri]
    rw [b_expr]
    simp only [zE0, zE1, zE2, zE3, zE4, zE5, zE6, zE7, zE8, zE9, zE10, zE11, zE12, zE13, zE14, zE15, zE16, zE17, zE18, zE19, zE20, zE21, zE22, zE23, zE24, zE25, zE26, zE27, zE28, zE29, zE30, zE31, zE32, zE33, zE34, zE35, zE36, zE37, zE38, may_some, V.ref.injEq, exists_eq_left', St.get, St.put, List.getElem?_cons_zero, List.getElem?_cons_succ, Option.join_some, List.set_cons_succ, List.set_cons_zero]
    refine ⟨isO_at D.g, ?_⟩
    refine c_pick (d := 6) (m := 2) D.pot hcp (by decide) (by decide) ?_
    intro H15 r15 hr15 hp15 k15 _
    have D := D.pick ord hp15 k15
    simp only [bi_xor, may_some]
    refine c_add_output (d := 6) D.g (by exact om373 hr13 hk2 hGo hl20) ?_
    intro H16 hg16 k16 _
    have gg16 := D.gg.out' (l := ri ^^^ r15) (by rw [xor01 hr15]; exact riok)
    have D := D.graph ord hg16 gg16 (Nat.le_refl _) k16
    refine ⟨rfl, ?_⟩
    rw [b_nil]
    apply kn
    exact ⟨_, _, H16, _, rfl, D, hGl, by simp [hGo]; exact om506, by exact om34 hk2⟩
  rintro st ⟨o7, o12, H9, G, rfl, D, hGl, hGo, hk⟩
  rw [ru_len] at hGo
  rw [k_next]
  exact law_end rfl D.g D.gg hn7 hGl (by exact om226 hr13 hGo)
end Mine
end

theorem PySem.Challenge.cw_sj0037_01_holds : PySem.Challenge.rw_sj0037_01.Holds :=
  Mine.join Mine.law_ok
