import PyProof.Rows.All
import Wide.All
import OpenK.AllK
import Wide.FinOn
import KE.KStateDown
import HandS.ForMost
import HandS.ForExc
import HandS.Flow
import HandS.Star
import HandS.Defaults
import HandS.Property
import HandS.OwnEq
import HandS.IsInst
import HandS.Walk
import HandS.DictComp
import HandS.SortRule
import HandS.Deep
import HandS.Head0
import HandS.Head1
import HandS.Head2
import HandS.HeadEnd
import HandS.HeadHook1
import HandS.HeadHook2
import HandS.EndBits
import HandS.Evl
import HandS.Codes
import KE.GoesNew
import KE.GoesMore
import KE.KOpsOwn
import PySem.Challenge.RW_wiresindark_k01_boards
set_option Elab.async false
set_option linter.all false
set_option maxRecDepth 100000
set_option maxHeartbeats 4000000
namespace Wd
open PySem PySem.Spec PyProof.Rows L2
def topS (i : Nat) : Stmt := PySem.Challenge.pw_wiresindark_k01_boards.main.body.getD i (.Pass ⟨0, 0, 0, 0⟩)
abbrev FnP (K : PySem.W.Frag) (x : Str) (st : Stmt) (f : Addr) (fd : FuncData) : Prop := FunD K x x (defArgs st) (defBody st) (defScope st) [] [] f fd

end Wd

namespace Wd
open PySem PySem.Spec PyProof.Rows L2
/-! ### the pot of draws -/
/-- all that is tracked is kept but what stands at a -/
def ExB (a : Addr) (H H' : Hp) : Prop := ∀ b o, b ≠ a → H b = some o → H' b = some o
structure Pot (H : Hp) (a : Addr) (n : Nat) : Prop where
  ex : ∃ o b c : Int, H a = some (.lst [.int o, .int b, .int c]) ∧ 0 ≤ o ∧ 0 ≤ b ∧ b < 2305843009213693951 ∧ 0 ≤ c ∧ c ≤ (n : Int)
/-- what a draw hands back: any number below the bound -/
def spTake : Sp := fun vs H Q _ => ∃ (a : Addr) (n : Nat) (up : Int), vs = [.ref a, .int up] ∧ Pot H a n ∧ n < 1000000 ∧ 0 < up ∧ up < 1000000 ∧
  ∀ (d : Int) (H' : Hp), 0 ≤ d → d < up → Pot H' a (n + 1) → ExB a H H' → Q (.int d) H'
abbrev sTake : Stmt := topS 20
theorem scTake : FnScope ["_law_pot_here", "_law_upto", "_law_digit", "_law_prime", "_law_stirred"] ["_law_pot_here", "_law_upto"] (defScope sTake) :=
  ⟨rfl, rfl, rfl, by decide +kernel, rfl, by decide +kernel, by decide +kernel⟩
section
variable {P : Program} {w : World} {K : PySem.W.Frag} {mg : Str → Option Value} {base : Heap} {f : Addr} {fd : FuncData}
theorem ok_take (F : FnP K "_law_take" sTake f fd) (mI : mg "int" = none) : FnOk P w K mg base CX0 1 f fd ["_law_pot_here", "_law_upto"] spTake := by
  refine F.ok scTake (fun vs H Q E h => ?_) (fun cdv A outer s H vs Q E hr h => ?_)
  · obtain ⟨a, n, up, rfl, _⟩ := h
    rfl
  · obtain ⟨a, n, up, rfl, ⟨o, b, c, hp, ho, hb0, hb, hc0, hc⟩, hn, hu0, hu, k⟩ := h
    refine ⟨_, PSs.nox (pss_cons (ps_if (pt_cmpR op_gt (pe_ix ix_list (pv 0) pe_int (fun _ _ => rfl)) pe_int (nomark _))
        (pss_cons (ps_set (i := 2) scTake.nd rfl (Or.inl rfl) (pe_op op_mod (pe_callTy call_int1 (by rfl) mI boot_int (pa_cons (pe_ix ix_list (pv 0) pe_int (fun _ _ => rfl)) pa_nil)) (pv 1)))
          (pss_cons (ps_asg (pe_op op_fdiv (pe_ix ix_list (pv 0) pe_int (fun _ _ => rfl)) (pv 1)) (pg_sub (pv 0) pe_int set_list))
            (pss_one (ps_ret (pv 2))))) pss_nil)
      (pss_cons (ps_asg (pe_op op_add (pe_ix ix_list (pv 0) pe_int (fun _ _ => rfl)) pe_int) (pg_sub (pv 0) pe_int set_list))
      (pss_cons (ps_set (i := 3) scTake.nd rfl (Or.inl rfl) (pe_ix ix_list (pe_lst (pa_cons pe_int (pa_cons pe_int (pa_cons pe_int (pa_cons pe_int (pa_cons pe_int pa_nil))))))
          (pe_op op_mod (pe_callTy call_int1 (by rfl) mI boot_int (pa_cons (pe_ix ix_list (pv 0) pe_int (fun _ _ => rfl)) pa_nil)) pe_int) (fun _ _ => rfl)))
      (pss_cons (ps_set (i := 4) scTake.nd rfl (Or.inl rfl) (pe_op op_mod (pe_callTy call_int1 (by rfl) mI boot_int (pa_cons (pe_op op_pow (pe_callTy call_int1 (by rfl) mI boot_int (pa_cons
          (pe_op op_add (pe_op op_add (pe_ix ix_list (pv 0) pe_int (fun _ _ => rfl)) (pe_op op_mul (pe_op op_mul pe_int (pe_ix ix_list (pv 0) pe_int (fun _ _ => rfl))) (pe_ix ix_list (pv 0) pe_int (fun _ _ => rfl)))) pe_int) pa_nil)) pe_int) pa_nil)) (pv 3)))
      (pss_cons (ps_set (i := 4) scTake.nd rfl (Or.inl rfl) (pe_op op_mod (pe_callTy call_int1 (by rfl) mI boot_int (pa_cons (pe_op op_mul (pv 4) (pe_op op_add (pe_op op_mod (pe_callTy call_int1 (by rfl) mI boot_int (pa_cons (pv 4) pa_nil)) pe_int)
          (pe_op op_mul pe_int (pe_ix ix_list (pv 0) pe_int (fun _ _ => rfl))))) pa_nil)) pe_int))
      (pss_one (ps_ret (pe_op op_mod (pe_callTy call_int1 (by rfl) mI boot_int (pa_cons (pe_op op_fdiv (pv 4) pe_int) pa_nil)) (pv 1))))))))), ?_⟩
    have hP : ∀ {H1 : Hp} {o1 b1 c1 : Int}, H1 a = some (.lst [.int o1, .int b1, .int c1]) → SqL K H1 a [.int o1, .int b1, .int c1] := fun h => SqL.of h
    -- if pot[0] > 0
    refine ⟨_, rfl, a, _, 0, .int o, rfl, rfl, hP hp, rfl, _, _, rfl, rfl, _, rfl, ?_⟩
    refine ite2 (fun h0 => ?_) (fun h0 => ?_)
    · refine ⟨_, rfl, a, _, 0, .int o, rfl, rfl, hP hp, rfl, .inl ⟨_, rfl, _, rfl, _, _, rfl, rfl, hu0, ?_⟩⟩
      refine ⟨_, rfl, a, _, 0, .int o, rfl, rfl, hP hp, rfl, _, rfl, _, _, rfl, rfl, ⟨hu0, by omega⟩, _, rfl, a, _, 0, 0, rfl, rfl, hp, rfl, ?_⟩
      refine ⟨_, rfl, ?_⟩
      refine k _ _ (Int.emod_nonneg _ (by omega)) (Int.emod_lt_of_pos _ hu0) ⟨⟨_, b, c, upd_same, Int.ediv_nonneg ho (by omega), hb0, hb, hc0, by omega⟩⟩ fun x y hx e => ?_
      rw [upd_ne hx]
      exact e
    · have hn' : ¬ (0 < o) := fun z => h0 (decide_eq_true z)
      -- pot[2] = pot[2] + 1
      refine ⟨_, rfl, a, _, 2, .int c, rfl, rfl, hP hp, rfl, _, _, rfl, rfl, _, rfl, a, _, 2, 2, rfl, rfl, hp, rfl, ?_⟩
      have h1 : (upd H a (.lst [.int o, .int b, .int (c + 1)])) a = some (.lst [.int o, .int b, .int (c + 1)]) := upd_same
      -- prime = [..][int(pot[2]) % 5]
      refine ⟨by show (5 : Nat) ≤ sizeLine; decide, fun l hl => ?_⟩
      have hla : a ≠ l := ne_of_none h1 hl
      have h2 : ∀ u, (upd (upd H a (.lst [.int o, .int b, .int (c + 1)])) l u) a = some (.lst [.int o, .int b, .int (c + 1)]) := fun u => by
        rw [upd_ne hla]
        exact h1
      refine ⟨_, rfl, a, _, 2, .int (c + 1), rfl, rfl, hP (h2 _), rfl, .inl ⟨_, rfl, _, _, rfl, rfl, by show (0 : Int) < 5; decide, ?_⟩⟩
      obtain ⟨pr, hpr0, hpr⟩ : ∃ pr : Int, 0 < pr ∧ atI [V.int 2147483647, V.int 2147483629, V.int 2147483587, V.int 2147483579, V.int 2147483563] ((c + 1) % 5) = some (.int pr) := by
        have e1 : 0 ≤ (c + 1) % 5 := Int.emod_nonneg _ (by omega)
        have e2 : (c + 1) % 5 < 5 := Int.emod_lt_of_pos _ (by omega)
        have : (c + 1) % 5 = 0 ∨ (c + 1) % 5 = 1 ∨ (c + 1) % 5 = 2 ∨ (c + 1) % 5 = 3 ∨ (c + 1) % 5 = 4 := by omega
        rcases this with e | e | e | e | e <;> rw [e]
        · exact ⟨2147483647, by decide, rfl⟩
        · exact ⟨2147483629, by decide, rfl⟩
        · exact ⟨2147483587, by decide, rfl⟩
        · exact ⟨2147483579, by decide, rfl⟩
        · exact ⟨2147483563, by decide, rfl⟩
      refine ⟨l, _, _, .int pr, rfl, rfl, SqL.of upd_same, hpr, ?_⟩
      have b1 : (101107 : Int) * (c + 1) * (c + 1) ≤ 101107 * 1000000 * 1000000 := Int.mul_le_mul (Int.mul_le_mul_of_nonneg_left (by omega) (by omega)) (by omega) (by omega) (by omega)
      have b0 : (0 : Int) ≤ 101107 * (c + 1) * (c + 1) := Int.mul_nonneg (by omega) (by omega)
      -- stirred
      refine ⟨_, rfl, a, _, 1, .int b, rfl, rfl, hP (h2 _), rfl, _, rfl, a, _, 2, .int (c + 1), rfl, rfl, hP (h2 _), rfl, _, _, rfl, rfl, .inl ⟨by decide, by decide⟩,
        _, rfl, a, _, 2, .int (c + 1), rfl, rfl, hP (h2 _), rfl, _, _, rfl, rfl, .inr ⟨by omega, by omega⟩, _, _, rfl, rfl, _, _, rfl, rfl, .inl ⟨_, rfl, _, _, rfl, rfl, ⟨by decide, by decide, by omega⟩, .inl ⟨_, rfl, _, rfl, _, _, rfl, rfl, hpr0, ?_⟩⟩⟩
      generalize hz : (b + 101107 * (c + 1) * (c + 1) + 43) ^ (3 : Int).toNat % pr = z
      have z0 : 0 ≤ z := by rw [← hz]; exact Int.emod_nonneg _ (by omega)
      have z1 : z < 2147483648 := by
        have : z < pr := by rw [← hz]; exact Int.emod_lt_of_pos _ hpr0
        have : pr ≤ 2147483647 := by
          have e1 : 0 ≤ (c + 1) % 5 := Int.emod_nonneg _ (by omega)
          have e2 : (c + 1) % 5 < 5 := Int.emod_lt_of_pos _ (by omega)
          have : (c + 1) % 5 = 0 ∨ (c + 1) % 5 = 1 ∨ (c + 1) % 5 = 2 ∨ (c + 1) % 5 = 3 ∨ (c + 1) % 5 = 4 := by omega
          rcases this with e | e | e | e | e <;> rw [e] at hpr <;> (have q : V.int _ = V.int pr := Option.some.inj hpr) <;> (injection q with q) <;> omega
        omega
      refine ⟨_, rfl, _, rfl, .inl ⟨_, rfl, _, _, rfl, rfl, by show (0 : Int) < 10061; decide, _, rfl, a, _, 2, .int (c + 1), rfl, rfl, hP (h2 _), rfl, _, _, rfl, rfl, .inl ⟨by decide, by decide⟩, _, _, rfl, rfl, _, _, rfl, rfl, .inl ⟨by omega, by omega⟩,
        .inl ⟨_, rfl, _, _, rfl, rfl, by show (0 : Int) < 2305843009213693907; decide, ?_⟩⟩⟩
      refine ⟨_, rfl, _, _, rfl, rfl, ⟨by decide, by decide⟩, .inl ⟨_, rfl, _, rfl, _, _, rfl, rfl, hu0, ?_⟩⟩
      refine k _ _ (Int.emod_nonneg _ (by omega)) (Int.emod_lt_of_pos _ hu0) ⟨⟨o, b, c + 1, h2 _, ho, hb0, hb, by omega, by omega⟩⟩ fun x y hx e => ?_
      rw [upd_ne (ne_of_none (H := upd H a (.lst [.int o, .int b, .int (c + 1)])) (by rw [upd_ne hx]; exact e) hl), upd_ne hx]
      exact e
end
end Wd

namespace Wd
open PySem PySem.Spec PyProof.Rows L2
/-! ### a cell's pot -/
section
variable {X : Cx}
/-- i ** j where the base may be wide -/
def CPowW (i j : Int) : Prop := 0 ≤ j ∧ (Builtin.Int.intBits i : Int) * j ≤ 2 ^ 27
theorem op_powW : OpR X (binaryOp .Pow) (rI CPowW fun i j => .int (i ^ j.toNat)) := opI fun _ _ _ _ _ _ _ hc q => pow_int hc.1 hc.2 q
end
def spPot (K : PySem.W.Frag) : Sp := fun vs H Q _ => ∃ (a : Addr) (ns : List Int) (j : Nat), vs = [.ref a, .int (j : Int)] ∧ SqL K H a (ns.map V.int) ∧ j < 1000 ∧
  ∀ (p : Addr) (H' : Hp), H p = none → Same H H' → Pot H' p 0 → Q (.ref p) H'
abbrev sPot : Stmt := topS 19
theorem scPot : FnScope ["_law_script", "_law_number", "_law_cell", "_law_own", "_law_base"] ["_law_script", "_law_number"] (defScope sPot) := ⟨rfl, rfl, rfl, by decide +kernel, rfl, by decide +kernel, by decide +kernel⟩
section
variable {P : Program} {w : World} {K : PySem.W.Frag} {mg : Str → Option Value} {base : Heap} {f : Addr} {fd : FuncData}
theorem ok_pot (F : FnP K "_law_pot" sPot f fd) (mI : mg "int" = none) (mL : mg "len" = none) (mA : mg "abs" = none) : FnOk P w K mg base CX0 1 f fd ["_law_script", "_law_number"] (spPot K) := by
  refine F.ok scPot (fun vs H Q E h => ?_) (fun cdv A outer s H vs Q E hr h => ?_)
  · obtain ⟨a, ns, j, rfl, _⟩ := h
    rfl
  · obtain ⟨a, ns, j, rfl, hS, hj, k⟩ := h
    refine ⟨_, PSs.nox (Evl.pss_cut (ps_set (i := 2) scPot.nd rfl (Or.inl rfl) (pe_ifExp (pt_cmpR op_lt (pv 1) (pe_callB call_len_seq (by rfl) mL PySem.boot_len (pa_cons (pv 0) pa_nil)) (nomark _))
          (pe_ix ix_list (pv 0) (pv 1) (fun _ _ => rfl)) (pe_op op_add (pe_op op_mul pe_int (pv 1)) pe_int)))
      (pss_cons (ps_set (i := 3) scPot.nd rfl (Or.inl rfl) (pe_op op_mul (pe_op op_mod (pe_callTy call_int1 (by rfl) mI boot_int (pa_cons (pe_callB call_abs (by rfl) mA boot_abs (pa_cons (pv 2) pa_nil)) pa_nil))
          (pe_op op_powW (pe_op op_pow pe_int pe_int) pe_int)) (pe_callTy call_int1 (by rfl) mI boot_int (pa_cons (pe_cmpR op_ge (pe_callB call_abs (by rfl) mA boot_abs (pa_cons (pv 2) pa_nil)) (pe_op op_pow pe_int pe_int) (nomark _)) pa_nil))))
      (pss_cons (ps_set (i := 4) scPot.nd rfl (Or.inl rfl) (pe_op op_add (pe_op op_add (pe_op op_mul (pe_op op_mod (pe_callTy call_int1 (by rfl) mI boot_int (pa_cons (pv 2) pa_nil)) pe_int) pe_int) (pe_op op_mul (pe_op op_mul pe_int (pv 1)) (pv 1))) pe_int))
      (pss_one (ps_ret (pe_lst (pa_cons (pv 3) (pa_cons (pe_op op_mod (pe_callTy call_int1 (by rfl) mI boot_int (pa_cons (pv 4) pa_nil)) pe_int) (pa_cons pe_int pa_nil))))))))), ?_⟩
    refine ⟨fun σ' H' => H' = H ∧ ∃ c : Int, σ' = [some (.ref a), some (.int (j : Int)), some (.int c), none, none], ?_, ?_⟩
    · refine ⟨_, rfl, _, rfl, a, _, rfl, .inl hS, _, _, rfl, rfl, _, rfl, ?_⟩
      refine ite2 (fun h0 => ?_) (fun h0 => ?_)
      · have hl : j < (ns.map V.int).length := by
          have := of_decide_eq_true h0
          omega
        have e : (ns.map V.int)[j]? = some (.int (ns.getD j 0)) := by
          rw [List.length_map] at hl
          rw [List.getElem?_map, List.getElem?_eq_getElem hl, List.getD_eq_getElem?_getD, List.getElem?_eq_getElem hl]
          rfl
        exact ⟨_, rfl, _, rfl, a, _, _, _, rfl, rfl, hS, atI_nat e, rfl, _, rfl⟩
      · exact ⟨_, rfl, _, _, rfl, rfl, .inl ⟨by decide, by decide⟩, _, _, rfl, rfl, rfl, _, rfl⟩
    · rintro σ' H' ⟨hH, c, hσ⟩
      subst hσ
      subst hH
      have big : (0 : Int) < (10 ^ (60 : Int).toNat) ^ (5 : Int).toNat := by decide +kernel
      refine ⟨_, rfl, _, rfl, .inl ⟨_, rfl, _, _, rfl, rfl, ⟨by decide, by decide, by decide⟩, _, _, rfl, rfl, ⟨by decide, by decide +kernel⟩, _, _, rfl, rfl, big, ?_⟩⟩
      refine ⟨_, rfl, _, rfl, _, _, rfl, rfl, ⟨by decide, by decide, by decide⟩, _, _, rfl, rfl, .inr ⟨_, rfl, ?_⟩⟩
      generalize hk : decide ((10 : Int) ^ (18 : Int).toNat ≤ if c < 0 then -c else c) = kk
      generalize ho : (if c < 0 then -c else c) % (10 ^ (60 : Int).toNat) ^ (5 : Int).toNat = oo
      have o0 : 0 ≤ oo := by rw [← ho]; exact Int.emod_nonneg _ (Int.ne_of_gt big)
      refine ⟨_, _, rfl, rfl, .inr (by cases kk <;> exact ⟨by decide, by decide⟩), ?_⟩
      have o1 : 0 ≤ oo * (if kk = true then 1 else 0) := by cases kk <;> simp <;> omega
      have c1 : 0 ≤ c % 2305843009213693951 := Int.emod_nonneg _ (by decide)
      have c2 : c % 2305843009213693951 < 2305843009213693951 := Int.emod_lt_of_pos _ (by decide)
      refine ⟨_, rfl, .inl ⟨_, rfl, _, _, rfl, rfl, by show (0 : Int) < 2305843009213693951; decide, _, _, rfl, rfl, .inl ⟨by omega, by omega⟩, _, rfl, _, _, rfl, rfl, .inl ⟨by decide, by decide⟩, _, rfl, _, _, rfl, rfl, .inr ⟨by omega, by omega⟩, _, _, rfl, rfl, _, _, rfl, rfl, ?_⟩⟩
      refine ⟨_, rfl, _, rfl, .inl ⟨_, rfl, _, _, rfl, rfl, by show (0 : Int) < 2305843009213693921; decide, ?_⟩⟩
      refine ⟨by show (3 : Nat) ≤ sizeLine; decide, fun p hp => ?_⟩
      refine k p _ hp (fun b o e => ?_) ⟨⟨_, _, 0, upd_same, (by rw [ho]; exact o1), Int.emod_nonneg _ (by decide), ?_, by decide, by decide⟩⟩
      · rw [upd_ne (ne_of_none e hp)]
        exact e
      · have := Int.emod_lt_of_pos (c % 2305843009213693951 * 68023 + 7103 * (j : Int) * (j : Int) + 71) (b := 2305843009213693921) (by decide)
        omega
end
end Wd

namespace Wd
open PySem PySem.Spec PyProof.Rows L2
theorem ExB.refl (a : Addr) (H : Hp) : ExB a H H := fun _ _ _ h => h
theorem ExB.trans {a : Addr} {H H1 H2 : Hp} (x : ExB a H H1) (y : ExB a H1 H2) : ExB a H H2 := fun b o hb h => y b o hb (x b o hb h)
theorem ExB.new {a p : Addr} {o : HO} {H : Hp} (h : H p = none) : ExB a H (upd H p o) := fun b u _ e => by
  rw [upd_ne (ne_of_none e h)]
  exact e
/-- what H did not know may change -/
theorem ExB.mut {a p : Addr} {o : HO} {H H1 : Hp} (x : ExB a H H1) (h : H p = none) : ExB a H (upd H1 p o) := fun b u hb e => by
  rw [upd_ne (ne_of_none e h)]
  exact x b u hb e
theorem ExB.of {a : Addr} {H H1 : Hp} (x : Same H H1) : ExB a H H1 := fun b u _ e => x b u e
theorem ExB.sqL {K : PySem.W.Frag} {a l : Addr} {H H1 : Hp} {xs : List V} (x : ExB a H H1) (hl : l ≠ a) (h : SqL K H l xs) : SqL K H1 l xs := by
  rcases h with (h | ⟨o, h⟩) | h
  · exact .inl (.inl (x _ _ hl h))
  · exact .inl (.inr ⟨o, x _ _ hl h⟩)
  · exact .inr h
theorem ExB.sqT {K : PySem.W.Frag} {a l : Addr} {H H1 : Hp} {xs : List V} (x : ExB a H H1) (hl : l ≠ a) (h : SqT K H l xs) : SqT K H1 l xs := by
  rcases h with (h | ⟨o, h⟩) | h
  · exact .inl (.inl (x _ _ hl h))
  · exact .inl (.inr ⟨o, x _ _ hl h⟩)
  · exact .inr h
theorem Pot.more {H : Hp} {a : Addr} {n m : Nat} (p : Pot H a n) (h : n ≤ m) : Pot H a m := by
  obtain ⟨o, b, c, e, h1, h2, h3, h4, h5⟩ := p
  exact ⟨o, b, c, e, h1, h2, h3, h4, by omega⟩
theorem Pot.ne {H : Hp} {a p : Addr} {n : Nat} (x : Pot H a n) (h : H p = none) : a ≠ p := by
  obtain ⟨o, b, c, e, _⟩ := x
  exact ne_of_none e h
theorem Pot.upd {H : Hp} {a p : Addr} {n : Nat} {o : HO} (x : Pot H a n) (h : a ≠ p) : Pot (L2.upd H p o) a n := by
  obtain ⟨o, b, c, e, r⟩ := x
  exact ⟨o, b, c, by rw [upd_ne h]; exact e, r⟩

/-! ### one of some things -/
def spOf (K : PySem.W.Frag) : Sp := fun vs H Q _ => ∃ (a l : Addr) (n : Nat) (xs : List V), vs = [.ref a, .ref l] ∧ Pot H a n ∧ n < 1000000 ∧ SqL K H l xs ∧ l ≠ a ∧ 0 < xs.length ∧ xs.length < 1000000 ∧
  ∀ (v : V) (H' : Hp), v ∈ xs → Pot H' a (n + 1) → ExB a H H' → Q v H'
abbrev sOf : Stmt := topS 21
theorem scOf : FnScope ["_law_pot_here", "_law_some"] ["_law_pot_here", "_law_some"] (defScope sOf) := ⟨rfl, rfl, rfl, by decide +kernel, rfl, by decide +kernel, by decide +kernel⟩
/-- what the draws lean on: where _law_take stands -/
structure Dr (P : Program) (w : World) (K : PySem.W.Frag) (mg : Str → Option Value) (base : Heap) where
  f : Addr
  fd : FuncData
  ok : FnOk P w K mg base CX0 1 f fd ["_law_pot_here", "_law_upto"] spTake
  mg : mg "_law_take" = some (.ref f)
  kp : PySem.W.keepIn K (.ref f) = true
  b : Binds K fd ["_law_pot_here", "_law_upto"] []
section
variable {P : Program} {w : World} {K : PySem.W.Frag} {mg : Str → Option Value} {base : Heap} {f : Addr} {fd : FuncData}
theorem ok_of (F : FnP K "_law_of" sOf f fd) (D : Dr P w K mg base) (mL : mg "len" = none) : FnOk P w K mg base CX0 2 f fd ["_law_pot_here", "_law_some"] (spOf K) := by
  refine F.ok scOf (fun vs H Q E h => ?_) (fun cdv A outer s H vs Q E hr h => ?_)
  · obtain ⟨a, l, n, xs, rfl, _⟩ := h
    rfl
  · obtain ⟨a, l, n, xs, rfl, hp, hn, hl, hla, h0, h1, k⟩ := h
    refine ⟨_, PSs.nox (pss_one (ps_ret (pe_ix ix_list (pv 1) (pe_call D.ok hr (by rfl) D.mg D.kp D.b .nil pass0 (pa_cons (pv 0) (pa_cons (pe_callB call_len_seq (by rfl) mL PySem.boot_len (pa_cons (pv 1) pa_nil)) pa_nil))) (fun _ _ => rfl)))), ?_⟩
    refine ⟨_, rfl, _, rfl, _, rfl, l, _, rfl, .inl hl, a, n, _, rfl, hp, hn, by omega, by omega, fun d H' d0 d1 hp' x => ?_⟩
    obtain ⟨j, rfl⟩ : ∃ j : Nat, d = (j : Int) := ⟨d.toNat, by omega⟩
    have hj : j < xs.length := by omega
    exact ⟨l, _, _, xs[j], rfl, rfl, x.sqL hla hl, atI_nat (List.getElem?_eq_getElem hj), k _ _ (List.getElem_mem hj) hp' x⟩
end

/-! ### the rows of a board -/
abbrev cd (b : Bool) : Nat := if b then 111 else 46
/-- a row's text: o for a dot, . for none -/
def rowS (r : List Bool) : Str := SX.S (r.map cd)
/-- the rows of a board of this size -/
structure Brd (g : List (List Bool)) (t w : Nat) : Prop where
  tall : g.length = t
  wide : ∀ r ∈ g, r.length = w
  inRow : ∀ r ∈ g, true ∈ r
  inCol : ∀ c, c < w → ∃ r ∈ g, r[c]? = some true
  t1 : 1 ≤ t
  t10 : t ≤ 10
  w1 : 1 ≤ w
  w10 : w ≤ 10
def rowsV (g : List (List Bool)) : List V := g.map fun r => V.str (rowS r)
/-- the diagonals of a row are there -/
def Diag (t w k : Nat) (bs : List Bool) : Prop := ∀ c, c < bs.length → (k % w = c ∨ c % t = k) → bs[c]? = some true
theorem joinL_flat : ∀ ls : List (List Nat), TL.joinL [] ls = ls.flatten
  | [] => rfl
  | [x] => by simp [TL.joinL]
  | x :: y :: r => by
    show x ++ ([] ++ TL.joinL [] (y :: r)) = _
    rw [joinL_flat (y :: r), List.nil_append]
    rfl
theorem flat_ones (bs : List Bool) : (bs.map fun b => [cd b]).flatten = bs.map cd := by
  induction bs with
  | nil => rfl
  | cons b r ih => rw [List.map_cons, List.flatten_cons, ih, List.map_cons, List.singleton_append]
theorem join_signs (bs : List Bool) : Txt.join (SX.S []) ((bs.map fun b => [cd b]).map SX.S) = rowS bs := by
  rw [SX.join_S, joinL_flat, flat_ones]
  rfl
theorem sum_ones (bs : List Bool) : (((bs.map fun b => [cd b]).map SX.S).map (·.length)).sum = bs.length := by
  rw [SX.lens]
  induction bs with
  | nil => rfl
  | cons b r ih =>
    rw [List.map_cons, List.map_cons, List.sum_cons, ih, List.length_cons]
    exact Nat.add_comm _ _

def spRows : Sp := fun vs H Q _ => ∃ (a : Addr) (n t w : Nat), vs = [.ref a, .int (t : Int), .int (w : Int)] ∧ Pot H a n ∧ n < 990000 ∧ 1 ≤ t ∧ t ≤ 10 ∧ 1 ≤ w ∧ w ≤ 10 ∧
  ∀ (p : Addr) (g : List (List Bool)) (H' : Hp), H p = none → H' p = some (.tup (rowsV g)) → Brd g t w → Pot H' a (n + 101) → ExB a H H' → Q (.ref p) H'
abbrev sRows : Stmt := topS 22
abbrev nmRows : List Str := ["_law_pot_here", "_law_tall", "_law_wide", "_law_way", "_law_rows_here", "_law_row", "_law_marks", "_law_column", "_law_is_there"]
theorem scRows : FnScope nmRows ["_law_pot_here", "_law_tall", "_law_wide"] (defScope sRows) := ⟨rfl, rfl, rfl, by decide +kernel, rfl, by decide +kernel, by decide +kernel⟩
section
variable {P : Program} {w : World} {K : PySem.W.Frag} {mg : Str → Option Value} {base : Heap} {f : Addr} {fd : FuncData}
theorem ok_rows (F : FnP K "_law_rows" sRows f fd) (D : Dr P w K mg base) (mR : mg "range" = none) (mI : mg "int" = none) (mM : mg "max" = none) (mT : mg "tuple" = none) :
    FnOk P w K mg base CX0 2 f fd ["_law_pot_here", "_law_tall", "_law_wide"] spRows := by
  refine F.ok scRows (fun vs H Q E h => ?_) (fun cdv A outer s H vs Q E hr h => ?_)
  · obtain ⟨a, n, t, w, rfl, _⟩ := h
    rfl
  · obtain ⟨a, n, t, wd, rfl, hp, hn, t1, t10, w1, w10, k⟩ := h
    refine ⟨_, PSs.nox (pss_cons (ps_par (i := 3) (j := 4) (by rfl) scRows.nd rfl rfl (by decide) rfl rfl (pa_cons (pe_call D.ok hr (by rfl) D.mg D.kp D.b .nil pass0 (pa_cons (pv 0) (pa_cons pe_int pa_nil))) (pa_cons (pe_lst pa_nil) pa_nil)) (by rfl))
      (pss_cons (ps_for PassesOwn.never rfl (pi_range1 (by rfl) mR (pa_cons (pv 1) pa_nil)) (pg_name (i := 5) scRows.nd rfl (Or.inl rfl))
        (pss_cons (ps_set (i := 6) scRows.nd rfl (Or.inl rfl) (pe_lst pa_nil))
        (pss_cons (ps_for PassesOwn.never rfl (pi_range1 (by rfl) mR (pa_cons (pv 2) pa_nil)) (pg_name (i := 7) scRows.nd rfl (Or.inl rfl))
          (Evl.pss_cut (ps_set (i := 8) scRows.nd rfl (Or.inl rfl) (pe_or (pe_cmpR op_lt (pv 3) pe_int (nomark _)) (pe_or
              (pe_cmpR op_lt (pe_op op_mod (pe_op op_add (pv 5) (pv 7)) (pe_callB (call_max2 rfl) (by rfl) mM boot_max (pa_cons (pe_callTy call_int1 (by rfl) mI boot_int (pa_cons (pv 1) pa_nil)) (pa_cons (pe_callTy call_int1 (by rfl) mI boot_int (pa_cons (pv 2) pa_nil)) pa_nil)))) pe_int (nomark _))
              (pe_one (pe_and (pe_cmpR op_eq (pv 3) pe_int (nomark _)) (pe_one (pe_cmpR op_gt (pe_call D.ok hr (by rfl) D.mg D.kp D.b .nil pass0 (pa_cons (pv 0) (pa_cons pe_int pa_nil))) pe_int (nomark _))))))))
          (pss_one (ps_expr (pe_bm PySem.F.plainAttrs_list PySem.F.slot_list_append PySem.F.type_list_append mt_append (pv 6) (pa_cons
            (pe_ifExp (PW.pt (pw_or (pt_val (pv 8)) (pw_or (pt_cmpR op_eq (pe_op op_mod (pv 5) (pv 2)) (pv 7) (nomark _)) (pw_or1 (pt_cmpR op_eq (pe_op op_mod (pv 7) (pv 1)) (pv 5) (nomark _)))))) pe_str pe_str) pa_nil))))))
        (pss_one (ps_expr (pe_bm PySem.F.plainAttrs_list PySem.F.slot_list_append PySem.F.type_list_append mt_append (pv 4) (pa_cons (pe_join pe_str (pv 6)) pa_nil)))))))
      (pss_one (ps_ret (pe_callTy call_tuple_of (by rfl) mT boot_tuple (pa_cons (pv 4) pa_nil)))))), ?_⟩
    -- way, rows = take(pot, 4), []
    refine ⟨_, rfl, a, n, 4, rfl, hp, by omega, by decide, by decide, fun way H1 y0 y1 hp1 x1 => ?_⟩
    refine ⟨by decide, fun rl hrl => ⟨_, _, rfl, ?_⟩⟩
    have nrl : H rl = none := by
      cases e : H rl with
      | none => rfl
      | some o =>
        by_cases ha : rl = a
        · rw [ha] at hrl
          exact absurd rfl (hp1.ne hrl)
        · rw [x1 rl o ha e] at hrl
          cases hrl
    have arl : a ≠ rl := hp1.ne hrl
    refine ⟨_, rfl, (t : Int), rfl, by omega, by omega, for_range (lo := 0) (n := (t : Int).toNat) (fun i σ' H' => ∃ (gs : List (List Bool)) (m : Nat) (v5 v6 v7 v8 : Option V), σ' = [some (.ref a), some (.int (t : Int)), some (.int (wd : Int)), some (.int way), some (.ref rl), v5, v6, v7, v8] ∧
        Pot H' a m ∧ m ≤ n + 1 + i * wd ∧ ExB a H H' ∧ H' rl = some (.lst (rowsV gs)) ∧ gs.length = i ∧ (∀ r ∈ gs, r.length = wd) ∧ ∀ j r, gs[j]? = some r → Diag t wd j r) ?_ ?_ ?_⟩
    · exact ⟨[], n + 1, none, none, none, none, rfl, hp1.upd arl, by omega, x1.mut nrl, upd_same, rfl, (fun r hr => nomatch hr), (fun j r hr => by simp at hr)⟩
    · rintro i σ' H' hi ⟨gs, m, v5, v6, v7, v8, rfl, pm, hm, x2, hr2, gl, gw, gd⟩
      have hi' : i < t := by omega
      have him : i * wd ≤ 9 * 10 := Nat.mul_le_mul (by omega) w10
      -- marks = []
      refine ⟨by decide, fun ml hml => ?_⟩
      have aml : a ≠ ml := pm.ne hml
      have rml : rl ≠ ml := ne_of_none hr2 hml
      have nml : H ml = none := by
        cases e : H ml with
        | none => rfl
        | some o =>
          rw [x2 ml o (Ne.symm aml) e] at hml
          cases hml
      refine ⟨_, rfl, (wd : Int), rfl, by omega, by omega, for_range (lo := 0) (n := (wd : Int).toNat) (fun j σ' H' => ∃ (bs : List Bool) (m : Nat) (v7 v8 : Option V), σ' = [some (.ref a), some (.int (t : Int)), some (.int (wd : Int)), some (.int way), some (.ref rl), some (.int (0 + (i : Int))), some (.ref ml), v7, v8] ∧
        Pot H' a m ∧ m ≤ n + 1 + i * wd + j ∧ ExB a H H' ∧ H' rl = some (.lst (rowsV gs)) ∧ H' ml = some (.lst ((bs.map fun b => SX.S [cd b]).map V.str)) ∧ bs.length = j ∧ Diag t wd i bs) ?_ ?_ ?_⟩
      · exact ⟨[], m, v7, v8, rfl, pm.upd aml, by omega, x2.mut nml, by rw [upd_ne rml]; exact hr2, upd_same, rfl, fun c hc => by simp at hc⟩
      · rintro j σ' H' hj ⟨bs, m, v7, v8, rfl, pm, hm, x2, hr2, hml2, bl, bd⟩
        have hj' : j < wd := by omega
        -- is_there = ..
        refine ⟨fun σ' H' => ∃ (b : Bool) (m : Nat), σ' = [some (.ref a), some (.int (t : Int)), some (.int (wd : Int)), some (.int way), some (.ref rl), some (.int (0 + (i : Int))), some (.ref ml), some (.int (0 + (j : Int))), some (.bl b)] ∧
          Pot H' a m ∧ m ≤ n + 1 + i * wd + (j + 1) ∧ ExB a H H' ∧ H' rl = some (.lst (rowsV gs)) ∧ H' ml = some (.lst ((bs.map fun b => SX.S [cd b]).map V.str)), ?_, ?_⟩
        · refine ⟨_, rfl, _, _, rfl, rfl, _, rfl, ?_⟩
          refine ite2 (fun _ => ⟨_, m, rfl, pm, by omega, x2, hr2, hml2⟩) (fun _ => ?_)
          refine ⟨_, rfl, _, rfl, _, _, rfl, rfl, _, rfl, .inl ⟨_, rfl, _, rfl, .inl ⟨_, rfl, _, _, rfl, _, _, rfl, rfl, ?_, _, _, rfl, rfl, _, rfl, ?_⟩⟩⟩
          · show (0 : Int) < if (wd : Int) > (t : Int) then (wd : Int) else (t : Int)
            split <;> omega
          · refine ite2 (fun _ => ⟨_, m, rfl, pm, by omega, x2, hr2, hml2⟩) (fun _ => ?_)
            refine ⟨_, rfl, rfl, _, rfl, ?_⟩
            refine ite2 (fun _ => ?_) (fun _ => ⟨_, m, rfl, pm, by omega, x2, hr2, hml2⟩)
            refine ⟨_, rfl, a, m, 3, rfl, pm, by omega, by decide, by decide, fun d H3 d0 d1 p3 x3 => ?_⟩
            exact ⟨_, _, rfl, rfl, _, m + 1, rfl, p3, by omega, x2.trans x3, x3 _ _ (Ne.symm arl) hr2, x3 _ _ (Ne.symm aml) hml2⟩
        · rintro σ' H' ⟨b, m, rfl, pm, hm, x2, hr2, hml2⟩
          -- marks.append(..)
          refine ⟨_, rfl, .inl ⟨rfl, _, SqL.of hml2⟩, ?_⟩
          have fin : ∀ b2 : Bool, (b2 = true ∨ ¬ (i % wd = j ∨ j % t = i)) → ∃ l xs y, V.ref ml = .ref l ∧ [V.str (SX.S [cd b2])] = [y] ∧ H' l = some (.lst xs) ∧ xs.length < sizeLine ∧
              ∃ (bs : List Bool) (m : Nat) (v7 v8 : Option V), ([some (.ref a), some (.int (t : Int)), some (.int (wd : Int)), some (.int way), some (.ref rl), some (.int (0 + (i : Int))), some (.ref ml), some (.int (0 + (j : Int))), some (.bl b)] : L2.St) = [some (.ref a), some (.int (t : Int)), some (.int (wd : Int)), some (.int way), some (.ref rl), some (.int (0 + (i : Int))), some (.ref ml), v7, v8] ∧
                Pot (upd H' l (.lst (xs ++ [y]))) a m ∧ m ≤ n + 1 + i * wd + (j + 1) ∧ ExB a H (upd H' l (.lst (xs ++ [y]))) ∧ (upd H' l (.lst (xs ++ [y]))) rl = some (.lst (rowsV gs)) ∧ (upd H' l (.lst (xs ++ [y]))) ml = some (.lst ((bs.map fun b => SX.S [cd b]).map V.str)) ∧ bs.length = j + 1 ∧ Diag t wd i bs := fun b2 hb => by
            refine ⟨ml, _, _, rfl, rfl, hml2, ?_, bs ++ [b2], m, _, _, rfl, pm.upd aml, hm, x2.mut nml, ?_, ?_, ?_, ?_⟩
            · rw [List.length_map, List.length_map, bl]
              exact small1000 (by omega)
            · rw [upd_ne rml]
              exact hr2
            · rw [upd_same, List.map_append, List.map_append]
              rfl
            · rw [List.length_append, bl]
              rfl
            · intro c hc hd
              rw [List.length_append, bl] at hc
              have hc' : c < j + 1 := hc
              by_cases e : c < bs.length
              · rw [List.getElem?_append_left e]
                exact bd c e hd
              · have ec : c = j := by omega
                subst ec
                rw [List.getElem?_append_right (by omega), bl, Nat.sub_self]
                rcases hb with hb | hb
                · rw [hb]
                  rfl
                · exact absurd hd hb
          have em : ∀ (x y : Nat), (0 + (x : Int)) % (y : Int) = ((x % y : Nat) : Int) := fun x y => by rw [Int.zero_add]; exact (Int.natCast_emod x y).symm
          refine ⟨_, rfl, b, rfl, ?_⟩
          refine ite2 (fun hb => fin true (Or.inl rfl)) (fun hb => ?_)
          refine ⟨_, rfl, _, rfl, _, _, rfl, rfl, by omega, _, rfl, rfl, _, rfl, ?_⟩
          refine ite2 (fun h1 => fin true (Or.inl rfl)) (fun h1 => ?_)
          refine ⟨_, rfl, _, rfl, _, _, rfl, rfl, by omega, _, rfl, rfl, _, rfl, ?_⟩
          refine ite2 (fun h2 => fin true (Or.inl rfl)) (fun h2 => fin false (Or.inr fun z => ?_))
          rcases z with z | z
          · refine h1 (decide_eq_true ?_)
            show V.int ((0 + (i : Int)) % (wd : Int)) = _
            rw [em, z, Int.zero_add]
          · refine h2 (decide_eq_true ?_)
            show V.int ((0 + (j : Int)) % (t : Int)) = _
            rw [em, z, Int.zero_add]
      · rintro σ' H' ⟨bs, m, v7, v8, rfl, pm, hm, x2, hr2, hml2, bl, bd⟩
        have bl' : bs.length = wd := by omega
        -- rows.append(''.join(marks))
        have hml3 : H' ml = some (.lst (((bs.map fun b => [cd b]).map SX.S).map V.str)) := by
          rw [hml2]
          simp only [List.map_map]
          rfl
        refine ⟨_, rfl, .inl ⟨rfl, _, SqL.of hr2⟩, ⟨_, rfl⟩, _, rfl, _, ml, _, rfl, rfl, .inl (SqL.of hml3), ?_, rl, _, _, rfl, rfl, hr2, ?_, ?_⟩
        · rw [sum_ones, List.length_map, List.length_map]
          show bs.length + bs.length * 0 ≤ 16777216
          omega
        · unfold rowsV
          rw [List.length_map, gl]
          exact small1000 (by omega)
        · refine ⟨gs ++ [bs], m, _, _, _, _, rfl, pm.upd arl, ?_, x2.mut nrl, ?_, ?_, ?_, ?_⟩
          · rw [Nat.add_mul]
            omega
          · rw [upd_same]
            unfold rowsV
            rw [List.map_append]
            have e := join_signs bs
            show some (HO.lst (List.map (fun r => V.str (rowS r)) gs ++ [V.str (Txt.join (SX.S []) ((bs.map fun b => [cd b]).map SX.S))])) = _
            rw [e]
            rfl
          · rw [List.length_append, gl]
            rfl
          · intro r hr
            rcases List.mem_append.mp hr with h | h
            · exact gw r h
            · rw [List.mem_singleton.mp h]
              exact bl'
          · intro j r hj
            by_cases e : j < gs.length
            · rw [List.getElem?_append_left e] at hj
              exact gd j r hj
            · rw [List.getElem?_append_right (by omega)] at hj
              have ej : j - gs.length = 0 := by
                have := (List.getElem?_eq_some_iff.mp hj).1
                simp at this
                omega
              rw [ej] at hj
              cases hj
              have : j = i := by omega
              rw [this]
              exact bd
    · rintro σ' H' ⟨gs, m, v5, v6, v7, v8, rfl, pm, hm, x2, hr2, gl, gw, gd⟩
      have gl' : gs.length = t := by omega
      have him : t * wd ≤ 10 * 10 := Nat.mul_le_mul t10 w10
      -- return tuple(rows)
      refine ⟨_, rfl, rl, _, rfl, .inl ⟨SqL.of hr2, fun p hp2 => ?_⟩⟩
      have et : (t : Int).toNat = t := by omega
      rw [et] at hm
      refine k p gs _ ?_ upd_same ⟨gl', gw, fun r hr => ?_, fun c hc => ?_, t1, t10, w1, w10⟩ ((pm.upd (pm.ne hp2)).more (by omega)) (x2.trans (ExB.new hp2))
      · cases e : H p with
        | none => rfl
        | some o =>
          rw [x2 p o (Ne.symm (pm.ne hp2)) e] at hp2
          cases hp2
      · obtain ⟨j, hj, e⟩ := List.mem_iff_getElem.mp hr
        have d := gd j r (by rw [List.getElem?_eq_getElem hj, e]) (j % wd) (by rw [gw r hr]; exact Nat.mod_lt _ w1) (Or.inl rfl)
        exact List.mem_of_getElem? d
      · have hj : c % t < gs.length := by rw [gl']; exact Nat.mod_lt _ t1
        refine ⟨gs[c % t], List.getElem_mem hj, ?_⟩
        exact gd (c % t) _ (List.getElem?_eq_getElem hj) c (by rw [gw _ (List.getElem_mem hj)]; exact hc) (Or.inr rfl)
end
end Wd

namespace Wd
open PySem PySem.Spec PyProof.Rows L2
theorem ExB.none {a p : Addr} {H H1 : Hp} (x : ExB a H H1) (ha : p ≠ a) (h : H1 p = none) : H p = none := by
  cases e : H p with
  | none => rfl
  | some o =>
    rw [x p o ha e] at h
    cases h
/-- a def of the law as the walk wants it -/
structure Cl (P : Program) (w : World) (K : PySem.W.Frag) (mg : Str → Option Value) (base : Heap) (CX : CXT) (k : Nat) (x : Str) (ps : List Str) (sp : Sp) where
  f : Addr
  fd : FuncData
  ok : FnOk P w K mg base CX k f fd ps sp
  mg : mg x = some (.ref f)
  kp : PySem.W.keepIn K (.ref f) = true
  b : Binds K fd ps []
def spSize : Sp := fun vs H Q _ => ∃ (a : Addr) (n m : Nat), vs = [.ref a, .int (m : Int)] ∧ Pot H a n ∧ n < 990000 ∧ 1 ≤ m ∧ m ≤ 10 ∧
  ∀ (p : Addr) (t w : Nat) (H' : Hp), H p = none → H' p = some (.tup [.int (t : Int), .int (w : Int)]) → 1 ≤ t → t ≤ m → 1 ≤ w → w ≤ m → Pot H' a (n + 2) → ExB a H H' → Q (.ref p) H'
abbrev sSize : Stmt := topS 23
theorem scSize : FnScope ["_law_pot_here", "_law_most"] ["_law_pot_here", "_law_most"] (defScope sSize) := ⟨rfl, rfl, rfl, by decide +kernel, rfl, by decide +kernel, by decide +kernel⟩
def spSmall : Sp := fun vs H Q _ => ∃ (a : Addr) (n m : Nat), vs = [.ref a, .int (m : Int)] ∧ Pot H a n ∧ n < 980000 ∧ 1 ≤ m ∧ m ≤ 10 ∧
  ∀ (p : Addr) (g : List (List Bool)) (t w : Nat) (H' : Hp), H p = none → H' p = some (.tup (rowsV g)) → Brd g t w → t ≤ m → w ≤ m → Pot H' a (n + 103) → ExB a H H' → Q (.ref p) H'
abbrev sSmall : Stmt := topS 24
theorem scSmall : FnScope ["_law_pot_here", "_law_most", "_law_tall", "_law_wide"] ["_law_pot_here", "_law_most"] (defScope sSmall) := ⟨rfl, rfl, rfl, by decide +kernel, rfl, by decide +kernel, by decide +kernel⟩
section
variable {P : Program} {w : World} {K : PySem.W.Frag} {mg : Str → Option Value} {base : Heap} {f : Addr} {fd : FuncData}
theorem ok_size (F : FnP K "_law_size" sSize f fd) (D : Dr P w K mg base) : FnOk P w K mg base CX0 2 f fd ["_law_pot_here", "_law_most"] spSize := by
  refine F.ok scSize (fun vs H Q E h => ?_) (fun cdv A outer s H vs Q E hr h => ?_)
  · obtain ⟨a, n, m, rfl, _⟩ := h
    rfl
  · obtain ⟨a, n, m, rfl, hp, hn, m1, m10, k⟩ := h
    refine ⟨_, PSs.nox (pss_one (ps_ret (pe_tup (pa_cons (pe_op op_add pe_int (pe_call D.ok hr (by rfl) D.mg D.kp D.b .nil pass0 (pa_cons (pv 0) (pa_cons (pv 1) pa_nil))))
      (pa_cons (pe_op op_add pe_int (pe_call D.ok hr (by rfl) D.mg D.kp D.b .nil pass0 (pa_cons (pv 0) (pa_cons (pv 1) pa_nil)))) pa_nil))))), ?_⟩
    refine ⟨_, rfl, _, rfl, a, n, _, rfl, hp, by omega, by omega, by omega, fun d H1 d0 d1 p1 x1 => ⟨_, _, rfl, rfl, ?_⟩⟩
    refine ⟨_, rfl, _, rfl, a, n + 1, _, rfl, p1, by omega, by omega, by omega, fun e H2 e0 e1 p2 x2 => ⟨_, _, rfl, rfl, ?_⟩⟩
    refine ⟨by show (2 : Nat) ≤ sizeLine; decide, fun p np => ?_⟩
    have e1' : (1 : Int) + d = ((1 + d.toNat : Nat) : Int) := by omega
    have e2' : (1 : Int) + e = ((1 + e.toNat : Nat) : Int) := by omega
    have x := x1.trans x2
    refine k p (1 + d.toNat) (1 + e.toNat) _ (x.none (Ne.symm (p2.ne np)) np) ?_ (by omega) (by omega) (by omega) (by omega) (p2.upd (p2.ne np)) (x.trans (ExB.new np))
    rw [upd_same, ← e1', ← e2']
theorem ok_small (F : FnP K "_law_small_rows" sSmall f fd) (S : Cl P w K mg base CX0 2 "_law_size" ["_law_pot_here", "_law_most"] spSize) (R : Cl P w K mg base CX0 2 "_law_rows" ["_law_pot_here", "_law_tall", "_law_wide"] spRows) :
    FnOk P w K mg base CX0 3 f fd ["_law_pot_here", "_law_most"] spSmall := by
  refine F.ok scSmall (fun vs H Q E h => ?_) (fun cdv A outer s H vs Q E hr h => ?_)
  · obtain ⟨a, n, m, rfl, _⟩ := h
    rfl
  · obtain ⟨a, n, m, rfl, hp, hn, m1, m10, k⟩ := h
    refine ⟨_, PSs.nox (pss_cons (ps_asg (pe_call S.ok hr (by rfl) S.mg S.kp S.b .nil pass0 (pa_cons (pv 0) (pa_cons (pv 1) pa_nil))) (pg_tup (by rfl) (pgs_cons (pg_name (i := 2) scSmall.nd rfl (Or.inl rfl)) (pgs_cons (pg_name (i := 3) scSmall.nd rfl (Or.inl rfl)) pgs_nil))))
      (pss_one (ps_ret (pe_call R.ok hr (by rfl) R.mg R.kp R.b .nil pass0 (pa_cons (pv 0) (pa_cons (pv 2) (pa_cons (pv 3) pa_nil))))))), ?_⟩
    refine ⟨_, rfl, _, rfl, a, n, m, rfl, hp, by omega, m1, m10, fun p t w' H1 np hp1 t1 t2 w1 w2 p1 x1 => ?_⟩
    refine ⟨p, _, rfl, SqT.of hp1, rfl, _, _, rfl, _, _, rfl, rfl, ?_⟩
    refine ⟨_, rfl, _, rfl, _, rfl, a, n + 2, t, w', rfl, p1, by omega, t1, by omega, w1, by omega, fun q g H2 nq hq b p2 x2 => ?_⟩
    exact k q g t w' H2 (x1.none (fun z => by rw [z] at nq; exact absurd rfl (p1.ne nq)) nq) hq b t2 w2 (p2.more (by omega)) (x1.trans x2)
end
end Wd

namespace Wd
open PySem PySem.Spec PyProof.Rows L2
/-! ### iterators of new tuples: enumerate of a tuple, of a text -/
set_option maxHeartbeats 1000000 in
theorem meets_enum1 {v : Value} {o : Obj} {G : Heap → Prop} (B : Begins v o G) :
    Meets (Builtin.«enumerate.__new__» ⟨[.type "enumerate", v], []⟩) (fun _ R s => G s.heap ∧ R (.ok (.ret (.ref (s.heap.push o).objs.size))) { s with heap := (s.heap.push o).push { cls := .type "enumerate", data := .fields #[.none, .bool false, .ref s.heap.objs.size, rawInt 0, .none, .none] } }) :=
  .of_wp fun prog w A R s hh => by
    obtain ⟨hp, gn, dr, tk, os⟩ := s
    obtain ⟨hg, hh⟩ := hh
    have hsub := sub_enumerate
    have step : ∀ {A' : Around} {E : Value → Shared → Prop} {Q : Value → Shared → Prop}, Q (.ref hp.objs.size) ⟨hp.push o, gn, dr, tk, os⟩ → wpAny (model prog w) A' (pyIter v) Q E ⟨hp, gn, dr, tk, os⟩ := fun q => B.iter prog w _ _ ⟨hp, gn, dr, tk, os⟩ _ hg q
    wp_walk using step
    refine wpAny_stack_any fun st => wpAny_pure ?_
    split
    · rename_i c _ _ _ _ _
      cases (c == Value.type "enumerate") <;> (wp_walk using step; exact ⟨_, rfl, hh⟩)
    · wp_walk using step
      exact ⟨_, rfl, hh⟩
section
variable {prog : Program} {w : World} {A : Around} {E : Value → Shared → Prop} {s : Shared}
theorem enum_one {v : Value} {o : Obj} {G : Heap → Prop} {Q : Value → Shared → Prop} (B : Begins v o G) (hg : G s.heap)
    (k : ∀ h', IsEnum h' (s.heap.objs.size + 1) s.heap.objs.size 0 .none → h'.get? s.heap.objs.size = some o → h'.objs.size = s.heap.objs.size + 2 → (∀ b o, s.heap.get? b = some o → h'.get? b = some o) → Q (.ref (s.heap.objs.size + 1)) { s with heap := h' }) :
    wpAny (model prog w) A (call (.type "enumerate") [v]) Q E s := by
  refine callType_new F.called_enumerate (by decide) (F.typeCall_enumerate_1 _) (F.newCall_enumerate_1 _) (fun obj => F.args_object_init_2 obj _) F.entry_enumerate_new (meets_enum1 B) ⟨hg, ?_⟩
  have hz : (s.heap.push o).objs.size = s.heap.objs.size + 1 := Heap.size_push ..
  show _ ∧ _
  rw [hz]
  have he : IsEnum ((s.heap.push o).push { cls := .type "enumerate", data := .fields #[.none, .bool false, .ref s.heap.objs.size, rawInt 0, .none, .none] }) (s.heap.objs.size + 1) s.heap.objs.size 0 .none := by
    have := Heap.get?_push_size (s.heap.push o) (o := { cls := .type "enumerate", data := .fields #[.none, .bool false, .ref s.heap.objs.size, rawInt 0, .none, .none] }) rfl
    rw [hz] at this
    exact this
  exact ⟨⟨_, he, rfl⟩, k _ he (Heap.get?_push_of_some _ (Heap.get?_push_size _ B.free)) (by rw [Heap.size_push, hz]) fun b o x => Heap.get?_push_of_some _ (Heap.get?_push_of_some _ x)⟩
end
/-- at turn i a new tuple of ys i, while G stands -/
def Itp (G : Hp → Prop) (n : Nat) (ys : Nat → List V) : It :=
  ⟨fun i H => G H ∧ i < n, fun i H v H' => ∃ T, v = .ref T ∧ H T = none ∧ H' = upd H T (.tup (ys i)), fun i H => G H ∧ i = n⟩
def YNew (ys : Nat → List V) : Nat → Hp → V → Hp → Prop := fun i H v H' => ∃ T, v = .ref T ∧ H T = none ∧ H' = upd H T (.tup (ys i))
theorem walk_new {G : Hp → Prop} {n : Nat} {ys : Nat → List V} : Walk (Itp G n ys) n G (YNew ys) := ⟨fun _ _ hi hg => ⟨hg, hi⟩, fun _ hg => ⟨hg, rfl⟩, fun _ _ _ _ _ _ y => y⟩
/-- records of the iterator's own have turned, nothing is new -/
theorem inv_turned {X : Cx} {pins : List (Addr × Obj)} {σ : L2.St} {H : Hp} {s : Shared} {h' : Heap} {tk : Nat} {own : List Addr} (I : Inv X pins σ H s) (k : ∀ b o, b ∉ own → s.heap.get? b = some o → h'.get? b = some o) (hf : ∀ b ∈ own, FpOk X pins H b) :
    Inv X pins σ H { s with heap := h', toks := tk } := by
  have nit : ∀ b u, H b = some u → b ∉ own := fun b u e z => by
    have q := (hf b z).1
    rw [q] at e
    cases e
  refine I.step (g' := s.gens) (d' := s.drawn) (ch := own) (fun b hb => ⟨(hf b hb).2.2.2.1, (hf b hb).2.1, (hf b hb).2.2.2.2.1, (hf b hb).2.2.2.2.2⟩) (fun b o _ _ hc e _ => k b o hc e) (fun b o _ _ hc e _ => ⟨o.slots, k b o hc e⟩) (fun _ _ _ _ n => n)
    (fun b o hc e => ⟨o, k b o hc e⟩) (fun _ _ e => e) (fun _ _ _ e => e) (fun b ps e => ⟨#[], by rw [e]; simp⟩) (fun m hm => ?_) (fun b u e => ?_) I.bare
  · obtain ⟨o, es, ep, ho, r⟩ := hm
    exact ⟨o, es, ep, k _ o (fun z => (hf _ z).2.1 rfl) ho, r⟩
  · refine (I.hok b u e).stay (fun c v hc q => k c v ?_ q) (fun _ q => q) fun _ _ q => q
    rcases hc with z | z
    · rw [z]
      exact nit b u e
    · exact nit c _ z
theorem turn_new {γ : Type} {P : Program} {w : World} {K : PySem.W.Frag} {tg : Expr} {it : Addr} {own fx wr : List Addr} {n : Nat} {C : γ → Prop} {Y : γ → Nat → Heap → Value → Heap → Prop} {Sx : γ → Nat → Heap → Prop} {tn : Nat → Heap → Prop} {G : Hp → Prop} {ys : Nat → List V}
    (W : ∀ c, C c → ∀ A : Around, A.handled = none → GoesN P w A tg it (own ++ fx) wr n (Y c) (Sx c)) (mem : it ∈ own) (sub : ∀ b ∈ wr, b ∈ own)
    (obj : ∀ i h, tn i h → ∀ b ∈ own, ∃ o, h.get? b = some o ∧ ∀ v, o.data ≠ .cell v) (keep : ∀ i h h', tn i h → (∀ b ∈ own, ∀ o, h.get? b = some o → h'.get? b = some o) → tn i h')
    (up : ∀ (X : Cx) (i : Nat) (pins : List (Addr × Obj)) (s : Shared) (σ : L2.St) (H : Hp), X.K = K → Inv X pins σ H s → G H → tn i s.heap → ∃ c, C c ∧ Sx c i s.heap) (down : ∀ c i h, Sx c i h → tn i h)
    (yl : ∀ c, C c → ∀ i h₀ v h, i < n → Y c i h₀ v h → ∃ T us, v = .ref T ∧ h₀.objs.size ≤ T ∧ h.IsTuple T us.toArray ∧ Vals (ys i) us) (len : ∀ i, (ys i).length ≤ sizeLine)
    (self : ∀ (A : Around) (i : Nat) (s : Shared) (Q : Value → Shared → Prop) (E : Value → Shared → Prop), tn i s.heap → Q (.ref it) s → wpAny (model P w) A (pyIter (.ref it)) Q E s) : Turn P w K tg (Itp G n ys) own it tn where
  mem := mem
  obj := obj
  keep := keep
  item := by
    intro X hP hw hK hc i pins s σ H E I hf st hg
    subst hP hw
    obtain ⟨hG, hi⟩ := hg
    obtain ⟨c, hC, sx⟩ := up X i pins s σ H hK I hG st
    refine (W c hC X.A (I.ok.hd hc)).goes i s _ E hi sx fun v h' tk y st' hk htk => ?_
    obtain ⟨T, us, rfl, hT, ht, r⟩ := yl c hC i s.heap v h' hi y
    have new : ObjOk X.prog X.w (upd H T (.tup (ys i))) h' T (.tup (ys i)) := ⟨len i, us, r, ht⟩
    have I1 : Inv X pins σ (upd H T (.tup (ys i))) { s with heap := h', toks := tk } := I.turnedNew (ch := own) (fun b ob hb q => hk b ob (fun z => hb (sub b z)) q) hf hT new
    refine ⟨.ref T, _, I1, rfl, ⟨T, rfl, I.hok.fresh hT, rfl⟩, down c _ _ st', fun b hb => ?_⟩
    obtain ⟨o, ho, _⟩ := obj i s.heap st b hb
    rw [upd_ne (Nat.ne_of_lt (Nat.lt_of_lt_of_le (Heap.lt_size ho) hT))]
    exact (hf b hb).1
  done := by
    intro X hP hw hK hc i pins s σ H E I hf st hg
    subst hP hw
    obtain ⟨hG, rfl⟩ := hg
    obtain ⟨c, hC, sx⟩ := up X i pins s σ H hK I hG st
    exact (W c hC X.A (I.ok.hd hc)).stops s _ E sx fun h' tk hk htk => inv_turned I (fun b o hb q => hk b o (fun z => hb (sub b z)) q) hf
  self := self

section
variable {X : Cx} {e : Expr} {ta : TA} {p pos tpos : Pos} {elts : List Expr} {kk : Nat}
/-- enumerate(tuple) -/
def iEnumT (K : PySem.W.Frag) (ta : TA) : TI := fun σ H R => ta σ H fun vs H1 => ∃ a xs, vs = [.ref a] ∧ SqT K H1 a xs ∧ R (Itp (fun H => SqT K H a xs) xs.length fun i => [.int (i : Int), xs.getD i .non]) H1
theorem pi_enumT (hg : Gl X "enumerate") (hm : X.mg "enumerate" = none) (ha : PA X [e] ta) (hs : starEach [e] X.env = [(false, eval e X.env)] := by rfl) : PI X (.Tuple elts kk tpos) (.Call (.Name "enumerate" p) [e] [] pos) (iEnumT X.K ta) := by
  refine ⟨fun pins s σ H R I h => ?_⟩
  refine Call_ (ld_blt I hg hm boot_enumerate (PyProof.Rows.callWith_type1 (thn (ha.run pos pins s σ H _ I h) fun us s1 ⟨vs, H1, I1, r1, q1⟩ => ?_) hs rfl))
  obtain ⟨a, xs, rfl, hq, q⟩ := q1
  cases r1 with
  | cons r rr =>
    cases rr
    cases r
    obtain ⟨its, rv, ht, hz⟩ := I1.tuple hq
    have la : a < s1.heap.objs.size := ht.lt
    refine enum_one (begins_tuple a its.toArray) ht fun h' he hit hsz hk => wpAny_pyIter_enum he ?_
    have I2 : Inv X pins σ H1 { s1 with heap := h' } := I1.kept (t' := s1.toks) hk
    have ne1 : s1.heap.objs.size + 1 ≠ s1.heap.objs.size := Nat.succ_ne_self _
    have ne2 : a ≠ s1.heap.objs.size := Nat.ne_of_lt la
    have ne3 : s1.heap.objs.size + 1 ∉ [s1.heap.objs.size, a] := by
      intro z
      rcases List.mem_cons.mp z with z | z
      · exact ne1 z
      · exact absurd (List.mem_singleton.mp z).symm (Nat.ne_of_lt (Nat.lt_succ_of_lt la))
    refine ⟨s1.heap.objs.size + 1, [s1.heap.objs.size + 1, s1.heap.objs.size], fun i h => (∃ old, IsEnum h (s1.heap.objs.size + 1) s1.heap.objs.size (0 + (i : Int)) old) ∧ h.IsTupleIter s1.heap.objs.size a i, _, H1, rfl, I2,
      turn_new (γ := List Value) (fx := [a]) (C := fun c => Vals xs c) (Y := fun c i h₀ v h => ∃ T t x, v = .ref T ∧ h₀.objs.size ≤ T ∧ c.toArray[i]? = some x ∧ h.IsTuple T #[.int (0 + (i : Int)) t, x])
        (Sx := fun c i h => (∃ old, IsEnum h (s1.heap.objs.size + 1) s1.heap.objs.size (0 + (i : Int)) old) ∧ h.IsTupleIter s1.heap.objs.size a i ∧ h.IsTuple a c.toArray)
        (fun c hC A hh => by
          have W := GoesN.enumFrom (prog := X.prog) (w := X.w) (A := A) (elts := elts) (x1 := kk) (pos := tpos) 0 (Draws.tuple (A := A.in1) hh s1.heap.objs.size a ne2 c.toArray) (s1.heap.objs.size + 1) ne1 ne3 (by simp)
          have e : c.toArray.size = xs.length := by rw [List.size_toArray, hC.length]
          rw [e] at W
          exact W) (by simp) (by simp) ?_ ?_ ?_ ?_ ?_ ?_ ?_, ⟨⟨.none, he⟩, _, hit, rfl, rfl⟩, ?_, q⟩
    · rintro i h ⟨⟨old, he⟩, o, ho, _, hd⟩ b hb
      rcases List.mem_cons.mp hb with z | z
      · rw [z]
        exact ⟨_, he, fun v q => nomatch q⟩
      · rw [List.mem_singleton.mp z]
        exact ⟨o, ho, fun v q => by rw [hd] at q; cases q⟩
    · rintro i h h' ⟨⟨old, he⟩, hi⟩ k
      exact ⟨⟨old, k _ (by simp) _ he⟩, hi.at fun o q => k _ (by simp) o q⟩
    · rintro X' i pins' s' σ' H' hK I' hG ⟨he, hi⟩
      rw [← hK] at hG
      obtain ⟨its', rv', ht', _⟩ := I'.tuple hG
      exact ⟨its', rv', he, hi, ht'⟩
    · rintro c i h ⟨he, hi, _⟩
      exact ⟨he, hi⟩
    · rintro c hC i h₀ v h hi ⟨T, t, x, rfl, hT, hx, ht⟩
      have hx' : c[i]? = some x := by simpa using hx
      have hi2 : i < xs.length := hi
      obtain ⟨u, hu, ru⟩ := hC.get (List.getElem?_eq_getElem hi2)
      rw [hu] at hx'
      cases hx'
      refine ⟨T, [.int (0 + (i : Int)) t, x], rfl, hT, ht, .cons ⟨t, by rw [Int.zero_add]⟩ (.cons ?_ .nil)⟩
      rw [List.getD_eq_getElem?_getD, List.getElem?_eq_getElem hi2]
      exact ru
    · exact fun i => by show (2 : Nat) ≤ sizeLine; decide
    · rintro A i s' Q E ⟨⟨old, he⟩, _⟩ hQ
      exact wpAny_pyIter_enum he hQ
    · intro b hb
      have hle : s1.heap.objs.size ≤ b := by
        rcases List.mem_cons.mp hb with z | z
        · rw [z]
          exact Nat.le_succ _
        · rw [List.mem_singleton.mp z]
          exact Nat.le_refl _
      exact I1.fpOk hle (I1.hok.fresh hle)
/-- enumerate(text) -/
def iEnumS (ta : TA) : TI := fun σ H R => ta σ H fun vs H1 => ∃ z : Str, vs = [.str z] ∧ R (Itp (fun _ => True) z.cps.size fun i => [.int (i : Int), .str ⟨#[z.cps.getD i 0]⟩]) H1
theorem pi_enumS (hg : Gl X "enumerate") (hm : X.mg "enumerate" = none) (ha : PA X [e] ta) (hs : starEach [e] X.env = [(false, eval e X.env)] := by rfl) : PI X (.Tuple elts kk tpos) (.Call (.Name "enumerate" p) [e] [] pos) (iEnumS ta) := by
  refine ⟨fun pins s σ H R I h => ?_⟩
  refine Call_ (ld_blt I hg hm boot_enumerate (PyProof.Rows.callWith_type1 (thn (ha.run pos pins s σ H _ I h) fun us s1 ⟨vs, H1, I1, r1, q1⟩ => ?_) hs rfl))
  obtain ⟨z, rfl, q⟩ := q1
  cases r1 with
  | cons r rr =>
    cases rr
    obtain ⟨t, rfl⟩ := r
    refine call_enumerate_str fun h' he hit hsz hk => wpAny_pyIter_enum he ?_
    have I2 : Inv X pins σ H1 { s1 with heap := h' } := I1.kept (t' := s1.toks) hk
    have ne1 : s1.heap.objs.size + 1 ≠ s1.heap.objs.size := Nat.succ_ne_self _
    have ne3 : s1.heap.objs.size + 1 ∉ [s1.heap.objs.size] := fun z => ne1 (List.mem_singleton.mp z)
    refine ⟨s1.heap.objs.size + 1, [s1.heap.objs.size + 1, s1.heap.objs.size], fun i h => (∃ old, IsEnum h (s1.heap.objs.size + 1) s1.heap.objs.size (0 + (i : Int)) old) ∧ h.IsStrIter s1.heap.objs.size (strIterType z) z t i, _, H1, rfl, I2,
      turn_new (γ := Unit) (fx := []) (C := fun _ => True) (Y := fun _ i h₀ v h => ∃ T u x, v = .ref T ∧ h₀.objs.size ≤ T ∧ (∃ c u, z.cps[i]? = some c ∧ x = .str ⟨#[c]⟩ u) ∧ h.IsTuple T #[.int (0 + (i : Int)) u, x])
        (Sx := fun _ i h => (∃ old, IsEnum h (s1.heap.objs.size + 1) s1.heap.objs.size (0 + (i : Int)) old) ∧ h.IsStrIter s1.heap.objs.size (strIterType z) z t i)
        (fun _ _ A hh => GoesN.enumFrom (prog := X.prog) (w := X.w) (A := A) (elts := elts) (x1 := kk) (pos := tpos) 0 (Draws.text (A := A.in1) hh s1.heap.objs.size z t) (s1.heap.objs.size + 1) ne1 ne3 (by simp)) (by simp) (by simp) ?_ ?_ ?_ ?_ ?_ ?_ ?_, ⟨⟨.none, he⟩, hit⟩, ?_, q⟩
    · rintro i h ⟨⟨old, he⟩, o, ho, _, hd⟩ b hb
      rcases List.mem_cons.mp hb with z | z
      · rw [z]
        exact ⟨_, he, fun v q => nomatch q⟩
      · rw [List.mem_singleton.mp z]
        exact ⟨o, ho, fun v q => by rw [hd] at q; cases q⟩
    · rintro i h h' ⟨⟨old, he⟩, o, ho, r⟩ k
      exact ⟨⟨old, k _ (by simp) _ he⟩, o, k _ (by simp) _ ho, r⟩
    · exact fun X' i pins' s' σ' H' hK I' hG st => ⟨(), trivial, st⟩
    · exact fun c i h st => st
    · rintro c hC i h₀ v h hi ⟨T, u, x, rfl, hT, ⟨cc, u', hx, rfl⟩, ht⟩
      refine ⟨T, [.int (0 + (i : Int)) u, .str ⟨#[cc]⟩ u'], rfl, hT, ht, .cons ⟨u, by rw [Int.zero_add]⟩ (.cons ⟨u', ?_⟩ .nil)⟩
      rw [Array.getD_eq_getD_getElem?, hx]
      rfl
    · exact fun i => by show (2 : Nat) ≤ sizeLine; decide
    · rintro A i s' Q E ⟨⟨old, he⟩, _⟩ hQ
      exact wpAny_pyIter_enum he hQ
    · intro b hb
      have hle : s1.heap.objs.size ≤ b := by
        rcases List.mem_cons.mp hb with z | z
        · rw [z]
          exact Nat.le_succ _
        · rw [List.mem_singleton.mp z]
          exact Nat.le_refl _
      exact I1.fpOk hle (I1.hok.fresh hle)
end
end Wd

namespace Wd
open PySem PySem.Spec PyProof.Rows L2
/-! ### words.py -/
/-- is v an int from lo on, to m if m is one -/
def isIntB (v : V) (lo : Int) (m : V) : Bool := match v with
  | .int i => decide (lo ≤ i) && (match m with | .int hi => decide (i ≤ hi) | _ => true)
  | _ => false
/-- what is asked of a value that is_integer looks at -/
def NumT (K : PySem.W.Frag) (H : Hp) (v : V) : Prop := (∃ i, v = .int i) ∨ (∃ b, v = .bl b) ∨ ∃ t, TyX K H v t ∧ PySem.W.kitOne K t (.type "int") = some false
def spIsInt (K : PySem.W.Frag) : Sp := fun vs H Q _ => ∃ (v m : V) (lo : Int), vs = [v, .int lo, m] ∧ (m = .non ∨ ∃ hi, m = .int hi) ∧ NumT K H v ∧ Q (.bl (isIntB v lo m)) H
abbrev sIsInt : Stmt := topS 5
theorem scIsInt : FnScope ["value", "least", "most"] ["value", "least", "most"] (defScope sIsInt) := ⟨rfl, rfl, rfl, by decide +kernel, rfl, by decide +kernel, by decide +kernel⟩
/-- what is asked of a value that is_pair, is_tuple look at -/
def TupT (K : PySem.W.Frag) (H : Hp) (v : V) (o : Option (List V)) : Prop := match o with
  | some xs => ∃ a, v = .ref a ∧ SqT K H a xs ∧ TyX K H v (.type "tuple")
  | none => ∃ t, TyX K H v t ∧ PySem.W.kitOne K t (.type "tuple") = some false
def spIsTup (K : PySem.W.Frag) : Sp := fun vs H Q _ => ∃ (v : V) (m : Int) (o : Option (List V)), vs = [v, .int m] ∧ TupT K H v o ∧ Q (.bl (match o with | some xs => decide (1 ≤ (xs.length : Int)) && decide ((xs.length : Int) ≤ m) | none => false)) H
abbrev sIsTup : Stmt := topS 6
theorem scIsTup : FnScope ["value", "most"] ["value", "most"] (defScope sIsTup) := ⟨rfl, rfl, rfl, by decide +kernel, rfl, by decide +kernel, by decide +kernel⟩
def spIsPair (K : PySem.W.Frag) : Sp := fun vs H Q _ => ∃ (v : V) (o : Option (List V)), vs = [v] ∧ TupT K H v o ∧ Q (.bl (match o with | some xs => decide (xs.length = 2) | none => false)) H
abbrev sIsPair : Stmt := topS 7
theorem scIsPair : FnScope ["value"] ["value"] (defScope sIsPair) := ⟨rfl, rfl, rfl, by decide +kernel, rfl, by decide +kernel, by decide +kernel⟩
theorem kTT {K : PySem.W.Frag} : PySem.W.kitOne K (.type "tuple") (.type "tuple") = some true := kit_ty (by decide +kernel)
/-- the built-in names that the program leaves as they are -/
structure Bt (mg : Str → Option Value) : Prop where
  int : mg "int" = none
  bool : mg "bool" = none
  str : mg "str" = none
  tuple : mg "tuple" = none
  list : mg "list" = none
  len : mg "len" = none
  range : mg "range" = none
  isi : mg "isinstance" = none
  all : mg "all" = none
  any : mg "any" = none
  enum : mg "enumerate" = none
  zip : mg "zip" = none
  sorted : mg "sorted" = none
  repr : mg "repr" = none
  max : mg "max" = none
  min : mg "min" = none
  abs : mg "abs" = none
section
variable {P : Program} {w : World} {K : PySem.W.Frag} {mg : Str → Option Value} {base : Heap} {f : Addr} {fd : FuncData} {CX : CXT}
theorem ok_isint {dvs : List V} (F : FunD K "is_integer" "is_integer" (defArgs sIsInt) (defBody sIsInt) (defScope sIsInt) dvs [] f fd) (T : Bt mg) : FnOk P w K mg base CX 1 f fd ["value", "least", "most"] (spIsInt K) := by
  refine F.ok scIsInt (fun vs H Q E h => ?_) (fun cdv A outer s H vs Q E hr h => ?_)
  · obtain ⟨v, m, lo, rfl, _⟩ := h
    rfl
  · obtain ⟨v, m, lo, rfl, hm, hv, k⟩ := h
    refine ⟨_, PSs.nox (pss_cons (ps_if (PW.pt (pw_or (pt_not (pt_val (pe_callB call_isi (by rfl) T.isi boot_isinstance (pa_cons (pv 0) (pa_cons (pe_bltn (v := .ty "int") (by rfl) T.int boot_int rfl) pa_nil)))))
        (pw_or (pt_val (pe_callB call_isi (by rfl) T.isi boot_isinstance (pa_cons (pv 0) (pa_cons (pe_bltn (v := .ty "bool") (by rfl) T.bool boot_bool rfl) pa_nil))))
          (pw_or1 (pt_cmpR op_lt (pv 0) (pv 1) (nomark _)))))) (pss_one (ps_ret pe_bl)) pss_nil)
      (pss_one (ps_ret (pe_or (pe_cmp (pc_isN (pv 2))) (pe_one (pe_cmpR op_le (pv 0) (pv 2) (nomark _))))))), ?_⟩
    rcases hv with ⟨i, rfl⟩ | ⟨b, rfl⟩ | ⟨t, ty, hk⟩
    · refine ⟨_, rfl, _, _, _, _, _, rfl, .ty _, .base (.int i), kit_ty (r := true) (by decide +kernel), _, rfl, ?_⟩
      refine iteF ?_
      refine ⟨_, rfl, _, _, _, _, _, rfl, .ty _, .base (.int i), kit_ty (r := false) (by decide +kernel), _, rfl, ?_⟩
      refine iteF ?_
      refine ⟨_, rfl, _, rfl, _, _, rfl, rfl, _, rfl, ?_⟩
      refine ite2 (fun h0 => ?_) (fun h0 => ?_)
      · have e : isIntB (.int i) lo m = false := by
          have h1 : i < lo := of_decide_eq_true h0
          show (decide (lo ≤ i) && _) = false
          rw [decide_eq_false (by omega), Bool.false_and]
        rw [e] at k
        exact k
      · have h1 : ¬ i < lo := fun z => h0 (decide_eq_true z)
        have e1 : decide (lo ≤ i) = true := decide_eq_true (by omega)
        rcases hm with rfl | ⟨hi, rfl⟩
        · refine ⟨_, rfl, _, rfl, ?_⟩
          have e : isIntB (.int i) lo .non = true := by
            show (decide (lo ≤ i) && true) = true
            rw [e1] <;> rfl
          rw [e] at k
          exact k
        · refine ⟨_, rfl, _, rfl, ?_⟩
          refine iteF ?_
          refine ⟨_, rfl, _, rfl, _, _, rfl, rfl, ?_⟩
          have e : isIntB (.int i) lo (.int hi) = decide (i ≤ hi) := by
            show (decide (lo ≤ i) && decide (i ≤ hi)) = decide (i ≤ hi)
            rw [e1, Bool.true_and]
          rw [e] at k
          exact k
    · refine ⟨_, rfl, _, _, _, _, _, rfl, .ty _, .base (.bl b), kit_ty (r := true) (by decide +kernel), _, rfl, ?_⟩
      refine iteF ?_
      refine ⟨_, rfl, _, _, _, _, _, rfl, .ty _, .base (.bl b), kit_ty (r := true) (by decide +kernel), _, rfl, ?_⟩
      exact iteT k
    · refine ⟨_, rfl, _, _, _, _, _, rfl, .ty _, ty, hk, _, rfl, ?_⟩
      refine iteT ?_
      have e : isIntB v lo m = false := by
        cases v with
        | int i =>
          exfalso
          cases ty with
          | base b =>
            cases b
            rw [kit_ty (a := "int") (b := "int") (r := true) (by decide +kernel)] at hk
            cases hk
        | _ => rfl
      rw [e] at k
      exact k
theorem ok_istup (F : FnP K "is_tuple" sIsTup f fd) (T : Bt mg) : FnOk P w K mg base CX 1 f fd ["value", "most"] (spIsTup K) := by
  refine F.ok scIsTup (fun vs H Q E h => ?_) (fun cdv A outer s H vs Q E hr h => ?_)
  · obtain ⟨v, m, o, rfl, _⟩ := h
    rfl
  · obtain ⟨v, m, o, rfl, ho, k⟩ := h
    refine ⟨_, PSs.nox (pss_one (ps_ret (pe_and (pe_callB call_isi (by rfl) T.isi boot_isinstance (pa_cons (pv 0) (pa_cons (pe_bltn (v := .ty "tuple") (by rfl) T.tuple boot_tuple rfl) pa_nil)))
      (pe_one (pe_chain op_le op_le pe_int (pe_callB call_len_seq (by rfl) T.len PySem.boot_len (pa_cons (pv 0) pa_nil)) (pv 1)))))), ?_⟩
    cases o with
    | none =>
      obtain ⟨t, ty, hk⟩ := ho
      exact ⟨_, rfl, _, _, _, _, _, rfl, .ty _, ty, hk, _, rfl, k⟩
    | some xs =>
      obtain ⟨a, rfl, hs, ty⟩ := ho
      refine ⟨_, rfl, _, _, _, _, _, rfl, .ty _, ty, kTT, _, rfl, ?_⟩
      refine iteT ?_
      replace k : Q (.bl (decide (1 ≤ (xs.length : Int)) && decide ((xs.length : Int) ≤ m))) H := k
      refine ⟨_, rfl, a, _, rfl, .inr hs, _, _, rfl, rfl, _, rfl, ?_⟩
      refine ite2 (fun h0 => ?_) (fun h0 => ?_)
      · refine ⟨_, rfl, _, _, rfl, rfl, ?_⟩
        rw [h0, Bool.true_and] at k
        exact k
      · have e : decide (1 ≤ (xs.length : Int)) = false := by
          cases q : decide (1 ≤ (xs.length : Int)) with
          | false => rfl
          | true => exact absurd q h0
        rw [e] at k
        exact k
theorem ok_ispair (F : FnP K "is_pair" sIsPair f fd) (T : Bt mg) (mP : ∃ t, mg "PAIR" = some (.int 2 t)) : FnOk P w K mg base CX 1 f fd ["value"] (spIsPair K) := by
  obtain ⟨tp, mP⟩ := mP
  refine F.ok scIsPair (fun vs H Q E h => ?_) (fun cdv A outer s H vs Q E hr h => ?_)
  · obtain ⟨v, o, rfl, _⟩ := h
    rfl
  · obtain ⟨v, o, rfl, ho, k⟩ := h
    refine ⟨_, PSs.nox (pss_one (ps_ret (pe_and (pe_callB call_isi (by rfl) T.isi boot_isinstance (pa_cons (pv 0) (pa_cons (pe_bltn (v := .ty "tuple") (by rfl) T.tuple boot_tuple rfl) pa_nil)))
      (pe_one (pe_cmpR op_eq (pe_callB call_len_seq (by rfl) T.len PySem.boot_len (pa_cons (pv 0) pa_nil)) (pe_glob (v := .int 2) (by rfl) mP ⟨_, rfl⟩) (nomark _)))))), ?_⟩
    cases o with
    | none =>
      obtain ⟨t, ty, hk⟩ := ho
      exact ⟨_, rfl, _, _, _, _, _, rfl, .ty _, ty, hk, _, rfl, k⟩
    | some xs =>
      obtain ⟨a, rfl, hs, ty⟩ := ho
      refine ⟨_, rfl, _, _, _, _, _, rfl, .ty _, ty, kTT, _, rfl, ?_⟩
      refine iteT ?_
      refine ⟨_, rfl, a, _, rfl, .inr hs, rfl, ?_⟩
      have e : decide (V.int (xs.length : Int) = V.int 2) = decide (xs.length = 2) := by
        rw [dec_int]
        cases q : decide (xs.length = 2) with
        | true =>
          rw [of_decide_eq_true q]
          rfl
        | false =>
          have := of_decide_eq_false q
          exact beq_eq_false_iff_ne.mpr (by omega)
      show Q (.bl (decide (V.int (xs.length : Int) = V.int 2))) H
      rw [e]
      exact k
end
end Wd

namespace Wd
open PySem PySem.Spec PyProof.Rows L2
/-! ### boards.py: rows -/
abbrev stO : Str := Str.ofString "o"
abbrev stG : Str := Str.ofString "."
theorem stO_eq : stO = ⟨#[111]⟩ := by decide +kernel
theorem stG_eq : stG = ⟨#[46]⟩ := by decide +kernel
/-- the constants of boards.py -/
structure Bc (mg : Str → Option Value) : Prop where
  dot : ∃ t, mg "DOT" = some (.str stO t)
  gap : ∃ t, mg "GAP" = some (.str stG t)
  mostR : ∃ t, mg "MOST_ROWS" = some (.int 10 t)
  mostC : ∃ t, mg "MOST_COLUMNS" = some (.int 10 t)
def isSgn (c : Nat) : Bool := c == 111 || c == 46
theorem in_signs (c : Nat) : inV (.str ⟨#[c]⟩) [.str stO, .str stG] = isSgn c := by
  have e : ∀ d : Nat, eqV (.str ⟨#[d]⟩) (.str ⟨#[c]⟩) = (c == d) := fun d => by
    show ((⟨#[d]⟩ : Str) == ⟨#[c]⟩) = (c == d)
    have q := SX.S_beq [d] [c]
    rw [show (⟨#[d]⟩ : Str) = SX.S [d] from rfl, show (⟨#[c]⟩ : Str) = SX.S [c] from rfl, q]
    cases h : (c == d) with
    | true =>
      rw [eq_of_beq h]
      exact beq_self_eq_true _
    | false =>
      refine beq_eq_false_iff_ne.mpr fun z => ?_
      injection z with z _
      exact absurd z.symm (beq_eq_false_iff_ne.mp h)
  unfold inV isSgn
  rw [stO_eq, stG_eq]
  show (eqV (.str ⟨#[111]⟩) (.str ⟨#[c]⟩) || (eqV (.str ⟨#[46]⟩) (.str ⟨#[c]⟩) || false)) = _
  rw [e, e, Bool.or_false]
/-- is v a row of this width -/
def isRowB (v : V) (w : Int) : Bool := match v with
  | .str z => decide ((z.length : Int) = w) && (decide (111 ∈ z.cps.toList) && z.cps.toList.all isSgn)
  | _ => false
def StrT (K : PySem.W.Frag) (H : Hp) (v : V) : Prop := (∃ z : Str, v = .str z ∧ z.length ≤ 1000) ∨ ∃ t, TyX K H v t ∧ PySem.W.kitOne K t (.type "str") = some false
def spIsRow (K : PySem.W.Frag) : Sp := fun vs H Q _ => ∃ (v : V) (w : Int), vs = [v, .int w] ∧ StrT K H v ∧ ∀ H', Same H H' → Q (.bl (isRowB v w)) H'
abbrev sIsRow : Stmt := topS 15
abbrev nmIsRow : List Str := ["value", "width", "sign"]
theorem scIsRow : FnScope nmIsRow ["value", "width"] (defScope sIsRow) := ⟨rfl, rfl, rfl, by decide +kernel, rfl, by decide +kernel, by decide +kernel⟩
/-- a comprehension's turn without a test -/
theorem yes_go {te : TE} {σ : L2.St} {H : Hp} {N : V → Hp → Prop} {M : Hp → Prop} (h : te σ H N) : tYes σ H fun b H3 => if b = true then te σ H3 N else M H3 := by
  show if true = true then te σ H N else M H
  exact iteT h
theorem Same.new {H : Hp} {p : Addr} {o : HO} (h : H p = none) : Same H (upd H p o) := fun b u e => by
  rw [upd_ne (ne_of_none e h)]
  exact e
theorem Same.mut {H H1 : Hp} {p : Addr} {o : HO} (x : Same H H1) (h : H p = none) : Same H (upd H1 p o) := fun b u e => by
  rw [upd_ne (ne_of_none e h)]
  exact x b u e
section
variable {P : Program} {w : World} {K : PySem.W.Frag} {mg : Str → Option Value} {base : Heap} {f : Addr} {fd : FuncData} {CX : CXT}
theorem ok_isrow (F : FnP K "is_row" sIsRow f fd) (T : Bt mg) (B : Bc mg) : FnOk P w K mg base CX 1 f fd ["value", "width"] (spIsRow K) := by
  obtain ⟨t1, mD⟩ := B.dot
  obtain ⟨t2, mG⟩ := B.gap
  refine F.ok scIsRow (fun vs H Q E h => ?_) (fun cdv A outer s H vs Q E hr h => ?_)
  · obtain ⟨v, m, rfl, _⟩ := h
    rfl
  · obtain ⟨v, m, rfl, hv, k⟩ := h
    refine ⟨_, PSs.nox (pss_cons (ps_if (PW.pt (pw_or (pt_not (pt_val (pe_callB call_isi (by rfl) T.isi boot_isinstance (pa_cons (pv 0) (pa_cons (pe_bltn (v := .ty "str") (by rfl) T.str boot_str rfl) pa_nil)))))
        (pw_or (pt_cmpR op_ne (pe_callB call_len_str (by rfl) T.len PySem.boot_len (pa_cons (pv 0) pa_nil)) (pv 1) (nomark _))
          (pw_or1 (pt_cmpR op_notIn_sign (pe_glob (v := .str stO) (by rfl) mD ⟨_, rfl⟩) (pv 0) rfl))))) (pss_one (ps_ret pe_bl)) pss_nil)
      (pss_one (ps_ret (pe_callB (cr_all rfl) (by rfl) T.all boot_all (pa_cons (pe_lc (own := [("sign", 2)]) (g := gName 2) (tt := tYes) rfl scIsRow.nd (pi_str (pv 0)) (blkOk_by (N := nmIsRow) (sc := defScope sIsRow) (by decide +kernel))
        (fun _ _ _ _ _ => pg_name (i := 2) scIsRow.nd rfl (Or.inl rfl)) (fun _ _ _ _ _ => pts_nil)
        (fun _ _ _ _ _ => pe_cmpR (r := rIn K false) op_in_seq (pv 2) (pe_tup (pa_cons (pe_glob (v := .str stO) (by rfl) mD ⟨_, rfl⟩) (pa_cons (pe_glob (v := .str stG) (by rfl) mG ⟨_, rfl⟩) pa_nil))) (by rfl))) pa_nil))))), ?_⟩
    rcases hv with ⟨z, rfl, hz⟩ | ⟨t, ty, hk⟩
    · refine ⟨_, rfl, _, _, _, _, _, rfl, .ty _, .base (.str z), kit_ty (r := true) (by decide +kernel), _, rfl, ?_⟩
      refine iteF ?_
      refine ⟨_, rfl, z, rfl, Nat.le_trans hz (by decide), _, rfl, rfl, _, rfl, ?_⟩
      have ez : (!decide (V.int (z.length : Int) = V.int m)) = !decide ((z.length : Int) = m) := by
        congr 1
        exact decide_eq_decide.mpr ⟨fun q => by injection q, fun q => by rw [q]⟩
      rw [ez]
      have kf : ∀ b : Bool, isRowB (.str z) m = b → Q (.bl b) H := fun b e => by
        have := k H (Same.refl H)
        rw [e] at this
        exact this
      by_cases h1 : (z.length : Int) = m
      · rw [decide_eq_true h1]
        refine iteF ?_
        refine ⟨_, rfl, 111, z, congrArg V.str stO_eq, rfl, _, rfl, ?_⟩
        by_cases h2 : 111 ∈ z.cps.toList
        · rw [show (!decide (111 ∈ z.cps.toList)) = false by rw [decide_eq_true h2]; rfl]
          refine iteF ?_
          -- all([..])
          refine ⟨_, rfl, z, rfl, fun D hD => ?_⟩
          refine lc_it walk_str (fun i H' => Same H H' ∧ H' D = some (.lst (((z.cps.toList.take i).map isSgn).map V.bl))) ⟨Same.new hD, upd_same⟩ (fun _ _ _ _ => trivial) ?_ ?_
          · rintro i x H1 H2 hi ⟨sm, hd⟩ ⟨rfl, c, hc, rfl⟩
            refine ⟨rfl, yes_go ?_⟩
            refine ⟨_, rfl, by show (2 : Nat) ≤ sizeLine; decide, fun p hp => ?_⟩
            have npd : D ≠ p := ne_of_none hd hp
            refine ⟨p, _, rfl, .inr (SqT.of upd_same), rfl, rfl, _, (by rw [upd_ne npd]; exact hd), ?_, ?_, ?_⟩
            · rw [List.length_map, List.length_map, List.length_take]
              refine small1000 (Nat.le_trans (Nat.min_le_right _ _) ?_)
              simpa [Str.length] using hz
            · intro b u e
              rw [upd_ne (ne_of_none e hD)]
              exact Same.new hp b u (sm b u e)
            · have hc' : z.cps.toList[i]? = some c := by simpa using hc
              have e1 : z.cps.toList.take (i + 1) = z.cps.toList.take i ++ [c] := by
                rw [List.take_add_one, hc'] <;> rfl
              rw [upd_same, e1, List.map_append, List.map_append]
              show some (HO.lst (_ ++ [V.bl (inV (.str ⟨#[c]⟩) [.str stO, .str stG])])) = _
              rw [in_signs]
              rfl
          · rintro H1 ⟨sm, hd⟩
            have e1 : z.cps.toList.take z.cps.size = z.cps.toList := by
              rw [List.take_of_length_le]
              simp
            rw [e1] at hd
            refine ⟨D, _, rfl, SqL.of hd, ?_⟩
            have e2 : isRowB (.str z) m = (z.cps.toList.map isSgn).all id := by
              show (decide ((z.length : Int) = m) && (decide (111 ∈ z.cps.toList) && z.cps.toList.all isSgn)) = _
              rw [decide_eq_true h1, decide_eq_true h2, List.all_map]
              rfl
            rw [← e2]
            exact k H1 sm
        · rw [show (!decide (111 ∈ z.cps.toList)) = true by rw [decide_eq_false h2]; rfl]
          refine iteT (kf false ?_)
          show (decide ((z.length : Int) = m) && (decide (111 ∈ z.cps.toList) && z.cps.toList.all isSgn)) = false
          rw [decide_eq_false h2, Bool.false_and, Bool.and_false]
      · rw [decide_eq_false h1]
        refine iteT (kf false ?_)
        show (decide ((z.length : Int) = m) && (decide (111 ∈ z.cps.toList) && z.cps.toList.all isSgn)) = false
        rw [decide_eq_false h1, Bool.false_and]
    · refine ⟨_, rfl, _, _, _, _, _, rfl, .ty _, ty, hk, _, rfl, ?_⟩
      refine iteT ?_
      have e : isRowB v m = false := by
        cases v with
        | str i =>
          exfalso
          cases ty with
          | base b =>
            cases b
            rw [kit_ty (a := "str") (b := "str") (r := true) (by decide +kernel)] at hk
            cases hk
        | _ => rfl
      have := k H (Same.refl H)
      rw [e] at this
      exact this
end
end Wd

namespace Wd
open PySem PySem.Spec PyProof.Rows L2
/-! ### comprehensions, told once -/
theorem at0 {α : Type} (x : α) (xs : List α) : atI (x :: xs) 0 = some x := atI_nat (xs := x :: xs) (j := 0) rfl
theorem at1 {α : Type} (x y : α) (xs : List α) : atI (x :: y :: xs) 1 = some y := atI_nat (xs := x :: y :: xs) (j := 1) rfl
theorem any_on {α : Type} {p q : α → Bool} : ∀ {l : List α}, (∀ x ∈ l, p x = q x) → l.any p = l.any q
  | [], _ => rfl
  | x :: l, h => by rw [List.any_cons, List.any_cons, h x (List.mem_cons_self ..), any_on fun y hy => h y (List.mem_cons_of_mem _ hy)]
/-- the heap without D -/
def hide (D : Addr) (H : Hp) : Hp := fun b => if b = D then none else H b
theorem hide_ne {D b : Addr} {H : Hp} (h : b ≠ D) : hide D H b = H b := by
  unfold hide
  rw [if_neg h]
theorem hide_same {D : Addr} {H H' : Hp} (x : Same H H') : Same (hide D H) (hide D H') := fun b o e => by
  unfold hide at e ⊢
  by_cases h : b = D
  · rw [if_pos h] at e
    cases e
  · rw [if_neg h] at e ⊢
    exact x b o e
theorem hide_upd {D : Addr} {H : Hp} {o : HO} : hide D (upd H D o) = hide D H := by
  funext b
  unfold hide
  by_cases h : b = D
  · rw [if_pos h, if_pos h]
  · rw [if_neg h, if_neg h, upd_ne h]
theorem hide_sub {D : Addr} {H : Hp} : Same (hide D H) H := fun b o e => by
  unfold hide at e
  by_cases h : b = D
  · rw [if_pos h] at e
    cases e
  · rw [if_neg h] at e
    exact e
theorem range_snoc (i : Nat) (keep : Nat → Bool) : (List.range (i + 1)).filter keep = (List.range i).filter keep ++ (if keep i = true then [i] else []) := by
  rw [List.range_succ, List.filter_append]
  congr 1
  by_cases h : keep i = true
  · rw [if_pos h, List.filter_cons, if_pos h]
    rfl
  · rw [if_neg h, List.filter_cons, if_neg h]
    rfl
theorem Paired.snoc {α β : Type} {F : α → β → Prop} {a : α} {b : β} : ∀ {l₁ : List α} {l₂ : List β}, Paired F l₁ l₂ → F a b → Paired F (l₁ ++ [a]) (l₂ ++ [b])
  | _, _, .nil, h => .cons h .nil
  | _, _, .cons r t, h => .cons r (Paired.snoc t h)
section
variable {J : It} {n : Nat} {G : Hp → Prop} {Y : Nat → Hp → V → Hp → Prop} {g : TG} {tt : TT} {te : TE} {vs : List Nat} {σ : L2.St} {H1 : Hp} {D : Addr} {Qd : Hp → Prop}
theorem walk_r0 {n : Nat} : Walk (Itr 0 n) n (fun _ => True) (YFn fun i => .int (i : Int)) := walk_range.mono (fun _ h => h) fun i H x H' _ _ y => ⟨y.1, y.2.trans (congrArg V.int (Int.zero_add _))⟩
/-- what a comprehension's reading asks behind the iterator -/
abbrev LcW (J : It) (g : TG) (tt : TT) (te : TE) (vs : List Nat) (σ : L2.St) (H1 : Hp) (D : Addr) (Qd : Hp → Prop) : Prop :=
  ∃ W : Nat → Nat → Hp → Prop, (∃ m, W 0 m (upd H1 D (.lst []))) ∧ ∀ i m H, W i m H →
      (J.stop i H ∧ Qd H) ∨ (J.go i H ∧ ∃ Nx : Hp → Prop, (∀ H', Nx H' → ∃ m', m' < m ∧ W (i + 1) m' H') ∧ ∀ x H', J.yld i H x H' → g x (wipe σ vs) H' fun σ2 H2 => wipe σ2 vs = wipe σ vs ∧ tt σ2 H2 fun b H3 =>
        if b = true then te σ2 H3 fun y H4 => ∃ acc, H4 D = some (.lst acc) ∧ acc.length < sizeLine ∧ Nx (upd H4 D (.lst (acc ++ [y]))) else Nx H3)
/-- items that are related to the turn's number; R speaks of the heap without the new list -/
theorem lc_rel (wk : Walk J n G Y) (keep : Nat → Bool) (R : Nat → V → Hp → Prop) (mono : ∀ i y H H', Same H H' → R i y H → R i y H') (hn : n < 1000000) (hD : H1 D = none) (hG : ∀ H', Same H1 H' → G H')
    (hs : ∀ i x H H' ys, i < n → Same H1 H → H D = some (.lst ys) → Y i H x H' → ∀ (N : V → Hp → Prop) (M : Hp → Prop), (∀ y H4, keep i = true → Same H H4 → R i y (hide D H4) → N y H4) → (∀ H3, keep i = false → Same H H3 → M H3) →
      g x (wipe σ vs) H' fun σ2 H2 => wipe σ2 vs = wipe σ vs ∧ tt σ2 H2 fun b H3 => if b = true then te σ2 H3 N else M H3)
    (hd : ∀ H' ys, Same H1 H' → H' D = some (.lst ys) → Paired (fun i y => R i y (hide D H')) ((List.range n).filter keep) ys → Qd H') : LcW J g tt te vs σ H1 D Qd := by
  have len : ∀ (i : Nat) (ys : List V) (H : Hp), i ≤ n → Paired (fun i y => R i y (hide D H)) ((List.range i).filter keep) ys → ys.length < sizeLine := fun i ys H hi p => by
    have h1 := Paired.length p
    have h2 := List.length_filter_le keep (List.range i)
    rw [List.length_range] at h2
    have h3 : (1000000 : Nat) ≤ sizeLine := by decide
    omega
  refine lc_it wk (fun i H' => Same H1 H' ∧ ∃ ys, H' D = some (.lst ys) ∧ Paired (fun i y => R i y (hide D H')) ((List.range i).filter keep) ys) ⟨Same.new hD, [], upd_same, .nil⟩ (fun i H' _ p => hG H' p.1) ?_ ?_
  · rintro i x H H' hi ⟨sm, ys, hys, pr⟩ y
    refine hs i x H H' ys hi sm hys y _ _ (fun z H4 hk s4 r => ?_) (fun H3 hk s3 => ?_)
    · refine ⟨ys, s4 D _ hys, len i ys H (Nat.le_of_lt hi) pr, Same.mut (sm.trans s4) hD, ys ++ [z], upd_same, ?_⟩
      rw [range_snoc, if_pos hk, hide_upd]
      exact Paired.snoc (Paired.mapP pr fun a b q => mono a b _ _ (hide_same s4) q) r
    · refine ⟨sm.trans s3, ys, s3 D _ hys, ?_⟩
      rw [range_snoc, if_neg (by rw [hk]; exact Bool.false_ne_true), List.append_nil]
      exact Paired.mapP pr fun a b q => mono a b _ _ (hide_same s3) q
  · rintro H' ⟨sm, ys, hys, pr⟩
    exact hd H' ys sm hys pr
/-- none left out -/
theorem lc_relA (wk : Walk J n G Y) (R : Nat → V → Hp → Prop) (mono : ∀ i y H H', Same H H' → R i y H → R i y H') (hn : n < 1000000) (hD : H1 D = none) (hG : ∀ H', Same H1 H' → G H')
    (hs : ∀ i x H H' ys, i < n → Same H1 H → H D = some (.lst ys) → Y i H x H' → ∀ (N : V → Hp → Prop) (M : Hp → Prop), (∀ y H4, Same H H4 → R i y (hide D H4) → N y H4) →
      g x (wipe σ vs) H' fun σ2 H2 => wipe σ2 vs = wipe σ vs ∧ tt σ2 H2 fun b H3 => if b = true then te σ2 H3 N else M H3)
    (hd : ∀ H' ys, Same H1 H' → H' D = some (.lst ys) → Paired (fun i y => R i y (hide D H')) (List.range n) ys → Qd H') : LcW J g tt te vs σ H1 D Qd := by
  refine lc_rel wk (fun _ => true) R mono hn hD hG (fun i x H H' ys hi sm hys y N M h1 h2 => hs i x H H' ys hi sm hys y N M fun z H4 s4 r => h1 z H4 rfl s4 r) (fun H' ys sm hys pr => hd H' ys sm hys ?_)
  have e1 : (List.range n).filter (fun _ => true) = List.range n := List.filter_eq_self.mpr fun _ _ => rfl
  rw [e1] at pr
  exact pr
/-- items told by the turn's number, none left out -/
theorem lc_fn (wk : Walk J n G Y) (f : Nat → V) (hn : n < 1000000) (hD : H1 D = none) (hG : ∀ H', Same H1 H' → G H')
    (hs : ∀ i x H H' ys, i < n → Same H1 H → H D = some (.lst ys) → Y i H x H' → ∀ (N : V → Hp → Prop) (M : Hp → Prop), (∀ H4, Same H H4 → N (f i) H4) →
      g x (wipe σ vs) H' fun σ2 H2 => wipe σ2 vs = wipe σ vs ∧ tt σ2 H2 fun b H3 => if b = true then te σ2 H3 N else M H3)
    (hd : ∀ H', Same H1 H' → H' D = some (.lst ((List.range n).map f)) → Qd H') : LcW J g tt te vs σ H1 D Qd := by
  refine lc_rel wk (fun _ => true) (fun i y _ => y = f i) (fun _ _ _ _ _ h => h) hn hD hG (fun i x H H' ys hi sm hys y N M h1 h2 => ?_) (fun H' ys sm hys pr => ?_)
  · exact hs i x H H' ys hi sm hys y N M fun H4 s4 => h1 (f i) H4 rfl s4 rfl
  · refine hd H' sm ?_
    have e : ys = (List.range n).map f := by
      have e1 : (List.range n).filter (fun _ => true) = List.range n := List.filter_eq_self.mpr fun _ _ => rfl
      rw [e1] at pr
      clear hys hd hs
      generalize List.range n = l at pr
      induction pr with
      | nil => rfl
      | cons h _ ih => rw [List.map_cons, ← ih, h]
    rw [hys, e]
theorem all_range_map {α : Type} (xs : List α) (q : α → Bool) (d : α) : ((List.range xs.length).map fun i => q (xs.getD i d)).all id = xs.all q := by
  have e : (List.range xs.length).map (fun i => q (xs.getD i d)) = xs.map q := by
    refine List.ext_getElem (by simp) fun i h1 h2 => ?_
    simp at h1 h2
    simp [h2]
  rw [e, List.all_map]
  rfl
end
end Wd

namespace Wd
open PySem PySem.Spec PyProof.Rows L2
/-! ### boards.py: are_rows -/
def hasDot (c : Nat) (x : V) : Bool := match x with
  | .str z => z.cps.toList.getD c 0 == 111
  | _ => false
def areRowsB (o : Option (List V)) : Bool := match o with
  | some (.str z :: xs) => (decide (xs.length + 1 ≤ 10)) && ((decide (1 ≤ z.length) && decide (z.length ≤ 10)) && ((.str z :: xs : List V).all (isRowB · (z.length : Int)) && (List.range z.length).all fun c => (.str z :: xs : List V).any (hasDot c)))
  | _ => false
def spAreRows (K : PySem.W.Frag) : Sp := fun vs H Q _ => ∃ (v : V) (o : Option (List V)), vs = [v] ∧ TupT K H v o ∧ (∀ xs, o = some xs → ∀ x ∈ xs, StrT K H x) ∧ ∀ H', Same H H' → Q (.bl (areRowsB o)) H'
abbrev sAreRows : Stmt := topS 16
abbrev nmAreRows : List Str := ["value", "width", "row", "column"]
theorem scAreRows : FnScope nmAreRows ["value"] (defScope sAreRows) := ⟨rfl, rfl, rfl, by decide +kernel, rfl, by decide +kernel, by decide +kernel⟩
theorem not_str {K : PySem.W.Frag} {H : Hp} {v : V} {t : Value} (ty : TyX K H v t) (hk : PySem.W.kitOne K t (.type "str") = some false) : ∀ z, v ≠ .str z := by
  rintro z rfl
  cases ty with
  | base b =>
    cases b
    rw [kit_ty (a := "str") (b := "str") (r := true) (by decide +kernel)] at hk
    cases hk
theorem StrT.same {K : PySem.W.Frag} {H H' : Hp} {v : V} (x : Same H H') (h : StrT K H v) : StrT K H' v := by
  rcases h with h | ⟨t, ty, hk⟩
  · exact Or.inl h
  · refine Or.inr ⟨t, ?_, hk⟩
    cases ty with
    | base b =>
      refine .base ?_
      cases b with
      | non => exact .non
      | bl y => exact .bl y
      | int y => exact .int y
      | str y => exact .str y
      | flt y => exact .flt y
      | lst e => exact .lst (x _ _ e)
      | frz e => exact .frz (x _ _ e)
      | tup e => exact .tup (x _ _ e)
      | dK e => exact .dK (x _ _ e)
      | dT e => exact .dT (x _ _ e)
      | ins e c h1 h2 h3 h4 => exact .ins (x _ _ e) c h1 h2 h3 h4
    | byt y => exact .byt y
    | set e => exact .set (x _ _ e)
    | kList e c => exact .kList e c
    | kTuple e c => exact .kTuple e c
    | kDict e c => exact .kDict e c
    | fTuple e => exact .fTuple (x _ _ e)
    | fDict e => exact .fDict (x _ _ e)
theorem Same.sqT {K : PySem.W.Frag} {H H' : Hp} {a : Addr} {xs : List V} (e : Same H H') (h : SqT K H a xs) : SqT K H' a xs := by
  rcases h with (h | ⟨o, h⟩) | h
  · exact .inl (.inl (e _ _ h))
  · exact .inl (.inr ⟨o, e _ _ h⟩)
  · exact .inr h
theorem in_dots (cs : List Nat) : inV (.str stO) (cs.map fun c => V.str ⟨#[c]⟩) = cs.any (· == 111) := by
  unfold inV
  rw [List.any_map]
  congr 1
  funext c
  show ((⟨#[c]⟩ : Str) == stO) = (c == 111)
  rw [stO_eq, show (⟨#[c]⟩ : Str) = SX.S [c] from rfl, show (⟨#[111]⟩ : Str) = SX.S [111] from rfl, SX.S_beq]
  cases h : (c == 111) with
  | true =>
    rw [eq_of_beq h]
    rfl
  | false =>
    refine beq_eq_false_iff_ne.mpr fun z => ?_
    injection z with z _
    exact absurd z (beq_eq_false_iff_ne.mp h)
section
variable {P : Program} {w : World} {K : PySem.W.Frag} {mg : Str → Option Value} {base : Heap} {f : Addr} {fd : FuncData} {CX : CXT}
theorem ok_arerows (F : FnP K "are_rows" sAreRows f fd) (T : Bt mg) (B : Bc mg) (U : Cl P w K mg base CX0 1 "is_tuple" ["value", "most"] (spIsTup K)) (R : Cl P w K mg base CX0 1 "is_row" ["value", "width"] (spIsRow K)) :
    FnOk P w K mg base CX 2 f fd ["value"] (spAreRows K) := by
  obtain ⟨t1, mD⟩ := B.dot
  obtain ⟨t2, mR⟩ := B.mostR
  obtain ⟨t3, mC⟩ := B.mostC
  refine F.ok scAreRows (fun vs H Q E h => ?_) (fun cdv A outer s H vs Q E hr h => ?_)
  · obtain ⟨v, o, rfl, _⟩ := h
    rfl
  · obtain ⟨v, o, rfl, ho, hi, k⟩ := h
    refine ⟨_, PSs.nox (pss_cons (ps_if (PW.pt (pw_or (pt_not (pt_val (pe_call U.ok hr (by rfl) U.mg U.kp U.b .nil pass0 (pa_cons (pv 0) (pa_cons (pe_glob (v := .int 10) (by rfl) mR ⟨_, rfl⟩) pa_nil)))))
        (pw_or1 (pt_not (pt_val (pe_callB call_isi (by rfl) T.isi boot_isinstance (pa_cons (pe_ix ix_tup (pv 0) pe_int (fun _ _ => rfl)) (pa_cons (pe_bltn (v := .ty "str") (by rfl) T.str boot_str rfl) pa_nil)))))))) (pss_one (ps_ret pe_bl)) pss_nil)
      (pss_cons (ps_set (i := 1) scAreRows.nd rfl (Or.inr rfl) (pe_callB call_len_str (by rfl) T.len PySem.boot_len (pa_cons (pe_ix ix_tup (pv 0) pe_int (fun _ _ => rfl)) pa_nil)))
      (pss_cons (ps_if (PW.pt (pw_or (pt_not (pt_chain op_le op_le pe_int (pv 1) (pe_glob (v := .int 10) (by rfl) mC ⟨_, rfl⟩)))
        (pw_or1 (pt_not (pt_val (pe_callB (cr_all rfl) (by rfl) T.all boot_all (pa_cons (pe_lc (own := [("row", 2)]) (g := gName 2) (tt := tYes) (te := tCall (spIsRow K) [] E0 (tCons (tVar 2) (tCons (tVar 1) tNil))) rfl scAreRows.nd (pi_tup (pv 0)) (blkOk_by (N := nmAreRows) (sc := defScope sAreRows) (by decide +kernel))
          (fun _ _ _ _ _ => pg_name (i := 2) scAreRows.nd rfl (Or.inl rfl)) (fun _ _ _ _ _ => pts_nil) (fun _ _ _ _ _ => pe_call R.ok hr (by rfl) R.mg R.kp R.b .nil pass0 (pa_cons (pv 2) (pa_cons (pv 1) pa_nil)))) pa_nil))))))) (pss_one (ps_ret pe_bl)) pss_nil)
      (pss_one (ps_ret (pe_callB (cr_all rfl) (by rfl) T.all boot_all (pa_cons (pe_lc (own := [("column", 3)]) (g := gName 3) (tt := tYes) (te := tOp (rIn K false) (tC (.str stO)) (tLc (iTup K (tVar 0)) (gName 2) tYes (tOp rIxS (tVar 2) (tVar 3)) [2])) rfl scAreRows.nd
          (pi_range1 (by rfl) T.range (pa_cons (pv 1) pa_nil)) (blkOk_by (N := nmAreRows) (sc := defScope sAreRows) (by decide +kernel))
          (fun _ _ _ _ _ => pg_name (i := 3) scAreRows.nd rfl (Or.inr rfl)) (fun _ _ _ _ _ => pts_nil) (fun _ _ _ _ _ => pe_cmpR (r := rIn K false) op_in_seq (pe_glob (v := .str stO) (by rfl) mD ⟨_, rfl⟩)
            (pe_lc (own := [("row", 2)]) (g := gName 2) (tt := tYes) (te := tOp rIxS (tVar 2) (tVar 3)) rfl scAreRows.nd (pi_tup (pv 0)) (blkOk_by (N := nmAreRows) (sc := { kind := .function, names := [(".0", .local), ("column", .cell), ("DOT", .globalImplicit), ("value", .cell)], isGenerator := false, isCoroutine := false }) (by decide +kernel))
              (fun _ _ _ _ _ => pg_name (i := 2) scAreRows.nd rfl (Or.inl rfl)) (fun _ _ _ _ _ => pts_nil) (fun _ _ _ _ _ => pe_ix ix_str (pv 2) (pv 3) (fun _ _ => rfl))) (by rfl))) pa_nil))))))), ?_⟩
    have kf : ∀ b : Bool, areRowsB o = b → ∀ H', Same H H' → Q (.bl b) H' := fun b e H' sm => by
      have := k H' sm
      rw [e] at this
      exact this
    refine ⟨_, rfl, v, 10, o, rfl, ho, _, rfl, ?_⟩
    cases o with
    | none => exact iteT (kf false rfl H (Same.refl H))
    | some xs =>
      obtain ⟨a, rfl, hs, ty⟩ := ho
      cases xs with
      | nil => exact iteT (kf false rfl H (Same.refl H))
      | cons x0 xs =>
        show if (!(decide (1 ≤ ((x0 :: xs).length : Int)) && decide (((x0 :: xs).length : Int) ≤ 10))) = true then _ else _
        have e1 : decide (1 ≤ ((x0 :: xs).length : Int)) = true := decide_eq_true (by rw [List.length_cons]; omega)
        rw [e1, Bool.true_and]
        by_cases h10 : xs.length + 1 ≤ 10
        · rw [show decide (((x0 :: xs).length : Int) ≤ 10) = true from decide_eq_true (by rw [List.length_cons]; omega)]
          refine iteF ?_
          rcases hi _ rfl x0 (List.mem_cons_self ..) with ⟨z, rfl, hz⟩ | ⟨t0, ty0, hk0⟩
          · refine ⟨_, rfl, a, _, 0, .str z, rfl, rfl, hs, at0 _ _, _, _, _, _, _, rfl, .ty _, .base (.str z), kit_ty (r := true) (by decide +kernel), _, rfl, ?_⟩
            refine iteF ?_
            -- width = len(value[0])
            refine ⟨_, rfl, a, _, 0, .str z, rfl, rfl, hs, at0 _ _, z, rfl, Nat.le_trans hz (by decide), ?_⟩
            refine ⟨_, rfl, _, _, rfl, rfl, _, rfl, ?_⟩
            by_cases hw1 : 1 ≤ z.length
            · rw [show decide ((1 : Int) ≤ (z.length : Int)) = true from decide_eq_true (by omega)]
              refine iteT ?_
              refine ⟨_, _, rfl, rfl, _, rfl, ?_⟩
              by_cases hw10 : z.length ≤ 10
              · rw [show decide ((z.length : Int) ≤ 10) = true from decide_eq_true (by omega)]
                refine iteF ?_
                -- all([is_row(row, width) for row in value])
                refine ⟨_, rfl, a, rfl, ⟨_, hs⟩, fun D hD => ?_⟩
                refine lc_fn (walk_tup (xs := V.str z :: xs)) (fun i => V.bl (isRowB ((V.str z :: xs).getD i .non) (z.length : Int))) (by rw [List.length_cons]; omega) hD (fun H' sm => Same.sqT sm hs) ?_ ?_
                · rintro i x H2 H3 ys hi2 sm hd ⟨rfl, hx⟩ N M hN
                  refine ⟨rfl, yes_go ?_⟩
                  have hg : (V.str z :: xs).getD i .non = x := by
                    rw [List.getD_eq_getElem?_getD, hx]
                    rfl
                  rw [hg] at hN
                  exact ⟨_, rfl, _, rfl, x, _, rfl, StrT.same sm (hi _ rfl x (List.mem_of_getElem? hx)), hN⟩
                · intro H2 sm2 hd2
                  have eall : ((List.range (V.str z :: xs).length).map fun i => isRowB ((V.str z :: xs).getD i .non) (z.length : Int)).all id = (V.str z :: xs).all (isRowB · (z.length : Int)) := all_range_map _ (fun x => isRowB x (z.length : Int)) .non
                  have hd3 : H2 D = some (.lst (((List.range (V.str z :: xs).length).map fun i => isRowB ((V.str z :: xs).getD i .non) (z.length : Int)).map V.bl)) := by
                    rw [hd2, List.map_map]
                    rfl
                  refine ⟨D, _, rfl, SqL.of hd3, _, rfl, ?_⟩
                  rw [eall]
                  cases hall : (V.str z :: xs).all (isRowB · (z.length : Int)) with
                  | false =>
                    refine iteT (kf false ?_ H2 sm2)
                    show (decide (xs.length + 1 ≤ 10) && ((decide (1 ≤ z.length) && decide (z.length ≤ 10)) && ((V.str z :: xs).all (isRowB · (z.length : Int)) && _))) = false
                    rw [hall, Bool.false_and, Bool.and_false, Bool.and_false]
                  | true =>
                    refine iteF ?_
                    -- all([DOT in [..] for column in range(width)])
                    refine ⟨_, rfl, _, rfl, by omega, by omega, fun D2 hD2 => ?_⟩
                    refine lc_fn (walk_range (lo := 0)) (fun c => V.bl ((V.str z :: xs).any (hasDot c))) (by omega) hD2 (fun _ _ => trivial) ?_ ?_
                    · rintro c x H3 H4 ys hc sm3 hd4 ⟨rfl, rfl⟩ N M hN
                      have hc' : c < z.length := by omega
                      refine ⟨rfl, yes_go ?_⟩
                      have hs3 : SqT K H4 a (V.str z :: xs) := Same.sqT sm3 (Same.sqT sm2 hs)
                      refine ⟨_, rfl, a, rfl, ⟨_, hs3⟩, fun D3 hD3 => ?_⟩
                      refine lc_fn (walk_tup (xs := V.str z :: xs)) (fun i => match (V.str z :: xs).getD i .non with | .str y => V.str ⟨#[y.cps.toList.getD c 0]⟩ | _ => .non) (by rw [List.length_cons]; omega) hD3 (fun H' sm => Same.sqT sm hs3) ?_ ?_
                      · rintro i x H5 H6 ys2 hi5 sm5 hd5 ⟨rfl, hx⟩ N2 M2 hN2
                        refine ⟨rfl, yes_go ?_⟩
                        have hg : (V.str z :: xs).getD i .non = x := by
                          rw [List.getD_eq_getElem?_getD, hx]
                          rfl
                        rw [hg] at hN2
                        have hr1 : isRowB x (z.length : Int) = true := List.all_eq_true.mp hall x (List.mem_of_getElem? hx)
                        cases x with
                        | str y =>
                          have hl : y.length = z.length := by
                            have h3 := (Bool.and_eq_true_iff.mp hr1).1
                            have := of_decide_eq_true h3
                            omega
                          have hl2 : c < y.cps.toList.length := by
                            rw [Array.length_toList]
                            show c < y.length
                            omega
                          refine ⟨_, rfl, _, rfl, y, _, y.cps.toList.getD c 0, rfl, rfl, ?_, ?_, hN2 H6 (Same.refl H6)⟩
                          · rw [hl]
                            exact Nat.le_trans hz (by decide)
                          · rw [Int.zero_add]
                            refine atI_nat ?_
                            rw [List.getD_eq_getElem?_getD, List.getElem?_eq_getElem hl2]
                            rfl
                        | non => cases hr1
                        | bl _ => cases hr1
                        | int _ => cases hr1
                        | byt _ => cases hr1
                        | flt _ => cases hr1
                        | ref _ => cases hr1
                        | ty _ => cases hr1
                      · intro H5 sm5 hd5
                        have hstr : ∀ x ∈ V.str z :: xs, ∃ y : Str, x = .str y := fun x hx => by
                          have hr1 : isRowB x (z.length : Int) = true := List.all_eq_true.mp hall x hx
                          cases x with
                          | str y => exact ⟨y, rfl⟩
                          | _ => cases hr1
                        have ecol : (List.range (V.str z :: xs).length).map (fun i => match (V.str z :: xs).getD i .non with | .str y => V.str ⟨#[y.cps.toList.getD c 0]⟩ | _ => .non) =
                            ((V.str z :: xs).map fun x => match x with | .str y => y.cps.toList.getD c 0 | _ => 0).map fun c => V.str ⟨#[c]⟩ := by
                          refine List.ext_getElem (by simp) fun i h1 h2 => ?_
                          simp only [List.length_map, List.length_range] at h1 h2
                          obtain ⟨y, hy⟩ := hstr _ (List.getElem_mem h2)
                          simp only [List.getElem_map, List.getElem_range, List.getD_eq_getElem?_getD, List.getElem?_eq_getElem h2, Option.getD_some]
                          rw [hy]
                        rw [ecol] at hd5
                        refine ⟨D3, _, rfl, .inl (SqL.of hd5), rfl, ?_, ?_⟩
                        · rw [List.all_map, List.all_eq_true]
                          intro x _
                          rfl
                        · show N (.bl (inV (.str stO) _)) H5
                          rw [in_dots]
                          have e5 : (((V.str z :: xs).map fun x => match x with | .str y => y.cps.toList.getD c 0 | _ => 0).any (· == 111)) = (V.str z :: xs).any (hasDot c) := by
                            rw [List.any_map]
                            refine any_on fun x hx => ?_
                            obtain ⟨y, rfl⟩ := hstr x hx
                            rfl
                          rw [e5]
                          exact hN H5 sm5
                    · intro H3 sm3 hd4
                      have hd5 : H3 D2 = some (.lst (((List.range z.length).map fun c => (V.str z :: xs).any (hasDot c)).map V.bl)) := by
                        rw [hd4, List.map_map]
                        rfl
                      refine ⟨D2, _, rfl, SqL.of hd5, ?_⟩
                      have ef : areRowsB (some (V.str z :: xs)) = ((List.range z.length).map fun c => (V.str z :: xs).any (hasDot c)).all id := by
                        show (decide (xs.length + 1 ≤ 10) && ((decide (1 ≤ z.length) && decide (z.length ≤ 10)) && ((V.str z :: xs).all (isRowB · (z.length : Int)) && _))) = _
                        rw [hall, decide_eq_true h10, decide_eq_true hw1, decide_eq_true hw10, List.all_map]
                        rfl
                      exact kf _ ef H3 (sm2.trans sm3)
              · rw [show decide ((z.length : Int) ≤ 10) = false from decide_eq_false (by omega)]
                refine iteT (kf false ?_ H (Same.refl H))
                show (decide (xs.length + 1 ≤ 10) && ((decide (1 ≤ z.length) && decide (z.length ≤ 10)) && _)) = false
                rw [decide_eq_false hw10, Bool.and_false, Bool.false_and, Bool.and_false]
            · rw [show decide ((1 : Int) ≤ (z.length : Int)) = false from decide_eq_false (by omega)]
              refine iteF ?_
              refine ⟨_, rfl, ?_⟩
              refine iteT (kf false ?_ H (Same.refl H))
              show (decide (xs.length + 1 ≤ 10) && ((decide (1 ≤ z.length) && decide (z.length ≤ 10)) && _)) = false
              rw [decide_eq_false hw1, Bool.false_and, Bool.false_and, Bool.and_false]
          · refine ⟨_, rfl, a, _, 0, x0, rfl, rfl, hs, at0 _ _, _, _, _, _, _, rfl, .ty _, ty0, hk0, _, rfl, ?_⟩
            refine iteT (kf false ?_ H (Same.refl H))
            cases x0 with
            | str z => exact absurd rfl (not_str ty0 hk0 z)
            | _ => rfl
        · rw [show decide (((x0 :: xs).length : Int) ≤ 10) = false from decide_eq_false (by rw [List.length_cons]; omega)]
          refine iteT (kf false ?_ H (Same.refl H))
          cases x0 with
          | str z =>
            show (decide (xs.length + 1 ≤ 10) && _) = false
            rw [decide_eq_false h10, Bool.false_and]
          | _ => rfl
end
end Wd

namespace Wd
open PySem PySem.Spec PyProof.Rows L2
/-! ### {k: v for ..} whose keys are tuples of ints and texts -/
/-- d[t] = v behind a comprehension's turn -/
theorem dt_set {X : Cx} {pn : List (Addr × Obj)} {σ : L2.St} {H : Hp} {s : Shared} {E : Value → Shared → Prop} {D b : Addr} {kvs : List (List Key × V)} {k : List Key} {v : V} {r : Value} {Q : Unit → Shared → Prop} (hu : X.A.units + 1 < cLine) (I : Inv X pn σ H s) (eD : H D = some (.dT kvs)) (eb : H b = some (.tup (k.map kV)))
    (hz : kvs.length < sizeLine) (rv : RelV v r) (go : ∀ s', Inv X pn σ (upd H D (.dT (putK kvs k v))) s' → Q () s') : wpAny (model X.prog X.w) X.A (dictSet D (.ref b) r) Q E s := by
  obtain ⟨_, nd, xs, rel, dd⟩ := dt_of I.hok eD
  have lx : xs.length ≤ sizeLine := by
    rw [← Paired.length rel]
    exact Nat.le_of_lt hz
  have lk : (putK kvs k v).length ≤ sizeLine := by
    have := length_putK kvs k v
    omega
  refine wpAny_dictSet_heap (hsz := lx) (Nat.lt_of_succ_lt hu) (key_of I.hok eb) dd fun h1 d1 sb => go _ ?_
  obtain ⟨q, es, ep, hq, h2, h3, h4, _, h5⟩ := d1
  refine d_write I (by rw [eD]; exact True.intro) sb ⟨q, hq⟩ ⟨lk, nd, _, (rel.put k eb rv).keeps fun c ys ec => ?_, q, es, ep, hq, h2, h3, h4, h5⟩
  rw [upd_ne (ne_of ec eD fun z => nomatch z)]
  exact ec
section
variable {X : Cx}
/-- the reading: D the new dict; a turn's key is a tuple that is tracked -/
def tDt (wi : TI) (g : TG) (tt : TT) (tk tv : TE) (vs : List Nat) : TE := fun σ H Q => wi σ H fun J Hn => ∀ D, Hn D = none → ∃ W : Nat → Nat → Hp → Prop, (∃ m, W 0 m (upd Hn D (.dT []))) ∧ ∀ i m Ha, W i m Ha →
  (J.stop i Ha ∧ Q (.ref D) Ha) ∨ (J.go i Ha ∧ ∃ Nx : Hp → Prop, (∀ Hb, Nx Hb → ∃ m', m' < m ∧ W (i + 1) m' Hb) ∧ ∀ x Hb, J.yld i Ha x Hb → g x (wipe σ vs) Hb fun σc Hc => wipe σc vs = wipe σ vs ∧ tt σc Hc fun b Hd =>
    if b = true then tk σc Hd fun y He => tv σc He fun z Hf => ∃ kvs k c, y = .ref c ∧ Hf c = some (.tup (k.map kV)) ∧ Hf D = some (.dT kvs) ∧ kvs.length < sizeLine ∧ Nx (upd Hf D (.dT (putK kvs k z))) else Nx Hd)
theorem pe_dt {kx vx tg iter : Expr} {ifs : List Expr} {scope : Scope} {own : List (Str × Nat)} {pos : Pos} {wi : TI} {g : TG} {tt : TT} {tk tv : TE} (hu : X.A.units + 1 < cLine) (hc : X.calm = true) (hN : X.N.Nodup) (hi : PI X tg iter wi) (ok : BlkOk X.N X.env.scope scope own)
    (hg : ∀ (s : Shared) (H : Hp) (C : Addr) (cl : List (Str × Addr)) (fp : List Addr), PG (X.blk s H scope (compEnvC scope cl C X.env) fp) tg g)
    (ht : ∀ (s : Shared) (H : Hp) (C : Addr) (cl : List (Str × Addr)) (fp : List Addr), PTs (X.blk s H scope (compEnvC scope cl C X.env) fp) ifs tt)
    (hk : ∀ (s : Shared) (H : Hp) (C : Addr) (cl : List (Str × Addr)) (fp : List Addr), PE (X.blk s H scope (compEnvC scope cl C X.env) fp) kx tk)
    (hv : ∀ (s : Shared) (H : Hp) (C : Addr) (cl : List (Str × Addr)) (fp : List Addr), PE (X.blk s H scope (compEnvC scope cl C X.env) fp) vx tv) (hs : ∀ x, foldedSetIterable iter X.env x = pure x := by intro _; rfl) :
    PE X (.DictComp kx vx [⟨tg, iter, ifs, 0⟩] scope pos) (tDt wi g tt tk tv (own.map (·.2))) := by
  refine ⟨fun pn s σ H Q I hq => ?_⟩
  rw [arm_eval_DictComp]
  have hfree : ∀ y ∈ scope.names, y.2 = .free → ∃ c, X.env.cells.lookup y.1 = some c := fun y hy e => (ok.free y hy e).elim (fun z => I.ok.has _ (.inl z)) (fun z => I.ok.has _ (.inr z))
  refine wpAny_comprehension_free (use := none) rfl hs (closure_ok hfree) ok.kind (fun y hy e => by rw [ok.uniq y hy, e]) (thn (hi.run pn s σ H _ I hq) fun xv sa hx => thn hx fun itv sb hb => ?_)
  obtain ⟨it, fp, tn, J, Hb, rfl, Ib, T, stb, fb, q⟩ := hb
  refine wpAny_newObj_type (newEnv_comp ?_)
  generalize eD : sb.heap.objs.size = D
  have fD : Hb D = none := Ib.hok.fresh (Nat.le_of_eq eD)
  obtain ⟨W, ⟨m0, w0⟩, turn⟩ := q D fD
  generalize es : ({ sb with heap := sb.heap.push { cls := .type "dict", data := .dict #[] } } : Shared) = sc
  have hpc : sc.heap = sb.heap.push { cls := .type "dict", data := .dict #[] } := by rw [← es]
  have Ic : Inv X pn σ (upd Hb D (.dT [])) sc := by
    rw [← es]
    refine Ib.laid (t' := sb.toks) (fun b o e => Heap.get?_push_of_some _ e) (Nat.le_of_eq eD) ?_
    rw [← eD]
    exact dt_empty sb.heap Ib.big
  have fc : ∀ b ∈ fp, FpOk X pn (upd Hb D (.dT [])) b ∧ b < sc.heap.objs.size := fun b hb => by
    obtain ⟨o, e, _⟩ := T.obj _ _ stb b hb
    have lt := Heap.lt_size e
    refine ⟨⟨?_, (fb b hb).2⟩, by rw [hpc, Heap.size_push]; exact Nat.lt_succ_of_lt lt⟩
    rw [upd_ne (by rw [← eD]; exact Nat.ne_of_lt lt)]
    exact (fb b hb).1
  have stc : tn 0 sc.heap := T.keep _ _ _ stb fun b _ o e => by rw [hpc]; exact Heap.get?_push_of_some _ e
  have Id := block_start Ic ok hN fc
  have pg := hg sc (upd Hb D (.dT [])) sc.heap.objs.size (cellsFrom (sc.heap.objs.size + 1) scope.names (cloFrom X.env.cells scope.names [])) fp
  have pt := ht sc (upd Hb D (.dT [])) sc.heap.objs.size (cellsFrom (sc.heap.objs.size + 1) scope.names (cloFrom X.env.cells scope.names [])) fp
  have pk := hk sc (upd Hb D (.dT [])) sc.heap.objs.size (cellsFrom (sc.heap.objs.size + 1) scope.names (cloFrom X.env.cells scope.names [])) fp
  have pv' := hv sc (upd Hb D (.dT [])) sc.heap.objs.size (cellsFrom (sc.heap.objs.size + 1) scope.names (cloFrom X.env.cells scope.names [])) fp
  show codeAny _ _ (.compStart (.DictComp kx vx [⟨tg, iter, ifs, 0⟩] scope pos) 0 (.ref it) (.ref D) (compEnvC scope (cellsFrom (sc.heap.objs.size + 1) scope.names (cloFrom X.env.cells scope.names [])) sc.heap.objs.size X.env)) (compPost (model X.prog X.w) X.A X.xe none (EP X pn σ Q) (.ref D) sc.heap.objs.size)
    { sc with heap := pushCells (sc.heap.push { cls := .type "dict", data := .dict #[] }) scope.names }
  have nfp : ∀ b ∈ fp, (upd Hb D (.dT [])) b = none := fun b hb => (fc b hb).1.1
  generalize ece : compEnvC scope (cellsFrom (sc.heap.objs.size + 1) scope.names (cloFrom X.env.cells scope.names [])) sc.heap.objs.size X.env = ce at Id pg pt pk pv' ⊢
  have lce : ce.locals = sc.heap.objs.size := by
    subst ece
    rfl
  generalize eHc : upd Hb D (.dT []) = Hc at Ic Id pg pt pk pv' w0 nfp fc
  generalize esd : ({ sc with heap := pushCells (sc.heap.push { cls := .type "dict", data := .dict #[] }) scope.names } : Shared) = sd at Id ⊢
  have std : tn 0 sd.heap := T.keep _ _ _ stc fun b _ o e => by rw [← esd]; exact pushCells_keeps _ _ _ _ (Heap.get?_push_of_some _ e)
  have fpo : ∀ {σ' : L2.St} {H' : Hp} {s' : Shared}, Inv (X.blk sc Hc scope ce fp) [] σ' H' s' → (∀ b ∈ fp, H' b = none) → ∀ b ∈ fp, FpOk (X.blk sc Hc scope ce fp) [] H' b := fun {σ' H' s'} I' hn b hb =>
    ⟨hn b hb, (I'.ok.exf b hb).1, I'.ok.exfs b hb, .inl hb, fun x c e => (I'.ok.exf b hb).2 x c e, fun p hp => nomatch (show p ∈ ([] : List (Addr × Obj)) ++ [] from hp)⟩
  have loop : codeAny (model X.prog X.w) X.A (.compLoop (.DictComp kx vx [⟨tg, iter, ifs, 0⟩] scope pos) 0 (.ref it) (.ref D) ce) (compPost (model X.prog X.w) X.A X.xe none (EP X pn σ Q) (.ref D) sc.heap.objs.size) sd := by
    refine compLoop_anyD (fun n s' => ∃ i H', Inv (X.blk sc Hc scope ce fp) [] (wipe σ (own.map (·.2))) H' s' ∧ tn i s'.heap ∧ (∀ b ∈ fp, H' b = none) ∧ W i n H') ?_ m0 ⟨0, Hc, Id, std, nfp, w0⟩
    rintro n se ⟨i, He, Ie, ste, ne, we⟩
    rcases turn i n He we with ⟨stop, fin⟩ | ⟨go, Nx, hNx, step⟩
    · refine thnF (T.done (X.blk sc Hc scope ce fp) rfl rfl rfl hc i [] se _ He (fun _ _ => False) Ie (fpo Ie ne) ste stop) fun r sf ⟨hr, If⟩ => ?_
      subst hr
      have Ig : Inv X pn σ He sf := Ic.call' (ch := fp) If.os If.base If.hok If.bare fun b hb => ⟨(fc b hb).1.2.2.2.1, (fc b hb).1.2.1, (fc b hb).1.2.2.2.2.1, (fc b hb).1.2.2.2.2.2⟩
      have nC : He sc.heap.objs.size = none := by
        have z : He ce.locals = none := If.free
        rwa [lce] at z
      obtain ⟨m, hn, _⟩ := If.loc
      have hn2 : sf.heap.Ns ce.locals m := hn
      rw [lce] at hn2
      obtain ⟨f0, f1, f2, f3, f4, f5⟩ := Ic.fpOk (Nat.le_refl _) nC
      exact ⟨m, hn2, fun h'' sm => ⟨.ref D, He, Ig.turned (t' := sf.toks) (fun b o hb e => (sm.2 b hb).trans e) f0 f1 f3 f4 f5, rfl, fin⟩⟩
    · refine thnF (T.item (X.blk sc Hc scope ce fp) rfl rfl rfl hc i [] se _ He (fun _ _ => False) Ie (fpo Ie ne) ste go) fun r sf ⟨u, hr, hf⟩ => ?_
      subst hr
      refine thnF hf fun _ sg ⟨x, Hg, Ig, rg, yg, stg, ng⟩ => ?_
      refine thnF (pg.run _ sg _ Hg x u _ (Ig.pinned (fpo Ig ng) (T.obj _ _ stg)) rg (step x Hg yg)) fun _ sh ⟨σh, Hh, Ih, wh, qh⟩ => ?_
      refine thnF (pt.run _ sh σh Hh _ Ih qh) fun b sj ⟨Hj, Ij, qj⟩ => ?_
      have fin : ∀ {s' : Shared} {H' : Hp}, Inv (X.blk sc Hc scope ce fp) ([] ++ pinsAt fp sg.heap) σh H' s' → Nx H' → ∃ m, m < n ∧ ∃ i H', Inv (X.blk sc Hc scope ce fp) [] (wipe σ (own.map (·.2))) H' s' ∧ tn i s'.heap ∧ (∀ b ∈ fp, H' b = none) ∧ W i m H' := fun {s' H'} I' nx => by
        obtain ⟨m', hm, w'⟩ := hNx H' nx
        have pin : ∀ b ∈ fp, ∀ o, sg.heap.get? b = some o → s'.heap.get? b = some o ∧ H' b = none := fun b hb o e =>
          have z := I'.pin (b, o) (List.mem_append_right _ (List.mem_append_right _ (mem_pinsAt hb e)))
          ⟨z.1, z.2.1⟩
        refine ⟨m', hm, i + 1, H', (I'.unpinned (pins := [])).weak (by rw [← wh, wipe_length]) (fun j v e => ?_), T.keep _ _ _ stg fun b hb o e => (pin b hb o e).1, fun b hb => ?_, w'⟩
        · rw [← wh] at e
          exact (wipe_some e).1
        · obtain ⟨o, e, _⟩ := T.obj _ _ stg b hb
          exact (pin b hb o e).2
      cases b with
      | false =>
        simp only [Bool.false_eq_true, if_false] at qj ⊢
        exact fin Ij qj
      | true =>
        simp only [if_true] at qj ⊢
        refine thnF (pk.run _ sj σh Hj _ Ij qj) fun z sk ⟨yk, Hk, Ik, rk, qk⟩ => ?_
        refine thnF (pv'.run _ sk σh Hk _ Ik qk) fun z2 sl ⟨yv, Hl, Il, rl, kvs, k, c, ec, et, ed, hz, nx⟩ => ?_
        subst ec
        cases (show z = Value.ref c from rk)
        exact dt_set (X := X.blk sc Hc scope ce fp) hu Il ed et hz rl fun sm Im => fin Im nx
  exact codeAny_compStart_dict loop (T.self X.A 0 _ _ _ std loop)
end
end Wd

namespace Wd
open PySem PySem.Spec PyProof.Rows L2
/-! ### comprehensions of two clauses -/
/-- all is kept but what stands at D -/
def SameD (D : Addr) (H H' : Hp) : Prop := Same (hide D H) (hide D H')
theorem SameD.refl (D : Addr) (H : Hp) : SameD D H H := Same.refl _
theorem SameD.trans {D : Addr} {H H1 H2 : Hp} (a : SameD D H H1) (b : SameD D H1 H2) : SameD D H H2 := L2.Same.trans a b
theorem SameD.of {D : Addr} {H H' : Hp} (x : Same H H') : SameD D H H' := hide_same x
theorem SameD.upd {D : Addr} {H : Hp} {o : HO} : SameD D H (L2.upd H D o) := by
  unfold SameD
  rw [hide_upd]
  exact Same.refl _
theorem SameD.at_ {D b : Addr} {H H' : Hp} {o : HO} (x : SameD D H H') (hb : b ≠ D) (e : H b = some o) : H' b = some o := by
  have q : hide D H b = some o := by
    rw [hide_ne hb]
    exact e
  have r := x b o q
  rw [hide_ne hb] at r
  exact r
theorem SameD.same {D : Addr} {H H' : Hp} (x : SameD D H H') (hD : H D = none) : Same H H' := fun b o e => x.at_ (ne_of_none e hD) e
/-- the second clause's loop: behind it Nx -/
abbrev InW (J1 : It) (g1 : TG) (tt1 : TT) (te : TE) (vs1 : List Nat) (σ2 : L2.St) (H4 : Hp) (D : Addr) (Nx : Hp → Prop) : Prop :=
  ∃ W1 : Nat → Nat → Hp → Prop, (∃ m, W1 0 m H4) ∧ ∀ j k H, W1 j k H →
      (J1.stop j H ∧ Nx H) ∨ (J1.go j H ∧ ∃ Nx1 : Hp → Prop, (∀ H', Nx1 H' → ∃ k', k' < k ∧ W1 (j + 1) k' H') ∧ ∀ x H', J1.yld j H x H' → g1 x (wipe σ2 vs1) H' fun σ3 H5 => wipe σ3 vs1 = wipe σ2 vs1 ∧ tt1 σ3 H5 fun b H6 =>
        if b = true then te σ3 H6 fun y H7 => ∃ acc, H7 D = some (.lst acc) ∧ acc.length < sizeLine ∧ Nx1 (upd H7 D (.lst (acc ++ [y]))) else Nx1 H6)
theorem lc2_in {J1 : It} {m : Nat} {G1 : Hp → Prop} {Y1 : Nat → Hp → V → Hp → Prop} {g1 : TG} {tt1 : TT} {te : TE} {vs1 : List Nat} {σ2 : L2.St} {H4 : Hp} {D : Addr} {Nx : Hp → Prop} {ys0 : List V} (wk : Walk J1 m G1 Y1) (keep : Nat → Bool) (R : Nat → V → Hp → Prop) (mono : ∀ i y H H', Same H H' → R i y H → R i y H')
    (h4 : H4 D = some (.lst ys0)) (hl : ys0.length + m < 1000000) (hG : ∀ H', SameD D H4 H' → G1 H')
    (hs : ∀ j x H H' ys, j < m → SameD D H4 H → H D = some (.lst ys) → Y1 j H x H' → ∀ (N : V → Hp → Prop) (M : Hp → Prop), (∀ y H7, keep j = true → Same H H7 → R j y (hide D H7) → N y H7) → (∀ H6, keep j = false → Same H H6 → M H6) →
      g1 x (wipe σ2 vs1) H' fun σ3 H5 => wipe σ3 vs1 = wipe σ2 vs1 ∧ tt1 σ3 H5 fun b H6 => if b = true then te σ3 H6 N else M H6)
    (hd : ∀ H' ys, SameD D H4 H' → H' D = some (.lst (ys0 ++ ys)) → Paired (fun j y => R j y (hide D H')) ((List.range m).filter keep) ys → Nx H') : InW J1 g1 tt1 te vs1 σ2 H4 D Nx := by
  refine ⟨fun j k H => k = m - j ∧ j ≤ m ∧ SameD D H4 H ∧ ∃ ys, H D = some (.lst (ys0 ++ ys)) ∧ Paired (fun j y => R j y (hide D H)) ((List.range j).filter keep) ys, ⟨m, by simp, Nat.zero_le _, SameD.refl D H4, [], by rw [h4, List.append_nil], .nil⟩, ?_⟩
  rintro j k H ⟨rfl, hj, sm, ys, hys, pr⟩
  have len : (ys0 ++ ys).length < sizeLine := by
    have h1 := Paired.length pr
    have h2 := List.length_filter_le keep (List.range j)
    rw [List.length_range] at h2
    rw [List.length_append]
    have h3 : (1000000 : Nat) ≤ sizeLine := by decide
    omega
  by_cases hlt : j < m
  · refine .inr ⟨wk.goes j H hlt (hG H sm), fun H' => j + 1 ≤ m ∧ SameD D H4 H' ∧ ∃ ys, H' D = some (.lst (ys0 ++ ys)) ∧ Paired (fun j y => R j y (hide D H')) ((List.range (j + 1)).filter keep) ys, fun H' p' => ⟨m - (j + 1), by omega, rfl, p'⟩, fun x H' y => ?_⟩
    refine hs j x H H' (ys0 ++ ys) hlt sm hys (wk.yields j H x H' hlt (hG H sm) y) _ _ (fun z H7 hk s7 r => ?_) (fun H6 hk s6 => ?_)
    · refine ⟨ys0 ++ ys, s7 D _ hys, len, hlt, (sm.trans (SameD.of s7)).trans SameD.upd, ys ++ [z], by rw [upd_same, List.append_assoc], ?_⟩
      rw [range_snoc, if_pos hk, hide_upd]
      exact Paired.snoc (Paired.mapP pr fun a b q => mono a b _ _ (hide_same s7) q) r
    · refine ⟨hlt, sm.trans (SameD.of s6), ys, s6 D _ hys, ?_⟩
      rw [range_snoc, if_neg (by rw [hk]; exact Bool.false_ne_true), List.append_nil]
      exact Paired.mapP pr fun a b q => mono a b _ _ (hide_same s6) q
  · have e : j = m := by omega
    subst e
    exact .inl ⟨wk.stops H (hG H sm), hd H ys sm hys pr⟩
/-- the places (i, j) of the turns that give something -/
def places (n : Nat) (m : Nat → Nat) (keep : Nat → Nat → Bool) : List (Nat × Nat) := (List.range n).flatMap fun i => ((List.range (m i)).filter (keep i)).map fun j => (i, j)
theorem places_snoc (n : Nat) (m : Nat → Nat) (keep : Nat → Nat → Bool) : places (n + 1) m keep = places n m keep ++ ((List.range (m n)).filter (keep n)).map fun j => (n, j) := by
  unfold places
  rw [List.range_succ, List.flatMap_append]
  simp
theorem Paired.app {α β : Type} {F : α → β → Prop} : ∀ {l₁ l₃ : List α} {l₂ l₄ : List β}, Paired F l₁ l₂ → Paired F l₃ l₄ → Paired F (l₁ ++ l₃) (l₂ ++ l₄)
  | _, _, _, _, .nil, h => h
  | _, _, _, _, .cons r t, h => .cons r (Paired.app t h)
theorem Paired.mapL {α α' β : Type} {F : α' → β → Prop} {φ : α → α'} : ∀ {l₁ : List α} {l₂ : List β}, Paired (fun a b => F (φ a) b) l₁ l₂ → Paired F (l₁.map φ) l₂
  | _, _, .nil => .nil
  | _, _, .cons r t => .cons r (Paired.mapL t)
theorem places_len (m : Nat → Nat) (keep : Nat → Nat → Bool) (b : Nat) (hm : ∀ i, m i ≤ b) : ∀ n, (places n m keep).length ≤ n * b
  | 0 => by simp [places]
  | n + 1 => by
    rw [places_snoc, List.length_append, List.length_map]
    have h1 := places_len m keep b hm n
    have h2 := List.length_filter_le (keep n) (List.range (m n))
    rw [List.length_range] at h2
    have h3 := hm n
    rw [Nat.add_mul]
    omega
theorem lc2_rel {J : It} {n : Nat} {G : Hp → Prop} {Y : Nat → Hp → V → Hp → Prop} {g g1 : TG} {tt tt1 : TT} {wi1 : TI} {te : TE} {vs vs1 : List Nat} {σ : L2.St} {H1 : Hp} {D : Addr} {Qd : Hp → Prop} (wk : Walk J n G Y) (m : Nat → Nat) (keep : Nat → Nat → Bool) (R : Nat → Nat → V → Hp → Prop)
    (mono : ∀ i j y H H', Same H H' → R i j y H → R i j y H') (b : Nat) (hm : ∀ i, m i ≤ b) (hn : n * b + b < 1000000) (hD : H1 D = none) (hG : ∀ H', Same H1 H' → G H')
    (hs : ∀ i x H H' ys, i < n → Same H1 H → H D = some (.lst ys) → ys.length + b < 1000000 → Y i H x H' → ∀ (Nx : Hp → Prop), (∀ H'' zs, SameD D H H'' → H'' D = some (.lst (ys ++ zs)) → Paired (fun j y => R i j y (hide D H'')) ((List.range (m i)).filter (keep i)) zs → Nx H'') →
      g x (wipe σ vs) H' fun σ2 H2 => wipe σ2 vs = wipe σ vs ∧ tt σ2 H2 fun b H3 => if b = true then wi1 σ2 H3 fun J1 H4 => InW J1 g1 tt1 te vs1 σ2 H4 D Nx else Nx H3)
    (hd : ∀ H' ys, Same H1 H' → H' D = some (.lst ys) → Paired (fun (p : Nat × Nat) y => R p.1 p.2 y (hide D H')) (places n m keep) ys → Qd H') :
    ∃ W : Nat → Nat → Hp → Prop, (∃ m, W 0 m (upd H1 D (.lst []))) ∧ ∀ i m H, W i m H →
      (J.stop i H ∧ Qd H) ∨ (J.go i H ∧ ∃ Nx : Hp → Prop, (∀ H', Nx H' → ∃ m', m' < m ∧ W (i + 1) m' H') ∧ ∀ x H', J.yld i H x H' → g x (wipe σ vs) H' fun σ2 H2 => wipe σ2 vs = wipe σ vs ∧ tt σ2 H2 fun b H3 =>
        if b = true then wi1 σ2 H3 fun J1 H4 => InW J1 g1 tt1 te vs1 σ2 H4 D Nx else Nx H3) := by
  refine ⟨fun i k H => k = n - i ∧ i ≤ n ∧ Same H1 H ∧ ∃ ys, H D = some (.lst ys) ∧ Paired (fun (p : Nat × Nat) y => R p.1 p.2 y (hide D H)) (places i m keep) ys, ⟨n, by simp, Nat.zero_le _, Same.new hD, [], upd_same, .nil⟩, ?_⟩
  rintro i k H ⟨rfl, hi, sm, ys, hys, pr⟩
  by_cases hlt : i < n
  · refine .inr ⟨wk.goes i H hlt (hG H sm), fun H' => i + 1 ≤ n ∧ Same H1 H' ∧ ∃ ys, H' D = some (.lst ys) ∧ Paired (fun (p : Nat × Nat) y => R p.1 p.2 y (hide D H')) (places (i + 1) m keep) ys, fun H' p' => ⟨n - (i + 1), by omega, rfl, p'⟩, fun x H' y => ?_⟩
    have len : ys.length + b < 1000000 := by
      have h1 := Paired.length pr
      have h2 := places_len m keep b hm i
      have h3 : i * b ≤ n * b := Nat.mul_le_mul_right b hi
      omega
    refine hs i x H H' ys hlt sm hys len (wk.yields i H x H' hlt (hG H sm) y) _ fun H'' zs sd hz pz => ?_
    refine ⟨hlt, fun c o e => sd.at_ (ne_of_none e hD) (sm c o e), ys ++ zs, hz, ?_⟩
    rw [places_snoc]
    exact Paired.app (Paired.mapP pr fun p q r => mono _ _ _ _ _ sd r) (Paired.mapL pz)
  · have e : i = n := by omega
    subst e
    exact .inl ⟨wk.stops H (hG H sm), hd H ys sm hys pr⟩
/-- a clause without a test -/
theorem yes_to {σ : L2.St} {H : Hp} {F M : Hp → Prop} (h : F H) : tYes σ H fun b H3 => if b = true then F H3 else M H3 := by
  show if true = true then F H else M H
  exact iteT h
/-- a dict comprehension's loop by a word of the turn and the heap -/
theorem dt_walk {J : It} {n : Nat} {G : Hp → Prop} {Y : Nat → Hp → V → Hp → Prop} {g : TG} {tt : TT} {tk tv : TE} {vs : List Nat} {σ : L2.St} {H1 : Hp} {D : Addr} {Qd : Hp → Prop} (wk : Walk J n G Y) (Pv : Nat → Hp → Prop) (h0 : Pv 0 (upd H1 D (.dT []))) (hG : ∀ i H, i ≤ n → Pv i H → G H)
    (hs : ∀ i x H H', i < n → Pv i H → Y i H x H' → g x (wipe σ vs) H' fun σc Hc => wipe σc vs = wipe σ vs ∧ tt σc Hc fun b Hd =>
      if b = true then tk σc Hd fun y He => tv σc He fun z Hf => ∃ kvs k c, y = .ref c ∧ Hf c = some (.tup (k.map kV)) ∧ Hf D = some (.dT kvs) ∧ kvs.length < sizeLine ∧ Pv (i + 1) (upd Hf D (.dT (putK kvs k z))) else Pv (i + 1) Hd) (hd : ∀ H, Pv n H → Qd H) :
    ∃ W : Nat → Nat → Hp → Prop, (∃ m, W 0 m (upd H1 D (.dT []))) ∧ ∀ i m Ha, W i m Ha →
      (J.stop i Ha ∧ Qd Ha) ∨ (J.go i Ha ∧ ∃ Nx : Hp → Prop, (∀ Hb, Nx Hb → ∃ m', m' < m ∧ W (i + 1) m' Hb) ∧ ∀ x Hb, J.yld i Ha x Hb → g x (wipe σ vs) Hb fun σc Hc => wipe σc vs = wipe σ vs ∧ tt σc Hc fun b Hd =>
        if b = true then tk σc Hd fun y He => tv σc He fun z Hf => ∃ kvs k c, y = .ref c ∧ Hf c = some (.tup (k.map kV)) ∧ Hf D = some (.dT kvs) ∧ kvs.length < sizeLine ∧ Nx (upd Hf D (.dT (putK kvs k z))) else Nx Hd) := by
  refine ⟨fun i m Ha => m = n - i ∧ i ≤ n ∧ Pv i Ha, ⟨n, by simp, Nat.zero_le _, h0⟩, ?_⟩
  rintro i m Ha ⟨rfl, hi, p⟩
  by_cases hlt : i < n
  · exact .inr ⟨wk.goes i Ha hlt (hG i Ha hi p), Pv (i + 1), fun Hb p' => ⟨n - (i + 1), by omega, rfl, hlt, p'⟩, fun x Hb y => hs i x Ha Hb hlt p (wk.yields i Ha x Hb hlt (hG i Ha hi p) y)⟩
  · have e : i = n := by omega
    subst e
    exact .inl ⟨wk.stops Ha (hG i Ha hi p), hd Ha p⟩
end Wd

namespace Wd
open PySem PySem.Spec PyProof.Rows L2
/-! ### a board: its rows, dots, and what it holds -/
def dotsOf (g : List (List Bool)) : List (Nat × Nat) := places g.length (fun i => (g.getD i []).length) fun i j => (g.getD i []).getD j false
abbrev dotV (p : Nat × Nat) : List V := [.int (p.1 : Int), .int (p.2 : Int)]
abbrev dotK (p : Nat × Nat) : List Key := [.inl (p.1 : Int), .inl (p.2 : Int)]
/-- ds are new tuples of the places ps -/
def IsDots (H : Hp) (ps : List (Nat × Nat)) (ds : List V) : Prop := Paired (fun (p : Nat × Nat) (y : V) => ∃ a, y = .ref a ∧ H a = some (.tup (dotV p))) ps ds
theorem IsDots.same {H H' : Hp} {ps : List (Nat × Nat)} {ds : List V} (x : Same H H') (h : IsDots H ps ds) : IsDots H' ps ds := Paired.mapP h fun p y ⟨a, e, q⟩ => ⟨a, e, x _ _ q⟩
abbrev atOf (ps : List (Nat × Nat)) : List (List Key × V) := ps.map fun p => (dotK p, V.bl true)
def fldsB (r d a : Addr) : List (Str × V) := [("own_rows", .ref r), ("own_dots", .ref d), ("own_at", .ref a)]
structure IsBoard (C : Addr) (H : Hp) (b : Addr) (g : List (List Bool)) (t w : Nat) : Prop where
  ex : ∃ dx r d a ds, H b = some (.ins C dx (fldsB r d a)) ∧ H r = some (.tup (rowsV g)) ∧ H d = some (.tup ds) ∧ IsDots H (dotsOf g) ds ∧ H a = some (.dT (atOf (dotsOf g)))
  brd : Brd g t w
theorem IsBoard.same {C b : Addr} {H H' : Hp} {g : List (List Bool)} {t w : Nat} (x : Same H H') (h : IsBoard C H b g t w) : IsBoard C H' b g t w := by
  obtain ⟨⟨dx, r, d, a, ds, h1, h2, h3, h4, h5⟩, hb⟩ := h
  exact ⟨⟨dx, r, d, a, ds, x _ _ h1, x _ _ h2, x _ _ h3, h4.same x, x _ _ h5⟩, hb⟩
/-! plain facts of rows -/
theorem rowS_len (r : List Bool) : (rowS r).length = r.length := by
  unfold rowS
  rw [SX.S_len, List.length_map]
theorem rowS_list (r : List Bool) : (rowS r).cps.toList = r.map cd := by
  unfold rowS
  simp
theorem rowS_is {r : List Bool} (h : true ∈ r) : isRowB (.str (rowS r)) (r.length : Int) = true := by
  show (decide (((rowS r).length : Int) = (r.length : Int)) && (decide (111 ∈ (rowS r).cps.toList) && (rowS r).cps.toList.all isSgn)) = true
  rw [rowS_len, rowS_list, decide_eq_true rfl, decide_eq_true (show 111 ∈ r.map cd from List.mem_map.mpr ⟨true, h, rfl⟩), Bool.true_and, Bool.true_and, List.all_map, List.all_eq_true]
  intro b _
  cases b <;> rfl
theorem rowS_dot (r : List Bool) (c : Nat) : hasDot c (.str (rowS r)) = r.getD c false := by
  show ((rowS r).cps.toList.getD c 0 == 111) = r.getD c false
  rw [rowS_list, List.getD_eq_getElem?_getD, List.getD_eq_getElem?_getD, List.getElem?_map]
  cases h : r[c]? with
  | none => rfl
  | some b => cases b <;> rfl
theorem brd_rows {g : List (List Bool)} {t w : Nat} (h : Brd g t w) : areRowsB (some (rowsV g)) = true := by
  obtain ⟨h1, h2, h3, h4, h5, h6, h7, h8⟩ := h
  cases g with
  | nil =>
    rw [List.length_nil] at h1
    omega
  | cons r0 g =>
    have e0 : r0.length = w := h2 r0 (List.mem_cons_self ..)
    show (decide ((g.map fun r => V.str (rowS r)).length + 1 ≤ 10) && ((decide (1 ≤ (rowS r0).length) && decide ((rowS r0).length ≤ 10)) && ((rowsV (r0 :: g)).all (isRowB · ((rowS r0).length : Int)) && (List.range (rowS r0).length).all fun c => (rowsV (r0 :: g)).any (hasDot c)))) = true
    rw [rowS_len, e0, List.length_map, decide_eq_true (by rw [List.length_cons] at h1; omega), decide_eq_true h7, decide_eq_true h8, Bool.true_and, Bool.true_and, Bool.true_and, Bool.and_eq_true_iff]
    constructor
    · unfold rowsV
      rw [List.all_map, List.all_eq_true]
      intro r hr
      have := rowS_is (h3 r hr)
      rw [h2 r hr] at this
      exact this
    · rw [List.all_eq_true]
      intro c hc
      obtain ⟨r, hr, e⟩ := h4 c (List.mem_range.mp hc)
      unfold rowsV
      rw [List.any_map, List.any_eq_true]
      refine ⟨r, hr, ?_⟩
      show hasDot c (.str (rowS r)) = true
      rw [rowS_dot, List.getD_eq_getElem?_getD, e]
      rfl
theorem places_lt {n : Nat} {m : Nat → Nat} {keep : Nat → Nat → Bool} {p : Nat × Nat} (h : p ∈ places n m keep) : p.1 < n ∧ p.2 < m p.1 ∧ keep p.1 p.2 = true := by
  unfold places at h
  obtain ⟨i, hi, hp⟩ := List.mem_flatMap.mp h
  obtain ⟨j, hj, rfl⟩ := List.mem_map.mp hp
  obtain ⟨h1, h2⟩ := List.mem_filter.mp hj
  exact ⟨List.mem_range.mp hi, List.mem_range.mp h1, h2⟩
theorem places_mem {n : Nat} {m : Nat → Nat} {keep : Nat → Nat → Bool} {i j : Nat} (h1 : i < n) (h2 : j < m i) (h3 : keep i j = true) : (i, j) ∈ places n m keep :=
  List.mem_flatMap.mpr ⟨i, List.mem_range.mpr h1, List.mem_map.mpr ⟨j, List.mem_filter.mpr ⟨List.mem_range.mpr h2, h3⟩, rfl⟩⟩
theorem places_nodup (m : Nat → Nat) (keep : Nat → Nat → Bool) : ∀ n, (places n m keep).Nodup
  | 0 => List.nodup_nil
  | n + 1 => by
    rw [places_snoc]
    refine List.nodup_append.mpr ⟨places_nodup m keep n, ?_, ?_⟩
    · refine List.Pairwise.map _ (fun a b (h : a ≠ b) => ?_) (List.Pairwise.filter _ List.nodup_range)
      intro z
      injection z with _ z
      exact h z
    · intro a ha b hb z
      obtain ⟨j, _, e⟩ := List.mem_map.mp hb
      have := (places_lt ha).1
      rw [z, ← e] at this
      exact absurd this (Nat.lt_irrefl _)
theorem dots_nodup (g : List (List Bool)) : (dotsOf g).Nodup := places_nodup _ _ _
theorem dotK_inj {p q : Nat × Nat} (h : dotK p = dotK q) : p = q := by
  injection h with h1 h2
  injection h2 with h2 _
  injection h1 with h1
  injection h2 with h2
  exact Prod.ext (by omega) (by omega)
theorem at_none {ps : List (Nat × Nat)} {p : Nat × Nat} (h : p ∉ ps) : valV (atOf ps) (dotK p) = none := by
  induction ps with
  | nil => rfl
  | cons q r ih =>
    show valV ((dotK q, V.bl true) :: atOf r) (dotK p) = none
    rw [valV_neg fun z => h (by rw [dotK_inj z]; exact List.mem_cons_self ..)]
    exact ih fun z => h (List.mem_cons_of_mem _ z)
theorem at_some {ps : List (Nat × Nat)} {p : Nat × Nat} (h : p ∈ ps) : valV (atOf ps) (dotK p) = some (.bl true) := by
  induction ps with
  | nil => cases h
  | cons q r ih =>
    show valV ((dotK q, V.bl true) :: atOf r) (dotK p) = some (.bl true)
    by_cases e : dotK q = dotK p
    · rw [valV_pos e]
    · rw [valV_neg e]
      refine ih ((List.mem_cons.mp h).resolve_left fun z => e (by rw [z]))
end Wd

namespace Wd
open PySem PySem.Spec PyProof.Rows L2
/-! ### Board.__init__, for rows of a board -/
/-- the class Board as the top has left it -/
structure BT (K : PySem.W.Frag) (mg : Str → Option Value) (C : Addr) : Prop where
  cl : Cls K C
  nR : NoAttr K C "own_rows"
  nD : NoAttr K C "own_dots"
  nA : NoAttr K C "own_at"
  mgC : mg "Board" = some (.ref C)
def spInitB (C : Addr) : Sp := fun vs H Q _ => ∃ (p r dx : Addr) (g : List (List Bool)) (t w : Nat), vs = [.ref p, .ref r] ∧ H p = some (.ins C dx []) ∧ H r = some (.tup (rowsV g)) ∧ Brd g t w ∧
  ∀ H', (∀ b o, b ≠ p → H b = some o → H' b = some o) → IsBoard C H' p g t w → Q .non H'
abbrev sInitB : Stmt := inClass (topS 17) 0
abbrev nmInitB : List Str := ["self", "rows", "row", "signs", "column", "sign", "dot"]
theorem scInitB : FnScope nmInitB ["self", "rows"] (defScope sInitB) := ⟨rfl, rfl, rfl, by decide +kernel, rfl, by decide +kernel, by decide +kernel⟩
abbrev FnM (K : PySem.W.Frag) (x q : Str) (st : Stmt) (f : Addr) (fd : FuncData) : Prop := FunD K x q (defArgs st) (defBody st) (defScope st) [] [] f fd
abbrev stR : Str := "own_rows"
abbrev stD : Str := "own_dots"
abbrev stA : Str := "own_at"
theorem flds1 (r : Addr) : putF stR (.ref r) [] = [(stR, V.ref r)] := by kernel_rfl
theorem flds2 (r d : Addr) : putF stD (.ref d) [(stR, V.ref r)] = [(stR, V.ref r), (stD, .ref d)] := by kernel_rfl
theorem flds3 (r d a : Addr) : putF stA (.ref a) [(stR, V.ref r), (stD, .ref d)] = fldsB r d a := by kernel_rfl
theorem fldB_r (r d a : Addr) : (fldsB r d a).lookup stR = some (.ref r) := by kernel_rfl
theorem fldB_d (r d a : Addr) : (fldsB r d a).lookup stD = some (.ref d) := by kernel_rfl
theorem fldB_a (r d a : Addr) : (fldsB r d a).lookup stA = some (.ref a) := by kernel_rfl
theorem fldB2_d (r d : Addr) : [(stR, V.ref r), (stD, .ref d)].lookup stD = some (.ref d) := by kernel_rfl
theorem paired_at {α β : Type} {F : α → β → Prop} : ∀ {l₁ : List α} {l₂ : List β} {i : Nat} {a : α} {b : β}, Paired F l₁ l₂ → l₁[i]? = some a → l₂[i]? = some b → F a b
  | _, _, 0, _, _, .cons r _, e1, e2 => by
    cases e1
    cases e2
    exact r
  | _, _, i + 1, _, _, .cons _ t, e1, e2 => paired_at (i := i) t e1 e2
  | _, _, _, _, _, .nil, e1, _ => by simp at e1
theorem rowS_at {r : List Bool} {j : Nat} (hj : j < r.length) : (rowS r).cps.getD j 0 = cd (r.getD j false) := by
  have e1 : (rowS r).cps.getD j 0 = (rowS r).cps.toList.getD j 0 := by simp
  rw [e1, rowS_list, List.getD_eq_getElem?_getD, List.getD_eq_getElem?_getD, List.getElem?_map, List.getElem?_eq_getElem hj]
  rfl
theorem rows_strT {K : PySem.W.Frag} {H : Hp} {g : List (List Bool)} {t w : Nat} (hb : Brd g t w) : ∀ xs, some (rowsV g) = some xs → ∀ x ∈ xs, StrT K H x := by
  intro xs e x hx
  cases e
  obtain ⟨r, hr, rfl⟩ := List.mem_map.mp hx
  refine Or.inl ⟨rowS r, rfl, ?_⟩
  rw [rowS_len, hb.wide r hr]
  have := hb.w10
  omega
theorem rowsV_at (g : List (List Bool)) (i : Nat) (h : i < g.length) : (rowsV g).getD i .non = V.str (rowS (g.getD i [])) := by
  unfold rowsV
  rw [List.getD_eq_getElem?_getD, List.getD_eq_getElem?_getD, List.getElem?_map, List.getElem?_eq_getElem h]
  rfl
theorem brd_m {g : List (List Bool)} {t w : Nat} (hb : Brd g t w) (i : Nat) : (g.getD i []).length ≤ 10 := by
  rw [List.getD_eq_getElem?_getD]
  cases h : g[i]? with
  | none => exact Nat.zero_le _
  | some r =>
    have := hb.wide r (List.mem_of_getElem? h)
    have := hb.w10
    show r.length ≤ 10
    omega
section
variable {P : Program} {w : World} {K : PySem.W.Frag} {mg : Str → Option Value} {base : Heap} {f C : Addr} {fd : FuncData} {CX : CXT}
theorem ok_initB (F : FnM K "__init__" "Board.__init__" sInitB f fd) (T : Bt mg) (B : Bc mg) (Z : BT K mg C) (R : Cl P w K mg base CX0 2 "are_rows" ["value"] (spAreRows K)) : FnOk P w K mg base CX 3 f fd ["self", "rows"] (spInitB C) := by
  obtain ⟨t1, mD⟩ := B.dot
  refine F.ok scInitB (fun vs H Q E h => ?_) (fun cdv A outer s H vs Q E hr h => ?_)
  · obtain ⟨p, r, dx, g, t, w, rfl, _⟩ := h
    rfl
  · obtain ⟨p, r, dx, g, t, wd, rfl, hp, hrw, hb, k⟩ := h
    refine ⟨_, PSs.nox (pss_cons (ps_if (pt_not (pt_val (pe_call R.ok hr (by rfl) R.mg R.kp R.b .nil pass0 (pa_cons (pv 1) pa_nil)))) (pss_one ps_never) pss_nil)
      (pss_cons (ps_fld (pv 0) (pv 1) rfl)
      (pss_cons (ps_fld (pv 0) (pe_callTy call_tuple_of (by rfl) T.tuple boot_tuple (pa_cons
          (pe_lc2 (own := [("row", 2), ("signs", 3), ("column", 4), ("sign", 5)]) (vs1 := [4, 5]) (g := gTup K 2 (gCons (gName 2) (gCons (gName 3) gNil))) (tt := tYes) (wi1 := iEnumS (tCons (tVar 3) tNil)) (g1 := gTup K 2 (gCons (gName 4) (gCons (gName 5) gNil)))
            (tt1 := tTest (tOp rEq (tVar 5) (tC (.str stO)))) (te := tTup (tCons (tVar 2) (tCons (tVar 4) tNil))) rfl scInitB.nd (pi_enumT (by rfl) T.enum (pa_cons (pv 1) pa_nil)) (blkOk_by (N := nmInitB) (sc := defScope sInitB) (by decide +kernel)) (by decide)
            (fun _ _ _ _ _ => pg_tup rfl (pgs_cons (pg_name (i := 2) scInitB.nd rfl (Or.inl rfl)) (pgs_cons (pg_name (i := 3) scInitB.nd rfl (Or.inl rfl)) pgs_nil))) (fun _ _ _ _ _ => pts_nil)
            (fun _ _ _ _ _ => pi_enumS (by rfl) T.enum (pa_cons (pv 3) pa_nil))
            (fun _ _ _ _ _ => pg_tup rfl (pgs_cons (pg_name (i := 4) scInitB.nd rfl (Or.inl rfl)) (pgs_cons (pg_name (i := 5) scInitB.nd rfl (Or.inl rfl)) pgs_nil)))
            (fun _ _ _ _ _ => pts_one (pt_cmpR op_eq (pv 5) (pe_glob (v := .str stO) (by rfl) mD ⟨_, rfl⟩) (nomark _))) (fun _ _ _ _ _ => pe_tup (pa_cons (pv 2) (pa_cons (pv 4) pa_nil)))) pa_nil)) rfl)
      (pss_one (ps_fld (pv 0) (pe_dt (own := [("dot", 6)]) (g := gName 6) (tt := tYes) (tk := tVar 6) (tv := tC (.bl true)) (hu_of hr) rfl scInitB.nd (pi_tup (pe_fld (pv 0) rfl)) (blkOk_by (N := nmInitB) (sc := defScope sInitB) (by decide +kernel))
          (fun _ _ _ _ _ => pg_name (i := 6) scInitB.nd rfl (Or.inl rfl)) (fun _ _ _ _ _ => pts_nil) (fun _ _ _ _ _ => pv 6) (fun _ _ _ _ _ => pe_bl)) rfl))))), ?_⟩
    -- if not are_rows(rows)
    refine ⟨_, rfl, .ref r, some (rowsV g), rfl, ⟨r, rfl, SqT.of hrw, .base (.tup hrw)⟩, rows_strT hb, fun H1 s1 => ⟨_, rfl, ?_⟩⟩
    rw [brd_rows hb]
    refine iteF ?_
    have hp1 := s1 _ _ hp
    have hrw1 := s1 _ _ hrw
    have prn : r ≠ p := ne_of hrw hp (by intro z; cases z)
    -- self.own_rows = rows
    refine ⟨_, rfl, _, rfl, p, C, dx, [], rfl, hp1, Z.cl, Z.nR, by decide, ?_⟩
    rw [flds1]
    have hrw2 : (upd H1 p (.ins C dx [(stR, V.ref r)])) r = some (.tup (rowsV g)) := by
      rw [upd_ne prn]
      exact hrw1
    -- own_dots
    refine ⟨_, rfl, r, _, rfl, SqT.of hrw2, fun D hD => ?_⟩
    generalize hH2 : upd H1 p (.ins C dx [(stR, V.ref r)]) = H2 at hrw2 hD
    have hp2 : H2 p = some (.ins C dx [(stR, V.ref r)]) := by
      rw [← hH2]
      exact upd_same
    have gl : (rowsV g).length = g.length := List.length_map ..
    refine lc2_rel walk_new (fun i => (g.getD i []).length) (fun i j => (g.getD i []).getD j false) (fun i j y H => ∃ a, y = .ref a ∧ H a = some (.tup (dotV (i, j)))) (fun i j y Ha Hb sm ⟨a, e, q⟩ => ⟨a, e, sm _ _ q⟩) 10 (brd_m hb)
      (by rw [gl, hb.tall]; have := hb.t10; omega) hD (fun H' sm => SqT.of (sm _ _ hrw2)) ?_ ?_
    · rintro i x Ha Hb ys hi sma hys hl ⟨T1, rfl, fT, rfl⟩ Nx hNx
      have hi' : i < g.length := by
        rw [← gl]
        exact hi
      have eat := rowsV_at g i hi'
      have nTD : D ≠ T1 := ne_of_none hys fT
      refine ⟨T1, _, rfl, SqT.of upd_same, rfl, _, _, rfl, _, _, rfl, rfl, rfl, yes_to ?_⟩
      refine ⟨_, rfl, rowS (g.getD i []), congrArg (fun z => [z]) eat, ?_⟩
      have esz : (rowS (g.getD i [])).cps.size = (g.getD i []).length := rowS_len _
      refine lc2_in walk_new (fun j => (g.getD i []).getD j false) (fun j y H => ∃ a, y = .ref a ∧ H a = some (.tup (dotV (i, j)))) (fun j y Hc Hd sm ⟨a, e, q⟩ => ⟨a, e, sm _ _ q⟩) (ys0 := ys) ?_ ?_ (fun _ _ => trivial) ?_ ?_
      · rw [upd_ne nTD]
        exact hys
      · rw [esz]
        have := brd_m hb i
        omega
      · rintro j x Hc Hd ys2 hj smc hys2 ⟨T2, rfl, fT2, rfl⟩ N M hN hM
        have hj' : j < (g.getD i []).length := by
          rw [← esz]
          exact hj
        have ecd := rowS_at hj'
        have nD2 : D ≠ T2 := ne_of_none hys2 fT2
        refine ⟨T2, _, rfl, SqT.of upd_same, rfl, _, _, rfl, _, _, rfl, rfl, rfl, ?_⟩
        refine ⟨_, rfl, rfl, _, rfl, ?_⟩
        have edec : decide (V.str ⟨#[(rowS (g.getD i [])).cps.getD j 0]⟩ = V.str stO) = (g.getD i []).getD j false := by
          rw [ecd, stO_eq]
          cases (g.getD i []).getD j false <;> decide
        rw [edec]
        cases hkp : (g.getD i []).getD j false with
        | true =>
          refine iteT ?_
          refine ⟨_, rfl, _, rfl, by show (2 : Nat) ≤ sizeLine; decide, fun q hq => ?_⟩
          refine hN (.ref q) _ hkp (L2.Same.trans (Same.new fT2) (Same.new hq)) ⟨q, rfl, ?_⟩
          have nqD : q ≠ D := fun z => by
            rw [z, upd_ne nD2, hys2] at hq
            cases hq
          rw [hide_ne nqD]
          exact upd_same
        | false => exact iteF (hM _ hkp (Same.new fT2))
      · intro H' zs sd hz pz
        rw [esz] at pz
        exact hNx H' zs ((SameD.of (Same.new fT)).trans sd) hz pz
    · intro H3 ds s3 hds pr
      have isd : IsDots H3 (dotsOf g) ds := by
        unfold dotsOf
        rw [gl] at pr
        exact Paired.mapP pr fun q y ⟨a, e, z⟩ => ⟨a, e, hide_sub _ _ z⟩
      refine ⟨D, ds, rfl, .inl ⟨SqL.of hds, fun d hd => ?_⟩⟩
      have hp3 := s3 _ _ hp2
      have npd : p ≠ d := ne_of_none hp3 hd
      refine ⟨_, rfl, p, C, dx, _, rfl, (by rw [upd_ne npd]; exact hp3), Z.cl, Z.nD, (by show 1 < 1000; decide), ?_⟩
      rw [flds2]
      have hd4 : (upd (upd H3 d (.tup ds)) p (.ins C dx [(stR, V.ref r), (stD, .ref d)])) d = some (.tup ds) := by
        rw [upd_ne npd.symm]
        exact upd_same
      have hp4 : (upd (upd H3 d (.tup ds)) p (.ins C dx [(stR, V.ref r), (stD, .ref d)])) p = some (.ins C dx [(stR, V.ref r), (stD, .ref d)]) := upd_same
      have keep4 : ∀ b o, b ≠ p → H3 b = some o → (upd (upd H3 d (.tup ds)) p (.ins C dx [(stR, V.ref r), (stD, .ref d)])) b = some o := fun b o hb e => by
        rw [upd_ne hb, upd_ne (ne_of_none e hd)]
        exact e
      generalize hH4 : upd (upd H3 d (.tup ds)) p (.ins C dx [(stR, V.ref r), (stD, .ref d)]) = H4 at hd4 hp4 keep4
      have isd4 : IsDots H4 (dotsOf g) ds := Paired.mapP isd fun q y ⟨a, e, z⟩ => ⟨a, e, keep4 _ _ (ne_of z hp3 (by intro z; cases z)) z⟩
      -- own_at
      refine ⟨_, rfl, p, C, dx, _, _, rfl, hp4, Z.cl, Z.nD, fldB2_d r d, d, rfl, ⟨_, SqT.of hd4⟩, fun D2 hD2 => ?_⟩
      have ld : ds.length = (dotsOf g).length := (Paired.length isd4).symm
      have lp : (dotsOf g).length ≤ 100 := by
        have h1 := places_len (fun i => (g.getD i []).length) (fun i j => (g.getD i []).getD j false) 10 (brd_m hb) g.length
        have h2 := hb.t10
        rw [hb.tall] at h1
        show (places g.length _ _).length ≤ 100
        rw [hb.tall]
        omega
      refine dt_walk (walk_tup (xs := ds)) (fun i H' => Same H4 H' ∧ H' D2 = some (.dT (atOf ((dotsOf g).take i)))) ⟨Same.new hD2, upd_same⟩ (fun i H' _ pv => SqT.of (pv.1 _ _ hd4)) ?_ ?_
      · rintro i x Ha Hb hi ⟨sma, hda⟩ ⟨rfl, hx⟩
        have hi' : i < (dotsOf g).length := by
          rw [← ld]
          exact hi
        obtain ⟨a, ea, ha⟩ : ∃ a, x = .ref a ∧ H4 a = some (.tup (dotV (dotsOf g)[i])) := paired_at isd4 (List.getElem?_eq_getElem hi') hx
        subst ea
        refine ⟨rfl, yes_to ?_⟩
        refine ⟨_, rfl, _, dotK (dotsOf g)[i], a, rfl, sma _ _ ha, hda, ?_, ?_, ?_⟩
        · rw [List.length_map, List.length_take]
          exact small1000 (by omega)
        · exact Same.mut sma hD2
        · have enew : valV (atOf ((dotsOf g).take i)) (dotK (dotsOf g)[i]) = none := by
            refine at_none fun z => ?_
            obtain ⟨j, hj, e⟩ := List.mem_iff_getElem.mp z
            rw [List.length_take] at hj
            rw [List.getElem_take] at e
            have := (List.getElem_inj (dots_nodup g)).mp e
            omega
          have esn : atOf ((dotsOf g).take i ++ [(dotsOf g)[i]]) = atOf ((dotsOf g).take i) ++ [(dotK (dotsOf g)[i], V.bl true)] := List.map_append ..
          rw [upd_same, putK_new _ enew, List.take_add_one, List.getElem?_eq_getElem hi', ← esn]
          rfl
      · rintro H5 ⟨s5, hd5⟩
        rw [ld, List.take_length] at hd5
        have hp5 := s5 _ _ hp4
        refine ⟨_, rfl, p, C, dx, _, rfl, hp5, Z.cl, Z.nA, (by show 2 < 1000; decide), ?_⟩
        rw [flds3]
        have ndp : ∀ {b : Addr} {o : HO}, H5 b = some o → o ≠ .ins C dx [(stR, V.ref r), (stD, .ref d)] → b ≠ p := fun e z => ne_of e hp5 z
        refine k _ (fun b o hb e => ?_) ⟨⟨dx, r, d, D2, ds, upd_same, ?_, ?_, ?_, ?_⟩, hb⟩
        · rw [upd_ne hb]
          refine s5 _ _ (keep4 _ _ hb (s3 _ _ ?_))
          rw [← hH2, upd_ne hb]
          exact s1 _ _ e
        · rw [upd_ne prn]
          exact s5 _ _ (keep4 _ _ prn (s3 _ _ hrw2))
        · rw [upd_ne npd.symm]
          exact s5 _ _ hd4
        · exact Paired.mapP isd4 fun q y ⟨a, e, z⟩ => ⟨a, e, by rw [upd_ne (ndp (s5 _ _ z) (by intro q; cases q))]; exact s5 _ _ z⟩
        · rw [upd_ne (ndp hd5 (by intro q; cases q))]
          exact hd5
end
end Wd

namespace Wd
open PySem PySem.Spec PyProof.Rows L2
/-! ### defs that ask for repr: it wants to know that no repr is under way -/
structure FnG (P : Program) (w : World) (K : PySem.W.Frag) (mg : Str → Option Value) (base : Heap) (CX : CXT) (k : Nat) (f : Addr) (fd : FuncData) (ps : List Str) (sp : Sp) : Prop where
  len : ∀ vs H Q E, sp vs H Q E → vs.length = ps.length
  run : ∀ (A : Around), A.guards = some [] → ∀ (outer : List Env) (s : Shared) (H : Hp) (args : Args) (us : List Value) (vs : List V) (Q : VK) (E : XK), Room k A → Env0 P w K mg base A outer s H → BindsTo s fd args (ps.zip us) → Vals vs us → sp vs H Q E →
    codeAny (model P w) A (.call (.ref f) args) (CR CX outer P w H s Q E) s
theorem fng_of {CX : CXT} {P : Program} {w : World} {K : PySem.W.Frag} {mg : Str → Option Value} {base : Heap} {k : Nat} {x qual : Str} {pa : Arguments} {bd : List Stmt} {sc : Scope} {dvs : List V} {kws : List (Str × V)} {f : Addr} {fd : FuncData} {N ps : List Str} {sp : Sp} (F : FunD K x qual pa bd sc dvs kws f fd) (S : FnScope N ps sc)
    (len : ∀ vs H Q E, sp vs H Q E → vs.length = ps.length)
    (body : ∀ (cdv : Value) (A : Around) (outer : List Env) (s : Shared) (H : Hp) (vs : List V) (Q : VK) (E : XK), A.guards = some [] → Room k (A.deeper (envOfC qual sc s.heap.objs.size f cdv)) → sp vs H Q E →
      ∃ t, PSs (cxOf CX P w K mg base N qual sc f cdv A outer s H E) bd t ∧ t { nx := fun _ H' => Q .non H', rt := Q } (start N vs) H) : FnG P w K mg base CX (k + 1) f fd ps sp := by
  obtain ⟨oc, od, dV, kV, doc, pm, an, cdv, ct, osl, rfl, lk, hcd, _, _⟩ := F.ex
  refine ⟨len, fun A ga outer s H args us vs Q E room env bind rel pre => ?_⟩
  have kin : K.In s.heap := env.mod.kin.keeps fun b o e => (env.bs b o e).1
  have lim : s.heap.NoLimit := env.mod.nolimit.keeps fun b o e => (env.bs b o e).1
  have par : ∀ y ∈ ps.zip us, sc.names.lookup y.1 = some .local ∨ (sc.names.lookup y.1 = some .cell ∧ ((cellsFrom (s.heap.objs.size + 1) sc.names []).lookup y.1).isSome = true) := fun y hy =>
    (S.par y.1 (List.of_mem_zip (show (y.1, y.2) ∈ ps.zip us from hy)).1).imp id fun q => ⟨q, PySem.W.cellsFrom_some _ _ _ (.inl q)⟩
  refine codeAny_call_function room.depth (kin _ _ lk) rfl S.co S.gen rfl (PySem.W.codeRec_of kin hcd) (bind _ _ _ _ ?_)
  refine wpAny_newFunctionEnv_cells S.kind par fun env' he s1 inC => ?_
  subst he
  refine ⟨lim.keeps inC.toInCall.keep, codeAny_func ?_⟩
  obtain ⟨t, ht, hq⟩ := body cdv A outer s H vs Q E ga (room.deeper _) pre
  have I : Inv (cxOf CX P w K mg base N qual sc f cdv A outer s H E) [] (start N vs) H s1 := inv_start S room.hd env (len _ _ _ _ pre) rel inC
  refine wpAny_mono (ht.run [] s1 (start N vs) H _ I hq) (fun fl s' hs => ?_) fun _ _ z => z
  cases fl with
  | ret u =>
    obtain ⟨v, σ', H', J, rv, q⟩ := hs
    exact ⟨v, H', J.os, J.bare, J.base, J.hok, rv, q⟩
  | next =>
    obtain ⟨σ', H', J, q⟩ := hs
    exact ⟨V.non, H', J.os, J.bare, J.base, J.hok, rfl, q⟩
  | brk => exact False.elim hs.choose_spec.choose_spec.2
  | cont => exact False.elim hs.choose_spec.choose_spec.2
section
variable {X : Cx} {CX : CXT} {k : Nat} {f : Addr} {fd : FuncData} {ps : List Str} {sp : Sp} {E : XK} {x : Str} {p pos : Pos} {e : Expr} {es : List Expr} {t : TA}
theorem run_g {pn : List (Addr × Obj)} {σ : L2.St} {H : Hp} {s : Shared} {Q : VK} {us : List Value} {vs : List V} (ga : X.A.guards = some []) (F : FnG X.prog X.w X.K X.mg X.base CX k f fd ps sp) (hr : Room k X.A) (hb : Binds X.K fd ps []) (hx : Passes CX X E)
    (I : Inv X pn σ H s) (r : Vals vs us) (h : sp vs H Q E) : wpAny (model X.prog X.w) X.A (call (.ref f) us) (EP X pn σ Q) X.xe s := by
  have hl : (us ++ []).length = ps.length := by
    rw [List.append_nil, ← r.length]
    exact F.len _ _ _ _ h
  have bd := hb s us I.kIn hl
  rw [List.append_nil] at bd
  refine wpAny_call (codeAny_mono (F.run X.A ga X.stack s H ⟨us, []⟩ us vs Q E hr I.env0 bd r h) fun res s' hq => ?_)
  cases res with
  | error er => exact hx pn σ H s er s' I hq
  | ok fl =>
    cases fl with
    | ret u => exact I.after hq
    | next => exact False.elim hq
    | brk => exact False.elim hq
    | cont => exact False.elim hq
/-- f(e, ..) for such a def -/
theorem pe_callG (ga : X.A.guards = some []) (F : FnG X.prog X.w X.K X.mg X.base CX k f fd ps sp) (hr : Room k X.A) (hg : Gl X x) (hm : X.mg x = some (.ref f)) (hk : PySem.W.keepIn X.K (.ref f) = true) (hb : Binds X.K fd ps []) (hx : Passes CX X E)
    (ha : PA X (e :: es) t) (hdb : (x == ("__debug__" : Str)) = false := by decide) (he : starEach (e :: es) X.env = (false, eval e X.env) :: starEach es X.env := by rfl) (hpl : (backTo pos (starEach es X.env)).any (·.1) = false := by rfl) :
    PE X (.Call (.Name x p) (e :: es) [] pos) (fun σ H Q => t σ H fun vs H1 => sp vs H1 Q E) := by
  refine ⟨fun pn s σ H Q I h => ?_⟩
  refine wpAny_Call_Name_kw (ld_glob I hg hm ?_ hdb)
  refine PySem.W.callWith_K (h₀ := X.base) I.ok.mod.kin hk (thn (ha.run pos pn s σ H _ I h) fun us s1 ⟨vs, H1, I1, r, q⟩ => ⟨I1.kIn, ?_⟩) he hpl
  exact run_g ga F hr hb hx I1 r q
/-- repr(v), v any data -/
def rRepr (K : PySem.W.Frag) : List V → Hp → VK → Prop := fun xs H Q => ∃ v d, xs = [v] ∧ Dp K H v d ∧ d.showable = true ∧ SeqAt.shaped d = true ∧ d.shown.length ≤ sizeLine ∧ Q (.str d.shown) H
theorem call_reprD (ga : X.A.guards = some []) (hu : X.A.units + 66 < cLine) : CallR X (.builtin "repr") (rRepr X.K) := by
  intro pn s σ H xs us Q I r h
  obtain ⟨v, d, rfl, hd, sh, sp, hz, q⟩ := h
  obtain ⟨u, rfl, ru⟩ := vals1 r
  have spd : d.canLay0 = true ∧ d.depth ≤ 64 := by
    have z := Bool.and_eq_true_iff.mp sp
    exact ⟨z.1, of_decide_eq_true z.2⟩
  have viaRef : ∀ a, u = Value.ref a → wpAny (model X.prog X.w) X.A (call (.builtin "repr") [u]) (EP X pn σ Q) X.xe s := fun a e => by
    subst e
    obtain ⟨as, rd⟩ := Dp.reads I d v (.ref a) hd ru
    refine repr_of_reads' rd sh (PyData.noDict_hsm (PyData.hasDict_of_canLay d spd.1)) ga (by have := spd.2; omega) (fun b o z => z) (fun h' t tk hk => ?_) hz
    exact ⟨.str d.shown, H, I.kept (t' := tk) hk, ⟨t, rfl⟩, q⟩
  cases hd with
  | non =>
    cases ru
    exact PySem.P.repr_of_none ⟨.str (PyData.none).shown, H, I.tok _, ⟨_, rfl⟩, q⟩
  | bl b =>
    cases ru
    exact PySem.P.repr_of_bool ⟨.str (PyData.bool b).shown, H, I.tok _, ⟨_, rfl⟩, q⟩
  | int i =>
    obtain ⟨t, rfl⟩ := ru
    exact PySem.P.repr_of_int (of_decide_eq_true sh) ⟨.str (PyData.int i).shown, H, I.tok _, ⟨_, rfl⟩, q⟩
  | str z =>
    obtain ⟨t, rfl⟩ := ru
    exact PySem.P.repr_of_str ⟨.str (PyData.str z).shown, H, I.tok _, ⟨_, rfl⟩, q⟩ hz
  | lst h1 h2 =>
    cases ru
    exact viaRef _ rfl
  | tup h1 h2 =>
    cases ru
    exact viaRef _ rfl
end
end Wd

namespace Wd
open PySem PySem.Spec PyProof.Rows L2
/-! ### operators of classes of the program -/
section
variable {X : Cx} {CX : CXT} {k : Nat} {C f : Addr} {fd : FuncData} {ps : List Str} {sp : Sp} {E : XK}
theorem self_rel (b : Addr) : RelV (V.ref b) (Value.ref b) := rfl
theorem inst_of {pn : List (Addr × Obj)} {σ : L2.St} {H : Hp} {s : Shared} {b dx : Addr} {fs : List (Str × V)} (I : Inv X pn σ H s) (h : H b = some (.ins C dx fs)) : ∃ ox od, PySem.W.InstAt s.heap b ox C od := by
  obtain ⟨mA, O, _⟩ := ins_get I.hok h
  obtain ⟨od, J, _⟩ := O.look
  exact ⟨_, _, J⟩
theorem run_in {pn : List (Addr × Obj)} {σ : L2.St} {H : Hp} {s : Shared} {Q : VK} {us : List Value} {vs : List V} (F : FnOk X.prog X.w X.K X.mg X.base CX k f fd ps sp) (hr : Room (k + 1) X.A) (hb : Binds X.K fd ps []) (hx : Passes CX X E)
    (I : Inv X pn σ H s) (r : Vals vs us) (h : sp vs H Q E) : wpAny (model X.prog X.w) X.A.in1 (call (.ref f) us) (EP X pn σ Q) X.xe s := by
  have hl : (us ++ []).length = ps.length := by
    rw [List.append_nil, ← r.length]
    exact F.len _ _ _ _ h
  have bd := hb s us I.kIn hl
  rw [List.append_nil] at bd
  refine wpAny_call (codeAny_mono (F.run X.A.in1 X.stack s H ⟨us, []⟩ us vs Q E hr.in1 I.env0.in1 bd r h) fun res s' hq => ?_)
  cases res with
  | error er => exact hx pn σ H s er s' I hq
  | ok fl =>
    cases fl with
    | ret u => exact I.after hq
    | next => exact False.elim hq
    | brk => exact False.elim hq
    | cont => exact False.elim hq
/-- x in o -/
def rInOwn (C : Addr) (sp : Sp) (E : XK) (neg : Bool) : R2 := fun x y H Q => ∃ b dx fs, y = .ref b ∧ H b = some (.ins C dx fs) ∧ sp [y, x] H (fun z H' => ∃ c, z = .bl c ∧ Q (.bl (neg ^^ c)) H') E
theorem op_in_own (m : Meth X.K C "__contains__" f) (F : FnOk X.prog X.w X.K X.mg X.base CX k f fd ps sp) (hr : Room k X.A) (hb : Binds X.K fd ps []) (hx : Passes CX X E) : OpR X (compareOp .In) (rInOwn C sp E false) := by
  intro pn s σ H x y v u Q I rx ry h
  obtain ⟨b, dx, fs, rfl, hbH, h⟩ := h
  cases ry
  obtain ⟨ox, od, J⟩ := inst_of I hbH
  obtain ⟨ml, hF⟩ := I.fr
  refine PySem.W.in_K hF I.ok.mod.kin J m.at_ m.fn (thn (run_fn F hr hb .nil hx I (.cons (self_rel b) (.cons rx .nil)) h) fun r s' ⟨z, H', I', rz, c, ez, q⟩ => ?_)
  subst ez
  cases rz
  refine wpAny_truthy_bool ⟨.bl c, H', I', rfl, ?_⟩
  cases c <;> exact q
theorem op_notin_own (m : Meth X.K C "__contains__" f) (F : FnOk X.prog X.w X.K X.mg X.base CX k f fd ps sp) (hr : Room k X.A) (hb : Binds X.K fd ps []) (hx : Passes CX X E) : OpR X (compareOp .NotIn) (rInOwn C sp E true) := by
  intro pn s σ H x y v u Q I rx ry h
  obtain ⟨b, dx, fs, rfl, hbH, h⟩ := h
  cases ry
  obtain ⟨ox, od, J⟩ := inst_of I hbH
  obtain ⟨ml, hF⟩ := I.fr
  refine PySem.W.notIn_K hF I.ok.mod.kin J m.at_ m.fn (thn (run_fn F hr hb .nil hx I (.cons (self_rel b) (.cons rx .nil)) h) fun r s' ⟨z, H', I', rz, c, ez, q⟩ => ?_)
  subst ez
  cases rz
  refine wpAny_truthy_bool ⟨.bl (!c), H', I', rfl, ?_⟩
  cases c <;> exact q
/-- ~o -/
theorem un_inv_own (m : Meth X.K C "__invert__" f) (F : FnOk X.prog X.w X.K X.mg X.base CX k f fd ps sp) (hr : Room k X.A) (hb : Binds X.K fd ps []) (hx : Passes CX X E) : UnR X (unaryOp .Invert) (fun x H Q => ∃ b dx fs, x = .ref b ∧ H b = some (.ins C dx fs) ∧ sp [x] H Q E) := by
  intro pn s σ H x v Q I rx h
  obtain ⟨b, dx, fs, rfl, hbH, h⟩ := h
  cases rx
  obtain ⟨ox, od, J⟩ := inst_of I hbH
  obtain ⟨ml, hF⟩ := I.fr
  exact PySem.W.ksp_inv hF I.ok.mod.kin J m.at_ m.fn (run_fn F hr hb .nil hx I (.cons (self_rel b) .nil) h)
/-- len(o) -/
theorem call_len_own (m : Meth X.K C "__len__" f) (F : FnOk X.prog X.w X.K X.mg X.base CX k f fd ps sp) (hr : Room (k + 1) X.A) (hb : Binds X.K fd ps []) (hx : Passes CX X E) :
    CallR X (.builtin "len") (fun xs H Q => ∃ b dx fs, xs = [.ref b] ∧ H b = some (.ins C dx fs) ∧ sp [.ref b] H (fun z H' => ∃ n : Nat, z = .int (n : Int) ∧ n < 1000000 ∧ Q (.int (n : Int)) H') E) := by
  intro pn s σ H xs us Q I r h
  obtain ⟨b, dx, fs, rfl, hbH, h⟩ := h
  obtain ⟨u, rfl, ru⟩ := vals1 r
  cases ru
  obtain ⟨ox, od, J⟩ := inst_of I hbH
  obtain ⟨ml, hF⟩ := I.fr
  refine PySem.W.len_K hF I.ok.mod.kin J m.at_ m.fn (thn (run_in F hr hb hx I (.cons (self_rel b) .nil) h) fun res s' ⟨z, H', I', rz, n, ez, hn, q⟩ => ?_)
  subst ez
  obtain ⟨t, rfl⟩ := rz
  exact ⟨⟨by omega, by omega⟩, .int (n : Int), H', I'.tok _, ⟨_, rfl⟩, q⟩
/-- o == y -/
theorem op_eq_own (m : Meth X.K C "__eq__" f) (F : FnOk X.prog X.w X.K X.mg X.base CX k f fd ps sp) (hr : Room k X.A) (hb : Binds X.K fd ps []) (hx : Passes CX X E) :
    OpR X (compareOp .Eq) (fun x y H Q => ∃ b dx fs t, x = .ref b ∧ H b = some (.ins C dx fs) ∧ TyX X.K H y t ∧ PySem.W.notFirst X.K C t = true ∧ sp [x, y] H (fun z H' => ∃ c, z = .bl c ∧ Q (.bl c) H') E) := by
  intro pn s σ H x y v u Q I rx ry h
  obtain ⟨b, dx, fs, t, rfl, hbH, ty, hn, h⟩ := h
  cases rx
  obtain ⟨ox, od, J⟩ := inst_of I hbH
  obtain ⟨ml, hF⟩ := I.fr
  obtain ⟨Pp, Z, pz, _⟩ := kit_of I ry ty
  show wpAny (model X.prog X.w) X.A (richCompare .Eq (.ref b) u) (EP X pn σ Q) X.xe s
  refine PySem.W.cmp_K (op := .Eq) hr.units0 hF I.ok.mod.kin J (Z.ty _ _ I.kIn pz) hn m.at_ m.fn (thn (run_fn F hr hb .nil hx I (.cons (self_rel b) (.cons ry .nil)) h) fun res s' ⟨z, H', I', rz, c, ez, q⟩ => ?_)
  subst ez
  cases rz
  exact ⟨.bl c, H', I', rfl, q⟩
end
end Wd

namespace Wd
open PySem PySem.Spec PyProof.Rows L2
/-! ### the methods of Board -/
abbrev stCol : Str := Str.ofString "column"
abbrev stRow : Str := Str.ofString "row"
def wiresOf (t w : Nat) : List (Str × Nat) := (List.range w).map (fun c => (stCol, c)) ++ (List.range t).map fun r => (stRow, r)
def IsWires (H : Hp) (ps : List (Str × Nat)) (ds : List V) : Prop := Paired (fun (p : Str × Nat) (y : V) => ∃ a, y = .ref a ∧ H a = some (.tup [.str p.1, .int (p.2 : Int)])) ps ds
def spRowsB (C : Addr) : Sp := fun vs H Q _ => ∃ b g t w, vs = [.ref b] ∧ IsBoard C H b g t w ∧ ∀ r, H r = some (.tup (rowsV g)) → Q (.ref r) H
def spDotsB (C : Addr) : Sp := fun vs H Q _ => ∃ b g t w, vs = [.ref b] ∧ IsBoard C H b g t w ∧ ∀ d ds, H d = some (.tup ds) → IsDots H (dotsOf g) ds → Q (.ref d) H
def spHeightB (C : Addr) : Sp := fun vs H Q _ => ∃ b g t w, vs = [.ref b] ∧ IsBoard C H b g t w ∧ Q (.int (t : Int)) H
def spWidthB (C : Addr) : Sp := fun vs H Q _ => ∃ b g t w, vs = [.ref b] ∧ IsBoard C H b g t w ∧ Q (.int (w : Int)) H
def spLenB (C : Addr) : Sp := fun vs H Q _ => ∃ b g t w, vs = [.ref b] ∧ IsBoard C H b g t w ∧ Q (.int ((dotsOf g).length : Int)) H
def spFullB (C : Addr) : Sp := fun vs H Q _ => ∃ b g t w, vs = [.ref b] ∧ IsBoard C H b g t w ∧ Q (.bl (decide ((dotsOf g).length = t * w))) H
def spWiresB (C : Addr) : Sp := fun vs H Q _ => ∃ b g t w, vs = [.ref b] ∧ IsBoard C H b g t w ∧ ∀ p ys H', H p = none → Same H H' → H' p = some (.tup ys) → IsWires H' (wiresOf t w) ys → Q (.ref p) H'
abbrev sRowsB : Stmt := inClass (topS 17) 1
abbrev sHeightB : Stmt := inClass (topS 17) 2
abbrev sWidthB : Stmt := inClass (topS 17) 3
abbrev sDotsB : Stmt := inClass (topS 17) 4
abbrev sWiresB : Stmt := inClass (topS 17) 5
abbrev sFullB : Stmt := inClass (topS 17) 6
abbrev sLenB : Stmt := inClass (topS 17) 8
abbrev nmSelf : List Str := ["self"]
theorem scRowsB : FnScope nmSelf ["self"] (defScope sRowsB) := ⟨rfl, rfl, rfl, by decide +kernel, rfl, by decide +kernel, by decide +kernel⟩
theorem scHeightB : FnScope nmSelf ["self"] (defScope sHeightB) := ⟨rfl, rfl, rfl, by decide +kernel, rfl, by decide +kernel, by decide +kernel⟩
theorem scWidthB : FnScope nmSelf ["self"] (defScope sWidthB) := ⟨rfl, rfl, rfl, by decide +kernel, rfl, by decide +kernel, by decide +kernel⟩
theorem scDotsB : FnScope nmSelf ["self"] (defScope sDotsB) := ⟨rfl, rfl, rfl, by decide +kernel, rfl, by decide +kernel, by decide +kernel⟩
theorem scFullB : FnScope nmSelf ["self"] (defScope sFullB) := ⟨rfl, rfl, rfl, by decide +kernel, rfl, by decide +kernel, by decide +kernel⟩
theorem scLenB : FnScope nmSelf ["self"] (defScope sLenB) := ⟨rfl, rfl, rfl, by decide +kernel, rfl, by decide +kernel, by decide +kernel⟩
abbrev nmWiresB : List Str := ["self", "number"]
theorem scWiresB : FnScope nmWiresB ["self"] (defScope sWiresB) := ⟨rfl, rfl, rfl, by decide +kernel, rfl, by decide +kernel, by decide +kernel⟩
structure Bw (mg : Str → Option Value) : Prop where
  row : ∃ t, mg "ROW" = some (.str stRow t)
  col : ∃ t, mg "COLUMN" = some (.str stCol t)
theorem rowsV_first {g : List (List Bool)} {t w : Nat} (h : Brd g t w) : ∃ r0 rest, g = r0 :: rest ∧ r0.length = w := by
  cases g with
  | nil =>
    have := h.tall
    have := h.t1
    rw [List.length_nil] at *
    omega
  | cons r0 rest => exact ⟨r0, rest, rfl, h.wide r0 (List.mem_cons_self ..)⟩
theorem dots_le {g : List (List Bool)} {t w : Nat} (hb : Brd g t w) : (dotsOf g).length ≤ 100 := by
  have h1 := places_len (fun i => (g.getD i []).length) (fun i j => (g.getD i []).getD j false) 10 (brd_m hb) g.length
  have h2 := hb.t10
  rw [hb.tall] at h1
  show (places g.length _ _).length ≤ 100
  rw [hb.tall]
  omega
section
variable {P : Program} {w : World} {K : PySem.W.Frag} {mg : Str → Option Value} {base : Heap} {f C : Addr} {fd : FuncData} {CX : CXT}
theorem ok_rowsB (F : FnM K "rows" "Board.rows" sRowsB f fd) (Z : BT K mg C) : FnOk P w K mg base CX 1 f fd ["self"] (spRowsB C) := by
  refine F.ok scRowsB (fun vs H Q E h => ?_) (fun cdv A outer s H vs Q E hr h => ?_)
  · obtain ⟨b, g, t, w, rfl, _⟩ := h
    rfl
  · obtain ⟨b, g, t, w, rfl, ⟨⟨dx, r, d, a, ds, h1, h2, h3, h4, h5⟩, hb⟩, k⟩ := h
    exact ⟨_, PSs.nox (pss_one (ps_ret (pe_fld (pv 0) rfl))), _, rfl, b, C, dx, _, _, rfl, h1, Z.cl, Z.nR, fldB_r _ _ _, k r h2⟩
theorem ok_dotsB (F : FnM K "dots" "Board.dots" sDotsB f fd) (Z : BT K mg C) : FnOk P w K mg base CX 1 f fd ["self"] (spDotsB C) := by
  refine F.ok scDotsB (fun vs H Q E h => ?_) (fun cdv A outer s H vs Q E hr h => ?_)
  · obtain ⟨b, g, t, w, rfl, _⟩ := h
    rfl
  · obtain ⟨b, g, t, w, rfl, ⟨⟨dx, r, d, a, ds, h1, h2, h3, h4, h5⟩, hb⟩, k⟩ := h
    exact ⟨_, PSs.nox (pss_one (ps_ret (pe_fld (pv 0) rfl))), _, rfl, b, C, dx, _, _, rfl, h1, Z.cl, Z.nD, fldB_d _ _ _, k d ds h3 h4⟩
theorem ok_heightB (F : FnM K "height" "Board.height" sHeightB f fd) (Z : BT K mg C) (T : Bt mg) : FnOk P w K mg base CX 1 f fd ["self"] (spHeightB C) := by
  refine F.ok scHeightB (fun vs H Q E h => ?_) (fun cdv A outer s H vs Q E hr h => ?_)
  · obtain ⟨b, g, t, w, rfl, _⟩ := h
    rfl
  · obtain ⟨b, g, t, w, rfl, ⟨⟨dx, r, d, a, ds, h1, h2, h3, h4, h5⟩, hb⟩, k⟩ := h
    refine ⟨_, PSs.nox (pss_one (ps_ret (pe_callB call_len_seq (by rfl) T.len PySem.boot_len (pa_cons (pe_fld (pv 0) rfl) pa_nil)))), _, rfl, b, C, dx, _, _, rfl, h1, Z.cl, Z.nR, fldB_r _ _ _, r, _, rfl, .inr (SqT.of h2), ?_⟩
    have e : (rowsV g).length = t := by rw [rowsV, List.length_map, hb.tall]
    rw [e]
    exact k
theorem ok_widthB (F : FnM K "width" "Board.width" sWidthB f fd) (Z : BT K mg C) (T : Bt mg) : FnOk P w K mg base CX 1 f fd ["self"] (spWidthB C) := by
  refine F.ok scWidthB (fun vs H Q E h => ?_) (fun cdv A outer s H vs Q E hr h => ?_)
  · obtain ⟨b, g, t, w, rfl, _⟩ := h
    rfl
  · obtain ⟨b, g, t, w, rfl, ⟨⟨dx, r, d, a, ds, h1, h2, h3, h4, h5⟩, hb⟩, k⟩ := h
    obtain ⟨r0, rest, rfl, e0⟩ := rowsV_first hb
    refine ⟨_, PSs.nox (pss_one (ps_ret (pe_callB call_len_str (by rfl) T.len PySem.boot_len (pa_cons (pe_ix ix_tup (pe_fld (pv 0) rfl) pe_int (fun _ _ => rfl)) pa_nil)))), _, rfl, b, C, dx, _, _, rfl, h1, Z.cl, Z.nR, fldB_r _ _ _, r, _, 0, _, rfl, rfl, SqT.of h2, at0 _ _, rowS r0, rfl, ?_, ?_⟩
    · rw [rowS_len, e0]
      exact Nat.le_trans hb.w10 (by decide)
    · rw [rowS_len, e0]
      exact k
theorem ok_lenB (F : FnM K "__len__" "Board.__len__" sLenB f fd) (Z : BT K mg C) (T : Bt mg) : FnOk P w K mg base CX 1 f fd ["self"] (spLenB C) := by
  refine F.ok scLenB (fun vs H Q E h => ?_) (fun cdv A outer s H vs Q E hr h => ?_)
  · obtain ⟨b, g, t, w, rfl, _⟩ := h
    rfl
  · obtain ⟨b, g, t, w, rfl, ⟨⟨dx, r, d, a, ds, h1, h2, h3, h4, h5⟩, hb⟩, k⟩ := h
    refine ⟨_, PSs.nox (pss_one (ps_ret (pe_callB call_len_seq (by rfl) T.len PySem.boot_len (pa_cons (pe_fld (pv 0) rfl) pa_nil)))), _, rfl, b, C, dx, _, _, rfl, h1, Z.cl, Z.nD, fldB_d _ _ _, d, _, rfl, .inr (SqT.of h3), ?_⟩
    rw [← Paired.length h4]
    exact k
theorem ok_fullB (F : FnM K "is_full" "Board.is_full" sFullB f fd) (Z : BT K mg C) (T : Bt mg) : FnOk P w K mg base CX 1 f fd ["self"] (spFullB C) := by
  refine F.ok scFullB (fun vs H Q E h => ?_) (fun cdv A outer s H vs Q E hr h => ?_)
  · obtain ⟨b, g, t, w, rfl, _⟩ := h
    rfl
  · obtain ⟨b, g, t, wd, rfl, ⟨⟨dx, r, d, a, ds, h1, h2, h3, h4, h5⟩, hb⟩, k⟩ := h
    have et : (rowsV g).length = t := by rw [rowsV, List.length_map, hb.tall]
    have el := Paired.length h4
    obtain ⟨r0, rest, rfl, e0⟩ := rowsV_first hb
    refine ⟨_, PSs.nox (pss_one (ps_ret (pe_cmpR op_eq (pe_callB call_len_seq (by rfl) T.len PySem.boot_len (pa_cons (pe_fld (pv 0) rfl) pa_nil))
      (pe_op op_mul (pe_callB call_len_seq (by rfl) T.len PySem.boot_len (pa_cons (pe_fld (pv 0) rfl) pa_nil)) (pe_callB call_len_str (by rfl) T.len PySem.boot_len (pa_cons (pe_ix ix_tup (pe_fld (pv 0) rfl) pe_int (fun _ _ => rfl)) pa_nil))) (nomark _)))),
      _, rfl, b, C, dx, _, _, rfl, h1, Z.cl, Z.nD, fldB_d _ _ _, d, _, rfl, .inr (SqT.of h3), _, rfl, b, C, dx, _, _, rfl, h1, Z.cl, Z.nR, fldB_r _ _ _, r, _, rfl, .inr (SqT.of h2), _, rfl, b, C, dx, _, _, rfl, h1, Z.cl, Z.nR, fldB_r _ _ _, r, _, 0, _, rfl, rfl, SqT.of h2, at0 _ _, rowS r0, rfl, ?_, ?_⟩
    · rw [rowS_len, e0]
      exact Nat.le_trans hb.w10 (by decide)
    · refine ⟨_, _, rfl, rfl, .inl ⟨by rw [et]; have := hb.t10; omega, by rw [et]; have := hb.t10; omega⟩, rfl, ?_⟩
      have e : decide (V.int (ds.length : Int) = V.int (((rowsV (r0 :: rest)).length : Int) * ((rowS r0).length : Int))) = decide ((dotsOf (r0 :: rest)).length = t * wd) := by
        rw [et, rowS_len, e0, ← el]
        refine decide_eq_decide.mpr ⟨fun q => ?_, fun q => ?_⟩
        · injection q with q
          have : ((t * wd : Nat) : Int) = (t : Int) * (wd : Int) := Int.natCast_mul t wd
          omega
        · rw [q, Int.natCast_mul]
      show Q (.bl (decide (V.int (ds.length : Int) = V.int (((rowsV (r0 :: rest)).length : Int) * ((rowS r0).length : Int))))) H
      rw [e]
      exact k
theorem ok_wiresB (F : FnM K "wires" "Board.wires" sWiresB f fd) (Z : BT K mg C) (T : Bt mg) (B : Bw mg) : FnOk P w K mg base CX 1 f fd ["self"] (spWiresB C) := by
  obtain ⟨t1, mR⟩ := B.row
  obtain ⟨t2, mC⟩ := B.col
  refine F.ok scWiresB (fun vs H Q E h => ?_) (fun cdv A outer s H vs Q E hr h => ?_)
  · obtain ⟨b, g, t, w, rfl, _⟩ := h
    rfl
  · obtain ⟨b, g, t, wd, rfl, ⟨⟨dx, r, d, a, ds, h1, h2, h3, h4, h5⟩, hb⟩, k⟩ := h
    have et : (rowsV g).length = t := by rw [rowsV, List.length_map, hb.tall]
    obtain ⟨r0, rest, rfl, e0⟩ := rowsV_first hb
    refine ⟨_, PSs.nox (pss_one (ps_ret (pe_tup (StX.pa_star (pe_lc (own := [("number", 1)]) (g := gName 1) (tt := tYes) (te := tTup (tCons (tC (.str stCol)) (tCons (tVar 1) tNil))) rfl scWiresB.nd
        (pi_range1 (by rfl) T.range (pa_cons (pe_callB call_len_str (by rfl) T.len PySem.boot_len (pa_cons (pe_ix ix_tup (pe_fld (pv 0) rfl) pe_int (fun _ _ => rfl)) pa_nil)) pa_nil)) (blkOk_by (N := nmWiresB) (sc := defScope sWiresB) (by decide +kernel))
        (fun _ _ _ _ _ => pg_name (i := 1) scWiresB.nd rfl (Or.inl rfl)) (fun _ _ _ _ _ => pts_nil) (fun _ _ _ _ _ => pe_tup (pa_cons (pe_glob (v := .str stCol) (by rfl) mC ⟨_, rfl⟩) (pa_cons (pv 1) pa_nil))))
      (StX.pa_star (pe_lc (own := [("number", 1)]) (g := gName 1) (tt := tYes) (te := tTup (tCons (tC (.str stRow)) (tCons (tVar 1) tNil))) rfl scWiresB.nd
        (pi_range1 (by rfl) T.range (pa_cons (pe_callB call_len_seq (by rfl) T.len PySem.boot_len (pa_cons (pe_fld (pv 0) rfl) pa_nil)) pa_nil)) (blkOk_by (N := nmWiresB) (sc := defScope sWiresB) (by decide +kernel))
        (fun _ _ _ _ _ => pg_name (i := 1) scWiresB.nd rfl (Or.inl rfl)) (fun _ _ _ _ _ => pts_nil) (fun _ _ _ _ _ => pe_tup (pa_cons (pe_glob (v := .str stRow) (by rfl) mR ⟨_, rfl⟩) (pa_cons (pv 1) pa_nil)))) pa_nil))))), ?_⟩
    refine ⟨_, rfl, b, C, dx, _, _, rfl, h1, Z.cl, Z.nR, fldB_r _ _ _, r, _, 0, _, rfl, rfl, SqT.of h2, at0 _ _, rowS r0, rfl, ?_, ?_⟩
    · rw [rowS_len, e0]
      exact Nat.le_trans hb.w10 (by decide)
    rw [rowS_len, e0]
    have w10 := hb.w10
    have t10 := hb.t10
    refine ⟨(wd : Int), rfl, by omega, by omega, fun D hD => ?_⟩
    refine lc_relA walk_r0 (fun i y H => ∃ a, y = .ref a ∧ H a = some (.tup [.str stCol, .int (i : Int)])) (fun i y Ha Hb sm ⟨a, e, q⟩ => ⟨a, e, sm _ _ q⟩) (by omega) hD (fun _ _ => trivial) ?_ ?_
    · rintro i x Ha Hb ys hi sma hys ⟨rfl, rfl⟩ N M hN
      refine ⟨rfl, yes_go ?_⟩
      refine ⟨_, rfl, by show (2 : Nat) ≤ sizeLine; decide, fun q hq => hN _ _ (Same.new hq) ⟨q, rfl, ?_⟩⟩
      rw [hide_ne (fun z => by rw [z, hys] at hq; cases hq), upd_same]
    · intro H1 ys1 s1 hd1 p1
      refine ⟨D, ys1, rfl, .inr (SqL.of hd1), ?_⟩
      have h1' := s1 _ _ h1
      have h2' := s1 _ _ h2
      refine ⟨_, rfl, b, C, dx, _, _, rfl, h1', Z.cl, Z.nR, fldB_r _ _ _, r, _, rfl, .inr (SqT.of h2'), ?_⟩
      rw [et]
      refine ⟨(t : Int), rfl, by omega, by omega, fun D2 hD2 => ?_⟩
      refine lc_relA walk_r0 (fun i y H => ∃ a, y = .ref a ∧ H a = some (.tup [.str stRow, .int (i : Int)])) (fun i y Ha Hb sm ⟨a, e, q⟩ => ⟨a, e, sm _ _ q⟩) (by omega) hD2 (fun _ _ => trivial) ?_ ?_
      · rintro i x Ha Hb ys hi sma hys ⟨rfl, rfl⟩ N M hN
        refine ⟨rfl, yes_go ?_⟩
        refine ⟨_, rfl, by show (2 : Nat) ≤ sizeLine; decide, fun q hq => hN _ _ (Same.new hq) ⟨q, rfl, ?_⟩⟩
        rw [hide_ne (fun z => by rw [z, hys] at hq; cases hq), upd_same]
      · intro H2 ys2 s2 hd2 p2
        refine ⟨D2, ys2, rfl, .inr (SqL.of hd2), ?_⟩
        have l1 := Paired.length p1
        have l2 := Paired.length p2
        rw [List.length_range] at l1 l2
        refine ⟨?_, fun p hp => ?_⟩
        · rw [List.append_nil, List.length_append]
          exact Nat.le_trans (by omega : ys1.length + ys2.length ≤ 1000) (by decide)
        · rw [List.append_nil]
          refine k p (ys1 ++ ys2) _ (s1.free (s2.free hp)) ((s1.trans s2).trans (Same.new hp)) upd_same ?_
          unfold wiresOf
          have en : ∀ n : Nat, (n : Int).toNat = n := fun n => by omega
          rw [en] at p1 p2
          refine Paired.app (Paired.mapL (Paired.mapP p1 fun i y ⟨a, e, q⟩ => ⟨a, e, Same.new hp _ _ (s2 _ _ (hide_sub _ _ q))⟩)) (Paired.mapL (Paired.mapP p2 fun i y ⟨a, e, q⟩ => ⟨a, e, Same.new hp _ _ (hide_sub _ _ q)⟩))
end
end Wd

namespace Wd
open PySem PySem.Spec PyProof.Rows L2
/-! ### Board: in, == -/
/-- what isinstance asks of a class of the program -/
structure CF (K : PySem.W.Frag) (C : Addr) : Prop where
  ha : PySem.W.findIn K (.ref C) "__class__" = some (some (.builtin "object.__class__"))
  hn : PySem.W.specialIn K (.builtin "object.__class__") "__get__" = some (some (.builtin "getset_descriptor.__get__"))
  htk : PySem.W.takesIn K (.builtin "object.__class__") = some true
  hm : PySem.W.mroIn K C (.type "object") = some true
  ci : (PySem.W.clsIn K C).isSome = true
  ti : PySem.W.typeIn K (.ref C) = some (.type "type")
  nT : PySem.W.kitOne K (.ref C) (.type "tuple") = some false
  nI : PySem.W.kitOne K (.ref C) (.type "int") = some false
  nS : PySem.W.kitOne K (.ref C) (.type "str") = some false
theorem CF.ty {K : PySem.W.Frag} {C a dx : Addr} {fs : List (Str × V)} {H : Hp} (c : CF K C) (cl : Cls K C) (e : H a = some (.ins C dx fs)) : TyX K H (.ref a) (.ref C) := .base (.ins e cl c.ha c.hn c.htk c.hm)
theorem kitSelf {K : PySem.W.Frag} {C : Addr} : PySem.W.kitOne K (.ref C) (.ref C) = some true := by
  unfold PySem.W.kitOne
  rw [if_pos (beq_self_eq_true _)]
/-- a built-in type is not of this class -/
theorem CF.not {K : PySem.W.Frag} {C : Addr} {n : String} (c : CF K C) (h : (PySem.fastBuiltinMro n).map (·.contains (Value.ref C)) = some false) : PySem.W.kitOne K (.type n) (.ref C) = some false := by
  unfold PySem.W.kitOne
  rw [if_neg (by intro z; exact nomatch (eq_of_beq z))]
  show (if ((PySem.W.clsIn K C).isSome && PySem.W.typeIn K (.ref C) == some (.type "type")) = true then PySem.W.subIn K (.type n) (.ref C) else none) = some false
  rw [if_pos (by rw [c.ci, c.ti]; exact beq_self_eq_true _)]
  exact h
theorem mro_int (C : Addr) : (PySem.fastBuiltinMro "int").map (·.contains (Value.ref C)) = some false := by kernel_rfl
theorem mro_bool (C : Addr) : (PySem.fastBuiltinMro "bool").map (·.contains (Value.ref C)) = some false := by kernel_rfl
theorem mro_str (C : Addr) : (PySem.fastBuiltinMro "str").map (·.contains (Value.ref C)) = some false := by kernel_rfl
theorem mro_non (C : Addr) : (PySem.fastBuiltinMro "NoneType").map (·.contains (Value.ref C)) = some false := by kernel_rfl
theorem mro_tup (C : Addr) : (PySem.fastBuiltinMro "tuple").map (·.contains (Value.ref C)) = some false := by kernel_rfl
theorem mro_lst (C : Addr) : (PySem.fastBuiltinMro "list").map (·.contains (Value.ref C)) = some false := by kernel_rfl
theorem mro_dct (C : Addr) : (PySem.fastBuiltinMro "dict").map (·.contains (Value.ref C)) = some false := by kernel_rfl
/-- rows as data -/
def rowsD (g : List (List Bool)) : PyData := .tuple (g.map fun r => .str (rowS r))
theorem dp_strs {K : PySem.W.Frag} {H : Hp} : ∀ zs : List Str, DpAll K H (zs.map V.str) (zs.map PyData.str)
  | [] => .nil
  | z :: zs => .cons (.str z) (dp_strs zs)
theorem dp_rows {K : PySem.W.Frag} {H : Hp} {r : Addr} {g : List (List Bool)} (h : H r = some (.tup (rowsV g))) : Dp K H (.ref r) (rowsD g) := by
  have e1 : rowsV g = (g.map rowS).map V.str := by
    unfold rowsV
    rw [List.map_map]
    rfl
  have e2 : g.map (fun r => PyData.str (rowS r)) = (g.map rowS).map PyData.str := by
    rw [List.map_map]
    rfl
  unfold rowsD
  rw [e2]
  refine .tup (SqT.of h) ?_
  rw [e1]
  exact dp_strs _
theorem rowS_inj {a b : List Bool} (h : rowS a = rowS b) : a = b := by
  have h1 := SX.S_inj h
  clear h
  induction a generalizing b with
  | nil =>
    cases b with
    | nil => rfl
    | cons y b => cases h1
  | cons x a ih =>
    cases b with
    | nil => cases h1
    | cons y b =>
      rw [List.map_cons, List.map_cons] at h1
      injection h1 with h2 h3
      rw [ih h3]
      cases x <;> cases y <;> first | rfl | exact absurd h2 (by decide)
theorem eqv_rows (g g2 : List (List Bool)) : PyData.eqv (rowsD g) (rowsD g2) = decide (g = g2) := by
  show PyData.eqvAll (g.map fun r => .str (rowS r)) (g2.map fun r => .str (rowS r)) = decide (g = g2)
  induction g generalizing g2 with
  | nil =>
    cases g2 with
    | nil => rfl
    | cons y g2 => rfl
  | cons x g ih =>
    cases g2 with
    | nil => rfl
    | cons y g2 =>
      show ((rowS x == rowS y) && PyData.eqvAll (g.map fun r => .str (rowS r)) (g2.map fun r => .str (rowS r))) = _
      rw [ih]
      by_cases e : x = y
      · subst e
        rw [beq_self_eq_true, Bool.true_and]
        exact decide_eq_decide.mpr ⟨fun q => by rw [q], fun q => by injection q⟩
      · rw [beq_eq_false_iff_ne.mpr fun z => e (rowS_inj z), Bool.false_and]
        exact (decide_eq_false fun q => e (by injection q)).symm
theorem strOk_rowS (r : List Bool) : PyData.strOk (rowS r) = true := by
  unfold PyData.strOk
  rw [← Array.all_toList, rowS_list, List.all_map, List.all_eq_true]
  intro b _
  cases b <;> rfl
theorem shaped_rows {g : List (List Bool)} {t w : Nat} (hb : Brd g t w) : SeqAt.shaped (rowsD g) = true := by
  have lay : ∀ l : List (List Bool), (∀ r ∈ l, r.length ≤ 1000) → PyData.canLayAll0 (l.map fun r => .str (rowS r)) = true := by
    intro l
    induction l with
    | nil => intro _; rfl
    | cons x l ih =>
      intro h
      show (PyData.strOk (rowS x) && PyData.canLayAll0 (l.map fun r => .str (rowS r))) = true
      rw [strOk_rowS x, ih fun r hr => h r (List.mem_cons_of_mem _ hr)]
      rfl
  have dep : ∀ l : List (List Bool), PyData.depthAll (l.map fun r => .str (rowS r)) = 0 := by
    intro l
    induction l with
    | nil => rfl
    | cons x l ih =>
      show max 0 (PyData.depthAll (l.map fun r => .str (rowS r))) = 0
      rw [ih]
      rfl
  show (PyData.canLayAll0 (g.map fun r => .str (rowS r)) && decide (PyData.depthAll (g.map fun r => .str (rowS r)) + 1 ≤ 64)) = true
  rw [lay g (fun r hr => by rw [hb.wide r hr]; have := hb.w10; omega), dep]
  rfl
/-- is a pair of these members a dot -/
def contB (g : List (List Bool)) (xs : List V) : Bool := match xs with
  | [.int r, .int c] => (decide (0 ≤ r) && decide (0 ≤ c)) && decide ((r.toNat, c.toNat) ∈ dotsOf g)
  | _ => false
def spContB (K : PySem.W.Frag) (C : Addr) : Sp := fun vs H Q _ => ∃ b g t w v, vs = [.ref b, v] ∧ IsBoard C H b g t w ∧
  ((∃ a xs, v = .ref a ∧ H a = some (.tup xs) ∧ (xs.length = 2 → ∀ x ∈ xs, NumT K H x) ∧ ∀ H', Same H H' → Q (.bl (contB g xs)) H') ∨ (TupT K H v none ∧ Q (.bl false) H))
abbrev sContB : Stmt := inClass (topS 17) 7
abbrev nmContB : List Str := ["self", "value", "number"]
theorem scContB : FnScope nmContB ["self", "value"] (defScope sContB) := ⟨rfl, rfl, rfl, by decide +kernel, rfl, by decide +kernel, by decide +kernel⟩
def spEqB (K : PySem.W.Frag) (C : Addr) : Sp := fun vs H Q _ => ∃ b g t w v, vs = [.ref b, v] ∧ IsBoard C H b g t w ∧
  ((∃ b2 g2 t2 w2, v = .ref b2 ∧ IsBoard C H b2 g2 t2 w2 ∧ Q (.bl (decide (g = g2))) H) ∨ ∃ ty, TyX K H v ty ∧ PySem.W.kitOne K ty (.ref C) = some false ∧ Q (.bl false) H)
abbrev sEqB : Stmt := inClass (topS 17) 10
theorem scEqB : FnScope ["self", "other"] ["self", "other"] (defScope sEqB) := ⟨rfl, rfl, rfl, by decide +kernel, rfl, by decide +kernel, by decide +kernel⟩
/-- is_integer as a call with its default -/
structure ClI (P : Program) (w : World) (K : PySem.W.Frag) (mg : Str → Option Value) (base : Heap) where
  f : Addr
  fd : FuncData
  ds : List Value
  ok : FnOk P w K mg base CX0 1 f fd ["value", "least", "most"] (spIsInt K)
  mg : mg "is_integer" = some (.ref f)
  kp : PySem.W.keepIn K (.ref f) = true
  vd : Vals [.non] ds
  b : Binds K fd ["value", "least", "most"] ds
theorem NumT.same {K : PySem.W.Frag} {H H' : Hp} {v : V} (x : Same H H') (h : NumT K H v) : NumT K H' v := by
  rcases h with h | h | ⟨t, ty, hk⟩
  · exact Or.inl h
  · exact Or.inr (Or.inl h)
  · refine Or.inr (Or.inr ⟨t, ?_, hk⟩)
    cases ty with
    | base b =>
      refine .base ?_
      cases b with
      | non => exact .non
      | bl y => exact .bl y
      | int y => exact .int y
      | str y => exact .str y
      | flt y => exact .flt y
      | lst e => exact .lst (x _ _ e)
      | frz e => exact .frz (x _ _ e)
      | tup e => exact .tup (x _ _ e)
      | dK e => exact .dK (x _ _ e)
      | dT e => exact .dT (x _ _ e)
      | ins e c h1 h2 h3 h4 => exact .ins (x _ _ e) c h1 h2 h3 h4
    | byt y => exact .byt y
    | set e => exact .set (x _ _ e)
    | kList e c => exact .kList e c
    | kTuple e c => exact .kTuple e c
    | kDict e c => exact .kDict e c
    | fTuple e => exact .fTuple (x _ _ e)
    | fDict e => exact .fDict (x _ _ e)
theorem cont_two {g : List (List Bool)} {xs : List V} (h : xs.all (isIntB · 0 .non) = false) : contB g xs = false := by
  unfold contB
  split
  · rename_i r c
    have e : ((decide (0 ≤ r) && true) && ((decide (0 ≤ c) && true) && true)) = false := h
    rw [Bool.and_true, Bool.and_true, Bool.and_true] at e
    rw [e, Bool.false_and]
  · rfl
section
variable {P : Program} {w : World} {K : PySem.W.Frag} {mg : Str → Option Value} {base : Heap} {f C : Addr} {fd : FuncData} {CX : CXT}
theorem ok_contB (F : FnM K "__contains__" "Board.__contains__" sContB f fd) (Z : BT K mg C) (T : Bt mg) (U : Cl P w K mg base CX0 1 "is_pair" ["value"] (spIsPair K)) (N : ClI P w K mg base) : FnOk P w K mg base CX 2 f fd ["self", "value"] (spContB K C) := by
  refine F.ok scContB (fun vs H Q E h => ?_) (fun cdv A outer s H vs Q E hr h => ?_)
  · obtain ⟨b, g, t, w, v, rfl, _⟩ := h
    rfl
  · obtain ⟨b, g, t, wd, v, rfl, hB, hv⟩ := h
    refine ⟨_, PSs.nox (pss_cons (ps_if (PW.pt (pw_or (pt_not (pt_val (pe_call U.ok hr (by rfl) U.mg U.kp U.b .nil pass0 (pa_cons (pv 1) pa_nil))))
        (pw_or1 (pt_not (pt_val (pe_callB (cr_all rfl) (by rfl) T.all boot_all (pa_cons (pe_lc (own := [("number", 2)]) (g := gName 2) (tt := tYes) (te := tCall (spIsInt K) [.non] E0 (tCons (tVar 2) (tCons (tC (.int 0)) tNil))) rfl scContB.nd (pi_tup (pv 1)) (blkOk_by (N := nmContB) (sc := defScope sContB) (by decide +kernel))
          (fun _ _ _ _ _ => pg_name (i := 2) scContB.nd rfl (Or.inl rfl)) (fun _ _ _ _ _ => pts_nil) (fun _ _ _ _ _ => pe_call N.ok hr (by rfl) N.mg N.kp N.b N.vd pass0 (pa_cons (pv 2) (pa_cons pe_int pa_nil)))) pa_nil))))))) (pss_one (ps_ret pe_bl)) pss_nil)
      (pss_one (ps_ret (pe_cmp (pc_din (hu_of hr) (pv 1) (pe_fld (pv 0) rfl)))))), ?_⟩
    rcases hv with ⟨a, xs, rfl, ha, hn, k⟩ | ⟨hT, k⟩
    · refine ⟨_, rfl, .ref a, some xs, rfl, ⟨a, rfl, SqT.of ha, .base (.tup ha)⟩, _, rfl, ?_⟩
      show if (!decide (xs.length = 2)) = true then _ else _
      by_cases h2 : xs.length = 2
      · rw [decide_eq_true h2]
        refine iteF ?_
        refine ⟨_, rfl, a, rfl, ⟨_, SqT.of ha⟩, fun D hD => ?_⟩
        refine lc_fn (walk_tup (xs := xs)) (fun i => V.bl (isIntB (xs.getD i .non) 0 .non)) (by omega) hD (fun H' sm => SqT.of (sm _ _ ha)) ?_ ?_
        · rintro i x H2 H3 ys hi sm hd ⟨rfl, hx⟩ Nn M hN
          refine ⟨rfl, yes_go ?_⟩
          have hg : xs.getD i .non = x := by
            rw [List.getD_eq_getElem?_getD, hx]
            rfl
          rw [hg] at hN
          exact ⟨_, rfl, x, .non, 0, rfl, Or.inl rfl, NumT.same sm (hn h2 x (List.mem_of_getElem? hx)), hN _ (Same.refl _)⟩
        · intro H2 s2 hd2
          have eall : ((List.range xs.length).map fun i => isIntB (xs.getD i .non) 0 .non).all id = xs.all (isIntB · 0 .non) := all_range_map _ (fun x => isIntB x 0 .non) .non
          have hd3 : H2 D = some (.lst (((List.range xs.length).map fun i => isIntB (xs.getD i .non) 0 .non).map V.bl)) := by
            rw [hd2, List.map_map]
            rfl
          refine ⟨D, _, rfl, SqL.of hd3, _, rfl, ?_⟩
          rw [eall]
          cases hall : xs.all (isIntB · 0 .non) with
          | false =>
            refine iteT ?_
            have := k H2 s2
            rw [cont_two hall] at this
            exact this
          | true =>
            refine iteF ?_
            obtain ⟨x, y, rfl⟩ : ∃ x y, xs = [x, y] := by
              cases xs with
              | nil => cases h2
              | cons x xs =>
                cases xs with
                | nil => cases h2
                | cons y xs =>
                  cases xs with
                  | nil => exact ⟨x, y, rfl⟩
                  | cons z xs => simp at h2
            have hx : isIntB x 0 .non = true := List.all_eq_true.mp hall x (by simp)
            have hy : isIntB y 0 .non = true := List.all_eq_true.mp hall y (by simp)
            obtain ⟨r, hr0, rfl⟩ : ∃ r : Int, 0 ≤ r ∧ x = .int r := by
              cases x with
              | int r => exact ⟨r, of_decide_eq_true (Bool.and_eq_true_iff.mp hx).1, rfl⟩
              | _ => cases hx
            obtain ⟨c, hc0, rfl⟩ : ∃ c : Int, 0 ≤ c ∧ y = .int c := by
              cases y with
              | int r => exact ⟨r, of_decide_eq_true (Bool.and_eq_true_iff.mp hy).1, rfl⟩
              | _ => cases hy
            obtain ⟨⟨dx, r', d, at_, ds, h1, h2', h3, h4, h5⟩, hb⟩ := id (hB.same s2)
            have ek : ([V.int r, V.int c] : List V) = (dotK (r.toNat, c.toNat)).map kV := by
              show _ = [V.int ((r.toNat : Nat) : Int), V.int ((c.toNat : Nat) : Int)]
              rw [Int.toNat_of_nonneg hr0, Int.toNat_of_nonneg hc0]
            have ha2 : H2 a = some (.tup ((dotK (r.toNat, c.toNat)).map kV)) := by
              rw [← ek]
              exact s2 _ _ ha
            refine ⟨_, rfl, _, rfl, b, C, dx, _, _, rfl, h1, Z.cl, Z.nA, fldB_a _ _ _, at_, _, rfl, DGet.t h5 ha2, ?_⟩
            have e2 : (valV (atOf (dotsOf g)) (dotK (r.toNat, c.toNat))).isSome = contB g [.int r, .int c] := by
              show _ = ((decide (0 ≤ r) && decide (0 ≤ c)) && decide ((r.toNat, c.toNat) ∈ dotsOf g))
              rw [decide_eq_true hr0, decide_eq_true hc0, Bool.true_and, Bool.true_and]
              by_cases hm : (r.toNat, c.toNat) ∈ dotsOf g
              · rw [at_some hm, decide_eq_true hm]
                rfl
              · rw [at_none hm, decide_eq_false hm]
                rfl
            rw [e2]
            exact k H2 s2
      · rw [decide_eq_false h2]
        refine iteT ?_
        have := k H (Same.refl H)
        have e : contB g xs = false := by
          unfold contB
          split
          · exact absurd rfl h2
          · rfl
        rw [e] at this
        exact this
    · exact ⟨_, rfl, v, none, rfl, hT, _, rfl, iteT k⟩
theorem ok_eqB (F : FnM K "__eq__" "Board.__eq__" sEqB f fd) (Z : BT K mg C) (c : CF K C) (T : Bt mg) : FnOk P w K mg base CX 1 f fd ["self", "other"] (spEqB K C) := by
  refine F.ok scEqB (fun vs H Q E h => ?_) (fun cdv A outer s H vs Q E hr h => ?_)
  · obtain ⟨b, g, t, w, v, rfl, _⟩ := h
    rfl
  · obtain ⟨b, g, t, wd, v, rfl, hB, hv⟩ := h
    refine ⟨_, PSs.nox (pss_one (ps_ret (pe_and (pe_callB call_isi (by rfl) T.isi boot_isinstance (pa_cons (pv 1) (pa_cons (pe_glob (v := .ref C) (by rfl) Z.mgC rfl) pa_nil)))
      (pe_one (pe_cmpR (op_eqD hr.units) (pe_fld (pv 0) rfl) (pe_fld (pv 1) rfl) (nomark _)))))), ?_⟩
    rcases hv with ⟨b2, g2, t2, w2, rfl, hB2, k⟩ | ⟨ty, hty, hk, k⟩
    · obtain ⟨⟨dx, r, d, a, ds, h1, h2, h3, h4, h5⟩, hb⟩ := id hB
      obtain ⟨⟨dx', r', d', a', ds', h1', h2', h3', h4', h5'⟩, hb'⟩ := id hB2
      refine ⟨_, rfl, _, _, _, _, _, rfl, .own C, c.ty Z.cl h1', kitSelf, _, rfl, ?_⟩
      refine iteT ?_
      refine ⟨_, rfl, b, C, dx, _, _, rfl, h1, Z.cl, Z.nR, fldB_r _ _ _, _, rfl, b2, C, dx', _, _, rfl, h1', Z.cl, Z.nR, fldB_r _ _ _, rowsD g, rowsD g2, dp_rows h2, dp_rows h2', shaped_rows hb, shaped_rows hb', ?_⟩
      rw [eqv_rows]
      exact k
    · exact ⟨_, rfl, _, _, _, _, _, rfl, .own C, hty, hk, _, rfl, k⟩
end
end Wd

namespace Wd
open PySem PySem.Spec PyProof.Rows L2
/-! ### zip(*texts) -/
abbrev ZCell (h : Heap) (N n : Nat) (f0 f1 : Value) : Prop := h.get? (N + n + 2) = some { cls := .type "zip", dict := none, data := .fields #[f0, f1, .bool false, .ref (N + n), .ref (N + n + 1)], slots := #[] }
abbrev ZTup (h : Heap) (T : Addr) (vs : Array Value) : Prop := h.get? T = some { cls := .type "tuple", data := .seq vs }
def zits (N n : Nat) : List Value := (List.range n).map fun j => .ref (N + j)
def ZIt (N n : Nat) (zs : Nat → Str) (ts : Nat → Tok) (k i : Nat) (h : Heap) : Prop := ∀ j, j < n → h.IsStrIter (N + j) (strIterType (zs j)) (zs j) (ts j) (if j < k then i + 1 else i)
def ZOwn (f0 f1 : Value) : Prop := (f0 = .none ∨ ∃ T : Nat, f0 = rawInt T) ∧ ∃ b, f1 = .bool b
structure ZOk (N n : Nat) (zs : Nat → Str) (ts : Nat → Tok) (i : Nat) (h : Heap) : Prop where
  cell : ∃ f0 f1, ZCell h N n f0 f1 ∧ ZOwn f0 f1
  ti : ZTup h (N + n) (zits N n).toArray
  to : ∃ a : Array Value, a.size = n ∧ ZTup h (N + n + 1) a
  it : ZIt N n zs ts 0 i h
def ZVals (n : Nat) (zs : Nat → Str) (k i : Nat) (vs : Array Value) : Prop := ∀ j, j < k → ∃ c u, (zs j).cps[i]? = some c ∧ vs[j]? = some (.str ⟨#[c]⟩ u)
theorem ZIt.ext {N n : Nat} {zs : Nat → Str} {ts : Nat → Tok} {k i : Nat} {h h' : Heap} (st : ZIt N n zs ts k i h) (e : ∀ j, j < n → ∀ o, h.get? (N + j) = some o → h'.get? (N + j) = some o) : ZIt N n zs ts k i h' := fun j hj => by
  obtain ⟨o, ho, r⟩ := st j hj
  exact ⟨o, e j hj o ho, r⟩
theorem ZIt.done {N n : Nat} {zs : Nat → Str} {ts : Nat → Tok} {i : Nat} {h : Heap} (st : ZIt N n zs ts n i h) : ZIt N n zs ts 0 (i + 1) h := fun j hj => by
  have := st j hj
  rw [if_pos hj] at this
  rw [if_neg (Nat.not_lt_zero j)]
  exact this
/-- k of the n texts drawn -/
structure ZMid (N n : Nat) (zs : Nat → Str) (ts : Nat → Tok) (i : Nat) (f0 f1 : Value) (hp : Heap) (k : Nat) (h : Heap) : Prop where
  cell : ZCell h N n f0 f1
  ti : ZTup h (N + n) (zits N n).toArray
  to : ∃ a : Array Value, a.size = n ∧ ZTup h (N + n + 1) a
  it : ZIt N n zs ts k i h
  sz : h.objs.size = hp.objs.size
  keep : ∀ c o, (∀ j, j < n + 3 → c ≠ N + j) → hp.get? c = some o → h.get? c = some o
theorem ZMid.draw {N n : Nat} {zs : Nat → Str} {ts : Nat → Tok} {i : Nat} {f0 f1 : Value} {hp h h' : Heap} {k : Nat} (M : ZMid N n zs ts i f0 f1 hp k h) (hk : k < n) (it : ZIt N n zs ts (k + 1) i h') (hs : Heap.SameBut (N + k) h h') : ZMid N n zs ts i f0 f1 hp (k + 1) h' where
  cell := hs.extBut _ _ (fun e => by have : N + n + 2 = N + k := e; omega) M.cell
  ti := hs.extBut _ _ (fun e => by have : N + n = N + k := e; omega) M.ti
  to := let ⟨a, ha, x⟩ := M.to; ⟨a, ha, hs.extBut _ _ (fun e => by have : N + n + 1 = N + k := e; omega) x⟩
  it := it
  sz := hs.1.trans M.sz
  keep := fun c o hc e => hs.extBut _ _ (hc k (by omega)) (M.keep c o hc e)
theorem ZMid.wrote {N n : Nat} {zs : Nat → Str} {ts : Nat → Tok} {i : Nat} {f0 f1 : Value} {hp h h' : Heap} {k : Nat} {a : Array Value} (M : ZMid N n zs ts i f0 f1 hp k h) (ha : a.size = n) (x : ZTup h' (N + n + 1) a) (hs : Heap.SameBut (N + n + 1) h h') : ZMid N n zs ts i f0 f1 hp k h' where
  cell := hs.extBut _ _ (fun e => by have : N + n + 2 = N + n + 1 := e; omega) M.cell
  ti := hs.extBut _ _ (fun e => by have : N + n = N + n + 1 := e; omega) M.ti
  to := ⟨a, ha, x⟩
  it := M.it.ext fun j hj o e => hs.extBut _ _ (fun e => by have : N + j = N + n + 1 := e; omega) e
  sz := hs.1.trans M.sz
  keep := fun c o hc e => hs.extBut _ _ (hc (n + 1) (by omega)) (M.keep c o hc e)
theorem ZMid.field {N n : Nat} {zs : Nat → Str} {ts : Nat → Tok} {i : Nat} {f0 f1 f0' f1' : Value} {hp h h' : Heap} {k : Nat} (M : ZMid N n zs ts i f0 f1 hp k h) (x : ZCell h' N n f0' f1') (hs : Heap.SameBut (N + n + 2) h h') : ZMid N n zs ts i f0' f1' hp k h' where
  cell := x
  ti := hs.extBut _ _ (fun e => by have : N + n = N + n + 2 := e; omega) M.ti
  to := let ⟨a, ha, x⟩ := M.to; ⟨a, ha, hs.extBut _ _ (fun e => by have : N + n + 1 = N + n + 2 := e; omega) x⟩
  it := M.it.ext fun j hj o e => hs.extBut _ _ (fun e => by have : N + j = N + n + 2 := e; omega) e
  sz := hs.1.trans M.sz
  keep := fun c o hc e => hs.extBut _ _ (hc (n + 2) (by omega)) (M.keep c o hc e)
theorem ZMid.push {N n : Nat} {zs : Nat → Str} {ts : Nat → Tok} {i : Nat} {f0 f1 : Value} {hp h h' : Heap} (M : ZMid N n zs ts i f0 f1 hp n h) (ho : ZOwn f0 f1) (e : ∀ c o, h.get? c = some o → h'.get? c = some o) : ZOk N n zs ts (i + 1) h' where
  cell := ⟨f0, f1, e _ _ M.cell, ho⟩
  ti := e _ _ M.ti
  to := let ⟨a, ha, x⟩ := M.to; ⟨a, ha, e _ _ x⟩
  it := (M.it.ext fun j hj o x => e _ _ x).done
section
variable {prog : Program} {w : World} {A : Around} {E : Value → Shared → Prop} {s : Shared} {N n k i wd : Nat} {zs : Nat → Str} {ts : Nat → Tok}
theorem zdraw {Q : Value → Shared → Prop} (hh : A.handled = none) (hk : k < n) (hw : ∀ j, j < n → (zs j).cps.size = wd) (hi : i < wd) (st : ZIt N n zs ts k i s.heap)
    (hQ : ∀ c u h' tk, (zs k).cps[i]? = some c → ZIt N n zs ts (k + 1) i h' → Heap.SameBut (N + k) s.heap h' → Q (.str ⟨#[c]⟩ u) { s with heap := h', toks := tk }) :
    wpAny (model prog w) A (Builtin.SmallTypes.nextOf (.ref (N + k))) Q E s := by
  have s0 := st k hk
  rw [if_neg (Nat.lt_irrefl k)] at s0
  refine (Draws.text hh (N + k) (zs k) (ts k)).item i s Q E (by rw [hw k hk]; exact hi) s0 fun x h' tk ⟨c, u, hc, e⟩ st' hs => ?_
  subst e
  refine hQ c u h' tk hc (fun j hj => ?_) hs
  by_cases e : j = k
  · subst e
    rw [if_pos (Nat.lt_succ_self j)]
    exact st'
  · obtain ⟨o, ho, r⟩ := st j hj
    refine ⟨o, hs.extBut _ _ (fun z => e (Nat.add_left_cancel z)) ho, ?_⟩
    have q : (if j < k + 1 then i + 1 else i) = if j < k then i + 1 else i := by
      by_cases z : j < k
      · rw [if_pos z, if_pos (by omega)]
      · rw [if_neg z, if_neg (by omega)]
    rw [q]
    exact r
theorem zstop {Q : Value → Shared → Prop} (hh : A.handled = none) (hn : 0 < n) (hw : ∀ j, j < n → (zs j).cps.size = wd) (st : ZIt N n zs ts 0 wd s.heap)
    (hE : ∀ h' e, Heap.ExtBut N s.heap h' → (∃ o, h'.get? e = some o ∧ o.cls = .type "StopIteration") → E (.ref e) { s with heap := h' }) :
    wpAny (model prog w) A (Builtin.SmallTypes.nextOf (.ref N)) Q E s := by
  have s0 := st 0 hn
  rw [if_neg (Nat.lt_irrefl 0), ← hw 0 hn] at s0
  exact (Draws.text hh N (zs 0) (ts 0)).done s Q E s0 hE
theorem zits_drop (hk : k < n) : ((zits N n).zipIdx).drop k = (.ref (N + k), k) :: ((zits N n).zipIdx).drop (k + 1) := by
  have hl : k < ((zits N n).zipIdx).length := by simp [zits, hk]
  rw [List.drop_eq_getElem_cons hl]
  simp [zits]
theorem zits_drop' (hk : k < n) : (zits N n).drop k = .ref (N + k) :: (zits N n).drop (k + 1) := by
  have hl : k < (zits N n).length := by simp [zits, hk]
  rw [List.drop_eq_getElem_cons hl]
  simp [zits]
theorem upd_tup {T : Addr} {a : Array Value} {x : Value} {k : Nat} {Q : Unit → Shared → Prop} (hT : ZTup s.heap T a) (hl : a.size ≤ sizeLine)
    (h : ∀ h', ZTup h' T (a.setIfInBounds k x) → Heap.SameBut T s.heap h' → Q () { s with heap := h' }) :
    wpAny (model prog w) A (updateSeq T (·.setIfInBounds k x)) Q E s := by
  refine wpAny_updateSeq hT rfl (h _ ?_ (Heap.SameBut.update ..)) hl (by rw [Array.size_setIfInBounds]; omega)
  rw [ZTup, Heap.get?_update_self _ hT rfl]
  simp [Obj.mapSeq]
/-- is the last tuple free? -/
theorem zfree {f0 f1 : Value} {Q : Bool → Shared → Prop} (hz : ZCell s.heap N n f0 f1) (ho : ZOwn f0 f1)
    (hQ : ∀ b f1' h', ZCell h' N n f0 f1' → ZOwn f0 f1' → Heap.SameBut (N + n + 2) s.heap h' → Q b { s with heap := h' }) :
    wpAny (model prog w) A (Builtin.SmallTypes.ownedTupleIsFree (.ref (N + n + 2))) Q E s := by
  unfold Builtin.SmallTypes.ownedTupleIsFree
  refine wpAny_bind (wpAny_field hz rfl (x := f0) rfl ?_)
  rcases ho with ⟨h0 | ⟨T, h0⟩, b, h1⟩
  · subst h0 h1
    exact wpAny_pure (hQ _ _ s.heap hz ⟨.inl rfl, _, rfl⟩ (Heap.SameBut.refl _ _))
  · subst h0 h1
    show wpAny _ _ (loadIfAlive ((T : Int).toNat) >>= _) _ _ _
    rw [Int.toNat_natCast]
    refine wpAny_bind ?_
    cases hT : s.heap.get? T with
    | none =>
      have z : wpAny (model prog w) A (loadIfAlive T) (fun x s' => x = none ∧ s' = s) E s := fun Γ p hΓ => by
        show Sem.wp _ _ (.loadIfAlive T _) _ _ _ _
        rw [Sem.wp_loadIfAlive, hT]
        exact ⟨rfl, rfl⟩
      refine wpAny_mono z (fun x s' ⟨hx, hs⟩ => ?_) fun _ _ x => x
      subst hx hs
      exact wpAny_pure (hQ _ _ s'.heap hz ⟨.inr ⟨T, rfl⟩, _, rfl⟩ (Heap.SameBut.refl _ _))
    | some oT =>
      have z : wpAny (model prog w) A (loadIfAlive T) (fun x s' => x = some oT ∧ s' = s) E s := fun Γ p hΓ => by
        show Sem.wp _ _ (.loadIfAlive T _) _ _ _ _
        rw [Sem.wp_loadIfAlive, hT]
        exact ⟨rfl, rfl⟩
      refine wpAny_mono z (fun x s' ⟨hx, hs⟩ => ?_) fun _ _ x => x
      subst hx hs
      simp only [Option.isNone_some, Bool.false_eq_true, if_false]
      refine wpAny_bind (wpAny_field hz rfl (x := .bool b) rfl ?_)
      cases b with
      | true =>
        rw [if_neg (show ¬ ((Value.bool true != Value.bool true) = true) from Bool.false_ne_true)]
        exact wpAny_pure (hQ _ _ s'.heap hz ⟨.inr ⟨T, rfl⟩, _, rfl⟩ (Heap.SameBut.refl _ _))
      | false =>
        rw [if_pos (show (Value.bool false != Value.bool true) = true from rfl)]
        exact wpAny_bind (wpAny_setField_rec hz (by simp) fun h₁ hz₁ hs₁ => wpAny_pure (hQ _ _ h₁ hz₁ ⟨.inr ⟨T, rfl⟩, _, rfl⟩ hs₁))
/-- next(zip) gives a new tuple -/
theorem znext_item {Q : Value → Shared → Prop} (hh : A.handled = none) (hn : 0 < n) (hl : n ≤ sizeLine) (hw : ∀ j, j < n → (zs j).cps.size = wd) (hi : i < wd) (st : ZOk N n zs ts i s.heap)
    (hQ : ∀ vs h' tk, vs.size = n → ZVals n zs n i vs → ZOk N n zs ts (i + 1) h' → ZTup h' s.heap.objs.size vs → (∀ c o, (∀ j, j < n + 3 → c ≠ N + j) → s.heap.get? c = some o → h'.get? c = some o) → Q (.ref s.heap.objs.size) { s with heap := h', toks := tk }) :
    wpAny (model prog w) A (Builtin.«zip.__next__» ⟨[.ref (N + n + 2)], []⟩) (fun fin s' => ∃ v, fin = .done (.ret v) ∧ Q v s') E s := by
  obtain ⟨⟨f0, f1, hz, ho⟩, hTI, ⟨a, ha, hTO⟩, hit⟩ := st
  obtain ⟨hp, g, d, tk0, os⟩ := s
  show wpAny _ _ (field (.ref (N + n + 2)) 2 >>= _) _ _ _
  refine wpAny_bind (wpAny_field hz rfl (x := .bool false) rfl ?_)
  show wpAny _ _ (field (.ref (N + n + 2)) 3 >>= _) _ _ _
  refine wpAny_bind (wpAny_field hz rfl (x := .ref (N + n)) rfl ?_)
  refine wpAny_bind (wpAny_seqItems hTI rfl ?_)
  have hne : (zits N n).toArray.isEmpty = false := by
    rw [Array.isEmpty_eq_false_iff]
    intro z
    have := congrArg Array.size z
    simp [zits] at this
    omega
  dsimp only
  rw [hne]
  simp only [Bool.false_eq_true, if_false]
  have M0 : ZMid N n zs ts i f0 f1 hp 0 hp := ⟨hz, hTI, ⟨a, ha, hTO⟩, hit, rfl, fun c o _ e => e⟩
  refine wpAny_bind (zfree hz ho fun b f1' g0 hz0 ho0 hs0 => ?_)
  have M1 := M0.field hz0 hs0
  cases b with
  | true =>
    simp only [if_true]
    refine wpAny_bind (wpAny_rule ?_)
    refine wpAny_bind (wpAny_field hz0 rfl (x := .ref (N + n + 1)) rfl ?_)
    refine wpAny_bind (wpAny_setField_rec hz0 (by simp) fun g1 hz1 hs1 => ?_)
    have M2 : ZMid N n zs ts i .ellipsis f1' hp 0 g1 := M1.field hz1 hs1
    refine wpAny_bind (wpAny_forIn_list _ (fun rest b s' => b.1 = none ∧ ∃ k h' tk a', k ≤ n ∧ rest = ((zits N n).zipIdx).drop k ∧ ZMid N n zs ts i .ellipsis f1' hp k h' ∧ a'.size = n ∧ ZTup h' (N + n + 1) a' ∧ ZVals n zs k i a' ∧ s' = ⟨h', g, d, tk, os⟩) _ ?_ ?_ _ _ ?_)
    · rintro ⟨v, k⟩ rest b s' ⟨hb, k', h', tk, a', hk, hr, M, ha', hT', hv, rfl⟩
      have hkn : k' < n := by
        rcases Nat.lt_or_ge k' n with z | z
        · exact z
        · rw [List.drop_eq_nil_of_le (by simp [zits]; omega)] at hr
          cases hr
      rw [zits_drop hkn] at hr
      cases hr
      refine wpAny_bind (wpAny_onRaise ?_)
      show wpAny _ _ (Builtin.SmallTypes.nextOf (.ref (N + k)) >>= _) _ _ ⟨h', g, d, tk, os⟩
      refine wpAny_bind (zdraw (s := ⟨h', g, d, tk, os⟩) hh hkn hw hi M.it fun c u h2 tk2 hc it2 hs2 => wpAny_pure ?_)
      have N1 := M.draw hkn it2 hs2
      have hT2 : ZTup h2 (N + n + 1) a' := Heap.SameBut.extBut hs2 _ _ (fun e => by have : N + n + 1 = N + k := e; omega) hT'
      refine wpAny_bind (wpAny_seqItems (s := ⟨h2, g, d, tk2, os⟩) hT2 rfl ?_)
      refine wpAny_bind (upd_tup (s := ⟨h2, g, d, tk2, os⟩) hT2 (by omega) fun h3 hT3 hs3 => ?_)
      refine wpAny_bind (wpAny_letGo (wpAny_pure ⟨rfl, k + 1, h3, tk2, _, hkn, rfl, N1.wrote (by rw [Array.size_setIfInBounds, ha']) hT3 hs3, by rw [Array.size_setIfInBounds, ha'], hT3, fun j hj => ?_, rfl⟩))
      by_cases e : j = k
      · subst e
        exact ⟨c, u, hc, by rw [Array.getElem?_setIfInBounds_self_of_lt (by omega)]⟩
      · obtain ⟨c', u', h1, h2⟩ := hv j (by omega)
        exact ⟨c', u', h1, by rw [Array.getElem?_setIfInBounds_ne (by omega)]; exact h2⟩
    · rintro ⟨b1, b2⟩ s' ⟨hb, k, h', tk, a', hk, hr, M, ha', hT', hv, rfl⟩
      have hb' : b1 = none := hb
      subst hb'
      have hkn : k = n := by
        rcases Nat.lt_or_ge k n with z | z
        · rw [zits_drop z] at hr
          cases hr
        · omega
      subst hkn
      refine wpAny_bind (wpAny_seqItems (s := ⟨h', g, d, tk, os⟩) hT' rfl ?_)
      refine wpAny_bind (wpAny_newTuple ?_ (by rw [Array.length_toList]; omega))
      show wpAny _ _ (Builtin.SmallTypes.ownedTupleHandOut (.ref (N + k + 2)) (.ref h'.objs.size) >>= _) _ _ ⟨h'.push { cls := .type "tuple", data := .seq a' }, g, d, tk, os⟩
      refine wpAny_bind ?_
      unfold Builtin.SmallTypes.ownedTupleHandOut
      have c6 : ZCell (h'.push { cls := .type "tuple", data := .seq a' }) N k .ellipsis f1' := Heap.get?_push_of_some _ M.cell
      refine wpAny_bind (wpAny_setField_rec c6 (by simp) fun h7 c7 s7 => ?_)
      replace c7 : ZCell h7 N k (rawInt h'.objs.size) f1' := c7
      refine wpAny_setField_rec c7 (by simp) fun h8 c8 s8 => ?_
      replace c8 : ZCell h8 N k (rawInt h'.objs.size) (.bool false) := c8
      replace s7 : Heap.SameBut (N + k + 2) (h'.push { cls := .type "tuple", data := .seq a' }) h7 := s7
      replace s8 : Heap.SameBut (N + k + 2) h7 h8 := s8
      have up : ∀ c o, c ≠ N + k + 2 → h'.get? c = some o → h8.get? c = some o := fun c o c1 e => s8.extBut _ _ c1 (s7.extBut _ _ c1 (Heap.get?_push_of_some _ e))
      have lt : N + k + 2 < h'.objs.size := Heap.lt_size M.cell
      have t8 : ZTup h8 h'.objs.size a' := s8.extBut _ _ (Nat.ne_of_gt lt) (s7.extBut _ _ (Nat.ne_of_gt lt) (Heap.get?_push_size _ rfl))
      refine wpAny_pure ⟨_, rfl, ?_⟩
      show Q (.ref h'.objs.size) ⟨h8, g, d, tk, os⟩
      rw [M.sz] at t8 c8 ⊢
      refine hQ a' h8 tk ha' hv ⟨⟨_, _, c8, .inr ⟨_, rfl⟩, _, rfl⟩, up _ _ (fun e => by have : N + k = N + k + 2 := e; omega) M.ti, ⟨a', ha', up _ _ (fun e => by have : N + k + 1 = N + k + 2 := e; omega) hT'⟩, (M.it.ext fun j hj o e => up _ _ (fun e => by have : N + j = N + k + 2 := e; omega) e).done⟩ t8 fun c o hc e => up c o (hc (k + 2) (by omega)) (M.keep c o hc e)
    · exact ⟨rfl, 0, g1, tk0, a, Nat.zero_le _, rfl, M2, ha, by
        have := hs1.extBut _ _ (fun e => by have : N + n + 1 = N + n + 2 := e; omega) (hs0.extBut _ _ (fun e => by have : N + n + 1 = N + n + 2 := e; omega) hTO)
        exact this, fun j hj => absurd hj (Nat.not_lt_zero j), rfl⟩
  | false =>
    simp only [Bool.false_eq_true, if_false]
    rw [← Array.forIn_toList]
    refine wpAny_bind (wpAny_forIn_list _ (fun rest b s' => b.1 = none ∧ ∃ k h' tk, k ≤ n ∧ rest = (zits N n).drop k ∧ ZMid N n zs ts i f0 f1' hp k h' ∧ b.2.size = k ∧ ZVals n zs k i b.2 ∧ s' = ⟨h', g, d, tk, os⟩) _ ?_ ?_ _ _ ?_)
    · rintro v rest ⟨b1, b2⟩ s' ⟨hb, k, h', tk, hk, hr, M, ha', hv, rfl⟩
      have hkn : k < n := by
        rcases Nat.lt_or_ge k n with z | z
        · exact z
        · rw [List.drop_eq_nil_of_le (by simp [zits]; omega)] at hr
          cases hr
      rw [zits_drop' hkn] at hr
      cases hr
      refine wpAny_bind (wpAny_holding ?_)
      show wpAny _ _ (Builtin.SmallTypes.nextOf (.ref (N + k)) >>= _) _ _ ⟨h', g, d, tk, os⟩
      refine wpAny_bind (zdraw (s := ⟨h', g, d, tk, os⟩) hh hkn hw hi M.it fun c u h2 tk2 hc it2 hs2 => wpAny_pure ?_)
      have N1 := M.draw hkn it2 hs2
      have ha2 : b2.size = k := ha'
      refine wpAny_pure ⟨rfl, k + 1, h2, tk2, hkn, rfl, N1, by show (b2.push _).size = _; rw [Array.size_push, ha2], fun j hj => ?_, rfl⟩
      by_cases e : j = k
      · subst e
        exact ⟨c, u, hc, by show (b2.push _)[j]? = _; rw [← ha2, Array.getElem?_push_size]⟩
      · obtain ⟨c', u', h1, h2⟩ := hv j (by omega)
        exact ⟨c', u', h1, by show (b2.push _)[j]? = _; rw [Array.getElem?_push_lt (by omega), ← Array.getElem?_eq_getElem]; exact h2⟩
    · rintro ⟨b1, b2⟩ s' ⟨hb, k, h', tk, hk, hr, M, ha', hv, rfl⟩
      have hb' : b1 = none := hb
      subst hb'
      have hkn : k = n := by
        rcases Nat.lt_or_ge k n with z | z
        · rw [zits_drop' z] at hr
          cases hr
        · omega
      subst hkn
      have ha2 : b2.size = k := ha'
      refine wpAny_bind (wpAny_newTuple ?_ (by show b2.toList.length ≤ _; rw [Array.length_toList]; omega))
      refine wpAny_pure ⟨_, rfl, ?_⟩
      show Q (.ref h'.objs.size) ⟨h'.push { cls := .type "tuple", data := .seq b2 }, g, d, tk, os⟩
      have t8 : ZTup (h'.push { cls := .type "tuple", data := .seq b2 }) h'.objs.size b2 := Heap.get?_push_size _ rfl
      have k8 : ZOk N k zs ts (i + 1) (h'.push { cls := .type "tuple", data := .seq b2 }) := M.push ho0 fun c o e => Heap.get?_push_of_some _ e
      have sz : h'.objs.size = hp.objs.size := M.sz
      rw [sz] at t8 ⊢
      exact hQ b2 _ tk ha' hv k8 t8 fun c o hc e => Heap.get?_push_of_some _ (M.keep c o hc e)
    · exact ⟨rfl, 0, g0, tk0, Nat.zero_le _, rfl, M1, rfl, fun j hj => absurd hj (Nat.not_lt_zero j), rfl⟩
theorem znext_end {Q : Fin → Shared → Prop} (hh : A.handled = none) (hn : 0 < n) (hw : ∀ j, j < n → (zs j).cps.size = wd) (st : ZOk N n zs ts wd s.heap)
    (hE : ∀ h' tk e, (∀ c o, (∀ j, j < n + 3 → c ≠ N + j) → s.heap.get? c = some o → h'.get? c = some o) → (∃ o, h'.get? e = some o ∧ o.cls = .type "StopIteration") → E (.ref e) { s with heap := h', toks := tk }) :
    wpAny (model prog w) A (Builtin.«zip.__next__» ⟨[.ref (N + n + 2)], []⟩) Q E s := by
  obtain ⟨⟨f0, f1, hz, ho⟩, hTI, ⟨a, ha, hTO⟩, hit⟩ := st
  obtain ⟨hp, g, d, tk0, os⟩ := s
  show wpAny _ _ (field (.ref (N + n + 2)) 2 >>= _) _ _ _
  refine wpAny_bind (wpAny_field hz rfl (x := .bool false) rfl ?_)
  show wpAny _ _ (field (.ref (N + n + 2)) 3 >>= _) _ _ _
  refine wpAny_bind (wpAny_field hz rfl (x := .ref (N + n)) rfl ?_)
  refine wpAny_bind (wpAny_seqItems hTI rfl ?_)
  have hne : (zits N n).toArray.isEmpty = false := by
    rw [Array.isEmpty_eq_false_iff]
    intro z
    have := congrArg Array.size z
    simp [zits] at this
    omega
  dsimp only
  rw [hne]
  simp only [Bool.false_eq_true, if_false]
  have M0 : ZMid N n zs ts wd f0 f1 hp 0 hp := ⟨hz, hTI, ⟨a, ha, hTO⟩, hit, rfl, fun c o _ e => e⟩
  refine wpAny_bind (zfree hz ho fun b f1' g0 hz0 ho0 hs0 => ?_)
  have M1 := M0.field hz0 hs0
  have z0 : ∀ {α : Type} (F : Value × Nat → α → Sem (ForInStep α)) (x : α), forIn ((zits N n).zipIdx) x F = (F (.ref N, 0) x >>= fun r => match r with | .done b => pure b | .yield b => forIn (((zits N n).zipIdx).drop 1) b F) := fun F x => by
    have e : (zits N n).zipIdx = (.ref N, 0) :: ((zits N n).zipIdx).drop 1 := zits_drop (N := N) hn
    conv => lhs; rw [e, List.forIn_cons]
    rfl
  have z1 : ∀ {α : Type} (F : Value → α → Sem (ForInStep α)) (x : α), forIn (zits N n) x F = (F (.ref N) x >>= fun r => match r with | .done b => pure b | .yield b => forIn ((zits N n).drop 1) b F) := fun F x => by
    have e : zits N n = .ref N :: (zits N n).drop 1 := zits_drop' (N := N) hn
    conv => lhs; rw [e, List.forIn_cons]
    rfl
  cases b with
  | true =>
    simp only [if_true]
    refine wpAny_bind (wpAny_rule ?_)
    refine wpAny_bind (wpAny_field hz0 rfl (x := .ref (N + n + 1)) rfl ?_)
    refine wpAny_bind (wpAny_setField_rec hz0 (by simp) fun g1 hz1 hs1 => ?_)
    have M2 : ZMid N n zs ts wd .ellipsis f1' hp 0 g1 := M1.field hz1 hs1
    refine wpAny_bind ?_
    rw [z0]
    refine wpAny_bind (wpAny_bind (wpAny_onRaise ?_))
    show wpAny _ _ (Builtin.SmallTypes.nextOf (.ref N) >>= _) _ _ ⟨g1, g, d, tk0, os⟩
    refine wpAny_bind (zstop (s := ⟨g1, g, d, tk0, os⟩) hh hn hw M2.it fun q e hq he => ?_)
    obtain ⟨oe, hoe, hce⟩ := he
    replace hoe : q.get? e = some oe := hoe
    have hzq : ZCell q N n .ellipsis f1' := hq _ _ (fun e => by have : N + n + 2 = N := e; omega) M2.cell
    have hez : e ≠ N + n + 2 := fun x => by subst x; rw [hzq] at hoe; cases hoe; simp at hce
    refine wpAny_setField_rec (s := ⟨q, g, d, tk0, os⟩) hzq (by simp) fun q' _ hq' => ?_
    replace hq' : Heap.SameBut (N + n + 2) q q' := hq'
    exact hE q' tk0 e (fun c o hc x => hq'.extBut _ _ (hc (n + 2) (by omega)) (hq _ _ (hc 0 (by omega)) (M2.keep c o hc x))) ⟨oe, hq'.extBut _ _ hez hoe, hce⟩
  | false =>
    simp only [Bool.false_eq_true, if_false]
    rw [← Array.forIn_toList]
    refine wpAny_bind ?_
    show wpAny _ _ (forIn (zits N n) _ _) _ _ _
    rw [z1]
    refine wpAny_bind (wpAny_bind (wpAny_holding ?_))
    show wpAny _ _ (Builtin.SmallTypes.nextOf (.ref N) >>= _) _ _ ⟨g0, g, d, tk0, os⟩
    refine wpAny_bind (zstop (s := ⟨g0, g, d, tk0, os⟩) hh hn hw M1.it fun q e hq he => ?_)
    exact hE q tk0 e (fun c o hc x => hq _ _ (hc 0 (by omega)) (M1.keep c o hc x)) he
theorem zsub_stop : True := trivial
theorem zpy_item {Q : Option Value → Shared → Prop} (hh : A.in1.handled = none) (hn : 0 < n) (hl : n ≤ sizeLine) (hw : ∀ j, j < n → (zs j).cps.size = wd) (hi : i < wd) (st : ZOk N n zs ts i s.heap)
    (hQ : ∀ vs h' tk, vs.size = n → ZVals n zs n i vs → ZOk N n zs ts (i + 1) h' → ZTup h' s.heap.objs.size vs → (∀ c o, (∀ j, j < n + 3 → c ≠ N + j) → s.heap.get? c = some o → h'.get? c = some o) → Q (some (.ref s.heap.objs.size)) { s with heap := h', toks := tk }) :
    wpAny (model prog w) A (pyNext (.ref (N + n + 2))) Q E s := by
  obtain ⟨f0, f1, hz, ho⟩ := st.cell
  have hT : s.TypeIs (.ref (N + n + 2)) "zip" := ⟨_, hz, rfl⟩
  unfold pyNext
  exact wpAny_bind (wpAny_attempt (wpAny_callSpecial?_slot (name := Str.ofString "__next__") hT F.slot_zip_next
    (wpAny_call_entry F.slot_zip_next hT F.entry_zip_next (znext_item hh hn hl hw hi st fun vs h' tk a b c d e => wpAny_pure (hQ vs h' tk a b c d e)) (F.args_zip_next_1 _))))
theorem zpy_end {Q : Option Value → Shared → Prop} (hh : A.in1.handled = none) (hn : 0 < n) (hw : ∀ j, j < n → (zs j).cps.size = wd) (st : ZOk N n zs ts wd s.heap)
    (hQ : ∀ h' tk, (∀ c o, (∀ j, j < n + 3 → c ≠ N + j) → s.heap.get? c = some o → h'.get? c = some o) → Q none { s with heap := h', toks := tk }) :
    wpAny (model prog w) A (pyNext (.ref (N + n + 2))) Q E s := by
  obtain ⟨f0, f1, hz, ho⟩ := st.cell
  have hT : s.TypeIs (.ref (N + n + 2)) "zip" := ⟨_, hz, rfl⟩
  unfold pyNext
  refine wpAny_bind (wpAny_attempt (wpAny_callSpecial?_slot (name := Str.ofString "__next__") hT F.slot_zip_next
    (wpAny_call_entry F.slot_zip_next hT F.entry_zip_next (znext_end hh hn hw st fun h' tk e hk he => ?_) (F.args_zip_next_1 _))))
  obtain ⟨o, ho, hc⟩ := he
  refine wpAny_bind (wpAny_isInstance (T := "StopIteration") (b := true) ⟨o, ho, hc⟩ isSubtype_stop ?_)
  exact wpAny_pure (hQ _ _ hk)
def zown (N n : Nat) : List Addr := (List.range (n + 3)).map fun j => N + j
theorem zown_not {c : Addr} (h : c ∉ zown N n) : ∀ j, j < n + 3 → c ≠ N + j := fun j hj e => h (List.mem_map.mpr ⟨j, List.mem_range.mpr hj, e.symm⟩)
theorem zown_mem {j : Nat} (hj : j < n + 3) : (N + j : Nat) ∈ zown N n := List.mem_map.mpr ⟨j, List.mem_range.mpr hj, rfl⟩
theorem ZOk.frame {h h' : Heap} (st : ZOk N n zs ts i h) (k : ∀ b ∈ zown N n, ∀ o, h.get? b = some o → h'.get? b = some o) : ZOk N n zs ts i h' where
  cell := let ⟨f0, f1, hz, ho⟩ := st.cell; ⟨f0, f1, k _ (zown_mem (j := n + 2) (by omega)) _ hz, ho⟩
  ti := k _ (zown_mem (j := n) (by omega)) _ st.ti
  to := let ⟨a, ha, x⟩ := st.to; ⟨a, ha, k _ (zown_mem (j := n + 1) (by omega)) _ x⟩
  it := st.it.ext fun j hj o e => k _ (zown_mem (j := j) (by omega)) _ e
theorem zself {Q : Value → Shared → Prop} (st : ZOk N n zs ts i s.heap) (h : Q (.ref (N + n + 2)) s) : wpAny (model prog w) A (pyIter (.ref (N + n + 2))) Q E s := by
  obtain ⟨f0, f1, hz, ho⟩ := st.cell
  have hT : s.TypeIs (.ref (N + n + 2)) "zip" := ⟨_, hz, rfl⟩
  refine wpAny_pyIter_slot hT F.slot_zip_iter (wpAny_call_entry F.slot_zip_iter hT F.entry_zip_iter ?_ (F.args_zip_iter_1 _))
  show wpAny _ _ (ret (.ref (N + n + 2))) _ _ s
  exact wpAny_pure ⟨_, rfl, "zip", _, hT, F.slot_zip_next.lookup, h⟩
theorem goes_zipn {x : Str} {pos : Pos} (hh : A.in1.handled = none) (hn : 0 < n) (hl : n ≤ sizeLine) (hw : ∀ j, j < n → (zs j).cps.size = wd) :
    GoesN prog w A (.Name x pos) (N + n + 2) (zown N n) (zown N n) wd (fun i h₀ v h => ∃ T vs, v = .ref T ∧ h₀.objs.size ≤ T ∧ vs.size = n ∧ ZVals n zs n i vs ∧ h.IsTuple T vs) (fun i h => ZOk N n zs ts i h) where
  sub := fun _ h => h
  frame := fun i h h' st k => st.frame k
  goes := fun i s Q E hi st hQ => wpAny_with_toks (n := s.toks) (Nat.le_refl _) (zpy_item hh hn hl hw hi st fun vs h' tk a b c d e htk => ⟨_, rfl, wpAny_pure (hQ _ h' tk ⟨_, vs, rfl, Nat.le_refl _, a, b, ⟨_, d, rfl, _, rfl⟩⟩ c (fun b o hb x => e b o (zown_not hb) x) htk)⟩)
  stops := fun s Q E st hQ => wpAny_with_toks (n := s.toks) (Nat.le_refl _) (zpy_end hh hn hw st fun h' tk e htk => ⟨rfl, hQ h' tk (fun b o hb x => e b o (zown_not hb) x) htk⟩)
  self := fun i s Q E st h => zself st h
end
end Wd

namespace Wd
open PySem PySem.Spec PyProof.Rows L2
theorem typeCall_zip (args : List Value) : checkTypeCall "zip" ⟨args, []⟩ = pure () := by kernel_rfl
theorem args_init (obj : Value) (args : List Value) : argsOk "object.__init__" ⟨obj :: args, []⟩ := by unfold argsOk; kernel_rfl
theorem newCall_zip1 (a1 : Value) : checkBuiltinCall "zip.__new__" ⟨[.type "zip", a1], []⟩ = pure () := by kernel_rfl
theorem newCall_zip2 (a1 a2 : Value) : checkBuiltinCall "zip.__new__" ⟨[.type "zip", a1, a2], []⟩ = pure () := by kernel_rfl
theorem newCall_zip3 (a1 a2 a3 : Value) : checkBuiltinCall "zip.__new__" ⟨[.type "zip", a1, a2, a3], []⟩ = pure () := by kernel_rfl
theorem newCall_zip4 (a1 a2 a3 a4 : Value) : checkBuiltinCall "zip.__new__" ⟨[.type "zip", a1, a2, a3, a4], []⟩ = pure () := by kernel_rfl
theorem newCall_zip5 (a1 a2 a3 a4 a5 : Value) : checkBuiltinCall "zip.__new__" ⟨[.type "zip", a1, a2, a3, a4, a5], []⟩ = pure () := by kernel_rfl
theorem newCall_zip6 (a1 a2 a3 a4 a5 a6 : Value) : checkBuiltinCall "zip.__new__" ⟨[.type "zip", a1, a2, a3, a4, a5, a6], []⟩ = pure () := by kernel_rfl
theorem newCall_zip7 (a1 a2 a3 a4 a5 a6 a7 : Value) : checkBuiltinCall "zip.__new__" ⟨[.type "zip", a1, a2, a3, a4, a5, a6, a7], []⟩ = pure () := by kernel_rfl
theorem newCall_zip8 (a1 a2 a3 a4 a5 a6 a7 a8 : Value) : checkBuiltinCall "zip.__new__" ⟨[.type "zip", a1, a2, a3, a4, a5, a6, a7, a8], []⟩ = pure () := by kernel_rfl
theorem newCall_zip9 (a1 a2 a3 a4 a5 a6 a7 a8 a9 : Value) : checkBuiltinCall "zip.__new__" ⟨[.type "zip", a1, a2, a3, a4, a5, a6, a7, a8, a9], []⟩ = pure () := by kernel_rfl
theorem newCall_zip10 (a1 a2 a3 a4 a5 a6 a7 a8 a9 a10 : Value) : checkBuiltinCall "zip.__new__" ⟨[.type "zip", a1, a2, a3, a4, a5, a6, a7, a8, a9, a10], []⟩ = pure () := by kernel_rfl
theorem newCall_zip (args : List Value) (h0 : 0 < args.length) (h1 : args.length ≤ 10) : checkBuiltinCall "zip.__new__" ⟨.type "zip" :: args, []⟩ = pure () :=
  match args, h0, h1 with
  | [a1], _, _ => newCall_zip1 a1
  | [a1, a2], _, _ => newCall_zip2 a1 a2
  | [a1, a2, a3], _, _ => newCall_zip3 a1 a2 a3
  | [a1, a2, a3, a4], _, _ => newCall_zip4 a1 a2 a3 a4
  | [a1, a2, a3, a4, a5], _, _ => newCall_zip5 a1 a2 a3 a4 a5
  | [a1, a2, a3, a4, a5, a6], _, _ => newCall_zip6 a1 a2 a3 a4 a5 a6
  | [a1, a2, a3, a4, a5, a6, a7], _, _ => newCall_zip7 a1 a2 a3 a4 a5 a6 a7
  | [a1, a2, a3, a4, a5, a6, a7, a8], _, _ => newCall_zip8 a1 a2 a3 a4 a5 a6 a7 a8
  | [a1, a2, a3, a4, a5, a6, a7, a8, a9], _, _ => newCall_zip9 a1 a2 a3 a4 a5 a6 a7 a8 a9
  | [a1, a2, a3, a4, a5, a6, a7, a8, a9, a10], _, _ => newCall_zip10 a1 a2 a3 a4 a5 a6 a7 a8 a9 a10
  | a1 :: a2 :: a3 :: a4 :: a5 :: a6 :: a7 :: a8 :: a9 :: a10 :: a11 :: r, _, h => absurd h (by simp)

end Wd

namespace Wd
open PySem PySem.Spec PyProof.Rows L2
section
variable {prog : Program} {w : World} {A : Around} {E : Value → Shared → Prop} {s : Shared}
theorem iterAll_texts {us : List Value} {zs : Nat → Str} {ts : Nat → Tok} {Q : List Value → Shared → Prop} (hu : ∀ j, j < us.length → us[j]? = some (.str (zs j) (ts j)))
    (hQ : ∀ h', ZIt s.heap.objs.size us.length zs ts 0 0 h' → h'.objs.size = s.heap.objs.size + us.length → (∀ c o, s.heap.get? c = some o → h'.get? c = some o) → Q (zits s.heap.objs.size us.length) { s with heap := h' }) :
    wpAny (model prog w) A (Builtin.SmallTypes.iterAll us) Q E s := by
  unfold Builtin.SmallTypes.iterAll
  refine wpAny_bind (wpAny_forIn_list _ (fun rest b s' => ∃ k h', k ≤ us.length ∧ rest = us.drop k ∧ b.toList = zits s.heap.objs.size k ∧ ZIt s.heap.objs.size k zs ts 0 0 h' ∧ h'.objs.size = s.heap.objs.size + k ∧ (∀ c o, s.heap.get? c = some o → h'.get? c = some o) ∧ s' = { s with heap := h' }) _ ?_ ?_ _ _ ?_)
  · rintro v rest b s' ⟨k, h', hk, hr, hb, hi, hz, hkp, rfl⟩
    have hkn : k < us.length := by
      rcases Nat.lt_or_ge k us.length with z | z
      · exact z
      · rw [List.drop_eq_nil_of_le z] at hr
        cases hr
    rw [List.drop_eq_getElem_cons hkn] at hr
    have hv : v = .str (zs k) (ts k) := by
      have := hu k hkn
      rw [List.getElem?_eq_getElem hkn] at this
      injection hr with h1 h2
      rw [h1]
      exact Option.some.inj this
    subst hv
    injection hr with h1 h2
    refine wpAny_bind (wpAny_holding (wpAny_pyIter_strU (wpAny_pure ⟨k + 1, _, hkn, h2, ?_, fun j hj => ?_, by rw [Heap.size_push, hz]; rfl, fun c o e => Heap.get?_push_of_some _ (hkp c o e), rfl⟩)))
    · rw [Array.toList_push, hb]
      show _ ++ [Value.ref h'.objs.size] = _
      rw [hz]
      simp [zits, List.range_succ]
    · rw [if_neg (Nat.not_lt_zero j)]
      by_cases e : j = k
      · subst e
        have x := Heap.get?_push_size h' (o := { cls := .type (strIterType (zs j)), data := .fields #[.str (zs j) (ts j), rawInt 0] }) rfl
        rw [hz] at x
        exact ⟨_, x, rfl, rfl⟩
      · obtain ⟨o, ho, r⟩ := hi j (by omega)
        rw [if_neg (Nat.not_lt_zero j)] at r
        exact ⟨o, Heap.get?_push_of_some _ ho, r⟩
  · rintro b s' ⟨k, h', hk, hr, hb, hi, hz, hkp, rfl⟩
    have hkn : k = us.length := by
      rcases Nat.lt_or_ge k us.length with z | z
      · rw [List.drop_eq_getElem_cons z] at hr
        cases hr
      · omega
    subst hkn
    show wpAny _ _ (pure b.toList) _ _ _
    rw [hb]
    exact wpAny_pure (hQ h' hi hz hkp)
  · exact ⟨0, s.heap, Nat.zero_le _, rfl, rfl, fun j hj => absurd hj (Nat.not_lt_zero j), rfl, fun c o e => e, rfl⟩
theorem zip_new {us : List Value} {zs : Nat → Str} {ts : Nat → Tok} (hu : ∀ j, j < us.length → us[j]? = some (.str (zs j) (ts j))) (hl : us.length ≤ sizeLine) :
    Meets (Builtin.«zip.__new__» ⟨.type "zip" :: us, []⟩) (fun _ R s => ∀ h', ZOk s.heap.objs.size us.length zs ts 0 h' → h'.objs.size = s.heap.objs.size + us.length + 3 → (∀ c o, s.heap.get? c = some o → h'.get? c = some o) → R (.ok (.ret (.ref (s.heap.objs.size + us.length + 2)))) { s with heap := h' }) :=
  .of_wp fun prog w A R s h => by
    obtain ⟨hp, g, d, tk, os⟩ := s
    have hsub := sub_zip
    have step : ∀ {A' : Around} {E : Value → Shared → Prop} {Q : List Value → Shared → Prop}, (∀ h', ZIt hp.objs.size us.length zs ts 0 0 h' → h'.objs.size = hp.objs.size + us.length → (∀ c o, hp.get? c = some o → h'.get? c = some o) → Q (zits hp.objs.size us.length) ⟨h', g, d, tk, os⟩) → wpAny (model prog w) A' (Builtin.SmallTypes.iterAll us) Q E ⟨hp, g, d, tk, os⟩ := fun q => iterAll_texts (s := ⟨hp, g, d, tk, os⟩) hu q
    wp_walk using step
    intro h' hi hz hk
    have zl : (zits hp.objs.size us.length).length = us.length := by simp [zits]
    refine wpAny_bind (wpAny_newTuple ?_ (by rw [zl]; exact hl))
    refine wpAny_bind (wpAny_newTuple ?_ (by rw [List.length_map, zl]; exact hl))
    wp_walk using step
    refine ⟨_, rfl, ?_⟩
    have e1 : h'.objs.size = hp.objs.size + us.length := hz
    generalize ht1 : h'.push { cls := .type "tuple", data := .seq (zits hp.objs.size us.length).toArray } = h1
    generalize ht2 : h1.push { cls := .type "tuple", data := .seq ((zits hp.objs.size us.length).map fun _ => Value.none).toArray } = h2
    have e2 : h1.objs.size = hp.objs.size + us.length + 1 := by rw [← ht1, Heap.size_push, e1]
    have e3 : h2.objs.size = hp.objs.size + us.length + 2 := by rw [← ht2, Heap.size_push, e2]
    show R (.ok (.ret (.ref h2.objs.size))) ⟨h2.push { cls := .type "zip", data := .fields #[.none, .bool false, .bool false, .ref h'.objs.size, .ref h1.objs.size] }, g, d, tk, os⟩
    have c1 : ZTup h1 (hp.objs.size + us.length) (zits hp.objs.size us.length).toArray := by rw [← ht1, ← e1]; exact Heap.get?_push_size _ rfl
    have c2 : ZTup h2 (hp.objs.size + us.length + 1) ((zits hp.objs.size us.length).map fun _ => Value.none).toArray := by rw [← ht2, ← e2]; exact Heap.get?_push_size _ rfl
    have k1 : ∀ c o, h'.get? c = some o → h1.get? c = some o := fun c o e => by rw [← ht1]; exact Heap.get?_push_of_some _ e
    have k2 : ∀ c o, h1.get? c = some o → h2.get? c = some o := fun c o e => by rw [← ht2]; exact Heap.get?_push_of_some _ e
    rw [e1, e2]
    have c3 : ZCell (h2.push { cls := .type "zip", data := .fields #[.none, .bool false, .bool false, .ref (hp.objs.size + us.length), .ref (hp.objs.size + us.length + 1)] }) hp.objs.size us.length .none (.bool false) := by
      have x := Heap.get?_push_size h2 (o := { cls := .type "zip", data := .fields #[.none, .bool false, .bool false, .ref (hp.objs.size + us.length), .ref (hp.objs.size + us.length + 1)] }) rfl
      rw [e3] at x
      exact x
    rw [e3]
    exact h _ ⟨⟨_, _, c3, .inl rfl, _, rfl⟩, Heap.get?_push_of_some _ (k2 _ _ c1), ⟨_, by simp [zits], Heap.get?_push_of_some _ c2⟩, hi.ext fun j hj o e => Heap.get?_push_of_some _ (k2 _ _ (k1 _ _ e))⟩ (by rw [Heap.size_push, e3]) fun c o e => Heap.get?_push_of_some _ (k2 _ _ (k1 _ _ (hk c o e)))
theorem zip_call {us : List Value} {zs : Nat → Str} {ts : Nat → Tok} {Q : Value → Shared → Prop} (hu : ∀ j, j < us.length → us[j]? = some (.str (zs j) (ts j))) (h0 : 0 < us.length) (hl : us.length ≤ 10)
    (hQ : ∀ h', ZOk s.heap.objs.size us.length zs ts 0 h' → h'.objs.size = s.heap.objs.size + us.length + 3 → (∀ c o, s.heap.get? c = some o → h'.get? c = some o) → Q (.ref (s.heap.objs.size + us.length + 2)) { s with heap := h' }) :
    wpAny (model prog w) A (call (.type "zip") us) Q E s :=
  callType_new F.called_zip (by decide) (typeCall_zip us) (newCall_zip us h0 hl) (fun obj => args_init obj us) F.entry_zip_new (zip_new hu (Nat.le_trans hl (by decide))) fun h' a b c => by
    obtain ⟨f0, f1, hz, ho⟩ := a.cell
    exact ⟨⟨_, hz, rfl⟩, hQ h' a b c⟩
end
section
variable {X : Cx} {e : Expr} {te : TE} {p sp pos tpos : Pos} {x : Str}
/-- zip(*texts) -/
def iZipS (K : PySem.W.Frag) (te : TE) : TI := fun σ H R => te σ H fun v H1 => ∃ (a : Addr) (zs : List Str) (wd : Nat), v = .ref a ∧ SqT K H1 a (zs.map V.str) ∧ 0 < zs.length ∧ zs.length ≤ 10 ∧ (∀ z ∈ zs, z.cps.size = wd) ∧ R (Itp (fun _ => True) wd fun i => zs.map fun z => .str ⟨#[z.cps.getD i 0]⟩) H1
theorem vals_strs : ∀ {zs : List Str} {us : List Value}, Vals (zs.map V.str) us → ∃ ts : Nat → Tok, us.length = zs.length ∧ ∀ j, j < us.length → us[j]? = some (.str (zs.getD j ⟨#[]⟩) (ts j))
  | [], _, .nil => ⟨fun _ => 0, rfl, fun _ h => absurd h (Nat.not_lt_zero _)⟩
  | z :: zs, _, .cons r rr => by
    obtain ⟨t, rfl⟩ := r
    obtain ⟨ts, hl, h⟩ := vals_strs rr
    refine ⟨fun j => match j with | 0 => t | j + 1 => ts j, by simp [hl], fun j hj => ?_⟩
    cases j with
    | zero => rfl
    | succ j => exact h j (Nat.lt_of_succ_lt_succ hj)
theorem vals_of : ∀ {xs : List V} {us : List Value}, xs.length = us.length → (∀ (j : Nat) (x : V) (u : Value), xs[j]? = some x → us[j]? = some u → RelV x u) → Vals xs us
  | [], [], _, _ => .nil
  | [], _ :: _, h, _ => nomatch h
  | _ :: _, [], h, _ => nomatch h
  | x :: xs, u :: us, h, k => .cons (k 0 x u rfl rfl) (vals_of (Nat.succ.inj h) fun j a b ha hb => k (j + 1) a b ha hb)
theorem pi_zipS (hg : Gl X "zip") (hm : X.mg "zip" = none) (he : PE X e te) (hs : starEach [.Starred e sp] X.env = [(true, eval e X.env)] := by rfl) : PI X (.Name x tpos) (.Call (.Name "zip" p) [.Starred e sp] [] pos) (iZipS X.K te) := by
  refine ⟨fun pins s σ H R I h => ?_⟩
  refine Call_ (ld_blt I hg hm (by rfl) ?_)
  rw [hs]
  refine PySem.W.ks_call (P := fun _ => True) rfl (fun _ _ => ⟨.machine, .inr (.inl rfl), PySem.W.Looks.of_pure rfl⟩) (PySem.W.ks_lone (thn (he.run pins s σ H _ I h) fun v s1 ⟨y, H1, I1, ry, a, zs, wd, ey, hx, h0, h10, hw, q⟩ => ?_))
  subst ey
  obtain rfl : v = Value.ref a := ry
  refine StX.star_any I1 (.inl hx) fun us s2 I2 rv => ⟨trivial, ?_⟩
  obtain ⟨ts, hl, hu⟩ := vals_strs rv
  show wpAny _ _ (call (.type "zip") us) _ _ _
  refine zip_call hu (by omega) (by omega) fun h' ok hsz hk => ?_
  have I3 : Inv X pins σ H1 { s2 with heap := h' } := I2.kept (t' := s2.toks) hk
  rw [hl] at ok hsz ⊢
  have hw' : ∀ j, j < zs.length → (zs.getD j ⟨#[]⟩).cps.size = wd := fun j hj => by
    rw [List.getD_eq_getElem?_getD, List.getElem?_eq_getElem hj]
    exact hw _ (List.getElem_mem hj)
  refine zself ok ?_
  refine ⟨s2.heap.objs.size + zs.length + 2, zown s2.heap.objs.size zs.length, fun i h => ZOk s2.heap.objs.size zs.length (fun j => zs.getD j ⟨#[]⟩) ts i h, _, H1, rfl, I3,
    turn_new (γ := Unit) (fx := []) (C := fun _ => True) (Y := fun _ i h₀ v h => ∃ T vs, v = .ref T ∧ h₀.objs.size ≤ T ∧ vs.size = zs.length ∧ ZVals zs.length (fun j => zs.getD j ⟨#[]⟩) zs.length i vs ∧ h.IsTuple T vs)
      (Sx := fun _ i h => ZOk s2.heap.objs.size zs.length (fun j => zs.getD j ⟨#[]⟩) ts i h)
      (fun _ _ A hh => by
        rw [List.append_nil]
        exact goes_zipn (prog := X.prog) (w := X.w) (A := A) hh h0 (Nat.le_trans h10 (by decide)) hw') (zown_mem (j := zs.length + 2) (by omega)) (fun b h => h) ?_ ?_ ?_ ?_ ?_ ?_ ?_, ok, ?_, q⟩
  · rintro i h st b hb
    obtain ⟨j, hj, rfl⟩ := List.mem_map.mp hb
    have hj' := List.mem_range.mp hj
    obtain ⟨f0, f1, hz, ho⟩ := st.cell
    rcases Nat.lt_or_ge j zs.length with z | z
    · obtain ⟨o, ho, _, hd⟩ := st.it j z
      exact ⟨o, ho, fun v q => by rw [hd] at q; cases q⟩
    · have : @Eq Nat j zs.length ∨ @Eq Nat j (zs.length + 1) ∨ @Eq Nat j (zs.length + 2) := by omega
      rcases this with e | e | e
      · subst e
        exact ⟨_, st.ti, fun v q => nomatch q⟩
      · subst e
        obtain ⟨a', _, x⟩ := st.to
        exact ⟨_, x, fun v q => nomatch q⟩
      · subst e
        exact ⟨_, hz, fun v q => nomatch q⟩
  · rintro i h h2 st k
    exact st.frame k
  · exact fun X' i pins' s' σ' H' hK I' hG st => ⟨(), trivial, st⟩
  · exact fun c i h st => st
  · rintro c hC i h₀ v h hi ⟨T, vs, rfl, hT, hvs, hv, ht⟩
    refine ⟨T, vs.toList, rfl, hT, by simpa using ht, vals_of (by simp [hvs]) fun j x u hx hu' => ?_⟩
    rw [List.getElem?_map] at hx
    have hj : j < zs.length := by
      rcases Nat.lt_or_ge j zs.length with z | z
      · exact z
      · rw [List.getElem?_eq_none z] at hx
        cases hx
    rw [List.getElem?_eq_getElem hj] at hx
    obtain ⟨c', u', h1, h2⟩ := hv j hj
    have h1' : (zs[j]).cps[i]? = some c' := by
      have : (zs.getD j ⟨#[]⟩).cps[i]? = some c' := h1
      rw [List.getD_eq_getElem?_getD, List.getElem?_eq_getElem hj] at this
      exact this
    have hu2 : vs[j]? = some u := by simpa using hu'
    rw [h2] at hu2
    cases hu2
    cases hx
    refine ⟨u', ?_⟩
    rw [Array.getD_eq_getD_getElem?, h1']
    rfl
  · intro i
    show (zs.map _).length ≤ sizeLine
    rw [List.length_map]
    exact Nat.le_trans h10 (by decide)
  · rintro A i s' Q E st hQ
    exact zself st hQ
  · intro b hb
    obtain ⟨j, hj, rfl⟩ := List.mem_map.mp hb
    exact I2.fpOk (Nat.le_add_right _ _) (I2.hok.fresh (Nat.le_add_right _ _))
end
end Wd

namespace Wd
open PySem PySem.Spec PyProof.Rows L2
/-! ### a board turned -/
def turnG (g : List (List Bool)) (w : Nat) : List (List Bool) := (List.range w).map fun c => g.map fun r => r.getD c false
theorem brd_turn {g : List (List Bool)} {t w : Nat} (h : Brd g t w) : Brd (turnG g w) w t where
  tall := by simp [turnG]
  wide := fun r hr => by
    obtain ⟨c, _, rfl⟩ := List.mem_map.mp hr
    rw [List.length_map, h.tall]
  inRow := fun r hr => by
    obtain ⟨c, hc, rfl⟩ := List.mem_map.mp hr
    obtain ⟨r, hr, e⟩ := h.inCol c (List.mem_range.mp hc)
    exact List.mem_map.mpr ⟨r, hr, by rw [List.getD_eq_getElem?_getD, e]; rfl⟩
  inCol := fun c hc => by
    have hc' : c < g.length := by rw [h.tall]; exact hc
    have hr := h.inRow g[c] (List.getElem_mem hc')
    obtain ⟨j, hj, e⟩ := List.mem_iff_getElem.mp hr
    have hj' : j < w := by rw [← h.wide g[c] (List.getElem_mem hc')]; exact hj
    refine ⟨_, List.mem_map.mpr ⟨j, List.mem_range.mpr hj', rfl⟩, ?_⟩
    rw [List.getElem?_map, List.getElem?_eq_getElem hc']
    show some (g[c].getD j false) = some true
    rw [List.getD_eq_getElem?_getD, List.getElem?_eq_getElem hj, e]
    rfl
  t1 := h.w1
  t10 := h.w10
  w1 := h.t1
  w10 := h.t10
theorem rowS_sign {r : List Bool} {i : Nat} (hi : i < r.length) : (⟨#[(rowS r).cps.getD i 0]⟩ : Str) = SX.S [cd (r.getD i false)] := by
  have e : (rowS r).cps.getD i 0 = cd (r.getD i false) := by
    rw [Array.getD_eq_getD_getElem?, ← Array.getElem?_toList, rowS_list, List.getElem?_map, List.getElem?_eq_getElem hi, List.getD_eq_getElem?_getD, List.getElem?_eq_getElem hi]
    rfl
  rw [e]
theorem signs_at {g : List (List Bool)} {t w i : Nat} (hb : Brd g t w) (hi : i < w) : ((g.map rowS).map fun z => V.str ⟨#[z.cps.getD i 0]⟩) = (((g.map fun r => r.getD i false).map fun b => [cd b]).map SX.S).map V.str := by
  rw [List.map_map, List.map_map, List.map_map, List.map_map]
  refine List.map_congr_left fun r hr => ?_
  show V.str ⟨#[(rowS r).cps.getD i 0]⟩ = V.str (SX.S [cd (r.getD i false)])
  rw [rowS_sign (by rw [hb.wide r hr]; exact hi)]
theorem rowS_size (r : List Bool) : (rowS r).cps.size = r.length := by
  rw [← Array.length_toList, rowS_list, List.length_map]
structure MB (P : Program) (w : World) (K : PySem.W.Frag) (mg : Str → Option Value) (base : Heap) (C : Addr) where
  f : Addr
  fd : FuncData
  mk_ : Mk K C f
  ok : FnOk P w K mg base CX0 3 f fd ["self", "rows"] (spInitB C)
  b : Binds K fd ["self", "rows"] []
def spInvB (C : Addr) : Sp := fun vs H Q _ => ∃ b g t w, vs = [.ref b] ∧ IsBoard C H b g t w ∧ ∀ x H', H x = none → Same H H' → IsBoard C H' x (turnG g w) w t → Q (.ref x) H'
abbrev sInvB : Stmt := inClass (topS 17) 9
abbrev nmInvB : List Str := ["self", "signs"]
theorem scInvB : FnScope nmInvB ["self"] (defScope sInvB) := ⟨rfl, rfl, rfl, by decide +kernel, rfl, by decide +kernel, by decide +kernel⟩
section
variable {P : Program} {w : World} {K : PySem.W.Frag} {mg : Str → Option Value} {base : Heap} {f C : Addr} {fd : FuncData}
theorem ok_invB (F : FnM K "__invert__" "Board.__invert__" sInvB f fd) (Z : BT K mg C) (T : Bt mg) (M : MB P w K mg base C) : FnOk P w K mg base CX0 5 f fd ["self"] (spInvB C) := by
  refine F.ok scInvB (fun vs H Q E h => ?_) (fun cdv A outer s H vs Q E hr h => ?_)
  · obtain ⟨b, g, t, w, rfl, _⟩ := h
    rfl
  · obtain ⟨b, g, t, wd, rfl, ⟨⟨dx, r, d, a, ds, h1, h2, h3, h4, h5⟩, hb⟩, k⟩ := h
    refine ⟨_, PSs.nox (pss_one (ps_ret (pe_make M.mk_ M.ok hr (by rfl) Z.mgC M.b .nil pass0 (pa_cons (pe_callTy call_tuple_of (by rfl) T.tuple boot_tuple (pa_cons (pe_lc (own := [("signs", 1)]) (g := gName 1) (tt := tYes) (te := tM1 (fun x xs H Q => ∃ a p, ∃ ys : List Str, x = .str a ∧ xs = [.ref p] ∧ (SqL K H p (ys.map V.str) ∨ SqT K H p (ys.map V.str)) ∧
      (ys.map (·.length)).sum + ys.length * a.length ≤ 16777216 ∧ Q (.str (Txt.join a ys)) H) (tC (.str (SX.S []))) (tVar 1)) rfl scInvB.nd
        (pi_zipS (by rfl) T.zip (pe_fld (pv 0) rfl)) (blkOk_by (N := nmInvB) (sc := defScope sInvB) (by decide +kernel))
        (fun _ _ _ _ _ => pg_name (i := 1) scInvB.nd rfl (Or.inl rfl)) (fun _ _ _ _ _ => pts_nil) (fun _ _ _ _ _ => pe_join pe_str (pv 1))) pa_nil)) pa_nil)))), ?_⟩
    refine ⟨_, rfl, b, C, dx, _, _, rfl, h1, Z.cl, Z.nR, fldB_r _ _ _, r, g.map rowS, wd, rfl, ?_, ?_, ?_, ?_, fun D hD => ?_⟩
    · rw [List.map_map]
      exact SqT.of h2
    · rw [List.length_map, hb.tall]
      exact hb.t1
    · rw [List.length_map, hb.tall]
      exact hb.t10
    · intro z hz
      obtain ⟨q, hq, rfl⟩ := List.mem_map.mp hz
      rw [rowS_size, hb.wide q hq]
    have w10 := hb.w10
    have t10 := hb.t10
    refine lc_fn walk_new (fun i => V.str (rowS (g.map fun r => r.getD i false))) (by omega) hD (fun _ _ => trivial) ?_ ?_
    · rintro i x Ha Hb ys hi sma hys ⟨T', rfl, hT, rfl⟩ N M hN
      refine ⟨rfl, yes_go ?_⟩
      refine ⟨⟨_, rfl⟩, _, rfl, SX.S [], T', ((g.map fun r => r.getD i false).map fun b => [cd b]).map SX.S, rfl, rfl, .inr (SqT.of ?_), ?_, ?_⟩
      · rw [upd_same]
        exact congrArg (fun l => some (HO.tup l)) (signs_at hb hi)
      · rw [sum_ones, List.length_map, List.length_map, List.length_map, List.length_map, hb.tall]
        show t + t * 0 ≤ _
        omega
      · rw [join_signs]
        exact hN _ (Same.new hT)
    · intro H1 s1 hd1
      refine ⟨D, _, rfl, .inl ⟨SqL.of hd1, fun q hq => ?_⟩⟩
      intro x dx' hx hdx hne
      have eq : (List.range wd).map (fun i => V.str (rowS (g.map fun r => r.getD i false))) = rowsV (turnG g wd) := by
        unfold rowsV turnG
        rw [List.map_map]
        rfl
      have nqx : q ≠ x := fun z => by rw [z, upd_same] at hx; cases hx
      have nqd : q ≠ dx' := fun z => by rw [z, upd_same] at hdx; cases hdx
      have sm2 : Same H (upd H1 q (.tup (rowsV (turnG g wd)))) := s1.trans (Same.new hq)
      rw [eq] at hx hdx ⊢
      refine ⟨x, q, dx', turnG g wd, wd, t, rfl, upd_same, by rw [upd_ne nqx, upd_ne nqd, upd_same], brd_turn hb, fun H' hk hB => ⟨rfl, k x H' (sm2.free hx) (fun b o e => ?_) hB⟩⟩
      have e2 := sm2 b o e
      have nbx : b ≠ x := fun z => by rw [z, hx] at e2; cases e2
      have nbd : b ≠ dx' := fun z => by rw [z, hdx] at e2; cases e2
      exact hk b o nbx (by rw [upd_ne nbx, upd_ne nbd]; exact e2)
end
end Wd

namespace Wd
open PySem PySem.Spec PyProof.Rows L2
/-! ### the law's own look at rows: dots, wires, turned -/
theorem IsDots.mut {H : Hp} {p : Addr} {o : HO} {ps : List (Nat × Nat)} {ds xs : List V} (h : IsDots H ps ds) (hp : H p = some (.lst xs)) : IsDots (L2.upd H p o) ps ds := Paired.mapP h fun q y ⟨a, e, z⟩ => ⟨a, e, by
  rw [upd_ne (ne_of z hp (by intro w; cases w))]
  exact z⟩
theorem dots_of {g : List (List Bool)} {n : Nat} (h : n = g.length) : places n (fun i => (g.getD i []).length) (fun i j => (g.getD i []).getD j false) = dotsOf g := by
  subst h
  rfl
theorem rowS_ix {r : List Bool} {j : Nat} (hj : j < r.length) : (rowS r).cps.toList[j]? = some (cd (r.getD j false)) := by
  rw [rowS_list, List.getElem?_map, List.getD_eq_getElem?_getD, List.getElem?_eq_getElem hj]
  rfl
def spLDots : Sp := fun vs H Q _ => ∃ (r : Addr) (g : List (List Bool)) (t w : Nat), vs = [.ref r] ∧ H r = some (.tup (rowsV g)) ∧ Brd g t w ∧ ∀ p ds H', H p = none → Same H H' → H' p = some (.lst ds) → IsDots H' (dotsOf g) ds → Q (.ref p) H'
abbrev sLDots : Stmt := topS 25
abbrev nmLDots : List Str := ["_law_rows_here", "_law_found", "_law_row", "_law_marks", "_law_column"]
theorem scLDots : FnScope nmLDots ["_law_rows_here"] (defScope sLDots) := ⟨rfl, rfl, rfl, by decide +kernel, rfl, by decide +kernel, by decide +kernel⟩
section
variable {P : Program} {w : World} {K : PySem.W.Frag} {mg : Str → Option Value} {base : Heap} {f : Addr} {fd : FuncData} {CX : CXT}
theorem ok_ldots (F : FnP K "_law_dots" sLDots f fd) (T : Bt mg) : FnOk P w K mg base CX 1 f fd ["_law_rows_here"] spLDots := by
  refine F.ok scLDots (fun vs H Q E h => ?_) (fun cdv A outer s H vs Q E hr h => ?_)
  · obtain ⟨r, g, t, w, rfl, _⟩ := h
    rfl
  · obtain ⟨r, g, t, wd, rfl, hrw, hb, k⟩ := h
    refine ⟨_, PSs.nox (pss_cons (ps_set (i := 1) scLDots.nd rfl (Or.inl rfl) (pe_lst pa_nil))
      (pss_cons (ps_for PassesOwn.never rfl (pi_enumT (by rfl) T.enum (pa_cons (pv 0) pa_nil)) (pg_tup rfl (pgs_cons (pg_name (i := 2) scLDots.nd rfl (by first | exact Or.inl rfl | exact Or.inr rfl)) (pgs_cons (pg_name (i := 3) scLDots.nd rfl (by first | exact Or.inl rfl | exact Or.inr rfl)) pgs_nil)))
        (pss_one (ps_expr (pe_bm PySem.F.plainAttrs_list PySem.F.slot_list_extend PySem.F.type_list_extend mt_extend (pv 1) (pa_cons
          (pe_lc (own := [("_law_column", 4)]) (g := gName 4) (tt := tTest (tOp rEq (tOp rIxS (tVar 3) (tVar 4)) (tC (.str stO)))) (te := tTup (tCons (tVar 2) (tCons (tVar 4) tNil))) rfl scLDots.nd
            (pi_range1 (by rfl) T.range (pa_cons (pe_callB call_len_str (by rfl) T.len PySem.boot_len (pa_cons (pv 3) pa_nil)) pa_nil)) (blkOk_by (N := nmLDots) (sc := defScope sLDots) (by decide +kernel))
            (fun _ _ _ _ _ => pg_name (i := 4) scLDots.nd rfl (Or.inl rfl)) (fun _ _ _ _ _ => pts_one (pt_cmpR op_eq (pe_ix ix_str (pv 3) (pv 4) (fun _ _ => rfl)) pe_str (nomark _))) (fun _ _ _ _ _ => pe_tup (pa_cons (pv 2) (pa_cons (pv 4) pa_nil)))) pa_nil)))))
      (pss_one (ps_ret (pv 1))))), ?_⟩
    refine ⟨by decide, fun p hp => ?_⟩
    have gl : (rowsV g).length = g.length := List.length_map ..
    have t10 := hb.t10
    have tall := hb.tall
    refine ⟨_, rfl, r, _, rfl, SqT.of (Same.new hp _ _ hrw), for_it walk_new (fun i σ' H' => ∃ (ds : List V) (v2 v3 v4 : Option V), σ' = [some (.ref r), some (.ref p), v2, v3, v4] ∧ Same H H' ∧ H' p = some (.lst ds) ∧ IsDots H' (places i (fun i => (g.getD i []).length) fun i j => (g.getD i []).getD j false) ds) ?_ ?_ ?_ ?_⟩
    · exact ⟨[], none, none, none, rfl, Same.new hp, upd_same, .nil⟩
    · rintro i σ' H' hi ⟨ds, v2, v3, v4, rfl, sm, _⟩
      exact SqT.of (sm _ _ hrw)
    · rintro i x σ' H' H2 hi ⟨ds, v2, v3, v4, rfl, sm, hds, pr⟩ ⟨T1, rfl, fT, hH⟩
      have hi' : i < g.length := by
        rw [← gl]
        exact hi
      have eat := rowsV_at g i hi'
      have npT : p ≠ T1 := ne_of_none hds fT
      have hT1 : H2 T1 = some (.tup [.int (i : Int), V.str (rowS (g.getD i []))]) := by
        rw [hH, upd_same, ← eat]
      have sm2 : Same H' H2 := by
        rw [hH]
        exact Same.new fT
      have hds2 : H2 p = some (.lst ds) := sm2 _ _ hds
      refine ⟨T1, _, rfl, SqT.of hT1, rfl, _, _, rfl, _, _, rfl, rfl, ?_⟩
      refine ⟨_, rfl, .inl ⟨rfl, _, SqL.of hds2⟩, ?_⟩
      have gw : (g.getD i []).length = wd := by
        rw [List.getD_eq_getElem?_getD, List.getElem?_eq_getElem hi']
        exact hb.wide _ (List.getElem_mem hi')
      have w10 := hb.w10
      refine ⟨_, rfl, rowS (g.getD i []), rfl, ?_, ?_⟩
      · rw [rowS_len, gw]
        exact Nat.le_trans w10 (by decide)
      rw [rowS_len]
      refine ⟨_, rfl, by omega, by omega, fun D hD => ?_⟩
      refine lc_rel walk_r0 (fun j => (g.getD i []).getD j false) (fun j y H => ∃ a, y = .ref a ∧ H a = some (.tup (dotV (i, j)))) (fun j y Ha Hb sm ⟨a, e, q⟩ => ⟨a, e, sm _ _ q⟩) (by omega) hD (fun _ _ => trivial) ?_ ?_
      · rintro j x Ha Hb ys hj sma hys ⟨rfl, rfl⟩ N M hN hM
        have hj' : j < (g.getD i []).length := by omega
        refine ⟨rfl, _, rfl, _, rfl, rowS (g.getD i []), _, _, rfl, rfl, ?_, atI_nat (rowS_ix hj'), ?_⟩
        · rw [rowS_len, gw]
          exact Nat.le_trans w10 (by decide)
        refine ⟨rfl, _, rfl, ?_⟩
        have edec : decide (V.str ⟨#[cd ((g.getD i []).getD j false)]⟩ = V.str stO) = (g.getD i []).getD j false := by
          rw [stO_eq]
          cases (g.getD i []).getD j false <;> decide
        rw [edec]
        cases hkp : (g.getD i []).getD j false with
        | true =>
          refine iteT ?_
          refine ⟨_, rfl, _, rfl, by show (2 : Nat) ≤ sizeLine; decide, fun q hq => hN _ _ hkp (Same.new hq) ⟨q, rfl, ?_⟩⟩
          rw [hide_ne (fun z => by rw [z, hys] at hq; cases hq), upd_same]
        | false => exact iteF (hM _ hkp (Same.refl _))
      · intro H3 ys s3 hd3 p3
        have l1 := Paired.length pr
        have l2 := Paired.length p3
        have l3 := places_len (fun i => (g.getD i []).length) (fun i j => (g.getD i []).getD j false) 10 (brd_m hb) i
        have l4 := List.length_filter_le (fun j => (g.getD i []).getD j false) (List.range ((g.getD i []).length : Int).toNat)
        rw [List.length_range] at l4
        have hds3 := s3 _ _ hds2
        refine ⟨p, D, ds, ys, rfl, rfl, hds3, hd3, ?_, ds ++ ys, _, _, _, rfl, ?_, upd_same, ?_⟩
        · exact Nat.le_trans (by omega : ds.length + ys.length ≤ 1000) (by decide)
        · exact Same.mut ((sm.trans sm2).trans s3) hp
        · rw [places_snoc]
          have en : ((g.getD i []).length : Int).toNat = (g.getD i []).length := by omega
          rw [en] at p3
          exact IsDots.mut (Paired.app (pr.same (sm2.trans s3)) (Paired.mapL (Paired.mapP p3 fun j y ⟨a, e, q⟩ => ⟨a, e, hide_sub _ _ q⟩))) hds3
    · rintro σ' H' ⟨ds, v2, v3, v4, rfl, sm, hds, pr⟩
      refine ⟨_, rfl, ?_⟩
      rw [dots_of gl] at pr
      exact k p ds H' hp sm hds pr
end
end Wd

namespace Wd
open PySem PySem.Spec PyProof.Rows L2
def spLWires : Sp := fun vs H Q _ => ∃ (r : Addr) (g : List (List Bool)) (t w : Nat), vs = [.ref r] ∧ H r = some (.tup (rowsV g)) ∧ Brd g t w ∧ ∀ p ys H', H p = none → Same H H' → H' p = some (.lst ys) → IsWires H' (wiresOf t w) ys → Q (.ref p) H'
abbrev sLWires : Stmt := topS 26
abbrev nmLWires : List Str := ["_law_rows_here", "_law_at"]
theorem scLWires : FnScope nmLWires ["_law_rows_here"] (defScope sLWires) := ⟨rfl, rfl, rfl, by decide +kernel, rfl, by decide +kernel, by decide +kernel⟩
def spLTurn : Sp := fun vs H Q _ => ∃ (r : Addr) (g : List (List Bool)) (t w : Nat), vs = [.ref r] ∧ H r = some (.tup (rowsV g)) ∧ Brd g t w ∧ ∀ p H', H p = none → Same H H' → H' p = some (.tup (rowsV (turnG g w))) → Q (.ref p) H'
abbrev sLTurn : Stmt := topS 27
abbrev nmLTurn : List Str := ["_law_rows_here", "_law_at", "_law_row"]
theorem scLTurn : FnScope nmLTurn ["_law_rows_here"] (defScope sLTurn) := ⟨rfl, rfl, rfl, by decide +kernel, rfl, by decide +kernel, by decide +kernel⟩
section
variable {P : Program} {w : World} {K : PySem.W.Frag} {mg : Str → Option Value} {base : Heap} {f : Addr} {fd : FuncData} {CX : CXT}
theorem ok_lwires (F : FnP K "_law_all_wires" sLWires f fd) (T : Bt mg) : FnOk P w K mg base CX 1 f fd ["_law_rows_here"] spLWires := by
  refine F.ok scLWires (fun vs H Q E h => ?_) (fun cdv A outer s H vs Q E hr h => ?_)
  · obtain ⟨r, g, t, w, rfl, _⟩ := h
    rfl
  · obtain ⟨r, g, t, wd, rfl, h2, hb, k⟩ := h
    have et : (rowsV g).length = t := by rw [rowsV, List.length_map, hb.tall]
    obtain ⟨r0, rest, rfl, e0⟩ := rowsV_first hb
    refine ⟨_, PSs.nox (pss_one (ps_ret (pe_op op_cat (pe_lc (own := [("_law_at", 1)]) (g := gName 1) (tt := tYes) (te := tTup (tCons (tC (.str stCol)) (tCons (tVar 1) tNil))) rfl scLWires.nd
        (pi_range1 (by rfl) T.range (pa_cons (pe_callB call_len_str (by rfl) T.len PySem.boot_len (pa_cons (pe_ix ix_tup (pv 0) pe_int (fun _ _ => rfl)) pa_nil)) pa_nil)) (blkOk_by (N := nmLWires) (sc := defScope sLWires) (by decide +kernel))
        (fun _ _ _ _ _ => pg_name (i := 1) scLWires.nd rfl (Or.inl rfl)) (fun _ _ _ _ _ => pts_nil) (fun _ _ _ _ _ => pe_tup (pa_cons pe_str (pa_cons (pv 1) pa_nil))))
      (pe_lc (own := [("_law_at", 1)]) (g := gName 1) (tt := tYes) (te := tTup (tCons (tC (.str stRow)) (tCons (tVar 1) tNil))) rfl scLWires.nd
        (pi_range1 (by rfl) T.range (pa_cons (pe_callB call_len_seq (by rfl) T.len PySem.boot_len (pa_cons (pv 0) pa_nil)) pa_nil)) (blkOk_by (N := nmLWires) (sc := defScope sLWires) (by decide +kernel))
        (fun _ _ _ _ _ => pg_name (i := 1) scLWires.nd rfl (Or.inl rfl)) (fun _ _ _ _ _ => pts_nil) (fun _ _ _ _ _ => pe_tup (pa_cons pe_str (pa_cons (pv 1) pa_nil))))))), ?_⟩
    refine ⟨_, rfl, r, _, 0, _, rfl, rfl, SqT.of h2, at0 _ _, rowS r0, rfl, ?_, ?_⟩
    · rw [rowS_len, e0]
      exact Nat.le_trans hb.w10 (by decide)
    rw [rowS_len, e0]
    have w10 := hb.w10
    have t10 := hb.t10
    refine ⟨(wd : Int), rfl, by omega, by omega, fun D hD => ?_⟩
    refine lc_relA walk_r0 (fun i y H => ∃ a, y = .ref a ∧ H a = some (.tup [.str stCol, .int (i : Int)])) (fun i y Ha Hb sm ⟨a, e, q⟩ => ⟨a, e, sm _ _ q⟩) (by omega) hD (fun _ _ => trivial) ?_ ?_
    · rintro i x Ha Hb ys hi sma hys ⟨rfl, rfl⟩ N M hN
      refine ⟨rfl, yes_go ?_⟩
      refine ⟨_, rfl, by show (2 : Nat) ≤ sizeLine; decide, fun q hq => hN _ _ (Same.new hq) ⟨q, rfl, ?_⟩⟩
      rw [hide_ne (fun z => by rw [z, hys] at hq; cases hq), upd_same]
    · intro H1 ys1 s1 hd1 p1
      have h2' := s1 _ _ h2
      refine ⟨_, rfl, r, _, rfl, .inr (SqT.of h2'), ?_⟩
      rw [et]
      refine ⟨(t : Int), rfl, by omega, by omega, fun D2 hD2 => ?_⟩
      refine lc_relA walk_r0 (fun i y H => ∃ a, y = .ref a ∧ H a = some (.tup [.str stRow, .int (i : Int)])) (fun i y Ha Hb sm ⟨a, e, q⟩ => ⟨a, e, sm _ _ q⟩) (by omega) hD2 (fun _ _ => trivial) ?_ ?_
      · rintro i x Ha Hb ys hi sma hys ⟨rfl, rfl⟩ N M hN
        refine ⟨rfl, yes_go ?_⟩
        refine ⟨_, rfl, by show (2 : Nat) ≤ sizeLine; decide, fun q hq => hN _ _ (Same.new hq) ⟨q, rfl, ?_⟩⟩
        rw [hide_ne (fun z => by rw [z, hys] at hq; cases hq), upd_same]
      · intro H2 ys2 s2 hd2 p2
        have l1 := Paired.length p1
        have l2 := Paired.length p2
        rw [List.length_range] at l1 l2
        refine ⟨D, D2, ys1, ys2, rfl, rfl, s2 _ _ hd1, hd2, ?_, fun p hp => ?_⟩
        · exact Nat.le_trans (by omega : ys1.length + ys2.length ≤ 1000) (by decide)
        · refine k p (ys1 ++ ys2) _ (s1.free (s2.free hp)) ((s1.trans s2).trans (Same.new hp)) upd_same ?_
          unfold wiresOf
          have en : ∀ n : Nat, (n : Int).toNat = n := fun n => by omega
          rw [en] at p1 p2
          refine Paired.app (Paired.mapL (Paired.mapP p1 fun i y ⟨a, e, q⟩ => ⟨a, e, Same.new hp _ _ (s2 _ _ (hide_sub _ _ q))⟩)) (Paired.mapL (Paired.mapP p2 fun i y ⟨a, e, q⟩ => ⟨a, e, Same.new hp _ _ (hide_sub _ _ q)⟩))
abbrev tJoinT (K : PySem.W.Frag) (to te : TE) : TE := tM1 (fun x xs H Q => ∃ a p, ∃ ys : List Str, x = .str a ∧ xs = [.ref p] ∧ (SqL K H p (ys.map V.str) ∨ SqT K H p (ys.map V.str)) ∧ (ys.map (·.length)).sum + ys.length * a.length ≤ 16777216 ∧ Q (.str (Txt.join a ys)) H) to te
theorem ok_lturn (F : FnP K "_law_turned_rows" sLTurn f fd) (T : Bt mg) : FnOk P w K mg base CX 1 f fd ["_law_rows_here"] spLTurn := by
  refine F.ok scLTurn (fun vs H Q E h => ?_) (fun cdv A outer s H vs Q E hr h => ?_)
  · obtain ⟨r, g, t, w, rfl, _⟩ := h
    rfl
  · obtain ⟨r, g, t, wd, rfl, h2, hb, k⟩ := h
    have et : (rowsV g).length = t := by rw [rowsV, List.length_map, hb.tall]
    have w10 := hb.w10
    have t10 := hb.t10
    refine ⟨_, PSs.nox (pss_one (ps_ret (pe_callTy call_tuple_of (by rfl) T.tuple boot_tuple (pa_cons (pe_lc (own := [("_law_at", 1)]) (g := gName 1) (tt := tYes) (te := tJoinT K (tC (.str (SX.S []))) (tLc (iTup K (tVar 0)) (gName 2) tYes (tOp rIxS (tVar 2) (tVar 1)) [2])) rfl scLTurn.nd
        (pi_range1 (by rfl) T.range (pa_cons (pe_callB call_len_str (by rfl) T.len PySem.boot_len (pa_cons (pe_ix ix_tup (pv 0) pe_int (fun _ _ => rfl)) pa_nil)) pa_nil)) (blkOk_by (N := nmLTurn) (sc := defScope sLTurn) (by decide +kernel))
        (fun _ _ _ _ _ => pg_name (i := 1) scLTurn.nd rfl (Or.inr rfl)) (fun _ _ _ _ _ => pts_nil) (fun _ _ _ _ _ => pe_join pe_str
          (pe_lc (own := [("_law_row", 2)]) (g := gName 2) (tt := tYes) (te := tOp rIxS (tVar 2) (tVar 1)) rfl scLTurn.nd (pi_tup (pv 0)) (blkOk_by (N := nmLTurn) (sc := { kind := .function, names := [(".0", .local), ("_law_at", .cell), ("_law_rows_here", .cell)], isGenerator := false, isCoroutine := false }) (by decide +kernel))
            (fun _ _ _ _ _ => pg_name (i := 2) scLTurn.nd rfl (Or.inl rfl)) (fun _ _ _ _ _ => pts_nil) (fun _ _ _ _ _ => pe_ix ix_str (pv 2) (pv 1) (fun _ _ => rfl))))) pa_nil)))), ?_⟩
    obtain ⟨r0, e0, ea⟩ : ∃ r0 : List Bool, r0.length = wd ∧ atI (rowsV g) 0 = some (V.str (rowS r0)) := by
      obtain ⟨r0, rest, rfl, e0⟩ := rowsV_first hb
      exact ⟨r0, e0, at0 _ _⟩
    refine ⟨_, rfl, r, _, 0, _, rfl, rfl, SqT.of h2, ea, rowS r0, rfl, ?_, ?_⟩
    · rw [rowS_len, e0]
      exact Nat.le_trans hb.w10 (by decide)
    rw [rowS_len, e0]
    refine ⟨(wd : Int), rfl, by omega, by omega, fun D hD => ?_⟩
    refine lc_fn walk_r0 (fun i => V.str (rowS (g.map fun r => r.getD i false))) (by omega) hD (fun _ _ => trivial) ?_ ?_
    · rintro i x Ha Hb ys hi sma hys ⟨rfl, rfl⟩ N M hN
      have hi' : i < wd := by omega
      refine ⟨rfl, yes_go ?_⟩
      refine ⟨⟨_, rfl⟩, _, rfl, r, rfl, ⟨_, SqT.of (sma _ _ h2)⟩, fun D2 hD2 => ?_⟩
      refine lc_fn walk_tup (fun j => V.str (SX.S [cd ((g.getD j []).getD i false)])) (by omega) hD2 (fun H' s' => SqT.of (s' _ _ (sma _ _ h2))) ?_ ?_
      · rintro j x Hc Hd ys2 hj smc hys2 ⟨rfl, hx⟩ N2 M2 hN2
        have hj' : j < g.length := by rw [hb.tall]; omega
        have ex : x = V.str (rowS (g.getD j [])) := by
          have := rowsV_at g j hj'
          rw [List.getD_eq_getElem?_getD, hx] at this
          exact this
        subst ex
        have gw : (g.getD j []).length = wd := by
          rw [List.getD_eq_getElem?_getD, List.getElem?_eq_getElem hj']
          exact hb.wide _ (List.getElem_mem hj')
        refine ⟨rfl, yes_go ?_⟩
        refine ⟨_, rfl, _, rfl, rowS (g.getD j []), _, _, rfl, rfl, ?_, atI_nat (rowS_ix (by rw [gw]; exact hi')), hN2 _ (Same.refl _)⟩
        rw [rowS_len, gw]
        exact Nat.le_trans w10 (by decide)
      · intro H1 s1 hd1
        refine ⟨SX.S [], D2, ((g.map fun r => r.getD i false).map fun b => [cd b]).map SX.S, rfl, rfl, .inl (SqL.of ?_), ?_, ?_⟩
        · rw [hd1, et, ← hb.tall]
          refine congrArg (fun l => some (HO.lst l)) ?_
          refine List.ext_getElem (by simp) fun j h1 h2 => ?_
          simp at h1 h2
          simp [h2]
        · rw [sum_ones, List.length_map, List.length_map, List.length_map, List.length_map, hb.tall]
          show t + t * 0 ≤ _
          omega
        · rw [join_signs]
          exact hN _ s1
    · intro H1 s1 hd1
      refine ⟨D, _, rfl, .inl ⟨SqL.of hd1, fun q hq => ?_⟩⟩
      refine k q _ (s1.free hq) (s1.trans (Same.new hq)) ?_
      rw [upd_same]
      refine congrArg (fun l => some (HO.tup l)) ?_
      have en : (wd : Int).toNat = wd := by omega
      unfold rowsV turnG
      rw [en, List.map_map]
      rfl
end
end Wd

namespace Wd
open PySem PySem.Spec PyProof.Rows L2
/-! ### the dots of the turned board, sorted -/
theorem sorted_ext {α : Type} {lt : α → α → Prop} (irr : ∀ a, ¬ lt a a) (asym : ∀ a b, lt a b → ¬ lt b a) : ∀ {l m : List α}, l.Pairwise lt → m.Pairwise lt → (∀ a, a ∈ l ↔ a ∈ m) → l = m
  | [], [], _, _, _ => rfl
  | [], y :: m, _, _, h => nomatch (h y).mpr (List.mem_cons_self ..)
  | x :: l, [], _, _, h => nomatch (h x).mp (List.mem_cons_self ..)
  | x :: l, y :: m, hl, hm, h => by
    obtain ⟨hx, hl'⟩ := List.pairwise_cons.mp hl
    obtain ⟨hy, hm'⟩ := List.pairwise_cons.mp hm
    have e : x = y := by
      rcases List.mem_cons.mp ((h x).mp (List.mem_cons_self ..)) with e | h1
      · exact e
      · rcases List.mem_cons.mp ((h y).mpr (List.mem_cons_self ..)) with e | h2
        · exact e.symm
        · exact absurd (hy x h1) (asym _ _ (hx y h2))
    subst e
    rw [sorted_ext irr asym hl' hm' fun a => ⟨fun ha => ?_, fun ha => ?_⟩]
    · rcases List.mem_cons.mp ((h a).mp (List.mem_cons_of_mem _ ha)) with e | h1
      · exact absurd (e ▸ hx a ha) (irr _)
      · exact h1
    · rcases List.mem_cons.mp ((h a).mpr (List.mem_cons_of_mem _ ha)) with e | h1
      · exact absurd (e ▸ hy a ha) (irr _)
      · exact h1
def ltN (p q : Nat × Nat) : Prop := p.1 < q.1 ∨ p.1 = q.1 ∧ p.2 < q.2
theorem places_sorted (m : Nat → Nat) (keep : Nat → Nat → Bool) : ∀ n, (places n m keep).Pairwise ltN
  | 0 => List.Pairwise.nil
  | n + 1 => by
    rw [places_snoc]
    refine List.pairwise_append.mpr ⟨places_sorted m keep n, ?_, ?_⟩
    · exact List.Pairwise.map _ (fun a b (h : a < b) => Or.inr ⟨rfl, h⟩) (List.Pairwise.filter _ List.pairwise_lt_range)
    · intro a ha b hb
      obtain ⟨j, _, rfl⟩ := List.mem_map.mp hb
      exact Or.inl (places_lt ha).1
theorem ltN_irr (a : Nat × Nat) : ¬ ltN a a := fun h => by
  unfold ltN at h
  omega
theorem ltN_asym (a b : Nat × Nat) (h : ltN a b) : ¬ ltN b a := fun h2 => by
  unfold ltN at h h2
  omega
theorem dots_mem {g : List (List Bool)} {i j : Nat} : (i, j) ∈ dotsOf g ↔ i < g.length ∧ j < (g.getD i []).length ∧ (g.getD i []).getD j false = true :=
  ⟨fun h => places_lt h, fun ⟨h1, h2, h3⟩ => places_mem h1 h2 h3⟩
theorem getD_at {α : Type} {l : List α} {i : Nat} {d : α} (h : i < l.length) : l.getD i d = l[i] := by
  rw [List.getD_eq_getElem?_getD, List.getElem?_eq_getElem h]
  rfl
theorem turn_at {g : List (List Bool)} {t w i j : Nat} (hb : Brd g t w) (hi : i < w) (hj : j < t) : ((turnG g w).getD i []).getD j false = (g.getD j []).getD i false := by
  have h1 : i < (turnG g w).length := by simp [turnG, hi]
  have h2 : j < g.length := by rw [hb.tall]; exact hj
  rw [getD_at h1, getD_at h2]
  simp [turnG, h2]
theorem turn_mem {g : List (List Bool)} {t w i j : Nat} (hb : Brd g t w) : (i, j) ∈ dotsOf (turnG g w) ↔ (j, i) ∈ dotsOf g := by
  rw [dots_mem, dots_mem]
  have gl : ∀ k, k < t → (g.getD k []).length = w := fun k hk => by
    rw [getD_at (by rw [hb.tall]; exact hk)]
    exact hb.wide _ (List.getElem_mem _)
  have tl : ∀ k, k < w → ((turnG g w).getD k []).length = t := fun k hk => by
    have := (brd_turn hb).tall
    rw [getD_at (by rw [this]; exact hk)]
    exact (brd_turn hb).wide _ (List.getElem_mem _)
  rw [(brd_turn hb).tall, hb.tall]
  constructor
  · rintro ⟨h1, h2, h3⟩
    rw [tl i h1] at h2
    rw [turn_at hb h1 h2] at h3
    exact ⟨h2, by rw [gl j h2]; exact h1, h3⟩
  · rintro ⟨h1, h2, h3⟩
    rw [gl j h1] at h2
    exact ⟨h2, by rw [tl i h2]; exact h1, by rw [turn_at hb h2 h1]; exact h3⟩
/-- the pair at an address -/
def pairAt (H : Hp) (x : V) : Int × Int := match x with
  | .ref a => match H a with
    | some (.tup [.int i, .int j]) => (i, j)
    | _ => (0, 0)
  | _ => (0, 0)
def swapP (p : Nat × Nat) : Nat × Nat := (p.2, p.1)
theorem isDots_mem {H : Hp} {ps : List (Nat × Nat)} {ds : List V} (h : IsDots H ps ds) : ∀ x ∈ ds, ∃ p ∈ ps, ∃ a, x = .ref a ∧ H a = some (.tup (dotV p)) := by
  induction h with
  | nil => exact fun x hx => nomatch hx
  | cons r t ih =>
    intro x hx
    rcases List.mem_cons.mp hx with e | hx
    · subst e
      exact ⟨_, List.mem_cons_self .., r⟩
    · obtain ⟨p, hp, q⟩ := ih x hx
      exact ⟨p, List.mem_cons_of_mem _ hp, q⟩
theorem isDots_map {H : Hp} {ps : List (Nat × Nat)} {ds : List V} (h : IsDots H ps ds) : ds.map (pairAt H) = ps.map fun p => ((p.1 : Int), (p.2 : Int)) := by
  induction h with
  | nil => rfl
  | cons r t ih =>
    obtain ⟨a, rfl, ha⟩ := r
    rw [List.map_cons, List.map_cons, ih]
    refine congrArg (fun z => z :: _) ?_
    show (match H a with | some (.tup [.int i, .int j]) => (i, j) | _ => (0, 0)) = _
    rw [ha]
theorem isDots_of {H : Hp} : ∀ {ps : List (Nat × Nat)} {ds : List V}, ds.map (pairAt H) = ps.map (fun p => ((p.1 : Int), (p.2 : Int))) → (∀ x ∈ ds, ∃ a i j, x = .ref a ∧ H a = some (.tup [.int i, .int j])) → IsDots H ps ds
  | [], [], _, _ => .nil
  | [], _ :: _, h, _ => nomatch h
  | _ :: _, [], h, _ => nomatch h
  | p :: ps, d :: ds, h, k => by
    obtain ⟨a, i, j, rfl, ha⟩ := k d (List.mem_cons_self ..)
    injection h with h1 h2
    refine .cons ⟨a, rfl, ?_⟩ (isDots_of h2 fun x hx => k x (List.mem_cons_of_mem _ hx))
    have e : pairAt H (.ref a) = (i, j) := by
      show (match H a with | some (.tup [.int i, .int j]) => (i, j) | _ => (0, 0)) = _
      rw [ha]
    rw [e] at h1
    injection h1 with e1 e2
    rw [ha, e1, e2]
/-- what sorted gives is the turned board's dots -/
theorem sorted_turn {H : Hp} {g : List (List Bool)} {t w : Nat} {xs ys : List V} (hb : Brd g t w) (hx : IsDots H ((dotsOf g).map swapP) xs) (h1 : SrtO.Srtd (ltP (pairAt H)) ys) (h2 : SrtO.Stb (ltP (pairAt H)) ys xs) : IsDots H (dotsOf (turnG g w)) ys := by
  have hm : ∀ x ∈ ys, ∃ p ∈ (dotsOf g).map swapP, ∃ a, x = .ref a ∧ H a = some (.tup (dotV p)) := fun x hxy => isDots_mem hx x (h2.perm.mem_iff.mp hxy)
  refine isDots_of ?_ fun x hxy => ?_
  · have lt2 : ∀ p q : Nat × Nat, ltN p q ↔ SrtO.lexB ((p.1 : Int), (p.2 : Int)) ((q.1 : Int), (q.2 : Int)) = true := fun p q => by
      rw [SrtO.lexB_iff]
      unfold ltN
      show _ ↔ ((p.1 : Int) < (q.1 : Int) ∨ (p.1 : Int) = (q.1 : Int) ∧ (p.2 : Int) < (q.2 : Int))
      omega
    let lt : Int × Int → Int × Int → Prop := fun a b => SrtO.lexB a b = true
    have pm : (ys.map (pairAt H)).Perm (((dotsOf g).map swapP).map fun p => ((p.1 : Int), (p.2 : Int))) := by
      rw [← isDots_map hx]
      exact h2.perm.map _
    have inj : ∀ a b : Nat × Nat, ((a.1 : Int), (a.2 : Int)) = ((b.1 : Int), (b.2 : Int)) → a = b := fun a b h => by
      injection h with h1 h2
      exact Prod.ext (by omega) (by omega)
    have nd : (ys.map (pairAt H)).Nodup := by
      refine pm.nodup_iff.mpr ?_
      rw [List.map_map]
      refine List.Pairwise.map _ (fun a b (h : a ≠ b) z => h ?_) (dots_nodup g)
      have := inj (swapP a) (swapP b) z
      injection this with e1 e2
      exact Prod.ext e2 e1
    refine sorted_ext (lt := lt) ?_ ?_ ?_ ?_ ?_
    · intro a h
      have := SrtO.lexB_iff.mp h
      omega
    · intro a b h h'
      have := SrtO.lexB_iff.mp h
      have := SrtO.lexB_iff.mp h'
      omega
    · have s1 : (ys.map (pairAt H)).Pairwise fun a b => SrtO.lexB b a = false := List.pairwise_map.mpr h1
      refine List.Pairwise.imp₂ (fun a b (h1 : SrtO.lexB b a = false) (h2 : a ≠ b) => ?_) s1 nd
      have := SrtO.lexB_no.mp h1
      refine SrtO.lexB_iff.mpr ?_
      have h3 : ¬ (a.1 = b.1 ∧ a.2 = b.2) := fun z => h2 (Prod.ext z.1 z.2)
      omega
    · refine List.Pairwise.map _ (fun a b h => (lt2 a b).mp h) (places_sorted _ _ _)
    · intro a
      rw [pm.mem_iff, List.mem_map, List.mem_map]
      constructor
      · rintro ⟨p, hp, rfl⟩
        obtain ⟨q, hq, rfl⟩ := List.mem_map.mp hp
        exact ⟨(q.2, q.1), (turn_mem hb).mpr hq, rfl⟩
      · rintro ⟨p, hp, rfl⟩
        exact ⟨p, List.mem_map.mpr ⟨(p.2, p.1), (turn_mem hb).mp hp, rfl⟩, rfl⟩
  · obtain ⟨p, _, a, e, ha⟩ := hm x hxy
    exact ⟨a, _, _, e, ha⟩
end Wd

namespace Wd
open PySem PySem.Spec PyProof.Rows L2
def spLTD : Sp := fun vs H Q _ => ∃ (l : Addr) (ds : List V) (g : List (List Bool)) (t w : Nat), vs = [.ref l] ∧ H l = some (.lst ds) ∧ IsDots H (dotsOf g) ds ∧ Brd g t w ∧ ∀ p ys H', H p = none → Same H H' → H' p = some (.tup ys) → IsDots H' (dotsOf (turnG g w)) ys → Q (.ref p) H'
abbrev sLTD : Stmt := topS 28
abbrev nmLTD : List Str := ["_law_dots_here", "_law_row", "_law_column"]
theorem scLTD : FnScope nmLTD ["_law_dots_here"] (defScope sLTD) := ⟨rfl, rfl, rfl, by decide +kernel, rfl, by decide +kernel, by decide +kernel⟩
theorem paired_get {α β : Type} {F : α → β → Prop} : ∀ {l : List α} {m : List β} {i : Nat} {y : β}, Paired F l m → m[i]? = some y → ∃ x, l[i]? = some x ∧ F x y
  | _, _, i, y, .nil, h => by simp at h
  | _, _, 0, y, .cons r t, h => by
    cases h
    exact ⟨_, rfl, r⟩
  | _, _, i + 1, y, .cons r t, h => paired_get (i := i) t h
theorem paired_of {α β : Type} {F : α → β → Prop} : ∀ {l : List α} {m : List β}, l.length = m.length → (∀ (i : Nat) (x : α) (y : β), l[i]? = some x → m[i]? = some y → F x y) → Paired F l m
  | [], [], _, _ => .nil
  | [], _ :: _, h, _ => nomatch h
  | _ :: _, [], h, _ => nomatch h
  | x :: l, y :: m, h, k => .cons (k 0 x y rfl rfl) (paired_of (Nat.succ.inj h) fun i a b ha hb => k (i + 1) a b ha hb)
section
variable {P : Program} {w : World} {K : PySem.W.Frag} {mg : Str → Option Value} {base : Heap} {f : Addr} {fd : FuncData} {CX : CXT}
theorem ok_ltd (F : FnP K "_law_turned_dots" sLTD f fd) (T : Bt mg) : FnOk P w K mg base CX 1 f fd ["_law_dots_here"] spLTD := by
  refine F.ok scLTD (fun vs H Q E h => ?_) (fun cdv A outer s H vs Q E hr h => ?_)
  · obtain ⟨l, ds, g, t, w, rfl, _⟩ := h
    rfl
  · obtain ⟨l, ds, g, t, wd, rfl, hl, hds, hb, k⟩ := h
    refine ⟨_, PSs.nox (pss_one (ps_ret (pe_callTy call_tuple_of (by rfl) T.tuple boot_tuple (pa_cons (pe_callB cr_sortedPO (by rfl) T.sorted (by rfl) (pa_cons
        (pe_lc (own := [("_law_row", 1), ("_law_column", 2)]) (g := gTup K 2 (gCons (gName 1) (gCons (gName 2) gNil))) (tt := tYes) (te := tTup (tCons (tVar 2) (tCons (tVar 1) tNil))) rfl scLTD.nd (pi_list (pv 0)) (blkOk_by (N := nmLTD) (sc := defScope sLTD) (by decide +kernel))
          (fun _ _ _ _ _ => pg_tup rfl (pgs_cons (pg_name (i := 1) scLTD.nd rfl (Or.inl rfl)) (pgs_cons (pg_name (i := 2) scLTD.nd rfl (Or.inl rfl)) pgs_nil))) (fun _ _ _ _ _ => pts_nil) (fun _ _ _ _ _ => pe_tup (pa_cons (pv 2) (pa_cons (pv 1) pa_nil)))) pa_nil)) pa_nil)))), ?_⟩
    have ln := Paired.length hds
    have l100 := dots_le hb
    refine ⟨_, rfl, l, rfl, ⟨_, SqL.of hl⟩, fun D hD => ?_⟩
    refine lc_relA walk_list (fun i y H => ∃ a p, y = .ref a ∧ (dotsOf g)[i]? = some p ∧ H a = some (.tup (dotV (swapP p)))) (fun i y Ha Hb sm ⟨a, p, e, h, q⟩ => ⟨a, p, e, h, sm _ _ q⟩) (by omega) hD (fun H' s' => SqL.of (s' _ _ hl)) ?_ ?_
    · rintro i x Ha Hb ys hi sma hys ⟨rfl, hx⟩ N M hN
      obtain ⟨p, hp, a, rfl, ha⟩ := paired_get hds hx
      refine ⟨a, _, rfl, SqT.of (sma _ _ ha), rfl, _, _, rfl, _, _, rfl, rfl, rfl, yes_go ?_⟩
      refine ⟨_, rfl, _, rfl, by show (2 : Nat) ≤ sizeLine; decide, fun q hq => hN _ _ (Same.new hq) ⟨q, p, rfl, hp, ?_⟩⟩
      rw [hide_ne (fun z => by rw [z, hys] at hq; cases hq), upd_same]
      rfl
    · intro H1 ys1 s1 hd1 p1
      have isd : IsDots H1 ((dotsOf g).map swapP) ys1 := by
        have ln2 := Paired.length p1
        rw [List.length_range] at ln2
        refine paired_of (by rw [List.length_map]; omega) fun i x y hx hy => ?_
        have hi : i < ds.length := by
          rw [ln2]
          exact (List.getElem?_eq_some_iff.mp hy).1
        obtain ⟨a, p, rfl, hp, ha⟩ := paired_at p1 (List.getElem?_range hi) hy
        rw [List.getElem?_map, hp] at hx
        cases hx
        exact ⟨a, rfl, hide_sub _ _ ha⟩
      refine ⟨D, ys1, pairAt H1, rfl, SqL.of hd1, ?_, ?_⟩
      · intro x hx
        obtain ⟨p, hp, a, rfl, ha⟩ := isDots_mem isd x hx
        refine ⟨a, rfl, ?_⟩
        have e : pairAt H1 (.ref a) = ((p.1 : Int), (p.2 : Int)) := by
          show (match H1 a with | some (.tup [.int i, .int j]) => (i, j) | _ => (0, 0)) = _
          rw [ha]
        rw [e]
        exact ha
      · intro ys p h1 h2 hp
        have fin := sorted_turn hb isd h1 h2
        refine ⟨p, _, rfl, .inl ⟨SqL.of upd_same, fun q hq => ?_⟩⟩
        have sm := (Same.new (o := .lst ys) hp).trans (Same.new (o := .tup ys) hq)
        refine k q ys _ ?_ (s1.trans sm) upd_same (fin.same sm)
        exact s1.free ((Same.new hp).free hq)
end
end Wd

namespace Wd
open PySem PySem.Spec PyProof.Rows L2
/-! ### data that repr may show -/
structure Fit (d : PyData) (dep wt : Nat) : Prop where
  lay : d.canLay0 = true
  sh : d.showable = true
  is : d.intsShort 13 = true
  dp : d.depth ≤ dep
  wg : d.weight ≤ wt
theorem fit_int {n : Nat} (h : n ≤ 100) : Fit (.int (n : Int)) 0 10 := by
  have a : ∀ m : Nat, m < 101 → (PyData.showable (.int (m : Int)) && (PyData.intsShort 13 (.int (m : Int)) && decide (PyData.weight (.int (m : Int)) ≤ 10))) = true := by decide +kernel
  have b := a n (by omega)
  rw [Bool.and_eq_true_iff, Bool.and_eq_true_iff] at b
  exact ⟨rfl, b.1, b.2.1, Nat.le_refl 0, of_decide_eq_true b.2.2⟩
theorem fit_bl (b : Bool) : Fit (.bool b) 0 0 := ⟨rfl, rfl, rfl, Nat.le_refl 0, Nat.le_refl 0⟩
theorem fit_str {z : Str} {n : Nat} (h : PyData.strOk z = true) (hz : z.cps.size ≤ n) : Fit (.str z) 0 n := ⟨h, rfl, rfl, Nat.le_refl 0, hz⟩
theorem Fit.mono {d : PyData} {a b a' b' : Nat} (h : Fit d a b) (ha : a ≤ a') (hb : b ≤ b') : Fit d a' b' := ⟨h.lay, h.sh, h.is, Nat.le_trans h.dp ha, Nat.le_trans h.wg hb⟩
theorem fit_all {ds : List PyData} {a b n : Nat} (h : ∀ d ∈ ds, Fit d a b) (hn : ds.length ≤ n) : PyData.canLayAll0 ds = true ∧ PyData.showableAll ds = true ∧ PyData.intsShortAll 13 ds = true ∧ PyData.depthAll ds ≤ a ∧ PyData.weightAll ds ≤ n * (b + 1) := by
  induction ds generalizing n with
  | nil => exact ⟨rfl, rfl, rfl, Nat.zero_le _, Nat.zero_le _⟩
  | cons d ds ih =>
    obtain ⟨m, rfl⟩ : ∃ m, n = m + 1 := ⟨n - 1, by rw [List.length_cons] at hn; omega⟩
    obtain ⟨h1, h2, h3, h4, h5⟩ := ih (n := m) (fun x hx => h x (List.mem_cons_of_mem _ hx)) (by rw [List.length_cons] at hn; omega)
    have f := h d (List.mem_cons_self ..)
    refine ⟨?_, ?_, ?_, ?_, ?_⟩
    · show (d.canLay0 && PyData.canLayAll0 ds) = true
      rw [f.lay, h1]
      rfl
    · show (d.showable && PyData.showableAll ds) = true
      rw [f.sh, h2]
      rfl
    · show (d.intsShort 13 && PyData.intsShortAll 13 ds) = true
      rw [f.is, h3]
      rfl
    · show max d.depth (PyData.depthAll ds) ≤ a
      exact Nat.max_le.mpr ⟨f.dp, h4⟩
    · show d.weight + 1 + PyData.weightAll ds ≤ (m + 1) * (b + 1)
      have := f.wg
      rw [Nat.add_mul, Nat.one_mul]
      omega
theorem fit_tup {ds : List PyData} {a b n m : Nat} (h : ∀ d ∈ ds, Fit d a b) (hn : ds.length ≤ n) (hm : n * (b + 1) ≤ m) : Fit (.tuple ds) (a + 1) m := by
  obtain ⟨h1, h2, h3, h4, h5⟩ := fit_all h hn
  exact ⟨h1, h2, h3, Nat.succ_le_succ h4, Nat.le_trans h5 hm⟩
theorem fit_lst {ds : List PyData} {a b n m : Nat} (h : ∀ d ∈ ds, Fit d a b) (hn : ds.length ≤ n) (hm : n * (b + 1) ≤ m) : Fit (.list ds) (a + 1) m := by
  obtain ⟨h1, h2, h3, h4, h5⟩ := fit_all h hn
  exact ⟨h1, h2, h3, Nat.succ_le_succ h4, Nat.le_trans h5 hm⟩
theorem Fit.shaped {d : PyData} {a b : Nat} (h : Fit d a b) (ha : a ≤ 64) : SeqAt.shaped d = true := by
  show (d.canLay0 && decide (d.depth ≤ 64)) = true
  rw [h.lay, decide_eq_true (Nat.le_trans h.dp ha)]
  rfl
theorem Fit.short {d : PyData} {a b : Nat} (h : Fit d a b) (ha : a ≤ 64) (hb : b ≤ 1000000) : d.shown.length ≤ sizeLine := by
  refine Nat.le_trans (shown_le13 ?_ h.is) (by decide)
  show (d.canLay0 && decide (d.depth ≤ 64) && decide (d.weight ≤ 2 ^ 20)) = true
  rw [h.lay, decide_eq_true (Nat.le_trans h.dp ha), decide_eq_true (Nat.le_trans h.wg (Nat.le_trans hb (by decide)))]
  rfl
def dotD (p : Nat × Nat) : PyData := .tuple [.int (p.1 : Int), .int (p.2 : Int)]
def wireD (p : Str × Nat) : PyData := .tuple [.str p.1, .int (p.2 : Int)]
def dotsD (ps : List (Nat × Nat)) : List PyData := ps.map dotD
def wiresD (ps : List (Str × Nat)) : List PyData := ps.map wireD
theorem dp_dots {K : PySem.W.Frag} {H : Hp} {ps : List (Nat × Nat)} {ds : List V} (h : IsDots H ps ds) : DpAll K H ds (dotsD ps) := by
  induction h with
  | nil => exact .nil
  | cons r t ih =>
    obtain ⟨a, rfl, ha⟩ := r
    exact .cons (.tup (SqT.of ha) (.cons (.int _) (.cons (.int _) .nil))) ih
theorem dp_wires {K : PySem.W.Frag} {H : Hp} {ps : List (Str × Nat)} {ds : List V} (h : IsWires H ps ds) : DpAll K H ds (wiresD ps) := by
  induction h with
  | nil => exact .nil
  | cons r t ih =>
    obtain ⟨a, rfl, ha⟩ := r
    exact .cons (.tup (SqT.of ha) (.cons (.str _) (.cons (.int _) .nil))) ih
theorem fit_dot {p : Nat × Nat} (h1 : p.1 ≤ 100) (h2 : p.2 ≤ 100) : Fit (dotD p) 1 100 :=
  fit_tup (a := 0) (b := 10) (n := 2) (fun d hd => by
    rcases List.mem_cons.mp hd with e | hd
    · rw [e]
      exact fit_int h1
    · rcases List.mem_cons.mp hd with e | hd
      · rw [e]
        exact fit_int h2
      · cases hd) (Nat.le_refl 2) (by decide)
theorem dots_small {g : List (List Bool)} {t w : Nat} (hb : Brd g t w) {p : Nat × Nat} (h : p ∈ dotsOf g) : p.1 < t ∧ p.2 < w := by
  obtain ⟨h1, h2, h3⟩ := places_lt h
  rw [hb.tall] at h1
  refine ⟨h1, ?_⟩
  have e : (g.getD p.1 []).length = w := by
    rw [getD_at (by rw [hb.tall]; exact h1)]
    exact hb.wide _ (List.getElem_mem _)
  rw [← e]
  exact h2
theorem fit_dots {g : List (List Bool)} {t w : Nat} (hb : Brd g t w) : ∀ d ∈ dotsD (dotsOf g), Fit d 1 100 := fun d hd => by
  obtain ⟨p, hp, rfl⟩ := List.mem_map.mp hd
  obtain ⟨h1, h2⟩ := dots_small hb hp
  have := hb.t10
  have := hb.w10
  exact fit_dot (by omega) (by omega)
theorem fit_dotsT {g : List (List Bool)} {t w : Nat} (hb : Brd g t w) : Fit (.tuple (dotsD (dotsOf g))) 2 10100 := fit_tup (fit_dots hb) (by rw [dotsD, List.length_map]; exact dots_le hb) (by decide)
theorem fit_dotsL {g : List (List Bool)} {t w : Nat} (hb : Brd g t w) : Fit (.list (dotsD (dotsOf g))) 2 10100 := fit_lst (fit_dots hb) (by rw [dotsD, List.length_map]; exact dots_le hb) (by decide)
theorem fit_rows {g : List (List Bool)} {t w : Nat} (hb : Brd g t w) : Fit (rowsD g) 1 110 := by
  refine fit_tup (a := 0) (b := 10) (n := 10) (fun d hd => ?_) (by rw [List.length_map, hb.tall]; exact hb.t10) (by decide)
  obtain ⟨r, hr, rfl⟩ := List.mem_map.mp hd
  refine fit_str (strOk_rowS r) ?_
  rw [rowS_size, hb.wide r hr]
  exact hb.w10
theorem fit_wires {g : List (List Bool)} {t w : Nat} (hb : Brd g t w) : Fit (.tuple (wiresD (wiresOf t w))) 2 10100 := by
  have := hb.t10
  have := hb.w10
  refine fit_tup (a := 1) (b := 100) (n := 100) (fun d hd => ?_) ?_ (by decide)
  · obtain ⟨p, hp, rfl⟩ := List.mem_map.mp hd
    have h : (p.1 = stCol ∨ p.1 = stRow) ∧ p.2 ≤ 100 := by
      rcases List.mem_append.mp hp with h | h
      · obtain ⟨c, hc, rfl⟩ := List.mem_map.mp h
        have := List.mem_range.mp hc
        exact ⟨.inl rfl, by show c ≤ 100; omega⟩
      · obtain ⟨c, hc, rfl⟩ := List.mem_map.mp h
        have := List.mem_range.mp hc
        exact ⟨.inr rfl, by show c ≤ 100; omega⟩
    refine fit_tup (a := 0) (b := 10) (n := 2) (fun d hd => ?_) (Nat.le_refl 2) (by decide)
    rcases List.mem_cons.mp hd with e | hd
    · rw [e]
      rcases h.1 with e | e <;> rw [e]
      · exact fit_str (by decide +kernel) (by decide +kernel)
      · exact fit_str (by decide +kernel) (by decide +kernel)
    · rcases List.mem_cons.mp hd with e | hd
      · rw [e]
        exact fit_int h.2
      · cases hd
  · rw [wiresD, List.length_map, wiresOf, List.length_append, List.length_map, List.length_map, List.length_range, List.length_range]
    omega
/-- is it among the dots -/
theorem any_dots (g : List (List Bool)) (r c : Int) : (dotsD (dotsOf g)).any (fun z => PyData.eqv z (.tuple [.int r, .int c])) = contB g [.int r, .int c] := by
  show _ = ((decide (0 ≤ r) && decide (0 ≤ c)) && decide ((r.toNat, c.toNat) ∈ dotsOf g))
  rw [Bool.eq_iff_iff, List.any_eq_true, Bool.and_eq_true_iff, Bool.and_eq_true_iff, decide_eq_true_iff, decide_eq_true_iff, decide_eq_true_iff]
  constructor
  · rintro ⟨d, hd, e⟩
    obtain ⟨p, hp, rfl⟩ := List.mem_map.mp hd
    have e' : (((p.1 : Int) == r) && (((p.2 : Int) == c) && true)) = true := e
    rw [Bool.and_true, Bool.and_eq_true_iff, beq_iff_eq, beq_iff_eq] at e'
    obtain ⟨e1, e2⟩ := e'
    subst e1 e2
    exact ⟨⟨by omega, by omega⟩, by simpa using hp⟩
  · rintro ⟨⟨h1, h2⟩, h3⟩
    refine ⟨_, List.mem_map.mpr ⟨_, h3, rfl⟩, ?_⟩
    show ((((r.toNat : Nat) : Int) == r) && ((((c.toNat : Nat) : Int) == c) && true)) = true
    rw [Int.toNat_of_nonneg h1, Int.toNat_of_nonneg h2, beq_self_eq_true, beq_self_eq_true]
    rfl
theorem eqv_dots : ∀ ps : List (Nat × Nat), PyData.eqv (.tuple (dotsD ps)) (.tuple (dotsD ps)) = true
  | [] => rfl
  | p :: ps => by
    show ((((p.1 : Int) == (p.1 : Int)) && (((p.2 : Int) == (p.2 : Int)) && true)) && PyData.eqvAll (dotsD ps) (dotsD ps)) = true
    have := eqv_dots ps
    rw [show PyData.eqvAll (dotsD ps) (dotsD ps) = true from this, beq_self_eq_true, beq_self_eq_true]
    rfl
theorem turn_turn {g : List (List Bool)} {t w : Nat} (hb : Brd g t w) : turnG (turnG g w) t = g := by
  have hb2 := brd_turn (brd_turn hb)
  refine List.ext_getElem (by rw [hb2.tall, hb.tall]) fun i h1 h2 => ?_
  have hi : i < t := by rw [← hb.tall]; exact h2
  refine List.ext_getElem (by rw [hb2.wide _ (List.getElem_mem h1), hb.wide _ (List.getElem_mem h2)]) fun j h3 h4 => ?_
  have hj : j < w := by rw [← hb.wide _ (List.getElem_mem h2)]; exact h4
  have e1 := turn_at (brd_turn hb) hi hj
  rw [turn_at hb hj hi, getD_at h1, getD_at h3, getD_at h2, getD_at h4] at e1
  exact e1
end Wd

namespace Wd
open PySem PySem.Spec PyProof.Rows L2

/-! the facts that stand through the def -/
theorem tyx_same {K : PySem.W.Frag} {H H' : Hp} {v : V} {t : Value} (x : Same H H') (ty : TyX K H v t) : TyX K H' v t := by
  cases ty with
  | base b =>
    refine .base ?_
    cases b with
    | non => exact .non
    | bl y => exact .bl y
    | int y => exact .int y
    | str y => exact .str y
    | flt y => exact .flt y
    | lst e => exact .lst (x _ _ e)
    | frz e => exact .frz (x _ _ e)
    | tup e => exact .tup (x _ _ e)
    | dK e => exact .dK (x _ _ e)
    | dT e => exact .dT (x _ _ e)
    | ins e c h1 h2 h3 h4 => exact .ins (x _ _ e) c h1 h2 h3 h4
  | byt y => exact .byt y
  | set e => exact .set (x _ _ e)
  | kList e c => exact .kList e c
  | kTuple e c => exact .kTuple e c
  | kDict e c => exact .kDict e c
  | fTuple e => exact .fTuple (x _ _ e)
  | fDict e => exact .fDict (x _ _ e)
theorem Pot.same {H H' : Hp} {a : Addr} {n : Nat} (x : Same H H') (p : Pot H a n) : Pot H' a n := by
  obtain ⟨o, b, c, e, r⟩ := p
  exact ⟨o, b, c, x _ _ e, r⟩
theorem IsDots.exB {H H' : Hp} {a : Addr} {n : Nat} {ps : List (Nat × Nat)} {ds : List V} (p : Pot H a n) (x : ExB a H H') (h : IsDots H ps ds) : IsDots H' ps ds := by
  obtain ⟨o, b, c, e, r⟩ := p
  exact Paired.mapP h fun q y ⟨z, e2, h2⟩ => ⟨z, e2, x _ _ (ne_of h2 e (by intro w; cases w)) h2⟩
theorem IsBoard.exB {C b a : Addr} {H H' : Hp} {g : List (List Bool)} {t w n : Nat} (p : Pot H a n) (x : ExB a H H') (h : IsBoard C H b g t w) : IsBoard C H' b g t w := by
  obtain ⟨⟨dx, r, d, at_, ds, h1, h2, h3, h4, h5⟩, hb⟩ := h
  obtain ⟨o, b, c, e, r⟩ := id p
  exact ⟨⟨dx, _, d, at_, ds, x _ _ (ne_of h1 e (by intro w; cases w)) h1, x _ _ (ne_of h2 e (by intro w; cases w)) h2, x _ _ (ne_of h3 e (by intro w; cases w)) h3, h4.exB p x, x _ _ (ne_of h5 e (by intro w; cases w)) h5⟩, hb⟩
structure RF (C a r b l : Addr) (g : List (List Bool)) (t w : Nat) (ds : List V) (m : Nat) (H0 H : Hp) : Prop where
  ex : ExB a H0 H
  pot : Pot H a m
  rw_ : H r = some (.tup (rowsV g))
  hb : Brd g t w
  bd : IsBoard C H b g t w
  hl : H l = some (.lst ds)
  la : l ≠ a
  ds_ : IsDots H (dotsOf g) ds
section
variable {C a r b l : Addr} {g : List (List Bool)} {t w m m' : Nat} {ds : List V} {H0 H H' : Hp}
theorem RF.same (f : RF C a r b l g t w ds m H0 H) (x : Same H H') : RF C a r b l g t w ds m H0 H' := ⟨f.ex.trans (ExB.of x), f.pot.same x, x _ _ f.rw_, f.hb, f.bd.same x, x _ _ f.hl, f.la, f.ds_.same x⟩
theorem RF.exB (f : RF C a r b l g t w ds m H0 H) (x : ExB a H H') (p : Pot H' a m') : RF C a r b l g t w ds m' H0 H' := by
  obtain ⟨o, b, c, e, _⟩ := id f.pot
  exact ⟨f.ex.trans x, p, x _ _ (ne_of f.rw_ e (by intro w; cases w)) f.rw_, f.hb, f.bd.exB f.pot x, x _ _ f.la f.hl, f.la, f.ds_.exB f.pot x⟩
theorem RF.ins (f : RF C a r b l g t w ds m H0 H) : ∃ dx fs, H b = some (.ins C dx fs) := by
  obtain ⟨⟨dx, r, d, at_, ds, h1, _⟩, _⟩ := f.bd
  exact ⟨dx, _, h1⟩
end
/-- the list of what a board tells -/
def FD (H : Hp) (fo : Addr) (g : List (List Bool)) (t w : Nat) : Prop := ∃ (r d wp : Addr) (ds ys : List V), H fo = some (.lst [.ref r, .int (t : Int), .int (w : Int), .ref d, .ref wp, .bl (decide ((dotsOf g).length = t * w)), .int ((dotsOf g).length : Int)]) ∧
  H r = some (.tup (rowsV g)) ∧ H d = some (.tup ds) ∧ IsDots H (dotsOf g) ds ∧ H wp = some (.tup ys) ∧ IsWires H (wiresOf t w) ys
theorem IsWires.same {H H' : Hp} {ps : List (Str × Nat)} {ds : List V} (x : Same H H') (h : IsWires H ps ds) : IsWires H' ps ds := Paired.mapP h fun p y ⟨a, e, q⟩ => ⟨a, e, x _ _ q⟩
theorem FD.same {H H' : Hp} {fo : Addr} {g : List (List Bool)} {t w : Nat} (x : Same H H') (h : FD H fo g t w) : FD H' fo g t w := by
  obtain ⟨r, d, wp, ds, ys, h1, h2, h3, h4, h5, h6⟩ := h
  exact ⟨r, d, wp, ds, ys, x _ _ h1, x _ _ h2, x _ _ h3, h4.same x, x _ _ h5, h6.same x⟩
def datF (g : List (List Bool)) (t w : Nat) : PyData := .list [rowsD g, .int (t : Int), .int (w : Int), .tuple (dotsD (dotsOf g)), .tuple (wiresD (wiresOf t w)), .bool (decide ((dotsOf g).length = t * w)), .int ((dotsOf g).length : Int)]
theorem FD.dp {K : PySem.W.Frag} {H : Hp} {fo : Addr} {g : List (List Bool)} {t w : Nat} (h : FD H fo g t w) : Dp K H (.ref fo) (datF g t w) := by
  obtain ⟨r, d, wp, ds, ys, h1, h2, h3, h4, h5, h6⟩ := h
  exact .lst (SqL.of h1) (.cons (dp_rows h2) (.cons (.int _) (.cons (.int _) (.cons (.tup (SqT.of h3) (dp_dots h4)) (.cons (.tup (SqT.of h5) (dp_wires h6)) (.cons (.bl _) (.cons (.int _) .nil)))))))
theorem fit_datF {g : List (List Bool)} {t w : Nat} (hb : Brd g t w) : Fit (datF g t w) 3 100000 := by
  have := hb.t10
  have := hb.w10
  have := dots_le hb
  refine fit_lst (a := 2) (b := 10100) (n := 7) (fun d hd => ?_) (Nat.le_refl 7) (by decide)
  simp only [List.mem_cons, List.not_mem_nil, or_false] at hd
  rcases hd with e | e | e | e | e | e | e <;> rw [e]
  · exact (fit_rows hb).mono (by decide) (by decide)
  · exact (fit_int (by omega)).mono (by decide) (by decide)
  · exact (fit_int (by omega)).mono (by decide) (by decide)
  · exact (fit_dotsT hb).mono (by decide) (by decide)
  · exact (fit_wires hb).mono (by decide) (by decide)
  · exact (fit_bl _).mono (by decide) (by decide)
  · exact (fit_int (by omega)).mono (by decide) (by decide)
/-- not in a board -/
def NC (K : PySem.W.Frag) (H : Hp) (g : List (List Bool)) (x : V) : Prop := (∃ a xs, x = .ref a ∧ H a = some (.tup xs) ∧ (xs.length = 2 → ∀ x ∈ xs, NumT K H x) ∧ contB g xs = false) ∨ TupT K H x none
theorem NC.same {K : PySem.W.Frag} {H H' : Hp} {g : List (List Bool)} {x : V} (s : Same H H') (h : NC K H g x) : NC K H' g x := by
  rcases h with ⟨a, xs, e, h1, h2, h3⟩ | ⟨t, ty, hk⟩
  · exact .inl ⟨a, xs, e, s _ _ h1, fun q y hy => NumT.same s (h2 q y hy), h3⟩
  · exact .inr ⟨t, tyx_same s ty, hk⟩
end Wd

namespace Wd
open PySem PySem.Spec PyProof.Rows L2
/-! ### what _law_right leans on -/
structure Me (P : Program) (w : World) (K : PySem.W.Frag) (mg : Str → Option Value) (base : Heap) (C : Addr) (k : Nat) (x : Str) (ps : List Str) (sp : Sp) where
  f : Addr
  fd : FuncData
  m : Meth K C x f
  ok : FnOk P w K mg base CX0 k f fd ps sp
  b : Binds K fd ps []
structure Pr (P : Program) (w : World) (K : PySem.W.Frag) (mg : Str → Option Value) (base : Heap) (C : Addr) (k : Nat) (x : Str) (sp : Sp) where
  p : Addr
  g : Addr
  fd : FuncData
  pr : PropOf K C x p g
  ok : FnOk P w K mg base CX0 k g fd ["self"] sp
  b : Binds K fd ["self"] []
structure NF (K : PySem.W.Frag) (C : Addr) : Prop where
  tup : PySem.W.notFirst K C (.type "tuple") = true
  int : PySem.W.notFirst K C (.type "int") = true
  own : PySem.W.notFirst K C (.ref C) = true
structure RC (P : Program) (w : World) (K : PySem.W.Frag) (mg : Str → Option Value) (base : Heap) (C : Addr) where
  T : Bt mg
  Z : BT K mg C
  c : CF K C
  nf : NF K C
  M : MB P w K mg base C
  small : Cl P w K mg base CX0 3 "_law_small_rows" ["_law_pot_here", "_law_most"] spSmall
  of : Cl P w K mg base CX0 2 "_law_of" ["_law_pot_here", "_law_some"] (spOf K)
  dots : Cl P w K mg base CX0 1 "_law_dots" ["_law_rows_here"] spLDots
  wires : Cl P w K mg base CX0 1 "_law_all_wires" ["_law_rows_here"] spLWires
  turn : Cl P w K mg base CX0 1 "_law_turned_rows" ["_law_rows_here"] spLTurn
  td : Cl P w K mg base CX0 1 "_law_turned_dots" ["_law_dots_here"] spLTD
  pR : Pr P w K mg base C 1 "rows" (spRowsB C)
  pH : Pr P w K mg base C 1 "height" (spHeightB C)
  pW : Pr P w K mg base C 1 "width" (spWidthB C)
  pD : Pr P w K mg base C 1 "dots" (spDotsB C)
  pX : Pr P w K mg base C 1 "wires" (spWiresB C)
  pF : Pr P w K mg base C 1 "is_full" (spFullB C)
  mL : Me P w K mg base C 1 "__len__" ["self"] (spLenB C)
  mI : Me P w K mg base C 2 "__contains__" ["self", "value"] (spContB K C)
  mE : Me P w K mg base C 1 "__eq__" ["self", "other"] (spEqB K C)
  mV : Me P w K mg base C 5 "__invert__" ["self"] (spInvB C)
def spRight : Sp := fun vs H Q _ => ∃ a n, vs = [.ref a] ∧ Pot H a n ∧ n < 1000 ∧ ∀ H', ExB a H H' → Q (.bl true) H'
abbrev sRight : Stmt := topS 29
abbrev nmRight : List Str := ["_law_pot_here", "_law_rows_here", "_law_board", "_law_dots_here", "_law_wide", "_law_found", "_law_due", "_law_row", "_law_at", "_law_first", "_law_some", "_law_value", "_law_other"]
theorem scRight : FnScope nmRight ["_law_pot_here"] (defScope sRight) := ⟨rfl, rfl, rfl, by decide +kernel, rfl, by decide +kernel, by decide +kernel⟩
section
variable {P : Program} {w : World} {K : PySem.W.Frag} {mg : Str → Option Value} {base : Heap} {f C : Addr} {fd : FuncData}
theorem ok_right (F : FnP K "_law_right" sRight f fd) (R : RC P w K mg base C) : FnG P w K mg base CX0 6 f fd ["_law_pot_here"] spRight := by
  refine fng_of F scRight (fun vs H Q E h => ?_) (fun cdv A outer s H vs Q E ga hr h => ?_)
  · obtain ⟨a, n, rfl, _⟩ := h
    rfl
  · obtain ⟨a, n, rfl, hp, hn, k⟩ := h
    have T := R.T
    have Z := R.Z
    have h4 := hr.mono (show 4 ≤ 5 by decide)
    have h3 := hr.mono (show 3 ≤ 5 by decide)
    have h2 := hr.mono (show 2 ≤ 5 by decide)
    have h1 := hr.mono (show 1 ≤ 5 by decide)
    have hu := hr.un
    have nd := scRight.nd
    have hd : ∀ m, m ≤ 200 → A.units + 3 + m < cLine := fun m hm => by have : A.units + 3 + 16 * 5 + 200 < cLine := hu; omega
    refine ⟨_, PSs.nox (Evl.pss_cut (ps_set (i := 1) scRight.nd rfl (Or.inl rfl) (pe_call R.small.ok h3 (by rfl) R.small.mg R.small.kp R.small.b .nil pass0 (pa_cons (pv 0) (pa_cons (pe_call R.of.ok h2 (by rfl) R.of.mg R.of.kp R.of.b .nil pass0 (pa_cons (pv 0) (pa_cons (pe_lst (pa_cons pe_int (pa_cons pe_int (pa_cons pe_int pa_nil)))) pa_nil))) pa_nil))))
      (Evl.pss_cut (ps_asg (pe_tup (pa_cons (pe_make R.M.mk_ R.M.ok h4 (by rfl) Z.mgC R.M.b .nil pass0 (pa_cons (pv 1) pa_nil)) (pa_cons (pe_call R.dots.ok h1 (by rfl) R.dots.mg R.dots.kp R.dots.b .nil pass0 (pa_cons (pv 1) pa_nil)) (pa_cons (pe_callB call_len_str (by rfl) T.len PySem.boot_len (pa_cons (pe_ix ix_tup (pv 1) pe_int (fun _ _ => rfl)) pa_nil)) pa_nil)))) (pg_tup rfl (pgs_cons (pg_name (i := 2) scRight.nd rfl (Or.inr rfl)) (pgs_cons (pg_name (i := 3) scRight.nd rfl (Or.inr rfl)) (pgs_cons (pg_name (i := 4) scRight.nd rfl (Or.inl rfl)) pgs_nil)))))
      (Evl.pss_cut (ps_set (i := 5) scRight.nd rfl (Or.inl rfl) (pe_lst (pa_cons (pe_prop (pv 2) Z.cl R.pR.pr R.pR.ok h2 R.pR.b .nil pass0 rfl) (pa_cons (pe_prop (pv 2) Z.cl R.pH.pr R.pH.ok h2 R.pH.b .nil pass0 rfl) (pa_cons (pe_prop (pv 2) Z.cl R.pW.pr R.pW.ok h2 R.pW.b .nil pass0 rfl) (pa_cons (pe_prop (pv 2) Z.cl R.pD.pr R.pD.ok h2 R.pD.b .nil pass0 rfl) (pa_cons (pe_prop (pv 2) Z.cl R.pX.pr R.pX.ok h2 R.pX.b .nil pass0 rfl) (pa_cons (pe_prop (pv 2) Z.cl R.pF.pr R.pF.ok h2 R.pF.b .nil pass0 rfl) (pa_cons (pe_callB (call_len_own R.mL.m R.mL.ok h2 R.mL.b pass0) (by rfl) T.len PySem.boot_len (pa_cons (pv 2) pa_nil)) pa_nil)))))))))
      (Evl.pss_cut (ps_set (i := 6) scRight.nd rfl (Or.inl rfl) (pe_lst (pa_cons (pv 1) (pa_cons (pe_callB call_len_seq (by rfl) T.len PySem.boot_len (pa_cons (pv 1) pa_nil)) (pa_cons (pv 4) (pa_cons (pe_callTy call_tuple_of (by rfl) T.tuple boot_tuple (pa_cons (pv 3) pa_nil)) (pa_cons (pe_callTy call_tuple_of (by rfl) T.tuple boot_tuple (pa_cons (pe_call R.wires.ok h1 (by rfl) R.wires.mg R.wires.kp R.wires.b .nil pass0 (pa_cons (pv 1) pa_nil)) pa_nil)) (pa_cons (pe_cmpR op_eq (pe_callB call_len_seq (by rfl) T.len PySem.boot_len (pa_cons (pv 3) pa_nil)) (pe_op op_mul (pe_callB call_len_seq (by rfl) T.len PySem.boot_len (pa_cons (pv 1) pa_nil)) (pv 4)) (nomark _)) (pa_cons (pe_callB call_len_seq (by rfl) T.len PySem.boot_len (pa_cons (pv 3) pa_nil)) pa_nil)))))))))
      (Evl.pss_cut (ps_if (pt_cmpR op_ne (pe_callB (call_reprD ga (hd 66 (by decide))) (by rfl) T.repr boot_repr (pa_cons (pv 5) pa_nil)) (pe_callB (call_reprD ga (hd 66 (by decide))) (by rfl) T.repr boot_repr (pa_cons (pv 6) pa_nil)) (nomark _)) (pss_one (ps_ret pe_bl)) pss_nil)
      (Evl.pss_cut (ps_for PassesOwn.never rfl (pi_range2 (by rfl) T.range (pa_cons (pe_un un_neg pe_int) (pa_cons (pe_op op_add (pe_callB call_len_seq (by rfl) T.len PySem.boot_len (pa_cons (pv 1) pa_nil)) pe_int) pa_nil))) (pg_name (i := 7) scRight.nd rfl (Or.inr rfl)) (pss_one (ps_if (pt_not (pt_val (pe_callB (cr_all rfl) (by rfl) T.all boot_all (pa_cons (pe_lc (own := [("_law_at", 8)]) (g := gName 8) (tt := tYes) (te := tOp rEq (tOp (rInOwn C (spContB K C) E0 false) (tTup (tCons (tVar 7) (tCons (tVar 8) tNil))) (tVar 2)) (tOp (rInD K) (tTup (tCons (tVar 7) (tCons (tVar 8) tNil))) (tVar 3))) rfl scRight.nd
          (pi_range2 (by rfl) T.range (pa_cons (pe_un un_neg pe_int) (pa_cons (pe_op op_add (pv 4) pe_int) pa_nil))) (blkOk_by (N := nmRight) (sc := defScope sRight) (by decide +kernel)) (fun _ _ _ _ _ => (pg_name (i := 8) scRight.nd rfl (Or.inl rfl))) (fun _ _ _ _ _ => pts_nil) (fun _ _ _ _ _ => (pe_cmpR op_eq (pe_cmpR (op_in_own R.mI.m R.mI.ok h2 R.mI.b pass0) (pe_tup (pa_cons (pv 7) (pa_cons (pv 8) pa_nil))) (pv 2) (by rfl)) (pe_cmpR (op_inD (hd 65 (by decide))) (pe_tup (pa_cons (pv 7) (pa_cons (pv 8) pa_nil))) (pv 3) (by rfl)) (nomark _)))) pa_nil)))) (pss_one (ps_ret pe_bl)) pss_nil)))
      (Evl.pss_cut (ps_set (i := 9) scRight.nd rfl (Or.inl rfl) (pe_ix ix_list (pv 3) pe_int (fun _ _ => rfl)))
      (Evl.pss_cut (ps_set (i := 10) scRight.nd rfl (Or.inl rfl) (pe_lst (pa_cons pe_non (pa_cons (pe_ix ix_tup (pv 9) pe_int (fun _ _ => rfl)) (pa_cons (pe_callTy call_list_of (by rfl) T.list boot_list (pa_cons (pv 9) pa_nil)) (pa_cons (pe_op op_catT (pv 9) (pe_tup (pa_cons pe_int pa_nil))) (pa_cons (pe_slice sl_tup (pv 9) po_none (po_some pe_int)) (pa_cons (pe_tup (pa_cons (pv 9) pa_nil)) (pa_cons (pe_tup (pa_cons (pe_callTy call_str_int (by rfl) T.str boot_str (pa_cons (pe_ix ix_tup (pv 9) pe_int (fun _ _ => rfl)) pa_nil)) (pa_cons (pe_ix ix_tup (pv 9) pe_int (fun _ _ => rfl)) pa_nil))) (pa_cons pe_dnewK (pa_cons (pv 1) (pa_cons (pv 2) pa_nil))))))))))))
      (Evl.pss_cut (ps_for PassesOwn.never rfl (pi_list (pv 10)) (pg_name (i := 11) scRight.nd rfl (Or.inl rfl)) (pss_one (ps_if (pt_cmpR (op_in_own R.mI.m R.mI.ok h2 R.mI.b pass0) (pv 11) (pv 2) (by rfl)) (pss_one (ps_ret pe_bl)) pss_nil)))
      (Evl.pss_cut (ps_if (PW.pt (pw_or (pt_cmpR (op_in_own R.mI.m R.mI.ok h2 R.mI.b pass0) (pe_tup (pa_cons pe_bl (pa_cons pe_bl pa_nil))) (pv 2) (by rfl)) (pw_or (pt_cmpR (op_in_own R.mI.m R.mI.ok h2 R.mI.b pass0) (pe_tup (pa_cons pe_bl (pa_cons pe_bl pa_nil))) (pv 2) (by rfl)) (pw_or1 (pt_cmpR (op_in_own R.mI.m R.mI.ok h2 R.mI.b pass0) (pe_tup (pa_cons (pe_ix ix_tup (pv 9) pe_int (fun _ _ => rfl)) (pa_cons (pe_callTy call_bool1 (by rfl) T.bool boot_bool (pa_cons (pe_ix ix_tup (pv 9) pe_int (fun _ _ => rfl)) pa_nil)) pa_nil))) (pv 2) (by rfl)))))) (pss_one (ps_ret pe_bl)) pss_nil)
      (Evl.pss_cut (ps_set (i := 12) scRight.nd rfl (Or.inl rfl) (pe_call R.small.ok h3 (by rfl) R.small.mg R.small.kp R.small.b .nil pass0 (pa_cons (pv 0) (pa_cons pe_int pa_nil))))
      (Evl.pss_cut (ps_if (PW.pt (pw_or (pt_cmpR op_ne (pe_cmpR (op_eq_own R.mE.m R.mE.ok h1 R.mE.b pass0) (pv 2) (pe_make R.M.mk_ R.M.ok h4 (by rfl) Z.mgC R.M.b .nil pass0 (pa_cons (pv 12) pa_nil)) (nomark _)) (pe_cmpR (op_eqD (hd 64 (by decide))) (pv 1) (pv 12) (nomark _)) (nomark _)) (pw_or (pt_not (pt_cmpR (op_eq_own R.mE.m R.mE.ok h1 R.mE.b pass0) (pv 2) (pe_make R.M.mk_ R.M.ok h4 (by rfl) Z.mgC R.M.b .nil pass0 (pa_cons (pv 1) pa_nil)) (nomark _))) (pw_or (pt_cmpR (op_eq_own R.mE.m R.mE.ok h1 R.mE.b pass0) (pv 2) (pv 1) (nomark _)) (pw_or1 (pt_cmpR (op_eq_own R.mE.m R.mE.ok h1 R.mE.b pass0) (pv 2) pe_int (nomark _))))))) (pss_one (ps_ret pe_bl)) pss_nil)
      (pss_one (ps_ret (pe_and (pe_cmpR (op_eqD (hd 64 (by decide))) (pe_prop (pe_un (un_inv_own R.mV.m R.mV.ok hr R.mV.b pass0) (pv 2)) Z.cl R.pR.pr R.pR.ok h2 R.pR.b .nil pass0 rfl) (pe_call R.turn.ok h1 (by rfl) R.turn.mg R.turn.kp R.turn.b .nil pass0 (pa_cons (pv 1) pa_nil)) (nomark _)) (pe_and (pe_cmpR (op_eq_own R.mE.m R.mE.ok h1 R.mE.b pass0) (pe_un (un_inv_own R.mV.m R.mV.ok hr R.mV.b pass0) (pe_un (un_inv_own R.mV.m R.mV.ok hr R.mV.b pass0) (pv 2))) (pv 2) (nomark _)) (pe_one (pe_cmpR (op_eqD (hd 64 (by decide))) (pe_prop (pe_un (un_inv_own R.mV.m R.mV.ok hr R.mV.b pass0) (pv 2)) Z.cl R.pD.pr R.pD.ok h2 R.pD.b .nil pass0 rfl) (pe_call R.td.ok h1 (by rfl) R.td.mg R.td.kp R.td.b .nil pass0 (pa_cons (pv 3) pa_nil)) (nomark _))))))))))))))))))), ?_⟩
    -- rows = small_rows(pot, of(pot, [10, 4, 2]))
    refine ⟨fun σ H1 => ∃ r g t wd m, σ = [some (.ref a), some (.ref r), none, none, none, none, none, none, none, none, none, none, none] ∧ H1 r = some (.tup (rowsV g)) ∧ Brd g t wd ∧ Pot H1 a m ∧ m ≤ n + 104 ∧ ExB a H H1, ?_, ?_⟩
    · refine ⟨_, rfl, _, rfl, by show (3 : Nat) ≤ sizeLine; decide, fun q hq => ?_⟩
      refine ⟨a, q, n, _, rfl, hp.upd (hp.ne hq), by omega, SqL.of upd_same, Ne.symm (hp.ne hq), by decide, by decide, fun v H1 hv p1 x1 => ?_⟩
      obtain ⟨m, rfl, m1, m10⟩ : ∃ m : Nat, v = .int (m : Int) ∧ 1 ≤ m ∧ m ≤ 10 := by
        simp only [List.mem_cons, List.not_mem_nil, or_false] at hv
        rcases hv with rfl | rfl | rfl
        · exact ⟨10, rfl, by decide, by decide⟩
        · exact ⟨4, rfl, by decide, by decide⟩
        · exact ⟨2, rfl, by decide, by decide⟩
      exact ⟨a, n + 1, m, rfl, p1, by omega, m1, m10, fun p g t wd H2 hp2 hrow hb _ _ pot2 x2 => ⟨p, g, t, wd, _, rfl, hrow, hb, pot2, by omega, (ExB.new hq).trans (x1.trans x2)⟩⟩
    rintro σ H1 ⟨r, g, t, wd, m, rfl, hrow, hb, hpot, hm, hx⟩
    have t10 := hb.t10
    have w10 := hb.w10
    -- board, dots, wide = ..
    refine ⟨fun σ H2 => ∃ b l ds, σ = [some (.ref a), some (.ref r), some (.ref b), some (.ref l), some (.int (wd : Int)), none, none, none, none, none, none, none, none] ∧ RF C a r b l g t wd ds m H H2, ?_, ?_⟩
    · refine ⟨_, rfl, fun x dx hx1 hdx hne => ?_⟩
      have nrx : r ≠ x := ne_of_none hrow hx1
      have nrd : r ≠ dx := ne_of_none hrow hdx
      refine ⟨x, r, dx, g, t, wd, rfl, upd_same, by rw [upd_ne nrx, upd_ne nrd]; exact hrow, hb, fun H2 hk hB => ⟨rfl, ?_⟩⟩
      have sm : Same H1 H2 := fun b o e => by
        have nbx : b ≠ x := ne_of_none e hx1
        have nbd : b ≠ dx := ne_of_none e hdx
        exact hk b o nbx (by rw [upd_ne nbx, upd_ne nbd]; exact e)
      refine ⟨_, rfl, r, g, t, wd, rfl, sm _ _ hrow, hb, fun l ds H3 hl sm3 hds isd => ?_⟩
      have sm13 := sm.trans sm3
      obtain ⟨r0, e0, ea⟩ : ∃ r0 : List Bool, r0.length = wd ∧ atI (rowsV g) 0 = some (V.str (rowS r0)) := by
        obtain ⟨r0, rest, rfl, e0⟩ := rowsV_first hb
        exact ⟨r0, e0, at0 _ _⟩
      refine ⟨_, rfl, r, _, 0, _, rfl, rfl, SqT.of (sm13 _ _ hrow), ea, rowS r0, rfl, ?_, ?_⟩
      · rw [rowS_len, e0]
        exact Nat.le_trans w10 (by decide)
      rw [rowS_len, e0]
      refine ⟨by show (3 : Nat) ≤ sizeLine; decide, fun q hq => ?_⟩
      refine ⟨q, _, rfl, SqT.of upd_same, rfl, _, _, rfl, _, _, rfl, _, _, rfl, rfl, ?_⟩
      have sq : Same H3 (upd H3 q (.tup [.ref x, .ref l, .int (wd : Int)])) := Same.new hq
      exact ⟨x, l, ds, rfl, ⟨hx.trans ((ExB.of sm13).trans (ExB.of sq)), (hpot.same sm13).same sq, sq _ _ (sm13 _ _ hrow), hb, (hB.same sm3).same sq, sq _ _ hds, Ne.symm ((hpot.same sm).ne hl), isd.same sq⟩⟩
    rintro σ H2 ⟨b, l, ds, rfl, rf⟩
    clear hrow hpot hx H1
    -- found
    refine ⟨fun σ H3 => ∃ fo, σ = [some (.ref a), some (.ref r), some (.ref b), some (.ref l), some (.int (wd : Int)), some (.ref fo), none, none, none, none, none, none, none] ∧ RF C a r b l g t wd ds m H H3 ∧ FD H3 fo g t wd, ?_, ?_⟩
    · obtain ⟨dx, fs, hbi⟩ := rf.ins
      have bd := rf.bd
      refine ⟨_, rfl, b, dx, fs, rfl, hbi, b, g, t, wd, rfl, bd, fun r' hr' => ?_⟩
      refine ⟨_, rfl, b, dx, fs, rfl, hbi, b, g, t, wd, rfl, bd, ?_⟩
      refine ⟨_, rfl, b, dx, fs, rfl, hbi, b, g, t, wd, rfl, bd, ?_⟩
      refine ⟨_, rfl, b, dx, fs, rfl, hbi, b, g, t, wd, rfl, bd, fun d ds' hd hds => ?_⟩
      refine ⟨_, rfl, b, dx, fs, rfl, hbi, b, g, t, wd, rfl, bd, fun wp ys H3 hwp sm hy isw => ?_⟩
      have hbi3 := sm _ _ hbi
      have bd3 := bd.same sm
      refine ⟨_, rfl, b, dx, fs, rfl, hbi3, b, g, t, wd, rfl, bd3, ?_⟩
      refine ⟨_, rfl, b, dx, fs, rfl, hbi3, b, g, t, wd, rfl, bd3, _, rfl, ?_, ?_⟩
      · have := dots_le hb
        omega
      refine ⟨by show (7 : Nat) ≤ sizeLine; decide, fun q hq => ?_⟩
      have sq : ∀ o : HO, Same H3 (upd H3 q o) := fun o => Same.new hq
      exact ⟨q, rfl, (rf.same sm).same (sq _), r', d, wp, ds', ys, upd_same, sq _ _ _ (sm _ _ hr'), sq _ _ _ (sm _ _ hd), (hds.same sm).same (sq _), sq _ _ _ hy, isw.same (sq _)⟩
    rintro σ H3 ⟨fo, rfl, rf3, fd3⟩
    clear rf H2
    -- due
    refine ⟨fun σ H4 => ∃ du, σ = [some (.ref a), some (.ref r), some (.ref b), some (.ref l), some (.int (wd : Int)), some (.ref fo), some (.ref du), none, none, none, none, none, none] ∧ RF C a r b l g t wd ds m H H4 ∧ FD H4 fo g t wd ∧ FD H4 du g t wd, ?_, ?_⟩
    · have et : (rowsV g).length = t := by rw [rowsV, List.length_map, hb.tall]
      have el := Paired.length rf3.ds_
      refine ⟨_, rfl, _, rfl, r, _, rfl, .inr (SqT.of rf3.rw_), ?_⟩
      rw [et]
      refine ⟨_, rfl, _, rfl, l, _, rfl, .inl ⟨SqL.of rf3.hl, fun d hd => ?_⟩⟩
      have sd : ∀ o : HO, Same H3 (upd H3 d o) := fun o => Same.new hd
      have rf4 := rf3.same (sd (.tup ds))
      refine ⟨_, rfl, r, g, t, wd, rfl, rf4.rw_, hb, fun p ys H5 hp5 sm5 hy isw => ?_⟩
      refine ⟨p, ys, rfl, .inl ⟨SqL.of hy, fun wp hwp => ?_⟩⟩
      have sw : ∀ o : HO, Same H5 (upd H5 wp o) := fun o => Same.new hwp
      have rf5 := (rf4.same sm5).same (sw (.tup ys))
      refine ⟨_, rfl, l, _, rfl, .inl (SqL.of rf5.hl), _, rfl, r, _, rfl, .inr (SqT.of rf5.rw_), ?_⟩
      rw [et]
      refine ⟨_, rfl, _, _, rfl, rfl, .inl ⟨by omega, by omega⟩, rfl, ?_⟩
      have e : decide (V.int (ds.length : Int) = V.int ((t : Int) * (wd : Int))) = decide ((dotsOf g).length = t * wd) := by
        rw [← el]
        refine decide_eq_decide.mpr ⟨fun q => ?_, fun q => ?_⟩
        · injection q with q
          have : ((t * wd : Nat) : Int) = (t : Int) * (wd : Int) := Int.natCast_mul t wd
          omega
        · rw [q, Int.natCast_mul]
      rw [e]
      refine ⟨_, rfl, l, _, rfl, .inl (SqL.of rf5.hl), ?_⟩
      rw [← el]
      refine ⟨by show (7 : Nat) ≤ sizeLine; decide, fun q hq => ?_⟩
      have sq : ∀ o : HO, Same (upd H5 wp (.tup ys)) (upd (upd H5 wp (.tup ys)) q o) := fun o => Same.new hq
      have big : ∀ o : HO, Same H3 (upd (upd H5 wp (.tup ys)) q o) := fun o => ((sd _).trans sm5).trans ((sw _).trans (sq o))
      refine ⟨q, rfl, rf5.same (sq _), fd3.same (big _), r, d, wp, ds, ys, upd_same, sq _ _ _ rf5.rw_, sq _ _ _ (sw _ _ _ (sm5 _ _ upd_same)), rf5.ds_.same (sq _), sq _ _ _ upd_same, (isw.same (sw _)).same (sq _)⟩
    rintro σ H4 ⟨du, rfl, rf4, fdo, fdd⟩
    clear rf3 fd3 H3
    have fit := fit_datF hb
    -- if repr(found) != repr(due)
    refine ⟨fun σ H5 => ∃ v5 v6 v7, σ = [some (.ref a), some (.ref r), some (.ref b), some (.ref l), some (.int (wd : Int)), v5, v6, v7, none, none, none, none, none] ∧ RF C a r b l g t wd ds m H H5, ?_, ?_⟩
    · refine ⟨_, rfl, _, datF g t wd, rfl, fdo.dp, fit.sh, fit.shaped (by decide), fit.short (by decide) (by decide), _, rfl, _, datF g t wd, rfl, fdd.dp, fit.sh, fit.shaped (by decide), fit.short (by decide) (by decide), rfl, _, rfl, ?_⟩
      rw [decide_eq_true rfl]
      exact iteF ⟨_, _, _, rfl, rf4⟩
    rintro σ H5 ⟨v5, v6, v7, rfl, rf5⟩
    clear rf4 fdo fdd H4
    -- for row in range(-1, len(rows) + 1)
    refine ⟨fun σ H6 => ∃ v7, σ = [some (.ref a), some (.ref r), some (.ref b), some (.ref l), some (.int (wd : Int)), v5, v6, v7, none, none, none, none, none] ∧ RF C a r b l g t wd ds m H H6, ?_, ?_⟩
    · have et : (rowsV g).length = t := by rw [rowsV, List.length_map, hb.tall]
      refine ⟨_, rfl, _, rfl, r, _, rfl, .inr (SqT.of rf5.rw_), ?_⟩
      rw [et]
      refine ⟨_, _, rfl, rfl, -1, (t : Int) + 1, rfl, ⟨by omega, by omega, by omega, by omega⟩, for_range (lo := -1) (fun i σ' H' => ∃ v7, σ' = [some (.ref a), some (.ref r), some (.ref b), some (.ref l), some (.int (wd : Int)), v5, v6, v7, none, none, none, none, none] ∧ RF C a r b l g t wd ds m H H') ⟨v7, rfl, rf5⟩ ?_ (fun σ' H' h => h)⟩
      rintro i σ' H' hi ⟨v7, rfl, rf⟩
      refine ⟨_, rfl, _, rfl, _, _, rfl, rfl, -1, (wd : Int) + 1, rfl, ⟨by omega, by omega, by omega, by omega⟩, fun D hD => ?_⟩
      refine lc_fn walk_range (fun _ => V.bl true) (by omega) hD (fun _ _ => trivial) ?_ ?_
      · rintro j x Ha Hb ys hj sma hys ⟨rfl, rfl⟩ N M hN
        refine ⟨rfl, yes_go ?_⟩
        have rfa := rf.same sma
        refine ⟨_, rfl, _, rfl, by show (2 : Nat) ≤ sizeLine; decide, fun p hp1 => ?_⟩
        have rfb := rfa.same (Same.new (o := .tup [.int (-1 + (i : Int)), .int (-1 + (j : Int))]) hp1)
        obtain ⟨dx, fs, hbi⟩ := rfb.ins
        refine ⟨_, rfl, b, dx, fs, rfl, hbi, b, g, t, wd, _, rfl, rfb.bd, .inl ⟨p, _, rfl, upd_same, fun _ x hx => ?_, fun H2 sm2 => ⟨_, rfl, ?_⟩⟩⟩
        · simp only [List.mem_cons, List.not_mem_nil, or_false] at hx
          rcases hx with rfl | rfl <;> exact Or.inl ⟨_, rfl⟩
        have rfc := rfb.same sm2
        refine ⟨_, rfl, _, rfl, by show (2 : Nat) ≤ sizeLine; decide, fun p2 hp2 => ?_⟩
        have rfd := rfc.same (Same.new (o := .tup [.int (-1 + (i : Int)), .int (-1 + (j : Int))]) hp2)
        refine ⟨_, rfl, .tuple [.int (-1 + (i : Int)), .int (-1 + (j : Int))], dotsD (dotsOf g), .tup (SqT.of upd_same) (.cons (.int _) (.cons (.int _) .nil)), .lst (SqL.of rfd.hl) (dp_dots rfd.ds_), rfl, (fit_dotsL hb).shaped (by decide), rfl, ?_⟩
        rw [any_dots]
        have e : ∀ z : Bool, decide (V.bl (false ^^ z) = V.bl z) = true := fun z => by cases z <;> rfl
        rw [e]
        exact hN _ (((Same.new hp1).trans sm2).trans (Same.new hp2))
      · intro H2 s2 hd2
        have hd3 : H2 D = some (.lst (((List.range ((wd : Int) + 1 - -1).toNat).map fun _ => true).map V.bl)) := by
          rw [hd2, List.map_map]
          rfl
        refine ⟨D, _, rfl, SqL.of hd3, _, rfl, ?_⟩
        have e : ((List.range ((wd : Int) + 1 - -1).toNat).map fun _ => true).all id = true := by simp
        rw [e]
        exact iteF ⟨_, rfl, rf.same s2⟩
    rintro σ H6 ⟨v7, rfl, rf6⟩
    clear rf5 H5
    -- first = dots[0]
    refine ⟨fun σ H7 => ∃ v7 fi p, σ = [some (.ref a), some (.ref r), some (.ref b), some (.ref l), some (.int (wd : Int)), v5, v6, v7, none, some (.ref fi), none, none, none] ∧ RF C a r b l g t wd ds m H H7 ∧ H7 fi = some (.tup (dotV p)) ∧ p.1 < 100, ?_, ?_⟩
    · obtain ⟨p, ps, hps⟩ : ∃ p ps, dotsOf g = p :: ps := by
        cases e : dotsOf g with
        | nil =>
          obtain ⟨r0, rest, rfl, e0⟩ := rowsV_first hb
          have := hb.inRow r0 (List.mem_cons_self ..)
          obtain ⟨j, hj, ej⟩ := List.mem_iff_getElem.mp this
          have z : (0, j) ∈ dotsOf (r0 :: rest) := dots_mem.mpr ⟨Nat.succ_pos _, hj, by
            show r0.getD j false = true
            rw [getD_at hj]
            exact ej⟩
          rw [e] at z
          cases z
        | cons p ps => exact ⟨p, ps, rfl⟩
      have hds := rf6.ds_
      have hp0 : p.1 < t := (dots_small hb (by rw [hps]; exact List.mem_cons_self ..)).1
      rw [hps] at hds
      cases hds with
      | cons hd0 tl =>
        obtain ⟨fi, rfl, hfi⟩ := hd0
        exact ⟨_, rfl, l, _, 0, _, rfl, rfl, SqL.of rf6.hl, at0 _ _, v7, fi, p, rfl, rf6, hfi, by omega⟩
    rintro σ H7 ⟨v7, fi, p, rfl, rf7, hfi, hp100⟩
    clear rf6 H6
    -- some = [..]
    refine ⟨fun σ H8 => ∃ so xs, σ = [some (.ref a), some (.ref r), some (.ref b), some (.ref l), some (.int (wd : Int)), v5, v6, v7, none, some (.ref fi), some (.ref so), none, none] ∧ RF C a r b l g t wd ds m H H8 ∧ H8 fi = some (.tup (dotV p)) ∧ H8 so = some (.lst xs) ∧ xs.length ≤ 10 ∧ ∀ x ∈ xs, NC K H8 g x, ?_, ?_⟩
    · refine ⟨_, rfl, fi, _, 0, _, rfl, rfl, SqT.of hfi, at0 _ _, ?_⟩
      refine ⟨_, rfl, fi, _, rfl, .inr (SqT.of hfi), fun q1 hq1 => ?_⟩
      have S1 : ∀ o, Same H7 (upd H7 q1 o) := fun o => Same.new hq1
      refine ⟨_, rfl, by show (1 : Nat) ≤ sizeLine; decide, fun q2 hq2 => ?_⟩
      have S2 : ∀ o, Same H7 (upd (upd H7 q1 (.lst (dotV p))) q2 o) := fun o => (S1 _).trans (Same.new hq2)
      refine ⟨fi, q2, _, _, rfl, rfl, SqT.of (S2 _ _ _ hfi), SqT.of upd_same, (fun z => nomatch z), by show (3 : Nat) ≤ sizeLine; decide, (fun z => nomatch z), fun _ q3 hq3 => ?_⟩
      generalize hH3 : upd (upd H7 q1 (.lst (dotV p))) q2 (.tup [.int 0]) = G3 at hq3 ⊢
      have S3 : Same H7 G3 := by
        rw [← hH3]
        exact S2 _
      have K1 : G3 q1 = some (.lst (dotV p)) := by
        rw [← hH3, upd_ne (ne_of_none upd_same hq2)]
        exact upd_same
      have S4 : ∀ o, Same G3 (upd G3 q3 o) := fun o => Same.new hq3
      refine ⟨_, rfl, 1, rfl, fi, _, rfl, SqT.of (S4 _ _ _ (S3 _ _ hfi)), ?_, fun q4 hq4 => ?_⟩
      · intro z
        exact absurd z.2 (show ¬ (1 : Nat) = 2 by decide)
      generalize hH4 : upd G3 q3 (.tup (dotV p ++ [.int 0])) = G4 at hq4 ⊢
      have S4' : Same G3 G4 := by
        rw [← hH4]
        exact S4 _
      have K3 : G4 q3 = some (.tup (dotV p ++ [.int 0])) := by
        rw [← hH4]
        exact upd_same
      have S5 : ∀ o, Same G4 (upd G4 q4 o) := fun o => Same.new hq4
      refine ⟨_, rfl, by show (1 : Nat) ≤ sizeLine; decide, fun q5 hq5 => ?_⟩
      generalize hH5 : upd G4 q4 (.tup (cutV (dotV p) none (some 1))) = G5 at hq5 ⊢
      have S5' : Same G4 G5 := by
        rw [← hH5]
        exact S5 _
      have K4 : G5 q4 = some (.tup [.int (p.1 : Int)]) := by
        rw [← hH5]
        exact upd_same
      have S6 : ∀ o, Same G5 (upd G5 q5 o) := fun o => Same.new hq5
      have hfi5 : (upd G5 q5 (.tup [.ref fi])) fi = some (.tup (dotV p)) := S6 _ _ _ (S5' _ _ (S4' _ _ (S3 _ _ hfi)))
      refine ⟨_, rfl, fi, _, 0, _, rfl, rfl, SqT.of hfi5, at0 _ _, _, rfl, ?_, _, rfl, fi, _, 1, _, rfl, rfl, SqT.of hfi5, at1 _ _ _, by show (2 : Nat) ≤ sizeLine; decide, fun q6 hq6 => ?_⟩
      · have z : ∀ n : Nat, n < 100 → ((n : Int)).natAbs.log2 < 1920 := by decide +kernel
        exact z _ hp100
      generalize hH6 : upd G5 q5 (.tup [.ref fi]) = G6 at hq6 hfi5 ⊢
      have S6' : Same G5 G6 := by
        rw [← hH6]
        exact S6 _
      have K5 : G6 q5 = some (.tup [.ref fi]) := by
        rw [← hH6]
        exact upd_same
      intro q7 hq7
      generalize hH7 : upd G6 q6 (.tup [.str (toString (p.1 : Int)), .int (p.2 : Int)]) = G7 at hq7 ⊢
      have S7' : Same G6 G7 := by
        rw [← hH7]
        exact Same.new hq6
      have K6 : G7 q6 = some (.tup [.str (toString (p.1 : Int)), .int (p.2 : Int)]) := by
        rw [← hH7]
        exact upd_same
      refine ⟨_, rfl, _, rfl, by show (10 : Nat) ≤ sizeLine; decide, fun so hso => ?_⟩
      generalize hH8 : upd G7 q7 (.dK []) = G8 at hso ⊢
      have S8' : Same G7 G8 := by
        rw [← hH8]
        exact Same.new hq7
      have K7 : G8 q7 = some (.dK []) := by
        rw [← hH8]
        exact upd_same
      have S9 : ∀ o, Same G8 (upd G8 so o) := fun o => Same.new hso
      have big : ∀ o, Same H7 (upd G8 so o) := fun o => S3.trans (S4'.trans (S5'.trans (S6'.trans (S7'.trans (S8'.trans (S9 o))))))
      have rf8 := rf7.same (big (.lst [.non, .int (p.1 : Int), .ref q1, .ref q3, .ref q4, .ref q5, .ref q6, .ref q7, .ref r, .ref b]))
      refine ⟨so, _, rfl, rf8, big _ _ _ hfi, upd_same, by show (10 : Nat) ≤ 10; decide, fun x hx => ?_⟩
      obtain ⟨dx, fs, hbi⟩ := rf8.ins
      simp only [List.mem_cons, List.not_mem_nil, or_false] at hx
      rcases hx with rfl | rfl | rfl | rfl | rfl | rfl | rfl | rfl | rfl | rfl
      · exact .inr ⟨_, .base .non, kit_ty (by decide +kernel)⟩
      · exact .inr ⟨_, .base (.int _), kit_ty (by decide +kernel)⟩
      · exact .inr ⟨_, .base (.lst ((S4'.trans (S5'.trans (S6'.trans (S7'.trans (S8'.trans (S9 _)))))) _ _ K1)), kit_ty (by decide +kernel)⟩
      · exact .inl ⟨q3, _, rfl, (S5'.trans (S6'.trans (S7'.trans (S8'.trans (S9 _))))) _ _ K3, (fun z => nomatch z), rfl⟩
      · exact .inl ⟨q4, _, rfl, (S6'.trans (S7'.trans (S8'.trans (S9 _)))) _ _ K4, (fun z => nomatch z), rfl⟩
      · exact .inl ⟨q5, _, rfl, (S7'.trans (S8'.trans (S9 _))) _ _ K5, (fun z => nomatch z), rfl⟩
      · refine .inl ⟨q6, _, rfl, (S8'.trans (S9 _)) _ _ K6, (fun _ y hy => ?_), rfl⟩
        simp only [List.mem_cons, List.not_mem_nil, or_false] at hy
        rcases hy with rfl | rfl
        · exact .inr (.inr ⟨_, .base (.str _), kit_ty (by decide +kernel)⟩)
        · exact .inl ⟨_, rfl⟩
      · exact .inr ⟨_, .base (.dK (S9 _ _ _ K7)), kit_ty (by decide +kernel)⟩
      · refine .inl ⟨r, _, rfl, rf8.rw_, (fun _ y hy => ?_), ?_⟩
        · obtain ⟨q, _, rfl⟩ := List.mem_map.mp hy
          exact .inr (.inr ⟨_, .base (.str _), kit_ty (by decide +kernel)⟩)
        · cases g with
          | nil => rfl
          | cons r0 rest => rfl
      · exact .inr ⟨_, R.c.ty Z.cl hbi, R.c.nT⟩
    rintro σ H8 ⟨so, xs, rfl, rf8, hfi8, hso, hxl, hnc⟩
    clear rf7 hfi H7
    -- for value in some
    refine ⟨fun σ H9 => ∃ v11, σ = [some (.ref a), some (.ref r), some (.ref b), some (.ref l), some (.int (wd : Int)), v5, v6, v7, none, some (.ref fi), some (.ref so), v11, none] ∧ RF C a r b l g t wd ds m H H9 ∧ H9 fi = some (.tup (dotV p)), ?_, ?_⟩
    · refine ⟨_, rfl, so, rfl, ⟨_, SqL.of hso⟩, for_it walk_list (fun i σ' H' => ∃ v11, σ' = [some (.ref a), some (.ref r), some (.ref b), some (.ref l), some (.int (wd : Int)), v5, v6, v7, none, some (.ref fi), some (.ref so), v11, none] ∧ Same H8 H') ⟨none, rfl, Same.refl _⟩ (fun i σ' H' _ ⟨v11, _, sm⟩ => SqL.of (sm _ _ hso)) ?_ ?_⟩
      · rintro i x σ' H' H9 hi ⟨v11, rfl, sm⟩ ⟨rfl, hx⟩
        have rf9 := rf8.same sm
        obtain ⟨dx, fs, hbi⟩ := rf9.ins
        refine ⟨_, rfl, _, rfl, b, dx, fs, rfl, hbi, b, g, t, wd, x, rfl, rf9.bd, ?_⟩
        rcases (hnc x (List.mem_of_getElem? hx)).same sm with ⟨z, ys, e, h1, h2, h3⟩ | hT
        · refine .inl ⟨z, ys, e, h1, h2, fun H10 s10 => ?_⟩
          rw [h3]
          exact ⟨_, rfl, _, rfl, iteF ⟨_, rfl, sm.trans s10⟩⟩
        · exact .inr ⟨hT, _, rfl, _, rfl, iteF ⟨_, rfl, sm⟩⟩
      · rintro σ' H' ⟨v11, rfl, sm⟩
        exact ⟨v11, rfl, rf8.same sm, sm _ _ hfi8⟩
    rintro σ H9 ⟨v11, rfl, rf9, hfi9⟩
    clear rf8 hfi8 hso hnc H8
    -- if (False, False) in board or ..
    refine ⟨fun σ H10 => ∃ v9 v10 v11, σ = [some (.ref a), some (.ref r), some (.ref b), some (.ref l), some (.int (wd : Int)), v5, v6, v7, none, v9, v10, v11, none] ∧ RF C a r b l g t wd ds m H H10, ?_, ?_⟩
    · have nB : ∀ (H' : Hp) (c d : Bool), ([V.bl c, V.bl d] : List V).length = 2 → ∀ x ∈ [V.bl c, V.bl d], NumT K H' x := fun H' c d _ x hx => by
        simp only [List.mem_cons, List.not_mem_nil, or_false] at hx
        rcases hx with rfl | rfl <;> exact .inr (.inl ⟨_, rfl⟩)
      refine ⟨by show (2 : Nat) ≤ sizeLine; decide, fun q1 hq1 => ?_⟩
      have rfa := rf9.same (Same.new (o := .tup [.bl false, .bl false]) hq1)
      have hfa := (Same.new (o := .tup [.bl false, .bl false]) hq1) _ _ hfi9
      obtain ⟨dx, fs, hbi⟩ := rfa.ins
      refine ⟨_, rfl, b, dx, fs, rfl, hbi, b, g, t, wd, _, rfl, rfa.bd, .inl ⟨q1, _, rfl, upd_same, nB _ _ _, fun G1 s1 => ⟨_, rfl, _, rfl, iteF ?_⟩⟩⟩
      have rfb := rfa.same s1
      have hfb := s1 _ _ hfa
      refine ⟨by show (2 : Nat) ≤ sizeLine; decide, fun q2 hq2 => ?_⟩
      have rfc := rfb.same (Same.new (o := .tup [.bl true, .bl true]) hq2)
      have hfc := (Same.new (o := .tup [.bl true, .bl true]) hq2) _ _ hfb
      obtain ⟨dx2, fs2, hbi2⟩ := rfc.ins
      refine ⟨_, rfl, b, dx2, fs2, rfl, hbi2, b, g, t, wd, _, rfl, rfc.bd, .inl ⟨q2, _, rfl, upd_same, nB _ _ _, fun G2 s2 => ⟨_, rfl, _, rfl, iteF ?_⟩⟩⟩
      have rfd := rfc.same s2
      have hfd := s2 _ _ hfc
      refine ⟨_, rfl, fi, _, 0, _, rfl, rfl, SqT.of hfd, at0 _ _, _, rfl, fi, _, 1, _, rfl, rfl, SqT.of hfd, at1 _ _ _, .inl ⟨_, rfl, by show (2 : Nat) ≤ sizeLine; decide, fun q3 hq3 => ?_⟩⟩
      have rfe := rfd.same (Same.new (o := .tup [.int (p.1 : Int), .bl ((p.2 : Int) != 0)]) hq3)
      obtain ⟨dx3, fs3, hbi3⟩ := rfe.ins
      refine ⟨_, rfl, b, dx3, fs3, rfl, hbi3, b, g, t, wd, _, rfl, rfe.bd, .inl ⟨q3, _, rfl, upd_same, (fun _ x hx => ?_), fun G3 s3 => ⟨_, rfl, _, rfl, iteF ⟨_, _, _, rfl, rfe.same s3⟩⟩⟩⟩
      simp only [List.mem_cons, List.not_mem_nil, or_false] at hx
      rcases hx with rfl | rfl
      · exact .inl ⟨_, rfl⟩
      · exact .inr (.inl ⟨_, rfl⟩)
    rintro σ H10 ⟨v9, v10, v11, rfl, rf10⟩
    clear rf9 hfi9 H9
    -- other = small_rows(pot, 3)
    refine ⟨fun σ H11 => ∃ o g2 t2 w2, σ = [some (.ref a), some (.ref r), some (.ref b), some (.ref l), some (.int (wd : Int)), v5, v6, v7, none, v9, v10, v11, some (.ref o)] ∧ RF C a r b l g t wd ds (m + 103) H H11 ∧ H11 o = some (.tup (rowsV g2)) ∧ Brd g2 t2 w2, ?_, ?_⟩
    · exact ⟨_, rfl, a, m, 3, rfl, rf10.pot, by omega, by decide, by decide, fun o g2 t2 w2 H11 ho ho2 hb2 _ _ pot2 x2 => ⟨o, g2, t2, w2, rfl, rf10.exB x2 pot2, ho2, hb2⟩⟩
    rintro σ H11 ⟨o, g2, t2, w2, rfl, rf11, ho, hb2⟩
    clear rf10 H10
    -- a board made anew
    have mk : ∀ {H1 : Hp} {q : Addr} {g' : List (List Bool)} {t' w' : Nat} {Qx : Addr → Hp → Prop} {Ex : XK}, H1 q = some (.tup (rowsV g')) → Brd g' t' w' → (∀ x H2, Same H1 H2 → IsBoard C H2 x g' t' w' → Qx x H2) →
        ∀ x dx, H1 x = none → H1 dx = none → dx ≠ x → spInitB C (.ref x :: ([.ref q] ++ [])) (upd (upd H1 dx (.own x)) x (.ins C dx [])) (fun v H2 => v = .non ∧ Qx x H2) Ex := by
      intro H1 q g' t' w' Qx Ex hq hb' kk x dx hx hdx hne
      have nqx : q ≠ x := ne_of_none hq hx
      have nqd : q ≠ dx := ne_of_none hq hdx
      refine ⟨x, q, dx, g', t', w', rfl, upd_same, by rw [upd_ne nqx, upd_ne nqd]; exact hq, hb', fun H2 hk hB => ⟨rfl, kk x H2 (fun b o e => ?_) hB⟩⟩
      have nbx : b ≠ x := ne_of_none e hx
      have nbd : b ≠ dx := ne_of_none e hdx
      exact hk b o nbx (by rw [upd_ne nbx, upd_ne nbd]; exact e)
    -- if (board == Board(other)) != (rows == other) or ..
    refine ⟨fun σ H12 => σ = [some (.ref a), some (.ref r), some (.ref b), some (.ref l), some (.int (wd : Int)), v5, v6, v7, none, v9, v10, v11, some (.ref o)] ∧ RF C a r b l g t wd ds (m + 103) H H12, ?_, ?_⟩
    · refine ⟨_, rfl, _, rfl, mk ho hb2 fun x H12 s12 hB => ?_⟩
      have rfa := rf11.same s12
      obtain ⟨dx, fs, hbi⟩ := rfa.ins
      obtain ⟨dx', _, _, _, _, hx', _⟩ := hB.ex
      refine ⟨b, dx, fs, .ref C, rfl, hbi, R.c.ty Z.cl hx', R.nf.own, b, g, t, wd, _, rfl, rfa.bd, .inl ⟨x, g2, t2, w2, rfl, hB, _, rfl, ?_⟩⟩
      refine ⟨_, rfl, _, rfl, rowsD g, rowsD g2, dp_rows rfa.rw_, dp_rows (s12 _ _ ho), shaped_rows hb, shaped_rows hb2, rfl, _, rfl, ?_⟩
      have e1 : (!decide (V.bl (decide (g = g2)) = V.bl (PyData.eqv (rowsD g) (rowsD g2)))) = false := by
        rw [eqv_rows, decide_eq_true rfl]
        rfl
      rw [e1]
      refine iteF ?_
      refine ⟨_, rfl, _, rfl, mk rfa.rw_ hb fun x H13 s13 hB => ?_⟩
      have rfb := rfa.same s13
      obtain ⟨dx2, fs2, hbi2⟩ := rfb.ins
      obtain ⟨dx2', _, _, _, _, hx2', _⟩ := hB.ex
      refine ⟨b, dx2, fs2, .ref C, rfl, hbi2, R.c.ty Z.cl hx2', R.nf.own, b, g, t, wd, _, rfl, rfb.bd, .inl ⟨x, g, t, wd, rfl, hB, _, rfl, _, rfl, ?_⟩⟩
      rw [decide_eq_true rfl]
      refine iteF ?_
      refine ⟨_, rfl, _, rfl, b, dx2, fs2, .type "tuple", rfl, hbi2, .base (.tup rfb.rw_), R.nf.tup, b, g, t, wd, _, rfl, rfb.bd, .inr ⟨.type "tuple", .base (.tup rfb.rw_), R.c.not (mro_tup C), _, rfl, _, rfl, iteF ?_⟩⟩
      refine ⟨_, rfl, b, dx2, fs2, .type "int", rfl, hbi2, .base (.int _), R.nf.int, b, g, t, wd, _, rfl, rfb.bd, .inr ⟨.type "int", .base (.int _), R.c.not (mro_int C), _, rfl, _, rfl, iteF ⟨rfl, rfb⟩⟩⟩
    rintro σ H12 ⟨rfl, rf12⟩
    clear rf11 ho H11
    -- return ..
    have ins : ∀ {H1 : Hp} {x : Addr} {g' : List (List Bool)} {t' w' : Nat}, IsBoard C H1 x g' t' w' → ∃ dx fs, H1 x = some (.ins C dx fs) := fun h => by
      obtain ⟨dx, _, _, _, _, hx, _⟩ := h.ex
      exact ⟨dx, _, hx⟩
    obtain ⟨dx, fs, hbi⟩ := rf12.ins
    refine ⟨_, rfl, b, dx, fs, rfl, hbi, b, g, t, wd, rfl, rf12.bd, fun x H13 hx s13 hB => ?_⟩
    obtain ⟨dx1, fs1, hx1⟩ := ins hB
    have rf13 := rf12.same s13
    refine ⟨x, dx1, fs1, rfl, hx1, x, _, _, _, rfl, hB, fun r' hr' => ?_⟩
    refine ⟨_, rfl, r, g, t, wd, rfl, rf13.rw_, hb, fun q H14 hq s14 hq14 => ?_⟩
    have hbt := brd_turn hb
    have rf14 := rf13.same s14
    refine ⟨rowsD (turnG g wd), rowsD (turnG g wd), dp_rows (s14 _ _ hr'), dp_rows hq14, shaped_rows hbt, shaped_rows hbt, ?_⟩
    rw [eqv_rows, decide_eq_true rfl]
    refine ⟨_, rfl, iteT ?_⟩
    obtain ⟨dx2, fs2, hbi2⟩ := rf14.ins
    refine ⟨_, rfl, b, dx2, fs2, rfl, hbi2, b, g, t, wd, rfl, rf14.bd, fun x2 H15 hx2 s15 hB2 => ?_⟩
    obtain ⟨dx3, fs3, hx3⟩ := ins hB2
    have rf15 := rf14.same s15
    refine ⟨x2, dx3, fs3, rfl, hx3, x2, _, _, _, rfl, hB2, fun y H16 hy s16 hB3 => ?_⟩
    obtain ⟨dx4, fs4, hx4⟩ := ins hB3
    have rf16 := rf15.same s16
    obtain ⟨dx5, fs5, hbi5⟩ := rf16.ins
    refine ⟨_, rfl, y, dx4, fs4, .ref C, rfl, hx4, R.c.ty Z.cl hbi5, R.nf.own, y, _, _, _, _, rfl, hB3, .inl ⟨b, g, t, wd, rfl, rf16.bd, _, rfl, ?_⟩⟩
    rw [turn_turn hb, decide_eq_true rfl]
    refine ⟨_, rfl, iteT ?_⟩
    refine ⟨_, rfl, b, dx5, fs5, rfl, hbi5, b, g, t, wd, rfl, rf16.bd, fun x6 H17 hx6 s17 hB6 => ?_⟩
    obtain ⟨dx6, fs6, hx7⟩ := ins hB6
    have rf17 := rf16.same s17
    refine ⟨x6, dx6, fs6, rfl, hx7, x6, _, _, _, rfl, hB6, fun d6 ds6 hd6 hds6 => ?_⟩
    refine ⟨_, rfl, l, ds, g, t, wd, rfl, rf17.hl, rf17.ds_, hb, fun q8 ys H18 hq8 s18 hy8 isd8 => ?_⟩
    have ft := fit_dotsT hbt
    refine ⟨.tuple (dotsD (dotsOf (turnG g wd))), .tuple (dotsD (dotsOf (turnG g wd))), .tup (SqT.of (s18 _ _ hd6)) (dp_dots (hds6.same s18)), .tup (SqT.of hy8) (dp_dots isd8), ft.shaped (by decide), ft.shaped (by decide), ?_⟩
    rw [eqv_dots]
    exact k H18 (rf17.same s18).ex
end
end Wd

namespace Wd
open PySem PySem.Spec PyProof.Rows L2
/-! ### the law -/
theorem sqL_same {K : PySem.W.Frag} {l : Addr} {H H1 : Hp} {xs : List V} (x : Same H H1) (h : SqL K H l xs) : SqL K H1 l xs := by
  rcases h with (h | ⟨o, h⟩) | h
  · exact .inl (.inl (x _ _ h))
  · exact .inl (.inr ⟨o, x _ _ h⟩)
  · exact .inr h
def spLaw (K : PySem.W.Frag) : Sp := fun vs H Q _ => ∃ (a : Addr) (ns : List Int), vs = [.ref a] ∧ SqL K H a (ns.map V.int) ∧ ∀ H', Q (.bl true) H'
abbrev sLaw : Stmt := topS 30
abbrev nmLaw : List Str := ["_law_script", "_law_number"]
theorem scLaw : FnScope nmLaw ["_law_script"] (defScope sLaw) := ⟨rfl, rfl, rfl, by decide +kernel, rfl, by decide +kernel, by decide +kernel⟩
structure ClG (P : Program) (w : World) (K : PySem.W.Frag) (mg : Str → Option Value) (base : Heap) (CX : CXT) (k : Nat) (x : Str) (ps : List Str) (sp : Sp) where
  f : Addr
  fd : FuncData
  ok : FnG P w K mg base CX k f fd ps sp
  mg : mg x = some (.ref f)
  kp : PySem.W.keepIn K (.ref f) = true
  b : Binds K fd ps []
def tCallG (sp : Sp) (t : TA) : TE := fun σ H Q => t σ H fun vs H1 => sp vs H1 Q E0
section
variable {P : Program} {w : World} {K : PySem.W.Frag} {mg : Str → Option Value} {base : Heap} {f : Addr} {fd : FuncData}
theorem ok_law (F : FnP K "law" sLaw f fd) (T : Bt mg) (R : ClG P w K mg base CX0 6 "_law_right" ["_law_pot_here"] spRight) (O : Cl P w K mg base CX0 1 "_law_pot" ["_law_script", "_law_number"] (spPot K)) : FnG P w K mg base CX0 7 f fd ["_law_script"] (spLaw K) := by
  refine fng_of F scLaw (fun vs H Q E h => ?_) (fun cdv A outer s H vs Q E ga hr h => ?_)
  · obtain ⟨a, ns, rfl, _⟩ := h
    rfl
  · obtain ⟨a, ns, rfl, hs, k⟩ := h
    have h1 := hr.mono (show 1 ≤ 6 by decide)
    refine ⟨_, PSs.nox (pss_one (ps_ret (pe_callB (cr_all rfl) (by rfl) T.all boot_all (pa_cons (pe_lc (own := [("_law_number", 1)]) (g := gName 1) (tt := tYes) (te := tCallG spRight (tCons (tCall (spPot K) [] E0 (tCons (tVar 0) (tCons (tVar 1) tNil))) tNil)) rfl scLaw.nd
      (pi_range1 (by rfl) T.range (pa_cons (pe_callB (call_max2 rfl) (by rfl) T.max boot_max (pa_cons pe_int (pa_cons (pe_callB (call_min2 rfl) (by rfl) T.min boot_min (pa_cons pe_int (pa_cons (pe_callB call_len_seq (by rfl) T.len PySem.boot_len (pa_cons (pv 0) pa_nil)) pa_nil))) pa_nil))) pa_nil)) (blkOk_by (N := nmLaw) (sc := defScope sLaw) (by decide +kernel))
      (fun _ _ _ _ _ => pg_name (i := 1) scLaw.nd rfl (Or.inl rfl)) (fun _ _ _ _ _ => pts_nil) (fun _ _ _ _ _ => pe_callG ga R.ok hr (by rfl) R.mg R.kp R.b pass0 (pa_cons (pe_call O.ok h1 (by rfl) O.mg O.kp O.b .nil pass0 (pa_cons (pv 0) (pa_cons (pv 1) pa_nil))) pa_nil))) pa_nil)))), ?_⟩
    refine ⟨_, rfl, a, _, rfl, .inl hs, _, _, rfl, _, _, rfl, ?_⟩
    generalize hm : (if (if (((ns.map V.int).length : Nat) : Int) < 4 then (((ns.map V.int).length : Nat) : Int) else 4) > 1 then (if (((ns.map V.int).length : Nat) : Int) < 4 then (((ns.map V.int).length : Nat) : Int) else 4) else 1) = n
    have hn : 1 ≤ n ∧ n ≤ 4 := by
      rw [← hm]
      constructor
      · split
        · omega
        · omega
      · split
        · split <;> omega
        · omega
    refine ⟨n, rfl, by omega, by omega, fun D hD => ?_⟩
    refine lc_fn (n := n.toNat) walk_r0 (fun _ => V.bl true) (by omega) hD (fun _ _ => trivial) ?_ ?_
    · rintro i x Ha Hb ys hi sma hys ⟨rfl, rfl⟩ N M hN
      refine ⟨rfl, yes_go ?_⟩
      refine ⟨_, rfl, _, rfl, a, ns, i, rfl, sqL_same sma hs, by omega, fun p H1 hp s1 pot => ?_⟩
      refine ⟨p, 0, rfl, pot, by decide, fun H2 x2 => hN _ fun b o e => ?_⟩
      exact x2 b o (ne_of_none e hp) (s1 b o e)
    · intro H1 s1 hd1
      have hd3 : H1 D = some (.lst (((List.range n.toNat).map fun _ => true).map V.bl)) := by
        rw [hd1, List.map_map]
        rfl
      refine ⟨D, _, rfl, SqL.of hd3, ?_⟩
      have e : ((List.range n.toNat).map fun _ => true).all id = true := by simp
      rw [e]
      exact k H1
end
end Wd

namespace Wd
open PySem PySem.Spec PyProof.Rows L2
/-! ### the end of a law whose def asks for repr -/
section
variable {P : Program} {w : World} {K : PySem.W.Frag} {mg mb : Str → Option Value} {CX : CXT} {k : Nat} {fa a : Addr} {fd : FuncData} {x : Str} {sp : Sp} {s : Shared} {vs : List Value} {ns : List Int}
/-- the script as the layer sees it: an object of the module, or the one thing that is tracked -/
def Script (K : PySem.W.Frag) (a : Addr) (ob : Obj) (H : Hp) : Prop := ∀ b u, H b = some u → b = a ∧ K.lookup a = none ∧ ∃ xs, u = .frz ob (.lst xs)
theorem script_seen (KX : K.In s.heap) (ha : s.heap.get? a = some { cls := .type "list", data := .seq vs.toArray }) (hi : IntsAre vs ns) (hl : ns.length ≤ sizeLine) :
    ∃ H : Hp, Script K a { cls := .type "list", data := .seq vs.toArray } H ∧ SqL K H a (ns.map V.int) ∧ HOk P w H s.heap := by
  have rel := vals_ints hi
  cases hk : K.lookup a with
  | some o =>
    have e := KX a o hk
    rw [ha] at e
    cases e
    refine ⟨fun _ => none, (fun b u z => nomatch z), .inr ⟨_, vs.toArray, _, hk, rfl, rfl, rfl, ?_, by simpa using rel⟩, (fun b u z => nomatch z)⟩
    rw [List.size_toArray, hi.length]
    exact hl
  | none =>
    refine ⟨fun b => if b = a then some (.frz { cls := .type "list", data := .seq vs.toArray } (.lst (ns.map V.int))) else none, fun b u z => ?_, .inl (.inr ⟨_, if_pos rfl⟩), fun b u z => ?_⟩
    · dsimp only at z
      by_cases e : b = a
      · rw [if_pos e] at z
        exact ⟨e, hk, _, (Option.some.inj z).symm⟩
      · rw [if_neg e] at z
        cases z
    · dsimp only at z
      by_cases e : b = a
      · rw [if_pos e] at z
        cases z
        subst e
        exact ⟨ha, by rw [List.length_map]; exact hl, vs, _, rel, ha⟩
      · rw [if_neg e] at z
        cases z
theorem law_callG (KX : K.In s.heap) (hns : s.heap.Ns mainGlobals mg) (hb : s.heap.Ns builtinsNs mb) (hbb : ∀ x : Str, x ≠ "__name__" → mb x = bootBuiltins x) (hlim : s.heap.NoLimit) (hg : s.gens = #[])
    (ha : s.heap.get? a = some { cls := .type "list", data := .seq vs.toArray }) (hi : IntsAre vs ns) (hl : ns.length ≤ sizeLine) (hr : Room k callerA)
    (F : ∀ base : Heap, K.In base → base.Ns mainGlobals mg → FnG P w K mg base CX k fa fd [x] sp) (hbind : ∀ (s : Shared) (u : Value), BindsTo s fd ⟨[u], []⟩ [(x, u)])
    (hsp : ∀ H : Hp, SqL K H a (ns.map V.int) → sp [.ref a] H (fun v _ => v = .bl true) fun _ _ _ => False)
    (hCX : ∀ H e s', CX [] H s (fun _ _ _ => False) e s' → False) :
    codeAny (model P w) callerA (.call (.ref fa) ⟨[.ref a], []⟩) (fun r s' => r = .ok (.ret (.bool true)) ∧ OldK s.heap s'.heap ∧ s'.os = s.os ∧ AllBare s'.gens) s := by
  obtain ⟨H, only, seen, sound⟩ := script_seen (P := P) (w := w) KX ha hi hl
  have stay : ∀ b o, s.heap.get? b = some o → (b = a → K.lookup a = none → False) → (hidT s.heap H).get? b = some o := fun b o e h => by
    refine hidT_get e ?_
    cases q : H b with
    | none => rfl
    | some u =>
      obtain ⟨e1, e2, _⟩ := only b u q
      exact (h e1 e2).elim
  have names : ∀ {b : Addr} {m : Str → Option Value}, s.heap.Ns b m → (hidT s.heap H).Ns b m := fun {b m} ⟨o, es, ep, e, d, r⟩ => by
    refine ⟨o, es, ep, stay b o e fun z _ => ?_, d, r⟩
    subst z
    rw [ha] at e
    cases e
    exact nomatch (show Data.seq vs.toArray _ = Data.dict es ep from d)
  have inB : K.In (hidT s.heap H) := fun b o e => stay b o (KX b o e) fun z n => by
    subst z
    rw [n] at e
    cases e
  have md : Mod K mg (hidT s.heap H) := by
    obtain ⟨mc, l1, l2⟩ := hlim
    exact ⟨inB, names hns, ⟨mb, names hb, hbb⟩, ⟨mc, names l1, l2⟩⟩
  have env : Env0 P w K mg (hidT s.heap H) callerA [] s H := ⟨rfl, md, fun b o e => of_hidT e, Nat.le_of_eq (hidT_size _ _), trivial, fun b hb => absurd (show b ∈ ([] : List Addr) from hb) (by simp), sound, .of_eq hg⟩
  refine codeAny_mono ((F _ inB (names hns)).run callerA rfl [] s H ⟨[.ref a], []⟩ [.ref a] [.ref a] _ _ hr env (hbind s (.ref a)) (.cons rfl .nil) (hsp H seen)) fun r s' h => ?_
  cases r with
  | error e => exact (hCX H e s' h).elim
  | ok fl =>
    cases fl with
    | ret u =>
      obtain ⟨v, H', os, bare, un, ok', rv, q⟩ := h
      have ev : v = .bl true := q
      subst ev
      obtain rfl : u = Value.bool true := rv
      refine ⟨rfl, OldK.of_keep fun b o e => ?_, os, bare⟩
      cases q : H b with
      | none => exact un.keep b o e q (by intro z; exact absurd (show b ∈ ([] : List Addr) from z) (by simp)) (by simp)
      | some u =>
        obtain ⟨_, _, xs, rfl⟩ := only b u q
        obtain ⟨e1, _⟩ := sound b _ q
        obtain ⟨e2, _⟩ := ok' b _ (un.frzs b _ _ q)
        rw [e] at e1
        cases e1
        exact e2
    | next => exact False.elim h
    | brk => exact False.elim h
    | cont => exact False.elim h
end
theorem walk_ofG {l : PySem.W.OpenLaw} {n k : Nat} {q : Program} {loose : List Str} {XP : (Str → Option Value) → Heap → Prop} {YP : World → Heap → Prop} {d : DefRec} {CX : CXT} {x : Str}
    (hn : l.most = some n) (hn2 : n ≤ sizeLine) (hdf : d.params.defaults = []) (hr : Room k callerA)
    (F : ∀ (w : World) (mg : Str → Option Value) (fa : Addr) (h : Heap), YP w h → h.Ns mainGlobals mg → mg d.name = some (.ref fa) →
      ∃ (K : PySem.W.Frag) (fd : FuncData) (sp : Sp), K.In h ∧ (∀ (s : Shared) (u : Value), BindsTo s fd ⟨[u], []⟩ [(x, u)]) ∧
        (∀ (H : Hp) (a : Addr) (ns : List Int), ns.length ≤ n → SqL K H a (ns.map V.int) → sp [.ref a] H (fun v _ => v = .bl true) fun _ _ _ => False) ∧
        ∀ base : Heap, K.In base → base.Ns mainGlobals mg → FnG l.prog w K mg base CX k fa fd [x] sp)
    (hCX : ∀ (H : Hp) (s : Shared) (e : Value) (s' : Shared), CX [] H s (fun _ _ _ => False) e s' → False) :
    PySem.W.WalkO q loose XP YP l.row.toRowW d [] (fun f vs => PySem.call f vs) := by
  refine Att.attach_call hn hdf fun w s₀ s₁ mg mb fa o pm cd doc a vs ns G Y ho hd hcd hmg hobj hints hlen hg => ?_
  obtain ⟨K, fd, sp, KX, hb, hsp, hF⟩ := F w mg fa _ Y G.T.g hmg
  exact law_callG KX G.T.g G.T.b G.T.builtins G.T.nolimit hg hobj hints (Nat.le_trans hlen hn2) hr hF hb (fun H hS => hsp H a ns hlen hS) fun H e s' => hCX H s₁ e s'
/-! ### getters of properties, told by the head -/
/-- the getter of the property f of the class x -/
def gAd (K : PySem.W.Frag) (x f : Str) : Addr := match PySem.W.recIn K (He.ma K (He.ga K x) f) "property" with
  | some (.ref g :: _) => g
  | _ => 0
def fnA (K : PySem.W.Frag) (a : Addr) : He.FnW := match K.lookup a with
  | some ⟨_, _, .func fd, _⟩ => some (fd.name, fd.qualname, fd.params, fd.body, fd.scope, fd.globals, fd.closure, fd.builtins)
  | _ => none
structure PrD where
  cls : Str
  name : Str
  qual : Str
  params : Arguments
  body : List Stmt
  scope : Scope
def PrD.val (d : PrD) : He.FnW := some (d.name, d.qual, d.params, .stmts d.body, d.scope, mainGlobals, [], builtinsNs)
def PrD.ok (K : PySem.W.Frag) (d : PrD) : Bool :=
  He.eqO (PySem.W.findIn K (.ref (He.ga K d.cls)) d.name) (some (some (.ref (He.ma K (He.ga K d.cls) d.name)))) && (He.eqO (PySem.W.specialIn K (.ref (He.ma K (He.ga K d.cls) d.name)) "__get__") (some (some (.builtin "property.__get__"))) &&
  (decide (PySem.W.takesIn K (.ref (He.ma K (He.ga K d.cls) d.name)) = some true) && ((match PySem.W.recIn K (He.ma K (He.ga K d.cls) d.name) "property" with
    | some (.ref _ :: _) => true
    | _ => false) && (PySem.W.keepIn K (.ref (gAd K d.cls d.name)) && (match K.lookup (gAd K d.cls d.name) with
    | some ⟨_, _, .func fd, _⟩ => PySem.W.codeIn K fd.code d.qual && He.dflB K fd.defaults []
    | _ => false)))))
theorem PrD.prop {K : PySem.W.Frag} {d : PrD} (c : d.ok K = true) : PropOf K (He.ga K d.cls) d.name (He.ma K (He.ga K d.cls) d.name) (gAd K d.cls d.name) := by
  obtain ⟨c1, c⟩ := He.ba c
  obtain ⟨c2, c⟩ := He.ba c
  obtain ⟨c3, c⟩ := He.ba c
  obtain ⟨c4, _⟩ := He.ba c
  refine ⟨He.eqO_ok c1, He.eqO_ok c2, of_decide_eq_true c3, ?_⟩
  unfold gAd
  cases e : PySem.W.recIn K (He.ma K (He.ga K d.cls) d.name) "property" with
  | none =>
    rw [e] at c4
    cases c4
  | some l =>
    rw [e] at c4
    cases l with
    | nil => cases c4
    | cons v r =>
      cases v with
      | ref g => exact ⟨r, rfl⟩
      | _ => cases c4
theorem PrD.funD {K : PySem.W.Frag} {d : PrD} (e : fnA K (gAd K d.cls d.name) = d.val) (c : d.ok K = true) : ∃ fd, FunD K d.name d.qual d.params d.body d.scope [] [] (gAd K d.cls d.name) fd := by
  obtain ⟨_, c⟩ := He.ba c
  obtain ⟨_, c⟩ := He.ba c
  obtain ⟨_, c⟩ := He.ba c
  obtain ⟨_, c⟩ := He.ba c
  obtain ⟨kp, c⟩ := He.ba c
  generalize gAd K d.cls d.name = a at e kp c ⊢
  unfold fnA at e
  cases q : K.lookup a with
  | none =>
    rw [q] at c
    cases c
  | some o =>
    obtain ⟨oc, od, dt, osl⟩ := o
    rw [q] at c e
    cases dt with
    | func fd =>
      obtain ⟨n1, n2, n3, n4, n5, n6, n7, n8, n9, n10, n11, n12, n13, n14, n15⟩ := fd
      have e2 : (some (n1, n2, n3, n4, n5, n6, n7, n15) : He.FnW) = some (d.name, d.qual, d.params, .stmts d.body, d.scope, mainGlobals, [], builtinsNs) := e
      simp only [Option.some.injEq, Prod.mk.injEq] at e2
      obtain ⟨h1, h2, h3, h4, h5, h6, h7, h8⟩ := e2
      subst h1 h2 h3 h4 h5 h6 h7 h8
      obtain ⟨k1, k2⟩ := He.ba (show (PySem.W.codeIn K n13 d.qual && He.dflB K n8 []) = true from c)
      exact ⟨_, ⟨oc, od, n8, n9, n10, n11, n12, n13, n14, osl, rfl, q, k1, He.dflB_ok k2, .inl rfl⟩, kp⟩
    | _ => cases c
/-- a class for isinstance, == -/
def cfB (K : PySem.W.Frag) (x : Str) : Bool :=
  He.eqO (PySem.W.findIn K (.ref (He.ga K x)) "__class__") (some (some (.builtin "object.__class__"))) && (He.eqO (PySem.W.specialIn K (.builtin "object.__class__") "__get__") (some (some (.builtin "getset_descriptor.__get__"))) &&
  (decide (PySem.W.takesIn K (.builtin "object.__class__") = some true) && (decide (PySem.W.mroIn K (He.ga K x) (.type "object") = some true) && ((PySem.W.clsIn K (He.ga K x)).isSome && (decide (PySem.W.typeIn K (.ref (He.ga K x)) = some (.type "type")) &&
  (decide (PySem.W.kitOne K (.ref (He.ga K x)) (.type "tuple") = some false) && (decide (PySem.W.kitOne K (.ref (He.ga K x)) (.type "int") = some false) && (decide (PySem.W.kitOne K (.ref (He.ga K x)) (.type "str") = some false) &&
  (PySem.W.notFirst K (He.ga K x) (.type "tuple") && (PySem.W.notFirst K (He.ga K x) (.type "int") && PySem.W.notFirst K (He.ga K x) (.ref (He.ga K x))))))))))))
theorem cfB_ok {K : PySem.W.Frag} {x : Str} (c : cfB K x = true) : CF K (He.ga K x) ∧ NF K (He.ga K x) := by
  obtain ⟨c1, c⟩ := He.ba c
  obtain ⟨c2, c⟩ := He.ba c
  obtain ⟨c3, c⟩ := He.ba c
  obtain ⟨c4, c⟩ := He.ba c
  obtain ⟨c5, c⟩ := He.ba c
  obtain ⟨c6, c⟩ := He.ba c
  obtain ⟨c7, c⟩ := He.ba c
  obtain ⟨c8, c⟩ := He.ba c
  obtain ⟨c9, c⟩ := He.ba c
  obtain ⟨c10, c⟩ := He.ba c
  obtain ⟨c11, c12⟩ := He.ba c
  exact ⟨⟨He.eqO_ok c1, He.eqO_ok c2, of_decide_eq_true c3, of_decide_eq_true c4, c5, of_decide_eq_true c6, of_decide_eq_true c7, of_decide_eq_true c8, of_decide_eq_true c9⟩, ⟨c10, c11, c12⟩⟩
/-! the Hook -/
abbrev AlW : Type := He.AlD × Bool × List He.FnW
def obsP (fa : List He.Fa) (fn : List He.DefD) (ps : List PrD) (cs : List Str) (K : PySem.W.Frag) : AlW := (He.obsD fa fn K, (ps.all fun d => d.ok K) && cs.all fun x => cfB K x, ps.map fun d => fnA K (gAd K d.cls d.name))
def valP (fn : List He.DefD) (ps : List PrD) : AlW := (He.valD fn, true, ps.map PrD.val)
def SaysP (fa : List He.Fa) (fn : List He.DefD) (ps : List PrD) (cs : List Str) (K : PySem.W.Frag) : Prop := obsP fa fn ps cs K = valP fn ps
def obsPG (n : Nat) (fa : List He.Fa) (fn : List He.DefD) (ps : List PrD) (cs : List Str) (g : Addr → Option Obj) : AlW := obsP fa fn ps cs (He.frG g (He.asD g n))
def hookP (n : Nat) (fa : List He.Fa) (fn : List He.DefD) (ps : List PrD) (cs : List Str) : PySem.W.Hook where
  α := AlW
  obs := fun s => obsPG n fa fn ps cs s.heap.get?
  val := fun _ => valP fn ps
  says := fun _ h => ∃ K : PySem.W.Frag, K.In h ∧ SaysP fa fn ps cs K
  of := fun _ _ e => ⟨_, He.frG_in, e⟩
  keeps := fun _ _ _ ⟨K, hK, c⟩ k => ⟨K, PySem.W.Frag.In.keeps hK k, c⟩
theorem obsPG_eq {n : Nat} {fa : List He.Fa} {fn : List He.DefD} {ps : List PrD} {cs : List Str} {g : Addr → Option Obj} {s : Shared} (h : ∀ a, g a = s.heap.get? a) : obsPG n fa fn ps cs g = (hookP n fa fn ps cs).obs s := by
  have e : g = s.heap.get? := funext h
  rw [e] <;> rfl
section
variable {fa : List He.Fa} {fn : List He.DefD} {ps : List PrD} {cs : List Str} {K : PySem.W.Frag}
theorem SaysP.d (c : SaysP fa fn ps cs K) : He.SaysD fa fn K := congrArg (fun z : AlW => z.1) c
theorem SaysP.cf (c : SaysP fa fn ps cs K) {x : Str} (h : x ∈ cs) : CF K (He.ga K x) ∧ NF K (He.ga K x) := by
  have c1 := (He.ba (show ((ps.all fun d => d.ok K) && cs.all fun x => cfB K x) = true from congrArg (fun z : AlW => z.2.1) c)).2
  exact cfB_ok (List.all_eq_true.mp c1 x h)
theorem SaysP.prop (c : SaysP fa fn ps cs K) (i : Nat) {d : PrD} (h : ps[i]? = some d := by rfl) : PropOf K (He.ga K d.cls) d.name (He.ma K (He.ga K d.cls) d.name) (gAd K d.cls d.name) ∧ ∃ fd, FunD K d.name d.qual d.params d.body d.scope [] [] (gAd K d.cls d.name) fd := by
  have c1 := List.all_eq_true.mp (He.ba (show ((ps.all fun d => d.ok K) && cs.all fun x => cfB K x) = true from congrArg (fun z : AlW => z.2.1) c)).1 d (List.mem_of_getElem? h)
  have e : ps.map (fun d => fnA K (gAd K d.cls d.name)) = ps.map PrD.val := congrArg (fun z : AlW => z.2.2) c
  have e2 : (ps.map fun d => fnA K (gAd K d.cls d.name))[i]? = (ps.map PrD.val)[i]? := by rw [e]
  rw [List.getElem?_map, List.getElem?_map, h] at e2
  exact ⟨d.prop c1, d.funD (Option.some.inj e2) c1⟩
end
end Wd

namespace Wd
open PySem PySem.Spec PyProof.Rows L2
/-! ### the head's facts, the end -/
def enD (n : Str) (st : Stmt) : He.DefD := ⟨(n, none), n, n, defArgs st, defBody st, defScope st, [], []⟩
def enM (c m q : Str) (st : Stmt) : He.DefD := ⟨(c, some m), m, q, defArgs st, defBody st, defScope st, [], []⟩
def enP (c m q : Str) (st : Stmt) : PrD := ⟨c, m, q, defArgs st, defBody st, defScope st⟩
def enFn : List He.DefD := [⟨("is_integer", none), "is_integer", "is_integer", defArgs sIsInt, defBody sIsInt, defScope sIsInt, [.non], []⟩, enD "is_tuple" sIsTup, enD "is_pair" sIsPair, enD "is_row" sIsRow, enD "are_rows" sAreRows, enD "_law_pot" sPot, enD "_law_take" sTake, enD "_law_of" sOf, enD "_law_rows" sRows, enD "_law_size" sSize, enD "_law_small_rows" sSmall, enD "_law_dots" sLDots, enD "_law_all_wires" sLWires, enD "_law_turned_rows" sLTurn, enD "_law_turned_dots" sLTD, enD "_law_right" sRight, enD "law" sLaw, enM "Board" "__init__" "Board.__init__" sInitB, enM "Board" "__contains__" "Board.__contains__" sContB, enM "Board" "__len__" "Board.__len__" sLenB, enM "Board" "__invert__" "Board.__invert__" sInvB, enM "Board" "__eq__" "Board.__eq__" sEqB]
def enFa1 : List He.Fa := [.free "int", .free "bool", .free "str", .free "tuple", .free "list", .free "len", .free "range", .free "isinstance", .free "all", .free "any", .free "enumerate", .free "zip", .free "sorted", .free "repr", .free "max", .free "min", .free "abs", .str "DOT" stO, .str "GAP" stG, .str "ROW" stRow, .str "COLUMN" stCol, .int "MOST_ROWS" 10, .int "MOST_COLUMNS" 10, .int "PAIR" 2, .glo "is_integer"]
def enFa2 : List He.Fa := [.glo "is_tuple", .glo "is_pair", .glo "is_row", .glo "are_rows", .glo "_law_pot", .glo "_law_take", .glo "_law_of", .glo "_law_rows", .glo "_law_size", .glo "_law_small_rows", .glo "_law_dots", .glo "_law_all_wires", .glo "_law_turned_rows", .glo "_law_turned_dots", .glo "_law_right", .glo "law", .glo "Board", .cls "Board", .noat "Board" "own_rows", .noat "Board" "own_dots", .noat "Board" "own_at", .meth "Board" "__contains__", .meth "Board" "__len__", .meth "Board" "__invert__", .meth "Board" "__eq__", .mkr "Board"]
def enFa : List He.Fa := enFa1 ++ enFa2
def enPs : List PrD := [enP "Board" "rows" "Board.rows" sRowsB, enP "Board" "height" "Board.height" sHeightB, enP "Board" "width" "Board.width" sWidthB, enP "Board" "dots" "Board.dots" sDotsB, enP "Board" "wires" "Board.wires" sWiresB, enP "Board" "is_full" "Board.is_full" sFullB]
def enCs : List Str := ["Board"]
theorem facts {P : Program} {w : World} {K : PySem.W.Frag} {h : Heap} {mg : Str → Option Value} {f : Addr} (X : K.In h) (G : h.Ns mainGlobals mg) (hfa : mg ("law" : Str) = some (.ref f)) (c : SaysP enFa enFn enPs enCs K) :
    ∃ fd : FuncData, (∀ (s : Shared) (v : Value), BindsTo s fd ⟨[v], []⟩ [("_law_script", v)]) ∧ ∀ base : Heap, K.In base → base.Ns mainGlobals mg → FnG P w K mg base CX0 7 f fd ["_law_script"] (spLaw K) := by
  obtain ⟨d_is_integer, Fd_is_integer⟩ := c.d.def_ 0 rfl
  have Fd_is_integer : FunD K "is_integer" "is_integer" (defArgs sIsInt) (defBody sIsInt) (defScope sIsInt) [.non] [] (He.ga K "is_integer") d_is_integer := Fd_is_integer
  obtain ⟨d_is_tuple, Fd_is_tuple⟩ := c.d.def_ 1 rfl
  have Fd_is_tuple : FnP K "is_tuple" sIsTup (He.ga K "is_tuple") d_is_tuple := Fd_is_tuple
  obtain ⟨d_is_pair, Fd_is_pair⟩ := c.d.def_ 2 rfl
  have Fd_is_pair : FnP K "is_pair" sIsPair (He.ga K "is_pair") d_is_pair := Fd_is_pair
  obtain ⟨d_is_row, Fd_is_row⟩ := c.d.def_ 3 rfl
  have Fd_is_row : FnP K "is_row" sIsRow (He.ga K "is_row") d_is_row := Fd_is_row
  obtain ⟨d_are_rows, Fd_are_rows⟩ := c.d.def_ 4 rfl
  have Fd_are_rows : FnP K "are_rows" sAreRows (He.ga K "are_rows") d_are_rows := Fd_are_rows
  obtain ⟨d__law_pot, Fd__law_pot⟩ := c.d.def_ 5 rfl
  have Fd__law_pot : FnP K "_law_pot" sPot (He.ga K "_law_pot") d__law_pot := Fd__law_pot
  obtain ⟨d__law_take, Fd__law_take⟩ := c.d.def_ 6 rfl
  have Fd__law_take : FnP K "_law_take" sTake (He.ga K "_law_take") d__law_take := Fd__law_take
  obtain ⟨d__law_of, Fd__law_of⟩ := c.d.def_ 7 rfl
  have Fd__law_of : FnP K "_law_of" sOf (He.ga K "_law_of") d__law_of := Fd__law_of
  obtain ⟨d__law_rows, Fd__law_rows⟩ := c.d.def_ 8 rfl
  have Fd__law_rows : FnP K "_law_rows" sRows (He.ga K "_law_rows") d__law_rows := Fd__law_rows
  obtain ⟨d__law_size, Fd__law_size⟩ := c.d.def_ 9 rfl
  have Fd__law_size : FnP K "_law_size" sSize (He.ga K "_law_size") d__law_size := Fd__law_size
  obtain ⟨d__law_small_rows, Fd__law_small_rows⟩ := c.d.def_ 10 rfl
  have Fd__law_small_rows : FnP K "_law_small_rows" sSmall (He.ga K "_law_small_rows") d__law_small_rows := Fd__law_small_rows
  obtain ⟨d__law_dots, Fd__law_dots⟩ := c.d.def_ 11 rfl
  have Fd__law_dots : FnP K "_law_dots" sLDots (He.ga K "_law_dots") d__law_dots := Fd__law_dots
  obtain ⟨d__law_all_wires, Fd__law_all_wires⟩ := c.d.def_ 12 rfl
  have Fd__law_all_wires : FnP K "_law_all_wires" sLWires (He.ga K "_law_all_wires") d__law_all_wires := Fd__law_all_wires
  obtain ⟨d__law_turned_rows, Fd__law_turned_rows⟩ := c.d.def_ 13 rfl
  have Fd__law_turned_rows : FnP K "_law_turned_rows" sLTurn (He.ga K "_law_turned_rows") d__law_turned_rows := Fd__law_turned_rows
  obtain ⟨d__law_turned_dots, Fd__law_turned_dots⟩ := c.d.def_ 14 rfl
  have Fd__law_turned_dots : FnP K "_law_turned_dots" sLTD (He.ga K "_law_turned_dots") d__law_turned_dots := Fd__law_turned_dots
  obtain ⟨d__law_right, Fd__law_right⟩ := c.d.def_ 15 rfl
  have Fd__law_right : FnP K "_law_right" sRight (He.ga K "_law_right") d__law_right := Fd__law_right
  obtain ⟨d_law, Fd_law⟩ := c.d.def_ 16 rfl
  have Fd_law : FnP K "law" sLaw (He.ga K "law") d_law := Fd_law
  obtain ⟨m__init__, Fm__init__⟩ := c.d.def_ 17 rfl
  have Fm__init__ : FnM K "__init__" "Board.__init__" sInitB (He.ma K (He.ga K "Board") "__init__") m__init__ := Fm__init__
  obtain ⟨m__contains__, Fm__contains__⟩ := c.d.def_ 18 rfl
  have Fm__contains__ : FnM K "__contains__" "Board.__contains__" sContB (He.ma K (He.ga K "Board") "__contains__") m__contains__ := Fm__contains__
  obtain ⟨m__len__, Fm__len__⟩ := c.d.def_ 19 rfl
  have Fm__len__ : FnM K "__len__" "Board.__len__" sLenB (He.ma K (He.ga K "Board") "__len__") m__len__ := Fm__len__
  obtain ⟨m__invert__, Fm__invert__⟩ := c.d.def_ 20 rfl
  have Fm__invert__ : FnM K "__invert__" "Board.__invert__" sInvB (He.ma K (He.ga K "Board") "__invert__") m__invert__ := Fm__invert__
  obtain ⟨m__eq__, Fm__eq__⟩ := c.d.def_ 21 rfl
  have Fm__eq__ : FnM K "__eq__" "Board.__eq__" sEqB (He.ma K (He.ga K "Board") "__eq__") m__eq__ := Fm__eq__
  obtain ⟨Pp_rows, p_rows, Fp_rows⟩ := c.prop 0 rfl
  have Pp_rows : PropOf K (He.ga K "Board") "rows" (He.ma K (He.ga K "Board") "rows") (gAd K "Board" "rows") := Pp_rows
  have Fp_rows : FnM K "rows" "Board.rows" sRowsB (gAd K "Board" "rows") p_rows := Fp_rows
  obtain ⟨Pp_height, p_height, Fp_height⟩ := c.prop 1 rfl
  have Pp_height : PropOf K (He.ga K "Board") "height" (He.ma K (He.ga K "Board") "height") (gAd K "Board" "height") := Pp_height
  have Fp_height : FnM K "height" "Board.height" sHeightB (gAd K "Board" "height") p_height := Fp_height
  obtain ⟨Pp_width, p_width, Fp_width⟩ := c.prop 2 rfl
  have Pp_width : PropOf K (He.ga K "Board") "width" (He.ma K (He.ga K "Board") "width") (gAd K "Board" "width") := Pp_width
  have Fp_width : FnM K "width" "Board.width" sWidthB (gAd K "Board" "width") p_width := Fp_width
  obtain ⟨Pp_dots, p_dots, Fp_dots⟩ := c.prop 3 rfl
  have Pp_dots : PropOf K (He.ga K "Board") "dots" (He.ma K (He.ga K "Board") "dots") (gAd K "Board" "dots") := Pp_dots
  have Fp_dots : FnM K "dots" "Board.dots" sDotsB (gAd K "Board" "dots") p_dots := Fp_dots
  obtain ⟨Pp_wires, p_wires, Fp_wires⟩ := c.prop 4 rfl
  have Pp_wires : PropOf K (He.ga K "Board") "wires" (He.ma K (He.ga K "Board") "wires") (gAd K "Board" "wires") := Pp_wires
  have Fp_wires : FnM K "wires" "Board.wires" sWiresB (gAd K "Board" "wires") p_wires := Fp_wires
  obtain ⟨Pp_is_full, p_is_full, Fp_is_full⟩ := c.prop 5 rfl
  have Pp_is_full : PropOf K (He.ga K "Board") "is_full" (He.ma K (He.ga K "Board") "is_full") (gAd K "Board" "is_full") := Pp_is_full
  have Fp_is_full : FnM K "is_full" "Board.is_full" sFullB (gAd K "Board" "is_full") p_is_full := Fp_is_full
  have T : Bt mg := ⟨He.free_ok X G (c.d.fact 0 rfl), He.free_ok X G (c.d.fact 1 rfl), He.free_ok X G (c.d.fact 2 rfl), He.free_ok X G (c.d.fact 3 rfl), He.free_ok X G (c.d.fact 4 rfl), He.free_ok X G (c.d.fact 5 rfl), He.free_ok X G (c.d.fact 6 rfl), He.free_ok X G (c.d.fact 7 rfl), He.free_ok X G (c.d.fact 8 rfl), He.free_ok X G (c.d.fact 9 rfl), He.free_ok X G (c.d.fact 10 rfl), He.free_ok X G (c.d.fact 11 rfl), He.free_ok X G (c.d.fact 12 rfl), He.free_ok X G (c.d.fact 13 rfl), He.free_ok X G (c.d.fact 14 rfl), He.free_ok X G (c.d.fact 15 rfl), He.free_ok X G (c.d.fact 16 rfl)⟩
  have B : Bc mg := ⟨He.str_ok X G (c.d.fact 17 rfl), He.str_ok X G (c.d.fact 18 rfl), He.int_ok X G (c.d.fact 21 rfl), He.int_ok X G (c.d.fact 22 rfl)⟩
  have Bx : Bw mg := ⟨He.str_ok X G (c.d.fact 19 rfl), He.str_ok X G (c.d.fact 20 rfl)⟩
  have mP : ∃ t, mg "PAIR" = some (.int 2 t) := He.int_ok X G (c.d.fact 23 rfl)
  have Z : BT K mg (He.ga K "Board") := ⟨He.cls_ok (c.d.fact 42 rfl), He.noat_ok (c.d.fact 43 rfl), He.noat_ok (c.d.fact 44 rfl), He.noat_ok (c.d.fact 45 rfl), He.glo_ok X G (c.d.fact 41 rfl)⟩
  obtain ⟨cf, nf⟩ := c.cf (x := "Board") (List.mem_singleton.mpr rfl)
  have mk : Mk K (He.ga K "Board") (He.ma K (He.ga K "Board") "__init__") := He.mkr_ok (c.d.fact 50 rfl)
  obtain ⟨dsI, vdI, bI⟩ := Fd_is_integer.binds1 (ps := ["value", "least", "most"]) 2 0 (by decide) rfl (fun _ _ _ _ _ _ _ us its hu hi => match us, hu, its, hi with | [_, _], _, [_], _ => ⟨_, rfl, rfl⟩)
  have e := hfa.symm.trans (He.glo_ok X G (c.d.fact 40 rfl))
  cases e
  have bl := FunD.bindsA (ps := ["_law_script"]) Fd_law fun _ _ _ _ _ _ us hl => match us, hl with | [_], _ => rfl
  refine ⟨d_law, fun s v => bl s [v] rfl, fun base _ _ => ?_⟩
  let cIsTup : Cl P w K mg base CX0 1 "is_tuple" ["value", "most"] (spIsTup K) := { f := _, fd := d_is_tuple, ok := ok_istup Fd_is_tuple T, mg := He.glo_ok X G (c.d.fact 25 rfl), kp := Fd_is_tuple.kp, b := Fd_is_tuple.bindsN fun _ _ _ _ _ _ us hl => match us, hl with | [_, _], _ => rfl }
  let cIsPair : Cl P w K mg base CX0 1 "is_pair" ["value"] (spIsPair K) := { f := _, fd := d_is_pair, ok := ok_ispair Fd_is_pair T mP, mg := He.glo_ok X G (c.d.fact 26 rfl), kp := Fd_is_pair.kp, b := Fd_is_pair.bindsN fun _ _ _ _ _ _ us hl => match us, hl with | [_], _ => rfl }
  let cIsRow : Cl P w K mg base CX0 1 "is_row" ["value", "width"] (spIsRow K) := { f := _, fd := d_is_row, ok := ok_isrow Fd_is_row T B, mg := He.glo_ok X G (c.d.fact 27 rfl), kp := Fd_is_row.kp, b := Fd_is_row.bindsN fun _ _ _ _ _ _ us hl => match us, hl with | [_, _], _ => rfl }
  let cAreRows : Cl P w K mg base CX0 2 "are_rows" ["value"] (spAreRows K) := { f := _, fd := d_are_rows, ok := ok_arerows Fd_are_rows T B cIsTup cIsRow, mg := He.glo_ok X G (c.d.fact 28 rfl), kp := Fd_are_rows.kp, b := Fd_are_rows.bindsN fun _ _ _ _ _ _ us hl => match us, hl with | [_], _ => rfl }
  let cInt : ClI P w K mg base := { f := _, fd := d_is_integer, ds := dsI, ok := ok_isint Fd_is_integer T, mg := He.glo_ok X G (c.d.fact 24 rfl), kp := Fd_is_integer.kp, vd := vdI, b := bI }
  let cTake : Dr P w K mg base := { f := _, fd := d__law_take, ok := ok_take Fd__law_take T.int, mg := He.glo_ok X G (c.d.fact 30 rfl), kp := Fd__law_take.kp, b := Fd__law_take.bindsN fun _ _ _ _ _ _ us hl => match us, hl with | [_, _], _ => rfl }
  let cPot : Cl P w K mg base CX0 1 "_law_pot" ["_law_script", "_law_number"] (spPot K) := { f := _, fd := d__law_pot, ok := ok_pot Fd__law_pot T.int T.len T.abs, mg := He.glo_ok X G (c.d.fact 29 rfl), kp := Fd__law_pot.kp, b := Fd__law_pot.bindsN fun _ _ _ _ _ _ us hl => match us, hl with | [_, _], _ => rfl }
  let cOf : Cl P w K mg base CX0 2 "_law_of" ["_law_pot_here", "_law_some"] (spOf K) := { f := _, fd := d__law_of, ok := ok_of Fd__law_of cTake T.len, mg := He.glo_ok X G (c.d.fact 31 rfl), kp := Fd__law_of.kp, b := Fd__law_of.bindsN fun _ _ _ _ _ _ us hl => match us, hl with | [_, _], _ => rfl }
  let cRows : Cl P w K mg base CX0 2 "_law_rows" ["_law_pot_here", "_law_tall", "_law_wide"] spRows := { f := _, fd := d__law_rows, ok := ok_rows Fd__law_rows cTake T.range T.int T.max T.tuple, mg := He.glo_ok X G (c.d.fact 32 rfl), kp := Fd__law_rows.kp, b := Fd__law_rows.bindsN fun _ _ _ _ _ _ us hl => match us, hl with | [_, _, _], _ => rfl }
  let cSize : Cl P w K mg base CX0 2 "_law_size" ["_law_pot_here", "_law_most"] spSize := { f := _, fd := d__law_size, ok := ok_size Fd__law_size cTake, mg := He.glo_ok X G (c.d.fact 33 rfl), kp := Fd__law_size.kp, b := Fd__law_size.bindsN fun _ _ _ _ _ _ us hl => match us, hl with | [_, _], _ => rfl }
  let cSmall : Cl P w K mg base CX0 3 "_law_small_rows" ["_law_pot_here", "_law_most"] spSmall := { f := _, fd := d__law_small_rows, ok := ok_small Fd__law_small_rows cSize cRows, mg := He.glo_ok X G (c.d.fact 34 rfl), kp := Fd__law_small_rows.kp, b := Fd__law_small_rows.bindsN fun _ _ _ _ _ _ us hl => match us, hl with | [_, _], _ => rfl }
  let cDots : Cl P w K mg base CX0 1 "_law_dots" ["_law_rows_here"] spLDots := { f := _, fd := d__law_dots, ok := ok_ldots Fd__law_dots T, mg := He.glo_ok X G (c.d.fact 35 rfl), kp := Fd__law_dots.kp, b := Fd__law_dots.bindsN fun _ _ _ _ _ _ us hl => match us, hl with | [_], _ => rfl }
  let cWires : Cl P w K mg base CX0 1 "_law_all_wires" ["_law_rows_here"] spLWires := { f := _, fd := d__law_all_wires, ok := ok_lwires Fd__law_all_wires T, mg := He.glo_ok X G (c.d.fact 36 rfl), kp := Fd__law_all_wires.kp, b := Fd__law_all_wires.bindsN fun _ _ _ _ _ _ us hl => match us, hl with | [_], _ => rfl }
  let cTurn : Cl P w K mg base CX0 1 "_law_turned_rows" ["_law_rows_here"] spLTurn := { f := _, fd := d__law_turned_rows, ok := ok_lturn Fd__law_turned_rows T, mg := He.glo_ok X G (c.d.fact 37 rfl), kp := Fd__law_turned_rows.kp, b := Fd__law_turned_rows.bindsN fun _ _ _ _ _ _ us hl => match us, hl with | [_], _ => rfl }
  let cTd : Cl P w K mg base CX0 1 "_law_turned_dots" ["_law_dots_here"] spLTD := { f := _, fd := d__law_turned_dots, ok := ok_ltd Fd__law_turned_dots T, mg := He.glo_ok X G (c.d.fact 38 rfl), kp := Fd__law_turned_dots.kp, b := Fd__law_turned_dots.bindsN fun _ _ _ _ _ _ us hl => match us, hl with | [_], _ => rfl }
  let M : MB P w K mg base (He.ga K "Board") := { f := _, fd := m__init__, mk_ := mk, ok := ok_initB Fm__init__ T B Z cAreRows, b := Fm__init__.bindsN fun _ _ _ _ _ _ us hl => match us, hl with | [_, _], _ => rfl }
  let pR : Pr P w K mg base (He.ga K "Board") 1 "rows" (spRowsB (He.ga K "Board")) := { p := _, g := _, fd := p_rows, pr := Pp_rows, ok := ok_rowsB Fp_rows Z, b := Fp_rows.bindsN fun _ _ _ _ _ _ us hl => match us, hl with | [_], _ => rfl }
  let pH : Pr P w K mg base (He.ga K "Board") 1 "height" (spHeightB (He.ga K "Board")) := { p := _, g := _, fd := p_height, pr := Pp_height, ok := ok_heightB Fp_height Z T, b := Fp_height.bindsN fun _ _ _ _ _ _ us hl => match us, hl with | [_], _ => rfl }
  let pW : Pr P w K mg base (He.ga K "Board") 1 "width" (spWidthB (He.ga K "Board")) := { p := _, g := _, fd := p_width, pr := Pp_width, ok := ok_widthB Fp_width Z T, b := Fp_width.bindsN fun _ _ _ _ _ _ us hl => match us, hl with | [_], _ => rfl }
  let pD : Pr P w K mg base (He.ga K "Board") 1 "dots" (spDotsB (He.ga K "Board")) := { p := _, g := _, fd := p_dots, pr := Pp_dots, ok := ok_dotsB Fp_dots Z, b := Fp_dots.bindsN fun _ _ _ _ _ _ us hl => match us, hl with | [_], _ => rfl }
  let pX : Pr P w K mg base (He.ga K "Board") 1 "wires" (spWiresB (He.ga K "Board")) := { p := _, g := _, fd := p_wires, pr := Pp_wires, ok := ok_wiresB Fp_wires Z T Bx, b := Fp_wires.bindsN fun _ _ _ _ _ _ us hl => match us, hl with | [_], _ => rfl }
  let pF : Pr P w K mg base (He.ga K "Board") 1 "is_full" (spFullB (He.ga K "Board")) := { p := _, g := _, fd := p_is_full, pr := Pp_is_full, ok := ok_fullB Fp_is_full Z T, b := Fp_is_full.bindsN fun _ _ _ _ _ _ us hl => match us, hl with | [_], _ => rfl }
  let mL : Me P w K mg base (He.ga K "Board") 1 "__len__" ["self"] (spLenB (He.ga K "Board")) := { f := _, fd := m__len__, m := He.meth_ok (c.d.fact 47 rfl), ok := ok_lenB Fm__len__ Z T, b := Fm__len__.bindsN fun _ _ _ _ _ _ us hl => match us, hl with | [_], _ => rfl }
  let mI : Me P w K mg base (He.ga K "Board") 2 "__contains__" ["self", "value"] (spContB K (He.ga K "Board")) := { f := _, fd := m__contains__, m := He.meth_ok (c.d.fact 46 rfl), ok := ok_contB Fm__contains__ Z T cIsPair cInt, b := Fm__contains__.bindsN fun _ _ _ _ _ _ us hl => match us, hl with | [_, _], _ => rfl }
  let mE : Me P w K mg base (He.ga K "Board") 1 "__eq__" ["self", "other"] (spEqB K (He.ga K "Board")) := { f := _, fd := m__eq__, m := He.meth_ok (c.d.fact 49 rfl), ok := ok_eqB Fm__eq__ Z cf T, b := Fm__eq__.bindsN fun _ _ _ _ _ _ us hl => match us, hl with | [_, _], _ => rfl }
  let mV : Me P w K mg base (He.ga K "Board") 5 "__invert__" ["self"] (spInvB (He.ga K "Board")) := { f := _, fd := m__invert__, m := He.meth_ok (c.d.fact 48 rfl), ok := ok_invB Fm__invert__ Z T M, b := Fm__invert__.bindsN fun _ _ _ _ _ _ us hl => match us, hl with | [_], _ => rfl }
  let R : RC P w K mg base (He.ga K "Board") := { T := T, Z := Z, c := cf, nf := nf, M := M, small := cSmall, of := cOf, dots := cDots, wires := cWires, turn := cTurn, td := cTd, pR := pR, pH := pH, pW := pW, pD := pD, pX := pX, pF := pF, mL := mL, mI := mI, mE := mE, mV := mV }
  let cRight : ClG P w K mg base CX0 6 "_law_right" ["_law_pot_here"] spRight := { f := _, fd := d__law_right, ok := ok_right Fd__law_right R, mg := He.glo_ok X G (c.d.fact 39 rfl), kp := Fd__law_right.kp, b := Fd__law_right.bindsN fun _ _ _ _ _ _ us hl => match us, hl with | [_], _ => rfl }
  exact ok_law Fd_law T cRight cPot
abbrev enR : PySem.W.OpenRow := PySem.W.OpenLaw.row PySem.Challenge.rw_wiresindark_k01_boards
abbrev enK : PySem.W.Hook := hookP 5 enFa enFn enPs enCs
def enO (s : PySem.W.SharedT) : AlW := obsPG 5 enFa enFn enPs enCs (HandSHeadRun.getT s)
theorem enO_eq (s : PySem.W.SharedT) : enO s = enK.obs s.abs := obsPG_eq (HandSHeadRun.getT_eq s)
def enL : List Str := ["WireError", "BadBoard", "PAIR", "is_integer", "is_tuple", "is_pair", "DOT", "GAP", "MOST_ROWS", "MOST_COLUMNS", "ROW", "COLUMN", "is_row", "are_rows", "Board", "_law_pot", "_law_take", "_law_of", "_law_rows", "_law_size", "_law_small_rows", "_law_dots", "_law_all_wires", "_law_turned_rows", "_law_turned_dots", "_law_right"]
end Wd

namespace Wd
open PySem PySem.Spec PyProof.Rows L2
set_option maxHeartbeats 0 in
theorem enRun (w : World) : HandSHeadRun.RunEq enR (PySem.W.view enR.prog [30]) enK enO 4000 enL w := by
  intro os
  kernel_rfl
end Wd

open PySem PySem.W PySem.Calls PyProof.Rows
set_option maxHeartbeats 0 in
theorem PySem.Challenge.cw_wiresindark_k01_boards_holds : PySem.Challenge.rw_wiresindark_k01_boards.Holds := by
  w_on; o_law
  refine HandSHeadRun.head_any (r := OpenLaw.row PySem.Challenge.rw_wiresindark_k01_boards) (q := view (OpenLaw.row PySem.Challenge.rw_wiresindark_k01_boards).prog [30]) (H := Wd.enK) (ob := Wd.enO) (M := 4000) (loose := Wd.enL) (d := HandSHeadRun.topDef (OpenLaw.row PySem.Challenge.rw_wiresindark_k01_boards).prog 30) (kwd := []) Wd.enO_eq
    (by kernel_rfl) (fun s => by kernel_rfl) Wd.enRun (by kernel_rfl) (by kernel_rfl) (by kernel_rfl) (by rfl) (by first | assumption | decide +kernel) (by decide +kernel) ⟨rfl, rfl, rfl, rfl, rfl, by decide +kernel⟩ ?hw ?hc
  case hw => w_witness2
  case hc =>
    refine Wd.walk_ofG (l := PySem.Challenge.rw_wiresindark_k01_boards) (n := 63) (k := 7) (x := "_law_script") (CX := L2.CX0) rfl (by decide) (by kernel_rfl) ⟨rfl, by decide, by decide⟩ ?F (fun _ _ _ _ z => z)
    intro w mg fa h Y G hmg0
    obtain ⟨K, KX, c⟩ := Y
    have hmg : mg ("law" : PySem.Str) = some (.ref fa) := by
      have e : (HandSHeadRun.topDef (OpenLaw.row PySem.Challenge.rw_wiresindark_k01_boards).prog 30).name = ("law" : PySem.Str) := by kernel_rfl
      rw [← e]
      exact hmg0
    obtain ⟨fd, hb, hF⟩ := Wd.facts (P := (PySem.Challenge.rw_wiresindark_k01_boards).prog) (w := w) KX G hmg c
    exact ⟨K, fd, Wd.spLaw K, KX, hb, fun H a ns hl hS => ⟨a, ns, rfl, hS, fun _ => rfl⟩, hF⟩
