import PyProof.Rows.All
import Wide.All
import OpenK.AllK
import Wide.FinOn
import KE.KStateDown
import HandS.ForMost
import HandS.ForExc
import HandS.Flow
import HandS.Star
import HandS.Defaults
import HandS.Property
import HandS.OwnEq
import HandS.IsInst
import HandS.Walk
import HandS.DictComp
import HandS.SortRule
import HandS.Deep
import HandS.Head0
import HandS.Head1
import HandS.Head2
import HandS.HeadEnd
import HandS.HeadHook1
import HandS.HeadHook2
import HandS.EndBits
import HandS.Evl
import HandS.Codes
import KE.GoesNew
import KE.GoesMore
import KE.KOpsOwn
import HandS.Zip
import HandS.TupAny
import HandS.SlotsOwn
import HandS.TupLen
import HandS.SortInts
import HandS.Conv
import HandS.TupSets
import HandS.Strs
import HandS.SetFor
import HandS.TupMul
import HandS.TupLe
import HandS.ExcInit
import HandS.Lambda
import HandS.EndTab
import HandS.HeadHook4
import KE.KExcSuper
import HandS.ExcSuper
import KE.KExcIs
import HandS.Style
import KE.SortData
import KE.KDictKeyed
import KE.KDictList
import KE.KDictCopyH
import HandS.DictTup
import HandS.SetBool

import HandS.ListEq
import HandS.ExcValue
import PySem.Challenge.RW_wiresindark_k00_errors_keep_their_value
set_option Elab.async false
set_option linter.all false
set_option maxRecDepth 100000
set_option maxHeartbeats 4000000
namespace Wd
open PySem PySem.Spec PyProof.Rows L2
mutual
inductive NkX (K : PySem.W.Frag) (H : Hp) : V → NestedKey → Prop
  | non : NkX K H .non .none
  | int (i : Int) : NkX K H (.int i) (.num i)
  | str (x : Str) : NkX K H (.str x) (.text x)
  | tup {a : Addr} {xs : List V} {ks : List NestedKey} : SqT K H a xs → NkXs K H xs ks → NkX K H (.ref a) (.tup ks)
inductive NkXs (K : PySem.W.Frag) (H : Hp) : List V → List NestedKey → Prop
  | nil : NkXs K H [] []
  | cons {v : V} {k : NestedKey} {vs : List V} {ks : List NestedKey} : NkX K H v k → NkXs K H vs ks → NkXs K H (v :: vs) (k :: ks)
end
section
variable {X : Cx} {pins : List (Addr × Obj)} {σ : L2.St} {H : Hp} {s : Shared}
mutual
theorem NkX.is (I : L2.Inv X pins σ H s) : ∀ {v : V} {k : NestedKey}, NkX X.K H v k → ∀ u, RelV v u → NestedIs s.heap k u
  | _, _, .non, u, r => by
    cases r
    exact .none
  | _, _, .int i, u, r => by
    obtain ⟨t, rfl⟩ := r
    exact .int i t
  | _, _, .str x, u, r => by
    obtain ⟨t, rfl⟩ := r
    exact .text x t
  | _, _, .tup hs ha, u, r => by
    cases r
    obtain ⟨its, rv, ⟨o, e, c, n, dd⟩, _⟩ := I.tuple hs
    exact .tup e c dd (by simpa using NkXs.is I ha _ rv)
theorem NkXs.is (I : L2.Inv X pins σ H s) : ∀ {vs : List V} {ks : List NestedKey}, NkXs X.K H vs ks → ∀ us, Vals vs us → NestedAll s.heap ks us
  | _, _, .nil, us, r => by
    cases r
    exact .nil
  | _, _, .cons a b, us, r => by
    cases r with
    | cons r1 r2 => exact .cons (NkX.is I a _ r1) (NkXs.is I b _ r2)
end
end
abbrev NKV := NestedKey × Addr × V
def KN : List NKV → List (NestedKey × Addr × Value) → Prop := Paired fun (p : NKV) (q : NestedKey × Addr × Value) => p.1 = q.1 ∧ p.2.1 = q.2.1 ∧ RelV p.2.2 q.2.2
def valN (xs : List NKV) (k : NestedKey) : Option V := (xs.find? fun x => decide (x.1 = k)).map (·.2.2)
def setN (k : NestedKey) (v : V) (x : NKV) : NKV := if x.1 = k then (x.1, x.2.1, v) else x
def storeN (xs : List NKV) (k : NestedKey) (b : Addr) (v : V) : List NKV := if (valN xs k).isSome then xs.map (setN k v) else xs ++ [(k, b, v)]
abbrev DkN (hs : NestedKey → Int) (a : Addr) (xs : List NKV) : HO := .ext fun h => (a == sysModules) = false ∧ ∃ vs : List (NestedKey × Addr × Value), KN xs vs ∧ ∃ o es ep, h.get? a = some o ∧ o.ExactDict ∧ o.data = .dict es ep ∧ es.toList = vs.map (fun x => (⟨hs x.1, .ref x.2.1, x.2.2⟩ : DictEntry)) ∧ (vs.map (·.1)).Nodup
def KeysOk (K : PySem.W.Frag) (H : Hp) (xs : List NKV) : Prop := ∀ x ∈ xs, NkX K H (.ref x.2.1) x.1 ∧ x.1.depth ≤ 8
theorem KN.at : ∀ {xs : List NKV} {vs : List (NestedKey × Addr × Value)}, KN xs vs → ∀ k, RelO (valN xs k) ((atKey vs k).map (·.2))
  | _, _, .nil, _ => trivial
  | x :: xs, v :: vs, .cons a r, k => by
    obtain ⟨e1, e2, e3⟩ := a
    have ih := KN.at (xs := xs) (vs := vs) r k
    unfold valN atKey at ih ⊢
    rw [List.find?_cons, List.find?_cons, ← e1]
    by_cases h : x.1 = k
    · simp only [h, decide_true, Option.map_some]
      exact e3
    · simp only [h, decide_false]
      exact ih
theorem KN.length {xs : List NKV} {vs : List (NestedKey × Addr × Value)} (r : KN xs vs) : xs.length = vs.length := Paired.length r
theorem KN.map {k : NestedKey} {v : V} {u : Value} (rv : RelV v u) : ∀ {xs : List NKV} {vs : List (NestedKey × Addr × Value)}, KN xs vs → KN (xs.map (setN k v)) (vs.map (putAt k u))
  | _, _, .nil => .nil
  | x :: xs, q :: vs, .cons a r => by
    refine .cons ?_ (KN.map rv r)
    obtain ⟨e1, e2, e3⟩ := a
    unfold setN putAt
    rw [← e1]
    split
    · exact ⟨rfl, e2, rv⟩
    · exact ⟨e1, e2, e3⟩
theorem KN.put {xs : List NKV} {vs : List (NestedKey × Addr × Value)} (r : KN xs vs) (k : NestedKey) (b : Addr) {v : V} {u : Value} (rv : RelV v u) : KN (storeN xs k b v) (storedH vs k b u) := by
  have hs := (r.at k).isSome_eq
  rw [Option.isSome_map] at hs
  unfold storeN storedH
  rw [hs]
  split
  · exact KN.map rv r
  · exact Paired.snoc r ⟨rfl, rfl, rv⟩
end Wd

namespace Wd
open PySem PySem.Spec PyProof.Rows L2
def topS (i : Nat) : Stmt := PySem.Challenge.pw_wiresindark_k00_errors_keep_their_value.main.body.getD i (.Pass ⟨0, 0, 0, 0⟩)
abbrev FnP (K : PySem.W.Frag) (x : Str) (st : Stmt) (f : Addr) (fd : FuncData) : Prop := FunD K x x (defArgs st) (defBody st) (defScope st) [] [] f fd

def ExB (a : Addr) (H H' : Hp) : Prop := ∀ b o, b ≠ a → H b = some o → H' b = some o
structure Pot (H : Hp) (a : Addr) (n : Nat) : Prop where
  ex : ∃ o b c : Int, H a = some (.lst [.int o, .int b, .int c]) ∧ 0 ≤ o ∧ 0 ≤ b ∧ b < 2305843009213693951 ∧ 0 ≤ c ∧ c ≤ (n : Int)
def spTake : Sp := fun vs H Q _ => ∃ (a : Addr) (n : Nat) (up : Int), vs = [.ref a, .int up] ∧ Pot H a n ∧ n < 1000000 ∧ 0 < up ∧ up < 1000000 ∧
  ∀ (d : Int) (H' : Hp), 0 ≤ d → d < up → Pot H' a (n + 1) → ExB a H H' → Q (.int d) H'
abbrev sTake : Stmt := topS 64
theorem scTake : FnScope ["_law_pot_here", "_law_upto", "_law_digit", "_law_prime", "_law_stirred"] ["_law_pot_here", "_law_upto"] (defScope sTake) :=
  ⟨rfl, rfl, rfl, by decide +kernel, rfl, by decide +kernel, by decide +kernel⟩
section
variable {P : Program} {w : World} {K : PySem.W.Frag} {mg : Str → Option Value} {base : Heap} {f : Addr} {fd : FuncData}
theorem ok_take (F : FnP K "_law_take" sTake f fd) (mI : mg "int" = none) : FnOk P w K mg base CX0 1 f fd ["_law_pot_here", "_law_upto"] spTake := by
  refine F.ok scTake (fun vs H Q E h => ?_) (fun cdv A outer s H vs Q E hr h => ?_)
  · obtain ⟨a, n, up, rfl, _⟩ := h
    rfl
  · obtain ⟨a, n, up, rfl, ⟨o, b, c, hp, ho, hb0, hb, hc0, hc⟩, hn, hu0, hu, k⟩ := h
    refine ⟨_, PSs.nox (pss_cons (ps_if (pt_cmpR op_gt (pe_ix ix_list (pv 0) pe_int (fun _ _ => rfl)) pe_int (nomark _))
        (pss_cons (ps_set (i := 2) scTake.nd rfl (Or.inl rfl) (pe_op op_mod (pe_callTy call_int1 (by rfl) mI boot_int (pa_cons (pe_ix ix_list (pv 0) pe_int (fun _ _ => rfl)) pa_nil)) (pv 1)))
          (pss_cons (ps_asg (pe_op op_fdiv (pe_ix ix_list (pv 0) pe_int (fun _ _ => rfl)) (pv 1)) (pg_sub (pv 0) pe_int set_list))
            (pss_one (ps_ret (pv 2))))) pss_nil)
      (pss_cons (ps_asg (pe_op op_add (pe_ix ix_list (pv 0) pe_int (fun _ _ => rfl)) pe_int) (pg_sub (pv 0) pe_int set_list))
      (pss_cons (ps_set (i := 3) scTake.nd rfl (Or.inl rfl) (pe_ix ix_list (pe_lst (pa_cons pe_int (pa_cons pe_int (pa_cons pe_int (pa_cons pe_int (pa_cons pe_int pa_nil))))))
          (pe_op op_mod (pe_callTy call_int1 (by rfl) mI boot_int (pa_cons (pe_ix ix_list (pv 0) pe_int (fun _ _ => rfl)) pa_nil)) pe_int) (fun _ _ => rfl)))
      (pss_cons (ps_set (i := 4) scTake.nd rfl (Or.inl rfl) (pe_op op_mod (pe_callTy call_int1 (by rfl) mI boot_int (pa_cons (pe_op op_pow (pe_callTy call_int1 (by rfl) mI boot_int (pa_cons
          (pe_op op_add (pe_op op_add (pe_ix ix_list (pv 0) pe_int (fun _ _ => rfl)) (pe_op op_mul (pe_op op_mul pe_int (pe_ix ix_list (pv 0) pe_int (fun _ _ => rfl))) (pe_ix ix_list (pv 0) pe_int (fun _ _ => rfl)))) pe_int) pa_nil)) pe_int) pa_nil)) (pv 3)))
      (pss_cons (ps_set (i := 4) scTake.nd rfl (Or.inl rfl) (pe_op op_mod (pe_callTy call_int1 (by rfl) mI boot_int (pa_cons (pe_op op_mul (pv 4) (pe_op op_add (pe_op op_mod (pe_callTy call_int1 (by rfl) mI boot_int (pa_cons (pv 4) pa_nil)) pe_int)
          (pe_op op_mul pe_int (pe_ix ix_list (pv 0) pe_int (fun _ _ => rfl))))) pa_nil)) pe_int))
      (pss_one (ps_ret (pe_op op_mod (pe_callTy call_int1 (by rfl) mI boot_int (pa_cons (pe_op op_fdiv (pv 4) pe_int) pa_nil)) (pv 1))))))))), ?_⟩
    have hP : ∀ {H1 : Hp} {o1 b1 c1 : Int}, H1 a = some (.lst [.int o1, .int b1, .int c1]) → SqL K H1 a [.int o1, .int b1, .int c1] := fun h => SqL.of h
    -- if pot[0] > 0
    refine ⟨_, rfl, a, _, 0, .int o, rfl, rfl, hP hp, rfl, _, _, rfl, rfl, _, rfl, ?_⟩
    refine ite2 (fun h0 => ?_) (fun h0 => ?_)
    · refine ⟨_, rfl, a, _, 0, .int o, rfl, rfl, hP hp, rfl, .inl ⟨_, rfl, _, rfl, _, _, rfl, rfl, hu0, ?_⟩⟩
      refine ⟨_, rfl, a, _, 0, .int o, rfl, rfl, hP hp, rfl, _, rfl, _, _, rfl, rfl, ⟨hu0, by omega⟩, _, rfl, a, _, 0, 0, rfl, rfl, hp, rfl, ?_⟩
      refine ⟨_, rfl, ?_⟩
      refine k _ _ (Int.emod_nonneg _ (by omega)) (Int.emod_lt_of_pos _ hu0) ⟨⟨_, b, c, upd_same, Int.ediv_nonneg ho (by omega), hb0, hb, hc0, by omega⟩⟩ fun x y hx e => ?_
      rw [upd_ne hx]
      exact e
    · have hn' : ¬ (0 < o) := fun z => h0 (decide_eq_true z)
      -- pot[2] = pot[2] + 1
      refine ⟨_, rfl, a, _, 2, .int c, rfl, rfl, hP hp, rfl, _, _, rfl, rfl, _, rfl, a, _, 2, 2, rfl, rfl, hp, rfl, ?_⟩
      have h1 : (upd H a (.lst [.int o, .int b, .int (c + 1)])) a = some (.lst [.int o, .int b, .int (c + 1)]) := upd_same
      -- prime = [..][int(pot[2]) % 5]
      refine ⟨by show (5 : Nat) ≤ sizeLine; decide, fun l hl => ?_⟩
      have hla : a ≠ l := ne_of_none h1 hl
      have h2 : ∀ u, (upd (upd H a (.lst [.int o, .int b, .int (c + 1)])) l u) a = some (.lst [.int o, .int b, .int (c + 1)]) := fun u => by
        rw [upd_ne hla]
        exact h1
      refine ⟨_, rfl, a, _, 2, .int (c + 1), rfl, rfl, hP (h2 _), rfl, .inl ⟨_, rfl, _, _, rfl, rfl, by show (0 : Int) < 5; decide, ?_⟩⟩
      obtain ⟨pr, hpr0, hpr⟩ : ∃ pr : Int, 0 < pr ∧ atI [V.int 2147483647, V.int 2147483629, V.int 2147483587, V.int 2147483579, V.int 2147483563] ((c + 1) % 5) = some (.int pr) := by
        have e1 : 0 ≤ (c + 1) % 5 := Int.emod_nonneg _ (by omega)
        have e2 : (c + 1) % 5 < 5 := Int.emod_lt_of_pos _ (by omega)
        have : (c + 1) % 5 = 0 ∨ (c + 1) % 5 = 1 ∨ (c + 1) % 5 = 2 ∨ (c + 1) % 5 = 3 ∨ (c + 1) % 5 = 4 := by omega
        rcases this with e | e | e | e | e <;> rw [e]
        · exact ⟨2147483647, by decide, rfl⟩
        · exact ⟨2147483629, by decide, rfl⟩
        · exact ⟨2147483587, by decide, rfl⟩
        · exact ⟨2147483579, by decide, rfl⟩
        · exact ⟨2147483563, by decide, rfl⟩
      refine ⟨l, _, _, .int pr, rfl, rfl, SqL.of upd_same, hpr, ?_⟩
      have b1 : (101107 : Int) * (c + 1) * (c + 1) ≤ 101107 * 1000000 * 1000000 := Int.mul_le_mul (Int.mul_le_mul_of_nonneg_left (by omega) (by omega)) (by omega) (by omega) (by omega)
      have b0 : (0 : Int) ≤ 101107 * (c + 1) * (c + 1) := Int.mul_nonneg (by omega) (by omega)
      -- stirred
      refine ⟨_, rfl, a, _, 1, .int b, rfl, rfl, hP (h2 _), rfl, _, rfl, a, _, 2, .int (c + 1), rfl, rfl, hP (h2 _), rfl, _, _, rfl, rfl, .inl ⟨by decide, by decide⟩,
        _, rfl, a, _, 2, .int (c + 1), rfl, rfl, hP (h2 _), rfl, _, _, rfl, rfl, .inr ⟨by omega, by omega⟩, _, _, rfl, rfl, _, _, rfl, rfl, .inl ⟨_, rfl, _, _, rfl, rfl, ⟨by decide, by decide, by omega⟩, .inl ⟨_, rfl, _, rfl, _, _, rfl, rfl, hpr0, ?_⟩⟩⟩
      generalize hz : (b + 101107 * (c + 1) * (c + 1) + 43) ^ (3 : Int).toNat % pr = z
      have z0 : 0 ≤ z := by rw [← hz]; exact Int.emod_nonneg _ (by omega)
      have z1 : z < 2147483648 := by
        have : z < pr := by rw [← hz]; exact Int.emod_lt_of_pos _ hpr0
        have : pr ≤ 2147483647 := by
          have e1 : 0 ≤ (c + 1) % 5 := Int.emod_nonneg _ (by omega)
          have e2 : (c + 1) % 5 < 5 := Int.emod_lt_of_pos _ (by omega)
          have : (c + 1) % 5 = 0 ∨ (c + 1) % 5 = 1 ∨ (c + 1) % 5 = 2 ∨ (c + 1) % 5 = 3 ∨ (c + 1) % 5 = 4 := by omega
          rcases this with e | e | e | e | e <;> rw [e] at hpr <;> (have q : V.int _ = V.int pr := Option.some.inj hpr) <;> (injection q with q) <;> omega
        omega
      refine ⟨_, rfl, _, rfl, .inl ⟨_, rfl, _, _, rfl, rfl, by show (0 : Int) < 10061; decide, _, rfl, a, _, 2, .int (c + 1), rfl, rfl, hP (h2 _), rfl, _, _, rfl, rfl, .inl ⟨by decide, by decide⟩, _, _, rfl, rfl, _, _, rfl, rfl, .inl ⟨by omega, by omega⟩,
        .inl ⟨_, rfl, _, _, rfl, rfl, by show (0 : Int) < 2305843009213693907; decide, ?_⟩⟩⟩
      refine ⟨_, rfl, _, _, rfl, rfl, ⟨by decide, by decide⟩, .inl ⟨_, rfl, _, rfl, _, _, rfl, rfl, hu0, ?_⟩⟩
      refine k _ _ (Int.emod_nonneg _ (by omega)) (Int.emod_lt_of_pos _ hu0) ⟨⟨o, b, c + 1, h2 _, ho, hb0, hb, by omega, by omega⟩⟩ fun x y hx e => ?_
      rw [upd_ne (ne_of_none (H := upd H a (.lst [.int o, .int b, .int (c + 1)])) (by rw [upd_ne hx]; exact e) hl), upd_ne hx]
      exact e
end
section
variable {X : Cx}
def CPowW (i j : Int) : Prop := 0 ≤ j ∧ (Builtin.Int.intBits i : Int) * j ≤ 2 ^ 27
theorem op_powW : OpR X (binaryOp .Pow) (rI CPowW fun i j => .int (i ^ j.toNat)) := opI fun _ _ _ _ _ _ _ hc q => pow_int hc.1 hc.2 q
end
def spPot (K : PySem.W.Frag) : Sp := fun vs H Q _ => ∃ (a : Addr) (ns : List Int) (j : Nat), vs = [.ref a, .int (j : Int)] ∧ SqL K H a (ns.map V.int) ∧ j < 1000 ∧
  ∀ (p : Addr) (H' : Hp), H p = none → Same H H' → Pot H' p 0 → Q (.ref p) H'
abbrev sPot : Stmt := topS 63
theorem scPot : FnScope ["_law_script", "_law_number", "_law_cell", "_law_own", "_law_base"] ["_law_script", "_law_number"] (defScope sPot) := ⟨rfl, rfl, rfl, by decide +kernel, rfl, by decide +kernel, by decide +kernel⟩
section
variable {P : Program} {w : World} {K : PySem.W.Frag} {mg : Str → Option Value} {base : Heap} {f : Addr} {fd : FuncData}
theorem ok_pot (F : FnP K "_law_pot" sPot f fd) (mI : mg "int" = none) (mL : mg "len" = none) (mA : mg "abs" = none) : FnOk P w K mg base CX0 1 f fd ["_law_script", "_law_number"] (spPot K) := by
  refine F.ok scPot (fun vs H Q E h => ?_) (fun cdv A outer s H vs Q E hr h => ?_)
  · obtain ⟨a, ns, j, rfl, _⟩ := h
    rfl
  · obtain ⟨a, ns, j, rfl, hS, hj, k⟩ := h
    refine ⟨_, PSs.nox (Evl.pss_cut (ps_set (i := 2) scPot.nd rfl (Or.inl rfl) (pe_ifExp (pt_cmpR op_lt (pv 1) (pe_callB call_len_seq (by rfl) mL PySem.boot_len (pa_cons (pv 0) pa_nil)) (nomark _))
          (pe_ix ix_list (pv 0) (pv 1) (fun _ _ => rfl)) (pe_op op_add (pe_op op_mul pe_int (pv 1)) pe_int)))
      (pss_cons (ps_set (i := 3) scPot.nd rfl (Or.inl rfl) (pe_op op_mul (pe_op op_mod (pe_callTy call_int1 (by rfl) mI boot_int (pa_cons (pe_callB call_abs (by rfl) mA boot_abs (pa_cons (pv 2) pa_nil)) pa_nil))
          (pe_op op_powW (pe_op op_pow pe_int pe_int) pe_int)) (pe_callTy call_int1 (by rfl) mI boot_int (pa_cons (pe_cmpR op_ge (pe_callB call_abs (by rfl) mA boot_abs (pa_cons (pv 2) pa_nil)) (pe_op op_pow pe_int pe_int) (nomark _)) pa_nil))))
      (pss_cons (ps_set (i := 4) scPot.nd rfl (Or.inl rfl) (pe_op op_add (pe_op op_add (pe_op op_mul (pe_op op_mod (pe_callTy call_int1 (by rfl) mI boot_int (pa_cons (pv 2) pa_nil)) pe_int) pe_int) (pe_op op_mul (pe_op op_mul pe_int (pv 1)) (pv 1))) pe_int))
      (pss_one (ps_ret (pe_lst (pa_cons (pv 3) (pa_cons (pe_op op_mod (pe_callTy call_int1 (by rfl) mI boot_int (pa_cons (pv 4) pa_nil)) pe_int) (pa_cons pe_int pa_nil))))))))), ?_⟩
    refine ⟨fun σ' H' => H' = H ∧ ∃ c : Int, σ' = [some (.ref a), some (.int (j : Int)), some (.int c), none, none], ?_, ?_⟩
    · refine ⟨_, rfl, _, rfl, a, _, rfl, .inl hS, _, _, rfl, rfl, _, rfl, ?_⟩
      refine ite2 (fun h0 => ?_) (fun h0 => ?_)
      · have hl : j < (ns.map V.int).length := by
          have := of_decide_eq_true h0
          omega
        have e : (ns.map V.int)[j]? = some (.int (ns.getD j 0)) := by
          rw [List.length_map] at hl
          rw [List.getElem?_map, List.getElem?_eq_getElem hl, List.getD_eq_getElem?_getD, List.getElem?_eq_getElem hl]
          rfl
        exact ⟨_, rfl, _, rfl, a, _, _, _, rfl, rfl, hS, atI_nat e, rfl, _, rfl⟩
      · exact ⟨_, rfl, _, _, rfl, rfl, .inl ⟨by decide, by decide⟩, _, _, rfl, rfl, rfl, _, rfl⟩
    · rintro σ' H' ⟨hH, c, hσ⟩
      subst hσ
      subst hH
      have big : (0 : Int) < (10 ^ (60 : Int).toNat) ^ (5 : Int).toNat := by decide +kernel
      refine ⟨_, rfl, _, rfl, .inl ⟨_, rfl, _, _, rfl, rfl, ⟨by decide, by decide, by decide⟩, _, _, rfl, rfl, ⟨by decide, by decide +kernel⟩, _, _, rfl, rfl, big, ?_⟩⟩
      refine ⟨_, rfl, _, rfl, _, _, rfl, rfl, ⟨by decide, by decide, by decide⟩, _, _, rfl, rfl, .inr ⟨_, rfl, ?_⟩⟩
      generalize hk : decide ((10 : Int) ^ (18 : Int).toNat ≤ if c < 0 then -c else c) = kk
      generalize ho : (if c < 0 then -c else c) % (10 ^ (60 : Int).toNat) ^ (5 : Int).toNat = oo
      have o0 : 0 ≤ oo := by rw [← ho]; exact Int.emod_nonneg _ (Int.ne_of_gt big)
      refine ⟨_, _, rfl, rfl, .inr (by cases kk <;> exact ⟨by decide, by decide⟩), ?_⟩
      have o1 : 0 ≤ oo * (if kk = true then 1 else 0) := by cases kk <;> simp <;> omega
      have c1 : 0 ≤ c % 2305843009213693951 := Int.emod_nonneg _ (by decide)
      have c2 : c % 2305843009213693951 < 2305843009213693951 := Int.emod_lt_of_pos _ (by decide)
      refine ⟨_, rfl, .inl ⟨_, rfl, _, _, rfl, rfl, by show (0 : Int) < 2305843009213693951; decide, _, _, rfl, rfl, .inl ⟨by omega, by omega⟩, _, rfl, _, _, rfl, rfl, .inl ⟨by decide, by decide⟩, _, rfl, _, _, rfl, rfl, .inr ⟨by omega, by omega⟩, _, _, rfl, rfl, _, _, rfl, rfl, ?_⟩⟩
      refine ⟨_, rfl, _, rfl, .inl ⟨_, rfl, _, _, rfl, rfl, by show (0 : Int) < 2305843009213693921; decide, ?_⟩⟩
      refine ⟨by show (3 : Nat) ≤ sizeLine; decide, fun p hp => ?_⟩
      refine k p _ hp (fun b o e => ?_) ⟨⟨_, _, 0, upd_same, (by rw [ho]; exact o1), Int.emod_nonneg _ (by decide), ?_, by decide, by decide⟩⟩
      · rw [upd_ne (ne_of_none e hp)]
        exact e
      · have := Int.emod_lt_of_pos (c % 2305843009213693951 * 68023 + 7103 * (j : Int) * (j : Int) + 71) (b := 2305843009213693921) (by decide)
        omega
end
end Wd

namespace Fd
open PySem PySem.Spec PyProof.Rows L2 Wd
inductive D where
  | non | bl (b : Bool) | int (i : Int) | str (s : Str)
  | tup (xs : List D) | lst (xs : List D)
  | dk (ks : List Key) (vs : List D) | dt (ks : List (List Key)) (vs : List D)
  | ins (c : Nat) (ds : List D)
  /-- a caught exception of the class number n, with its value -/
  | exc (n : Nat) (d : D)
  /-- an instance of a class with slots -/
  | slt (c : Nat) (ds : List D)
  /-- a dict with tuples of any depth as keys -/
  | nk (ks vs : List D)
  /-- what is known by its address alone -/
  | adr (a : Addr)
structure Cn where
  K : PySem.W.Frag
  cl : Nat → Addr
  sch : Nat → List Str
  xc : Nat → Addr
  tb : List (Addr × Str) := []
  hs : NestedKey → Int := fun _ => 0
  /-- which classes have slots; where their attributes stand -/
  sl : Nat → Bool := fun _ => false
  si : Nat → Nat → Nat := fun _ j => j
mutual
def toNK : D → Option NestedKey
  | .non => some .none
  | .int i => some (.num i)
  | .str s => some (.text s)
  | .tup ds => (toNKs ds).map .tup
  | _ => none
def toNKs : List D → Option (List NestedKey)
  | [] => some []
  | d :: ds => (toNK d).bind fun k => (toNKs ds).map fun ks => k :: ks
end
structure NkAll (ks : List D) (xs : List NKV) : Prop where
  ks : ks.map toNK = xs.map fun x => some x.1
  dp : ∀ x ∈ xs, x.1.depth ≤ 8
def KT (K : PySem.W.Frag) (a : Addr) (vs : List V) : Prop := ∃ (o : Obj) (its : Array Value) (n : Nat), K.lookup a = some o ∧ o.cls = .type "tuple" ∧ o.data = .seq its n ∧ its.size ≤ sizeLine ∧ Vals vs its.toList
def StatOk (ds : List D) : Prop := ∀ a i, ds ≠ [a, .int i]
abbrev ExC (C dx a : Addr) : HO := .ext fun h => ∃ (oe : Obj) (vs : Array Value), h.get? a = some oe ∧ Zc (.ref C) (some dx) oe ∧ oe.data = .fields vs
def SltAt (N : Cn) (O : Addr → Prop) (H : Hp) (a : Addr) (c : Nat) (us : List V) : Prop := ∃ dx vs, dx ≠ a ∧ ¬ O dx ∧ H a = some (SlX.SlO a (N.cl c) dx vs) ∧ H dx = some (.xd []) ∧ ∀ j u, us[j]? = some u → vs[N.si c j]? = some (some u)
mutual
inductive Rep (N : Cn) (O : Addr → Prop) (H : Hp) : V → D → Prop
  | non : Rep N O H .non .non
  | bl (b : Bool) : Rep N O H (.bl b) (.bl b)
  | int (i : Int) : Rep N O H (.int i) (.int i)
  | str (s : Str) : Rep N O H (.str s) (.str s)
  | tup {a : Addr} {vs : List V} {ds : List D} : H a = some (.tup vs) → Reps N O H vs ds → Rep N O H (.ref a) (.tup ds)
  | tupK {a : Addr} {vs : List V} {ds : List D} : KT N.K a vs → StatOk ds → Reps N O H vs ds → Rep N O H (.ref a) (.tup ds)
  | lst {a : Addr} {vs : List V} {ds : List D} : ¬ O a → H a = some (.lst vs) → Reps N O H vs ds → Rep N O H (.ref a) (.lst ds)
  | dk {a : Addr} {kvs : List (Key × V)} {ks : List Key} {ds : List D} : ¬ O a → Rd H a (.dK kvs) → kvs.map (·.1) = ks → Reps N O H (kvs.map (·.2)) ds → Rep N O H (.ref a) (.dk ks ds)
  | dt {a : Addr} {kvs : List (List Key × V)} {ks : List (List Key)} {ds : List D} : ¬ O a → Rd H a (.dT kvs) → kvs.map (·.1) = ks → Reps N O H (kvs.map (·.2)) ds → Rep N O H (.ref a) (.dt ks ds)
  | ins {a dx : Addr} {fs : List (Str × V)} {c : Nat} {ds : List D} : ¬ O a → H a = some (.ins (N.cl c) dx fs) → fs.map (·.1) = N.sch c → Reps N O H (fs.map (·.2)) ds → Rep N O H (.ref a) (.ins c ds)
  | exc {a dx : Addr} {v : V} {n : Nat} {d : D} : ¬ O a → ¬ O dx → H a = some (ExC (N.xc n) dx a) → H dx = some (.xd [("value", v)]) → Rep N O H v d → Rep N O H (.ref a) (.exc n d)
  | slt {a : Addr} {us : List V} {c : Nat} {ds : List D} : ¬ O a → SltAt N O H a c us → us.length = (N.sch c).length → Reps N O H us ds → Rep N O H (.ref a) (.slt c ds)
  | nkd {a : Addr} {xs : List NKV} {ks vs : List D} : ¬ O a → H a = some (DkN N.hs a xs) → NkAll ks xs → Reps N O H (xs.map fun x => V.ref x.2.1) ks → Reps N O H (xs.map (·.2.2)) vs → Rep N O H (.ref a) (.nk ks vs)
  | adr (a : Addr) : Rep N O H (.ref a) (.adr a)
inductive Reps (N : Cn) (O : Addr → Prop) (H : Hp) : List V → List D → Prop
  | nil : Reps N O H [] []
  | cons {v : V} {d : D} {vs : List V} {ds : List D} : Rep N O H v d → Reps N O H vs ds → Reps N O H (v :: vs) (d :: ds)
end
def IsT : HO → Prop
  | .tup _ => True
  | _ => False
abbrev NT (o : HO) : Prop := ∀ ps, o ≠ .tbl ps
theorem nt_t {o : HO} (h : IsT o) : NT o := fun ps z => by
  subst z
  exact h
structure Ext (O : Addr → Prop) (H : Hp) (O' : Addr → Prop) (H' : Hp) : Prop where
  keep : ∀ a o, H a = some o → NT o → ¬ O a → H' a = some o
  tup : ∀ a o, H a = some o → IsT o → H' a = some o
  own : ∀ a o, H a = some o → NT o → ¬ O a → ¬ O' a
theorem Ext.refl {O : Addr → Prop} {H : Hp} : Ext O H O H := ⟨fun _ _ e _ _ => e, fun _ _ e _ => e, fun _ _ _ _ h => h⟩
theorem Ext.trans {O O1 O2 : Addr → Prop} {H H1 H2 : Hp} (a : Ext O H O1 H1) (b : Ext O1 H1 O2 H2) : Ext O H O2 H2 where
  keep := fun x o e t h => b.keep x o (a.keep x o e t h) t (a.own x o e t h)
  tup := fun x o e h => b.tup x o (a.tup x o e h) h
  own := fun x o e t h => b.own x o (a.keep x o e t h) t (a.own x o e t h)
theorem Ext.same {O : Addr → Prop} {H H' : Hp} (s : Same H H') : Ext O H O H' := ⟨fun _ _ e _ _ => s _ _ e, fun _ _ e _ => s _ _ e, fun _ _ _ _ h => h⟩
theorem Ext.rd {O O' : Addr → Prop} {H H' : Hp} {a : Addr} {u : HO} (x : Ext O H O' H') (t : NT u) (n : ¬ O a) (h : Rd H a u) : Rd H' a u ∧ ¬ O' a := by
  rcases h with h | ⟨o, h⟩
  · exact ⟨.inl (x.keep _ _ h t n), x.own _ _ h t n⟩
  · exact ⟨.inr ⟨o, x.keep _ _ h nofun n⟩, x.own _ _ h nofun n⟩
section
variable {N : Cn} {O O' : Addr → Prop} {H H' : Hp}
theorem ntS {a C dx : Addr} {vs : List (Option V)} : NT (SlX.SlO a C dx vs) := fun ps z => by
  unfold SlX.SlO at z
  cases z
theorem SltAt.here {a : Addr} {c : Nat} {us : List V} (h : SltAt N O H a c us) : ∃ o, H a = some o ∧ NT o ∧ ¬ IsT o := by
  obtain ⟨dx, vs, _, _, h, _⟩ := h
  exact ⟨_, h, ntS, fun z => z⟩
theorem SltAt.ext {a : Addr} {c : Nat} {us : List V} (h : SltAt N O H a c us) (x : Ext O H O' H') (k : ∀ o, H a = some o → NT o → H' a = some o) : SltAt N O' H' a c us := by
  obtain ⟨dx, vs, ne, no, h1, h2, h3⟩ := h
  exact ⟨dx, vs, ne, x.own _ _ h2 nofun no, k _ h1 ntS, x.keep _ _ h2 nofun no, h3⟩
theorem SltAt.notO {a : Addr} {c : Nat} {us : List V} (h : SltAt N O H a c us) (x : Ext O H O' H') (n : ¬ O a) : ¬ O' a := by
  obtain ⟨o, h, t, _⟩ := h.here
  exact x.own _ _ h t n
mutual
theorem Rep.ext (x : Ext O H O' H') : ∀ {v : V} {d : D}, Rep N O H v d → Rep N O' H' v d
  | _, _, .non => .non
  | _, _, .bl b => .bl b
  | _, _, .int i => .int i
  | _, _, .str s => .str s
  | _, _, .tup h r => .tup (x.tup _ _ h trivial) (Reps.ext x r)
  | _, _, .tupK h s r => .tupK h s (Reps.ext x r)
  | _, _, .lst n h r => .lst (x.own _ _ h nofun n) (x.keep _ _ h nofun n) (Reps.ext x r)
  | _, _, .dk n h e r => .dk (x.rd (by exact nofun) n h).2 (x.rd (by exact nofun) n h).1 e (Reps.ext x r)
  | _, _, .dt n h e r => .dt (x.rd (by exact nofun) n h).2 (x.rd (by exact nofun) n h).1 e (Reps.ext x r)
  | _, _, .ins n h e r => .ins (x.own _ _ h nofun n) (x.keep _ _ h nofun n) e (Reps.ext x r)
  | _, _, .exc n n2 h h2 r => .exc (x.own _ _ h nofun n) (x.own _ _ h2 nofun n2) (x.keep _ _ h nofun n) (x.keep _ _ h2 nofun n2) (Rep.ext x r)
  | _, _, .slt n h e r => .slt (h.notO x n) (h.ext x fun o eo t => x.keep _ _ eo t n) e (Reps.ext x r)
  | _, _, .nkd n h e r q => .nkd (x.own _ _ h nofun n) (x.keep _ _ h nofun n) e (Reps.ext x r) (Reps.ext x q)
  | _, _, .adr a => .adr a
theorem Reps.ext (x : Ext O H O' H') : ∀ {vs : List V} {ds : List D}, Reps N O H vs ds → Reps N O' H' vs ds
  | _, _, .nil => .nil
  | _, _, .cons a r => .cons (Rep.ext x a) (Reps.ext x r)
end
theorem Rep.sqt {v : V} {ds : List D} (h : Rep N O H v (.tup ds)) : ∃ a vs, v = .ref a ∧ SqT N.K H a vs ∧ Reps N O H vs ds := by
  cases h with
  | tup h r => exact ⟨_, _, rfl, .inl (.inl h), r⟩
  | tupK h s r => exact ⟨_, _, rfl, .inr h, r⟩
theorem Rep.sqtX {v : V} {ds : List D} (h : Rep N O H v (.tup ds)) : ∃ a vs, v = .ref a ∧ Reps N O H vs ds ∧ ∀ O' H', Ext O H O' H' → SqT N.K H' a vs := by
  cases h with
  | tup h r => exact ⟨_, _, rfl, r, fun O' H' x => .inl (.inl (x.tup _ _ h trivial))⟩
  | tupK h s r => exact ⟨_, _, rfl, r, fun O' H' x => .inr h⟩
theorem Reps.length : ∀ {vs : List V} {ds : List D}, Reps N O H vs ds → vs.length = ds.length
  | _, _, .nil => rfl
  | _, _, .cons _ r => congrArg (· + 1) r.length
theorem Reps.app : ∀ {vs us : List V} {ds es : List D}, Reps N O H vs ds → Reps N O H us es → Reps N O H (vs ++ us) (ds ++ es)
  | _, _, _, _, .nil, s => s
  | _, _, _, _, .cons a r, s => .cons a (Reps.app r s)
theorem Reps.get : ∀ {vs : List V} {ds : List D} {i : Nat} {v : V}, Reps N O H vs ds → vs[i]? = some v → ∃ d, ds[i]? = some d ∧ Rep N O H v d
  | _, _, _, _, .nil, e => by simp at e
  | _, _, 0, _, .cons a _, e => by
    simp at e
    subst e
    exact ⟨_, rfl, a⟩
  | _, _, i + 1, v, .cons _ r, e => by
    obtain ⟨d, h1, h2⟩ := Reps.get (i := i) (v := v) r (by simpa using e)
    exact ⟨d, by simpa using h1, h2⟩
theorem Reps.get' : ∀ {vs : List V} {ds : List D} {i : Nat} {d : D}, Reps N O H vs ds → ds[i]? = some d → ∃ v, vs[i]? = some v ∧ Rep N O H v d
  | _, _, _, _, .nil, e => by simp at e
  | _, _, 0, _, .cons a _, e => by
    simp at e
    subst e
    exact ⟨_, rfl, a⟩
  | _, _, i + 1, d, .cons _ r, e => by
    obtain ⟨v, h1, h2⟩ := Reps.get' (i := i) (d := d) r (by simpa using e)
    exact ⟨v, by simpa using h1, h2⟩
theorem Reps.take : ∀ {vs : List V} {ds : List D} (n : Nat), Reps N O H vs ds → Reps N O H (vs.take n) (ds.take n)
  | _, _, 0, _ => .nil
  | _, _, _ + 1, .nil => .nil
  | _, _, n + 1, .cons a r => .cons a (Reps.take n r)
theorem Reps.drop : ∀ {vs : List V} {ds : List D} (n : Nat), Reps N O H vs ds → Reps N O H (vs.drop n) (ds.drop n)
  | _, _, 0, r => r
  | _, _, _ + 1, .nil => .nil
  | _, _, n + 1, .cons _ r => Reps.drop n r
theorem Reps.set {x : V} {d : D} (h : Rep N O H x d) : ∀ {vs : List V} {ds : List D} (i : Nat), Reps N O H vs ds → Reps N O H (vs.set i x) (ds.set i d)
  | _, _, _, .nil => .nil
  | _, _, 0, .cons _ r => .cons h r
  | _, _, i + 1, .cons a r => .cons a (Reps.set h i r)
theorem Reps.snoc {v : V} {d : D} {vs : List V} {ds : List D} (r : Reps N O H vs ds) (h : Rep N O H v d) : Reps N O H (vs ++ [v]) (ds ++ [d]) := r.app (.cons h .nil)
theorem Ext.less (h : ∀ a, O' a → O a) : Ext O H O' H := ⟨fun _ _ e _ _ => e, fun _ _ e _ => e, fun _ _ _ _ n z => n (h _ z)⟩
end
section
variable {N : Cn} {O O' : Addr → Prop} {H H' : Hp}
mutual
theorem Rep.nk : ∀ {v : V} {d : D}, Rep N O H v d → ∀ {k : NestedKey}, toNK d = some k → NkX N.K H v k
  | _, _, .non, _, e => by
    cases e
    exact .non
  | _, _, .bl b, _, e => by cases e
  | _, _, .int i, _, e => by
    cases e
    exact .int i
  | _, _, .str s, _, e => by
    cases e
    exact .str s
  | _, _, .tup (ds := ds) h r, _, e => by
    obtain ⟨ks, e1, rfl⟩ := Option.map_eq_some_iff.mp (show (toNKs ds).map NestedKey.tup = some _ from e)
    exact .tup (.inl (.inl h)) (Reps.nk r e1)
  | _, _, .tupK (ds := ds) h s r, _, e => by
    obtain ⟨ks, e1, rfl⟩ := Option.map_eq_some_iff.mp (show (toNKs ds).map NestedKey.tup = some _ from e)
    exact .tup (.inr h) (Reps.nk r e1)
  | _, _, .lst _ _ _, _, e => by cases e
  | _, _, .dk _ _ _ _, _, e => by cases e
  | _, _, .dt _ _ _ _, _, e => by cases e
  | _, _, .ins _ _ _ _, _, e => by cases e
  | _, _, .exc _ _ _ _ _, _, e => by cases e
  | _, _, .slt _ _ _ _, _, e => by cases e
  | _, _, .nkd _ _ _ _ _, _, e => by cases e
  | _, _, .adr _, _, e => by cases e
theorem Reps.nk : ∀ {vs : List V} {ds : List D}, Reps N O H vs ds → ∀ {ks : List NestedKey}, toNKs ds = some ks → NkXs N.K H vs ks
  | _, _, .nil, _, e => by
    cases e
    exact .nil
  | _, _, .cons (d := d) (ds := ds) a r, _, e => by
    obtain ⟨k, e1, e2⟩ := Option.bind_eq_some_iff.mp (show ((toNK d).bind fun k => (toNKs ds).map fun ks => k :: ks) = some _ from e)
    obtain ⟨ks, e3, rfl⟩ := Option.map_eq_some_iff.mp e2
    exact .cons (Rep.nk a e1) (Reps.nk r e3)
end
inductive KvRep (N : Cn) (O : Addr → Prop) (H : Hp) : List NKV → List (D × D) → Prop
  | nil : KvRep N O H [] []
  | cons {k : NestedKey} {b : Addr} {v : V} {xs : List NKV} {dk dv : D} {kvs : List (D × D)} : Rep N O H (.ref b) dk → toNK dk = some k → k.depth ≤ 8 → Rep N O H v dv → KvRep N O H xs kvs → KvRep N O H ((k, b, v) :: xs) ((dk, dv) :: kvs)
theorem KvRep.ext (x : Ext O H O' H') : ∀ {xs : List NKV} {kvs : List (D × D)}, KvRep N O H xs kvs → KvRep N O' H' xs kvs
  | _, _, .nil => .nil
  | _, _, .cons a e h b r => .cons (a.ext x) e h (b.ext x) (KvRep.ext x r)
end
inductive Sl where
  /-- nothing is known of it -/
  | no
  | val (d : D)
  /-- a list that this def alone knows -/
  | own (ds : List D)
  /-- the pot of draws, after at most n of them -/
  | pot (a : Addr) (n : Nat)
  /-- an instance that is being made: its first attributes -/
  | obj (a : Addr) (c : Nat) (ds : List D)
  /-- a dict that this def alone knows: keys and values in the order of insertion -/
  | odk (kvs : List (D × D))
  /-- a dict with numbers and texts as keys, at a, that may be lent -/
  | odi (a : Addr) (kvs : List (Key × D))
abbrev Env := List Sl
abbrev XP := Nat → D → Prop
structure Zd where
  H0 : Hp
  O0 : Addr → Prop
  Mu : Addr → Prop
  E : XP
structure Cd extends Cn where
  ek : XK
instance : Coe Cd Cn := ⟨Cd.toCn⟩
def XRep (N : Cn) (O : Addr → Prop) (H : Hp) (cls : Value) (dx : Option Addr) (n : Nat) (d : D) : Prop := ∃ a v, cls = .ref (N.xc n) ∧ dx = some a ∧ ¬ O a ∧ H a = some (.xd [("value", v)]) ∧ Rep N O H v d
theorem XRep.ext {N : Cn} {O O' : Addr → Prop} {H H' : Hp} {cls : Value} {dx : Option Addr} {n : Nat} {d : D} (x : Ext O H O' H') (h : XRep N O H cls dx n d) : XRep N O' H' cls dx n d := by
  obtain ⟨a, v, e1, e2, no, h, r⟩ := h
  exact ⟨a, v, e1, e2, x.own _ _ h nofun no, x.keep _ _ h nofun no, r.ext x⟩
abbrev NT' (N : Cn) (o : HO) : Prop := N.tb ≠ [] → NT o
structure SmT (N : Cn) (H H' : Hp) : Prop where
  st : ∀ a o, H a = some o → NT' N o → H' a = some o
  tb : LamX.Tabs N.tb H'
theorem tabs_but {T : List (Addr × Str)} {H H' : Hp} {a : Addr} (t : LamX.Tabs T H) (hk : ∀ b o, b ≠ a → H b = some o → H' b = some o) (na : ∀ ps, H a ≠ some (.tbl ps)) (nc : ∀ φ, H a ≠ some (.ext φ)) : LamX.Tabs T H' := fun p hp => by
  obtain ⟨ps, h1, h2, h3⟩ := t p hp
  refine ⟨ps, hk _ _ (fun e => na ps (e ▸ h1)) h1, h2, fun pos cv hc => ?_⟩
  obtain ⟨c, e1, e2⟩ := h3 pos cv hc
  exact ⟨c, e1, hk _ _ (fun e => nc _ (e ▸ e2)) e2⟩
def codeHp (c : Addr) (q : Str) : Heap := ⟨Array.replicate (c + 1) { cls := .none, data := .fields #[.none, .str q default] }, {}⟩
theorem codeHp_get (c : Addr) (q : Str) : (codeHp c q).get? c = some { cls := .none, data := .fields #[.none, .str q default] } := by
  unfold codeHp Heap.get?
  rw [Array.getElem?_replicate, if_pos (Nat.lt_succ_self c)]
theorem no_code {φ : Heap → Prop} {a : Addr} (h : ∀ h : Heap, φ h → ∀ o vs, h.get? a = some o → o.data ≠ .fields vs) : ∀ q, HO.ext φ ≠ LamX.CodeO a q := fun q e => by
  have e2 := HO.ext.inj e
  have z : φ (codeHp a q) := by
    rw [e2]
    exact ⟨_, _, default, codeHp_get a q, rfl, rfl⟩
  exact h _ z _ _ (codeHp_get a q) rfl
theorem slO_nc {a C dx : Addr} {vs : List (Option V)} : ∀ q, SlX.SlO a C dx vs ≠ LamX.CodeO a q := no_code fun h ⟨sl, e, _⟩ o' us e' => by
  rw [e] at e'
  cases e'
  exact nofun
theorem SmT.same {N : Cn} {H H' : Hp} (t : LamX.Tabs N.tb H) (s : Same H H') : SmT N H H' := ⟨fun a o e _ => s a o e, t.ext s⟩
theorem SmT.trans {N : Cn} {H H1 H2 : Hp} (a : SmT N H H1) (b : SmT N H1 H2) : SmT N H H2 := ⟨fun x o e n => b.st x o (a.st x o e n) n, b.tb⟩
def XqT (N : Cd) (O : Addr → Prop) (H : Hp) (E : XP) : Prop := ∀ cls dx H' n d, SmT N H H' → XRep N O H' cls dx n d → E n d → N.ek cls dx H'
def XOk (N : Cd) (Z : Zd) : Prop := ∀ O' H' cls dx n d, (∀ a, Z.O0 a → O' a) → (∀ a, O' a → ∃ o, H' a = some o ∧ NT o) → (∀ a o, Z.H0 a = some o → NT' N o → ¬ Z.Mu a → H' a = some o) → LamX.Tabs N.tb H' → XRep N O' H' cls dx n d → Z.E n d → N.ek cls dx H'
def isOwn : Sl → Bool
  | .own _ => true
  | .pot _ _ => true
  | .obj _ _ _ => true
  | .odk _ => true
  | .odi _ _ => true
  | _ => false
def Zd.fre (N : Cn) (Z : Zd) (a : Addr) : Prop := ∀ o, Z.H0 a = some o → NT' N o → Z.Mu a
def ObjAt (N : Cn) (O : Addr → Prop) (H : Hp) (a : Addr) (c : Nat) (us : List V) : Prop := (N.sl c = false ∧ ∃ dx fs, H a = some (.ins (N.cl c) dx fs) ∧ fs.map (·.1) = (N.sch c).take us.length ∧ fs.map (·.2) = us) ∨ (N.sl c = true ∧ SltAt N O H a c us)
theorem ObjAt.here {N : Cn} {O : Addr → Prop} {H : Hp} {a : Addr} {c : Nat} {us : List V} (h : ObjAt N O H a c us) : ∃ o, H a = some o ∧ NT o ∧ ¬ IsT o := by
  rcases h with ⟨_, dx, fs, h, _⟩ | ⟨_, h⟩
  · exact ⟨_, h, nofun, fun z => z⟩
  · exact h.here
theorem ObjAt.nc {N : Cn} {O : Addr → Prop} {H : Hp} {a : Addr} {c : Nat} {us : List V} {o : HO} (h : ObjAt N O H a c us) (e : H a = some o) : ∀ q, o ≠ LamX.CodeO a q := fun q => by
  rcases h with ⟨_, dx, fs, h, _⟩ | ⟨_, dx, vs, _, _, h, _⟩
  · rw [h] at e
    cases e
    exact nofun
  · rw [h] at e
    cases e
    exact slO_nc q
theorem ObjAt.ext {N : Cn} {O O' : Addr → Prop} {H H' : Hp} {a : Addr} {c : Nat} {us : List V} (h : ObjAt N O H a c us) (x : Ext O H O' H') (k : ∀ o, H a = some o → NT o → H' a = some o) : ObjAt N O' H' a c us := by
  rcases h with ⟨e, dx, fs, h, r⟩ | ⟨e, h⟩
  · exact .inl ⟨e, dx, fs, k _ h nofun, r⟩
  · exact .inr ⟨e, h.ext x k⟩
structure KvI (N : Cn) (O : Addr → Prop) (H : Hp) (us : List (Key × V)) (kvs : List (Key × D)) : Prop where
  ks : us.map (·.1) = kvs.map (·.1)
  vs : Reps N O H (us.map (·.2)) (kvs.map (·.2))
theorem KvI.ext {N : Cn} {O O' : Addr → Prop} {H H' : Hp} {us : List (Key × V)} {kvs : List (Key × D)} (x : Ext O H O' H') (h : KvI N O H us kvs) : KvI N O' H' us kvs := ⟨h.ks, h.vs.ext x⟩
def Mine (N : Cn) (Z : Zd) (O : Addr → Prop) (a : Addr) : Prop := O a ∧ ¬ Z.O0 a ∧ Z.fre N a
def SlotOk (N : Cn) (Z : Zd) (O : Addr → Prop) (H : Hp) (v : Option V) : Sl → Prop
  | .no => True
  | .val d => ∃ x, v = some x ∧ Rep N O H x d
  | .own ds => ∃ a vs, v = some (.ref a) ∧ Mine N Z O a ∧ H a = some (.lst vs) ∧ Reps N O H vs ds
  | .pot a n => v = some (.ref a) ∧ (O a ∧ Z.fre N a) ∧ Pot H a n
  | .obj a c ds => ∃ us, v = some (.ref a) ∧ Mine N Z O a ∧ ObjAt N O H a c us ∧ Reps N O H us ds
  | .odk kvs => ∃ a xs, v = some (.ref a) ∧ Mine N Z O a ∧ H a = some (DkN N.hs a xs) ∧ KvRep N O H xs kvs
  | .odi a kvs => v = some (.ref a) ∧ (O a ∧ Z.fre N a) ∧ ∃ us, H a = some (.dK us) ∧ KvI N O H us kvs
structure Sim (N : Cd) (Z : Zd) (O : Addr → Prop) (ρ : Env) (σ : L2.St) (H : Hp) : Prop where
  xk : XOk N Z
  tab : LamX.Tabs N.tb H
  len : ρ.length = σ.length
  slot : ∀ (i : Nat) (s : Sl) (v : Option V), ρ[i]? = some s → σ[i]? = some v → SlotOk N Z O H v s
  dist : ∀ (i j : Nat) (s t : Sl) (a : Addr), i ≠ j → ρ[i]? = some s → ρ[j]? = some t → isOwn s = true → isOwn t = true → σ[i]? = some (some (.ref a)) → σ[j]? = some (some (.ref a)) → False
  o0 : ∀ a, Z.O0 a → O a
  own : ∀ a, O a → ∃ o, H a = some o ∧ NT o
  keep : ∀ a o, Z.H0 a = some o → NT' N o → ¬ Z.Mu a → H a = some o
theorem Sim.dom {N : Cd} {Z : Zd} {O : Addr → Prop} {ρ : Env} {σ : L2.St} {H : Hp} (S : Sim N Z O ρ σ H) : ∀ a, O a → H a ≠ none := fun a h => by
  obtain ⟨o, e, _⟩ := S.own a h
  rw [e]
  exact nofun
theorem Ext.smt {N : Cn} {O : Addr → Prop} {H H' : Hp} (s : SmT N H H') : Ext O H O H' := ⟨fun a u e t _ => s.st a u e fun _ => t, fun a u e it => s.st a u e fun _ => nt_t it, fun _ _ _ _ h => h⟩
theorem SlotOk.smt {N : Cn} {Z : Zd} {O : Addr → Prop} {H H' : Hp} {v : Option V} {s : Sl} (x : SmT N H H') (h : SlotOk N Z O H v s) : SlotOk N Z O H' v s := by
  have y : Ext O H O H' := Ext.smt x
  cases s with
  | no => trivial
  | val d =>
    obtain ⟨z, e, r⟩ := h
    exact ⟨z, e, r.ext y⟩
  | own ds =>
    obtain ⟨a, vs, e, m, h, r⟩ := h
    exact ⟨a, vs, e, m, x.st _ _ h (fun _ => nofun), r.ext y⟩
  | pot a n =>
    obtain ⟨e, m, ⟨o, b, c, h, r⟩⟩ := h
    exact ⟨e, m, ⟨o, b, c, x.st _ _ h (fun _ => nofun), r⟩⟩
  | obj a c ds =>
    obtain ⟨us, e, m, h, r⟩ := h
    exact ⟨us, e, m, h.ext y fun o eo t => x.st _ _ eo fun _ => t, r.ext y⟩
  | odk ds =>
    obtain ⟨a, vs, e, m, h, r⟩ := h
    exact ⟨a, vs, e, m, x.st _ _ h (fun _ => nofun), r.ext y⟩
  | odi b ds =>
    obtain ⟨e, m, us, h, r⟩ := h
    exact ⟨e, m, us, x.st _ _ h (fun _ => nofun), r.ext y⟩
theorem SlotOk.dict {N : Cn} {Z : Zd} {O : Addr → Prop} {H : Hp} {v : Option V} {a : Addr} {c : Nat} {ds : List D} (ns : N.sl c = false) (h : SlotOk N Z O H v (.obj a c ds)) : ∃ dx fs, v = some (.ref a) ∧ Mine N Z O a ∧ H a = some (.ins (N.cl c) dx fs) ∧ fs.map (·.1) = (N.sch c).take ds.length ∧ Reps N O H (fs.map (·.2)) ds := by
  obtain ⟨us, e, m, h, r⟩ := h
  rcases h with ⟨_, dx, fs, h, q, eu⟩ | ⟨e, _⟩
  · subst eu
    rw [r.length] at q
    exact ⟨dx, fs, e, m, h, q, r⟩
  · rw [ns] at e
    cases e
theorem SlotOk.of_dict {N : Cn} {Z : Zd} {O : Addr → Prop} {H : Hp} {v : Option V} {a : Addr} {c : Nat} {ds : List D} (ns : N.sl c = false) (h : ∃ dx fs, v = some (.ref a) ∧ Mine N Z O a ∧ H a = some (.ins (N.cl c) dx fs) ∧ fs.map (·.1) = (N.sch c).take ds.length ∧ Reps N O H (fs.map (·.2)) ds) : SlotOk N Z O H v (.obj a c ds) := by
  obtain ⟨dx, fs, e, m, h, q, r⟩ := h
  exact ⟨_, e, m, .inl ⟨ns, dx, fs, h, by rw [r.length]; exact q, rfl⟩, r⟩
theorem SlotOk.slots {N : Cn} {Z : Zd} {O : Addr → Prop} {H : Hp} {v : Option V} {a : Addr} {c : Nat} {ds : List D} (ns : N.sl c = true) (h : SlotOk N Z O H v (.obj a c ds)) : ∃ us, v = some (.ref a) ∧ Mine N Z O a ∧ SltAt N O H a c us ∧ Reps N O H us ds := by
  obtain ⟨us, e, m, h, r⟩ := h
  rcases h with ⟨e, _⟩ | ⟨_, h⟩
  · rw [ns] at e
    cases e
  · exact ⟨us, e, m, h, r⟩
theorem Sim.smt {N : Cd} {Z : Zd} {O : Addr → Prop} {ρ : Env} {σ : L2.St} {H H' : Hp} (S : Sim N Z O ρ σ H) (x : SmT N H H') : Sim N Z O ρ σ H' where
  len := S.len
  slot := fun i s v h1 h2 => (S.slot i s v h1 h2).smt x
  dist := S.dist
  xk := S.xk
  tab := x.tb
  o0 := S.o0
  own := fun a h => by
    obtain ⟨o, e, t⟩ := S.own a h
    exact ⟨o, x.st a o e (fun _ => t), t⟩
  keep := fun a o h t n => x.st _ _ (S.keep a o h t n) t
theorem Sim.same {N : Cd} {Z : Zd} {O : Addr → Prop} {ρ : Env} {σ : L2.St} {H H' : Hp} (S : Sim N Z O ρ σ H) (x : Same H H') : Sim N Z O ρ σ H' := S.smt (SmT.same S.tab x)
theorem Sim.ext {N : Cd} {Z : Zd} {O : Addr → Prop} {ρ : Env} {σ : L2.St} {H H' : Hp} (S : Sim N Z O ρ σ H) (x : SmT N H H') : Ext O H O H' := Ext.smt x
theorem Sim.set {N : Cd} {Z : Zd} {O : Addr → Prop} {ρ : Env} {σ : L2.St} {H : Hp} {i : Nat} {v : V} {d : D} (S : Sim N Z O ρ σ H) (r : Rep N O H v d) : Sim N Z O (ρ.set i (.val d)) (σ.set i (some v)) H where
  len := by rw [List.length_set, List.length_set]; exact S.len
  slot := fun j s u h1 h2 => by
    by_cases e : i = j
    · subst e
      rw [List.getElem?_set] at h1 h2
      simp only [↓reduceIte] at h1 h2
      split at h1
      · split at h2
        · cases h1
          cases h2
          exact ⟨v, rfl, r⟩
        · cases h2
      · cases h1
    · rw [List.getElem?_set_ne e] at h1 h2
      exact S.slot j s u h1 h2
  dist := fun j k s t a ne h1 h2 o1 o2 e1 e2 => by
    have hj : i ≠ j := fun e => by
      subst e
      rw [List.getElem?_set] at h1
      simp only [↓reduceIte] at h1
      split at h1
      · cases h1
        cases o1
      · cases h1
    have hk : i ≠ k := fun e => by
      subst e
      rw [List.getElem?_set] at h2
      simp only [↓reduceIte] at h2
      split at h2
      · cases h2
        cases o2
      · cases h2
    rw [List.getElem?_set_ne hj] at h1 e1
    rw [List.getElem?_set_ne hk] at h2 e2
    exact S.dist j k s t a ne h1 h2 o1 o2 e1 e2
  xk := S.xk
  tab := S.tab
  o0 := S.o0
  own := S.own
  keep := S.keep
theorem Sim.xq {N : Cd} {Z : Zd} {O : Addr → Prop} {ρ : Env} {σ : L2.St} {H : Hp} (S : Sim N Z O ρ σ H) : XqT N O H Z.E := fun cls dx H' n d x r e => S.xk O H' cls dx n d S.o0 (S.smt x).own (S.smt x).keep x.tb r e
abbrev Dm (N : Cn) (O : Addr → Prop) (H : Hp) : Prop := (∀ a, O a → ∃ o, H a = some o ∧ NT o) ∧ LamX.Tabs N.tb H
theorem Sim.dm {N : Cd} {Z : Zd} {O : Addr → Prop} {ρ : Env} {σ : L2.St} {H : Hp} (S : Sim N Z O ρ σ H) : Dm N O H := ⟨S.own, S.tab⟩
theorem Dm.dom {N : Cn} {O : Addr → Prop} {H : Hp} (d : Dm N O H) : ∀ a, O a → H a ≠ none := fun a h => by
  obtain ⟨o, e, _⟩ := d.1 a h
  rw [e]
  exact nofun
theorem Dm.same {N : Cn} {O : Addr → Prop} {H H' : Hp} (d : Dm N O H) (s : Same H H') : SmT N H H' := SmT.same d.2 s
theorem Dm.rf {N : Cn} {O : Addr → Prop} {H : Hp} (d : Dm N O H) : SmT N H H := SmT.same d.2 (L2.Same.refl _)
theorem Dm.ext {N : Cn} {O : Addr → Prop} {H H' : Hp} (_ : Dm N O H) (s : SmT N H H') : Ext O H O H' := Ext.smt s
theorem Dm.smt {N : Cn} {O : Addr → Prop} {H H' : Hp} (d : Dm N O H) (s : SmT N H H') : Dm N O H' := ⟨fun a oa => by
    obtain ⟨o, e, t⟩ := d.1 a oa
    exact ⟨o, s.st a o e (fun _ => t), t⟩, s.tb⟩
abbrev F := Env → (D → Env → Prop) → XP → Prop
abbrev FL := Env → (List D → Env → Prop) → XP → Prop
abbrev FT := Env → (Bool → Env → Prop) → XP → Prop
def tD (N : Cd) (f : F) : TE := fun σ H Q => ∃ Z O ρ Qd, Sim N Z O ρ σ H ∧ f ρ Qd Z.E ∧ ∀ v H' O' d ρ', Ext O H O' H' → Sim N Z O' ρ' σ H' → Rep N O' H' v d → Qd d ρ' → Q v H'
def tDL (N : Cd) (f : FL) : TA := fun σ H Q => ∃ Z O ρ Qd, Sim N Z O ρ σ H ∧ f ρ Qd Z.E ∧ ∀ vs H' O' ds ρ', Ext O H O' H' → Sim N Z O' ρ' σ H' → Reps N O' H' vs ds → Qd ds ρ' → Q vs H'
def tDT (N : Cd) (f : FT) : TT := fun σ H Q => ∃ Z O ρ Qd, Sim N Z O ρ σ H ∧ f ρ Qd Z.E ∧ ∀ b H' O' ρ', Ext O H O' H' → Sim N Z O' ρ' σ H' → Qd b ρ' → Q b H'
theorem PE.imp {X : Cx} {e : Expr} {t t' : TE} (h : PE X e t) (i : ∀ σ H Q, t' σ H Q → t σ H Q) : PE X e t' := ⟨fun pn s σ H Q I q => h.run pn s σ H Q I (i σ H Q q)⟩
theorem PA.imp {X : Cx} {es : List Expr} {t t' : TA} (h : PA X es t) (i : ∀ σ H Q, t' σ H Q → t σ H Q) : PA X es t' := ⟨fun po pn s σ H Q I q => h.run po pn s σ H Q I (i σ H Q q)⟩
theorem PT.imp {X : Cx} {e : Expr} {t t' : TT} (h : L2.PT X e t) (i : ∀ σ H Q, t' σ H Q → t σ H Q) : L2.PT X e t' := ⟨fun pn s σ H Q I q => h.run pn s σ H Q I (i σ H Q q)⟩
theorem PW.imp {X : Cx} {e : Expr} {t t' : TT} (h : PW X e t) (i : ∀ σ H Q, t' σ H Q → t σ H Q) : PW X e t' := ⟨fun w pn s σ H Q I q => h.run w pn s σ H Q I (i σ H Q q)⟩
theorem PS.imp {X : Cx} {st : Stmt} {t t' : TS} (h : PS X st t) (i : ∀ D σ H, t' D σ H → t D σ H) : PS X st t' := ⟨fun pn s σ H D I q => h.run pn s σ H D I (i D σ H q)⟩
theorem PSs.imp {X : Cx} {st : List Stmt} {t t' : TS} (h : PSs X st t) (i : ∀ D σ H, t' D σ H → t D σ H) : PSs X st t' := ⟨fun pn s σ H D I q => h.run pn s σ H D I (i D σ H q)⟩
end Fd

namespace Wd
open PySem PySem.Spec PyProof.Rows L2
abbrev s_we : Stmt := inClass (topS 2) 0
theorem we_head : ∃ ar, ((defArgs s_we).posonlyargs ++ (defArgs s_we).args).head? = some ar ∧ ar.arg = "self" := ⟨_, rfl, rfl⟩
end Wd
namespace Fd
open PySem PySem.Spec PyProof.Rows L2 Wd
def tyNames : List String := ["NoneType", "bool", "int", "str", "list", "tuple", "dict"]
def biB (K : PySem.W.Frag) (C : Addr) (nm : String) : Bool := He.eqO (PySem.W.findIn K (.ref C) (PySem.dunderR nm)) (some none) && (decide (PySem.W.subIn K (.type "int") (.ref C) = some false) && (match PySem.W.findIn K (.type "int") (PySem.dunder nm), PySem.W.findIn K (.type "int") (PySem.dunderR nm) with
  | some fo, some ro => (fo.isSome && !isSeqSlot fo) || (ro.isSome && !isSeqSlot ro)
  | _, _ => false))
def gAd (K : PySem.W.Frag) (x f : Str) : Addr := match PySem.W.recIn K (He.ma K (He.ga K x) f) "property" with
  | some (.ref g :: _) => g
  | _ => 0
def fnA (K : PySem.W.Frag) (a : Addr) : He.FnW := match K.lookup a with
  | some ⟨_, _, .func fd, _⟩ => some (fd.name, fd.qualname, fd.params, fd.body, fd.scope, fd.globals, fd.closure, fd.builtins)
  | _ => none
def dvB (K : PySem.W.Frag) (v : Value) : D → Option V
  | .non => match v with
    | .none => some .non
    | _ => none
  | .bl b => match v with
    | .bool c => if c = b then some (.bl b) else none
    | _ => none
  | .int i => match v with
    | .int j _ => if j = i then some (.int i) else none
    | _ => none
  | .str z => match v with
    | .str y _ => if y = z then some (.str z) else none
    | _ => none
  | .tup [] => match v with
    | .ref a => match K.lookup a with
      | some ⟨.type c, _, .seq its _, _⟩ => if c = "tuple" ∧ its.size = 0 then some (.ref a) else none
      | _ => none
    | _ => none
  | _ => none
def dvsB (K : PySem.W.Frag) : List Value → List D → Option (List V)
  | [], [] => some []
  | v :: vs, d :: ds => match dvB K v d with
    | some u => (dvsB K vs ds).map (u :: ·)
    | none => none
  | _, _ => none
def dfB (K : PySem.W.Frag) (dV : Value) (dfl : List D) : Option (List V) := match dfl with
  | [] => match dV with
    | .none => some []
    | _ => none
  | d :: ds => match dV with
    | .ref T => match K.lookup T with
      | some ⟨_, _, .seq its _, _⟩ => dvsB K its.toList (d :: ds)
      | _ => none
    | _ => none
structure Dx where
  cls : Option Str
  prop : Bool
  name : Str
  qual : Str
  params : Arguments
  body : List Stmt
  scope : Scope
  dfl : List D
def Dx.ad (K : PySem.W.Frag) (d : Dx) : Addr := match d.cls with
  | none => He.ga K d.name
  | some c => match d.prop with
    | true => gAd K c d.name
    | false => He.ma K (He.ga K c) d.name
def Dx.val (d : Dx) : He.FnW := some (d.name, d.qual, d.params, .stmts d.body, d.scope, mainGlobals, [], builtinsNs)
def prB (K : PySem.W.Frag) (c x : Str) : Bool := He.eqO (PySem.W.findIn K (.ref (He.ga K c)) x) (some (some (.ref (He.ma K (He.ga K c) x)))) && (He.eqO (PySem.W.specialIn K (.ref (He.ma K (He.ga K c) x)) "__get__") (some (some (.builtin "property.__get__"))) &&
  (decide (PySem.W.takesIn K (.ref (He.ma K (He.ga K c) x)) = some true) && (match PySem.W.recIn K (He.ma K (He.ga K c) x) "property" with
    | some (.ref _ :: _) => true
    | _ => false)))
def Dx.ok (K : PySem.W.Frag) (d : Dx) : Bool := PySem.W.keepIn K (.ref (d.ad K)) && ((match K.lookup (d.ad K) with
    | some ⟨_, _, .func fd, _⟩ => PySem.W.codeIn K fd.code d.qual && (dfB K fd.defaults d.dfl).isSome
    | _ => false) && (match d.cls with
    | none => true
    | some c => !d.prop || prB K c d.name))
def clB (K : PySem.W.Frag) (cs : List Str) : Bool :=
  He.eqO (PySem.W.specialIn K (.builtin "object.__class__") "__get__") (some (some (.builtin "getset_descriptor.__get__"))) && (decide (PySem.W.takesIn K (.builtin "object.__class__") = some true) &&
  (List.range cs.length).all fun c => He.eqO (PySem.W.findIn K (.ref (He.ga K (cs.getD c ""))) "__class__") (some (some (.builtin "object.__class__"))) && (decide (PySem.W.mroIn K (He.ga K (cs.getD c "")) (.type "object") = some true) &&
    ((tyNames.all fun T => decide (PySem.W.kitOne K (.ref (He.ga K (cs.getD c ""))) (.type T) = some false) && (decide (PySem.W.kitOne K (.type T) (.ref (He.ga K (cs.getD c ""))) = some false) && PySem.W.notFirst K (He.ga K (cs.getD c "")) (.type T))) &&
    (((List.range cs.length).all fun d => decide (PySem.W.kitOne K (.ref (He.ga K (cs.getD c ""))) (.ref (He.ga K (cs.getD d ""))) = some (decide (c = d))) && PySem.W.notFirst K (He.ga K (cs.getD c "")) (.ref (He.ga K (cs.getD d "")))) &&
    (PySem.W.selfFirst K (He.ga K (cs.getD c "")) && He.eqO (PySem.W.findIn K (.ref (He.ga K (cs.getD c ""))) "__ne__") (some (some (.builtin "object.__ne__"))))))))
def twB (K : PySem.W.Frag) (C D : Addr) (nm : String) : Bool := !(Value.ref C == Value.ref D) && ((match PySem.W.findIn K (.ref D) (PySem.dunder nm) with
    | some (some (.ref _)) => true
    | _ => false) && (He.eqO (PySem.W.findIn K (.ref C) (PySem.dunderR nm)) (some none) && (He.eqO (PySem.W.findIn K (.ref D) (PySem.dunderR nm)) (some none) && decide (PySem.W.subIn K (.ref D) (.ref C) = some false))))
def tnB (K : PySem.W.Frag) (x : Str) : Bool := match PySem.W.nsIn K mainGlobals x with
  | some (some (.ref a)) => match K.lookup a with
    | some ⟨.type c, _, .seq its _, _⟩ => decide (c = "tuple") && (match its.toList with
      | [u, v] => (dvB K u (.tup [])).isSome && (dvB K v (.tup [])).isSome
      | _ => false)
    | _ => false
  | _ => false
def slotI (b : Str) : Option Nat := (["[]0", "[]1", "[]2", "[]3", "[]4", "[]5", "[]6", "[]7", "[]8", "[]9"] : List Str).findIdx? fun y => decide (y = b)
def slB (K : PySem.W.Frag) (C : Addr) (x : Str) (i : Nat) : Bool := PySem.W.plainGet K C Str.empty && (PySem.W.isClsIn K C && (PySem.W.plainOver K C && (He.eqO (PySem.W.findIn K (.ref C) "__setattr__") (some (some (.builtin "object.__setattr__"))) &&
  (match PySem.W.findIn K (.ref C) x with
    | some (some (.ref p)) => He.eqO (PySem.W.specialIn K (.ref p) "__get__") (some (some (.builtin "member_descriptor.__get__"))) && (decide (PySem.W.takesIn K (.ref p) = some true) && (decide (PySem.W.typeIn K (.ref p) = some (.type "member_descriptor")) && (decide (PySem.W.slotIn K p C = some i) && decide (i < 1000))))
    | _ => false))))
def kwB (K : PySem.W.Frag) (x : Str) (k : String) : Bool := match K.lookup (He.ga K x) with
  | some ⟨_, _, .func ⟨_, _, _, _, _, _, _, _, .ref D, _, _, _, _, _, _⟩, _⟩ => He.eqO (PySem.W.nsIn K D (Str.ofString k)) (some (some (.bool false)))
  | _ => false
def kwFA (K : PySem.W.Frag) (f : Addr) (k : String) : Bool := match K.lookup f with
  | some ⟨_, _, .func ⟨_, _, _, _, _, _, _, _, .ref D, _, _, _, _, _, _⟩, _⟩ => He.eqO (PySem.W.nsIn K D (Str.ofString k)) (some (some (.bool false)))
  | _ => false
def kwTA (K : PySem.W.Frag) (f : Addr) (k : String) : Bool := kwFA K f "dying" && match K.lookup f with
  | some ⟨_, _, .func ⟨_, _, _, _, _, _, _, _, .ref D, _, _, _, _, _, _⟩, _⟩ => (match PySem.W.nsIn K D (Str.ofString k) with
    | some (some v) => (dvB K v (.tup [])).isSome
    | _ => false)
  | _ => false
def twC (K : PySem.W.Frag) (t : Str × Str × String) : Bool := if t.2.1 = "int" then biB K (He.ga K t.1) t.2.2 else if t.2.1 = "()" then tnB K t.1 else if t.2.1 = "kwF" then kwB K t.1 t.2.2 else if t.2.1 = "kwTF" then kwTA K (He.ga K t.1) t.2.2 else if t.2.1 = "kwTM" then kwTA K (He.ma K (He.ga K t.1) "__init__") t.2.2 else match slotI t.2.1 with
  | some i => slB K (He.ga K t.1) (Str.ofString t.2.2) i
  | none => twB K (He.ga K t.1) (He.ga K t.2.1) t.2.2
abbrev AlX : Type := Bool × List He.FnW
def obsX (fa : List He.Fa) (ds : List Dx) (cs : List Str) (tw : List (Str × Str × String)) (K : PySem.W.Frag) : AlX := ((fa.all fun f => f.ok K) && ((ds.all fun d => d.ok K) && (clB K cs && tw.all fun t => twC K t)), ds.map fun d => fnA K (d.ad K))
def valX (ds : List Dx) : AlX := (true, ds.map Dx.val)
def SaysX (fa : List He.Fa) (ds : List Dx) (cs : List Str) (tw : List (Str × Str × String)) (K : PySem.W.Frag) : Prop := obsX fa ds cs tw K = valX ds
abbrev sLaw : Stmt := topS 74
def oexB (K : PySem.W.Frag) (C : Addr) : Bool := (match K.lookup C with
  | some ⟨.type "type", _, .cls cd, sl⟩ => (match cd.mro, sl.toList with
    | .ref C' :: bm, [_, _, _, _, some (.builtin n), _] => decide (C' = C) && (decide (n = "ValueError.__new__") && (!cd.hasDel && (cd.hasDict && PySem.HandSPX.refsVE bm)))
    | _, _ => false)
  | _ => false) && (decide (PySem.W.findIn K (.ref C) "__setattr__" = some (some (.builtin "object.__setattr__"))) && (decide (PySem.W.subIn K (.ref C) (.type "BaseException") = some true) && (decide (PySem.W.typeIn K (.ref C) = some (.type "type")) && PySem.W.keepIn K (.ref C))))
def xcOne (K : PySem.W.Frag) (C D : Addr) : Bool := oexB K C && (decide (PySem.W.mroIn K C (.ref D) = some true) && (decide (PySem.W.ks_superIn K C D "__init__" = some (some (.builtin "ValueError.__init__"))) && (decide (PySem.W.findIn K (.ref C) "value" = some none) && (decide (PySem.W.subIn K (.ref C) (.type "ValueError") = some true) &&
  (decide (PySem.W.findIn K (.ref C) "__init__" = some (some (.ref (He.ma K D "__init__")))) && (decide (PySem.W.findIn K (.ref C) "__getattribute__" = some (some (.builtin "BaseException.__getattribute__"))) && (decide (PySem.W.findIn K (.ref C) "__getattr__" = some none) && (PySem.W.hasDictIn K C && ((PySem.W.clsIn K C).isSome &&
  (decide (PySem.W.findIn K (.ref C) "__class__" = some (some (.builtin "object.__class__"))) && (decide (PySem.W.mroIn K C (.type "object") = some true) && decide (PySem.W.exmOne K (.ref C) (.ref D) = some true))))))))))))
def xcB (K : PySem.W.Frag) (cs xs : List Str) : Bool := (List.range xs.length).all fun k => xcOne K (He.ga K (xs.getD k "")) (He.ga K (xs.getD 0 "")) && (He.eqO (PySem.W.nsIn K mainGlobals (xs.getD k "")) (some (some (.ref (He.ga K (xs.getD k ""))))) &&
  (((List.range xs.length).all fun m => decide (PySem.W.kitOne K (.ref (He.ga K (xs.getD k ""))) (.ref (He.ga K (xs.getD m ""))) = some (decide (k = m) || decide (m = 0)))) &&
  ((tyNames.all fun T => decide (PySem.W.kitOne K (.type T) (.ref (He.ga K (xs.getD k ""))) = some false)) && (List.range cs.length).all fun c => decide (PySem.W.kitOne K (.ref (He.ga K (cs.getD c ""))) (.ref (He.ga K (xs.getD k ""))) = some false))))
def weB (K : PySem.W.Frag) (f0 : Str) (D : Addr) : Bool := (match K.lookup (He.ma K D "__init__") with
  | some ⟨_, _, .func fd, _⟩ => ((match fd.defaults with
    | .none => true
    | _ => false) && PySem.W.codeIn K fd.code "WireError.__init__") && ((match fd.code with
    | .ref cda => (match K.lookup cda with
      | some ⟨_, _, .fields vs, _⟩ => (match (vs[2]? : Option Value) with
        | some (.str file _) => f0 == file
        | _ => false)
      | _ => false)
    | _ => false) && (match fd.closure with
    | [(n, cc)] => decide (n = "__class__") && (match K.lookup cc with
      | some ⟨_, _, .cell (some (.ref D')), _⟩ => decide (D' = D)
      | _ => false)
    | _ => false))
  | _ => false) && ((PySem.W.clsIn K D).isSome && (decide (PySem.W.nsIn K cStatics "thirdparty.any" = some none) && (decide (PySem.W.nsIn K mainGlobals "super" = some none) && (decide (PySem.W.typeIn K (.ref (He.ma K D "__init__")) = some (.type "function")) && (match K.lookup sysModules with
    | some o => decide (o.cls = .type "dict")
    | none => false)))))
abbrev WeV : Type := Option (Str × Str × Arguments × FuncBody × Scope × Addr × Addr)
def weV (K : PySem.W.Frag) (D : Addr) : WeV := match K.lookup (He.ma K D "__init__") with
  | some ⟨_, _, .func fd, _⟩ => some (fd.name, fd.qualname, fd.params, fd.body, fd.scope, fd.globals, fd.builtins)
  | _ => none
def weW : WeV := some ("__init__", "WireError.__init__", defArgs s_we, .stmts (defBody s_we), defScope s_we, mainGlobals, builtinsNs)
def tabB (g : Addr → Option Obj) (tf : List He.Defn) (K : PySem.W.Frag) : Bool := He.tabsB g tf K && decide ((tf.map fun p => (He.cT K p).2).Nodup)
def exB (f0 : Str) (cs xs : List Str) (tf : List He.Defn) (g : Addr → Option Obj) (K : PySem.W.Frag) : Bool := xcB K cs xs && (weB K f0 (He.ga K (xs.getD 0 "")) && tabB g tf K)
abbrev AlY : Type := Bool × List He.FnW × WeV
def unseen : Nat → List Addr → List Addr × Nat
  | m, [] => ([], m)
  | m, a :: r => match Nat.beq (Nat.land (Nat.shiftRight m a) 1) 0 with
    | true => match unseen (Nat.lor m (Nat.shiftLeft 1 a)) r with
      | (l, m') => (a :: l, m')
    | false => unseen m r
def bfsM (g : Addr → Option Obj) : Nat → Nat → List Addr → List Addr
  | 0, _, fr => fr
  | n + 1, m, fr => match unseen m (fr.flatMap fun a => match g a with
    | some o => He.refsD o
    | none => []) with
    | (l, m') => fr ++ bfsM g n m' l
def asY (g : Addr → Option Obj) (n : Nat) : List Addr := sysModules :: cStatics :: bfsM g n (Nat.shiftLeft 1 mainGlobals) [mainGlobals]
def obsY (f0 : Str) (fa : List He.Fa) (ds : List Dx) (cs : List Str) (tw : List (Str × Str × String)) (xs : List Str) (tf : List He.Defn) (g : Addr → Option Obj) (K : PySem.W.Frag) : AlY := ((obsX fa ds cs tw K).1 && exB f0 cs xs tf g K, (obsX fa ds cs tw K).2, weV K (He.ga K (xs.getD 0 "")))
def valY (ds : List Dx) : AlY := (true, ds.map Dx.val, weW)
structure SaysY (f0 : Str) (fa : List He.Fa) (ds : List Dx) (cs : List Str) (tw : List (Str × Str × String)) (xs : List Str) (tf : List He.Defn) (h : Heap) (K : PySem.W.Frag) : Prop where
  x : SaysX fa ds cs tw K
  xc : xcB K cs xs = true
  we : weB K f0 (He.ga K (xs.getD 0 "")) = true
  wv : weV K (He.ga K (xs.getD 0 "")) = weW
  hd : ∀ p ∈ tf, PySem.W.codeHdIn K (He.cT K p).1 (He.cT K p).2 = true
  nd : (tf.map fun p => (He.cT K p).2).Nodup
  out : ∀ p ∈ tf, K.lookup (He.cT K p).2 = none
  empty : ∀ p ∈ tf, h.get? (He.cT K p).2 = some { cls := .none, data := .fields #[] }
def obsYG (n : Nat) (f0 : Str) (fa : List He.Fa) (ds : List Dx) (cs : List Str) (tw : List (Str × Str × String)) (xs : List Str) (tf : List He.Defn) (g : Addr → Option Obj) : AlY := obsY f0 fa ds cs tw xs tf g (He.frT g (asY g n))
theorem saysY_of {n : Nat} {f0 : Str} {fa : List He.Fa} {ds : List Dx} {cs : List Str} {tw : List (Str × Str × String)} {xs : List Str} {tf : List He.Defn} {h : Heap} (e : obsYG n f0 fa ds cs tw xs tf h.get? = valY ds) : SaysY f0 fa ds cs tw xs tf h (He.frT h.get? (asY h.get? n)) := by
  obtain ⟨e1, e⟩ := Prod.mk.inj e
  obtain ⟨e2, e3⟩ := Prod.mk.inj e
  obtain ⟨a1, a2⟩ := He.ba e1
  obtain ⟨b1, a2⟩ := He.ba a2
  obtain ⟨b2, a2⟩ := He.ba a2
  obtain ⟨b3, b4⟩ := He.ba a2
  have key : ∀ p ∈ tf, PySem.W.codeHdIn (He.frT h.get? (asY h.get? n)) (He.cT (He.frT h.get? (asY h.get? n)) p).1 (He.cT (He.frT h.get? (asY h.get? n)) p).2 = true ∧ ∃ o, h.get? (He.cT (He.frT h.get? (asY h.get? n)) p).2 = some o ∧ He.emptyTab o = true := fun p hp => by
    obtain ⟨h3, h4⟩ := He.ba (List.all_eq_true.mp b3 p hp)
    refine ⟨h3, ?_⟩
    split at h4
    · rename_i o q
      exact ⟨o, q, h4⟩
    · cases h4
  refine ⟨Prod.ext a1 e2, b1, b2, e3, fun p hp => (key p hp).1, of_decide_eq_true b4, fun p hp => ?_, fun p hp => ?_⟩
  · obtain ⟨_, o, q, z⟩ := key p hp
    exact He.frT_none q z
  · obtain ⟨_, o, q, z⟩ := key p hp
    rw [q, He.emptyTab_eq z]
def hookY (n : Nat) (f0 : Str) (fa : List He.Fa) (ds : List Dx) (cs : List Str) (tw : List (Str × Str × String)) (xs : List Str) (tf : List He.Defn) : PySem.W.Hook where
  α := AlY
  obs := fun s => obsYG n f0 fa ds cs tw xs tf s.heap.get?
  val := fun _ => valY ds
  says := fun _ h => ∃ K : PySem.W.Frag, K.In h ∧ SaysY f0 fa ds cs tw xs tf h K
  of := fun _ _ e => ⟨_, He.frT_in, saysY_of e⟩
  keeps := fun _ _ _ ⟨K, hK, c⟩ k => ⟨K, PySem.W.Frag.In.keeps hK k, ⟨c.x, c.xc, c.we, c.wv, c.hd, c.nd, c.out, fun p hp => k _ _ (c.empty p hp)⟩⟩
theorem obsYG_eq {n : Nat} {f0 : Str} {fa : List He.Fa} {ds : List Dx} {cs : List Str} {tw : List (Str × Str × String)} {xs : List Str} {tf : List He.Defn} {g : Addr → Option Obj} {s : Shared} (h : ∀ a, g a = s.heap.get? a) : obsYG n f0 fa ds cs tw xs tf g = (hookY n f0 fa ds cs tw xs tf).obs s := by
  have e : g = s.heap.get? := funext h
  rw [e] <;> rfl
theorem atE {α β : Type} {o : Option α} {s : α} {f : α → β} {b : β} (h : o = some s) (e : o.map f = some b) : f s = b := by
  subst h
  exact Option.some.inj e
abbrev nC : Nat := 3
def clsN : List Str := ["Board", "Picture", "Dead"]
def schL : List (List Str) := [["own_rows", "own_dots", "own_at"], ["own_board", "own_dots", "own_lit"], ["own_board", "own_rows", "own_columns", "own_wires"]]
abbrev nX : Nat := 30
def xcN : List Str := ["WireError", "BadBoard", "BadDots", "BadRows", "BadColumns", "OtherBoard", "BadPictures", "BadTick", "TooLong", "BadStrip", "BadLooks", "BadSeen", "BadWires", "NoCause", "BadNumber", "BadFilms", "BadParts", "BadOffers", "NotFull", "BadBook", "NoFilm", "BadWire", "NoChange", "SeenAlready", "NothingSeen", "NothingToUndo", "NothingToRedo", "BadText", "BadJournal", "BadLine"]
def tfD : List He.Defn := []
def tfQ (p : He.Defn) : Str := (match p.2 with | none => p.1 | some c => c ++ "." ++ p.1) ++ ".<locals>." ++ "<lambda>"
abbrev s_is_integer : Stmt := topS 34
abbrev s_is_tuple : Stmt := topS 36
abbrev s_is_pair : Stmt := topS 37
abbrev s_is_rising : Stmt := topS 35
abbrev s_are_numbers : Stmt := topS 38
abbrev s_is_row : Stmt := topS 46
abbrev s_are_rows : Stmt := topS 47
abbrev s_Board___init__ : Stmt := inClass (topS 48) 0
abbrev s_Board_rows : Stmt := inClass (topS 48) 1
abbrev s_Board_height : Stmt := inClass (topS 48) 2
abbrev s_Board_width : Stmt := inClass (topS 48) 3
abbrev s_Board_dots : Stmt := inClass (topS 48) 4
abbrev s_Board_wires : Stmt := inClass (topS 48) 5
abbrev s_Board___contains__ : Stmt := inClass (topS 48) 7
abbrev s_Board___len__ : Stmt := inClass (topS 48) 8
abbrev s_Board___invert__ : Stmt := inClass (topS 48) 9
abbrev s_Board___eq__ : Stmt := inClass (topS 48) 10
abbrev s_is_wire : Stmt := topS 49
abbrev s_check_board : Stmt := topS 52
abbrev s_are_dots : Stmt := topS 53
abbrev s_left_of : Stmt := topS 54
abbrev s_sign_at : Stmt := topS 55
abbrev s_rows_of : Stmt := topS 56
abbrev s_Picture___init__ : Stmt := inClass (topS 57) 0
abbrev s_Picture_board : Stmt := inClass (topS 57) 1
abbrev s_Picture_dots : Stmt := inClass (topS 57) 2
abbrev s_Picture_rows : Stmt := inClass (topS 57) 3
abbrev s_Picture___contains__ : Stmt := inClass (topS 57) 4
abbrev s_Picture___len__ : Stmt := inClass (topS 57) 5
abbrev s_picture_of : Stmt := topS 58
abbrev s_Picture___invert__ : Stmt := inClass (topS 57) 6
abbrev s_Picture___or__ : Stmt := inClass (topS 57) 7
abbrev s_Picture___and__ : Stmt := inClass (topS 57) 8
abbrev s_Picture___xor__ : Stmt := inClass (topS 57) 9
abbrev s_Picture___eq__ : Stmt := inClass (topS 57) 12
abbrev s_named_wires : Stmt := topS 59
abbrev s_Dead___init__ : Stmt := inClass (topS 60) 0
abbrev s_Dead_board : Stmt := inClass (topS 60) 1
abbrev s_Dead_rows : Stmt := inClass (topS 60) 2
abbrev s_Dead_columns : Stmt := inClass (topS 60) 3
abbrev s_Dead_wires : Stmt := inClass (topS 60) 4
abbrev s_Dead_meets : Stmt := inClass (topS 60) 6
abbrev s_Dead_dots : Stmt := inClass (topS 60) 5
abbrev s_Dead___contains__ : Stmt := inClass (topS 60) 9
abbrev s_Dead___len__ : Stmt := inClass (topS 60) 10
abbrev s_Dead___invert__ : Stmt := inClass (topS 60) 11
abbrev s_Dead___eq__ : Stmt := inClass (topS 60) 17
abbrev s_dead_of : Stmt := topS 61
abbrev s_Dead___or__ : Stmt := inClass (topS 60) 12
abbrev s_Dead___and__ : Stmt := inClass (topS 60) 13
abbrev s_Dead___xor__ : Stmt := inClass (topS 60) 14
abbrev s_Dead___sub__ : Stmt := inClass (topS 60) 15
abbrev s_Picture___sub__ : Stmt := inClass (topS 57) 10
abbrev s__law_of : Stmt := topS 65
abbrev s__law_rows : Stmt := topS 66
abbrev s__law_size : Stmt := topS 67
abbrev s__law_small_rows : Stmt := topS 68
abbrev s__law_odd : Stmt := topS 69
abbrev s__law_all_of : Stmt := topS 70
abbrev s__law_kinds_of : Stmt := topS 71
abbrev s__law_is_caught : Stmt := topS 72
abbrev s__law_right : Stmt := topS 73
def enDs0 : List Dx := [⟨none, false, "_law_take", "_law_take", defArgs sTake, defBody sTake, defScope sTake, []⟩, ⟨none, false, "_law_pot", "_law_pot", defArgs sPot, defBody sPot, defScope sPot, []⟩, ⟨none, false, "law", "law", defArgs sLaw, defBody sLaw, defScope sLaw, []⟩, ⟨none, false, "is_integer", "is_integer", defArgs s_is_integer, defBody s_is_integer, defScope s_is_integer, [.non]⟩, ⟨none, false, "is_tuple", "is_tuple", defArgs s_is_tuple, defBody s_is_tuple, defScope s_is_tuple, []⟩, ⟨none, false, "is_pair", "is_pair", defArgs s_is_pair, defBody s_is_pair, defScope s_is_pair, []⟩, ⟨none, false, "is_rising", "is_rising", defArgs s_is_rising, defBody s_is_rising, defScope s_is_rising, []⟩, ⟨none, false, "are_numbers", "are_numbers", defArgs s_are_numbers, defBody s_are_numbers, defScope s_are_numbers, []⟩, ⟨none, false, "is_row", "is_row", defArgs s_is_row, defBody s_is_row, defScope s_is_row, []⟩, ⟨none, false, "are_rows", "are_rows", defArgs s_are_rows, defBody s_are_rows, defScope s_are_rows, []⟩, ⟨some "Board", false, "__init__", "Board.__init__", defArgs s_Board___init__, defBody s_Board___init__, defScope s_Board___init__, []⟩, ⟨some "Board", true, "rows", "Board.rows", defArgs s_Board_rows, defBody s_Board_rows, defScope s_Board_rows, []⟩, ⟨some "Board", true, "height", "Board.height", defArgs s_Board_height, defBody s_Board_height, defScope s_Board_height, []⟩, ⟨some "Board", true, "width", "Board.width", defArgs s_Board_width, defBody s_Board_width, defScope s_Board_width, []⟩, ⟨some "Board", true, "dots", "Board.dots", defArgs s_Board_dots, defBody s_Board_dots, defScope s_Board_dots, []⟩, ⟨some "Board", true, "wires", "Board.wires", defArgs s_Board_wires, defBody s_Board_wires, defScope s_Board_wires, []⟩, ⟨some "Board", false, "__contains__", "Board.__contains__", defArgs s_Board___contains__, defBody s_Board___contains__, defScope s_Board___contains__, []⟩]
def enDs17 : List Dx := [⟨some "Board", false, "__len__", "Board.__len__", defArgs s_Board___len__, defBody s_Board___len__, defScope s_Board___len__, []⟩, ⟨some "Board", false, "__invert__", "Board.__invert__", defArgs s_Board___invert__, defBody s_Board___invert__, defScope s_Board___invert__, []⟩, ⟨some "Board", false, "__eq__", "Board.__eq__", defArgs s_Board___eq__, defBody s_Board___eq__, defScope s_Board___eq__, []⟩, ⟨none, false, "is_wire", "is_wire", defArgs s_is_wire, defBody s_is_wire, defScope s_is_wire, []⟩, ⟨none, false, "check_board", "check_board", defArgs s_check_board, defBody s_check_board, defScope s_check_board, []⟩, ⟨none, false, "are_dots", "are_dots", defArgs s_are_dots, defBody s_are_dots, defScope s_are_dots, []⟩, ⟨none, false, "left_of", "left_of", defArgs s_left_of, defBody s_left_of, defScope s_left_of, []⟩, ⟨none, false, "sign_at", "sign_at", defArgs s_sign_at, defBody s_sign_at, defScope s_sign_at, []⟩, ⟨none, false, "rows_of", "rows_of", defArgs s_rows_of, defBody s_rows_of, defScope s_rows_of, []⟩, ⟨some "Picture", false, "__init__", "Picture.__init__", defArgs s_Picture___init__, defBody s_Picture___init__, defScope s_Picture___init__, [.tup []]⟩, ⟨some "Picture", true, "board", "Picture.board", defArgs s_Picture_board, defBody s_Picture_board, defScope s_Picture_board, []⟩, ⟨some "Picture", true, "dots", "Picture.dots", defArgs s_Picture_dots, defBody s_Picture_dots, defScope s_Picture_dots, []⟩, ⟨some "Picture", true, "rows", "Picture.rows", defArgs s_Picture_rows, defBody s_Picture_rows, defScope s_Picture_rows, []⟩, ⟨some "Picture", false, "__contains__", "Picture.__contains__", defArgs s_Picture___contains__, defBody s_Picture___contains__, defScope s_Picture___contains__, []⟩, ⟨some "Picture", false, "__len__", "Picture.__len__", defArgs s_Picture___len__, defBody s_Picture___len__, defScope s_Picture___len__, []⟩, ⟨none, false, "picture_of", "picture_of", defArgs s_picture_of, defBody s_picture_of, defScope s_picture_of, []⟩, ⟨some "Picture", false, "__invert__", "Picture.__invert__", defArgs s_Picture___invert__, defBody s_Picture___invert__, defScope s_Picture___invert__, []⟩]
def enDs34 : List Dx := [⟨some "Picture", false, "__or__", "Picture.__or__", defArgs s_Picture___or__, defBody s_Picture___or__, defScope s_Picture___or__, []⟩, ⟨some "Picture", false, "__and__", "Picture.__and__", defArgs s_Picture___and__, defBody s_Picture___and__, defScope s_Picture___and__, []⟩, ⟨some "Picture", false, "__xor__", "Picture.__xor__", defArgs s_Picture___xor__, defBody s_Picture___xor__, defScope s_Picture___xor__, []⟩, ⟨some "Picture", false, "__eq__", "Picture.__eq__", defArgs s_Picture___eq__, defBody s_Picture___eq__, defScope s_Picture___eq__, []⟩, ⟨none, false, "named_wires", "named_wires", defArgs s_named_wires, defBody s_named_wires, defScope s_named_wires, []⟩, ⟨some "Dead", false, "__init__", "Dead.__init__", defArgs s_Dead___init__, defBody s_Dead___init__, defScope s_Dead___init__, [.tup [], .tup []]⟩, ⟨some "Dead", true, "board", "Dead.board", defArgs s_Dead_board, defBody s_Dead_board, defScope s_Dead_board, []⟩, ⟨some "Dead", true, "rows", "Dead.rows", defArgs s_Dead_rows, defBody s_Dead_rows, defScope s_Dead_rows, []⟩, ⟨some "Dead", true, "columns", "Dead.columns", defArgs s_Dead_columns, defBody s_Dead_columns, defScope s_Dead_columns, []⟩, ⟨some "Dead", true, "wires", "Dead.wires", defArgs s_Dead_wires, defBody s_Dead_wires, defScope s_Dead_wires, []⟩, ⟨some "Dead", false, "meets", "Dead.meets", defArgs s_Dead_meets, defBody s_Dead_meets, defScope s_Dead_meets, []⟩, ⟨some "Dead", true, "dots", "Dead.dots", defArgs s_Dead_dots, defBody s_Dead_dots, defScope s_Dead_dots, []⟩, ⟨some "Dead", false, "__contains__", "Dead.__contains__", defArgs s_Dead___contains__, defBody s_Dead___contains__, defScope s_Dead___contains__, []⟩, ⟨some "Dead", false, "__len__", "Dead.__len__", defArgs s_Dead___len__, defBody s_Dead___len__, defScope s_Dead___len__, []⟩, ⟨some "Dead", false, "__invert__", "Dead.__invert__", defArgs s_Dead___invert__, defBody s_Dead___invert__, defScope s_Dead___invert__, []⟩, ⟨some "Dead", false, "__eq__", "Dead.__eq__", defArgs s_Dead___eq__, defBody s_Dead___eq__, defScope s_Dead___eq__, []⟩, ⟨none, false, "dead_of", "dead_of", defArgs s_dead_of, defBody s_dead_of, defScope s_dead_of, []⟩]
def enDs51 : List Dx := [⟨some "Dead", false, "__or__", "Dead.__or__", defArgs s_Dead___or__, defBody s_Dead___or__, defScope s_Dead___or__, []⟩, ⟨some "Dead", false, "__and__", "Dead.__and__", defArgs s_Dead___and__, defBody s_Dead___and__, defScope s_Dead___and__, []⟩, ⟨some "Dead", false, "__xor__", "Dead.__xor__", defArgs s_Dead___xor__, defBody s_Dead___xor__, defScope s_Dead___xor__, []⟩, ⟨some "Dead", false, "__sub__", "Dead.__sub__", defArgs s_Dead___sub__, defBody s_Dead___sub__, defScope s_Dead___sub__, []⟩, ⟨some "Picture", false, "__sub__", "Picture.__sub__", defArgs s_Picture___sub__, defBody s_Picture___sub__, defScope s_Picture___sub__, []⟩, ⟨none, false, "_law_of", "_law_of", defArgs s__law_of, defBody s__law_of, defScope s__law_of, []⟩, ⟨none, false, "_law_rows", "_law_rows", defArgs s__law_rows, defBody s__law_rows, defScope s__law_rows, []⟩, ⟨none, false, "_law_size", "_law_size", defArgs s__law_size, defBody s__law_size, defScope s__law_size, []⟩, ⟨none, false, "_law_small_rows", "_law_small_rows", defArgs s__law_small_rows, defBody s__law_small_rows, defScope s__law_small_rows, []⟩, ⟨none, false, "_law_odd", "_law_odd", defArgs s__law_odd, defBody s__law_odd, defScope s__law_odd, []⟩, ⟨none, false, "_law_all_of", "_law_all_of", defArgs s__law_all_of, defBody s__law_all_of, defScope s__law_all_of, []⟩, ⟨none, false, "_law_kinds_of", "_law_kinds_of", defArgs s__law_kinds_of, defBody s__law_kinds_of, defScope s__law_kinds_of, []⟩, ⟨none, false, "_law_is_caught", "_law_is_caught", defArgs s__law_is_caught, defBody s__law_is_caught, defScope s__law_is_caught, []⟩, ⟨none, false, "_law_right", "_law_right", defArgs s__law_right, defBody s__law_right, defScope s__law_right, []⟩]
def enDsA : List Dx := enDs0 ++ (enDs17)
def enDsB : List Dx := enDs34 ++ (enDs51)
def enDs : List Dx := enDsA ++ enDsB
def enFa0 : List He.Fa := [.free "int", .free "bool", .free "str", .free "tuple", .free "list", .free "len", .free "range", .free "isinstance", .free "all", .free "any", .free "enumerate", .free "zip", .free "sorted", .free "repr", .free "max", .free "min", .free "abs", .free "set", .free "sum", .noat "Board" "own_rows", .noat "Board" "own_dots", .noat "Board" "own_at", .cls "Board", .noat "Picture" "own_board"]
def enFa24 : List He.Fa := [.noat "Picture" "own_dots", .noat "Picture" "own_lit", .cls "Picture", .noat "Dead" "own_board", .noat "Dead" "own_rows", .noat "Dead" "own_columns", .noat "Dead" "own_wires", .cls "Dead", .int "PAIR" 2, .str "DOT" "o", .str "GAP" ".", .int "MOST_ROWS" 10, .int "MOST_COLUMNS" 10, .str "COLUMN" "column", .str "ROW" "row", .str "LIT" "#", .glo "law", .glo "_law_take", .glo "is_integer", .glo "is_tuple", .glo "is_pair", .glo "is_rising", .glo "are_numbers", .glo "is_row"]
def enFa48 : List He.Fa := [.glo "are_rows", .mkr "Board", .glo "Board", .meth "Board" "__contains__", .meth "Board" "__len__", .meth "Board" "__invert__", .meth "Board" "__eq__", .glo "is_wire", .glo "check_board", .glo "are_dots", .glo "left_of", .glo "sign_at", .glo "rows_of", .mkr "Picture", .glo "Picture", .meth "Picture" "__contains__", .meth "Picture" "__len__", .glo "picture_of", .meth "Picture" "__invert__", .meth "Picture" "__or__", .meth "Picture" "__and__", .meth "Picture" "__xor__", .meth "Picture" "__eq__", .glo "named_wires"]
def enFa72 : List He.Fa := [.mkr "Dead", .glo "Dead", .meth "Dead" "meets", .meth "Dead" "__contains__", .meth "Dead" "__len__", .meth "Dead" "__invert__", .meth "Dead" "__eq__", .glo "dead_of", .meth "Dead" "__or__", .meth "Dead" "__and__", .meth "Dead" "__xor__", .meth "Dead" "__sub__", .meth "Picture" "__sub__", .glo "_law_of", .glo "_law_rows", .glo "_law_size", .glo "_law_small_rows", .glo "_law_odd", .glo "_law_all_of", .glo "_law_kinds_of", .free "ValueError", .glo "_law_is_caught", .glo "_law_right", .glo "_law_pot"]
def enFaA : List He.Fa := enFa0 ++ (enFa24)
def enFaB : List He.Fa := enFa48 ++ (enFa72)
def enFa : List He.Fa := enFaA ++ enFaB
def enTw : List (Str × Str × String) := []
abbrev enR : PySem.W.OpenRow := PySem.W.OpenLaw.row PySem.Challenge.rw_wiresindark_k00_errors_keep_their_value
abbrev enF0 : Str := (PySem.Challenge.rw_wiresindark_k00_errors_keep_their_value).prog.main.file
abbrev enK : PySem.W.Hook := hookY 5 enF0 enFa enDs clsN enTw xcN tfD
def enO (s : PySem.W.SharedT) : AlY := obsYG 5 enF0 enFa enDs clsN enTw xcN tfD (HandSHeadRun.getT s)
theorem enO_eq (s : PySem.W.SharedT) : enO s = enK.obs s.abs := obsYG_eq (HandSHeadRun.getT_eq s)
def enL0 : List Str := ["_wall", "WireError", "BadBoard", "BadDots", "BadRows", "BadColumns", "OtherBoard", "BadPictures", "BadTick", "TooLong", "BadStrip", "BadLooks", "BadSeen", "BadWires", "NoCause", "BadNumber", "BadFilms", "BadParts", "BadOffers", "NotFull", "BadBook", "NoFilm", "BadWire", "NoChange", "SeenAlready", "NothingSeen", "NothingToUndo", "NothingToRedo", "BadText", "BadJournal"]
def enL30 : List Str := ["BadLine", "PAIR", "is_integer", "is_rising", "is_tuple", "is_pair", "are_numbers", "DOT", "GAP", "MOST_ROWS", "MOST_COLUMNS", "ROW", "COLUMN", "is_row", "are_rows", "Board", "is_wire", "LIT", "check_board", "are_dots", "left_of", "sign_at", "rows_of", "Picture", "picture_of", "named_wires", "Dead", "dead_of", "_law_pot", "_law_take"]
def enL60 : List Str := ["_law_of", "_law_rows", "_law_size", "_law_small_rows", "_law_odd", "_law_all_of", "_law_kinds_of", "_law_is_caught", "_law_right"]
def enL : List Str := enL0 ++ enL30 ++ enL60
noncomputable def enE (w : World) (os : OsState) : Option PySem.W.SharedT := HandSHeadRun.endF (HandSHeadRun.stepQ (HandSHeadRun.denQ HandSHeadRun.tabQ) enR.prog w) 16000 enR.prog w os
def enW (s : PySem.W.SharedT) : PySem.W.Frag := He.frT (HandSHeadRun.getT s) (asY (HandSHeadRun.getT s) 5)
set_option maxHeartbeats 0 in
theorem en_look (w : World) (os : OsState) : (enE w os).map (fun s => (HandSHeadRun.looksF enR.prog (PySem.W.boot_heap w.params) s.abs, HandSHeadRun.seenQ (PySem.W.view enR.prog [74]) enL (importedModules enR.prog.main.body) (fun s => PySem.W.xlAt (PySem.W.view enR.prog [74]) [] s && PySem.W.recOk enR.toRowW.records s) s.abs)) = some (true, PySem.W.openGood (PySem.W.view enR.prog [74]) enL) := by
  kernel_rfl
set_option maxHeartbeats 0 in
theorem en_cw (w : World) (os : OsState) : (enE w os).map (fun s => ((clB (enW s) clsN && enTw.all fun t => twC (enW s) t), weV (enW s) (He.ga (enW s) (xcN.getD 0 "")))) = some (true, weW) := by
  kernel_rfl
theorem en_cl (w : World) (os : OsState) : (enE w os).map (fun s => (clB (enW s) clsN && enTw.all fun t => twC (enW s) t)) = some true := by
  cases h : enE w os with
  | none =>
    have h0 := en_cw w os
    rw [h] at h0
    cases h0
  | some s => exact congrArg some (congrArg Prod.fst (atE h (en_cw w os)))
set_option maxHeartbeats 0 in
theorem en_fa (w : World) (os : OsState) : (enE w os).map (fun s => enFa.all fun f => f.ok (enW s)) = some true := by
  kernel_rfl
set_option maxHeartbeats 0 in
theorem en_dk (w : World) (os : OsState) : (enE w os).map (fun s => enDs.all fun d => d.ok (enW s)) = some true := by
  kernel_rfl
set_option maxHeartbeats 0 in
theorem en_dv (w : World) (os : OsState) : (enE w os).map (fun s => enDs.map fun d => fnA (enW s) (d.ad (enW s))) = some (enDs.map Dx.val) := by
  kernel_rfl
set_option maxHeartbeats 0 in
theorem en_xb (w : World) (os : OsState) : (enE w os).map (fun s => exB enF0 clsN xcN tfD (HandSHeadRun.getT s) (enW s)) = some true := by
  kernel_rfl
theorem en_wv (w : World) (os : OsState) : (enE w os).map (fun s => weV (enW s) (He.ga (enW s) (xcN.getD 0 ""))) = some weW := by
  cases h : enE w os with
  | none =>
    have h0 := en_cw w os
    rw [h] at h0
    cases h0
  | some s => exact congrArg some (congrArg Prod.snd (atE h (en_cw w os)))
set_option maxHeartbeats 0 in
theorem enHolds (k : enR.wellSaid = true → enR.Holds) : PySem.Challenge.rw_wiresindark_k00_errors_keep_their_value.Holds := by
  w_on; o_law
  exact k (by assumption)
set_option maxHeartbeats 0 in
theorem enOk : (PySem.W.chainsOk (PySem.W.view enR.prog [74]) && PySem.W.opensWell enR.prog && (PySem.W.frees enR.toRowW && enR.within.isEmpty)) = true := by decide +kernel
set_option maxHeartbeats 0 in
theorem enHw : enR.toRowW.promised := by w_witness2
theorem enHd : PySem.W.defOf (PySem.W.view enR.prog [74]) enR.name = some (HandSHeadRun.topDef enR.prog 74, []) := by kernel_rfl
theorem enHp : enR.prog.theDef enR.name = some ((HandSHeadRun.topDef enR.prog 74).params, (HandSHeadRun.topDef enR.prog 74).body, (HandSHeadRun.topDef enR.prog 74).scope) := by kernel_rfl
theorem enEq : PySem.W.opening enR.prog = PySem.W.plainProg enR.prog.main.scope.names := by kernel_rfl
theorem enFe : ∀ s, fenceModules? enR.prog s = some s := fun s => by kernel_rfl
theorem enBa : enR.prog.bare := ⟨rfl, rfl, rfl, rfl, rfl, by decide +kernel⟩
end Fd

namespace Wd
open PySem PySem.Spec PyProof.Rows L2
set_option maxHeartbeats 1000000 in
theorem meets_enum1 {v : Value} {o : Obj} {G : Heap → Prop} (B : Begins v o G) :
    Meets (Builtin.«enumerate.__new__» ⟨[.type "enumerate", v], []⟩) (fun _ R s => G s.heap ∧ R (.ok (.ret (.ref (s.heap.push o).objs.size))) { s with heap := (s.heap.push o).push { cls := .type "enumerate", data := .fields #[.none, .bool false, .ref s.heap.objs.size, rawInt 0, .none, .none] } }) :=
  .of_wp fun prog w A R s hh => by
    obtain ⟨hp, gn, dr, tk, os⟩ := s
    obtain ⟨hg, hh⟩ := hh
    have hsub := sub_enumerate
    have step : ∀ {A' : Around} {E : Value → Shared → Prop} {Q : Value → Shared → Prop}, Q (.ref hp.objs.size) ⟨hp.push o, gn, dr, tk, os⟩ → wpAny (model prog w) A' (pyIter v) Q E ⟨hp, gn, dr, tk, os⟩ := fun q => B.iter prog w _ _ ⟨hp, gn, dr, tk, os⟩ _ hg q
    wp_walk using step
    refine wpAny_stack_any fun st => wpAny_pure ?_
    split
    · rename_i c _ _ _ _ _
      cases (c == Value.type "enumerate") <;> (wp_walk using step; exact ⟨_, rfl, hh⟩)
    · wp_walk using step
      exact ⟨_, rfl, hh⟩
section
variable {prog : Program} {w : World} {A : Around} {E : Value → Shared → Prop} {s : Shared}
theorem enum_one {v : Value} {o : Obj} {G : Heap → Prop} {Q : Value → Shared → Prop} (B : Begins v o G) (hg : G s.heap)
    (k : ∀ h', IsEnum h' (s.heap.objs.size + 1) s.heap.objs.size 0 .none → h'.get? s.heap.objs.size = some o → h'.objs.size = s.heap.objs.size + 2 → (∀ b o, s.heap.get? b = some o → h'.get? b = some o) → Q (.ref (s.heap.objs.size + 1)) { s with heap := h' }) :
    wpAny (model prog w) A (call (.type "enumerate") [v]) Q E s := by
  refine callType_new F.called_enumerate (by decide) (F.typeCall_enumerate_1 _) (F.newCall_enumerate_1 _) (fun obj => F.args_object_init_2 obj _) F.entry_enumerate_new (meets_enum1 B) ⟨hg, ?_⟩
  have hz : (s.heap.push o).objs.size = s.heap.objs.size + 1 := Heap.size_push ..
  show _ ∧ _
  rw [hz]
  have he : IsEnum ((s.heap.push o).push { cls := .type "enumerate", data := .fields #[.none, .bool false, .ref s.heap.objs.size, rawInt 0, .none, .none] }) (s.heap.objs.size + 1) s.heap.objs.size 0 .none := by
    have := Heap.get?_push_size (s.heap.push o) (o := { cls := .type "enumerate", data := .fields #[.none, .bool false, .ref s.heap.objs.size, rawInt 0, .none, .none] }) rfl
    rw [hz] at this
    exact this
  exact ⟨⟨_, he, rfl⟩, k _ he (Heap.get?_push_of_some _ (Heap.get?_push_size _ B.free)) (by rw [Heap.size_push, hz]) fun b o x => Heap.get?_push_of_some _ (Heap.get?_push_of_some _ x)⟩
end
def Itp (G : Hp → Prop) (n : Nat) (ys : Nat → List V) : It :=
  ⟨fun i H => G H ∧ i < n, fun i H v H' => ∃ T, v = .ref T ∧ H T = none ∧ H' = upd H T (.tup (ys i)), fun i H => G H ∧ i = n⟩
theorem inv_turned {X : Cx} {pins : List (Addr × Obj)} {σ : L2.St} {H : Hp} {s : Shared} {h' : Heap} {tk : Nat} {own : List Addr} (I : Inv X pins σ H s) (k : ∀ b o, b ∉ own → s.heap.get? b = some o → h'.get? b = some o) (hf : ∀ b ∈ own, FpOk X pins H b) :
    Inv X pins σ H { s with heap := h', toks := tk } := by
  have nit : ∀ b u, H b = some u → b ∉ own := fun b u e z => by
    have q := (hf b z).1
    rw [q] at e
    cases e
  refine I.step (g' := s.gens) (d' := s.drawn) (ch := own) (fun b hb => ⟨(hf b hb).2.2.2.1, (hf b hb).2.1, (hf b hb).2.2.2.2.1, (hf b hb).2.2.2.2.2⟩) (fun b o _ _ hc e _ => k b o hc e) (fun b o _ _ hc e _ => ⟨o.slots, k b o hc e⟩) (fun _ _ _ _ n => n)
    (fun b o hc e => ⟨o, k b o hc e⟩) (fun _ _ e => e) (fun _ _ _ e => e) (fun b ps e => ⟨#[], by rw [e]; simp⟩) (fun m hm => ?_) (fun b u e => ?_) I.bare
  · obtain ⟨o, es, ep, ho, r⟩ := hm
    exact ⟨o, es, ep, k _ o (fun z => (hf _ z).2.1 rfl) ho, r⟩
  · refine (I.hok b u e).stay (fun c v hc q => k c v ?_ q) (fun _ q => q) fun _ _ q => q
    rcases hc with z | z
    · rw [z]
      exact nit b u e
    · exact nit c _ z
theorem turn_new {γ : Type} {P : Program} {w : World} {K : PySem.W.Frag} {tg : Expr} {it : Addr} {own fx wr : List Addr} {n : Nat} {C : γ → Prop} {Y : γ → Nat → Heap → Value → Heap → Prop} {Sx : γ → Nat → Heap → Prop} {tn : Nat → Heap → Prop} {G : Hp → Prop} {ys : Nat → List V}
    (W : ∀ c, C c → ∀ A : Around, A.handled = none → GoesN P w A tg it (own ++ fx) wr n (Y c) (Sx c)) (mem : it ∈ own) (sub : ∀ b ∈ wr, b ∈ own)
    (obj : ∀ i h, tn i h → ∀ b ∈ own, ∃ o, h.get? b = some o ∧ ∀ v, o.data ≠ .cell v) (keep : ∀ i h h', tn i h → (∀ b ∈ own, ∀ o, h.get? b = some o → h'.get? b = some o) → tn i h')
    (up : ∀ (X : Cx) (i : Nat) (pins : List (Addr × Obj)) (s : Shared) (σ : L2.St) (H : Hp), X.K = K → Inv X pins σ H s → G H → tn i s.heap → ∃ c, C c ∧ Sx c i s.heap) (down : ∀ c i h, Sx c i h → tn i h)
    (yl : ∀ c, C c → ∀ i h₀ v h, i < n → Y c i h₀ v h → ∃ T us, v = .ref T ∧ h₀.objs.size ≤ T ∧ h.IsTuple T us.toArray ∧ Vals (ys i) us) (len : ∀ i, (ys i).length ≤ sizeLine)
    (self : ∀ (A : Around) (i : Nat) (s : Shared) (Q : Value → Shared → Prop) (E : Value → Shared → Prop), tn i s.heap → Q (.ref it) s → wpAny (model P w) A (pyIter (.ref it)) Q E s) : Turn P w K tg (Itp G n ys) own it tn where
  mem := mem
  obj := obj
  keep := keep
  item := by
    intro X hP hw hK hc i pins s σ H E I hf st hg
    subst hP hw
    obtain ⟨hG, hi⟩ := hg
    obtain ⟨c, hC, sx⟩ := up X i pins s σ H hK I hG st
    refine (W c hC X.A (I.ok.hd hc)).goes i s _ E hi sx fun v h' tk y st' hk htk => ?_
    obtain ⟨T, us, rfl, hT, ht, r⟩ := yl c hC i s.heap v h' hi y
    have new : ObjOk X.prog X.w (upd H T (.tup (ys i))) h' T (.tup (ys i)) := ⟨len i, us, r, ht⟩
    have I1 : Inv X pins σ (upd H T (.tup (ys i))) { s with heap := h', toks := tk } := I.turnedNew (ch := own) (fun b ob hb q => hk b ob (fun z => hb (sub b z)) q) hf hT new
    refine ⟨.ref T, _, I1, rfl, ⟨T, rfl, I.hok.fresh hT, rfl⟩, down c _ _ st', fun b hb => ?_⟩
    obtain ⟨o, ho, _⟩ := obj i s.heap st b hb
    rw [upd_ne (Nat.ne_of_lt (Nat.lt_of_lt_of_le (Heap.lt_size ho) hT))]
    exact (hf b hb).1
  done := by
    intro X hP hw hK hc i pins s σ H E I hf st hg
    subst hP hw
    obtain ⟨hG, rfl⟩ := hg
    obtain ⟨c, hC, sx⟩ := up X i pins s σ H hK I hG st
    exact (W c hC X.A (I.ok.hd hc)).stops s _ E sx fun h' tk hk htk => inv_turned I (fun b o hb q => hk b o (fun z => hb (sub b z)) q) hf
  self := self

section
variable {X : Cx} {e : Expr} {ta : TA} {p pos tpos : Pos} {elts : List Expr} {kk : Nat}
def iEnumT (K : PySem.W.Frag) (ta : TA) : TI := fun σ H R => ta σ H fun vs H1 => ∃ a xs, vs = [.ref a] ∧ SqT K H1 a xs ∧ R (Itp (fun H => SqT K H a xs) xs.length fun i => [.int (i : Int), xs.getD i .non]) H1
theorem pi_enumT (hg : Gl X "enumerate") (hm : X.mg "enumerate" = none) (ha : PA X [e] ta) (hs : starEach [e] X.env = [(false, eval e X.env)] := by rfl) : PI X (.Tuple elts kk tpos) (.Call (.Name "enumerate" p) [e] [] pos) (iEnumT X.K ta) := by
  refine ⟨fun pins s σ H R I h => ?_⟩
  refine Call_ (ld_blt I hg hm boot_enumerate (PyProof.Rows.callWith_type1 (thn (ha.run pos pins s σ H _ I h) fun us s1 ⟨vs, H1, I1, r1, q1⟩ => ?_) hs rfl))
  obtain ⟨a, xs, rfl, hq, q⟩ := q1
  cases r1 with
  | cons r rr =>
    cases rr
    cases r
    obtain ⟨its, rv, ht, hz⟩ := I1.tuple hq
    have la : a < s1.heap.objs.size := ht.lt
    refine enum_one (begins_tuple a its.toArray) ht fun h' he hit hsz hk => wpAny_pyIter_enum he ?_
    have I2 : Inv X pins σ H1 { s1 with heap := h' } := I1.kept (t' := s1.toks) hk
    have ne1 : s1.heap.objs.size + 1 ≠ s1.heap.objs.size := Nat.succ_ne_self _
    have ne2 : a ≠ s1.heap.objs.size := Nat.ne_of_lt la
    have ne3 : s1.heap.objs.size + 1 ∉ [s1.heap.objs.size, a] := by
      intro z
      rcases List.mem_cons.mp z with z | z
      · exact ne1 z
      · exact absurd (List.mem_singleton.mp z).symm (Nat.ne_of_lt (Nat.lt_succ_of_lt la))
    refine ⟨s1.heap.objs.size + 1, [s1.heap.objs.size + 1, s1.heap.objs.size], fun i h => (∃ old, IsEnum h (s1.heap.objs.size + 1) s1.heap.objs.size (0 + (i : Int)) old) ∧ h.IsTupleIter s1.heap.objs.size a i, _, H1, rfl, I2,
      turn_new (γ := List Value) (fx := [a]) (C := fun c => Vals xs c) (Y := fun c i h₀ v h => ∃ T t x, v = .ref T ∧ h₀.objs.size ≤ T ∧ c.toArray[i]? = some x ∧ h.IsTuple T #[.int (0 + (i : Int)) t, x])
        (Sx := fun c i h => (∃ old, IsEnum h (s1.heap.objs.size + 1) s1.heap.objs.size (0 + (i : Int)) old) ∧ h.IsTupleIter s1.heap.objs.size a i ∧ h.IsTuple a c.toArray)
        (fun c hC A hh => by
          have W := GoesN.enumFrom (prog := X.prog) (w := X.w) (A := A) (elts := elts) (x1 := kk) (pos := tpos) 0 (Draws.tuple (A := A.in1) hh s1.heap.objs.size a ne2 c.toArray) (s1.heap.objs.size + 1) ne1 ne3 (by simp)
          have e : c.toArray.size = xs.length := by rw [List.size_toArray, hC.length]
          rw [e] at W
          exact W) (by simp) (by simp) ?_ ?_ ?_ ?_ ?_ ?_ ?_, ⟨⟨.none, he⟩, _, hit, rfl, rfl⟩, ?_, q⟩
    · rintro i h ⟨⟨old, he⟩, o, ho, _, hd⟩ b hb
      rcases List.mem_cons.mp hb with z | z
      · rw [z]
        exact ⟨_, he, fun v q => nomatch q⟩
      · rw [List.mem_singleton.mp z]
        exact ⟨o, ho, fun v q => by rw [hd] at q; cases q⟩
    · rintro i h h' ⟨⟨old, he⟩, hi⟩ k
      exact ⟨⟨old, k _ (by simp) _ he⟩, hi.at fun o q => k _ (by simp) o q⟩
    · rintro X' i pins' s' σ' H' hK I' hG ⟨he, hi⟩
      rw [← hK] at hG
      obtain ⟨its', rv', ht', _⟩ := I'.tuple hG
      exact ⟨its', rv', he, hi, ht'⟩
    · rintro c i h ⟨he, hi, _⟩
      exact ⟨he, hi⟩
    · rintro c hC i h₀ v h hi ⟨T, t, x, rfl, hT, hx, ht⟩
      have hx' : c[i]? = some x := by simpa using hx
      have hi2 : i < xs.length := hi
      obtain ⟨u, hu, ru⟩ := hC.get (List.getElem?_eq_getElem hi2)
      rw [hu] at hx'
      cases hx'
      refine ⟨T, [.int (0 + (i : Int)) t, x], rfl, hT, ht, .cons ⟨t, by rw [Int.zero_add]⟩ (.cons ?_ .nil)⟩
      rw [List.getD_eq_getElem?_getD, List.getElem?_eq_getElem hi2]
      exact ru
    · exact fun i => by show (2 : Nat) ≤ sizeLine; decide
    · rintro A i s' Q E ⟨⟨old, he⟩, _⟩ hQ
      exact wpAny_pyIter_enum he hQ
    · intro b hb
      have hle : s1.heap.objs.size ≤ b := by
        rcases List.mem_cons.mp hb with z | z
        · rw [z]
          exact Nat.le_succ _
        · rw [List.mem_singleton.mp z]
          exact Nat.le_refl _
      exact I1.fpOk hle (I1.hok.fresh hle)
def iEnumS (ta : TA) : TI := fun σ H R => ta σ H fun vs H1 => ∃ z : Str, vs = [.str z] ∧ R (Itp (fun _ => True) z.cps.size fun i => [.int (i : Int), .str ⟨#[z.cps.getD i 0]⟩]) H1
theorem pi_enumS (hg : Gl X "enumerate") (hm : X.mg "enumerate" = none) (ha : PA X [e] ta) (hs : starEach [e] X.env = [(false, eval e X.env)] := by rfl) : PI X (.Tuple elts kk tpos) (.Call (.Name "enumerate" p) [e] [] pos) (iEnumS ta) := by
  refine ⟨fun pins s σ H R I h => ?_⟩
  refine Call_ (ld_blt I hg hm boot_enumerate (PyProof.Rows.callWith_type1 (thn (ha.run pos pins s σ H _ I h) fun us s1 ⟨vs, H1, I1, r1, q1⟩ => ?_) hs rfl))
  obtain ⟨z, rfl, q⟩ := q1
  cases r1 with
  | cons r rr =>
    cases rr
    obtain ⟨t, rfl⟩ := r
    refine call_enumerate_str fun h' he hit hsz hk => wpAny_pyIter_enum he ?_
    have I2 : Inv X pins σ H1 { s1 with heap := h' } := I1.kept (t' := s1.toks) hk
    have ne1 : s1.heap.objs.size + 1 ≠ s1.heap.objs.size := Nat.succ_ne_self _
    have ne3 : s1.heap.objs.size + 1 ∉ [s1.heap.objs.size] := fun z => ne1 (List.mem_singleton.mp z)
    refine ⟨s1.heap.objs.size + 1, [s1.heap.objs.size + 1, s1.heap.objs.size], fun i h => (∃ old, IsEnum h (s1.heap.objs.size + 1) s1.heap.objs.size (0 + (i : Int)) old) ∧ h.IsStrIter s1.heap.objs.size (strIterType z) z t i, _, H1, rfl, I2,
      turn_new (γ := Unit) (fx := []) (C := fun _ => True) (Y := fun _ i h₀ v h => ∃ T u x, v = .ref T ∧ h₀.objs.size ≤ T ∧ (∃ c u, z.cps[i]? = some c ∧ x = .str ⟨#[c]⟩ u) ∧ h.IsTuple T #[.int (0 + (i : Int)) u, x])
        (Sx := fun _ i h => (∃ old, IsEnum h (s1.heap.objs.size + 1) s1.heap.objs.size (0 + (i : Int)) old) ∧ h.IsStrIter s1.heap.objs.size (strIterType z) z t i)
        (fun _ _ A hh => GoesN.enumFrom (prog := X.prog) (w := X.w) (A := A) (elts := elts) (x1 := kk) (pos := tpos) 0 (Draws.text (A := A.in1) hh s1.heap.objs.size z t) (s1.heap.objs.size + 1) ne1 ne3 (by simp)) (by simp) (by simp) ?_ ?_ ?_ ?_ ?_ ?_ ?_, ⟨⟨.none, he⟩, hit⟩, ?_, q⟩
    · rintro i h ⟨⟨old, he⟩, o, ho, _, hd⟩ b hb
      rcases List.mem_cons.mp hb with z | z
      · rw [z]
        exact ⟨_, he, fun v q => nomatch q⟩
      · rw [List.mem_singleton.mp z]
        exact ⟨o, ho, fun v q => by rw [hd] at q; cases q⟩
    · rintro i h h' ⟨⟨old, he⟩, o, ho, r⟩ k
      exact ⟨⟨old, k _ (by simp) _ he⟩, o, k _ (by simp) _ ho, r⟩
    · exact fun X' i pins' s' σ' H' hK I' hG st => ⟨(), trivial, st⟩
    · exact fun c i h st => st
    · rintro c hC i h₀ v h hi ⟨T, u, x, rfl, hT, ⟨cc, u', hx, rfl⟩, ht⟩
      refine ⟨T, [.int (0 + (i : Int)) u, .str ⟨#[cc]⟩ u'], rfl, hT, ht, .cons ⟨u, by rw [Int.zero_add]⟩ (.cons ⟨u', ?_⟩ .nil)⟩
      rw [Array.getD_eq_getD_getElem?, hx]
      rfl
    · exact fun i => by show (2 : Nat) ≤ sizeLine; decide
    · rintro A i s' Q E ⟨⟨old, he⟩, _⟩ hQ
      exact wpAny_pyIter_enum he hQ
    · intro b hb
      have hle : s1.heap.objs.size ≤ b := by
        rcases List.mem_cons.mp hb with z | z
        · rw [z]
          exact Nat.le_succ _
        · rw [List.mem_singleton.mp z]
          exact Nat.le_refl _
      exact I1.fpOk hle (I1.hok.fresh hle)
end
theorem Same.new {H : Hp} {p : Addr} {o : HO} (h : H p = none) : Same H (upd H p o) := fun b u e => by
  rw [upd_ne (ne_of_none e h)]
  exact e
def hide (D : Addr) (H : Hp) : Hp := fun b => if b = D then none else H b
theorem hide_ne {D b : Addr} {H : Hp} (h : b ≠ D) : hide D H b = H b := by
  unfold hide
  rw [if_neg h]
theorem hide_same {D : Addr} {H H' : Hp} (x : Same H H') : Same (hide D H) (hide D H') := fun b o e => by
  unfold hide at e ⊢
  by_cases h : b = D
  · rw [if_pos h] at e
    cases e
  · rw [if_neg h] at e ⊢
    exact x b o e
theorem hide_upd {D : Addr} {H : Hp} {o : HO} : hide D (upd H D o) = hide D H := by
  funext b
  unfold hide
  by_cases h : b = D
  · rw [if_pos h, if_pos h]
  · rw [if_neg h, if_neg h, upd_ne h]
theorem Paired.snoc {α β : Type} {F : α → β → Prop} {a : α} {b : β} : ∀ {l₁ : List α} {l₂ : List β}, Paired F l₁ l₂ → F a b → Paired F (l₁ ++ [a]) (l₂ ++ [b])
  | _, _, .nil, h => .cons h .nil
  | _, _, .cons r t, h => .cons r (Paired.snoc t h)
section
variable {J : It} {n : Nat} {G : Hp → Prop} {Y : Nat → Hp → V → Hp → Prop} {g : TG} {tt : TT} {te : TE} {vs : List Nat} {σ : L2.St} {H1 : Hp} {D : Addr} {Qd : Hp → Prop}
theorem walk_r0 {n : Nat} : Walk (Itr 0 n) n (fun _ => True) (YFn fun i => .int (i : Int)) := walk_range.mono (fun _ h => h) fun i H x H' _ _ y => ⟨y.1, y.2.trans (congrArg V.int (Int.zero_add _))⟩
end
theorem dt_set {X : Cx} {pn : List (Addr × Obj)} {σ : L2.St} {H : Hp} {s : Shared} {E : Value → Shared → Prop} {D b : Addr} {kvs : List (List Key × V)} {k : List Key} {v : V} {r : Value} {Q : Unit → Shared → Prop} (hu : X.A.units + 1 < cLine) (I : Inv X pn σ H s) (eD : H D = some (.dT kvs)) (eb : H b = some (.tup (k.map kV)))
    (hz : kvs.length < sizeLine) (rv : RelV v r) (go : ∀ s', Inv X pn σ (upd H D (.dT (putK kvs k v))) s' → Q () s') : wpAny (model X.prog X.w) X.A (dictSet D (.ref b) r) Q E s := by
  obtain ⟨_, nd, xs, rel, dd⟩ := dt_of I.hok eD
  have lx : xs.length ≤ sizeLine := by
    rw [← Paired.length rel]
    exact Nat.le_of_lt hz
  have lk : (putK kvs k v).length ≤ sizeLine := by
    have := length_putK kvs k v
    omega
  refine wpAny_dictSet_heap (hsz := lx) (Nat.lt_of_succ_lt hu) (key_of I.hok eb) dd fun h1 d1 sb => go _ ?_
  obtain ⟨q, es, ep, hq, h2, h3, h4, _, h5⟩ := d1
  refine d_write I (by rw [eD]; exact True.intro) sb ⟨q, hq⟩ ⟨lk, nd, _, (rel.put k eb rv).keeps fun c ys ec => ?_, q, es, ep, hq, h2, h3, h4, h5⟩
  rw [upd_ne (ne_of ec eD fun z => nomatch z)]
  exact ec
section
variable {X : Cx}
def tDt (wi : TI) (g : TG) (tt : TT) (tk tv : TE) (vs : List Nat) : TE := fun σ H Q => wi σ H fun J Hn => ∀ D, Hn D = none → ∃ W : Nat → Nat → Hp → Prop, (∃ m, W 0 m (upd Hn D (.dT []))) ∧ ∀ i m Ha, W i m Ha →
  (J.stop i Ha ∧ Q (.ref D) Ha) ∨ (J.go i Ha ∧ ∃ Nx : Hp → Prop, (∀ Hb, Nx Hb → ∃ m', m' < m ∧ W (i + 1) m' Hb) ∧ ∀ x Hb, J.yld i Ha x Hb → g x (wipe σ vs) Hb fun σc Hc => wipe σc vs = wipe σ vs ∧ tt σc Hc fun b Hd =>
    if b = true then tk σc Hd fun y He => tv σc He fun z Hf => ∃ kvs k c, y = .ref c ∧ Hf c = some (.tup (k.map kV)) ∧ Hf D = some (.dT kvs) ∧ kvs.length < sizeLine ∧ Nx (upd Hf D (.dT (putK kvs k z))) else Nx Hd)
theorem pe_dt {kx vx tg iter : Expr} {ifs : List Expr} {scope : Scope} {own : List (Str × Nat)} {pos : Pos} {wi : TI} {g : TG} {tt : TT} {tk tv : TE} (hu : X.A.units + 1 < cLine) (hc : X.calm = true) (hN : X.N.Nodup) (hi : PI X tg iter wi) (ok : BlkOk X.N X.env.scope scope own)
    (hg : ∀ (s : Shared) (H : Hp) (C : Addr) (cl : List (Str × Addr)) (fp : List Addr), PG (X.blk s H scope (compEnvC scope cl C X.env) fp) tg g)
    (ht : ∀ (s : Shared) (H : Hp) (C : Addr) (cl : List (Str × Addr)) (fp : List Addr), PTs (X.blk s H scope (compEnvC scope cl C X.env) fp) ifs tt)
    (hk : ∀ (s : Shared) (H : Hp) (C : Addr) (cl : List (Str × Addr)) (fp : List Addr), PE (X.blk s H scope (compEnvC scope cl C X.env) fp) kx tk)
    (hv : ∀ (s : Shared) (H : Hp) (C : Addr) (cl : List (Str × Addr)) (fp : List Addr), PE (X.blk s H scope (compEnvC scope cl C X.env) fp) vx tv) (hs : ∀ x, foldedSetIterable iter X.env x = pure x := by intro _; rfl) :
    PE X (.DictComp kx vx [⟨tg, iter, ifs, 0⟩] scope pos) (tDt wi g tt tk tv (own.map (·.2))) := by
  refine ⟨fun pn s σ H Q I hq => ?_⟩
  rw [arm_eval_DictComp]
  have hfree : ∀ y ∈ scope.names, y.2 = .free → ∃ c, X.env.cells.lookup y.1 = some c := fun y hy e => (ok.free y hy e).elim (fun z => I.ok.has _ (.inl z)) (fun z => I.ok.has _ (.inr z))
  refine wpAny_comprehension_free (use := none) rfl hs (closure_ok hfree) ok.kind (fun y hy e => by rw [ok.uniq y hy, e]) (thn (hi.run pn s σ H _ I hq) fun xv sa hx => thn hx fun itv sb hb => ?_)
  obtain ⟨it, fp, tn, J, Hb, rfl, Ib, T, stb, fb, q⟩ := hb
  refine wpAny_newObj_type (newEnv_comp ?_)
  generalize eD : sb.heap.objs.size = D
  have fD : Hb D = none := Ib.hok.fresh (Nat.le_of_eq eD)
  obtain ⟨W, ⟨m0, w0⟩, turn⟩ := q D fD
  generalize es : ({ sb with heap := sb.heap.push { cls := .type "dict", data := .dict #[] } } : Shared) = sc
  have hpc : sc.heap = sb.heap.push { cls := .type "dict", data := .dict #[] } := by rw [← es]
  have Ic : Inv X pn σ (upd Hb D (.dT [])) sc := by
    rw [← es]
    refine Ib.laid (t' := sb.toks) (fun b o e => Heap.get?_push_of_some _ e) (Nat.le_of_eq eD) ?_
    rw [← eD]
    exact dt_empty sb.heap Ib.big
  have fc : ∀ b ∈ fp, FpOk X pn (upd Hb D (.dT [])) b ∧ b < sc.heap.objs.size := fun b hb => by
    obtain ⟨o, e, _⟩ := T.obj _ _ stb b hb
    have lt := Heap.lt_size e
    refine ⟨⟨?_, (fb b hb).2⟩, by rw [hpc, Heap.size_push]; exact Nat.lt_succ_of_lt lt⟩
    rw [upd_ne (by rw [← eD]; exact Nat.ne_of_lt lt)]
    exact (fb b hb).1
  have stc : tn 0 sc.heap := T.keep _ _ _ stb fun b _ o e => by rw [hpc]; exact Heap.get?_push_of_some _ e
  have Id := block_start Ic ok hN fc
  have pg := hg sc (upd Hb D (.dT [])) sc.heap.objs.size (cellsFrom (sc.heap.objs.size + 1) scope.names (cloFrom X.env.cells scope.names [])) fp
  have pt := ht sc (upd Hb D (.dT [])) sc.heap.objs.size (cellsFrom (sc.heap.objs.size + 1) scope.names (cloFrom X.env.cells scope.names [])) fp
  have pk := hk sc (upd Hb D (.dT [])) sc.heap.objs.size (cellsFrom (sc.heap.objs.size + 1) scope.names (cloFrom X.env.cells scope.names [])) fp
  have pv' := hv sc (upd Hb D (.dT [])) sc.heap.objs.size (cellsFrom (sc.heap.objs.size + 1) scope.names (cloFrom X.env.cells scope.names [])) fp
  show codeAny _ _ (.compStart (.DictComp kx vx [⟨tg, iter, ifs, 0⟩] scope pos) 0 (.ref it) (.ref D) (compEnvC scope (cellsFrom (sc.heap.objs.size + 1) scope.names (cloFrom X.env.cells scope.names [])) sc.heap.objs.size X.env)) (compPost (model X.prog X.w) X.A X.xe none (EP X pn σ Q) (.ref D) sc.heap.objs.size)
    { sc with heap := pushCells (sc.heap.push { cls := .type "dict", data := .dict #[] }) scope.names }
  have nfp : ∀ b ∈ fp, (upd Hb D (.dT [])) b = none := fun b hb => (fc b hb).1.1
  generalize ece : compEnvC scope (cellsFrom (sc.heap.objs.size + 1) scope.names (cloFrom X.env.cells scope.names [])) sc.heap.objs.size X.env = ce at Id pg pt pk pv' ⊢
  have lce : ce.locals = sc.heap.objs.size := by
    subst ece
    rfl
  generalize eHc : upd Hb D (.dT []) = Hc at Ic Id pg pt pk pv' w0 nfp fc
  generalize esd : ({ sc with heap := pushCells (sc.heap.push { cls := .type "dict", data := .dict #[] }) scope.names } : Shared) = sd at Id ⊢
  have std : tn 0 sd.heap := T.keep _ _ _ stc fun b _ o e => by rw [← esd]; exact pushCells_keeps _ _ _ _ (Heap.get?_push_of_some _ e)
  have fpo : ∀ {σ' : L2.St} {H' : Hp} {s' : Shared}, Inv (X.blk sc Hc scope ce fp) [] σ' H' s' → (∀ b ∈ fp, H' b = none) → ∀ b ∈ fp, FpOk (X.blk sc Hc scope ce fp) [] H' b := fun {σ' H' s'} I' hn b hb =>
    ⟨hn b hb, (I'.ok.exf b hb).1, I'.ok.exfs b hb, .inl hb, fun x c e => (I'.ok.exf b hb).2 x c e, fun p hp => nomatch (show p ∈ ([] : List (Addr × Obj)) ++ [] from hp)⟩
  have loop : codeAny (model X.prog X.w) X.A (.compLoop (.DictComp kx vx [⟨tg, iter, ifs, 0⟩] scope pos) 0 (.ref it) (.ref D) ce) (compPost (model X.prog X.w) X.A X.xe none (EP X pn σ Q) (.ref D) sc.heap.objs.size) sd := by
    refine compLoop_anyD (fun n s' => ∃ i H', Inv (X.blk sc Hc scope ce fp) [] (wipe σ (own.map (·.2))) H' s' ∧ tn i s'.heap ∧ (∀ b ∈ fp, H' b = none) ∧ W i n H') ?_ m0 ⟨0, Hc, Id, std, nfp, w0⟩
    rintro n se ⟨i, He, Ie, ste, ne, we⟩
    rcases turn i n He we with ⟨stop, fin⟩ | ⟨go, Nx, hNx, step⟩
    · refine thnF (T.done (X.blk sc Hc scope ce fp) rfl rfl rfl hc i [] se _ He (fun _ _ => False) Ie (fpo Ie ne) ste stop) fun r sf ⟨hr, If⟩ => ?_
      subst hr
      have Ig : Inv X pn σ He sf := Ic.call' (ch := fp) If.os If.base If.hok If.bare fun b hb => ⟨(fc b hb).1.2.2.2.1, (fc b hb).1.2.1, (fc b hb).1.2.2.2.2.1, (fc b hb).1.2.2.2.2.2⟩
      have nC : He sc.heap.objs.size = none := by
        have z : He ce.locals = none := If.free
        rwa [lce] at z
      obtain ⟨m, hn, _⟩ := If.loc
      have hn2 : sf.heap.Ns ce.locals m := hn
      rw [lce] at hn2
      obtain ⟨f0, f1, f2, f3, f4, f5⟩ := Ic.fpOk (Nat.le_refl _) nC
      exact ⟨m, hn2, fun h'' sm => ⟨.ref D, He, Ig.turned (t' := sf.toks) (fun b o hb e => (sm.2 b hb).trans e) f0 f1 f3 f4 f5, rfl, fin⟩⟩
    · refine thnF (T.item (X.blk sc Hc scope ce fp) rfl rfl rfl hc i [] se _ He (fun _ _ => False) Ie (fpo Ie ne) ste go) fun r sf ⟨u, hr, hf⟩ => ?_
      subst hr
      refine thnF hf fun _ sg ⟨x, Hg, Ig, rg, yg, stg, ng⟩ => ?_
      refine thnF (pg.run _ sg _ Hg x u _ (Ig.pinned (fpo Ig ng) (T.obj _ _ stg)) rg (step x Hg yg)) fun _ sh ⟨σh, Hh, Ih, wh, qh⟩ => ?_
      refine thnF (pt.run _ sh σh Hh _ Ih qh) fun b sj ⟨Hj, Ij, qj⟩ => ?_
      have fin : ∀ {s' : Shared} {H' : Hp}, Inv (X.blk sc Hc scope ce fp) ([] ++ pinsAt fp sg.heap) σh H' s' → Nx H' → ∃ m, m < n ∧ ∃ i H', Inv (X.blk sc Hc scope ce fp) [] (wipe σ (own.map (·.2))) H' s' ∧ tn i s'.heap ∧ (∀ b ∈ fp, H' b = none) ∧ W i m H' := fun {s' H'} I' nx => by
        obtain ⟨m', hm, w'⟩ := hNx H' nx
        have pin : ∀ b ∈ fp, ∀ o, sg.heap.get? b = some o → s'.heap.get? b = some o ∧ H' b = none := fun b hb o e =>
          have z := I'.pin (b, o) (List.mem_append_right _ (List.mem_append_right _ (mem_pinsAt hb e)))
          ⟨z.1, z.2.1⟩
        refine ⟨m', hm, i + 1, H', (I'.unpinned (pins := [])).weak (by rw [← wh, wipe_length]) (fun j v e => ?_), T.keep _ _ _ stg fun b hb o e => (pin b hb o e).1, fun b hb => ?_, w'⟩
        · rw [← wh] at e
          exact (wipe_some e).1
        · obtain ⟨o, e, _⟩ := T.obj _ _ stg b hb
          exact (pin b hb o e).2
      cases b with
      | false =>
        simp only [Bool.false_eq_true, if_false] at qj ⊢
        exact fin Ij qj
      | true =>
        simp only [if_true] at qj ⊢
        refine thnF (pk.run _ sj σh Hj _ Ij qj) fun z sk ⟨yk, Hk, Ik, rk, qk⟩ => ?_
        refine thnF (pv'.run _ sk σh Hk _ Ik qk) fun z2 sl ⟨yv, Hl, Il, rl, kvs, k, c, ec, et, ed, hz, nx⟩ => ?_
        subst ec
        cases (show z = Value.ref c from rk)
        exact dt_set (X := X.blk sc Hc scope ce fp) hu Il ed et hz rl fun sm Im => fin Im nx
  exact codeAny_compStart_dict loop (T.self X.A 0 _ _ _ std loop)
end
def SameD (D : Addr) (H H' : Hp) : Prop := Same (hide D H) (hide D H')
theorem SameD.refl (D : Addr) (H : Hp) : SameD D H H := Same.refl _
theorem SameD.trans {D : Addr} {H H1 H2 : Hp} (a : SameD D H H1) (b : SameD D H1 H2) : SameD D H H2 := L2.Same.trans a b
theorem SameD.of {D : Addr} {H H' : Hp} (x : Same H H') : SameD D H H' := hide_same x
theorem SameD.upd {D : Addr} {H : Hp} {o : HO} : SameD D H (L2.upd H D o) := by
  unfold SameD
  rw [hide_upd]
  exact Same.refl _
theorem SameD.at_ {D b : Addr} {H H' : Hp} {o : HO} (x : SameD D H H') (hb : b ≠ D) (e : H b = some o) : H' b = some o := by
  have q : hide D H b = some o := by
    rw [hide_ne hb]
    exact e
  have r := x b o q
  rw [hide_ne hb] at r
  exact r
theorem SameD.same {D : Addr} {H H' : Hp} (x : SameD D H H') (hD : H D = none) : Same H H' := fun b o e => x.at_ (ne_of_none e hD) e
def places (n : Nat) (m : Nat → Nat) (keep : Nat → Nat → Bool) : List (Nat × Nat) := (List.range n).flatMap fun i => ((List.range (m i)).filter (keep i)).map fun j => (i, j)
theorem places_snoc (n : Nat) (m : Nat → Nat) (keep : Nat → Nat → Bool) : places (n + 1) m keep = places n m keep ++ ((List.range (m n)).filter (keep n)).map fun j => (n, j) := by
  unfold places
  rw [List.range_succ, List.flatMap_append]
  simp
theorem Paired.app {α β : Type} {F : α → β → Prop} : ∀ {l₁ l₃ : List α} {l₂ l₄ : List β}, Paired F l₁ l₂ → Paired F l₃ l₄ → Paired F (l₁ ++ l₃) (l₂ ++ l₄)
  | _, _, _, _, .nil, h => h
  | _, _, _, _, .cons r t, h => .cons r (Paired.app t h)
theorem places_len (m : Nat → Nat) (keep : Nat → Nat → Bool) (b : Nat) (hm : ∀ i, m i ≤ b) : ∀ n, (places n m keep).length ≤ n * b
  | 0 => by simp [places]
  | n + 1 => by
    rw [places_snoc, List.length_append, List.length_map]
    have h1 := places_len m keep b hm n
    have h2 := List.length_filter_le (keep n) (List.range (m n))
    rw [List.length_range] at h2
    have h3 := hm n
    rw [Nat.add_mul]
    omega
structure FnG (P : Program) (w : World) (K : PySem.W.Frag) (mg : Str → Option Value) (base : Heap) (CX : CXT) (k : Nat) (f : Addr) (fd : FuncData) (ps : List Str) (sp : Sp) : Prop where
  len : ∀ vs H Q E, sp vs H Q E → vs.length = ps.length
  run : ∀ (A : Around), A.guards = some [] → ∀ (outer : List Env) (s : Shared) (H : Hp) (args : Args) (us : List Value) (vs : List V) (Q : VK) (E : XK), Room k A → Env0 P w K mg base A outer s H → BindsTo s fd args (ps.zip us) → Vals vs us → sp vs H Q E →
    codeAny (model P w) A (.call (.ref f) args) (CR CX outer P w H s Q E) s
theorem fng_of2 {CX : CXT} {P : Program} {w : World} {K : PySem.W.Frag} {mg : Str → Option Value} {base : Heap} {k : Nat} {x qual : Str} {pa : Arguments} {bd : List Stmt} {sc : Scope} {dV kV doc pm cdv ct oc : Value} {an od : Option Addr} {osl : Array (Option Value)} {f : Addr} {N ps : List Str} {sp : Sp} (lk : K.lookup f = some ⟨oc, od, .func (PySem.W.fnOf x qual pa bd sc dV kV doc pm an cdv ct), osl⟩) (hcd : PySem.W.codeIn K cdv qual = true) (S : FnScope N ps sc)
    (len : ∀ vs H Q E, sp vs H Q E → vs.length = ps.length)
    (body : ∀ (A : Around) (outer : List Env) (s : Shared) (H : Hp) (vs : List V) (Q : VK) (E : XK), A.guards = some [] → Room k (A.deeper (envOfC qual sc s.heap.objs.size f cdv)) → sp vs H Q E →
      ∃ t, PSs (cxOf CX P w K mg base N qual sc f cdv A outer s H E) bd t ∧ t { nx := fun _ H' => Q .non H', rt := Q } (start N vs) H) : FnG P w K mg base CX (k + 1) f (PySem.W.fnOf x qual pa bd sc dV kV doc pm an cdv ct) ps sp := by
  refine ⟨len, fun A ga outer s H args us vs Q E room env bind rel pre => ?_⟩
  have kin : K.In s.heap := env.mod.kin.keeps fun b o e => (env.bs b o e).1
  have lim : s.heap.NoLimit := env.mod.nolimit.keeps fun b o e => (env.bs b o e).1
  have par : ∀ y ∈ ps.zip us, sc.names.lookup y.1 = some .local ∨ (sc.names.lookup y.1 = some .cell ∧ ((cellsFrom (s.heap.objs.size + 1) sc.names []).lookup y.1).isSome = true) := fun y hy =>
    (S.par y.1 (List.of_mem_zip (show (y.1, y.2) ∈ ps.zip us from hy)).1).imp id fun q => ⟨q, PySem.W.cellsFrom_some _ _ _ (.inl q)⟩
  refine codeAny_call_function room.depth (kin _ _ lk) rfl S.co S.gen rfl (PySem.W.codeRec_of kin hcd) (bind _ _ _ _ ?_)
  refine wpAny_newFunctionEnv_cells S.kind par fun env' he s1 inC => ?_
  subst he
  refine ⟨lim.keeps inC.toInCall.keep, codeAny_func ?_⟩
  obtain ⟨t, ht, hq⟩ := body A outer s H vs Q E ga (room.deeper _) pre
  have I : Inv (cxOf CX P w K mg base N qual sc f cdv A outer s H E) [] (start N vs) H s1 := inv_start S room.hd env (len _ _ _ _ pre) rel inC
  refine wpAny_mono (ht.run [] s1 (start N vs) H _ I hq) (fun fl s' hs => ?_) fun _ _ z => z
  cases fl with
  | ret u =>
    obtain ⟨v, σ', H', J, rv, q⟩ := hs
    exact ⟨v, H', J.os, J.bare, J.base, J.hok, rv, q⟩
  | next =>
    obtain ⟨σ', H', J, q⟩ := hs
    exact ⟨V.non, H', J.os, J.bare, J.base, J.hok, rfl, q⟩
  | brk => exact False.elim hs.choose_spec.choose_spec.2
  | cont => exact False.elim hs.choose_spec.choose_spec.2
theorem fng_of {CX : CXT} {P : Program} {w : World} {K : PySem.W.Frag} {mg : Str → Option Value} {base : Heap} {k : Nat} {x qual : Str} {pa : Arguments} {bd : List Stmt} {sc : Scope} {dvs : List V} {kws : List (Str × V)} {f : Addr} {fd : FuncData} {N ps : List Str} {sp : Sp} (F : FunD K x qual pa bd sc dvs kws f fd) (S : FnScope N ps sc)
    (len : ∀ vs H Q E, sp vs H Q E → vs.length = ps.length)
    (body : ∀ (cdv : Value) (A : Around) (outer : List Env) (s : Shared) (H : Hp) (vs : List V) (Q : VK) (E : XK), A.guards = some [] → Room k (A.deeper (envOfC qual sc s.heap.objs.size f cdv)) → sp vs H Q E →
      ∃ t, PSs (cxOf CX P w K mg base N qual sc f cdv A outer s H E) bd t ∧ t { nx := fun _ H' => Q .non H', rt := Q } (start N vs) H) : FnG P w K mg base CX (k + 1) f fd ps sp := by
  obtain ⟨oc, od, dV, kV, doc, pm, an, cdv, ct, osl, rfl, lk, hcd, _, _⟩ := F.ex
  exact fng_of2 lk hcd S len fun A outer s H vs Q E ga hr h => body cdv A outer s H vs Q E ga hr h
section
variable {X : Cx} {CX : CXT} {k : Nat} {f : Addr} {fd : FuncData} {ps : List Str} {sp : Sp} {E : XK} {x : Str} {p pos : Pos} {e : Expr} {es : List Expr} {t : TA}
theorem run_g {pn : List (Addr × Obj)} {σ : L2.St} {H : Hp} {s : Shared} {Q : VK} {us : List Value} {vs : List V} (ga : X.A.guards = some []) (F : FnG X.prog X.w X.K X.mg X.base CX k f fd ps sp) (hr : Room k X.A) (hb : Binds X.K fd ps []) (hx : Passes CX X E)
    (I : Inv X pn σ H s) (r : Vals vs us) (h : sp vs H Q E) : wpAny (model X.prog X.w) X.A (call (.ref f) us) (EP X pn σ Q) X.xe s := by
  have hl : (us ++ []).length = ps.length := by
    rw [List.append_nil, ← r.length]
    exact F.len _ _ _ _ h
  have bd := hb s us I.kIn hl
  rw [List.append_nil] at bd
  refine wpAny_call (codeAny_mono (F.run X.A ga X.stack s H ⟨us, []⟩ us vs Q E hr I.env0 bd r h) fun res s' hq => ?_)
  cases res with
  | error er => exact hx pn σ H s er s' I hq
  | ok fl =>
    cases fl with
    | ret u => exact I.after hq
    | next => exact False.elim hq
    | brk => exact False.elim hq
    | cont => exact False.elim hq
theorem pe_callG (ga : X.A.guards = some []) (F : FnG X.prog X.w X.K X.mg X.base CX k f fd ps sp) (hr : Room k X.A) (hg : Gl X x) (hm : X.mg x = some (.ref f)) (hk : PySem.W.keepIn X.K (.ref f) = true) (hb : Binds X.K fd ps []) (hx : Passes CX X E)
    (ha : PA X (e :: es) t) (hdb : (x == ("__debug__" : Str)) = false := by decide) (he : starEach (e :: es) X.env = (false, eval e X.env) :: starEach es X.env := by rfl) (hpl : (backTo pos (starEach es X.env)).any (·.1) = false := by rfl) :
    PE X (.Call (.Name x p) (e :: es) [] pos) (fun σ H Q => t σ H fun vs H1 => sp vs H1 Q E) := by
  refine ⟨fun pn s σ H Q I h => ?_⟩
  refine wpAny_Call_Name_kw (ld_glob I hg hm ?_ hdb)
  refine PySem.W.callWith_K (h₀ := X.base) I.ok.mod.kin hk (thn (ha.run pos pn s σ H _ I h) fun us s1 ⟨vs, H1, I1, r, q⟩ => ⟨I1.kIn, ?_⟩) he hpl
  exact run_g ga F hr hb hx I1 r q
end
section
variable {X : Cx} {CX : CXT} {k : Nat} {C f : Addr} {fd : FuncData} {ps : List Str} {sp : Sp} {E : XK}
theorem self_rel (b : Addr) : RelV (V.ref b) (Value.ref b) := rfl
theorem inst_of {pn : List (Addr × Obj)} {σ : L2.St} {H : Hp} {s : Shared} {b dx : Addr} {fs : List (Str × V)} (I : Inv X pn σ H s) (h : H b = some (.ins C dx fs)) : ∃ ox od, PySem.W.InstAt s.heap b ox C od := by
  obtain ⟨mA, O, _⟩ := ins_get I.hok h
  obtain ⟨od, J, _⟩ := O.look
  exact ⟨_, _, J⟩
def rInOwn (C : Addr) (sp : Sp) (E : XK) (neg : Bool) : R2 := fun x y H Q => ∃ b dx fs, y = .ref b ∧ H b = some (.ins C dx fs) ∧ sp [y, x] H (fun z H' => ∃ c, z = .bl c ∧ Q (.bl (neg ^^ c)) H') E
theorem op_in_own (m : Meth X.K C "__contains__" f) (F : FnOk X.prog X.w X.K X.mg X.base CX k f fd ps sp) (hr : Room k X.A) (hb : Binds X.K fd ps []) (hx : Passes CX X E) : OpR X (compareOp .In) (rInOwn C sp E false) := by
  intro pn s σ H x y v u Q I rx ry h
  obtain ⟨b, dx, fs, rfl, hbH, h⟩ := h
  cases ry
  obtain ⟨ox, od, J⟩ := inst_of I hbH
  obtain ⟨ml, hF⟩ := I.fr
  refine PySem.W.in_K hF I.ok.mod.kin J m.at_ m.fn (thn (run_fn F hr hb .nil hx I (.cons (self_rel b) (.cons rx .nil)) h) fun r s' ⟨z, H', I', rz, c, ez, q⟩ => ?_)
  subst ez
  cases rz
  refine wpAny_truthy_bool ⟨.bl c, H', I', rfl, ?_⟩
  cases c <;> exact q
theorem op_eq_own (m : Meth X.K C "__eq__" f) (F : FnOk X.prog X.w X.K X.mg X.base CX k f fd ps sp) (hr : Room k X.A) (hb : Binds X.K fd ps []) (hx : Passes CX X E) :
    OpR X (compareOp .Eq) (fun x y H Q => ∃ b dx fs t, x = .ref b ∧ H b = some (.ins C dx fs) ∧ TyX X.K H y t ∧ PySem.W.notFirst X.K C t = true ∧ sp [x, y] H (fun z H' => ∃ c, z = .bl c ∧ Q (.bl c) H') E) := by
  intro pn s σ H x y v u Q I rx ry h
  obtain ⟨b, dx, fs, t, rfl, hbH, ty, hn, h⟩ := h
  cases rx
  obtain ⟨ox, od, J⟩ := inst_of I hbH
  obtain ⟨ml, hF⟩ := I.fr
  obtain ⟨Pp, Z, pz, _⟩ := kit_of I ry ty
  show wpAny (model X.prog X.w) X.A (richCompare .Eq (.ref b) u) (EP X pn σ Q) X.xe s
  refine PySem.W.cmp_K (op := .Eq) hr.units0 hF I.ok.mod.kin J (Z.ty _ _ I.kIn pz) hn m.at_ m.fn (thn (run_fn F hr hb .nil hx I (.cons (self_rel b) (.cons ry .nil)) h) fun res s' ⟨z, H', I', rz, c, ez, q⟩ => ?_)
  subst ez
  cases rz
  exact ⟨.bl c, H', I', rfl, q⟩
end
structure NeF (K : PySem.W.Frag) (C : Addr) : Prop where
  ne : PySem.W.findIn K (.ref C) "__ne__" = some (some (.builtin "object.__ne__"))
  ob : PySem.W.mroIn K C (.type "object") = some true
structure Two (K : PySem.W.Frag) (C D f g : Addr) (nm : String) : Prop where
  ne : (Value.ref C == Value.ref D) = false
  sfC : PySem.W.selfFirst K C = true
  sfD : PySem.W.selfFirst K D = true
  at_ : PySem.W.findIn K (.ref C) (PySem.dunder nm) = some (some (.ref f))
  fn : PySem.W.isFn K (.ref f) = true
  atD : PySem.W.findIn K (.ref D) (PySem.dunder nm) = some (some (.ref g))
  rC : PySem.W.findIn K (.ref C) (PySem.dunderR nm) = some none
  rD : PySem.W.findIn K (.ref D) (PySem.dunderR nm) = some none
  sub : PySem.W.subIn K (.ref D) (.ref C) = some false
abbrev ZCell (h : Heap) (N n : Nat) (f0 f1 : Value) : Prop := h.get? (N + n + 2) = some { cls := .type "zip", dict := none, data := .fields #[f0, f1, .bool false, .ref (N + n), .ref (N + n + 1)], slots := #[] }
abbrev ZTup (h : Heap) (T : Addr) (vs : Array Value) : Prop := h.get? T = some { cls := .type "tuple", data := .seq vs }
def zits (N n : Nat) : List Value := (List.range n).map fun j => .ref (N + j)
def ZIt (N n : Nat) (zs : Nat → Str) (ts : Nat → Tok) (k i : Nat) (h : Heap) : Prop := ∀ j, j < n → h.IsStrIter (N + j) (strIterType (zs j)) (zs j) (ts j) (if j < k then i + 1 else i)
def ZOwn (f0 f1 : Value) : Prop := (f0 = .none ∨ ∃ T : Nat, f0 = rawInt T) ∧ ∃ b, f1 = .bool b
structure ZOk (N n : Nat) (zs : Nat → Str) (ts : Nat → Tok) (i : Nat) (h : Heap) : Prop where
  cell : ∃ f0 f1, ZCell h N n f0 f1 ∧ ZOwn f0 f1
  ti : ZTup h (N + n) (zits N n).toArray
  to : ∃ a : Array Value, a.size = n ∧ ZTup h (N + n + 1) a
  it : ZIt N n zs ts 0 i h
theorem ZIt.ext {N n : Nat} {zs : Nat → Str} {ts : Nat → Tok} {k i : Nat} {h h' : Heap} (st : ZIt N n zs ts k i h) (e : ∀ j, j < n → ∀ o, h.get? (N + j) = some o → h'.get? (N + j) = some o) : ZIt N n zs ts k i h' := fun j hj => by
  obtain ⟨o, ho, r⟩ := st j hj
  exact ⟨o, e j hj o ho, r⟩
theorem ZIt.done {N n : Nat} {zs : Nat → Str} {ts : Nat → Tok} {i : Nat} {h : Heap} (st : ZIt N n zs ts n i h) : ZIt N n zs ts 0 (i + 1) h := fun j hj => by
  have := st j hj
  rw [if_pos hj] at this
  rw [if_neg (Nat.not_lt_zero j)]
  exact this
structure ZMid (N n : Nat) (zs : Nat → Str) (ts : Nat → Tok) (i : Nat) (f0 f1 : Value) (hp : Heap) (k : Nat) (h : Heap) : Prop where
  cell : ZCell h N n f0 f1
  ti : ZTup h (N + n) (zits N n).toArray
  to : ∃ a : Array Value, a.size = n ∧ ZTup h (N + n + 1) a
  it : ZIt N n zs ts k i h
  sz : h.objs.size = hp.objs.size
  keep : ∀ c o, (∀ j, j < n + 3 → c ≠ N + j) → hp.get? c = some o → h.get? c = some o
theorem ZMid.push {N n : Nat} {zs : Nat → Str} {ts : Nat → Tok} {i : Nat} {f0 f1 : Value} {hp h h' : Heap} (M : ZMid N n zs ts i f0 f1 hp n h) (ho : ZOwn f0 f1) (e : ∀ c o, h.get? c = some o → h'.get? c = some o) : ZOk N n zs ts (i + 1) h' where
  cell := ⟨f0, f1, e _ _ M.cell, ho⟩
  ti := e _ _ M.ti
  to := let ⟨a, ha, x⟩ := M.to; ⟨a, ha, e _ _ x⟩
  it := (M.it.ext fun j hj o x => e _ _ x).done
section
variable {prog : Program} {w : World} {A : Around} {E : Value → Shared → Prop} {s : Shared} {N n k i wd : Nat} {zs : Nat → Str} {ts : Nat → Tok}
def zown (N n : Nat) : List Addr := (List.range (n + 3)).map fun j => N + j
theorem zown_mem {j : Nat} (hj : j < n + 3) : (N + j : Nat) ∈ zown N n := List.mem_map.mpr ⟨j, List.mem_range.mpr hj, rfl⟩
theorem ZOk.frame {h h' : Heap} (st : ZOk N n zs ts i h) (k : ∀ b ∈ zown N n, ∀ o, h.get? b = some o → h'.get? b = some o) : ZOk N n zs ts i h' where
  cell := let ⟨f0, f1, hz, ho⟩ := st.cell; ⟨f0, f1, k _ (zown_mem (j := n + 2) (by omega)) _ hz, ho⟩
  ti := k _ (zown_mem (j := n) (by omega)) _ st.ti
  to := let ⟨a, ha, x⟩ := st.to; ⟨a, ha, k _ (zown_mem (j := n + 1) (by omega)) _ x⟩
  it := st.it.ext fun j hj o e => k _ (zown_mem (j := j) (by omega)) _ e
end
end Wd

namespace Fd
open PySem PySem.Spec PyProof.Rows L2 Wd
inductive RepB (N : Cn) (O : Addr → Prop) (H : Hp) : V → D → Prop
  | of {v : V} {d : D} : Rep N O H v d → RepB N O H v d
  | own {a : Addr} {vs : List V} {ds : List D} : O a → H a = some (.lst vs) → Reps N O H vs ds → RepB N O H (.ref a) (.lst ds)
def tDB (N : Cd) (f : F) : TE := fun σ H Q => ∃ Z O ρ Qd, Sim N Z O ρ σ H ∧ f ρ Qd Z.E ∧ ∀ v H' O' d ρ', Ext O H O' H' → Sim N Z O' ρ' σ H' → RepB N O' H' v d → Qd d ρ' → Q v H'
theorem db {X : Cx} {e : Expr} {N : Cd} {f : F} (h : PE X e (tD N f)) : PE X e (tDB N f) := PE.imp h fun _ _ _ ⟨Z, O, ρ, Qd, S, q, k⟩ => ⟨Z, O, ρ, Qd, S, q, fun v H' O' d ρ' x S' r q' => k v H' O' d ρ' x S' (.of r) q'⟩
abbrev Dom (O : Addr → Prop) (H : Hp) : Prop := ∀ a, O a → H a ≠ none
abbrev W1 := D → (D → Prop) → (Nat → D → Prop) → Prop
abbrev W2 := D → D → (D → Prop) → (Nat → D → Prop) → Prop
abbrev WL := List D → (D → Prop) → (Nat → D → Prop) → Prop
def o1 (op : D → Option D) : W1 := fun x Q _ => ∃ d, op x = some d ∧ Q d
def o2 (op : D → D → Option D) : W2 := fun x y Q _ => ∃ d, op x y = some d ∧ Q d
def oL (op : List D → Option D) : WL := fun xs Q _ => ∃ d, op xs = some d ∧ Q d
def Sv1 (N : Cd) (r : V → Hp → VK → Prop) (op : W1) : Prop := ∀ O H x dx Qd Ed Q, XqT N O H Ed → Dm N O H → RepB N O H x dx → op dx Qd Ed → (∀ v H' d, SmT N H H' → Rep N O H' v d → Qd d → Q v H') → r x H Q
def Sv2 (N : Cd) (r : R2) (op : W2) : Prop := ∀ O H x y dx dy Qd Ed Q, XqT N O H Ed → Dm N O H → Rep N O H x dx → RepB N O H y dy → op dx dy Qd Ed → (∀ v H' d, SmT N H H' → Rep N O H' v d → Qd d → Q v H') → r x y H Q
def SvL (N : Cd) (r : List V → Hp → VK → Prop) (op : WL) : Prop := ∀ O H xs ds Qd Ed Q, XqT N O H Ed → Dm N O H → Reps N O H xs ds → op ds Qd Ed → (∀ v H' d, SmT N H H' → Rep N O H' v d → Qd d → Q v H') → r xs H Q
def SvC (N : Cd) (r : List V → Hp → VK → Prop) (op : W1) : Prop := ∀ O H x dx Qd Ed Q, XqT N O H Ed → Dm N O H → RepB N O H x dx → op dx Qd Ed → (∀ v H' d, SmT N H H' → Rep N O H' v d → Qd d → Q v H') → r [x] H Q
def eVar (i : Nat) : F := fun ρ Q _ => ∃ d, ρ[i]? = some (Sl.val d) ∧ Q d ρ
def eOwn (i : Nat) : F := fun ρ Q _ => ∃ ds, ρ[i]? = some (Sl.own ds) ∧ Q (.lst ds) ρ
def eC (d : D) : F := fun ρ Q _ => Q d ρ
def e1 (op : W1) (a : F) : F := fun ρ Q E => a ρ (fun x ρ1 => op x (fun d => Q d ρ1) E) E
def e2 (op : W2) (a b : F) : F := fun ρ Q E => a ρ (fun x ρ1 => b ρ1 (fun y ρ2 => op x y (fun d => Q d ρ2) E) E) E
def eL (op : WL) (a : FL) : F := fun ρ Q E => a ρ (fun xs ρ1 => op xs (fun d => Q d ρ1) E) E
def aNil : FL := fun ρ Q _ => Q [] ρ
def aCons (a : F) (r : FL) : FL := fun ρ Q E => a ρ (fun x ρ1 => r ρ1 (fun xs ρ2 => Q (x :: xs) ρ2) E) E
def bVal (a : F) : FT := fun ρ Q E => a ρ (fun x ρ1 => ∃ b, x = .bl b ∧ Q b ρ1) E
def bAnd (a b : FT) : FT := fun ρ Q E => a ρ (fun x ρ1 => if x = true then b ρ1 Q E else Q false ρ1) E
def bOr (a b : FT) : FT := fun ρ Q E => a ρ (fun x ρ1 => if x = true then Q true ρ1 else b ρ1 Q E) E
def bNot (a : FT) : FT := fun ρ Q E => a ρ (fun x ρ1 => Q (!x) ρ1) E
def eAnd (a b : F) : F := fun ρ Q E => a ρ (fun x ρ1 => ∃ k, x = .bl k ∧ if k = true then b ρ1 Q E else Q (.bl false) ρ1) E
def eOr (a b : F) : F := fun ρ Q E => a ρ (fun x ρ1 => ∃ k, x = .bl k ∧ if k = true then Q (.bl true) ρ1 else b ρ1 Q E) E
def eNot (a : F) : F := fun ρ Q E => a ρ (fun x ρ1 => ∃ k, x = .bl k ∧ Q (.bl (!k)) ρ1) E
def eIf (t : FT) (a b : F) : F := fun ρ Q E => t ρ (fun x ρ1 => if x = true then a ρ1 Q E else b ρ1 Q E) E
def eChain (op op' : W2) (a b c : F) : F := fun ρ Q E => a ρ (fun x ρ1 => b ρ1 (fun y ρ2 => op x y (fun d => ∃ k, d = .bl k ∧ if k = true then c ρ2 (fun z ρ3 => op' y z (fun d => Q d ρ3) E) E else Q (.bl false) ρ2) E) E) E
def opTup (ds : List D) : Option D := if ds.length ≤ sizeLine then some (.tup ds) else none
def opLst (ds : List D) : Option D := if ds.length ≤ sizeLine then some (.lst ds) else none
section
variable {X : Cx} {N : Cd} {a b c e o : Expr} {es : List Expr} {pos apos : Pos} {fa fb fc : F} {fl : FL} {ta tb : FT}
theorem Sim.ref {Z : Zd} {O : Addr → Prop} {ρ : Env} {σ : L2.St} {H : Hp} {i : Nat} {s : Sl} (S : Sim N Z O ρ σ H) (h : ρ[i]? = some s) : ∃ v, σ[i]? = some v ∧ SlotOk N Z O H v s := by
  have hl : i < σ.length := by
    rw [← S.len]
    exact (List.getElem?_eq_some_iff.mp h).1
  exact ⟨σ[i], List.getElem?_eq_getElem hl, S.slot i s _ h (List.getElem?_eq_getElem hl)⟩
theorem de_of_var {i : Nat} (h : PE X e (tVar i)) : PE X e (tD N (eVar i)) := PE.imp h fun σ H Q ⟨Z, O, ρ, Qd, S, ⟨d, hd, q⟩, k⟩ => by
  obtain ⟨v, hv, x, rfl, r⟩ := S.ref hd
  exact ⟨x, hv, k x H O d ρ Ext.refl S r q⟩
theorem de_of_own {i : Nat} (h : PE X e (tVar i)) : PE X e (tDB N (eOwn i)) := PE.imp h fun σ H Q ⟨Z, O, ρ, Qd, S, ⟨ds, hd, q⟩, k⟩ => by
  obtain ⟨v, hv, a, vs, rfl, m, h1, r⟩ := S.ref hd
  exact ⟨.ref a, hv, k _ H O _ ρ Ext.refl S (.own m.1 h1 r) q⟩
theorem de_of_c {v : V} {d : D} (h : PE X e (tC v)) (r : ∀ O H, Rep N O H v d) : PE X e (tD N (eC d)) := PE.imp h fun σ H Q ⟨Z, O, ρ, Qd, S, q, k⟩ => k v H O d ρ Ext.refl S (r O H) q
theorem de_int {i j} : PE X (.Constant (.int i) j pos) (tD N (eC (.int i))) := de_of_c pe_int fun _ _ => .int i
theorem de_bl {b j} : PE X (.Constant (.bool b) j pos) (tD N (eC (.bl b))) := de_of_c pe_bl fun _ _ => .bl b
theorem de_non {j} : PE X (.Constant .none j pos) (tD N (eC .non)) := de_of_c pe_non fun _ _ => .non
theorem de_str {x j} : PE X (.Constant (.str x) j pos) (tD N (eC (.str x))) := de_of_c pe_str fun _ _ => .str x
theorem de_op {op : Operator} {r : R2} {f : W2} (ho : OpR X (binaryOp op) r) (sv : Sv2 N r f) (ha : PE X a (tD N fa)) (hb : PE X b (tDB N fb)) : PE X (.BinOp a op b pos) (tD N (e2 f fa fb)) :=
  PE.imp (pe_op ho ha hb) fun σ H Q ⟨Z, O, ρ, Qd, S, q, k⟩ => ⟨Z, O, ρ, _, S, q, fun v1 H1 O1 d1 ρ1 x1 S1 r1 q1 => ⟨Z, O1, ρ1, _, S1, q1, fun v2 H2 O2 d2 ρ2 x2 S2 r2 q2 =>
    sv O2 H2 v1 v2 d1 d2 _ Z.E Q S2.xq S2.dm (r1.ext x2) r2 q2 fun v H3 d s r3 q3 => k v H3 O2 d ρ2 ((x1.trans x2).trans (S2.ext s)) (S2.smt s) r3 q3⟩⟩
theorem de_cmp {op : CmpOp} {r : R2} {f : W2} (ho : OpR X (compareOp op) r) (sv : Sv2 N r f) (ha : PE X a (tD N fa)) (hb : PE X b (tDB N fb)) (hm : behindInMarks op b = false) : PE X (.Compare a [op] [b] pos) (tD N (e2 f fa fb)) :=
  PE.imp (pe_cmpR ho ha hb hm) fun σ H Q ⟨Z, O, ρ, Qd, S, q, k⟩ => ⟨Z, O, ρ, _, S, q, fun v1 H1 O1 d1 ρ1 x1 S1 r1 q1 => ⟨Z, O1, ρ1, _, S1, q1, fun v2 H2 O2 d2 ρ2 x2 S2 r2 q2 =>
    sv O2 H2 v1 v2 d1 d2 _ Z.E Q S2.xq S2.dm (r1.ext x2) r2 q2 fun v H3 d s r3 q3 => k v H3 O2 d ρ2 ((x1.trans x2).trans (S2.ext s)) (S2.smt s) r3 q3⟩⟩
theorem de_un {op : UnaryOp} {r : V → Hp → VK → Prop} {f : W1} (ho : UnR X (unaryOp op) r) (sv : Sv1 N r f) (ha : PE X a (tDB N fa)) : PE X (.UnaryOp op a pos) (tD N (e1 f fa)) :=
  PE.imp (pe_un ho ha) fun σ H Q ⟨Z, O, ρ, Qd, S, q, k⟩ => ⟨Z, O, ρ, _, S, q, fun v1 H1 O1 d1 ρ1 x1 S1 r1 q1 =>
    sv O1 H1 v1 d1 _ Z.E Q S1.xq S1.dm r1 q1 fun v H3 d s r3 q3 => k v H3 O1 d ρ1 (x1.trans (S1.ext s)) (S1.smt s) r3 q3⟩
theorem de_chain {op op' : CmpOp} {r r' : R2} {f f' : W2} (ho : OpR X (compareOp op) r) (ho' : OpR X (compareOp op') r') (sv : Sv2 N r f) (sv' : Sv2 N r' f') (ha : PE X a (tD N fa)) (hb : PE X b (tD N fb)) (hc : PE X c (tD N fc))
    (hm : lastMarks [op, op'] [b, c] = false := by with_unfolding_all rfl) : PE X (.Compare a [op, op'] [b, c] pos) (tD N (eChain f f' fa fb fc)) :=
  PE.imp (pe_chain ho ho' ha hb hc hm) fun σ H Q ⟨Z, O, ρ, Qd, S, q, k⟩ => ⟨Z, O, ρ, _, S, q, fun v1 H1 O1 d1 ρ1 x1 S1 r1 q1 => ⟨Z, O1, ρ1, _, S1, q1, fun v2 H2 O2 d2 ρ2 x2 S2 r2 q2 =>
    sv O2 H2 v1 v2 d1 d2 _ Z.E _ S2.xq S2.dm (r1.ext x2) (.of r2) q2 fun v H3 d3 s r3 ⟨kb, e3, q2⟩ => by
      subst e3
      cases r3
      refine ⟨kb, rfl, ?_⟩
      cases kb with
      | false => exact k _ H3 O2 _ ρ2 ((x1.trans x2).trans (S2.ext s)) (S2.smt s) (.bl false) q2
      | true => exact ⟨Z, O2, ρ2, _, S2.smt s, q2, fun v4 H4 O4 d4 ρ4 x4 S4 r4 q4 => sv' O4 H4 v2 v4 d2 d4 _ Z.E Q S4.xq S4.dm (r2.ext ((S2.ext s).trans x4)) (.of r4) q4 fun v H5 d s5 r5 q5 =>
          k v H5 O4 d ρ4 (((x1.trans x2).trans ((S2.ext s).trans x4)).trans (S4.ext s5)) (S4.smt s5) r5 q5⟩⟩⟩
theorem de_and {rest : List Expr} (ha : PE X a (tD N fa)) (hb : PE X (.BoolOp .And (b :: rest) pos) (tD N fb)) : PE X (.BoolOp .And (a :: b :: rest) pos) (tD N (eAnd fa fb)) :=
  PE.imp (pe_and ha hb) fun σ H Q ⟨Z, O, ρ, Qd, S, q, k⟩ => ⟨Z, O, ρ, _, S, q, fun v1 H1 O1 d1 ρ1 x1 S1 r1 ⟨kb, e, q1⟩ => by
    subst e
    cases r1
    refine ⟨kb, rfl, ?_⟩
    cases kb with
    | false => exact k _ H1 O1 _ ρ1 x1 S1 (.bl false) q1
    | true => exact ⟨Z, O1, ρ1, Qd, S1, q1, fun v2 H2 O2 d2 ρ2 x2 S2 r2 q2 => k v2 H2 O2 d2 ρ2 (x1.trans x2) S2 r2 q2⟩⟩
theorem de_or {rest : List Expr} (ha : PE X a (tD N fa)) (hb : PE X (.BoolOp .Or (b :: rest) pos) (tD N fb)) : PE X (.BoolOp .Or (a :: b :: rest) pos) (tD N (eOr fa fb)) :=
  PE.imp (pe_or ha hb) fun σ H Q ⟨Z, O, ρ, Qd, S, q, k⟩ => ⟨Z, O, ρ, _, S, q, fun v1 H1 O1 d1 ρ1 x1 S1 r1 ⟨kb, e, q1⟩ => by
    subst e
    cases r1
    refine ⟨kb, rfl, ?_⟩
    cases kb with
    | true => exact k _ H1 O1 _ ρ1 x1 S1 (.bl true) q1
    | false => exact ⟨Z, O1, ρ1, Qd, S1, q1, fun v2 H2 O2 d2 ρ2 x2 S2 r2 q2 => k v2 H2 O2 d2 ρ2 (x1.trans x2) S2 r2 q2⟩⟩
theorem de_one {op} (h : PE X a (tD N fa)) : PE X (.BoolOp op [a] pos) (tD N fa) := pe_one h
theorem de_ifExp (hc : L2.PT X c (tDT N ta)) (ha : PE X a (tD N fa)) (hb : PE X b (tD N fb)) : PE X (.IfExp c a b pos) (tD N (eIf ta fa fb)) :=
  PE.imp (pe_ifExp hc ha hb) fun σ H Q ⟨Z, O, ρ, Qd, S, q, k⟩ => ⟨Z, O, ρ, _, S, q, fun kb H1 O1 ρ1 x1 S1 q1 => by
    cases kb with
    | true => exact iteT ⟨Z, O1, ρ1, Qd, S1, q1, fun v2 H2 O2 d2 ρ2 x2 S2 r2 q2 => k v2 H2 O2 d2 ρ2 (x1.trans x2) S2 r2 q2⟩
    | false => exact iteF ⟨Z, O1, ρ1, Qd, S1, q1, fun v2 H2 O2 d2 ρ2 x2 S2 r2 q2 => k v2 H2 O2 d2 ρ2 (x1.trans x2) S2 r2 q2⟩⟩
theorem dt_of {t : TE} {f : F} (h : L2.PT X e (tTest t)) (i : ∀ σ H Q, tD N f σ H Q → t σ H Q) : L2.PT X e (tDT N (bVal f)) :=
  PT.imp h fun σ H Q ⟨Z, O, ρ, Qd, S, q, k⟩ => i σ H _ ⟨Z, O, ρ, _, S, q, fun v1 H1 O1 d1 ρ1 x1 S1 r1 ⟨kb, e, q1⟩ => by
    subst e
    cases r1
    exact ⟨kb, rfl, k kb H1 O1 ρ1 x1 S1 q1⟩⟩
theorem dt_cmp {op : CmpOp} {r : R2} {f : W2} (ho : OpR X (compareOp op) r) (sv : Sv2 N r f) (ha : PE X a (tD N fa)) (hb : PE X b (tDB N fb)) (hm : behindInMarks op b = false) : L2.PT X (.Compare a [op] [b] pos) (tDT N (bVal (e2 f fa fb))) :=
  dt_of (pt_cmpR ho ha hb hm) fun σ H Q ⟨Z, O, ρ, Qd, S, q, k⟩ => ⟨Z, O, ρ, _, S, q, fun v1 H1 O1 d1 ρ1 x1 S1 r1 q1 => ⟨Z, O1, ρ1, _, S1, q1, fun v2 H2 O2 d2 ρ2 x2 S2 r2 q2 =>
    sv O2 H2 v1 v2 d1 d2 _ Z.E Q S2.xq S2.dm (r1.ext x2) r2 q2 fun v H3 d s r3 q3 => k v H3 O2 d ρ2 ((x1.trans x2).trans (S2.ext s)) (S2.smt s) r3 q3⟩⟩
theorem dt_chain {op op' : CmpOp} {r r' : R2} {f f' : W2} (ho : OpR X (compareOp op) r) (ho' : OpR X (compareOp op') r') (sv : Sv2 N r f) (sv' : Sv2 N r' f') (ha : PE X a (tD N fa)) (hb : PE X b (tD N fb)) (hc : PE X c (tD N fc))
    (hm : lastMarks [op, op'] [b, c] = false := by with_unfolding_all rfl) : L2.PT X (.Compare a [op, op'] [b, c] pos) (tDT N (bVal (eChain f f' fa fb fc))) :=
  dt_of (pt_chain ho ho' ha hb hc hm) fun σ H Q ⟨Z, O, ρ, Qd, S, q, k⟩ => ⟨Z, O, ρ, _, S, q, fun v1 H1 O1 d1 ρ1 x1 S1 r1 q1 => ⟨Z, O1, ρ1, _, S1, q1, fun v2 H2 O2 d2 ρ2 x2 S2 r2 q2 =>
    sv O2 H2 v1 v2 d1 d2 _ Z.E _ S2.xq S2.dm (r1.ext x2) (.of r2) q2 fun v H3 d3 s r3 ⟨kb, e3, q2⟩ => by
      subst e3
      cases r3
      refine ⟨kb, rfl, ?_⟩
      cases kb with
      | false => exact k _ H3 O2 _ ρ2 ((x1.trans x2).trans (S2.ext s)) (S2.smt s) (.bl false) q2
      | true => exact ⟨Z, O2, ρ2, _, S2.smt s, q2, fun v4 H4 O4 d4 ρ4 x4 S4 r4 q4 => sv' O4 H4 v2 v4 d2 d4 _ Z.E Q S4.xq S4.dm (r2.ext ((S2.ext s).trans x4)) (.of r4) q4 fun v H5 d s5 r5 q5 =>
          k v H5 O4 d ρ4 (((x1.trans x2).trans ((S2.ext s).trans x4)).trans (S4.ext s5)) (S4.smt s5) r5 q5⟩⟩⟩
theorem dt_val (h : PE X e (tD N fa)) (he : ∀ whole, isTrue e X.env whole = (do let v ← whole; standAt e.pos; holding [v] (truthy v)) := by intro _; rfl) : L2.PT X e (tDT N (bVal fa)) :=
  PT.imp (pt_val h he) fun σ H Q ⟨Z, O, ρ, Qd, S, q, k⟩ => ⟨Z, O, ρ, _, S, q, fun v1 H1 O1 d1 ρ1 x1 S1 r1 ⟨kb, e, q1⟩ => by
    subst e
    cases r1
    exact ⟨kb, rfl, k kb H1 O1 ρ1 x1 S1 q1⟩⟩
theorem dt_not (ha : L2.PT X a (tDT N ta)) : L2.PT X (.UnaryOp .Not a pos) (tDT N (bNot ta)) :=
  PT.imp (pt_not ha) fun σ H Q ⟨Z, O, ρ, Qd, S, q, k⟩ => ⟨Z, O, ρ, _, S, q, fun kb H1 O1 ρ1 x1 S1 q1 => k _ H1 O1 ρ1 x1 S1 q1⟩
theorem dw_or1 (ha : L2.PT X a (tDT N ta)) : PW X (.BoolOp .Or [a] pos) (tDT N ta) := pw_or1 ha
theorem dw_or {rest : List Expr} (ha : L2.PT X a (tDT N ta)) (hb : PW X (.BoolOp .Or (b :: rest) pos) (tDT N tb)) : PW X (.BoolOp .Or (a :: b :: rest) pos) (tDT N (bOr ta tb)) :=
  PW.imp (pw_or ha hb) fun σ H Q ⟨Z, O, ρ, Qd, S, q, k⟩ => ⟨Z, O, ρ, _, S, q, fun kb H1 O1 ρ1 x1 S1 q1 => by
    cases kb with
    | true => exact iteT (k _ H1 O1 ρ1 x1 S1 q1)
    | false => exact iteF ⟨Z, O1, ρ1, Qd, S1, q1, fun v2 H2 O2 ρ2 x2 S2 q2 => k v2 H2 O2 ρ2 (x1.trans x2) S2 q2⟩⟩
theorem dt_bool (h : PW X e (tDT N ta)) : L2.PT X e (tDT N ta) := h.pt
theorem da_nil : PA X [] (tDL N aNil) := PA.imp pa_nil fun σ H Q ⟨Z, O, ρ, Qd, S, q, k⟩ => k [] H O [] ρ Ext.refl S .nil q
theorem da_cons (ha : PE X e (tD N fa)) (hr : PA X es (tDL N fl)) (hs : starEach (e :: es) X.env = (false, eval e X.env) :: starEach es X.env := by rfl) : PA X (e :: es) (tDL N (aCons fa fl)) :=
  PA.imp (pa_cons ha hr hs) fun σ H Q ⟨Z, O, ρ, Qd, S, q, k⟩ => ⟨Z, O, ρ, _, S, q, fun v1 H1 O1 d1 ρ1 x1 S1 r1 q1 => ⟨Z, O1, ρ1, _, S1, q1, fun vs H2 O2 ds ρ2 x2 S2 r2 q2 =>
    k _ H2 O2 _ ρ2 (x1.trans x2) S2 (.cons (r1.ext x2) r2) q2⟩⟩
theorem newTup {O : Addr → Prop} {H : Hp} {vs : List V} {ds : List D} {p : Addr} (r : Reps N O H vs ds) (hp : H p = none) : Rep N O (upd H p (.tup vs)) (.ref p) (.tup ds) := .tup upd_same (r.ext (Ext.same (Wd.Same.new hp)))
theorem newLst {O : Addr → Prop} {H : Hp} {vs : List V} {ds : List D} {p : Addr} (dm : Dom O H) (r : Reps N O H vs ds) (hp : H p = none) : Rep N O (upd H p (.lst vs)) (.ref p) (.lst ds) := .lst (fun z => dm p z hp) upd_same (r.ext (Ext.same (Wd.Same.new hp)))
theorem de_tup {x1} (h : PA X es (tDL N fl)) : PE X (.Tuple es x1 pos) (tD N (eL (oL opTup) fl)) :=
  PE.imp (pe_tup h) fun σ H Q ⟨Z, O, ρ, Qd, S, q, k⟩ => ⟨Z, O, ρ, _, S, q, fun vs H1 O1 ds ρ1 x1 S1 r1 ⟨d, e, q1⟩ => by
    unfold opTup at e
    split at e
    · rename_i hz
      cases e
      refine ⟨by rw [r1.length]; exact hz, fun p hp => ?_⟩
      exact k _ _ O1 _ ρ1 (x1.trans (Ext.same (Wd.Same.new hp))) (S1.same (Wd.Same.new hp)) (newTup r1 hp) q1
    · cases e⟩
theorem de_lst (h : PA X es (tDL N fl)) : PE X (.List es pos) (tD N (eL (oL opLst) fl)) :=
  PE.imp (pe_lst h) fun σ H Q ⟨Z, O, ρ, Qd, S, q, k⟩ => ⟨Z, O, ρ, _, S, q, fun vs H1 O1 ds ρ1 x1 S1 r1 ⟨d, e, q1⟩ => by
    unfold opLst at e
    split at e
    · rename_i hz
      cases e
      refine ⟨by rw [r1.length]; exact hz, fun p hp => ?_⟩
      exact k _ _ O1 _ ρ1 (x1.trans (Ext.same (Wd.Same.new hp))) (S1.same (Wd.Same.new hp)) (newLst S1.dom r1 hp) q1
    · cases e⟩
theorem de_callB {id : String} {r : List V → Hp → VK → Prop} {op : WL} {x : Str} {p : Pos} (hc : CallR X (.builtin id) r) (sv : SvL N r op) (hg : Gl X x) (hm : X.mg x = none) (hv : bootBuiltins x = some (.builtin id)) (ha : PA X (e :: es) (tDL N fl)) (hn : x ≠ "__name__" := by decide) (hdb : (x == ("__debug__" : Str)) = false := by decide)
    (he : starEach (e :: es) X.env = (false, eval e X.env) :: starEach es X.env := by rfl) (hpl : (backTo pos (starEach es X.env)).any (·.1) = false := by rfl) : PE X (.Call (.Name x p) (e :: es) [] pos) (tD N (eL op fl)) :=
  PE.imp (pe_callB hc hg hm hv ha hn hdb he hpl) fun σ H Q ⟨Z, O, ρ, Qd, S, q, k⟩ => ⟨Z, O, ρ, _, S, q, fun vs H1 O1 ds ρ1 x1 S1 r1 q1 =>
    sv O1 H1 vs ds _ Z.E Q S1.xq S1.dm r1 q1 fun v H3 d s r3 q3 => k v H3 O1 d ρ1 (x1.trans (S1.ext s)) (S1.smt s) r3 q3⟩
theorem one_arg {r : List V → Hp → VK → Prop} {op : W1} (sv : SvC N r op) : ∀ σ H Q, tD N (e1 op fa) σ H Q → tCB r (tCons (tDB N fa) tNil) σ H Q := fun σ H Q ⟨Z, O, ρ, Qd, S, q, k⟩ => ⟨Z, O, ρ, _, S, q, fun v1 H1 O1 d1 ρ1 x1 S1 r1 q1 =>
    sv O1 H1 v1 d1 _ Z.E Q S1.xq S1.dm r1 q1 fun v H3 d s r3 q3 => k v H3 O1 d ρ1 (x1.trans (S1.ext s)) (S1.smt s) r3 q3⟩
theorem de_callB1 {id : String} {r : List V → Hp → VK → Prop} {op : W1} {x : Str} {p : Pos} (hc : CallR X (.builtin id) r) (sv : SvC N r op) (hg : Gl X x) (hm : X.mg x = none) (hv : bootBuiltins x = some (.builtin id)) (ha : PE X e (tDB N fa)) (hn : x ≠ "__name__" := by decide) (hdb : (x == ("__debug__" : Str)) = false := by decide)
    (he : starEach [e] X.env = (false, eval e X.env) :: starEach [] X.env := by rfl) (hpl : (backTo pos (starEach [] X.env)).any (·.1) = false := by rfl) : PE X (.Call (.Name x p) [e] [] pos) (tD N (e1 op fa)) :=
  PE.imp (pe_callB hc hg hm hv (pa_cons ha pa_nil he) hn hdb he hpl) (one_arg sv)
theorem de_callTy1 {T : String} {r : List V → Hp → VK → Prop} {op : W1} {x : Str} {p : Pos} (hc : CallR X (.type T) r) (sv : SvC N r op) (hg : Gl X x) (hm : X.mg x = none) (hv : bootBuiltins x = some (.type T)) (ha : PE X e (tDB N fa)) (hn : x ≠ "__name__" := by decide) (hdb : (x == ("__debug__" : Str)) = false := by decide)
    (he : starEach [e] X.env = (false, eval e X.env) :: starEach [] X.env := by rfl) (hpl : (backTo pos (starEach [] X.env)).any (·.1) = false := by rfl) : PE X (.Call (.Name x p) [e] [] pos) (tD N (e1 op fa)) :=
  PE.imp (pe_callTy hc hg hm hv (pa_cons ha pa_nil he) hn hdb he hpl) (one_arg sv)
end
theorem set_some {α : Type} {l : List α} {i : Nat} {x y : α} (h : (l.set i x)[i]? = some y) : y = x := by
  rw [List.getElem?_set] at h
  simp only [↓reduceIte] at h
  split at h
  · cases h
    rfl
  · cases h
def Apart (ρ : Env) (σ : L2.St) (v : V) : Prop := ∀ (j : Nat) (t : Sl) (a : Addr), v = .ref a → ρ[j]? = some t → isOwn t = true → σ[j]? = some (some (.ref a)) → False
theorem Sim.setS {N : Cd} {Z : Zd} {O : Addr → Prop} {ρ : Env} {σ : L2.St} {H : Hp} {i : Nat} {v : V} {s : Sl} (S : Sim N Z O ρ σ H) (r : SlotOk N Z O H (some v) s) (ap : isOwn s = true → Apart ρ σ v) : Sim N Z O (ρ.set i s) (σ.set i (some v)) H where
  len := by rw [List.length_set, List.length_set]; exact S.len
  slot := fun j t u h1 h2 => by
    by_cases e : i = j
    · subst e
      rw [set_some h1, set_some h2]
      exact r
    · rw [List.getElem?_set_ne e] at h1 h2
      exact S.slot j t u h1 h2
  dist := fun j k s' t a ne h1 h2 o1 o2 e1 e2 => by
    by_cases hj : i = j
    · subst hj
      have hs := set_some h1
      have hv := set_some e1
      rw [List.getElem?_set_ne ne] at h2 e2
      subst hs
      cases hv
      exact ap o1 k t a rfl h2 o2 e2
    · rw [List.getElem?_set_ne hj] at h1 e1
      by_cases hk : i = k
      · subst hk
        have hs := set_some h2
        have hv := set_some e2
        subst hs
        cases hv
        exact ap o2 j s' a rfl h1 o1 e1
      · rw [List.getElem?_set_ne hk] at h2 e2
        exact S.dist j k s' t a ne h1 h2 o1 o2 e1 e2
  xk := S.xk
  tab := S.tab
  o0 := S.o0
  own := S.own
  keep := S.keep
theorem Sim.drop {N : Cd} {Z : Zd} {O : Addr → Prop} {ρ : Env} {σ : L2.St} {H : Hp} {i : Nat} {v : Option V} (S : Sim N Z O ρ σ H) : Sim N Z O (ρ.set i .no) (σ.set i v) H where
  len := by rw [List.length_set, List.length_set]; exact S.len
  slot := fun j t u h1 h2 => by
    by_cases e : i = j
    · subst e
      rw [set_some h1]
      trivial
    · rw [List.getElem?_set_ne e] at h1 h2
      exact S.slot j t u h1 h2
  dist := fun j k s' t a ne h1 h2 o1 o2 e1 e2 => by
    by_cases hj : i = j
    · subst hj
      rw [set_some h1] at o1
      cases o1
    · rw [List.getElem?_set_ne hj] at h1 e1
      by_cases hk : i = k
      · subst hk
        rw [set_some h2] at o2
        cases o2
      · rw [List.getElem?_set_ne hk] at h2 e2
        exact S.dist j k s' t a ne h1 h2 o1 o2 e1 e2
  xk := S.xk
  tab := S.tab
  o0 := S.o0
  own := S.own
  keep := S.keep
theorem own_not {N : Cn} {Z : Zd} {O : Addr → Prop} {H : Hp} {a : Addr} {s : Sl} (nd : ∀ kvs, s ≠ .odk kvs) (no : ∀ a c ds, s = .obj a c ds → N.sl c = false) (os : isOwn s = true) (q : SlotOk N Z O H (some (.ref a)) s) : (∀ ps, H a ≠ some (.tbl ps)) ∧ ∀ φ, H a ≠ some (.ext φ) := by
  cases s with
  | no => cases os
  | val d => cases os
  | own ds =>
    obtain ⟨b, vs, e, m, h, r⟩ := q
    cases e
    rw [h]
    exact ⟨nofun, nofun⟩
  | pot b n =>
    obtain ⟨e, m, ⟨o, b1, c, h, r⟩⟩ := q
    cases e
    rw [h]
    exact ⟨nofun, nofun⟩
  | obj b c ds =>
    obtain ⟨us, e, m, h, r⟩ := q
    cases e
    rcases h with ⟨_, dx, fs, h, _⟩ | ⟨z, _⟩
    · rw [h]
      exact ⟨nofun, nofun⟩
    · rw [no _ _ _ rfl] at z
      cases z
  | odk ds => exact absurd rfl (nd ds)
  | odi b ds =>
    obtain ⟨e, m, us, h, r⟩ := q
    cases e
    rw [h]
    exact ⟨nofun, nofun⟩
theorem Sim.turnT {N : Cd} {Z : Zd} {O : Addr → Prop} {ρ : Env} {σ : L2.St} {H H' : Hp} {i : Nat} {s t : Sl} {a : Addr} (S : Sim N Z O ρ σ H) (hi : ρ[i]? = some s) (hv : σ[i]? = some (some (.ref a))) (os : isOwn s = true) (ot : isOwn t = true) (oa : O a) (mu : Z.fre N a)
    (hk : ∀ b o, b ≠ a → NT' N o → H b = some o → H' b = some o) (htb : LamX.Tabs N.tb H') (hn : ∃ o, H' a = some o ∧ NT o) (nt : ∀ o, H a = some o → ¬ IsT o) (r : SlotOk N Z O H' (some (.ref a)) t) : Sim N Z O (ρ.set i t) σ H' ∧ Ext O H O H' := by
  have x : Ext O H O H' := ⟨fun b o e t n => hk b o (fun z => n (z ▸ oa)) (fun _ => t) e, fun b o e it => hk b o (fun z => nt o (z ▸ e) it) (fun _ => nt_t it) e, fun _ _ _ _ n => n⟩
  refine ⟨⟨S.xk, htb, ?_, ?_, ?_, S.o0, ?_, ?_⟩, x⟩
  · rw [List.length_set]
    exact S.len
  · intro j u v h1 h2
    by_cases e : i = j
    · subst e
      rw [set_some h1]
      rw [hv] at h2
      cases h2
      exact r
    · rw [List.getElem?_set_ne e] at h1
      have ne : ∀ b, isOwn u = true → v = some (.ref b) → b ≠ a := fun b o1 e1 z => by
        subst z
        rw [e1] at h2
        exact S.dist i j s u b e hi h1 os o1 hv h2
      have q := S.slot j u v h1 h2
      cases u with
      | no => trivial
      | val d =>
        obtain ⟨y, e, r⟩ := q
        exact ⟨y, e, r.ext x⟩
      | own ds =>
        obtain ⟨b, vs, e, m, h, r⟩ := q
        exact ⟨b, vs, e, m, hk _ _ (ne b rfl e) (fun _ => nofun) h, r.ext x⟩
      | pot b n =>
        obtain ⟨e, m, ⟨o, b1, c, h, r⟩⟩ := q
        exact ⟨e, m, ⟨o, b1, c, hk _ _ (ne b rfl e) (fun _ => nofun) h, r⟩⟩
      | obj b c ds =>
        obtain ⟨us, e, m, h, r⟩ := q
        exact ⟨us, e, m, h.ext x fun o eo t => hk _ _ (ne b rfl e) (fun _ => t) eo, r.ext x⟩
      | odk ds =>
        obtain ⟨b, vs, e, m, h, r⟩ := q
        exact ⟨b, vs, e, m, hk _ _ (ne b rfl e) (fun _ => nofun) h, r.ext x⟩
      | odi b ds =>
        obtain ⟨e, m, us, h, r⟩ := q
        exact ⟨e, m, us, hk _ _ (ne b rfl e) (fun _ => nofun) h, r.ext x⟩
  · intro j k s' t' b ne h1 h2 o1 o2 e1 e2
    have up : ∀ (j : Nat) (s' : Sl), (ρ.set i t)[j]? = some s' → isOwn s' = true → ∃ s2, ρ[j]? = some s2 ∧ isOwn s2 = true := fun j s' h1 o1 => by
      by_cases e : i = j
      · subst e
        exact ⟨s, hi, os⟩
      · rw [List.getElem?_set_ne e] at h1
        exact ⟨s', h1, o1⟩
    obtain ⟨s1, g1, p1⟩ := up j s' h1 o1
    obtain ⟨s2, g2, p2⟩ := up k t' h2 o2
    exact S.dist j k s1 s2 b ne g1 g2 p1 p2 e1 e2
  · intro b ob
    by_cases e : b = a
    · subst e
      exact hn
    · obtain ⟨o, q, t⟩ := S.own b ob
      exact ⟨o, hk b o e (fun _ => t) q, t⟩
  · intro b o h t n
    refine hk b o (fun z => ?_) t (S.keep b o h t n)
    subst z
    exact n (mu o h t)
theorem Sim.turn {N : Cd} {Z : Zd} {O : Addr → Prop} {ρ : Env} {σ : L2.St} {H H' : Hp} {i : Nat} {s t : Sl} {a : Addr} (S : Sim N Z O ρ σ H) (hi : ρ[i]? = some s) (hv : σ[i]? = some (some (.ref a))) (os : isOwn s = true) (ot : isOwn t = true) (oa : O a) (mu : Z.fre N a)
    (hk : ∀ b o, b ≠ a → H b = some o → H' b = some o) (hn : ∃ o, H' a = some o ∧ NT o) (nt : ∀ o, H a = some o → ¬ IsT o) (r : SlotOk N Z O H' (some (.ref a)) t) (nd : ∀ kvs, s ≠ .odk kvs := by exact nofun) (no : ∀ a c ds, s = .obj a c ds → N.sl c = false := by exact nofun) : Sim N Z O (ρ.set i t) σ H' ∧ Ext O H O H' := by
  obtain ⟨n1, n2⟩ := own_not nd no os (S.slot i s _ hi hv)
  exact S.turnT hi hv os ot oa mu (fun b o n _ e => hk b o n e) (tabs_but S.tab hk n1 n2) hn nt r
theorem Sim.claim {N : Cd} {Z : Zd} {O : Addr → Prop} {ρ : Env} {σ : L2.St} {H : Hp} {p : Addr} {o : HO} (S : Sim N Z O ρ σ H) (hp : H p = none) (no : NT o := by exact nofun) : Sim N Z (fun a => O a ∨ a = p) ρ σ (upd H p o) ∧ Ext O H (fun a => O a ∨ a = p) (upd H p o) ∧ Mine N Z (fun a => O a ∨ a = p) p ∧ Apart ρ σ (.ref p) := by
  have x : Ext O H (fun a => O a ∨ a = p) (upd H p o) := ⟨fun b u e _ _ => Wd.Same.new hp b u e, fun b u e _ => Wd.Same.new hp b u e, fun b u e _ n z => z.elim n fun z => by subst z; rw [hp] at e; cases e⟩
  have h0 : Z.fre N p := fun o q t => Classical.byContradiction fun n => by
    rw [S.keep p o q t n] at hp
    cases hp
  have n0 : ¬ Z.O0 p := fun z => S.dom p (S.o0 p z) hp
  refine ⟨⟨S.xk, S.tab.ext (Wd.Same.new hp), S.len, fun i s v h1 h2 => ?_, S.dist, fun a z => .inl (S.o0 a z), fun a z => ?_, fun a o h t n => Wd.Same.new hp a o (S.keep a o h t n)⟩, x, ⟨.inr rfl, n0, h0⟩, ?_⟩
  · have q := S.slot i s v h1 h2
    cases s with
    | no => trivial
    | val d =>
      obtain ⟨y, e, r⟩ := q
      exact ⟨y, e, r.ext x⟩
    | own ds =>
      obtain ⟨b, vs, e, m, h, r⟩ := q
      exact ⟨b, vs, e, ⟨.inl m.1, m.2⟩, Wd.Same.new hp _ _ h, r.ext x⟩
    | pot b n =>
      obtain ⟨e, m, ⟨o, b1, c, h, r⟩⟩ := q
      exact ⟨e, ⟨.inl m.1, m.2⟩, ⟨o, b1, c, Wd.Same.new hp _ _ h, r⟩⟩
    | obj b c ds =>
      obtain ⟨us, e, m, h, r⟩ := q
      exact ⟨us, e, ⟨.inl m.1, m.2⟩, h.ext x fun o eo _ => Wd.Same.new hp _ _ eo, r.ext x⟩
    | odk ds =>
      obtain ⟨b, vs, e, m, h, r⟩ := q
      exact ⟨b, vs, e, ⟨.inl m.1, m.2⟩, Wd.Same.new hp _ _ h, r.ext x⟩
    | odi b ds =>
      obtain ⟨e, m, us, h, r⟩ := q
      exact ⟨e, ⟨.inl m.1, m.2⟩, us, Wd.Same.new hp _ _ h, r.ext x⟩
  · rcases z with z | z
    · obtain ⟨o, q, t⟩ := S.own a z
      exact ⟨o, Wd.Same.new hp a o q, t⟩
    · subst z
      exact ⟨_, upd_same, no⟩
  · intro j t a e h1 o1 h2
    cases e
    have q := S.slot j t _ h1 h2
    cases t with
    | no => cases o1
    | val d => cases o1
    | own ds =>
      obtain ⟨b, vs, e, m, h, r⟩ := q
      cases e
      rw [hp] at h
      cases h
    | pot b n =>
      obtain ⟨e, m, ⟨o, b1, c, h, r⟩⟩ := q
      cases e
      rw [hp] at h
      cases h
    | obj b c ds =>
      obtain ⟨us, e, m, h, r⟩ := q
      cases e
      obtain ⟨o, h, _⟩ := h.here
      rw [hp] at h
      cases h
    | odk ds =>
      obtain ⟨b, vs, e, m, h, r⟩ := q
      cases e
      rw [hp] at h
      cases h
    | odi b ds =>
      obtain ⟨e, m, us, h, r⟩ := q
      cases e
      rw [hp] at h
      cases h
structure DeT where
  nx : Env → Prop
  rt : D → Env → Prop
  bk : Env → Prop := fun _ => False
  ct : Env → Prop := fun _ => False
abbrev FS := DeT → Env → XP → Prop
structure Goes (N : Cd) (Z : Zd) (O : Addr → Prop) (H : Hp) (De : DeT) (D : Ends) : Prop where
  nx : ∀ σ' H' O' ρ', Ext O H O' H' → Sim N Z O' ρ' σ' H' → De.nx ρ' → D.nx σ' H'
  rt : ∀ v σ' H' O' d ρ', Ext O H O' H' → Sim N Z O' ρ' σ' H' → Rep N O' H' v d → De.rt d ρ' → D.rt v H'
  bk : ∀ σ' H' O' ρ', Ext O H O' H' → Sim N Z O' ρ' σ' H' → De.bk ρ' → D.bk σ' H'
  ct : ∀ σ' H' O' ρ', Ext O H O' H' → Sim N Z O' ρ' σ' H' → De.ct ρ' → D.ct σ' H'
theorem Goes.ext {N : Cd} {Z : Zd} {O O1 : Addr → Prop} {H H1 : Hp} {De : DeT} {D : Ends} (x : Ext O H O1 H1) (g : Goes N Z O H De D) : Goes N Z O1 H1 De D :=
  ⟨fun σ' H' O' ρ' y => g.nx σ' H' O' ρ' (x.trans y), fun v σ' H' O' d ρ' y => g.rt v σ' H' O' d ρ' (x.trans y), fun σ' H' O' ρ' y => g.bk σ' H' O' ρ' (x.trans y), fun σ' H' O' ρ' y => g.ct σ' H' O' ρ' (x.trans y)⟩
def tS (N : Cd) (g : FS) : TS := fun D σ H => ∃ Z O ρ De, Sim N Z O ρ σ H ∧ g De ρ Z.E ∧ Goes N Z O H De D
def sNil : FS := fun De ρ _ => De.nx ρ
def sSeq (a b : FS) : FS := fun De ρ E => a { De with nx := fun ρ1 => b De ρ1 E } ρ E
def sExpr (f : F) : FS := fun De ρ E => f ρ (fun _ ρ1 => De.nx ρ1) E
def sRet (f : F) : FS := fun De ρ E => f ρ De.rt E
def sRetN : FS := fun De ρ _ => De.rt .non ρ
def sIf (t : FT) (a b : FS) : FS := fun De ρ E => t ρ (fun k ρ1 => if k = true then a De ρ1 E else b De ρ1 E) E
def sNever : FS := fun _ _ _ => False
abbrev FX := Env → (Sl → Env → Prop) → XP → Prop
def xVal (f : F) : FX := fun ρ Q E => f ρ (fun d ρ1 => Q (.val d) ρ1) E
def xOwn (f : FL) : FX := fun ρ Q E => f ρ (fun ds ρ1 => Q (.own ds) ρ1) E
def sSet (i : Nat) (f : FX) : FS := fun De ρ E => f ρ (fun s ρ1 => De.nx (ρ1.set i s)) E
abbrev KS (s : Sl) : Prop := (∃ d, s = .val d) ∨ (∃ ds, s = .own ds) ∨ (∃ kvs, s = .odk kvs) ∨ ∃ a kvs, s = .odi a kvs
def tX (N : Cd) (f : FX) : TE := fun σ H Q => ∃ Z O ρ Qd, Sim N Z O ρ σ H ∧ f ρ Qd Z.E ∧ ∀ v H' O' s ρ', Ext O H O' H' → Sim N Z O' ρ' σ H' → SlotOk N Z O' H' (some v) s → KS s → (isOwn s = true → Apart ρ' σ v) → Qd s ρ' → Q v H'
abbrev GD := D → Env → (Env → Prop) → Prop
def gN (i : Nat) : GD := fun d ρ Q => Q (ρ.set i (.val d))
def gs : List GD → List D → Env → (Env → Prop) → Prop
  | [], [], ρ, Q => Q ρ
  | g :: l, d :: ds, ρ, Q => g d ρ fun ρ1 => gs l ds ρ1 Q
  | _, _, _, _ => False
def gT (l : List GD) : GD := fun d ρ Q => ∃ xs, d = .tup xs ∧ gs l xs ρ Q
def Off (is : List Nat) (σ σ' : L2.St) : Prop := σ'.length = σ.length ∧ ∀ j, j ∉ is → σ'[j]? = σ[j]?
theorem Off.refl {is : List Nat} {σ : L2.St} : Off is σ σ := ⟨rfl, fun _ _ => rfl⟩
theorem Off.trans {is : List Nat} {σ σ1 σ2 : L2.St} (a : Off is σ σ1) (b : Off is σ1 σ2) : Off is σ σ2 := ⟨b.1.trans a.1, fun j h => (b.2 j h).trans (a.2 j h)⟩
theorem Off.mono {is js : List Nat} {σ σ1 : L2.St} (a : Off is σ σ1) (h : ∀ i ∈ is, i ∈ js) : Off js σ σ1 := ⟨a.1, fun j n => a.2 j fun z => n (h j z)⟩
def tG (N : Cd) (is : List Nat) (g : GD) : TG := fun v σ H Q => ∃ Z O ρ d Qd, Sim N Z O ρ σ H ∧ Rep N O H v d ∧ g d ρ Qd ∧ ∀ σ' ρ', Off is σ σ' → Sim N Z O ρ' σ' H → Qd ρ' → Q σ' H
def tGs (N : Cd) (is : List Nat) (l : List GD) : TGs := fun vs σ H Q => ∃ Z O ρ ds Qd, Sim N Z O ρ σ H ∧ Reps N O H vs ds ∧ gs l ds ρ Qd ∧ ∀ σ' ρ', Off is σ σ' → Sim N Z O ρ' σ' H → Qd ρ' → Q σ' H
theorem PG.imp {X : Cx} {e : Expr} {t t' : TG} (h : PG X e t) (i : ∀ v σ H Q, t' v σ H Q → t v σ H Q) : PG X e t' := ⟨fun pn s σ H v u Q I r q => h.run pn s σ H v u Q I r (i v σ H Q q)⟩
theorem PGs.imp {X : Cx} {e : List Expr} {t t' : TGs} (h : PGs X e t) (i : ∀ v σ H Q, t' v σ H Q → t v σ H Q) : PGs X e t' := ⟨fun pn s σ H v u Q I r q => h.run pn s σ H v u Q I r (i v σ H Q q)⟩
def loopD (g : GD) (body : FS) (De : DeT) (E : XP) : List D → Env → Prop
  | [], ρ => De.nx ρ
  | d :: ds, ρ => g d ρ fun ρ1 => body { De with nx := loopD g body De E ds, ct := loopD g body De E ds, bk := De.nx } ρ1 E
def sFor (fi : FL) (g : GD) (body : FS) : FS := fun De ρ E => fi ρ (fun ds ρ1 => loopD g body De E ds ρ1) E
abbrev KqT : Hp → Prop := fun _ => True
def ItOk (N : Cn) (Kq : Hp → Prop) (J : It) (ds : List D) (O : Addr → Prop) (H : Hp) : Prop := ∀ O1 H1 i, Ext O H O1 H1 → Dom O1 H1 → Kq H1 → (i < ds.length → J.go i H1 ∧ ∀ x H2, J.yld i H1 x H2 → Same H1 H2 ∧ ∃ d, ds[i]? = some d ∧ Rep N O1 H2 x d) ∧ (i = ds.length → J.stop i H1)
def tI (N : Cd) (fi : FL) : TI := fun σ H R => ∃ Z O ρ Qd, Sim N Z O ρ σ H ∧ fi ρ Qd Z.E ∧ ∀ J H' O' ds ρ', Ext O H O' H' → Sim N Z O' ρ' σ H' → ItOk N KqT J ds O' H' → Qd ds ρ' → R J H'
theorem PI.imp {X : Cx} {tg e : Expr} {t t' : TI} (h : PI X tg e t) (i : ∀ σ H R, t' σ H R → t σ H R) : PI X tg e t' := ⟨fun pn s σ H R I q => h.run pn s σ H R I (i σ H R q)⟩
section
variable {X : Cx} {N : Cd} {a b c e o : Expr} {es : List Expr} {pos apos : Pos} {fa fb fc : F} {fx : FX} {fl : FL} {ta tb : FT} {st : Stmt} {rest : List Stmt} {ga gb : FS}
theorem ds_nil : PSs X [] (tS N sNil) := PSs.imp pss_nil fun D σ H ⟨Z, O, ρ, De, S, q, g⟩ => g.nx σ H O ρ Ext.refl S q
theorem ds_one (h : PS X st (tS N ga)) : PSs X [st] (tS N ga) := pss_one h
theorem ds_cons (h : PS X st (tS N ga)) (k : PSs X rest (tS N gb)) : PSs X (st :: rest) (tS N (sSeq ga gb)) :=
  PSs.imp (pss_cons h k) fun D σ H ⟨Z, O, ρ, De, S, q, g⟩ => ⟨Z, O, ρ, _, S, q, ⟨fun σ' H' O' ρ' x S' q' => ⟨Z, O', ρ', De, S', q', g.ext x⟩, g.rt, g.bk, g.ct⟩⟩
theorem ds_expr (he : PE X e (tD N fa)) (hs : swapsWith e none pos.line X.env = pure false := by rfl) : PS X (.Expr e pos) (tS N (sExpr fa)) :=
  PS.imp (ps_expr he hs) fun D σ H ⟨Z, O, ρ, De, S, q, g⟩ => ⟨Z, O, ρ, _, S, q, fun v H' O' d ρ' x S' r q' => g.nx σ H' O' ρ' x S' q'⟩
theorem ds_ret (he : PE X e (tD N fa)) : PS X (.Return (some e) pos) (tS N (sRet fa)) :=
  PS.imp (ps_ret he) fun D σ H ⟨Z, O, ρ, De, S, q, g⟩ => ⟨Z, O, ρ, _, S, q, fun v H' O' d ρ' x S' r q' => g.rt v σ H' O' d ρ' x S' r q'⟩
theorem ds_if {sa sb : List Stmt} (hc : L2.PT X c (tDT N ta)) (ha : PSs X sa (tS N ga)) (hb : PSs X sb (tS N gb)) : PS X (.If c sa sb pos) (tS N (sIf ta ga gb)) :=
  PS.imp (ps_if hc ha hb) fun D σ H ⟨Z, O, ρ, De, S, q, g⟩ => ⟨Z, O, ρ, _, S, q, fun k H' O' ρ' x S' q' => by
    cases k with
    | true => exact iteT ⟨Z, O', ρ', De, S', q', g.ext x⟩
    | false => exact iteF ⟨Z, O', ρ', De, S', q', g.ext x⟩⟩
theorem dx_val (he : PE X e (tD N fa)) : PE X e (tX N (xVal fa)) := PE.imp he fun σ H Q ⟨Z, O, ρ, Qd, S, q, k⟩ => ⟨Z, O, ρ, _, S, q, fun v H' O' d ρ' x S' r q' => k v H' O' (.val d) ρ' x S' ⟨v, rfl, r⟩ (.inl ⟨d, rfl⟩) (fun z => nomatch z) q'⟩
def oLst (f : FL) : FL := fun ρ Q E => f ρ (fun ds ρ1 => ds.length ≤ sizeLine ∧ Q ds ρ1) E
theorem dx_lst (h : PA X es (tDL N fl)) : PE X (.List es pos) (tX N (xOwn (oLst fl))) :=
  PE.imp (pe_lst h) fun σ H Q ⟨Z, O, ρ, Qd, S, q, k⟩ => ⟨Z, O, ρ, _, S, q, fun vs H1 O1 ds ρ1 x1 S1 r1 ⟨hz, q1⟩ => ⟨by rw [r1.length]; exact hz, fun p hp => by
    obtain ⟨S2, x2, m, ap⟩ := S1.claim (o := .lst vs) hp
    exact k (.ref p) _ _ (.own ds) ρ1 (x1.trans x2) S2 ⟨p, vs, rfl, m, upd_same, r1.ext x2⟩ (.inr (.inl ⟨ds, rfl⟩)) (fun _ => ap) q1⟩⟩
theorem ds_set {i : Nat} {x : Str} {pos' : Pos} (hN : X.N.Nodup) (hi : X.N[i]? = some x) (hx : Loc X.env.scope x) (he : PE X e (tX N fx)) (hs : swapsWith e (some (.Name x pos')) pos.line X.env = pure false := by rfl) (hf : X.fn x = true ∨ X.env.scope.names.lookup x = some .local := by first | exact .inl rfl | exact .inr rfl | assumption) :
    PS X (.Assign [.Name x pos'] e pos) (tS N (sSet i fx)) :=
  PS.imp (ps_set hN hi hx he hs hf) fun D σ H ⟨Z, O, ρ, De, S, q, g⟩ => ⟨Z, O, ρ, _, S, q, fun v H' O' s ρ' x S' r _ ap q' => g.nx _ H' O' _ x (S'.setS r ap) q'⟩
theorem Off.set {i : Nat} {σ : L2.St} {v : Option V} : Off [i] σ (σ.set i v) := ⟨List.length_set .., fun j h => List.getElem?_set_ne fun e => h (by rw [e]; exact List.mem_singleton.mpr rfl)⟩
theorem dg_name {i : Nat} {x : Str} (hN : X.N.Nodup) (hi : X.N[i]? = some x) (hx : Loc X.env.scope x) (hf : X.fn x = true ∨ X.env.scope.names.lookup x = some .local := by first | exact .inl rfl | exact .inr rfl | assumption) : PG X (.Name x pos) (tG N [i] (gN i)) :=
  PG.imp (pg_name hN hi hx hf) fun v σ H Q ⟨Z, O, ρ, d, Qd, S, r, q, k⟩ => k _ _ Off.set (S.set r) q
theorem dgs_nil : PGs X [] (tGs N [] []) := PGs.imp pgs_nil fun v σ H Q ⟨Z, O, ρ, ds, Qd, S, r, q, k⟩ => by
  cases r with
  | nil => exact ⟨rfl, k σ ρ Off.refl S q⟩
  | cons _ _ => exact q.elim
theorem dgs_cons {is js : List Nat} {g : GD} {l : List GD} (h1 : PG X e (tG N is g)) (h2 : PGs X es (tGs N js l)) (hs : (assignEach (e :: es) X.env).map (·.2) = assign e X.env :: (assignEach es X.env).map (·.2) := by rfl) : PGs X (e :: es) (tGs N (is ++ js) (g :: l)) :=
  PGs.imp (pgs_cons h1 h2 hs) fun vs σ H Q ⟨Z, O, ρ, ds, Qd, S, r, q, k⟩ => by
    cases r with
    | nil => exact q.elim
    | cons r1 r2 =>
      refine ⟨_, _, rfl, Z, O, ρ, _, _, S, r1, q, fun σ1 ρ1 o1 S1 q1 => ⟨Z, O, ρ1, _, Qd, S1, r2, q1, fun σ2 ρ2 o2 S2 q2 => ?_⟩⟩
      exact k σ2 ρ2 ((o1.mono fun i h => List.mem_append_left _ h).trans (o2.mono fun i h => List.mem_append_right _ h)) S2 q2
theorem gs_len : ∀ {l : List GD} {ds : List D} {ρ : Env} {Q : Env → Prop}, gs l ds ρ Q → (∀ g ∈ l, ∀ d ρ Q, g d ρ Q → ∃ ρ1, Q ρ1) → ds.length = l.length
  | [], [], _, _, _, _ => rfl
  | [], _ :: _, _, _, h, _ => h.elim
  | _ :: _, [], _, _, h, _ => h.elim
  | g :: l, d :: ds, ρ, Q, h, w => by
    obtain ⟨ρ1, h1⟩ := w g (List.mem_cons_self ..) d ρ _ h
    exact congrArg (· + 1) (gs_len h1 fun g hg => w g (List.mem_cons_of_mem _ hg))
def Live (g : GD) : Prop := ∀ d ρ Q, g d ρ Q → ∃ ρ1, Q ρ1
theorem live_n {i : Nat} : Live (gN i) := fun _ _ _ h => ⟨_, h⟩
theorem dg_tup {is : List Nat} {l : List GD} {k n : Nat} (hc : X.calm = true) (h : PGs X es (tGs N is l)) (hw : ∀ g ∈ l, Live g) (hl : l.length = n := by rfl)
    (hn : (assignEach es X.env).length = n := by rfl) (hst : (assignEach es X.env).findIdx? (·.1) = none := by rfl) (hK : X.K = N.K := by rfl) : PG X (.Tuple es k pos) (tG N is (gT l)) :=
  PG.imp (pg_tup hc h hn hst) fun v σ H Q ⟨Z, O, ρ, d, Qd, S, r, ⟨xs, e, q⟩, k⟩ => by
    subst e
    obtain ⟨a, vs, rfl, hq, r⟩ := r.sqt
    refine ⟨_, _, rfl, by rw [hK]; exact hq, ?_, Z, O, ρ, xs, Qd, S, r, q, k⟩
    rw [r.length, gs_len q hw, hl]
theorem ds_for {tg iter : Expr} {body : List Stmt} {is : List Nat} {g : GD} (hp : PassesOwn (model X.prog X.w) X.A X.env X.xe) (hc : X.calm = true) (hi : PI X tg iter (tI N fl)) (hg : PG X tg (tG N is g)) (hb : PSs X body (tS N ga))
    (hs : ∀ x, foldedSetIterable iter X.env x = pure x := by intro _; rfl) : PS X (.For tg iter body [] pos) (tS N (sFor fl g ga)) :=
  PS.imp (ps_for hp hc hi hg hb hs) fun D σ H ⟨Z, O, ρ, De, S, q, gg⟩ => ⟨Z, O, ρ, _, S, q, fun J H1 O1 ds ρ1 x1 S1 it q1 => by
    refine ⟨fun i m σ' H' => m = ds.length - i ∧ i ≤ ds.length ∧ ∃ O' ρ', Ext O1 H1 O' H' ∧ Sim N Z O' ρ' σ' H' ∧ loopD g ga De Z.E (ds.drop i) ρ', ⟨ds.length, by omega, Nat.zero_le _, O1, ρ1, Ext.refl, S1, q1⟩, ?_⟩
    rintro i m σ2 H2 ⟨rfl, hi, O2, ρ2, x2, S2, q2⟩
    obtain ⟨go, stop⟩ := it O2 H2 i x2 S2.dom trivial
    by_cases hlt : i < ds.length
    · refine .inr ⟨(go hlt).1, fun σ' H' => ∃ O' ρ', Ext O1 H1 O' H' ∧ Sim N Z O' ρ' σ' H' ∧ loopD g ga De Z.E (ds.drop (i + 1)) ρ', fun σ' H' z => ⟨_, by omega, rfl, hlt, z⟩, fun x H3 y => ?_⟩
      obtain ⟨s3, d, hd, r3⟩ := (go hlt).2 x H3 y
      have ed : ds.drop i = d :: ds.drop (i + 1) := by
        rw [List.drop_eq_getElem_cons hlt]
        congr 1
        rw [List.getElem?_eq_getElem hlt] at hd
        exact Option.some.inj hd
      rw [ed] at q2
      refine ⟨Z, O2, ρ2, d, _, S2.same s3, r3, q2, fun σ4 ρ4 o4 S4 q4 => ⟨Z, O2, ρ4, _, S4, q4, ?_⟩⟩
      have x3 : Ext O1 H1 O2 H3 := x2.trans (Ext.same s3)
      exact ⟨fun σ' H' O' ρ' y S' z => ⟨O', ρ', x3.trans y, S', z⟩, fun v σ' H' O' d ρ' y => gg.rt v σ' H' O' d ρ' ((x1.trans x3).trans y), fun σ' H' O' ρ' y => gg.nx σ' H' O' ρ' ((x1.trans x3).trans y), fun σ' H' O' ρ' y S' z => ⟨O', ρ', x3.trans y, S', z⟩⟩
    · have e : i = ds.length := by omega
      subst e
      rw [List.drop_length] at q2
      exact .inl ⟨stop rfl, gg.nx σ2 H2 O2 ρ2 (x1.trans x2) S2 q2⟩⟩
end
def Zd.fr (N : Cn) (Z : Zd) (H : Hp) (p : Addr) : Zd := ⟨H, fun a => Z.O0 a ∨ a = p, fun a => Z.fre N a ∧ a ≠ p, Z.E⟩
theorem Sim.frame {N : Cd} {Z : Zd} {O : Addr → Prop} {ρ : Env} {σ : L2.St} {H : Hp} {p : Addr} (S : Sim N Z O ρ σ H) (op : O p) (ap : Apart ρ σ (.ref p)) : Sim N (Z.fr N H p) O ρ σ H where
  xk := fun O' H' cls dx n d h0 hd hk ht r e => S.xk O' H' cls dx n d (fun a z => h0 a (.inl z)) hd (fun a o h t n => hk a o (S.keep a o h t n) t fun z => n (z.1 o h t)) ht r e
  tab := S.tab
  len := S.len
  slot := fun i s v h1 h2 => by
    have q := S.slot i s v h1 h2
    cases s with
    | no => trivial
    | val d => exact q
    | own ds =>
      obtain ⟨a, vs, rfl, ⟨m1, m2, m3⟩, r⟩ := q
      have ne : a ≠ p := fun z => ap i _ a (by rw [z]) h1 rfl h2
      exact ⟨a, vs, rfl, ⟨m1, fun z => z.elim m2 ne, fun _ _ _ => ⟨m3, ne⟩⟩, r⟩
    | pot a n =>
      obtain ⟨rfl, ⟨m1, m3⟩, r⟩ := q
      have ne : a ≠ p := fun z => ap i _ a (by rw [z]) h1 rfl h2
      exact ⟨rfl, ⟨m1, fun _ _ _ => ⟨m3, ne⟩⟩, r⟩
    | obj a c ds =>
      obtain ⟨us, rfl, ⟨m1, m2, m3⟩, r⟩ := q
      have ne : a ≠ p := fun z => ap i _ a (by rw [z]) h1 rfl h2
      exact ⟨us, rfl, ⟨m1, fun z => z.elim m2 ne, fun _ _ _ => ⟨m3, ne⟩⟩, r⟩
    | odk ds =>
      obtain ⟨a, vs, rfl, ⟨m1, m2, m3⟩, r⟩ := q
      have ne : a ≠ p := fun z => ap i _ a (by rw [z]) h1 rfl h2
      exact ⟨a, vs, rfl, ⟨m1, fun z => z.elim m2 ne, fun _ _ _ => ⟨m3, ne⟩⟩, r⟩
    | odi b ds =>
      obtain ⟨rfl, ⟨m1, m3⟩, r⟩ := q
      have ne : b ≠ p := fun z => ap i _ b (by rw [z]) h1 rfl h2
      exact ⟨rfl, ⟨m1, fun _ _ _ => ⟨m3, ne⟩⟩, r⟩
  dist := S.dist
  o0 := fun a z => z.elim (S.o0 a) fun e => e ▸ op
  own := S.own
  keep := fun a o h _ _ => h
theorem Sim.unframe {N : Cd} {Z : Zd} {O O' : Addr → Prop} {ρ ρ' : Env} {σ σ' : L2.St} {H H' : Hp} {p : Addr} {o : HO} (S : Sim N Z O ρ σ H) (hp : H p = some o) (T : Sim N (Z.fr N H p) O' ρ' σ' H') (no : NT o := by exact nofun) : Sim N Z O' ρ' σ' H' ∧ H' p = some o ∧ O' p ∧ Apart ρ' σ' (.ref p) := by
  have mu : ∀ a, (Z.fr N H p).fre N a → Z.fre N a := fun a z o e t => Classical.byContradiction fun n => n ((z o (S.keep a o e t n) t).1 o e t)
  refine ⟨⟨S.xk, T.tab, T.len, fun i s v h1 h2 => ?_, T.dist, fun a z => T.o0 a (.inl z), T.own, fun a o' h t n => T.keep a o' (S.keep a o' h t n) t fun z => n (z.1 o' h t)⟩, T.keep p o hp (fun _ => no) fun z => z.2 rfl, T.o0 p (.inr rfl), ?_⟩
  · have q := T.slot i s v h1 h2
    cases s with
    | no => trivial
    | val d => exact q
    | own ds =>
      obtain ⟨a, vs, e, ⟨m1, m2, m3⟩, r⟩ := q
      exact ⟨a, vs, e, ⟨m1, fun z => m2 (.inl z), mu a m3⟩, r⟩
    | pot a n =>
      obtain ⟨e, ⟨m1, m3⟩, r⟩ := q
      exact ⟨e, ⟨m1, mu a m3⟩, r⟩
    | obj a c ds =>
      obtain ⟨us, e, ⟨m1, m2, m3⟩, r⟩ := q
      exact ⟨us, e, ⟨m1, fun z => m2 (.inl z), mu a m3⟩, r⟩
    | odk ds =>
      obtain ⟨a, vs, e, ⟨m1, m2, m3⟩, r⟩ := q
      exact ⟨a, vs, e, ⟨m1, fun z => m2 (.inl z), mu a m3⟩, r⟩
    | odi b ds =>
      obtain ⟨e, ⟨m1, m3⟩, r⟩ := q
      exact ⟨e, ⟨m1, mu b m3⟩, r⟩
  · intro j t a e h1 o1 h2
    cases e
    have q := T.slot j t _ h1 h2
    have nf : ¬ (Z.fr N H p).fre N p := fun z => (z o hp (fun _ => no)).2 rfl
    cases t with
    | no => cases o1
    | val d => cases o1
    | own ds =>
      obtain ⟨b, vs, e, m, r⟩ := q
      cases e
      exact nf m.2.2
    | pot b n =>
      obtain ⟨e, m, r⟩ := q
      cases e
      exact nf m.2
    | obj b c ds =>
      obtain ⟨us, e, m, r⟩ := q
      cases e
      exact nf m.2.2
    | odk ds =>
      obtain ⟨b, vs, e, m, r⟩ := q
      cases e
      exact nf m.2.2
    | odi b ds =>
      obtain ⟨e, m, r⟩ := q
      cases e
      exact nf m.2
theorem Sim.free {N : Cd} {Z : Zd} {O : Addr → Prop} {ρ : Env} {σ : L2.St} {H : Hp} {p : Addr} (S : Sim N Z O ρ σ H) (n0 : ¬ Z.O0 p) (ap : Apart ρ σ (.ref p)) : Sim N Z (fun a => O a ∧ a ≠ p) ρ σ H ∧ Ext O H (fun a => O a ∧ a ≠ p) H := by
  have x : Ext O H (fun a => O a ∧ a ≠ p) H := Ext.less fun a z => z.1
  refine ⟨⟨S.xk, S.tab, S.len, fun i s v h1 h2 => ?_, S.dist, fun a z => ⟨S.o0 a z, fun e => n0 (e ▸ z)⟩, fun a z => S.own a z.1, S.keep⟩, x⟩
  have q := S.slot i s v h1 h2
  cases s with
  | no => trivial
  | val d =>
    obtain ⟨y, e, r⟩ := q
    exact ⟨y, e, r.ext x⟩
  | own ds =>
    obtain ⟨a, vs, rfl, ⟨m1, m2⟩, h, r⟩ := q
    exact ⟨a, vs, rfl, ⟨⟨m1, fun z => ap i _ a (by rw [z]) h1 rfl h2⟩, m2⟩, h, r.ext x⟩
  | pot a n =>
    obtain ⟨rfl, ⟨m1, m2⟩, r⟩ := q
    exact ⟨rfl, ⟨⟨m1, fun z => ap i _ a (by rw [z]) h1 rfl h2⟩, m2⟩, r⟩
  | obj a c ds =>
    obtain ⟨us, rfl, ⟨m1, m2⟩, h, r⟩ := q
    exact ⟨us, rfl, ⟨⟨m1, fun z => ap i _ a (by rw [z]) h1 rfl h2⟩, m2⟩, h.ext x fun _ eo _ => eo, r.ext x⟩
  | odk ds =>
    obtain ⟨a, vs, rfl, ⟨m1, m2⟩, h, r⟩ := q
    exact ⟨a, vs, rfl, ⟨⟨m1, fun z => ap i _ a (by rw [z]) h1 rfl h2⟩, m2⟩, h, r.ext x⟩
  | odi b ds =>
    obtain ⟨rfl, ⟨m1, m2⟩, us, h, r⟩ := q
    exact ⟨rfl, ⟨⟨m1, fun z => ap i _ b (by rw [z]) h1 rfl h2⟩, m2⟩, us, h, r.ext x⟩
theorem Sim.aside {N : Cd} {Z : Zd} {O : Addr → Prop} {ρ : Env} {σ : L2.St} {H : Hp} {p : Addr} {o o' : HO} (S : Sim N Z O ρ σ H) (op : O p) (mu : Z.fre N p) (hp : H p = some o) (nt : ¬ IsT o) (n1 : ∀ ps, o ≠ .tbl ps) (n2 : ∀ φ, o ≠ .ext φ) (no : NT o') (ap : Apart ρ σ (.ref p)) : Sim N Z O ρ σ (upd H p o') ∧ Ext O H O (upd H p o') := by
  have hk : ∀ b u, b ≠ p → H b = some u → upd H p o' b = some u := fun b u n e => by rw [upd_ne n]; exact e
  have x : Ext O H O (upd H p o') := ⟨fun b u e _ n => hk b u (fun z => n (z ▸ op)) e, fun b u e it => hk b u (fun z => by subst z; rw [hp] at e; cases e; exact nt it) e, fun _ _ _ _ n => n⟩
  refine ⟨⟨S.xk, tabs_but S.tab hk (fun ps z => by rw [hp] at z; exact n1 ps (Option.some.inj z)) (fun φ z => by rw [hp] at z; exact n2 φ (Option.some.inj z)), S.len, fun i s v h1 h2 => ?_, S.dist, S.o0, fun a z => ?_, fun a u h t n => hk a u (fun z => ?_) (S.keep a u h t n)⟩, x⟩
  · have q := S.slot i s v h1 h2
    cases s with
    | no => trivial
    | val d =>
      obtain ⟨y, e, r⟩ := q
      exact ⟨y, e, r.ext x⟩
    | own ds =>
      obtain ⟨a, vs, rfl, m, h, r⟩ := q
      exact ⟨a, vs, rfl, m, hk _ _ (fun z => ap i _ a (by rw [z]) h1 rfl h2) h, r.ext x⟩
    | pot a n =>
      obtain ⟨rfl, m, ⟨o, b1, c, h, r⟩⟩ := q
      exact ⟨rfl, m, ⟨o, b1, c, hk _ _ (fun z => ap i _ a (by rw [z]) h1 rfl h2) h, r⟩⟩
    | obj a c ds =>
      obtain ⟨us, rfl, m, h, r⟩ := q
      exact ⟨us, rfl, m, h.ext x fun _ eo _ => hk _ _ (fun z => ap i _ a (by rw [z]) h1 rfl h2) eo, r.ext x⟩
    | odk ds =>
      obtain ⟨a, vs, rfl, m, h, r⟩ := q
      exact ⟨a, vs, rfl, m, hk _ _ (fun z => ap i _ a (by rw [z]) h1 rfl h2) h, r.ext x⟩
    | odi b ds =>
      obtain ⟨rfl, m, us, h, r⟩ := q
      exact ⟨rfl, m, us, hk _ _ (fun z => ap i _ b (by rw [z]) h1 rfl h2) h, r.ext x⟩
  · by_cases e : a = p
    · subst e
      exact ⟨_, upd_same, no⟩
    · rw [upd_ne e]
      exact S.own a z
  · subst z
    exact n (mu u h t)
def wipeE (ρ : Env) : List Nat → Env
  | [] => ρ
  | v :: vs => (wipeE ρ vs).set v .no
theorem wipe_get (σ : L2.St) (j : Nat) : ∀ vs : List Nat, j ∉ vs → (wipe σ vs)[j]? = σ[j]?
  | [], _ => rfl
  | v :: vs, h => by
    show ((wipe σ vs).set v none)[j]? = _
    rw [List.getElem?_set_ne fun e => h (by rw [e]; exact List.mem_cons_self ..)]
    exact wipe_get σ j vs fun z => h (List.mem_cons_of_mem _ z)
theorem wipe_none (σ : L2.St) (j : Nat) (hj : j < σ.length) : ∀ vs : List Nat, j ∈ vs → (wipe σ vs)[j]? = some none
  | [], h => nomatch h
  | v :: vs, h => by
    show ((wipe σ vs).set v none)[j]? = _
    by_cases e : v = j
    · subst e
      rw [List.getElem?_set_self (by rw [wipe_length]; exact hj)]
    · rw [List.getElem?_set_ne e]
      exact wipe_none σ j hj vs ((List.mem_cons.mp h).resolve_left fun z => e z.symm)
theorem wipeE_len (ρ : Env) : ∀ vs : List Nat, (wipeE ρ vs).length = ρ.length
  | [] => rfl
  | v :: vs => by
    show ((wipeE ρ vs).set v .no).length = _
    rw [List.length_set]
    exact wipeE_len ρ vs
theorem wipeE_get (ρ : Env) (j : Nat) : ∀ vs : List Nat, j ∉ vs → (wipeE ρ vs)[j]? = ρ[j]?
  | [], _ => rfl
  | v :: vs, h => by
    show ((wipeE ρ vs).set v .no)[j]? = _
    rw [List.getElem?_set_ne fun e => h (by rw [e]; exact List.mem_cons_self ..)]
    exact wipeE_get ρ j vs fun z => h (List.mem_cons_of_mem _ z)
theorem wipeE_no (ρ : Env) (j : Nat) (hj : j < ρ.length) : ∀ vs : List Nat, j ∈ vs → (wipeE ρ vs)[j]? = some .no
  | [], h => nomatch h
  | v :: vs, h => by
    show ((wipeE ρ vs).set v .no)[j]? = _
    by_cases e : v = j
    · subst e
      rw [List.getElem?_set_self (by rw [wipeE_len]; exact hj)]
    · rw [List.getElem?_set_ne e]
      exact wipeE_no ρ j hj vs ((List.mem_cons.mp h).resolve_left fun z => e z.symm)
theorem Sim.wiped {N : Cd} {Z : Zd} {O : Addr → Prop} {ρ : Env} {σ σ' : L2.St} {H : Hp} {vs : List Nat} (S : Sim N Z O ρ σ H) (o : Off vs σ σ') : Sim N Z O (wipeE ρ vs) σ' H where
  len := by rw [wipeE_len, S.len, o.1]
  slot := fun i s v h1 h2 => by
    by_cases e : i ∈ vs
    · have hi : i < ρ.length := by
        rw [← wipeE_len ρ vs]
        exact (List.getElem?_eq_some_iff.mp h1).1
      rw [wipeE_no ρ i hi vs e] at h1
      cases h1
      trivial
    · rw [wipeE_get ρ i vs e] at h1
      rw [o.2 i e] at h2
      exact S.slot i s v h1 h2
  dist := fun i j s t a ne h1 h2 o1 o2 e1 e2 => by
    have at_ : ∀ (i : Nat) (s : Sl), (wipeE ρ vs)[i]? = some s → isOwn s = true → i ∉ vs := fun i s h os e => by
      have hi : i < ρ.length := by
        rw [← wipeE_len ρ vs]
        exact (List.getElem?_eq_some_iff.mp h).1
      rw [wipeE_no ρ i hi vs e] at h
      cases h
      cases os
    have n1 := at_ i s h1 o1
    have n2 := at_ j t h2 o2
    rw [wipeE_get ρ i vs n1] at h1
    rw [wipeE_get ρ j vs n2] at h2
    rw [o.2 i n1] at e1
    rw [o.2 j n2] at e2
    exact S.dist i j s t a ne h1 h2 o1 o2 e1 e2
  xk := S.xk
  tab := S.tab
  o0 := S.o0
  own := S.own
  keep := S.keep
theorem Apart.wiped {ρ : Env} {σ σ' : L2.St} {vs : List Nat} {v : V} (ap : Apart ρ σ v) (o : Off vs σ σ') : Apart (wipeE ρ vs) σ' v := fun j t a e h1 o1 h2 => by
  have n : j ∉ vs := fun z => by
    have hj : j < ρ.length := by
      rw [← wipeE_len ρ vs]
      exact (List.getElem?_eq_some_iff.mp h1).1
    rw [wipeE_no ρ j hj vs z] at h1
    cases h1
    cases o1
  rw [wipeE_get ρ j vs n] at h1
  rw [o.2 j n] at h2
  exact ap j t a e h1 o1 h2
theorem off_wipe {σ : L2.St} {vs : List Nat} : Off vs σ (wipe σ vs) := ⟨wipe_length σ vs, fun j h => wipe_get σ j vs h⟩
theorem Off.symm {is : List Nat} {σ σ' : L2.St} (o : Off is σ σ') : Off is σ' σ := ⟨o.1.symm, fun j h => (o.2 j h).symm⟩
theorem wipe_eq {σ σ' : L2.St} {vs : List Nat} (o : Off vs σ σ') : wipe σ' vs = wipe σ vs := by
  refine List.ext_getElem? fun j => ?_
  by_cases e : j ∈ vs
  · by_cases hj : j < σ.length
    · rw [wipe_none σ j hj vs e, wipe_none σ' j (by rw [o.1]; exact hj) vs e]
    · rw [List.getElem?_eq_none (by rw [wipe_length, o.1]; omega), List.getElem?_eq_none (by rw [wipe_length]; omega)]
  · rw [wipe_get σ j vs e, wipe_get σ' j vs e, o.2 j e]
def noX : XP := fun _ _ => False
def Zd.bt (Z : Zd) : Zd := ⟨Z.H0, Z.O0, Z.Mu, noX⟩
def Cd.bt (N : Cd) : Cd := ⟨N.toCn, fun _ _ _ => False⟩
theorem SlotOk.z {N : Cn} {Z Z' : Zd} {O : Addr → Prop} {H : Hp} {v : Option V} {s : Sl} (e1 : Z.H0 = Z'.H0) (e2 : Z.O0 = Z'.O0) (e3 : Z.Mu = Z'.Mu) (h : SlotOk N Z O H v s) : SlotOk N Z' O H v s := by
  obtain ⟨a, b, c, d⟩ := Z
  obtain ⟨a', b', c', d'⟩ := Z'
  cases e1
  cases e2
  cases e3
  cases s <;> exact h
theorem Sim.bt {N : Cd} {Z : Zd} {O : Addr → Prop} {ρ : Env} {σ : L2.St} {H : Hp} (S : Sim N Z O ρ σ H) : Sim N.bt Z.bt O ρ σ H :=
  ⟨fun _ _ _ _ _ _ _ _ _ _ _ e => e, S.tab, S.len, fun i s v h1 h2 => (S.slot i s v h1 h2).z rfl rfl rfl, S.dist, S.o0, S.own, S.keep⟩
theorem Sim.ub {N : Cd} {Z : Zd} {O : Addr → Prop} {ρ : Env} {σ : L2.St} {H : Hp} (x : XOk N Z) (S : Sim N.bt Z.bt O ρ σ H) : Sim N Z O ρ σ H :=
  ⟨x, S.tab, S.len, fun i s v h1 h2 => (S.slot i s v h1 h2).z rfl rfl rfl, S.dist, S.o0, S.own, S.keep⟩
def bYes : FT := fun ρ Q _ => Q true ρ
def lcD (g : GD) (t : FT) (e : F) (vs : List Nat) (E : XP) (Q : List D → Env → Prop) : List D → List D → Env → Prop
  | [], acc, ρ => Q acc ρ
  | d :: ds, acc, ρ => g d ρ fun ρ1 => t ρ1 (fun b ρ2 => if b = true then e ρ2 (fun y ρ3 => acc.length < sizeLine ∧ lcD g t e vs E Q ds (acc ++ [y]) (wipeE ρ3 vs)) E else lcD g t e vs E Q ds acc (wipeE ρ2 vs)) E
def oLc (fi : FL) (g : GD) (t : FT) (e : F) (vs : List Nat) : FL := fun ρ Q E => fi ρ (fun ds ρ1 => lcD g t e vs noX Q ds [] (wipeE ρ1 vs)) E
def lc2D (g : GD) (t : FT) (fi1 : FL) (g1 : GD) (t1 : FT) (e : F) (vs vs1 : List Nat) (E : XP) (Q : List D → Env → Prop) : List D → List D → Env → Prop
  | [], acc, ρ => Q acc ρ
  | d :: ds, acc, ρ => g d ρ fun ρ1 => t ρ1 (fun b ρ2 => if b = true then fi1 ρ2 (fun es ρ3 => lcD g1 t1 e vs1 E (fun acc' ρ4 => lc2D g t fi1 g1 t1 e vs vs1 E Q ds acc' (wipeE ρ4 vs)) es acc (wipeE ρ3 vs1)) E else lc2D g t fi1 g1 t1 e vs vs1 E Q ds acc (wipeE ρ2 vs)) E
def oLc2 (fi : FL) (g : GD) (t : FT) (fi1 : FL) (g1 : GD) (t1 : FT) (e : F) (vs vs1 : List Nat) : FL := fun ρ Q E => fi ρ (fun ds ρ1 => lc2D g t fi1 g1 t1 e vs vs1 noX Q ds [] (wipeE ρ1 vs)) E
def eMade (f : FL) : F := fun ρ Q E => f ρ (fun ds ρ1 => Q (.lst ds) ρ1) E
theorem wipeE_idem (ρ : Env) (vs : List Nat) : wipeE (wipeE ρ vs) vs = wipeE ρ vs := by
  refine List.ext_getElem? fun j => ?_
  by_cases e : j ∈ vs
  · by_cases hj : j < ρ.length
    · rw [wipeE_no ρ j hj vs e, wipeE_no _ j (by rw [wipeE_len]; exact hj) vs e]
    · rw [List.getElem?_eq_none (by rw [wipeE_len, wipeE_len]; omega), List.getElem?_eq_none (by rw [wipeE_len]; omega)]
  · rw [wipeE_get _ j vs e]
structure Mk (N : Cd) (Z : Zd) (O : Addr → Prop) (ρ : Env) (σ : L2.St) (H : Hp) (p : Addr) (acc : List D) : Prop where
  sim : Sim N Z O ρ σ H
  op : O p
  ap : Apart ρ σ (.ref p)
  ex : ∃ av, H p = some (.lst av) ∧ Reps N O H av acc
section
variable {N : Cd} {Z : Zd} {p : Addr} {g : GD} {t : FT} {fe : F} {is vs : List Nat}
theorem drop_cons {ds : List D} {i : Nat} {d : D} (hlt : i < ds.length) (hd : ds[i]? = some d) : ds.drop i = d :: ds.drop (i + 1) := by
  rw [List.drop_eq_getElem_cons hlt]
  congr 1
  rw [List.getElem?_eq_getElem hlt] at hd
  exact Option.some.inj hd
theorem lc_in {J : It} {ds : List D} {O1 : Addr → Prop} {H1 : Hp} {ρ1 : Env} {σ : L2.St} {acc : List D} {Qd : List D → Env → Prop} {Fin : Hp → Prop} (mu : Z.fre N p) (sub : ∀ i ∈ is, i ∈ vs) {Kq : Hp → Prop} (it : ItOk N Kq J ds O1 H1) (M : Mk N Z O1 ρ1 (wipe σ vs) H1 p acc) (hw : wipeE ρ1 vs = ρ1)
    (q : lcD g t fe vs noX Qd ds acc ρ1) (fin : ∀ H' O' ρ' acc', Ext O1 H1 O' H' → Mk N Z O' ρ' (wipe σ vs) H' p acc' → wipeE ρ' vs = ρ' → Qd acc' ρ' → Fin H') (kq : ∀ O ρ acc H, Mk N Z O ρ (wipe σ vs) H p acc → Kq H := by exact fun _ _ _ _ _ => trivial) :
    ∃ W : Nat → Nat → Hp → Prop, (∃ m, W 0 m H1) ∧ ∀ i m H, W i m H → (J.stop i H ∧ Fin H) ∨ (J.go i H ∧ ∃ Nx : Hp → Prop, (∀ H', Nx H' → ∃ m', m' < m ∧ W (i + 1) m' H') ∧ ∀ x H', J.yld i H x H' → tG N.bt is g x (wipe σ vs) H' fun σ2 H2 => wipe σ2 vs = wipe σ vs ∧ tDT N.bt t σ2 H2 fun b H3 =>
      if b = true then tD N.bt fe σ2 H3 fun y H4 => ∃ acc, H4 p = some (.lst acc) ∧ acc.length < sizeLine ∧ Nx (upd H4 p (.lst (acc ++ [y]))) else Nx H3) := by
  refine ⟨fun i m H' => m = ds.length - i ∧ i ≤ ds.length ∧ ∃ O' ρ' acc', Ext O1 H1 O' H' ∧ Mk N Z O' ρ' (wipe σ vs) H' p acc' ∧ wipeE ρ' vs = ρ' ∧ lcD g t fe vs noX Qd (ds.drop i) acc' ρ', ⟨ds.length, by omega, Nat.zero_le _, O1, ρ1, acc, Ext.refl, M, hw, q⟩, ?_⟩
  rintro i m H2 ⟨rfl, hi, O2, ρ2, acc2, x2, ⟨S2, op2, ap2, av, hav, rav⟩, hw2, q2⟩
  obtain ⟨go, stop⟩ := it O2 H2 i x2 S2.dom (kq _ _ _ _ ⟨S2, op2, ap2, av, hav, rav⟩)
  by_cases hlt : i < ds.length
  · refine .inr ⟨(go hlt).1, fun H' => ∃ O' ρ' acc', Ext O1 H1 O' H' ∧ Mk N Z O' ρ' (wipe σ vs) H' p acc' ∧ wipeE ρ' vs = ρ' ∧ lcD g t fe vs noX Qd (ds.drop (i + 1)) acc' ρ', fun H' z => ⟨_, by omega, rfl, hlt, z⟩, fun x H3 y => ?_⟩
    obtain ⟨s3, d, hd, r3⟩ := (go hlt).2 x H3 y
    rw [drop_cons hlt hd] at q2
    have S3 := S2.same s3
    have hav3 := s3 _ _ hav
    refine ⟨(Z.fr N H3 p).bt, O2, ρ2, d, _, (S3.frame op2 ap2).bt, r3, q2, fun σ4 ρ4 o4 S4 q4 => ?_⟩
    have o4' : Off vs (wipe σ vs) σ4 := o4.mono sub
    have ew : wipe σ4 vs = wipe σ vs := by
      rw [wipe_eq o4', wipe_eq off_wipe]
    refine ⟨ew, (Z.fr N H3 p).bt, O2, ρ4, _, S4, q4, fun k H5 O5 ρ5 x5 S5 q5 => ?_⟩
    have x3 : Ext O1 H1 O2 H3 := x2.trans (Ext.same s3)
    cases k with
    | true =>
      refine iteT ⟨(Z.fr N H3 p).bt, O5, ρ5, _, S5, q5, fun z H6 O6 dz ρ6 x6 S6 r6 ⟨hz, q6⟩ => ?_⟩
      obtain ⟨S7, hp7, op7, ap7⟩ := S3.unframe hav3 (Sim.ub (S3.frame op2 ap2).xk S6)
      have S8 := S7.wiped o4'.symm
      have ap8 := ap7.wiped o4'.symm
      obtain ⟨S9, x9⟩ := S8.aside (o' := .lst (av ++ [z])) op7 mu hp7 (fun z => z) nofun nofun nofun ap8
      refine ⟨av, hp7, by rw [rav.length]; exact hz, O6, _, acc2 ++ [dz], (x3.trans (x5.trans x6)).trans x9, ⟨S9, op7, ap8, _, upd_same, ?_⟩, wipeE_idem _ _, q6⟩
      exact (rav.ext (((Ext.same s3).trans (x5.trans x6)).trans x9)).snoc (r6.ext x9)
    | false =>
      obtain ⟨S7, hp7, op7, ap7⟩ := S3.unframe hav3 (Sim.ub (S3.frame op2 ap2).xk S5)
      exact iteF ⟨O5, _, acc2, x3.trans x5, ⟨S7.wiped o4'.symm, op7, ap7.wiped o4'.symm, av, hp7, rav.ext ((Ext.same s3).trans x5)⟩, wipeE_idem _ _, q5⟩
  · have e : i = ds.length := by omega
    subst e
    rw [List.drop_length] at q2
    exact .inl ⟨stop rfl, fin H2 O2 ρ2 acc2 x2 ⟨S2, op2, ap2, av, hav, rav⟩ hw2 q2⟩
end
section
variable {X : Cx} {N : Cd} {fi fi1 : FL} {g g1 : GD} {t t1 : FT} {fe : F} {is is1 vs1 : List Nat} {elt tg iter tg1 iter1 : Expr} {ifs ifs1 : List Expr} {scope : Scope} {own : List (Str × Nat)} {pos : Pos}
theorem mk_start {Z : Zd} {O1 : Addr → Prop} {ρ1 : Env} {σ : L2.St} {H1 : Hp} {p : Addr} {vs : List Nat} (S1 : Sim N Z O1 ρ1 σ H1) (hp : H1 p = none) : ∃ O2, Ext O1 H1 O2 (upd H1 p (.lst [])) ∧ Mk N Z O2 (wipeE ρ1 vs) (wipe σ vs) (upd H1 p (.lst [])) p [] ∧ Z.fre N p ∧ ¬ Z.O0 p := by
  obtain ⟨S2, x2, m, ap⟩ := S1.claim (o := .lst []) hp
  exact ⟨_, x2, ⟨S2.wiped off_wipe, m.1, ap.wiped off_wipe, [], upd_same, .nil⟩, m.2.2, m.2.1⟩
theorem ItOk.ext {Kq : Hp → Prop} {J : It} {ds : List D} {O O1 : Addr → Prop} {H H1 : Hp} (it : ItOk N Kq J ds O H) (x : Ext O H O1 H1) : ItOk N Kq J ds O1 H1 := fun O2 H2 i y dm kp => it O2 H2 i (x.trans y) dm kp
theorem lc_read {vs : List Nat} (sub : ∀ i ∈ is, i ∈ vs) {σ : L2.St} {H : Hp} {Q : VK} {Z : Zd} {O : Addr → Prop} {ρ : Env} {Qd : List D → Env → Prop} (S : Sim N Z O ρ σ H) (q : oLc fi g t fe vs ρ Qd Z.E)
    (k : ∀ p H' O' ρ' acc, Ext O H O' H' → Mk N Z O' ρ' σ H' p acc → ¬ Z.O0 p → Z.fre N p → Qd acc ρ' → Q (.ref p) H') : tLc (tI N fi) (tG N.bt is g) (tDT N.bt t) (tD N.bt fe) vs σ H Q :=
  ⟨Z, O, ρ, _, S, q, fun J H1 O1 ds ρ1 x1 S1 it q1 p hp => by
    obtain ⟨O2, x2, M, mu, n0⟩ := mk_start (vs := vs) S1 hp
    refine lc_in mu sub (it.ext x2) M (wipeE_idem _ _) q1 fun H' O' ρ' acc x' M' hw q' => ?_
    have S' := M'.sim.wiped (vs := vs) (off_wipe.symm)
    have ap' := M'.ap.wiped (vs := vs) (off_wipe.symm)
    rw [hw] at S' ap'
    exact k p H' O' ρ' acc ((x1.trans x2).trans x') ⟨S', M'.op, ap', M'.ex⟩ n0 mu q'⟩
theorem Mk.data {Z : Zd} {O : Addr → Prop} {ρ : Env} {σ : L2.St} {H : Hp} {p : Addr} {acc : List D} (M : Mk N Z O ρ σ H p acc) (n0 : ¬ Z.O0 p) : ∃ O', Ext O H O' H ∧ Sim N Z O' ρ σ H ∧ Rep N O' H (.ref p) (.lst acc) := by
  obtain ⟨S, op, ap, av, h, r⟩ := M
  obtain ⟨S', x'⟩ := S.free n0 ap
  exact ⟨_, x', S', .lst (fun z => z.2 rfl) h (r.ext x')⟩
theorem de_lc (hc : X.calm = true) (hN : X.N.Nodup) (hi : PI X tg iter (tI N fi)) (ok : BlkOk X.N X.env.scope scope own) (sub : ∀ i ∈ is, i ∈ own.map (·.2))
    (hg : ∀ (s : Shared) (H : Hp) (C : Addr) (cl : List (Str × Addr)) (fp : List Addr), PG (X.blk s H scope (compEnvC scope cl C X.env) fp) tg (tG N.bt is g)) (ht : ∀ (s : Shared) (H : Hp) (C : Addr) (cl : List (Str × Addr)) (fp : List Addr), PTs (X.blk s H scope (compEnvC scope cl C X.env) fp) ifs (tDT N.bt t))
    (he : ∀ (s : Shared) (H : Hp) (C : Addr) (cl : List (Str × Addr)) (fp : List Addr), PE (X.blk s H scope (compEnvC scope cl C X.env) fp) elt (tD N.bt fe)) (hs : ∀ x, foldedSetIterable iter X.env x = pure x := by intro _; rfl) :
    PE X (.ListComp elt [⟨tg, iter, ifs, 0⟩] scope pos) (tD N (eMade (oLc fi g t fe (own.map (·.2))))) :=
  PE.imp (pe_lc hc hN hi ok hg ht he hs) fun σ H Q ⟨Z, O, ρ, Qd, S, q, k⟩ => lc_read sub S q fun p H' O' ρ' acc x M n0 mu q' => by
    obtain ⟨O2, x2, S2, r2⟩ := M.data n0
    exact k _ H' O2 _ ρ' (x.trans x2) S2 r2 q'
theorem Mk.slot {Z : Zd} {O : Addr → Prop} {ρ : Env} {σ : L2.St} {H : Hp} {p : Addr} {acc : List D} (M : Mk N Z O ρ σ H p acc) (n0 : ¬ Z.O0 p) (mu : Z.fre N p) : SlotOk N Z O H (some (.ref p)) (.own acc) := by
  obtain ⟨S, op, ap, av, h, r⟩ := M
  exact ⟨p, av, rfl, ⟨op, n0, mu⟩, h, r⟩
theorem lc2_read {vs : List Nat} (sub : ∀ i ∈ is, i ∈ vs) (sub1 : ∀ i ∈ is1, i ∈ vs1) (hv : ∀ i ∈ vs1, i ∈ vs) {σ : L2.St} {H : Hp} {Q : VK} {Z : Zd} {O : Addr → Prop} {ρ : Env} {Qd : List D → Env → Prop} (S : Sim N Z O ρ σ H) (q : oLc2 fi g t fi1 g1 t1 fe vs vs1 ρ Qd Z.E)
    (k : ∀ p H' O' ρ' acc, Ext O H O' H' → Mk N Z O' ρ' σ H' p acc → ¬ Z.O0 p → Z.fre N p → Qd acc ρ' → Q (.ref p) H') : tLc2 (tI N fi) (tG N.bt is g) (tDT N.bt t) (tI N.bt fi1) (tG N.bt is1 g1) (tDT N.bt t1) (tD N.bt fe) vs vs1 σ H Q :=
  ⟨Z, O, ρ, _, S, q, fun J H1 O1 ds ρ1 x1 S1 it q1 p hp => by
    obtain ⟨Oa, xa, M, mu, n0⟩ := mk_start (vs := vs) S1 hp
    refine ⟨fun i m H' => m = ds.length - i ∧ i ≤ ds.length ∧ ∃ O' ρ' acc', Ext Oa (upd H1 p (.lst [])) O' H' ∧ Mk N Z O' ρ' (wipe σ vs) H' p acc' ∧ wipeE ρ' vs = ρ' ∧ lc2D g t fi1 g1 t1 fe vs vs1 noX Qd (ds.drop i) acc' ρ', ⟨ds.length, by omega, Nat.zero_le _, Oa, _, [], Ext.refl, M, wipeE_idem _ _, q1⟩, ?_⟩
    rintro i m H2 ⟨rfl, hi, O2, ρ2, acc2, x2, M2, hw2, q2⟩
    obtain ⟨S2, op2, ap2, av, hav, rav⟩ := id M2
    obtain ⟨go, stop⟩ := it O2 H2 i (xa.trans x2) S2.dom trivial
    by_cases hlt : i < ds.length
    · refine .inr ⟨(go hlt).1, fun H' => ∃ O' ρ' acc', Ext Oa (upd H1 p (.lst [])) O' H' ∧ Mk N Z O' ρ' (wipe σ vs) H' p acc' ∧ wipeE ρ' vs = ρ' ∧ lc2D g t fi1 g1 t1 fe vs vs1 noX Qd (ds.drop (i + 1)) acc' ρ', fun H' z => ⟨_, by omega, rfl, hlt, z⟩, fun x H3 y => ?_⟩
      obtain ⟨s3, d, hd, r3⟩ := (go hlt).2 x H3 y
      rw [drop_cons hlt hd] at q2
      have S3 := S2.same s3
      have hav3 := s3 _ _ hav
      refine ⟨(Z.fr N H3 p).bt, O2, ρ2, d, _, (S3.frame op2 ap2).bt, r3, q2, fun σ4 ρ4 o4 S4 q4 => ?_⟩
      have o4' : Off vs (wipe σ vs) σ4 := o4.mono sub
      have ew : wipe σ4 vs = wipe σ vs := by
        rw [wipe_eq o4', wipe_eq off_wipe]
      refine ⟨ew, (Z.fr N H3 p).bt, O2, ρ4, _, S4, q4, fun k' H5 O5 ρ5 x5 S5 q5 => ?_⟩
      have x3 : Ext Oa (upd H1 p (.lst [])) O2 H3 := x2.trans (Ext.same s3)
      cases k' with
      | true =>
        refine iteT ⟨(Z.fr N H3 p).bt, O5, ρ5, _, S5, q5, fun J1 H6 O6 es ρ6 x6 S6 it6 q6 => ?_⟩
        obtain ⟨S7, hp7, op7, ap7⟩ := S3.unframe hav3 (Sim.ub (S3.frame op2 ap2).xk S6)
        have M7 : Mk N Z O6 (wipeE ρ6 vs1) (wipe σ4 vs1) H6 p acc2 := ⟨S7.wiped off_wipe, op7, ap7.wiped off_wipe, av, hp7, rav.ext ((Ext.same s3).trans (x5.trans x6))⟩
        refine lc_in mu sub1 it6 M7 (wipeE_idem _ _) q6 fun H' O' ρ' acc' x' M' hw' q' => ?_
        have o8 : Off vs (wipe σ4 vs1) (wipe σ vs) := ((off_wipe (σ := σ4) (vs := vs1)).mono hv).symm.trans o4'.symm
        exact ⟨O', wipeE ρ' vs, acc', (x3.trans (x5.trans x6)).trans x', ⟨M'.sim.wiped o8, M'.op, M'.ap.wiped o8, M'.ex⟩, wipeE_idem _ _, q'⟩
      | false =>
        obtain ⟨S7, hp7, op7, ap7⟩ := S3.unframe hav3 (Sim.ub (S3.frame op2 ap2).xk S5)
        exact iteF ⟨O5, _, acc2, x3.trans x5, ⟨S7.wiped o4'.symm, op7, ap7.wiped o4'.symm, av, hp7, rav.ext ((Ext.same s3).trans x5)⟩, wipeE_idem _ _, q5⟩
    · have e : i = ds.length := by omega
      subst e
      rw [List.drop_length] at q2
      have S' := M2.sim.wiped (vs := vs) (off_wipe.symm)
      have ap' := M2.ap.wiped (vs := vs) (off_wipe.symm)
      rw [hw2] at S' ap'
      exact .inl ⟨stop rfl, k p H2 O2 ρ2 acc2 ((x1.trans xa).trans x2) ⟨S', op2, ap', av, hav, rav⟩ n0 mu q2⟩⟩
theorem de_lc2 (hc : X.calm = true) (hN : X.N.Nodup) (hi : PI X tg iter (tI N fi)) (ok : BlkOk X.N X.env.scope scope own) (sub : ∀ i ∈ is, i ∈ own.map (·.2)) (sub1 : ∀ i ∈ is1, i ∈ vs1) (hv : ∀ i ∈ vs1, i ∈ own.map (·.2))
    (hg : ∀ (s : Shared) (H : Hp) (C : Addr) (cl : List (Str × Addr)) (fp : List Addr), PG (X.blk s H scope (compEnvC scope cl C X.env) fp) tg (tG N.bt is g)) (ht : ∀ (s : Shared) (H : Hp) (C : Addr) (cl : List (Str × Addr)) (fp : List Addr), PTs (X.blk s H scope (compEnvC scope cl C X.env) fp) ifs (tDT N.bt t))
    (hi1 : ∀ (s : Shared) (H : Hp) (C : Addr) (cl : List (Str × Addr)) (fp : List Addr), PI (X.blk s H scope (compEnvC scope cl C X.env) fp) tg1 iter1 (tI N.bt fi1))
    (hg1 : ∀ (s : Shared) (H : Hp) (C : Addr) (cl : List (Str × Addr)) (fp : List Addr), PG (X.blk s H scope (compEnvC scope cl C X.env) fp) tg1 (tG N.bt is1 g1)) (ht1 : ∀ (s : Shared) (H : Hp) (C : Addr) (cl : List (Str × Addr)) (fp : List Addr), PTs (X.blk s H scope (compEnvC scope cl C X.env) fp) ifs1 (tDT N.bt t1))
    (he : ∀ (s : Shared) (H : Hp) (C : Addr) (cl : List (Str × Addr)) (fp : List Addr), PE (X.blk s H scope (compEnvC scope cl C X.env) fp) elt (tD N.bt fe)) (hs : ∀ x, foldedSetIterable iter X.env x = pure x := by intro _; rfl) (hs1 : ∀ env x, foldedSetIterable iter1 env x = pure x := by intro _ _; rfl) :
    PE X (.ListComp elt [⟨tg, iter, ifs, 0⟩, ⟨tg1, iter1, ifs1, 0⟩] scope pos) (tD N (eMade (oLc2 fi g t fi1 g1 t1 fe (own.map (·.2)) vs1))) :=
  PE.imp (pe_lc2 hc hN hi ok hv hg ht hi1 hg1 ht1 he hs hs1) fun σ H Q ⟨Z, O, ρ, Qd, S, q, k⟩ => lc2_read sub sub1 hv S q fun p H' O' ρ' acc x M n0 mu q' => by
    obtain ⟨O2, x2, S2, r2⟩ := M.data n0
    exact k _ H' O2 _ ρ' (x.trans x2) S2 r2 q'
theorem PTs.imp {es : List Expr} {t t' : TT} (h : PTs X es t) (i : ∀ σ H Q, t' σ H Q → t σ H Q) : PTs X es t' := ⟨fun pn s σ H Q I q => h.run pn s σ H Q I (i σ H Q q)⟩
theorem dts_nil : PTs X [] (tDT N bYes) := PTs.imp pts_nil fun σ H Q ⟨Z, O, ρ, Qd, S, q, k⟩ => k true H O ρ Ext.refl S q
theorem dts_one {c : Expr} {ta : FT} (h : L2.PT X c (tDT N ta)) : PTs X [c] (tDT N ta) := pts_one h
end
structure Att (N : Cn) (c : Nat) : Prop where
  cls : Cls N.K (N.cl c)
  no : ∀ x ∈ N.sch c, NoAttr N.K (N.cl c) x
  nd : (N.sch c).Nodup
  ns : N.sl c = false
structure SAtt (N : Cn) (c : Nat) : Prop where
  ss : N.sl c = true
  cls : SlX.SCls N.K (N.cl c)
  at_ : ∀ j x, (N.sch c)[j]? = some x → ∃ p, SlX.Slot1 N.K (N.cl c) x p (N.si c j)
  inj : ∀ i j, i < (N.sch c).length → j < (N.sch c).length → N.si c i = N.si c j → i = j
theorem lookup_at : ∀ {fs : List (Str × V)} {j : Nat} {x : Str} {v : V}, (fs.map (·.1)).Nodup → (fs.map (·.1))[j]? = some x → (fs.map (·.2))[j]? = some v → fs.lookup x = some v
  | [], _, _, _, _, h, _ => by simp at h
  | (y, w) :: r, 0, x, v, _, h1, h2 => by
    simp at h1 h2
    subst h1 h2
    rw [List.lookup_cons]
    simp
  | (y, w) :: r, j + 1, x, v, nd, h1, h2 => by
    simp only [List.map_cons, List.getElem?_cons_succ] at h1 h2
    rw [List.map_cons] at nd
    have nd' := List.nodup_cons.mp nd
    have ne : x ≠ y := fun e => nd'.1 (by rw [← e]; exact List.mem_of_getElem? h1)
    rw [List.lookup_cons]
    have hb : (x == y) = false := by simpa using ne
    simp only [hb]
    exact lookup_at nd'.2 h1 h2
def opFld (ix : Nat → Option Nat) : D → Option D
  | .ins c ds => if c < 100 then (ix c).bind fun j => ds[j]? else none
  | .slt c ds => (ix (c + 100)).bind fun j => ds[j]?
  | _ => none
structure FldOk (N : Cn) (x : Str) (ix : Nat → Option Nat) : Prop where
  at_ : ∀ c j, ix c = some j → c < 100 → Att N c ∧ (N.sch c)[j]? = some x
  sl_ : ∀ c j, ix (c + 100) = some j → SAtt N c ∧ (N.sch c)[j]? = some x
section
variable {X : Cx} {N : Cd} {a b c e o : Expr} {es : List Expr} {p pos apos cpos : Pos} {fa fb fc : F} {fx : FX} {fl : FL} {ta tb : FT} {x : Str}
theorem SltAt.slt {N : Cn} {O : Addr → Prop} {H : Hp} {a : Addr} {c : Nat} {us : List V} (h : SltAt N O H a c us) : ∃ dx vs, dx ≠ a ∧ ¬ O dx ∧ SlX.Slt H a (N.cl c) dx vs ∧ ∀ j u, us[j]? = some u → vs[N.si c j]? = some (some u) := by
  obtain ⟨dx, vs, ne, no, h1, h2, h3⟩ := h
  exact ⟨dx, vs, ne, no, .inr ⟨h1, h2⟩, h3⟩
theorem fld_read {ix : Nat → Option Nat} (ok : FldOk N x ix) {O : Addr → Prop} {H : Hp} {v : V} {d w : D} (r : Rep N O H v d) (e : opFld ix d = some w) :
    (∃ a C dx fs u, v = .ref a ∧ H a = some (.ins C dx fs) ∧ Cls N.K C ∧ NoAttr N.K C x ∧ fs.lookup x = some u ∧ Rep N O H u w) ∨ ∃ a C dx vs p i u, v = .ref a ∧ SlX.Slt H a C dx vs ∧ SlX.SCls N.K C ∧ SlX.Slot1 N.K C x p i ∧ vs[i]? = some (some u) ∧ Rep N O H u w := by
  cases r with
  | @ins a dx fs c ds n h sc rs =>
    have e : (if c < 100 then (ix c).bind fun j => ds[j]? else none) = some w := e
    by_cases hc : c < 100
    · rw [if_pos hc] at e
      obtain ⟨j, hj, hw⟩ := Option.bind_eq_some_iff.mp e
      obtain ⟨at_, hx⟩ := ok.at_ _ j hj hc
      obtain ⟨u, hu, ru⟩ := rs.get' hw
      refine .inl ⟨_, _, _, _, u, rfl, h, at_.cls, at_.no x (List.mem_of_getElem? hx), lookup_at ?_ ?_ hu, ru⟩
      · rw [sc]
        exact at_.nd
      · rw [sc]
        exact hx
    · rw [if_neg hc] at e
      cases e
  | slt n h sc rs =>
    obtain ⟨j, hj, hw⟩ := Option.bind_eq_some_iff.mp e
    obtain ⟨at_, hx⟩ := ok.sl_ _ j hj
    obtain ⟨u, hu, ru⟩ := rs.get' hw
    obtain ⟨dx, vs, _, _, hs, hv⟩ := h.slt
    obtain ⟨p, hp⟩ := at_.at_ j x hx
    exact .inr ⟨_, _, _, _, p, _, u, rfl, hs, at_.cls, hp, hv j u hu, ru⟩
  | _ => cases e
theorem de_fld {ix : Nat → Option Nat} (ok : FldOk N x ix) (he : PE X e (tD N fa)) (hb : attributeBase e x X.env (eval e X.env) = eval e X.env := by rfl) (hK : X.K = N.K := by rfl) : PE X (.Attribute e x pos) (tD N (e1 (o1 (opFld ix)) fa)) := by
  refine ⟨fun pins s σ H Q I ⟨Z, O, ρ, Qd, S, q, kk⟩ => ?_⟩
  refine attr_of hb (thn (he.run pins s σ H (fun v H1 => ∃ O1 d ρ1, Ext O H O1 H1 ∧ Sim N Z O1 ρ1 σ H1 ∧ Rep N O1 H1 v d ∧ ∃ w, opFld ix d = some w ∧ Qd w ρ1) I ⟨Z, O, ρ, _, S, q, fun v H1 O1 d ρ1 x1 S1 r1 q1 => ⟨O1, d, ρ1, x1, S1, r1, q1⟩⟩) fun u s1 ⟨v, H1, I1, rx, O1, d, ρ1, x1, S1, r1, w, e, q1⟩ => ?_)
  rcases fld_read ok r1 e with ⟨a, C, dx, fs, y, rfl, h1, h2, h3, h4, ru⟩ | ⟨a, C, dx, vs, p, i, y, rfl, h1, h2, h3, h4, ru⟩
  · obtain rfl : u = Value.ref a := rx
    rw [← hK] at h2 h3
    exact getattr_ok I1 h1 h2 h3 h4 fun u' s2 I2 ry => ⟨y, H1, I2, ry, kk y H1 O1 w ρ1 x1 S1 ru q1⟩
  · obtain rfl : u = Value.ref a := rx
    rw [← hK] at h2 h3
    exact SlX.getslot_ok I1 h1 h2 h3 h4 fun u' s2 I2 ry => ⟨y, H1, I2, ry, kk y H1 O1 w ρ1 x1 S1 ru q1⟩
theorem de_fldO {i j cn : Nat} (at_ : Att N cn) (hx : (N.sch cn)[j]? = some x) (he : PE X e (tVar i)) (hb : attributeBase e x X.env (eval e X.env) = eval e X.env := by rfl) (hK : X.K = N.K := by rfl) : PE X (.Attribute e x pos) (tD N (fun ρ Q _ => ∃ a ds d, ρ[i]? = some (Sl.obj a cn ds) ∧ ds[j]? = some d ∧ Q d ρ)) :=
  PE.imp (pe_fld he hb) fun σ H Q ⟨Z, O, ρ, Qd, S, ⟨a, ds, d, h1, h2, q⟩, k⟩ => by
    obtain ⟨v, hv, so⟩ := S.ref h1
    obtain ⟨dx, fs, rfl, m, h, sc, rs⟩ := so.dict at_.ns
    obtain ⟨u, hu, ru⟩ := rs.get' h2
    refine ⟨_, hv, a, _, dx, fs, u, rfl, h, ?_, ?_, lookup_at ?_ ?_ hu, k u H O d ρ Ext.refl S ru q⟩
    · rw [hK]
      exact at_.cls
    · rw [hK]
      exact at_.no x (List.mem_of_getElem? hx)
    · rw [sc]
      exact at_.nd.sublist (List.take_sublist _ _)
    · rw [sc, List.getElem?_take_of_lt ((List.getElem?_eq_some_iff.mp h2).1)]
      exact hx
theorem putF_new {f : Str} {v : V} : ∀ {fs : List (Str × V)}, f ∉ fs.map (·.1) → putF f v fs = fs ++ [(f, v)]
  | [], _ => rfl
  | (g, y) :: r, h => by
    have hne : g ≠ f := fun e => h (by rw [← e]; exact List.mem_cons_self ..)
    show (if g = f then _ else _) = _
    rw [if_neg hne, putF_new fun z => h (List.mem_cons_of_mem _ z)]
    rfl
def sFldS (i cn j : Nat) (f : F) : FS := fun De ρ E => f ρ (fun d ρ1 => ∃ a ds, ρ1[i]? = some (Sl.obj a cn ds) ∧ ds.length = j ∧ De.nx (ρ1.set i (.obj a cn (ds ++ [d])))) E
theorem ds_fldS {i j cn : Nat} (at_ : Att N cn) (hx : (N.sch cn)[j]? = some x) (ho : PE X o (tVar i)) (he : PE X e (tD N fa)) (hj : j < 1000 := by decide) (hs : swapsWith e (some (.Attribute o x apos)) pos.line X.env = pure false := by rfl) (hK : X.K = N.K := by rfl) : PS X (.Assign [.Attribute o x apos] e pos) (tS N (sFldS i cn j fa)) :=
  PS.imp (ps_fld ho he hs) fun D σ H ⟨Z, O, ρ, De, S, q, g⟩ => ⟨Z, O, ρ, _, S, q, fun v H1 O1 d ρ1 x1 S1 r1 ⟨a, ds, h1, hl, q1⟩ => by
    obtain ⟨v', hv, so⟩ := S1.ref h1
    obtain ⟨dx, fs, rfl, m, h, sc, rs⟩ := so.dict at_.ns
    have nin : x ∉ fs.map (·.1) := by
      rw [sc, hl]
      intro z
      obtain ⟨i, hi, e⟩ := List.mem_iff_getElem.mp z
      rw [List.getElem_take] at e
      have hi2 : i < j := by
        rw [List.length_take] at hi
        omega
      obtain ⟨hj2, ej⟩ := List.getElem?_eq_some_iff.mp hx
      rw [← ej] at e
      have := (List.getElem_inj at_.nd).mp e
      omega
    have lf : fs.length = j := by
      have := rs.length
      rw [List.length_map] at this
      omega
    refine ⟨_, hv, a, _, dx, fs, rfl, h, by rw [hK]; exact at_.cls, by rw [hK]; exact at_.no x (List.mem_of_getElem? hx), by omega, ?_⟩
    rw [putF_new nin]
    have hsc : (fs ++ [(x, v)]).map (·.1) = (N.sch cn).take (ds ++ [d]).length := by
      rw [List.map_append, sc, List.length_append, List.length_singleton, hl, List.take_add_one, hx]
      rfl
    have xx : Ext O1 H1 O1 (upd H1 a (.ins (N.cl cn) dx (fs ++ [(x, v)]))) := ⟨fun b u e _ n => by rw [upd_ne (fun (z : b = a) => n (z ▸ m.1))]; exact e, fun b u e it => by rw [upd_ne (fun (z : b = a) => by subst z; rw [h] at e; cases e; exact it)]; exact e, fun _ _ _ _ n => n⟩
    have rr : Reps N O1 (upd H1 a (.ins (N.cl cn) dx (fs ++ [(x, v)]))) ((fs ++ [(x, v)]).map (·.2)) (ds ++ [d]) := by
      rw [List.map_append]
      exact (rs.ext xx).snoc (r1.ext xx)
    obtain ⟨S2, x2⟩ := S1.turn (t := .obj a cn (ds ++ [d])) (H' := upd H1 a (.ins (N.cl cn) dx (fs ++ [(x, v)]))) h1 hv rfl rfl m.1 m.2.2 (fun b u n e => by rw [upd_ne n]; exact e) ⟨_, upd_same, nofun⟩ (fun u e it => by rw [h] at e; cases e; exact it)
      (SlotOk.of_dict at_.ns ⟨dx, fs ++ [(x, v)], rfl, m, upd_same, hsc, rr⟩) (no := fun _ _ _ e => by cases e; exact at_.ns)
    exact g.nx σ _ O1 _ (x1.trans x2) S2 q1⟩
end
abbrev M := List D → (D → Prop) → XP → Prop
def Tk (X : Cx) (N : Cd) : Prop := Takes X (fun cls d _ H => N.ek cls d H)
theorem tkB {X : Cx} {N : Cd} : Tk X N.bt := fun _ _ ⟨_, _, _, _, _, _, _, _, _, _, _, _, _, _, _, _, w⟩ => w.elim
theorem no_q {N : Cd} {O : Addr → Prop} {H : Hp} : XqT N O H noX := fun _ _ _ _ _ _ _ z => z.elim
theorem Tk.pass {X : Cx} {N : Cd} (tk : Tk X N) : Passes (CX X.prog X.w) X N.ek := passes_call tk fun _ _ _ _ h => h
def spM (N : Cn) (n : Nat) (m : M) : Sp := fun vs H Q E => ∃ O ds Qd Ed, Dm N O H ∧ Reps N O H vs ds ∧ ds.length = n ∧ m ds Qd Ed ∧ XqT ⟨N, E⟩ O H Ed ∧ ∀ v H' d, SmT N H H' → Rep N O H' v d → Qd d → Q v H'
def run (n : Nat) (g : FS) : M := fun ds Q E => g ⟨fun _ => Q .non, fun d _ => Q d, fun _ => False, fun _ => False⟩ (ds.map Sl.val ++ List.replicate (n - ds.length) .no) E
theorem start_len {N : List Str} {vs : List V} (h : vs.length ≤ N.length) : (L2.start N vs).length = N.length := by
  unfold L2.start
  rw [List.length_append, List.length_map, List.length_replicate]
  omega
theorem slots_at {s : Sl} {n i : Nat} {ds : List D} (h : (ds.map Sl.val ++ List.replicate n .no)[i]? = some s) : (∃ d, ds[i]? = some d ∧ s = .val d) ∨ s = .no := by
  by_cases hi : i < ds.length
  · rw [List.getElem?_append_left (by rw [List.length_map]; exact hi), List.getElem?_map, List.getElem?_eq_getElem hi] at h
    cases h
    exact .inl ⟨_, List.getElem?_eq_getElem hi, rfl⟩
  · rw [List.getElem?_append_right (by rw [List.length_map]; omega)] at h
    exact .inr (List.mem_replicate.mp (List.mem_of_getElem? h)).2
theorem sim_start {N : Cd} {O : Addr → Prop} {H : Hp} {vs : List V} {ds : List D} {names : List Str} {Ed : XP} (xq : XqT N O H Ed) (dm : Dm N O H) (r : Reps N O H vs ds) (hl : ds.length ≤ names.length) : Sim N ⟨H, O, fun _ => False, Ed⟩ O (ds.map Sl.val ++ List.replicate (names.length - ds.length) .no) (L2.start names vs) H where
  xk := fun O' H' cls dx n d h0 hd hk ht r e => xq cls dx H' n d ⟨fun a o e t => hk a o e t fun z => z, ht⟩ (r.ext (Ext.less h0)) e
  tab := dm.2
  len := by
    rw [start_len (by rw [r.length]; exact hl), List.length_append, List.length_map, List.length_replicate]
    omega
  slot := fun i s v h1 h2 => by
    rcases slots_at h1 with ⟨d, hd, rfl⟩ | rfl
    · obtain ⟨u, hu, ru⟩ := r.get' hd
      have hi : i < vs.length := (List.getElem?_eq_some_iff.mp hu).1
      unfold L2.start at h2
      rw [List.getElem?_append_left (by rw [List.length_map]; exact hi), List.getElem?_map, hu] at h2
      cases h2
      exact ⟨u, rfl, ru⟩
    · trivial
  dist := fun i j s t a ne h1 h2 o1 => by
    rcases slots_at h1 with ⟨d, hd, rfl⟩ | rfl <;> cases o1
  o0 := fun _ h => h
  own := dm.1
  keep := fun _ _ h _ _ => h
section
variable {P : Program} {w : World} {K : PySem.W.Frag} {mg : Str → Option Value} {base : Heap} {x qual : Str} {pa : Arguments} {bd : List Stmt} {sc : Scope} {dvs : List V} {kws : List (Str × V)} {f : Addr} {fd : FuncData} {names ps : List Str} {g : FS} {k : Nat} {N : Cn}
theorem read_m {names : List Str} {n : Nat} {vs : List V} {H : Hp} {Q : VK} {E : XK} (hn : n ≤ names.length) (h : spM N n (run names.length g) vs H Q E) : tS ⟨N, E⟩ g { nx := fun _ H' => Q .non H', rt := Q } (L2.start names vs) H := by
  obtain ⟨O, ds, Qd, Ed, dm, r, hl, q, xq, k⟩ := h
  refine ⟨⟨H, O, fun _ => False, Ed⟩, O, _, _, sim_start xq dm r (by rw [hl]; exact hn), q, ⟨fun σ' H' O' ρ' y S q' => ?_, fun v σ' H' O' d ρ' y S rv q' => ?_, fun σ' H' O' ρ' y S q' => q', fun σ' H' O' ρ' y S q' => q'⟩⟩
  · exact k .non H' .non ⟨fun a o e t => S.keep a o e t fun z => z, S.tab⟩ .non q'
  · exact k v H' d ⟨fun a o e t => S.keep a o e t fun z => z, S.tab⟩ (rv.ext (Ext.less S.o0)) q'
theorem fn_m (F : FunD K x qual pa bd sc dvs kws f fd) (S : FnScope names ps sc) (hn : ps.length ≤ names.length)
    (body : ∀ (cdv : Value) (A : Around) (outer : List PySem.Env) (s : Shared) (H : Hp) (E : XK), Room k (A.deeper (envOfC qual sc s.heap.objs.size f cdv)) → Tk (cxOf (CX P w) P w K mg base names qual sc f cdv A outer s H E) ⟨N, E⟩ → PSs (cxOf (CX P w) P w K mg base names qual sc f cdv A outer s H E) bd (tS ⟨N, E⟩ g)) : FnOk P w K mg base (CX P w) (k + 1) f fd ps (spM N ps.length (run names.length g)) :=
  F.ok S (fun vs H Q E h => by
      obtain ⟨O, ds, Qd, Ed, dm, r, hl, _⟩ := h
      rw [r.length, hl]) fun cdv A outer s H vs Q E hr h => ⟨_, body cdv A outer s H E hr (takes_of rfl rfl rfl rfl), read_m hn h⟩
theorem fn_mG (F : FunD K x qual pa bd sc dvs kws f fd) (S : FnScope names ps sc) (hn : ps.length ≤ names.length)
    (body : ∀ (cdv : Value) (A : Around) (outer : List PySem.Env) (s : Shared) (H : Hp) (E : XK), A.guards = some [] → Room k (A.deeper (envOfC qual sc s.heap.objs.size f cdv)) → Tk (cxOf (CX P w) P w K mg base names qual sc f cdv A outer s H E) ⟨N, E⟩ → PSs (cxOf (CX P w) P w K mg base names qual sc f cdv A outer s H E) bd (tS ⟨N, E⟩ g)) : FnG P w K mg base (CX P w) (k + 1) f fd ps (spM N ps.length (run names.length g)) :=
  fng_of F S (fun vs H Q E h => by
      obtain ⟨O, ds, Qd, Ed, dm, r, hl, _⟩ := h
      rw [r.length, hl]) fun cdv A outer s H vs Q E ga hr h => ⟨_, body cdv A outer s H E ga hr (takes_of rfl rfl rfl rfl), read_m hn h⟩
end
def Dfl (N : Cn) (fd : FuncData) (ps : List Str) (dd : List D) : Prop := ∃ dvs ds, Binds N.K fd ps ds ∧ Vals dvs ds ∧ ∀ O H, Reps N O H dvs dd
structure Fc (P : Program) (w : World) (mg : Str → Option Value) (base : Heap) (N : Cn) (k : Nat) (x : Str) (n : Nat) (m : M) (dfl : List (List D)) : Prop where
  ex : ∃ f fd ps, FnOk P w N.K mg base (CX P w) k f fd ps (spM N n m) ∧ mg x = some (.ref f) ∧ PySem.W.keepIn N.K (.ref f) = true ∧ ∀ dd ∈ dfl, Dfl N fd ps dd
structure FcG (P : Program) (w : World) (mg : Str → Option Value) (base : Heap) (N : Cn) (k : Nat) (x : Str) (n : Nat) (m : M) : Prop where
  ex : ∃ f fd ps, FnG P w N.K mg base (CX P w) k f fd ps (spM N n m) ∧ mg x = some (.ref f) ∧ PySem.W.keepIn N.K (.ref f) = true ∧ Binds N.K fd ps []
section
variable {X : Cx} {N : Cd} {a b c e o : Expr} {es : List Expr} {p pos apos cpos : Pos} {fa fb fc fo : F} {fx : FX} {fl : FL} {ta tb : FT} {x : Str} {n k : Nat} {m : M} {dfl : List (List D)} {dd : List D}
theorem call_read {dvs : List V} (hd : ∀ O H, Reps N O H dvs dd) {Z : Zd} {O O1 : Addr → Prop} {ρ1 : Env} {σ : L2.St} {H H1 : Hp} {Q : VK} {Qd : D → Env → Prop} {vs : List V} {ds : List D} (k : ∀ v H' O' d ρ', Ext O H O' H' → Sim N Z O' ρ' σ H' → Rep N O' H' v d → Qd d ρ' → Q v H')
    (x1 : Ext O H O1 H1) (S1 : Sim N Z O1 ρ1 σ H1) (r1 : Reps N O1 H1 vs ds) (hn : (ds ++ dd).length = n) (q : m (ds ++ dd) (fun d => Qd d ρ1) Z.E) : spM N n m (vs ++ dvs) H1 Q N.ek :=
  ⟨O1, ds ++ dd, _, Z.E, S1.dm, r1.app (hd O1 H1), hn, q, S1.xq, fun v H' d s r q' => k v H' O1 d ρ1 (x1.trans (S1.ext s)) (S1.smt s) r q'⟩
def eCallN (n : Nat) (m : M) (dd : List D) (fl : FL) : F := fun ρ Q E => fl ρ (fun ds ρ1 => (ds ++ dd).length = n ∧ m (ds ++ dd) (fun d => Q d ρ1) E) E
theorem de_call (C : Fc X.prog X.w X.mg X.base N k x n m dfl) (hd : dd ∈ dfl) (hr : Room k X.A) (hg : Gl X x) (ha : PA X (e :: es) (tDL N fl)) (hdb : (x == ("__debug__" : Str)) = false := by decide) (he : starEach (e :: es) X.env = (false, eval e X.env) :: starEach es X.env := by rfl) (hpl : (backTo pos (starEach es X.env)).any (·.1) = false := by rfl) (hK : X.K = N.K := by rfl) (tk : Tk X N := by first | assumption | exact tkB) :
    PE X (.Call (.Name x p) (e :: es) [] pos) (tD N (eCallN n m dd fl)) := by
  obtain ⟨f, fd, ps, ok, hm, kp, bs⟩ := C.ex
  obtain ⟨dvs, ds, hb, hv, hrp⟩ := bs dd hd
  rw [← hK] at ok kp hb
  exact PE.imp (pe_call ok hr hg hm kp hb hv (E := N.ek) tk.pass ha hdb he hpl) fun σ H Q ⟨Z, O, ρ, Qd, S, q, k⟩ => ⟨Z, O, ρ, _, S, q, fun vs H1 O1 ds ρ1 x1 S1 r1 ⟨hn, q1⟩ => call_read hrp k x1 S1 r1 hn q1⟩
theorem de_callG (ga : X.A.guards = some []) (C : FcG X.prog X.w X.mg X.base N k x n m) (hr : Room k X.A) (hg : Gl X x) (ha : PA X (e :: es) (tDL N fl)) (hdb : (x == ("__debug__" : Str)) = false := by decide) (he : starEach (e :: es) X.env = (false, eval e X.env) :: starEach es X.env := by rfl) (hpl : (backTo pos (starEach es X.env)).any (·.1) = false := by rfl) (hK : X.K = N.K := by rfl) (tk : Tk X N := by first | assumption | exact tkB) :
    PE X (.Call (.Name x p) (e :: es) [] pos) (tD N (eCallN n m [] fl)) := by
  obtain ⟨f, fd, ps, ok, hm, kp, hb⟩ := C.ex
  rw [← hK] at ok kp hb
  exact PE.imp (pe_callG (E := N.ek) ga ok hr hg hm kp hb tk.pass ha hdb he hpl) fun σ H Q ⟨Z, O, ρ, Qd, S, q, k⟩ => ⟨Z, O, ρ, _, S, q, fun vs H1 O1 ds ρ1 x1 S1 r1 ⟨hn, q1⟩ => by
    have z := call_read (dvs := []) (dd := []) (fun _ _ => .nil) k x1 S1 r1 hn q1
    rw [List.append_nil] at z
    exact z⟩
structure Mc (P : Program) (w : World) (mg : Str → Option Value) (base : Heap) (N : Cn) (k : Nat) (x : Str) (c n : Nat) (m : M) (dfl : List (List D)) : Prop where
  att : Att N c
  nox : x ∉ N.sch c
  ex : ∃ f fd ps, FnOk P w N.K mg base (CX P w) k f fd ps (spM N n m) ∧ Meth N.K (N.cl c) x f ∧ ∀ dd ∈ dfl, Dfl N fd ps dd
abbrev Tab := List (Nat × Nat × M)
def look : Tab → Nat → Option (Nat × M)
  | [], _ => none
  | (c, n, m) :: r, d => if d = c then some (n, m) else look r d
def eMeth (tab : Tab) (dd : List D) (fo : F) (fl : FL) : F := fun ρ Q E => fo ρ (fun d ρ1 => ∃ c ds n m, d = .ins c ds ∧ look tab c = some (n, m) ∧ fl ρ1 (fun as ρ2 => (d :: (as ++ dd)).length = n ∧ m (d :: (as ++ dd)) (fun r => Q r ρ2) E) E) E
def McAll (P : Program) (w : World) (mg : Str → Option Value) (base : Heap) (N : Cn) (k : Nat) (x : Str) (dd : List D) (tab : Tab) : Prop := ∀ c n m, look tab c = some (n, m) → ∃ dfl, Mc P w mg base N k x c n m dfl ∧ dd ∈ dfl
structure Pc (P : Program) (w : World) (mg : Str → Option Value) (base : Heap) (N : Cn) (k : Nat) (x : Str) (c : Nat) (m : M) : Prop where
  cls : Cls N.K (N.cl c)
  ex : ∃ pa g fd, FnOk P w N.K mg base (CX P w) k g fd ["self"] (spM N 1 m) ∧ PropOf N.K (N.cl c) x pa g ∧ Binds N.K fd ["self"] []
def PcAll (P : Program) (w : World) (mg : Str → Option Value) (base : Heap) (N : Cn) (k : Nat) (x : Str) (tab : Tab) : Prop := ∀ c n m, look tab c = some (n, m) → n = 1 ∧ Pc P w mg base N k x c m
def ePr (tab : Tab) (fo : F) : F := fun ρ Q E => fo ρ (fun d ρ1 => ∃ c ds n m, d = .ins c ds ∧ look tab c = some (n, m) ∧ 1 = n ∧ m [d] (fun r => Q r ρ1) noX) E
theorem de_prop {tab : Tab} (C : PcAll X.prog X.w X.mg X.base N k x tab) (hr : Room (k + 1) X.A) (ho : PE X o (tD N fo)) (hab : attributeBase o x X.env (eval o X.env) = eval o X.env := by rfl) (hK : X.K = N.K := by rfl) : PE X (.Attribute o x pos) (tD N (ePr tab fo)) := by
  refine ⟨fun pins s σ H Q I ⟨Z, O, ρ, Qd, S, q, kk⟩ => ?_⟩
  refine attr_of hab (thn (ho.run pins s σ H (fun v H1 => ∃ O1 d ρ1, Ext O H O1 H1 ∧ Sim N Z O1 ρ1 σ H1 ∧ Rep N O1 H1 v d ∧ ∃ c ds n m, d = .ins c ds ∧ look tab c = some (n, m) ∧ 1 = n ∧ m [d] (fun r => Qd r ρ1) noX) I ⟨Z, O, ρ, _, S, q, fun v H1 O1 d ρ1 x1 S1 r1 q1 => ⟨O1, d, ρ1, x1, S1, r1, q1⟩⟩) fun u s1 ⟨v, H1, I1, rx, O1, d, ρ1, x1, S1, r1, c, ds, n, m, ed, hlk, hl, q1⟩ => ?_)
  subst ed
  obtain ⟨rfl, pc⟩ := C c n m hlk
  obtain ⟨pa, g, fd, ok, pr, hb⟩ := pc.ex
  have rr := r1
  cases r1 with
  | @ins ad dx fs _ _ no h sc rs =>
    obtain rfl : u = Value.ref ad := rx
    have cl := pc.cls
    rw [← hK] at ok pr hb cl
    refine getprop_ok I1 h cl pr ok hr hb .nil (E := N.bt.ek) (tkB (N := N)).pass ?_
    exact ⟨O1, _, _, noX, S1.dm, .cons rr .nil, rfl, q1, no_q, fun v H' d s r q' => kk v H' O1 d ρ1 (x1.trans (S1.ext s)) (S1.smt s) r q'⟩
end
abbrev MP := List D → Nat → (D → Nat → Prop) → XP → Prop
structure ExBT (N : Cn) (a : Addr) (H H' : Hp) : Prop where
  st : ∀ b o, b ≠ a → H b = some o → NT' N o → H' b = some o
  tb : LamX.Tabs N.tb H'
theorem pot_ne {H : Hp} {a : Addr} {c : Nat} (h : Pot H a c) : (∀ ps, H a ≠ some (.tbl ps)) ∧ ∀ φ, H a ≠ some (.ext φ) := by
  obtain ⟨x, y, z, h, _⟩ := h
  rw [h]
  exact ⟨nofun, nofun⟩
theorem ExBT.of {N : Cn} {a : Addr} {c : Nat} {H H' : Hp} (t : LamX.Tabs N.tb H) (h : Pot H a c) (x : ExB a H H') : ExBT N a H H' := ⟨fun b o n e _ => x b o n e, tabs_but t (fun b o n e => x b o n e) (pot_ne h).1 (pot_ne h).2⟩
def spP (N : Cn) (n : Nat) (m : MP) : Sp := fun vs H Q _ => ∃ a us O ds c Qd, vs = .ref a :: us ∧ Dm N O H ∧ O a ∧ Pot H a c ∧ Reps N O H us ds ∧ ds.length = n ∧ m ds c Qd noX ∧ ∀ v H' d c', ExBT N a H H' → Pot H' a c' → Rep N O H' v d → Qd d c' → Q v H'
def runP (n : Nat) (g : FS) : MP := fun ds c Q E => ∀ a, g ⟨fun ρ => ∃ c', ρ[0]? = some (Sl.pot a c') ∧ Q .non c', fun d ρ => ∃ c', ρ[0]? = some (Sl.pot a c') ∧ Q d c', fun _ => False, fun _ => False⟩ (Sl.pot a c :: (ds.map Sl.val ++ List.replicate (n - 1 - ds.length) .no)) E
section
variable {N : Cn} {names : List Str} {g : FS} {n : Nat} {vs : List V} {H : Hp} {Q : VK} {E : XK}
theorem pot_not {a : Addr} {c : Nat} (h : Pot H a c) : ∀ o, H a = some o → ¬ IsT o := fun o e it => by
  obtain ⟨x, y, z, h, _⟩ := h
  rw [h] at e
  cases e
  exact it
theorem read_p (hn : n + 1 ≤ names.length) (h : spP N n (runP names.length g) vs H Q E) : tS (Cd.bt ⟨N, E⟩) g { nx := fun _ H' => Q .non H', rt := Q } (L2.start names vs) H := by
  obtain ⟨a, us, O, ds, c, Qd, rfl, dm, oa, hp, r, hl, q, k⟩ := h
  have hst : L2.start names (V.ref a :: us) = some (V.ref a) :: (us.map some ++ List.replicate (names.length - 1 - us.length) none) := by
    unfold L2.start
    rw [List.map_cons, List.length_cons, List.cons_append, Nat.sub_sub, Nat.add_comm 1]
  have hul := r.length
  have S : Sim (Cd.bt ⟨N, E⟩) ⟨H, O, fun b => b = a, noX⟩ O (Sl.pot a c :: (ds.map Sl.val ++ List.replicate (names.length - 1 - ds.length) .no)) (L2.start names (V.ref a :: us)) H := by
    rw [hst]
    refine ⟨fun _ _ _ _ _ _ _ _ _ _ _ z => z, dm.2, ?_, fun i s v h1 h2 => ?_, fun i j s t b ne h1 h2 o1 o2 => ?_, fun _ z => z, dm.1, fun _ _ z _ _ => z⟩
    · rw [List.length_cons, List.length_cons, List.length_append, List.length_append, List.length_map, List.length_map, List.length_replicate, List.length_replicate, hul]
    · cases i with
      | zero =>
        cases h1
        cases h2
        exact ⟨rfl, ⟨oa, fun _ _ _ => rfl⟩, hp⟩
      | succ i =>
        rw [List.getElem?_cons_succ] at h1 h2
        rcases slots_at h1 with ⟨d, hd, rfl⟩ | rfl
        · obtain ⟨u, hu, ru⟩ := r.get' hd
          have hi : i < us.length := (List.getElem?_eq_some_iff.mp hu).1
          rw [List.getElem?_append_left (by rw [List.length_map]; exact hi), List.getElem?_map, hu] at h2
          cases h2
          exact ⟨u, rfl, ru⟩
        · trivial
    · have z : ∀ (i : Nat) (s : Sl), (Sl.pot a c :: (ds.map Sl.val ++ List.replicate (names.length - 1 - ds.length) .no))[i]? = some s → isOwn s = true → i = 0 := fun i s h o => by
        cases i with
        | zero => rfl
        | succ i =>
          rw [List.getElem?_cons_succ] at h
          rcases slots_at h with ⟨d, hd, rfl⟩ | rfl <;> cases o
      exact absurd ((z i s h1 o1).trans (z j t h2 o2).symm) ne
  have out : ∀ {v : V} {d : D} {σ' : L2.St} {H' : Hp} {O' : Addr → Prop} {ρ' : Env}, Sim (Cd.bt ⟨N, E⟩) ⟨H, O, fun b => b = a, noX⟩ O' ρ' σ' H' → Rep N O' H' v d → (∃ c', ρ'[0]? = some (Sl.pot a c') ∧ Qd d c') → Q v H' := fun {v d σ' H' O' ρ'} S' rv ⟨c', h0, q'⟩ => by
    obtain ⟨u, hu, e, m, pt⟩ := S'.ref h0
    exact k v H' d c' ⟨fun b o nb e t => S'.keep b o e t nb, S'.tab⟩ pt (rv.ext (Ext.less S'.o0)) q'
  exact ⟨_, O, _, _, S, q a, ⟨fun σ' H' O' ρ' y S' q' => out S' .non q', fun v σ' H' O' d ρ' y S' rv q' => out S' rv q', fun _ _ _ _ _ _ z => z, fun _ _ _ _ _ _ z => z⟩⟩
end
section
variable {P : Program} {w : World} {K : PySem.W.Frag} {mg : Str → Option Value} {base : Heap} {x qual : Str} {pa : Arguments} {bd : List Stmt} {sc : Scope} {dvs : List V} {kws : List (Str × V)} {f : Addr} {fd : FuncData} {names ps : List Str} {g : FS} {k n : Nat} {N : Cn}
theorem len_p {vs : List V} {H : Hp} {Q : VK} {E : XK} {m : MP} (hp : n + 1 = ps.length) (h : spP N n m vs H Q E) : vs.length = ps.length := by
  obtain ⟨a, us, O, ds, c, Qd, rfl, dm, oa, _, r, hl, _⟩ := h
  rw [List.length_cons, r.length, hl, hp]
theorem fn_p (F : FunD K x qual pa bd sc dvs kws f fd) (S : FnScope names ps sc) (hp : n + 1 = ps.length) (hn : n + 1 ≤ names.length)
    (body : ∀ (cdv : Value) (A : Around) (outer : List PySem.Env) (s : Shared) (H : Hp) (E : XK), Room k (A.deeper (envOfC qual sc s.heap.objs.size f cdv)) → PSs (cxOf (CX P w) P w K mg base names qual sc f cdv A outer s H E) bd (tS (Cd.bt ⟨N, E⟩) g)) : FnOk P w K mg base (CX P w) (k + 1) f fd ps (spP N n (runP names.length g)) :=
  F.ok S (fun vs H Q E h => len_p hp h) fun cdv A outer s H vs Q E hr h => ⟨_, body cdv A outer s H E hr, read_p hn h⟩
theorem fn_pG (F : FunD K x qual pa bd sc dvs kws f fd) (S : FnScope names ps sc) (hp : n + 1 = ps.length) (hn : n + 1 ≤ names.length)
    (body : ∀ (cdv : Value) (A : Around) (outer : List PySem.Env) (s : Shared) (H : Hp) (E : XK), A.guards = some [] → Room k (A.deeper (envOfC qual sc s.heap.objs.size f cdv)) → PSs (cxOf (CX P w) P w K mg base names qual sc f cdv A outer s H E) bd (tS (Cd.bt ⟨N, E⟩) g)) : FnG P w K mg base (CX P w) (k + 1) f fd ps (spP N n (runP names.length g)) :=
  fng_of F S (fun vs H Q E h => len_p hp h) fun cdv A outer s H vs Q E ga hr h => ⟨_, body cdv A outer s H E ga hr, read_p hn h⟩
end
structure FcP (P : Program) (w : World) (mg : Str → Option Value) (base : Heap) (N : Cn) (k : Nat) (x : Str) (n : Nat) (m : MP) : Prop where
  ex : ∃ f fd ps, FnOk P w N.K mg base (CX P w) k f fd ps (spP N n m) ∧ mg x = some (.ref f) ∧ PySem.W.keepIn N.K (.ref f) = true ∧ Binds N.K fd ps []
structure FcPG (P : Program) (w : World) (mg : Str → Option Value) (base : Heap) (N : Cn) (k : Nat) (x : Str) (n : Nat) (m : MP) : Prop where
  ex : ∃ f fd ps, FnG P w N.K mg base (CX P w) k f fd ps (spP N n m) ∧ mg x = some (.ref f) ∧ PySem.W.keepIn N.K (.ref f) = true ∧ Binds N.K fd ps []
def eCallP (i n : Nat) (m : MP) (fl : FL) : F := fun ρ Q E => (∃ a c, ρ[i]? = some (Sl.pot a c)) ∧ fl ρ (fun ds ρ1 => ∃ a c, ρ1[i]? = some (Sl.pot a c) ∧ ds.length = n ∧ m ds c (fun d c' => Q d (ρ1.set i (.pot a c'))) noX) E
section
variable {X : Cx} {N : Cd} {a b c e o : Expr} {es : List Expr} {p pos apos cpos : Pos} {fa fb fc fo : F} {fx fy : FX} {fl : FL} {ta tb : FT} {x : Str} {n k i : Nat} {m : MP} {dfl : List (List D)} {dd : List D}
theorem callp_read {σ : L2.St} {H : Hp} {Q : VK} {E : XK} (h : tD N (eCallP i n m fl) σ H Q) : tCons (tVar i) (tDL N fl) σ H fun vs H1 => spP N n m vs H1 Q E := by
  obtain ⟨Z, O, ρ, Qd, S, ⟨⟨a0, c0, h0⟩, q⟩, k⟩ := h
  obtain ⟨v0, hv0, e0, m0, pt0⟩ := S.ref h0
  subst e0
  refine ⟨_, hv0, Z, O, ρ, _, S, q, fun vs H1 O1 ds ρ1 x1 S1 r1 ⟨a, c, h1, hl, q1⟩ => ?_⟩
  obtain ⟨v1, hv1, e1, m1, pt1⟩ := S1.ref h1
  subst e1
  rw [hv0] at hv1
  cases hv1
  refine ⟨_, vs, O1, ds, c, _, rfl, S1.dm, m1.1, pt1, r1, hl, q1, fun v H' d c' xb pt' rv q' => ?_⟩
  have nn : ∃ o, H' a0 = some o ∧ NT o := by
    obtain ⟨o, b, c, h, _⟩ := pt'
    exact ⟨_, h, nofun⟩
  obtain ⟨S2, x2⟩ := S1.turnT (t := .pot a0 c') (H' := H') h1 hv0 rfl rfl m1.1 m1.2 (fun b o nb t e => xb.st b o nb e t) xb.tb nn (pot_not pt1) ⟨rfl, m1, pt'⟩
  exact k v H' O1 d _ (x1.trans x2) S2 rv q'
theorem de_callP (C : FcP X.prog X.w X.mg X.base N k x n m) (hr : Room k X.A) (hg : Gl X x) (hv : PE X e (tVar i)) (ha : PA X es (tDL N fl)) (hdb : (x == ("__debug__" : Str)) = false := by decide) (he : starEach (e :: es) X.env = (false, eval e X.env) :: starEach es X.env := by rfl) (hpl : (backTo pos (starEach es X.env)).any (·.1) = false := by rfl) (hK : X.K = N.K := by rfl) :
    PE X (.Call (.Name x p) (e :: es) [] pos) (tD N (eCallP i n m fl)) := by
  obtain ⟨f, fd, ps, ok, hm, kp, hb⟩ := C.ex
  rw [← hK] at ok kp hb
  refine PE.imp (pe_call ok hr hg hm kp hb .nil (E := N.bt.ek) (tkB (N := N)).pass (pa_cons hv ha he) hdb he hpl) fun σ H Q h => ?_
  have z := callp_read (E := N.bt.ek) h
  unfold tCall
  simp only [List.append_nil]
  exact z
abbrev MI := List D → (List D → Prop) → XP → Prop
def spI (N : Cn) (cn n : Nat) (m : MI) : Sp := fun vs H Q E => ∃ a dx us O ds Qd Ed, vs = .ref a :: us ∧ H a = some (.ins (N.cl cn) dx []) ∧ Dm N O H ∧ O a ∧ Reps N O H us ds ∧ ds.length = n ∧ m ds Qd Ed ∧
  (∀ H' dx' fs fds, ExBT N a H H' → H' a = some (.ins (N.cl cn) dx' fs) → fs.map (·.1) = N.sch cn → Reps N O H' (fs.map (·.2)) fds → Qd fds → Q .non H') ∧
  ∀ cls ex H' n d, ExBT N a H H' → XRep N (fun b => O b ∧ b ≠ a) H' cls ex n d → Ed n d → E cls ex H'
def runI (cn k n : Nat) (g : FS) : MI := fun ds Q E => ∀ a, g ⟨fun ρ => ∃ fds, ρ[0]? = some (Sl.obj a cn fds) ∧ fds.length = k ∧ Q fds, fun d ρ => d = .non ∧ ∃ fds, ρ[0]? = some (Sl.obj a cn fds) ∧ fds.length = k ∧ Q fds, fun _ => False, fun _ => False⟩ (Sl.obj a cn [] :: (ds.map Sl.val ++ List.replicate (n - 1 - ds.length) .no)) E
theorem read_i {N : Cn} {cn : Nat} {names : List Str} {g : FS} {vs : List V} {H : Hp} {Q : VK} {E : XK} (ns : N.sl cn = false) (hn : n + 1 ≤ names.length) (h : spI N cn n (runI cn (N.sch cn).length names.length g) vs H Q E) : tS ⟨N, E⟩ g { nx := fun _ H' => Q .non H', rt := Q } (L2.start names vs) H := by
  obtain ⟨a, dx, us, O, ds, Qd, Ed, rfl, hi, dm, oa, r, hl, q, k, kx⟩ := h
  have hst : L2.start names (V.ref a :: us) = some (V.ref a) :: (us.map some ++ List.replicate (names.length - 1 - us.length) none) := by
    unfold L2.start
    rw [List.map_cons, List.length_cons, List.cons_append, Nat.sub_sub, Nat.add_comm 1]
  have hul := r.length
  have S : Sim ⟨N, E⟩ ⟨H, fun b => O b ∧ b ≠ a, fun b => b = a, Ed⟩ O (Sl.obj a cn [] :: (ds.map Sl.val ++ List.replicate (names.length - 1 - ds.length) .no)) (L2.start names (V.ref a :: us)) H := by
    rw [hst]
    refine ⟨fun O' H' cls ex n d h0 hd hk ht r e => kx cls ex H' n d ⟨fun b o nb e t => hk b o e t nb, ht⟩ (r.ext (Ext.less h0)) e, dm.2, ?_, fun i s v h1 h2 => ?_, fun i j s t b ne h1 h2 o1 o2 => ?_, fun _ z => z.1, dm.1, fun _ _ z _ _ => z⟩
    · rw [List.length_cons, List.length_cons, List.length_append, List.length_append, List.length_map, List.length_map, List.length_replicate, List.length_replicate, hul]
    · cases i with
      | zero =>
        cases h1
        cases h2
        exact SlotOk.of_dict ns ⟨dx, [], rfl, ⟨oa, fun z => z.2 rfl, fun _ _ _ => rfl⟩, hi, rfl, .nil⟩
      | succ i =>
        rw [List.getElem?_cons_succ] at h1 h2
        rcases slots_at h1 with ⟨d, hd, rfl⟩ | rfl
        · obtain ⟨u, hu, ru⟩ := r.get' hd
          have hi : i < us.length := (List.getElem?_eq_some_iff.mp hu).1
          rw [List.getElem?_append_left (by rw [List.length_map]; exact hi), List.getElem?_map, hu] at h2
          cases h2
          exact ⟨u, rfl, ru⟩
        · trivial
    · have z : ∀ (i : Nat) (s : Sl), (Sl.obj a cn [] :: (ds.map Sl.val ++ List.replicate (names.length - 1 - ds.length) .no))[i]? = some s → isOwn s = true → i = 0 := fun i s h o => by
        cases i with
        | zero => rfl
        | succ i =>
          rw [List.getElem?_cons_succ] at h
          rcases slots_at h with ⟨d, hd, rfl⟩ | rfl <;> cases o
      exact absurd ((z i s h1 o1).trans (z j t h2 o2).symm) ne
  have out : ∀ {σ' : L2.St} {H' : Hp} {O' : Addr → Prop} {ρ' : Env}, Sim ⟨N, E⟩ ⟨H, fun b => O b ∧ b ≠ a, fun b => b = a, Ed⟩ O' ρ' σ' H' → (∃ fds, ρ'[0]? = some (Sl.obj a cn fds) ∧ fds.length = (N.sch cn).length ∧ Qd fds) → Q .non H' := fun {σ' H' O' ρ'} S' ⟨fds, h0, hf, q'⟩ => by
    obtain ⟨u, hu, so⟩ := S'.ref h0
    obtain ⟨dx', fs, e, m, h, sc, rs⟩ := so.dict ns
    rw [hf, List.take_length] at sc
    exact k H' dx' fs fds ⟨fun b o nb e t => S'.keep b o e t nb, S'.tab⟩ h sc (rs.ext (Ext.less fun b z => by
      by_cases e : b = a
      · subst e
        exact m.1
      · exact S'.o0 b ⟨z, e⟩)) q'
  exact ⟨_, O, _, _, S, q a, ⟨fun σ' H' O' ρ' y S' q' => out S' q', fun v σ' H' O' d ρ' y S' rv q' => by
    obtain ⟨e, q'⟩ := q'
    subst e
    cases rv
    exact out S' q', fun _ _ _ _ _ _ z => z, fun _ _ _ _ _ _ z => z⟩⟩
theorem fn_i {N : Cn} {P : Program} {w : World} {K : PySem.W.Frag} {mg : Str → Option Value} {base : Heap} {x qual : Str} {pa : Arguments} {bd : List Stmt} {sc : Scope} {dvs : List V} {kws : List (Str × V)} {f : Addr} {fd : FuncData} {names ps : List Str} {g : FS} {cn : Nat} (F : FunD K x qual pa bd sc dvs kws f fd) (S : FnScope names ps sc) (hp : n + 1 = ps.length) (hn : n + 1 ≤ names.length)
    (body : ∀ (cdv : Value) (A : Around) (outer : List PySem.Env) (s : Shared) (H : Hp) (E : XK), Room k (A.deeper (envOfC qual sc s.heap.objs.size f cdv)) → Tk (cxOf (CX P w) P w K mg base names qual sc f cdv A outer s H E) ⟨N, E⟩ → PSs (cxOf (CX P w) P w K mg base names qual sc f cdv A outer s H E) bd (tS ⟨N, E⟩ g)) (ns : N.sl cn = false := by rfl) : FnOk P w K mg base (CX P w) (k + 1) f fd ps (spI N cn n (runI cn (N.sch cn).length names.length g)) :=
  F.ok S (fun vs H Q E h => by
    obtain ⟨a, dx, us, O, ds, Qd, Ed, rfl, hi, dm, oa, r, hl, _⟩ := h
    rw [List.length_cons, r.length, hl, hp]) fun cdv A outer s H vs Q E hr h => ⟨_, body cdv A outer s H E hr (takes_of rfl rfl rfl rfl), read_i ns hn h⟩
structure Ic (P : Program) (w : World) (mg : Str → Option Value) (base : Heap) (N : Cn) (k : Nat) (x : Str) (cn n : Nat) (m : MI) (dfl : List (List D)) : Prop where
  ex : ∃ f fd ps, FnOk P w N.K mg base (CX P w) k f fd ps (spI N cn n m) ∧ L2.Mk N.K (N.cl cn) f ∧ mg x = some (.ref (N.cl cn)) ∧ ∀ dd ∈ dfl, Dfl N fd ps dd
def eMake (cn n : Nat) (m : MI) (dd : List D) (fl : FL) : F := fun ρ Q E => fl ρ (fun ds ρ1 => (ds ++ dd).length = n ∧ m (ds ++ dd) (fun fds => Q (.ins cn fds) ρ1) E) E
theorem de_make {cn : Nat} {m : MI} (C : Ic X.prog X.w X.mg X.base N k x cn n m dfl) (hd : dd ∈ dfl) (hr : Room (k + 1) X.A) (hg : Gl X x) (ha : PA X (e :: es) (tDL N fl)) (hdb : (x == ("__debug__" : Str)) = false := by decide) (he : starEach (e :: es) X.env = (false, eval e X.env) :: starEach es X.env := by rfl) (hpl : (backTo pos (starEach es X.env)).any (·.1) = false := by rfl) (hK : X.K = N.K := by rfl) (tk : Tk X N := by first | assumption | exact tkB) :
    PE X (.Call (.Name x p) (e :: es) [] pos) (tD N (eMake cn n m dd fl)) := by
  obtain ⟨f, fd, ps, ok, mk, hm, bs⟩ := C.ex
  obtain ⟨dvs, ds, hb, hv, hrp⟩ := bs dd hd
  rw [← hK] at ok mk hb
  refine PE.imp (pe_make mk ok hr hg hm hb hv (E := N.ek) tk.pass ha hdb he hpl) fun σ H Q ⟨Z, O, ρ, Qd, S, q, k⟩ => ⟨Z, O, ρ, _, S, q, fun vs H1 O1 ds ρ1 x1 S1 r1 ⟨hn, q1⟩ z dz hz hdz ne => ?_⟩
  have sm : Same H1 (upd (upd H1 dz (.own z)) z (.ins (N.cl cn) dz [])) := fun b o e => by
    rw [upd_ne (ne_of_none e hz), upd_ne (ne_of_none e hdz)]
    exact e
  have xx : Ext O1 H1 (fun b => O1 b ∨ b = z) (upd (upd H1 dz (.own z)) z (.ins (N.cl cn) dz [])) := ⟨fun b o e _ _ => sm b o e, fun b o e _ => sm b o e, fun b o e _ n q => q.elim n fun q => by subst q; rw [hz] at e; cases e⟩
  refine ⟨z, dz, vs ++ dvs, fun b => O1 b ∨ b = z, ds ++ dd, _, Z.E, rfl, upd_same, ⟨fun b ob => ?_, S1.tab.ext sm⟩, .inr rfl, (r1.app (hrp _ _)).ext xx, hn, q1, fun H' dx' fs fds xb h' sc rf q' => ⟨rfl, ?_⟩, fun cls ex H' n d xb r e => ?_⟩
  · rcases ob with ob | ob
    · obtain ⟨o, e, t⟩ := S1.own b ob
      exact ⟨o, sm b o e, t⟩
    · subst ob
      exact ⟨_, upd_same, nofun⟩
  · have sm2 : SmT N H1 H' := ⟨fun b o e t => xb.st b o (ne_of_none e hz) (sm b o e) t, xb.tb⟩
    exact k _ H' O1 _ ρ1 (x1.trans (S1.ext sm2)) (S1.smt sm2) (.ins (fun o => S1.dom z o hz) h' sc (rf.ext (Ext.less fun b o => .inl o))) q'
  · have sm2 : SmT N H1 H' := ⟨fun b o e t => xb.st b o (ne_of_none e hz) (sm b o e) t, xb.tb⟩
    exact S1.xq cls ex H' n d sm2 (r.ext (Ext.less fun b o => ⟨.inl o, fun (e : b = z) => S1.dom b o (e ▸ hz)⟩)) e
end
def eFrz (i : Nat) : F := fun ρ Q _ => ∃ ds, ρ[i]? = some (Sl.own ds) ∧ Q (.lst ds) (ρ.set i (.val (.lst ds)))
def eApp (i : Nat) (f : F) : F := fun ρ Q E => (∃ ds, ρ[i]? = some (Sl.own ds)) ∧ f ρ (fun d ρ1 => ∃ ds, ρ1[i]? = some (Sl.own ds) ∧ ds.length < sizeLine ∧ Q .non (ρ1.set i (.own (ds ++ [d])))) E
def eExt (i : Nat) (f : F) : F := fun ρ Q E => (∃ ds, ρ[i]? = some (Sl.own ds)) ∧ f ρ (fun d ρ1 => ∃ ds es, ρ1[i]? = some (Sl.own ds) ∧ d = .lst es ∧ ds.length + es.length ≤ sizeLine ∧ Q .non (ρ1.set i (.own (ds ++ es)))) E
section
variable {X : Cx} {N : Cd} {a b c e o : Expr} {es : List Expr} {p pos apos cpos : Pos} {fa fb fc fo : F} {fx fy fz : FX} {fl : FL} {ta tb : FT} {x y z : Str} {n k i j l : Nat}
theorem set_self {α : Type} {l : List α} {i : Nat} {v : α} (h : l[i]? = some v) : l.set i v = l := by
  refine List.ext_getElem? fun j => ?_
  by_cases e : i = j
  · subst e
    obtain ⟨hi, hv⟩ := List.getElem?_eq_some_iff.mp h
    rw [List.getElem?_set_self hi, h]
  · rw [List.getElem?_set_ne e]
theorem de_frz (h : PE X e (tVar i)) : PE X e (tD N (eFrz i)) := PE.imp h fun σ H Q ⟨Z, O, ρ, Qd, S, ⟨ds, h1, q⟩, k⟩ => by
  obtain ⟨v, hv, a, vs, e, m, h, r⟩ := S.ref h1
  subst e
  refine ⟨_, hv, ?_⟩
  have S1 := S.drop (i := i) (v := some (.ref a))
  rw [set_self hv] at S1
  have ap : Apart (ρ.set i .no) σ (.ref a) := fun j t b e g1 o1 g2 => by
    cases e
    by_cases ij : i = j
    · subst ij
      rw [set_some g1] at o1
      cases o1
    · rw [List.getElem?_set_ne ij] at g1
      exact S.dist i j _ t a ij h1 g1 rfl o1 hv g2
  obtain ⟨S2, x2⟩ := S1.free m.2.1 ap
  have rr : Rep N (fun b => O b ∧ b ≠ a) H (.ref a) (.lst ds) := .lst (fun z => z.2 rfl) h (r.ext x2)
  have S3 := S2.set (i := i) rr
  rw [set_self hv, List.set_set] at S3
  exact k _ H _ _ _ x2 S3 rr q
theorem Sim.own_turn {Z : Zd} {O : Addr → Prop} {ρ : Env} {σ : L2.St} {H : Hp} {a : Addr} {vs us : List V} {ds es : List D} (S : Sim N Z O ρ σ H) (h1 : ρ[i]? = some (Sl.own ds)) (hv : σ[i]? = some (some (.ref a))) (m : Mine N Z O a) (h : H a = some (.lst vs)) (r : Reps N O H us es) : Sim N Z O (ρ.set i (.own es)) σ (upd H a (.lst us)) ∧ Ext O H O (upd H a (.lst us)) := by
  have xx : Ext O H O (upd H a (.lst us)) := ⟨fun b u e _ n => by rw [upd_ne (fun (z : b = a) => n (z ▸ m.1))]; exact e, fun b u e it => by rw [upd_ne (fun (z : b = a) => by subst z; rw [h] at e; cases e; exact it)]; exact e, fun _ _ _ _ n => n⟩
  exact S.turn (t := .own es) (H' := upd H a (.lst us)) h1 hv rfl rfl m.1 m.2.2 (fun b u n e => by rw [upd_ne n]; exact e) ⟨_, upd_same, nofun⟩ (fun u e it => by rw [h] at e; cases e; exact it) ⟨a, us, rfl, m, upd_same, r.ext xx⟩
theorem de_app (hh : PE X (.Call (.Attribute o ("append" : Str) apos) [e] [] cpos) (tBM X.K "list" rAppend (tVar i) (tCons (tD N fa) tNil))) : PE X (.Call (.Attribute o ("append" : Str) apos) [e] [] cpos) (tD N (eApp i fa)) :=
  PE.imp hh fun σ H Q ⟨Z, O, ρ, Qd, S, ⟨⟨ds0, h0⟩, q⟩, k⟩ => by
    obtain ⟨v, hv, a, vs, e, m, h, r⟩ := S.ref h0
    subst e
    refine ⟨_, hv, .inl ⟨rfl, _, SqL.of h⟩, Z, O, ρ, _, S, q, fun v1 H1 O1 d1 ρ1 x1 S1 r1 ⟨ds, h1, hz, q1⟩ => ?_⟩
    obtain ⟨v', hv', a', vs', e, m', h', r'⟩ := S1.ref h1
    subst e
    rw [hv] at hv'
    cases hv'
    refine ⟨_, vs', v1, rfl, rfl, h', by rw [r'.length]; exact hz, ?_⟩
    obtain ⟨S2, x2⟩ := S1.own_turn h1 hv m' h' (r'.snoc r1)
    exact k _ _ O1 _ _ (x1.trans x2) S2 .non q1
theorem de_ext (hh : PE X (.Call (.Attribute o ("extend" : Str) apos) [e] [] cpos) (tBM X.K "list" rExtend (tVar i) (tCons (tDB N fa) tNil))) : PE X (.Call (.Attribute o ("extend" : Str) apos) [e] [] cpos) (tD N (eExt i fa)) :=
  PE.imp hh fun σ H Q ⟨Z, O, ρ, Qd, S, ⟨⟨ds0, h0⟩, q⟩, k⟩ => by
    obtain ⟨v, hv, a, vs, e, m, h, r⟩ := S.ref h0
    subst e
    refine ⟨_, hv, .inl ⟨rfl, _, SqL.of h⟩, Z, O, ρ, _, S, q, fun v1 H1 O1 d1 ρ1 x1 S1 r1 ⟨ds, es, h1, ed, hz, q1⟩ => ?_⟩
    subst ed
    obtain ⟨v', hv', a', vs', e, m', h', r'⟩ := S1.ref h1
    subst e
    rw [hv] at hv'
    cases hv'
    have up : ∃ b zs, v1 = .ref b ∧ H1 b = some (.lst zs) ∧ Reps N O1 H1 zs es := by
      cases r1 with
      | of r1 =>
        cases r1 with
        | lst n g rr => exact ⟨_, _, rfl, g, rr⟩
      | own n g rr => exact ⟨_, _, rfl, g, rr⟩
    obtain ⟨b, zs, rfl, hb, rb⟩ := up
    refine ⟨_, b, vs', zs, rfl, rfl, h', hb, by rw [r'.length, rb.length]; exact hz, ?_⟩
    obtain ⟨S2, x2⟩ := S1.own_turn h1 hv m' h' (r'.app rb)
    exact k _ _ O1 _ _ (x1.trans x2) S2 .non q1
def sPar (i j : Nat) (f g : FX) : FS := fun De ρ E => f ρ (fun s ρ1 => g ρ1 (fun t ρ2 => De.nx ((ρ2.set i s).set j t)) E) E
theorem Apart.set {ρ : Env} {σ : L2.St} {s : Sl} {u v : V} (ap : Apart ρ σ v) (h : isOwn s = true → ∀ a, v = .ref a → u ≠ .ref a) : Apart (ρ.set i s) (σ.set i (some u)) v := fun j t a e g1 o1 g2 => by
  by_cases ij : i = j
  · subst ij
    have h1 := set_some g1
    have h2 := set_some g2
    subst h1
    injection h2 with h2
    exact h o1 a e h2.symm
  · rw [List.getElem?_set_ne ij] at g1 g2
    exact ap j t a e g1 o1 g2
theorem aside2 {Z : Zd} {O1 : Addr → Prop} {ρ1 : Env} {σ : L2.St} {H1 : Hp} {v : V} {s : Sl} {Qd : Sl → Env → Prop} {Qv : VK} (S1 : Sim N Z O1 ρ1 σ H1) (r1 : SlotOk N Z O1 H1 (some v) s) (vo : KS s) (ap : isOwn s = true → Apart ρ1 σ v) (q1 : fy ρ1 Qd Z.E)
    (k : ∀ w H2 O2 t ρ2, Ext O1 H1 O2 H2 → Sim N Z O2 ρ2 σ H2 → SlotOk N Z O2 H2 (some v) s → (isOwn s = true → Apart ρ2 σ v) → SlotOk N Z O2 H2 (some w) t → KS t → (isOwn t = true → Apart ρ2 σ w) → (isOwn t = true → isOwn s = true → ∀ a, w = .ref a → v ≠ .ref a) → Qd t ρ2 → Qv w H2) : tX N fy σ H1 Qv := by
  rcases vo with ⟨d, rfl⟩ | ⟨ds, rfl⟩ | ⟨ds, rfl⟩ | ⟨a0, ds, rfl⟩
  · refine ⟨Z, O1, ρ1, _, S1, q1, fun w H2 O2 t ρ2 x2 S2 r2 vo2 ap2 q2 => k w H2 O2 t ρ2 x2 S2 ?_ (fun z => nomatch z) r2 vo2 ap2 (fun _ z => nomatch z) q2⟩
    obtain ⟨y, e, r⟩ := r1
    exact ⟨y, e, r.ext x2⟩
  · obtain ⟨a, vs, e, m, h, r⟩ := r1
    cases e
    refine ⟨Z.fr N H1 a, O1, ρ1, _, S1.frame m.1 (ap rfl), q1, fun w H2 O2 t ρ2 x2 S2 r2 vo2 ap2 q2 => ?_⟩
    obtain ⟨S3, h3, o3, ap3⟩ := S1.unframe h S2
    refine k w H2 O2 t ρ2 x2 S3 ⟨a, vs, rfl, ⟨o3, m.2⟩, h3, r.ext x2⟩ (fun _ => ap3) ?_ vo2 ap2 ?_ q2
    · rcases vo2 with ⟨d, rfl⟩ | ⟨es, rfl⟩ | ⟨es, rfl⟩ | ⟨b0, es, rfl⟩
      · exact r2
      · obtain ⟨b, us, e, ⟨m1, m2, m3⟩, hb, rb⟩ := r2
        exact ⟨b, us, e, ⟨m1, fun z => m2 (.inl z), fun o q t => Classical.byContradiction fun n => n ((m3 o (S1.keep _ o q t n) t).1 o q t)⟩, hb, rb⟩
      · obtain ⟨b, us, e, ⟨m1, m2, m3⟩, hb, rb⟩ := r2
        exact ⟨b, us, e, ⟨m1, fun z => m2 (.inl z), fun o q t => Classical.byContradiction fun n => n ((m3 o (S1.keep _ o q t n) t).1 o q t)⟩, hb, rb⟩
      · obtain ⟨e, ⟨m1, m3⟩, hb⟩ := r2
        exact ⟨e, ⟨m1, fun o q t => Classical.byContradiction fun n => n ((m3 o (S1.keep _ o q t n) t).1 o q t)⟩, hb⟩
    · intro ot _ b ew ev
      cases ev
      rcases vo2 with ⟨d, rfl⟩ | ⟨es, rfl⟩ | ⟨es, rfl⟩ | ⟨b0, es, rfl⟩
      · cases ot
      · obtain ⟨b, us, e, ⟨m1, m2, m3⟩, hb, rb⟩ := r2
        rw [ew] at e
        cases e
        exact m2 (.inr rfl)
      · obtain ⟨b, us, e, ⟨m1, m2, m3⟩, hb, rb⟩ := r2
        rw [ew] at e
        cases e
        exact m2 (.inr rfl)
      · obtain ⟨e, ⟨m1, m3⟩, hb⟩ := r2
        rw [ew] at e
        cases e
        exact (m3 _ h fun _ => nofun).2 rfl
  · obtain ⟨a, vs, e, m, h, r⟩ := r1
    cases e
    refine ⟨Z.fr N H1 a, O1, ρ1, _, S1.frame m.1 (ap rfl), q1, fun w H2 O2 t ρ2 x2 S2 r2 vo2 ap2 q2 => ?_⟩
    obtain ⟨S3, h3, o3, ap3⟩ := S1.unframe h S2
    refine k w H2 O2 t ρ2 x2 S3 ⟨a, vs, rfl, ⟨o3, m.2⟩, h3, r.ext x2⟩ (fun _ => ap3) ?_ vo2 ap2 ?_ q2
    · rcases vo2 with ⟨d, rfl⟩ | ⟨es, rfl⟩ | ⟨es, rfl⟩ | ⟨b0, es, rfl⟩
      · exact r2
      · obtain ⟨b, us, e, ⟨m1, m2, m3⟩, hb, rb⟩ := r2
        exact ⟨b, us, e, ⟨m1, fun z => m2 (.inl z), fun o q t => Classical.byContradiction fun n => n ((m3 o (S1.keep _ o q t n) t).1 o q t)⟩, hb, rb⟩
      · obtain ⟨b, us, e, ⟨m1, m2, m3⟩, hb, rb⟩ := r2
        exact ⟨b, us, e, ⟨m1, fun z => m2 (.inl z), fun o q t => Classical.byContradiction fun n => n ((m3 o (S1.keep _ o q t n) t).1 o q t)⟩, hb, rb⟩
      · obtain ⟨e, ⟨m1, m3⟩, hb⟩ := r2
        exact ⟨e, ⟨m1, fun o q t => Classical.byContradiction fun n => n ((m3 o (S1.keep _ o q t n) t).1 o q t)⟩, hb⟩
    · intro ot _ b ew ev
      cases ev
      rcases vo2 with ⟨d, rfl⟩ | ⟨es, rfl⟩ | ⟨es, rfl⟩ | ⟨b0, es, rfl⟩
      · cases ot
      · obtain ⟨b, us, e, ⟨m1, m2, m3⟩, hb, rb⟩ := r2
        rw [ew] at e
        cases e
        exact m2 (.inr rfl)
      · obtain ⟨b, us, e, ⟨m1, m2, m3⟩, hb, rb⟩ := r2
        rw [ew] at e
        cases e
        exact m2 (.inr rfl)
      · obtain ⟨e, ⟨m1, m3⟩, hb⟩ := r2
        rw [ew] at e
        cases e
        exact (m3 _ h fun _ => nofun).2 rfl
  · obtain ⟨e, m, us0, h, r⟩ := r1
    cases e
    refine ⟨Z.fr N H1 a0, O1, ρ1, _, S1.frame m.1 (ap rfl), q1, fun w H2 O2 t ρ2 x2 S2 r2 vo2 ap2 q2 => ?_⟩
    obtain ⟨S3, h3, o3, ap3⟩ := S1.unframe h S2
    refine k w H2 O2 t ρ2 x2 S3 ⟨rfl, ⟨o3, m.2⟩, us0, h3, r.ext x2⟩ (fun _ => ap3) ?_ vo2 ap2 ?_ q2
    · rcases vo2 with ⟨d, rfl⟩ | ⟨es, rfl⟩ | ⟨es, rfl⟩ | ⟨b0, es, rfl⟩
      · exact r2
      · obtain ⟨b, us, e, ⟨m1, m2, m3⟩, hb, rb⟩ := r2
        exact ⟨b, us, e, ⟨m1, fun z => m2 (.inl z), fun o q t => Classical.byContradiction fun n => n ((m3 o (S1.keep _ o q t n) t).1 o q t)⟩, hb, rb⟩
      · obtain ⟨b, us, e, ⟨m1, m2, m3⟩, hb, rb⟩ := r2
        exact ⟨b, us, e, ⟨m1, fun z => m2 (.inl z), fun o q t => Classical.byContradiction fun n => n ((m3 o (S1.keep _ o q t n) t).1 o q t)⟩, hb, rb⟩
      · obtain ⟨e, ⟨m1, m3⟩, hb⟩ := r2
        exact ⟨e, ⟨m1, fun o q t => Classical.byContradiction fun n => n ((m3 o (S1.keep _ o q t n) t).1 o q t)⟩, hb⟩
    · intro ot _ b ew ev
      cases ev
      rcases vo2 with ⟨d, rfl⟩ | ⟨es, rfl⟩ | ⟨es, rfl⟩ | ⟨b0, es, rfl⟩
      · cases ot
      · obtain ⟨b, us, e, ⟨m1, m2, m3⟩, hb, rb⟩ := r2
        rw [ew] at e
        cases e
        exact m2 (.inr rfl)
      · obtain ⟨b, us, e, ⟨m1, m2, m3⟩, hb, rb⟩ := r2
        rw [ew] at e
        cases e
        exact m2 (.inr rfl)
      · obtain ⟨e, ⟨m1, m3⟩, hb⟩ := r2
        rw [ew] at e
        cases e
        exact (m3 _ h fun _ => nofun).2 rfl
theorem ds_par {px py pt : Pos} {kt k2 pt2} (hc : X.calm = true) (hN : X.N.Nodup) (hi : X.N[i]? = some x) (hj : X.N[j]? = some y) (hij : i ≠ j) (hx : X.env.scope.names.lookup x = some .local) (hy : X.env.scope.names.lookup y = some .local) (ha : PE X a (tX N fx)) (hb : PE X b (tX N fy))
    (hw : swappedStores [.Tuple [.Name x px, .Name y py] kt pt] (.Tuple [a, b] k2 pt2) X.env = pure (some [x, y]))
    (hs : swapsWithSole [.Tuple [.Name x px, .Name y py] kt pt] (.Tuple [a, b] k2 pt2) pos.line X.env = pure false := by rfl)
    (h1 : starEach [a, b] X.env = (false, eval a X.env) :: starEach [b] X.env := by rfl) (h2 : starEach [b] X.env = (false, eval b X.env) :: starEach [] X.env := by rfl) :
    PS X (.Assign [.Tuple [.Name x px, .Name y py] kt pt] (.Tuple [a, b] k2 pt2) pos) (tS N (sPar i j fx fy)) :=
  PS.imp (ps_par hc hN hi hj hij hx hy (pa_cons ha (pa_cons hb pa_nil h2) h1) hw hs) fun D σ H ⟨Z, O, ρ, De, S, q, g⟩ => ⟨Z, O, ρ, _, S, q, fun v H1 O1 s ρ1 x1 S1 r1 vo ap q1 =>
    aside2 S1 r1 vo ap q1 fun w H2 O2 t ρ2 x2 S2 r2 ap2 rt vo2 apt ne q2 => ⟨v, w, rfl, by
      have S3 := S2.setS (i := i) r2 ap2
      exact g.nx _ H2 O2 _ (x1.trans x2) (S3.setS (i := j) rt fun z => (apt z).set fun zs a e => ne z zs a e) q2⟩⟩
end
section
variable {X : Cx} {tg : Expr}
def iAnyV (K : PySem.W.Frag) (tl : TE) : TI := fun σ H R => tl σ H fun x H1 => (∃ a xs, x = .ref a ∧ SqL K H1 a xs ∧ R (Itl K a) H1) ∨ (∃ a xs, x = .ref a ∧ SqT K H1 a xs ∧ R (Itt K a) H1) ∨ ∃ z, x = .str z ∧ R (Its z) H1
theorem pi_anyV {l : Expr} {tl : TE} (hl : PE X l tl) : PI X tg l (iAnyV X.K tl) := by
  refine ⟨fun pins s σ H R I h => ?_⟩
  refine thn (hl.run pins s σ H _ I h) fun v s1 ⟨x, H1, I1, r1, q1⟩ => ?_
  rcases q1 with ⟨a, xs, rfl, hq, q⟩ | ⟨a, xs, rfl, hq, q⟩ | ⟨z, rfl, q⟩
  · cases r1
    obtain ⟨its, rv, p, hz⟩ := I1.list hq
    refine wpAny_pyIter_list p.isList ?_
    refine ⟨s1.heap.objs.size, [s1.heap.objs.size], _, _, H1, rfl, I1.kept (t' := s1.toks) fun b o e => Heap.get?_push_of_some _ e, turn_list a _, ⟨_, Heap.get?_push_size _ rfl, rfl, rfl⟩, fun b hb => ?_, q⟩
    have e : b = s1.heap.objs.size := by simpa using hb
    subst e
    exact I1.fpOk (Nat.le_refl _) (I1.hok.fresh (Nat.le_refl _))
  · cases r1
    obtain ⟨its, rv, p, hz⟩ := I1.tuple hq
    refine wpAny_pyIter_tuple (show s1.heap.IsTuple a its.toArray from p) ?_
    refine ⟨s1.heap.objs.size, [s1.heap.objs.size], _, _, H1, rfl, I1.kept (t' := s1.toks) fun b o e => Heap.get?_push_of_some _ e, turn_tuple a _, ⟨_, Heap.get?_push_size _ rfl, rfl, rfl⟩, fun b hb => ?_, q⟩
    have e : b = s1.heap.objs.size := by simpa using hb
    subst e
    exact I1.fpOk (Nat.le_refl _) (I1.hok.fresh (Nat.le_refl _))
  · obtain ⟨t, rfl⟩ := r1
    cases ha : z.cps.all (· < 128)
    · exact wpAny_pyIter_wide ha (pi_one (tk := s1.toks) I1 _ (turn_str _ z t "str_iterator" (.inr rfl)) ⟨_, Heap.get?_push_size _ rfl, rfl, rfl⟩ q)
    · exact wpAny_pyIter_ascii ha (pi_one (tk := s1.toks) I1 _ (turn_str _ z t "str_ascii_iterator" (.inl rfl)) ⟨_, Heap.get?_push_size _ rfl, rfl, rfl⟩ q)
end
def chars (z : Str) : List D := z.cps.toList.map fun c => .str ⟨#[c]⟩
def itemsD : D → Option (List D)
  | .tup ds => some ds
  | .lst ds => some ds
  | .str z => some (chars z)
  | _ => none
def iAny (f : F) : FL := fun ρ Q E => f ρ (fun d ρ1 => ∃ ds, itemsD d = some ds ∧ Q ds ρ1) E
def intsD (lo : Int) (n : Nat) : List D := (List.range n).map fun (i : Nat) => .int (lo + (i : Int))
def iRange1 (f : F) : FL := fun ρ Q E => f ρ (fun d ρ1 => ∃ j : Int, d = .int j ∧ (-(2 ^ 62) ≤ j ∧ j < 2 ^ 62) ∧ Q (intsD 0 j.toNat) ρ1) E
def iRange2 (f g : F) : FL := fun ρ Q E => f ρ (fun d ρ1 => g ρ1 (fun d2 ρ2 => ∃ i j : Int, d = .int i ∧ d2 = .int j ∧ (-(2 ^ 62) ≤ i ∧ i < 2 ^ 62 ∧ -(2 ^ 62) ≤ j ∧ j < 2 ^ 62) ∧ Q (intsD i (j - i).toNat) ρ2) E) E
def enumD (ds : List D) : List D := ds.zipIdx.map fun p => .tup [.int (p.2 : Int), p.1]
def iEnumTD (f : F) : FL := fun ρ Q E => f ρ (fun d ρ1 => ∃ ds, d = .tup ds ∧ Q (enumD ds) ρ1) E
def iEnumLD (f : F) : FL := fun ρ Q E => f ρ (fun d ρ1 => ∃ ds, d = .lst ds ∧ Q (enumD ds) ρ1) E
def iEnumSD (f : F) : FL := fun ρ Q E => f ρ (fun d ρ1 => ∃ z, d = .str z ∧ Q (enumD (chars z)) ρ1) E
def zipD (xs ys : List D) : List D := (xs.zip ys).map fun p => .tup [p.1, p.2]
def iZipD (f g : F) : FL := fun ρ Q E => f ρ (fun d ρ1 => g ρ1 (fun d2 ρ2 => ∃ xs ys, ((d = .lst xs ∧ d2 = .lst ys) ∨ (d = .tup xs ∧ d2 = .tup ys)) ∧ Q (zipD xs ys) ρ2) E) E
section
variable {X : Cx} {N : Cd} {a b c e e2 o tg : Expr} {es : List Expr} {p pos apos cpos tpos : Pos} {fa fb fc fo : F} {fl : FL} {elts : List Expr} {kk : Nat}
theorem it_list {Kq : Hp → Prop} {O : Addr → Prop} {H : Hp} {a : Addr} {vs : List V} {ds : List D} (n : ¬ O a) (h : H a = some (.lst vs)) (r : Reps N O H vs ds) : ItOk N Kq (Itl N.K a) ds O H := fun O1 H1 i x dm _ => by
  have h1 := x.keep _ _ h nofun n
  refine ⟨fun hi => ?_, fun e => ⟨vs, SqL.of h1, by rw [r.length, e]; exact Nat.le_refl _⟩⟩
  obtain ⟨v, hv, rv⟩ := r.get' (List.getElem?_eq_getElem hi)
  refine ⟨⟨vs, v, SqL.of h1, hv⟩, fun y H2 ⟨e, g⟩ => ?_⟩
  subst e
  have := g vs (SqL.of h1)
  rw [hv] at this
  cases this
  exact ⟨L2.Same.refl _, _, List.getElem?_eq_getElem hi, rv.ext x⟩
theorem it_tup {Kq : Hp → Prop} {O : Addr → Prop} {H : Hp} {a : Addr} {vs : List V} {ds : List D} (h : ∀ O' H', Ext O H O' H' → SqT N.K H' a vs) (r : Reps N O H vs ds) : ItOk N Kq (Itt N.K a) ds O H := fun O1 H1 i x dm _ => by
  have h1 := h O1 H1 x
  refine ⟨fun hi => ?_, fun e => ⟨vs, h1, by rw [r.length, e]; exact Nat.le_refl _⟩⟩
  obtain ⟨v, hv, rv⟩ := r.get' (List.getElem?_eq_getElem hi)
  refine ⟨⟨vs, v, h1, hv⟩, fun y H2 ⟨e, g⟩ => ?_⟩
  subst e
  have := g vs h1
  rw [hv] at this
  cases this
  exact ⟨L2.Same.refl _, _, List.getElem?_eq_getElem hi, rv.ext x⟩
theorem chars_len (z : Str) : (chars z).length = z.cps.size := by
  unfold chars
  rw [List.length_map, Array.length_toList]
theorem chars_at {z : Str} {i : Nat} {c : Nat} (h : z.cps[i]? = some c) : (chars z)[i]? = some (.str ⟨#[c]⟩) := by
  unfold chars
  rw [List.getElem?_map, Array.getElem?_toList, h]
  rfl
theorem it_str {Kq : Hp → Prop} {O : Addr → Prop} {H : Hp} {z : Str} : ItOk N Kq (Its z) (chars z) O H := fun O1 H1 i x dm _ => by
  rw [chars_len]
  refine ⟨fun hi => ⟨hi, fun y H2 ⟨e, c, hc, ey⟩ => ?_⟩, fun e => by rw [e]; exact Nat.le_refl _⟩
  subst e ey
  exact ⟨L2.Same.refl _, _, chars_at hc, .str _⟩
theorem ints_len (lo : Int) (n : Nat) : (intsD lo n).length = n := by
  unfold intsD
  rw [List.length_map, List.length_range]
theorem ints_at {lo : Int} {n i : Nat} (h : i < n) : (intsD lo n)[i]? = some (.int (lo + i)) := by
  unfold intsD
  rw [List.getElem?_map, List.getElem?_range h]
  rfl
theorem it_range {Kq : Hp → Prop} {O : Addr → Prop} {H : Hp} {lo : Int} {n : Nat} : ItOk N Kq (Itr lo n) (intsD lo n) O H := fun O1 H1 i x dm _ => by
  rw [ints_len]
  refine ⟨fun hi => ⟨hi, fun y H2 ⟨e, ey⟩ => ?_⟩, fun e => by rw [e]; exact Nat.le_refl _⟩
  subst e ey
  exact ⟨L2.Same.refl _, _, ints_at hi, .int _⟩
theorem di_any (he : PE X e (tD N fa)) (hK : X.K = N.K := by rfl) : PI X tg e (tI N (iAny fa)) :=
  PI.imp (pi_anyV he) fun σ H R ⟨Z, O, ρ, Qd, S, q, k⟩ => ⟨Z, O, ρ, _, S, q, fun v H1 O1 d ρ1 x1 S1 r1 ⟨ds, ei, q1⟩ => by
    rw [hK]
    cases r1 with
    | lst n h r =>
      cases ei
      exact .inl ⟨_, _, rfl, SqL.of h, k _ H1 O1 _ ρ1 x1 S1 (it_list n h r) q1⟩
    | tup h r =>
      cases ei
      exact .inr (.inl ⟨_, _, rfl, SqT.of h, k _ H1 O1 _ ρ1 x1 S1 (it_tup (fun O' H' x => SqT.of (x.tup _ _ h trivial)) r) q1⟩)
    | tupK h s r =>
      cases ei
      exact .inr (.inl ⟨_, _, rfl, .inr h, k _ H1 O1 _ ρ1 x1 S1 (it_tup (fun O' H' x => .inr h) r) q1⟩)
    | str z =>
      cases ei
      exact .inr (.inr ⟨_, rfl, k _ H1 O1 _ ρ1 x1 S1 it_str q1⟩)
    | _ => cases ei⟩
theorem di_range1 (hg : Gl X "range") (hm : X.mg "range" = none) (he : PE X e (tD N fa)) (hs : starEach [e] X.env = [(false, eval e X.env)] := by rfl) : PI X tg (.Call (.Name "range" p) [e] [] pos) (tI N (iRange1 fa)) :=
  PI.imp (pi_range1 hg hm (pa_cons he pa_nil hs) hs) fun σ H R ⟨Z, O, ρ, Qd, S, q, k⟩ => ⟨Z, O, ρ, _, S, q, fun v H1 O1 d ρ1 x1 S1 r1 ⟨j, ed, ⟨h1, h2⟩, q1⟩ => by
    subst ed
    cases r1
    exact ⟨j, rfl, h1, h2, k _ H1 O1 _ ρ1 x1 S1 it_range q1⟩⟩
theorem enum_at {ds : List D} {i : Nat} {d : D} (h : ds[i]? = some d) : (enumD ds)[i]? = some (.tup [.int (i : Int), d]) := by
  unfold enumD
  rw [List.getElem?_map, List.getElem?_zipIdx, h]
  simp
theorem enum_len (ds : List D) : (enumD ds).length = ds.length := by
  unfold enumD
  rw [List.length_map, List.length_zipIdx]
theorem new2 {O : Addr → Prop} {H : Hp} {T : Addr} {x y : V} {dx dy : D} (hT : H T = none) (rx : Rep N O H x dx) (ry : Rep N O H y dy) : Same H (upd H T (.tup [x, y])) ∧ Rep N O (upd H T (.tup [x, y])) (.ref T) (.tup [dx, dy]) := ⟨Wd.Same.new hT, newTup (.cons rx (.cons ry .nil)) hT⟩
theorem di_enumT (hg : Gl X "enumerate") (hm : X.mg "enumerate" = none) (he : PE X e (tD N fa)) (hs : starEach [e] X.env = [(false, eval e X.env)] := by rfl) (hK : X.K = N.K := by rfl) : PI X (.Tuple elts kk tpos) (.Call (.Name "enumerate" p) [e] [] pos) (tI N (iEnumTD fa)) :=
  PI.imp (pi_enumT hg hm (pa_cons he pa_nil hs) hs) fun σ H R ⟨Z, O, ρ, Qd, S, q, k⟩ => ⟨Z, O, ρ, _, S, q, fun v H1 O1 d ρ1 x1 S1 r1 ⟨ds, ed, q1⟩ => by
    subst ed
    rw [hK]
    obtain ⟨a, vs, rfl, r, h⟩ := r1.sqtX
    refine ⟨a, vs, rfl, h _ _ Ext.refl, k _ H1 O1 _ ρ1 x1 S1 (fun O2 H2 i x dm _ => ?_) q1⟩
    rw [enum_len]
    refine ⟨fun hi => ⟨⟨h _ _ x, by rw [r.length]; exact hi⟩, fun y H3 ⟨T, ey, hT, e3⟩ => ?_⟩, fun e => ⟨h _ _ x, by rw [r.length]; exact e⟩⟩
    subst ey e3
    obtain ⟨u, hu, ru⟩ := r.get' (List.getElem?_eq_getElem hi)
    have eg : vs.getD i .non = u := by rw [List.getD_eq_getElem?_getD, hu]; rfl
    dsimp only
    rw [eg]
    obtain ⟨s3, r3⟩ := new2 hT (.int (i : Int)) (ru.ext x)
    exact ⟨s3, _, enum_at (List.getElem?_eq_getElem hi), r3⟩⟩
theorem di_enumS (hg : Gl X "enumerate") (hm : X.mg "enumerate" = none) (he : PE X e (tD N fa)) (hs : starEach [e] X.env = [(false, eval e X.env)] := by rfl) : PI X (.Tuple elts kk tpos) (.Call (.Name "enumerate" p) [e] [] pos) (tI N (iEnumSD fa)) :=
  PI.imp (pi_enumS hg hm (pa_cons he pa_nil hs) hs) fun σ H R ⟨Z, O, ρ, Qd, S, q, k⟩ => ⟨Z, O, ρ, _, S, q, fun v H1 O1 d ρ1 x1 S1 r1 ⟨z, ed, q1⟩ => by
    subst ed
    cases r1
    refine ⟨z, rfl, k _ H1 O1 _ ρ1 x1 S1 (fun O2 H2 i x dm _ => ?_) q1⟩
    rw [enum_len, chars_len]
    refine ⟨fun hi => ⟨⟨trivial, hi⟩, fun y H3 ⟨T, ey, hT, e3⟩ => ?_⟩, fun e => ⟨trivial, e⟩⟩
    subst ey e3
    have hc : z.cps[i]? = some (z.cps.getD i 0) := by
      rw [Array.getD_eq_getD_getElem?, Array.getElem?_eq_getElem hi]
      rfl
    obtain ⟨s3, r3⟩ := new2 (N := N) (O := O2) hT (.int (i : Int)) (.str ⟨#[z.cps.getD i 0]⟩)
    exact ⟨s3, _, enum_at (chars_at hc), r3⟩⟩
theorem di_enumL (hg : Gl X "enumerate") (hm : X.mg "enumerate" = none) (he : PE X e (tD N fa)) (hs : starEach [e] X.env = [(false, eval e X.env)] := by rfl) (hK : X.K = N.K := by rfl) : PI X (.Tuple elts kk tpos) (.Call (.Name "enumerate" p) [e] [] pos) (tI N (iEnumLD fa)) :=
  PI.imp (pi_enum hg hm (pa_cons he pa_nil hs) hs) fun σ H R ⟨Z, O, ρ, Qd, S, q, k⟩ => ⟨Z, O, ρ, _, S, q, fun v H1 O1 d ρ1 x1 S1 r1 ⟨ds, ed, q1⟩ => by
    subst ed
    rw [hK]
    cases r1 with
    | @lst a vs _ n h r =>
      refine ⟨a, vs, rfl, SqL.of h, k _ H1 O1 _ ρ1 x1 S1 (fun O2 H2 i x dm _ => ?_) q1⟩
      have h2 := x.keep _ _ h nofun n
      rw [enum_len]
      refine ⟨fun hi => ?_, fun e => ⟨vs, SqL.of h2, by rw [r.length, e]; exact Nat.le_refl _⟩⟩
      obtain ⟨u, hu, ru⟩ := r.get' (List.getElem?_eq_getElem hi)
      refine ⟨⟨vs, u, SqL.of h2, hu⟩, fun y H3 ⟨T, w, ey, hT, e3, hw⟩ => ?_⟩
      subst ey e3
      have := hw vs (SqL.of h2)
      rw [hu] at this
      cases this
      obtain ⟨s3, r3⟩ := new2 hT (.int (i : Int)) (ru.ext x)
      exact ⟨s3, _, enum_at (List.getElem?_eq_getElem hi), r3⟩⟩
theorem zip_at {xs ys : List D} {i : Nat} {x y : D} (hx : xs[i]? = some x) (hy : ys[i]? = some y) : (zipD xs ys)[i]? = some (.tup [x, y]) := by
  unfold zipD
  rw [List.getElem?_map, List.getElem?_zip_eq_some (z := (x, y)) |>.mpr ⟨hx, hy⟩]
  rfl
theorem zip_len (xs ys : List D) : (zipD xs ys).length = min xs.length ys.length := by
  unfold zipD
  rw [List.length_map, List.length_zip]
theorem di_zip (hg : Gl X "zip") (hm : X.mg "zip" = none) (he : PE X e (tD N fa)) (he2 : PE X e2 (tD N fb)) (hs : starEach [e, e2] X.env = (false, eval e X.env) :: starEach [e2] X.env := by rfl) (hs2 : starEach [e2] X.env = (false, eval e2 X.env) :: starEach [] X.env := by rfl) (hpl : (backTo pos (starEach [e2] X.env)).any (·.1) = false := by rfl) (hK : X.K = N.K := by rfl) :
    PI X (.Tuple elts kk tpos) (.Call (.Name "zip" p) [e, e2] [] pos) (tI N (iZipD fa fb)) :=
  PI.imp (RZ.pi_zipA hg hm (pa_cons he (pa_cons he2 pa_nil hs2) hs) hs hpl) fun σ H R ⟨Z, O, ρ, Qd, S, q, k⟩ => ⟨Z, O, ρ, _, S, q, fun v H1 O1 d ρ1 x1 S1 r1 q1 => ⟨Z, O1, ρ1, _, S1, q1, fun v2 H2 O2 d2 ρ2 x2 S2 r2 ⟨xs, ys, hk, q2⟩ => by
    rw [hK]
    have r1' := r1.ext x2
    rcases hk with ⟨e1, e2⟩ | ⟨e1, e2⟩
    · subst e1 e2
      cases r1' with
      | @lst a us _ n h r =>
        cases r2 with
        | @lst b ws _ n' h' r' =>
          refine ⟨a, b, us, ws, rfl, .inl ⟨SqL.of h, SqL.of h', k _ H2 O2 _ ρ2 (x1.trans x2) S2 (fun O3 H3 i x dm _ => ?_) q2⟩⟩
          have g1 := x.keep _ _ h nofun n
          have g2 := x.keep _ _ h' nofun n'
          have l1 := r.length
          have l2 := r'.length
          rw [zip_len]
          refine ⟨fun hi => ?_, fun e => ⟨us, ws, SqL.of g1, SqL.of g2, by omega⟩⟩
          have i1 : i < xs.length := by omega
          have i2 : i < ys.length := by omega
          obtain ⟨u, hu, ru⟩ := r.get' (List.getElem?_eq_getElem i1)
          obtain ⟨w, hw, rw⟩ := r'.get' (List.getElem?_eq_getElem i2)
          refine ⟨⟨us, ws, u, w, SqL.of g1, SqL.of g2, hu, hw⟩, fun y H4 ⟨T, u', w', ey, hT, e4, hu', hw'⟩ => ?_⟩
          subst ey e4
          have t1 := hu' us (SqL.of g1)
          have t2 := hw' ws (SqL.of g2)
          rw [hu] at t1
          rw [hw] at t2
          cases t1
          cases t2
          obtain ⟨s3, r3⟩ := new2 hT (ru.ext x) (rw.ext x)
          exact ⟨s3, _, zip_at (List.getElem?_eq_getElem i1) (List.getElem?_eq_getElem i2), r3⟩
    · subst e1 e2
      obtain ⟨a, us, rfl, r, h⟩ := r1'.sqtX
      obtain ⟨b, ws, rfl, r', h'⟩ := r2.sqtX
      refine ⟨a, b, us, ws, rfl, .inr ⟨h _ _ Ext.refl, h' _ _ Ext.refl, k _ H2 O2 _ ρ2 (x1.trans x2) S2 (fun O3 H3 i x dm _ => ?_) q2⟩⟩
      have g1 := h _ _ x
      have g2 := h' _ _ x
      have l1 := r.length
      have l2 := r'.length
      rw [zip_len]
      refine ⟨fun hi => ?_, fun e => ⟨us, ws, g1, g2, by omega⟩⟩
      have i1 : i < xs.length := by omega
      have i2 : i < ys.length := by omega
      obtain ⟨u, hu, ru⟩ := r.get' (List.getElem?_eq_getElem i1)
      obtain ⟨w, hw, rw⟩ := r'.get' (List.getElem?_eq_getElem i2)
      refine ⟨⟨us, ws, u, w, g1, g2, hu, hw⟩, fun y H4 ⟨T, u', w', ey, hT, e4, hu', hw'⟩ => ?_⟩
      subst ey e4
      have t1 := hu' us g1
      have t2 := hw' ws g2
      rw [hu] at t1
      rw [hw] at t2
      cases t1
      cases t2
      obtain ⟨s3, r3⟩ := new2 hT (ru.ext x) (rw.ext x)
      exact ⟨s3, _, zip_at (List.getElem?_eq_getElem i1) (List.getElem?_eq_getElem i2), r3⟩⟩⟩
def gUL (l : List GD) : GD := fun d ρ Q => ∃ xs, d = .lst xs ∧ gs l xs ρ Q
def sAsg (f : F) (g : GD) : FS := fun De ρ E => f ρ (fun d ρ1 => g d ρ1 De.nx) E
theorem ds_asg {is : List Nat} {g : GD} (he : PE X e (tD N fa)) (hg : PG X tg (tG N is g)) (hs : swapsWithSole [tg] e pos.line X.env = pure false := by rfl) (hw : swappedStores [tg] e X.env = pure none := by rfl)
    (h1 : (assignEach [tg] X.env).map (·.2) = [assign tg X.env] := by rfl) : PS X (.Assign [tg] e pos) (tS N (sAsg fa g)) :=
  PS.imp (ps_asg he hg hs hw h1) fun D σ H ⟨Z, O, ρ, De, S, q, g⟩ => ⟨Z, O, ρ, _, S, q, fun v H1 O1 d ρ1 x1 S1 r1 q1 => ⟨Z, O1, ρ1, d, _, S1, r1, q1, fun σ' ρ' o' S' q' => g.nx σ' H1 O1 ρ' x1 S' q'⟩⟩
end
mutual
def toPy : D → Option PyData
  | .non => some .none
  | .bl b => some (.bool b)
  | .int i => some (.int i)
  | .str s => some (.str s)
  | .tup xs => (toPys xs).map .tuple
  | .lst xs => (toPys xs).map .list
  | .dk _ _ => none
  | .dt _ _ => none
  | .ins _ _ => none
  | .exc _ _ => none
  | .slt _ _ => none
  | .nk _ _ => none
  | .adr _ => none
def toPys : List D → Option (List PyData)
  | [] => some []
  | x :: xs => (toPy x).bind fun a => (toPys xs).map fun r => a :: r
end
section
variable {N : Cd} {O : Addr → Prop} {H : Hp}
mutual
theorem Rep.dp : ∀ {v : V} {d : D} {p : PyData}, Rep N O H v d → toPy d = some p → Dp N.K H v p
  | _, _, _, .non, e => by
    cases e
    exact .non
  | _, _, _, .bl b, e => by
    cases e
    exact .bl b
  | _, _, _, .int i, e => by
    cases e
    exact .int i
  | _, _, _, .str s, e => by
    cases e
    exact .str s
  | _, _, p, .tup h r, e => by
    obtain ⟨ps, e1, e2⟩ := Option.map_eq_some_iff.mp (show (toPys _).map PyData.tuple = some p from e)
    rw [← e2]
    exact .tup (SqT.of h) (Reps.dp r e1)
  | _, _, p, .tupK h s r, e => by
    obtain ⟨ps, e1, e2⟩ := Option.map_eq_some_iff.mp (show (toPys _).map PyData.tuple = some p from e)
    rw [← e2]
    exact .tup (.inr h) (Reps.dp r e1)
  | _, _, p, .lst n h r, e => by
    obtain ⟨ps, e1, e2⟩ := Option.map_eq_some_iff.mp (show (toPys _).map PyData.list = some p from e)
    rw [← e2]
    exact .lst (SqL.of h) (Reps.dp r e1)
  | _, _, _, .dk .., e => by cases e
  | _, _, _, .dt .., e => by cases e
  | _, _, _, .ins .., e => by cases e
  | _, _, _, .exc .., e => by cases e
  | _, _, _, .slt .., e => by cases e
  | _, _, _, .nkd .., e => by cases e
theorem Reps.dp : ∀ {vs : List V} {ds : List D} {ps : List PyData}, Reps N O H vs ds → toPys ds = some ps → DpAll N.K H vs ps
  | _, _, _, .nil, e => by
    cases e
    exact .nil
  | _, _, ps, .cons a r, e => by
    obtain ⟨p, e1, e2⟩ := Option.bind_eq_some_iff.mp (show ((toPy _).bind fun a => (toPys _).map fun r => a :: r) = some ps from e)
    obtain ⟨q, e3, e4⟩ := Option.map_eq_some_iff.mp e2
    rw [← e4]
    exact .cons (Rep.dp a e1) (Reps.dp r e3)
end
theorem RepB.dp {v : V} {d : D} {p : PyData} (r : RepB N O H v d) (e : toPy d = some p) : Dp N.K H v p := by
  cases r with
  | of r => exact r.dp e
  | own o h r =>
    obtain ⟨ps, e1, e2⟩ := Option.map_eq_some_iff.mp (show (toPys _).map PyData.list = some p from e)
    rw [← e2]
    exact .lst (SqL.of h) (r.dp e1)
theorem RepB.sql {v : V} {ds : List D} (r : RepB N O H v (.lst ds)) : ∃ a vs, v = .ref a ∧ H a = some (.lst vs) ∧ Reps N O H vs ds := by
  cases r with
  | of r =>
    cases r with
    | lst n h r => exact ⟨_, _, rfl, h, r⟩
  | own o h r => exact ⟨_, _, rfl, h, r⟩
theorem RepB.rep {v : V} {d : D} (r : RepB N O H v d) (h : ∀ ds, d ≠ .lst ds) : Rep N O H v d := by
  cases r with
  | of r => exact r
  | own o g r => exact absurd rfl (h _)
end
def opAdd : D → D → Option D
  | .int i, .int j => some (.int (i + j))
  | .str a, .str b => if a.length + b.length ≤ sizeLine then some (.str (a ++ b)) else none
  | .lst xs, .lst ys => if xs.length + ys.length ≤ sizeLine then some (.lst (xs ++ ys)) else none
  | .tup xs, .tup ys => if xs.length + ys.length ≤ sizeLine then some (.tup (xs ++ ys)) else none
  | _, _ => none
def opSub : D → D → Option D
  | .int i, .int j => some (.int (i - j))
  | _, _ => none
instance (i j : Int) : Decidable (CMul i j) := inferInstanceAs (Decidable (_ ∨ _))
def opMul : D → D → Option D
  | .int i, .int j => if CMul i j then some (.int (i * j)) else none
  | .lst xs, .int k => if (-(2 ^ 63) ≤ k ∧ k < 2 ^ 63) ∧ xs.length * k.toNat ≤ sizeLine then some (.lst (List.replicate k.toNat xs).flatten) else none
  | _, _ => none
def opMod : D → D → Option D
  | .int i, .int j => if 0 < j then some (.int (i % j)) else none
  | _, _ => none
def opFdiv : D → D → Option D
  | .int i, .int j => if 0 < j ∧ j < 1073741824 then some (.int (i / j)) else none
  | _, _ => none
section
variable {X : Cx} {N : Cd}
theorem svo2 {r : R2} {op : D → D → Option D} (h : ∀ O H x y dx dy d Q, Dom O H → Rep N O H x dx → RepB N O H y dy → op dx dy = some d → (∀ v H', Same H H' → Rep N O H' v d → Q v H') → r x y H Q) : Sv2 N r (o2 op) :=
  fun O H x y dx dy Qd Ed Q xk dm rx ry ⟨d, e, q⟩ k => h O H x y dx dy d Q dm.dom rx ry e fun v H' s r => k v H' d (dm.same s) r q
theorem svo1 {r : V → Hp → VK → Prop} {op : D → Option D} (h : ∀ O H x dx d Q, Dom O H → RepB N O H x dx → op dx = some d → (∀ v H', Same H H' → Rep N O H' v d → Q v H') → r x H Q) : Sv1 N r (o1 op) :=
  fun O H x dx Qd Ed Q xk dm rx ⟨d, e, q⟩ k => h O H x dx d Q dm.dom rx e fun v H' s r => k v H' d (dm.same s) r q
theorem svoC {r : List V → Hp → VK → Prop} {op : D → Option D} (h : ∀ O H x dx d Q, Dom O H → RepB N O H x dx → op dx = some d → (∀ v H', Same H H' → Rep N O H' v d → Q v H') → r [x] H Q) : SvC N r (o1 op) :=
  fun O H x dx Qd Ed Q xk dm rx ⟨d, e, q⟩ k => h O H x dx d Q dm.dom rx e fun v H' s r => k v H' d (dm.same s) r q
theorem svoL {r : List V → Hp → VK → Prop} {op : List D → Option D} (h : ∀ O H xs ds d Q, Dom O H → Reps N O H xs ds → op ds = some d → (∀ v H', Same H H' → Rep N O H' v d → Q v H') → r xs H Q) : SvL N r (oL op) :=
  fun O H xs ds Qd Ed Q xk dm rx ⟨d, e, q⟩ k => h O H xs ds d Q dm.dom rx e fun v H' s r => k v H' d (dm.same s) r q
theorem rep_int {O : Addr → Prop} {H : Hp} {v : V} {i : Int} (r : RepB N O H v (.int i)) : v = .int i := by
  cases r with
  | of r =>
    cases r
    rfl
theorem rep_str {O : Addr → Prop} {H : Hp} {v : V} {i : Str} (r : RepB N O H v (.str i)) : v = .str i := by
  cases r with
  | of r =>
    cases r
    rfl
theorem rep_bl {O : Addr → Prop} {H : Hp} {v : V} {i : Bool} (r : RepB N O H v (.bl i)) : v = .bl i := by
  cases r with
  | of r =>
    cases r
    rfl
abbrev rAddD (K : PySem.W.Frag) : R2 := fun x y H Q => (rI0 (fun i j => .int (i + j))) x y H Q ∨ ((∃ i j, x = .str i ∧ y = .str j ∧ i.length + j.length ≤ sizeLine ∧ Q (.str (i ++ j)) H) ∨ (rCat x y H Q ∨ rCatA K x y H Q))
theorem od_add : OpR X (binaryOp .Add) (rAddD X.K) := OpR.or op_add (OpR.or op_add_str (OpR.or op_cat op_catA))
theorem sv_add (hK : X.K = N.K := by rfl) : Sv2 N (rAddD X.K) (o2 opAdd) := svo2 fun O H x y dx dy d Q dm rx ry e k => by
  unfold opAdd at e
  split at e
  · cases e
    cases rep_int (.of rx)
    cases rep_int ry
    exact .inl ⟨_, _, rfl, rfl, k _ H (L2.Same.refl _) (.int _)⟩
  · split at e
    · rename_i hz
      cases e
      cases rep_str (.of rx)
      cases rep_str ry
      exact .inr (.inl ⟨_, _, rfl, rfl, hz, k _ H (L2.Same.refl _) (.str _)⟩)
    · cases e
  · split at e
    · rename_i hz
      cases e
      obtain ⟨a, vs, rfl, h1, r1⟩ := (RepB.of rx).sql
      obtain ⟨b, us, rfl, h2, r2⟩ := ry.sql
      exact .inr (.inr (.inl ⟨a, b, vs, us, rfl, rfl, h1, h2, by rw [r1.length, r2.length]; exact hz, fun p hp => k _ _ (Wd.Same.new hp) (newLst dm (r1.app r2) hp)⟩))
    · cases e
  · split at e
    · rename_i hz
      cases e
      have ry' := ry.rep fun _ z => nomatch z
      obtain ⟨a, vs, rfl, h1, r1⟩ := rx.sqt
      obtain ⟨b, us, rfl, h2, r2⟩ := ry'.sqt
      rw [hK]
      refine .inr (.inr (.inr ⟨a, b, vs, us, rfl, rfl, h1, h2, by rw [r1.length, r2.length]; exact hz, fun e0 => ?_, fun _ e1 => ?_, fun _ _ p hp => k _ _ (Wd.Same.new hp) (newTup (r1.app r2) hp)⟩))
      · subst e0
        cases r1
        exact k _ H (L2.Same.refl _) ry'
      · subst e1
        cases r2
        rw [List.append_nil] at k
        exact k _ H (L2.Same.refl _) rx
    · cases e
  · cases e
theorem sv_sub : Sv2 N (rI0 fun i j => .int (i - j)) (o2 opSub) := svo2 fun O H x y dx dy d Q dm rx ry e k => by
  unfold opSub at e
  split at e
  · cases e
    cases rep_int (.of rx)
    cases rep_int ry
    exact ⟨_, _, rfl, rfl, k _ H (L2.Same.refl _) (.int _)⟩
  · cases e
abbrev rMulD : R2 := fun x y H Q => (rI CMul (fun i j => .int (i * j))) x y H Q ∨ rRep x y H Q
theorem od_mul : OpR X (binaryOp .Mult) rMulD := OpR.or op_mul op_rep
theorem Reps.rep {O : Addr → Prop} {H : Hp} {vs : List V} {ds : List D} (r : Reps N O H vs ds) : ∀ n : Nat, Reps N O H (List.replicate n vs).flatten (List.replicate n ds).flatten
  | 0 => .nil
  | n + 1 => by
    rw [List.replicate_succ, List.replicate_succ, List.flatten_cons, List.flatten_cons]
    exact r.app (Reps.rep r n)
theorem sv_mul : Sv2 N rMulD (o2 opMul) := svo2 fun O H x y dx dy d Q dm rx ry e k => by
  unfold opMul at e
  split at e
  · split at e
    · rename_i hz
      cases e
      cases rep_int (.of rx)
      cases rep_int ry
      exact .inl ⟨_, _, rfl, rfl, hz, k _ H (L2.Same.refl _) (.int _)⟩
    · cases e
  · split at e
    · rename_i hz
      cases e
      cases rep_int ry
      obtain ⟨a, vs, rfl, h1, r1⟩ := (RepB.of rx).sql
      exact .inr ⟨a, _, vs, rfl, rfl, h1, hz.1.1, hz.1.2, by rw [r1.length]; exact hz.2, fun p hp => k _ _ (Wd.Same.new hp) (newLst dm (r1.rep _) hp)⟩
    · cases e
  · cases e
theorem sv_mod : Sv2 N (rI (fun _ j => 0 < j) fun i j => .int (i % j)) (o2 opMod) := svo2 fun O H x y dx dy d Q dm rx ry e k => by
  unfold opMod at e
  split at e
  · split at e
    · rename_i hz
      cases e
      cases rep_int (.of rx)
      cases rep_int ry
      exact ⟨_, _, rfl, rfl, hz, k _ H (L2.Same.refl _) (.int _)⟩
    · cases e
  · cases e
def toInts : List D → Option (List Int)
  | [] => some []
  | .int i :: r => (toInts r).map fun l => i :: l
  | _ :: _ => none
theorem reps_ints {O : Addr → Prop} {H : Hp} : ∀ {vs : List V} {ds : List D} {ns : List Int}, Reps N O H vs ds → toInts ds = some ns → vs = ns.map V.int
  | _, _, _, .nil, e => by
    cases e
    rfl
  | _, _, ns, .cons a r, e => by
    cases a with
    | int i =>
      obtain ⟨l, e1, e2⟩ := Option.map_eq_some_iff.mp (show (toInts _).map (fun l => i :: l) = some ns from e)
      rw [← e2, reps_ints r e1]
      rfl
    | _ => cases e
def opLt : D → D → Option D
  | .int i, .int j => some (.bl (decide (i < j)))
  | .tup xs, .tup ys => (toInts xs).bind fun a => (toInts ys).map fun b => .bl (HT.lexLt a b)
  | _, _ => none
def opCmpI (f : Int → Int → Bool) : D → D → Option D
  | .int i, .int j => some (.bl (f i j))
  | _, _ => none
abbrev opLe := opCmpI fun i j => decide (i ≤ j)
abbrev opGt := opCmpI fun i j => decide (j < i)
abbrev opGe := opCmpI fun i j => decide (j ≤ i)
theorem sv_cmpI {f : Int → Int → Bool} : Sv2 N (rI0 fun i j => .bl (f i j)) (o2 (opCmpI f)) := svo2 fun O H x y dx dy d Q dm rx ry e k => by
  unfold opCmpI at e
  split at e
  · cases e
    cases rep_int (.of rx)
    cases rep_int ry
    exact ⟨_, _, rfl, rfl, k _ H (L2.Same.refl _) (.bl _)⟩
  · cases e
abbrev rLtD (K : PySem.W.Frag) : R2 := fun x y H Q => (rI0 (fun i j => .bl (decide (i < j)))) x y H Q ∨ rLtT K x y H Q
theorem od_lt (hu : X.A.units < cLine) : OpR X (compareOp .Lt) (rLtD X.K) := OpR.or op_lt (op_ltT hu)
theorem sv_lt (hK : X.K = N.K := by rfl) : Sv2 N (rLtD X.K) (o2 opLt) := svo2 fun O H x y dx dy d Q dm rx ry e k => by
  unfold opLt at e
  split at e
  · cases e
    cases rep_int (.of rx)
    cases rep_int ry
    exact .inl ⟨_, _, rfl, rfl, k _ H (L2.Same.refl _) (.bl _)⟩
  · obtain ⟨a, e1, e⟩ := Option.bind_eq_some_iff.mp e
    obtain ⟨b, e2, e⟩ := Option.map_eq_some_iff.mp e
    subst e
    obtain ⟨p, vs, rfl, h1, r1⟩ := rx.sqt
    obtain ⟨q, us, rfl, h2, r2⟩ := (ry.rep fun _ z => nomatch z).sqt
    rw [reps_ints r1 e1] at h1
    rw [reps_ints r2 e2] at h2
    rw [hK]
    exact .inr ⟨p, q, a, b, rfl, rfl, h1, h2, k _ H (L2.Same.refl _) (.bl _)⟩
  · cases e
def scalD : D → D → Option Bool
  | .int i, .int j => some (decide (i = j))
  | .bl i, .bl j => some (decide (i = j))
  | .str i, .str j => some (decide (i = j))
  | .non, .non => some true
  | .non, .int _ => some false
  | .int _, .non => some false
  | .non, .bl _ => some false
  | .bl _, .non => some false
  | .non, .str _ => some false
  | .str _, .non => some false
  | _, _ => none
def eqD (x y : D) : Option Bool := match scalD x y with
  | some b => some b
  | none => (toPy x).bind fun a => (toPy y).bind fun b => if SeqAt.shaped a = true ∧ SeqAt.shaped b = true then some (PyData.eqv a b) else none
def opEq (x y : D) : Option D := (eqD x y).map .bl
def opNe (x y : D) : Option D := (eqD x y).map fun b => .bl (!b)
theorem scal_ok {O : Addr → Prop} {H : Hp} {x y : V} {dx dy : D} {b : Bool} (rx : Rep N O H x dx) (ry : RepB N O H y dy) (e : scalD dx dy = some b) : scal x y = true ∧ b = decide (x = y) := by
  unfold scalD at e
  split at e <;> first
    | (cases e; cases rx; cases ry with | of ry => cases ry; exact ⟨rfl, by simp⟩)
    | cases e
theorem eq_ok (hK : X.K = N.K) {O : Addr → Prop} {H : Hp} {x y : V} {dx dy : D} {b : Bool} (rx : Rep N O H x dx) (ry : RepB N O H y dy) (e : eqD dx dy = some b) : (scal x y = true ∧ b = decide (x = y)) ∨ ∃ d e, Dp X.K H x d ∧ Dp X.K H y e ∧ SeqAt.shaped d = true ∧ SeqAt.shaped e = true ∧ b = PyData.eqv d e := by
  unfold eqD at e
  split at e
  · rename_i h
    cases e
    exact .inl (scal_ok rx ry h)
  · obtain ⟨p, e1, e⟩ := Option.bind_eq_some_iff.mp e
    obtain ⟨q, e2, e⟩ := Option.bind_eq_some_iff.mp e
    split at e
    · rename_i hs
      cases e
      rw [hK]
      exact .inr ⟨p, q, rx.dp e1, ry.dp e2, hs.1, hs.2, rfl⟩
    · cases e
abbrev rEqAll (K : PySem.W.Frag) : R2 := fun x y H Q => rEq x y H Q ∨ rEqD K x y H Q
abbrev rNeAll (K : PySem.W.Frag) : R2 := fun x y H Q => rNe x y H Q ∨ rNeD K x y H Q
theorem od_eq (hu : X.A.units + 64 < cLine) : OpR X (compareOp .Eq) (rEqAll X.K) := OpR.or op_eq (op_eqD hu)
theorem od_ne (hu : X.A.units + 64 < cLine) : OpR X (compareOp .NotEq) (rNeAll X.K) := OpR.or op_ne (op_neD hu)
theorem sv_eq (hK : X.K = N.K := by rfl) : Sv2 N (rEqAll X.K) (o2 opEq) := svo2 fun O H x y dx dy d Q dm rx ry e k => by
  obtain ⟨b, e1, rfl⟩ := Option.map_eq_some_iff.mp e
  rcases eq_ok hK rx ry e1 with ⟨h, rfl⟩ | ⟨p, q, h1, h2, h3, h4, rfl⟩
  · exact .inl ⟨h, k _ H (L2.Same.refl _) (.bl _)⟩
  · exact .inr ⟨p, q, h1, h2, h3, h4, k _ H (L2.Same.refl _) (.bl _)⟩
theorem sv_ne (hK : X.K = N.K := by rfl) : Sv2 N (rNeAll X.K) (o2 opNe) := svo2 fun O H x y dx dy d Q dm rx ry e k => by
  obtain ⟨b, e1, rfl⟩ := Option.map_eq_some_iff.mp e
  rcases eq_ok hK rx ry e1 with ⟨h, rfl⟩ | ⟨p, q, h1, h2, h3, h4, rfl⟩
  · exact .inl ⟨h, k _ H (L2.Same.refl _) (.bl _)⟩
  · exact .inr ⟨p, q, h1, h2, h3, h4, k _ H (L2.Same.refl _) (.bl _)⟩
def opIsN : D → D → Option D
  | .non, .non => some (.bl true)
  | _, .non => some (.bl false)
  | _, _ => none
def opNotN : D → D → Option D
  | .non, .non => some (.bl false)
  | _, .non => some (.bl true)
  | _, _ => none
theorem non_iff {O : Addr → Prop} {H : Hp} {x : V} {dx : D} (rx : Rep N O H x dx) : x = .non ↔ dx = .non := by
  cases rx <;> simp
theorem rep_non {O : Addr → Prop} {H : Hp} {y : V} (ry : RepB N O H y .non) : y = .non := by
  cases ry with
  | of r =>
    cases r
    rfl
theorem sv_isN : Sv2 N (fun x y H Q => y = .non ∧ Q (.bl (decide (x = .non))) H) (o2 opIsN) := svo2 fun O H x y dx dy d Q dm rx ry e k => by
  unfold opIsN at e
  split at e
  · cases e
    cases rep_non ry
    cases rep_non (.of rx)
    exact ⟨rfl, k _ H (L2.Same.refl _) (.bl true)⟩
  · rename_i hn
    cases e
    cases rep_non ry
    have : ¬ x = .non := fun z => hn ((non_iff rx).mp z)
    rw [decide_eq_false this]
    exact ⟨rfl, k _ H (L2.Same.refl _) (.bl false)⟩
  · cases e
end
end Fd

namespace Fd
open PySem PySem.Spec PyProof.Rows L2 Wd
structure Cfs (N : Cn) (n : Nat) : Prop where
  cls : ∀ c, c < n → Cls N.K (N.cl c)
  ha : ∀ c, c < n → PySem.W.findIn N.K (.ref (N.cl c)) "__class__" = some (some (.builtin "object.__class__"))
  hn : PySem.W.specialIn N.K (.builtin "object.__class__") "__get__" = some (some (.builtin "getset_descriptor.__get__"))
  htk : PySem.W.takesIn N.K (.builtin "object.__class__") = some true
  hm : ∀ c, c < n → PySem.W.mroIn N.K (N.cl c) (.type "object") = some true
  kit : ∀ c, c < n → ∀ T ∈ tyNames, PySem.W.kitOne N.K (.ref (N.cl c)) (.type T) = some false
  kitO : ∀ c, c < n → ∀ d, d < n → PySem.W.kitOne N.K (.ref (N.cl c)) (.ref (N.cl d)) = some (decide (c = d))
  kitB : ∀ c, c < n → ∀ T ∈ tyNames, PySem.W.kitOne N.K (.type T) (.ref (N.cl c)) = some false
  nf : ∀ c, c < n → ∀ T ∈ tyNames, PySem.W.notFirst N.K (N.cl c) (.type T) = true
  nfO : ∀ c, c < n → ∀ d, d < n → PySem.W.notFirst N.K (N.cl c) (.ref (N.cl d)) = true
def tyC : D → Option (Sum String Nat)
  | .non => some (.inl "NoneType")
  | .bl _ => some (.inl "bool")
  | .int _ => some (.inl "int")
  | .str _ => some (.inl "str")
  | .tup _ => some (.inl "tuple")
  | .lst _ => some (.inl "list")
  | .dk _ _ => some (.inl "dict")
  | .dt _ _ => none
  | .ins c _ => some (.inr c)
  | .exc _ _ => none
  | .slt _ _ => none
  | .nk _ _ => none
  | .adr _ => none
def tyVal (N : Cn) : Sum String Nat → Value
  | .inl T => .type T
  | .inr c => .ref (N.cl c)
def goodTy (n : Nat) : Sum String Nat → Bool
  | .inl T => tyNames.contains T
  | .inr c => decide (c < n)
section
variable {X : Cx} {N : Cd} {n : Nat}
theorem tyx_of {O : Addr → Prop} {H : Hp} {v : V} {d : D} {t : Sum String Nat} (C : Cfs N n) (r : RepB N O H v d) (e : tyC d = some t) (g : goodTy n t = true) : TyX N.K H v (tyVal N t) := by
  cases r with
  | of r =>
    cases r with
    | non => cases e; exact .base .non
    | bl b => cases e; exact .base (.bl b)
    | int i => cases e; exact .base (.int i)
    | str s => cases e; exact .base (.str s)
    | tup h r => cases e; exact .base (.tup h)
    | tupK h s r =>
      cases e
      obtain ⟨o, its, k, h1, h2, _⟩ := h
      exact .kTuple h1 h2
    | lst n h r => cases e; exact .base (.lst h)
    | dk n h e1 r =>
      cases e
      rcases h with h | ⟨o, h⟩
      · exact .base (.dK h)
      · exact .fDict h
    | dt n h e1 r => cases e
    | exc _ _ _ _ _ => cases e
    | slt _ _ _ _ => cases e
    | nkd _ _ _ _ _ => cases e
    | adr _ => cases e
    | ins no h e1 r =>
      cases e
      have hc := of_decide_eq_true g
      exact .base (.ins h (C.cls _ hc) (C.ha _ hc) C.hn C.htk (C.hm _ hc))
  | own o h r => cases e; exact .base (.lst h)
def isB (T : String) : Sum String Nat → Bool
  | .inl U => decide (U = T) || (decide (U = "bool") && decide (T = "int"))
  | .inr _ => false
def opIs (n : Nat) (T : String) (d : D) : Option D := (tyC d).bind fun t => if goodTy n t = true then some (.bl (isB T t)) else none
def opIsC (n c : Nat) (d : D) : Option D := (tyC d).bind fun t => if goodTy n t = true then some (.bl (decide (t = .inr c))) else none
theorem names_sub : ∀ T ∈ ["tuple", "int", "str", "list", "bool", "dict"], T ∈ tyNames := by decide
theorem kit_names : ∀ T ∈ ["tuple", "int", "str", "list", "bool", "dict"], ∀ U ∈ tyNames, kitB U T = some (isB T (.inl U)) := by decide +kernel
variable {e : Expr} {p q pos : Pos} {fa : F}
theorem de_is {T : String} {x : Str} (C : Cfs N n) (hT : T ∈ ["tuple", "int", "str", "list", "bool", "dict"]) (hg : Gl X "isinstance") (hm : X.mg "isinstance" = none) (he : PE X e (tDB N fa)) (hx : PE X (.Name x q) (tC (.ty T)))
    (hst : starEach [e, .Name x q] X.env = (false, eval e X.env) :: starEach [.Name x q] X.env := by rfl) (hst2 : starEach [.Name x q] X.env = (false, eval (.Name x q) X.env) :: starEach [] X.env := by rfl) (hpl : (backTo pos (starEach [.Name x q] X.env)).any (·.1) = false := by rfl) (hK : X.K = N.K := by rfl) :
    PE X (.Call (.Name "isinstance" p) [e, .Name x q] [] pos) (tD N (e1 (o1 (opIs n T)) fa)) :=
  PE.imp (pe_callB call_isi hg hm boot_isinstance (pa_cons he (pa_cons hx pa_nil hst2) hst) (by decide) (by decide) hst hpl) fun σ H Q ⟨Z, O, ρ, Qd, S, q, k⟩ => ⟨Z, O, ρ, _, S, q, fun v1 H1 O1 d1 ρ1 x1 S1 r1 ⟨d, e, q1⟩ => by
    obtain ⟨t, e1, e⟩ := Option.bind_eq_some_iff.mp e
    split at e
    · rename_i hg
      cases e
      have ty := tyx_of C r1 e1 hg
      rw [← hK] at ty
      refine ⟨_, _, _, _, isB T t, rfl, .ty T, ty, ?_, k _ H1 O1 _ ρ1 x1 S1 (.bl _) q1⟩
      cases t with
      | inl U => exact kit_ty (kit_names T hT U (List.contains_iff_mem.mp hg))
      | inr c =>
        rw [hK]
        exact C.kit c (of_decide_eq_true hg) T (names_sub T hT)
    · cases e⟩
theorem de_isC {c : Nat} {x : Str} (C : Cfs N n) (hc : c < n) (hg : Gl X "isinstance") (hm : X.mg "isinstance" = none) (he : PE X e (tDB N fa)) (hx : PE X (.Name x q) (tC (.ref (N.cl c))))
    (hst : starEach [e, .Name x q] X.env = (false, eval e X.env) :: starEach [.Name x q] X.env := by rfl) (hst2 : starEach [.Name x q] X.env = (false, eval (.Name x q) X.env) :: starEach [] X.env := by rfl) (hpl : (backTo pos (starEach [.Name x q] X.env)).any (·.1) = false := by rfl) (hK : X.K = N.K := by rfl) :
    PE X (.Call (.Name "isinstance" p) [e, .Name x q] [] pos) (tD N (e1 (o1 (opIsC n c)) fa)) :=
  PE.imp (pe_callB call_isi hg hm boot_isinstance (pa_cons he (pa_cons hx pa_nil hst2) hst) (by decide) (by decide) hst hpl) fun σ H Q ⟨Z, O, ρ, Qd, S, q, k⟩ => ⟨Z, O, ρ, _, S, q, fun v1 H1 O1 d1 ρ1 x1 S1 r1 ⟨d, e, q1⟩ => by
    obtain ⟨t, e1, e⟩ := Option.bind_eq_some_iff.mp e
    split at e
    · rename_i hg
      cases e
      have ty := tyx_of C r1 e1 hg
      rw [← hK] at ty
      refine ⟨_, _, _, _, decide (t = .inr c), rfl, .own _, ty, ?_, k _ H1 O1 _ ρ1 x1 S1 (.bl _) q1⟩
      rw [hK]
      cases t with
      | inl U =>
        rw [decide_eq_false (by intro z; cases z)]
        exact C.kitB c hc U (List.contains_iff_mem.mp hg)
      | inr c' =>
        have := C.kitO c' (of_decide_eq_true hg) c hc
        rw [show tyVal N (.inr c') = .ref (N.cl c') from rfl, this]
        congr 1
        simp
    · cases e⟩
def inD (x y : D) : Option Bool := match x, y with
  | .str a, .str b => some (!(Builtin.Str.occurrences b a 0 b.length 1).isEmpty)
  | x, .tup ys => (toPy x).bind fun a => (toPys ys).bind fun bs => if SeqAt.shaped a = true ∧ SeqAt.shaped (.tuple bs) = true then some (bs.any fun z => PyData.eqv z a) else none
  | x, .lst ys => (toPy x).bind fun a => (toPys ys).bind fun bs => if SeqAt.shaped a = true ∧ SeqAt.shaped (.list bs) = true then some (bs.any fun z => PyData.eqv z a) else none
  | _, _ => none
def opIn (x y : D) : Option D := (inD x y).map .bl
def opNotIn (x y : D) : Option D := (inD x y).map fun b => .bl (!b)
def rInDT (K : PySem.W.Frag) (neg : Bool) : R2 := fun x y H Q => ∃ d ds, Dp K H x d ∧ Dp K H y (.tuple ds) ∧ SeqAt.shaped d = true ∧ SeqAt.shaped (.tuple ds) = true ∧ Q (.bl (neg ^^ (ds.any fun z => PyData.eqv z d))) H
theorem op_inDT (hu : X.A.units + 65 < cLine) : OpR X (compareOp .In) (rInDT X.K false) := by
  intro pins s σ H x y v u Q I rx ry h
  obtain ⟨d, ds, hd, he, sd, se, q⟩ := h
  obtain ⟨as, r1⟩ := Dp.reads I d x v hd rx
  obtain ⟨bs, r2⟩ := Dp.reads I (.tuple ds) y u he ry
  rw [Bool.false_xor] at q
  exact SeqAt.in_tuple_reads r2 r1 (SeqAt.canLay_of_shaped se) (SeqAt.canLay_of_shaped sd) (room_in_shaped sd hu) ⟨.bl _, H, I, rfl, q⟩
theorem op_notInDT (hu : X.A.units + 65 < cLine) : OpR X (compareOp .NotIn) (rInDT X.K true) := by
  intro pins s σ H x y v u Q I rx ry h
  obtain ⟨d, ds, hd, he, sd, se, q⟩ := h
  obtain ⟨as, r1⟩ := Dp.reads I d x v hd rx
  obtain ⟨bs, r2⟩ := Dp.reads I (.tuple ds) y u he ry
  rw [Bool.true_xor] at q
  exact SeqAt.notIn_tuple_reads r2 r1 (SeqAt.canLay_of_shaped se) (SeqAt.canLay_of_shaped sd) (room_in_shaped sd hu) ⟨.bl _, H, I, rfl, q⟩
abbrev rInAll (K : PySem.W.Frag) : R2 := fun x y H Q => (∃ i j, x = .str i ∧ y = .str j ∧ Q (.bl (!(Builtin.Str.occurrences j i 0 j.length 1).isEmpty)) H) ∨ (rInDT K false x y H Q ∨ rInD K x y H Q)
abbrev rNotInAll (K : PySem.W.Frag) : R2 := fun x y H Q => (∃ i j, x = .str i ∧ y = .str j ∧ Q (.bl (!(!(Builtin.Str.occurrences j i 0 j.length 1).isEmpty))) H) ∨ (rInDT K true x y H Q ∨ rNotInD K x y H Q)
theorem od_in (hu : X.A.units + 65 < cLine) : OpR X (compareOp .In) (rInAll X.K) := OpR.or op_in_str (OpR.or (op_inDT hu) (op_inD hu))
theorem od_notIn (hu : X.A.units + 65 < cLine) : OpR X (compareOp .NotIn) (rNotInAll X.K) := OpR.or op_notin_str (OpR.or (op_notInDT hu) (op_notInD hu))
theorem in_ok (hK : X.K = N.K) {O : Addr → Prop} {H : Hp} {x y : V} {dx dy : D} {b : Bool} (rx : Rep N O H x dx) (ry : RepB N O H y dy) (e : inD dx dy = some b) :
    (∃ i j, x = .str i ∧ y = .str j ∧ b = !(Builtin.Str.occurrences j i 0 j.length 1).isEmpty) ∨ (∃ d ds, Dp X.K H x d ∧ Dp X.K H y (.tuple ds) ∧ SeqAt.shaped d = true ∧ SeqAt.shaped (.tuple ds) = true ∧ b = ds.any fun z => PyData.eqv z d) ∨
    ∃ d ds, Dp X.K H x d ∧ Dp X.K H y (.list ds) ∧ SeqAt.shaped d = true ∧ SeqAt.shaped (.list ds) = true ∧ b = ds.any fun z => PyData.eqv z d := by
  unfold inD at e
  split at e
  · cases e
    cases rep_str (.of rx)
    cases rep_str ry
    exact .inl ⟨_, _, rfl, rfl, rfl⟩
  · obtain ⟨p, e1, e⟩ := Option.bind_eq_some_iff.mp e
    obtain ⟨qs, e2, e⟩ := Option.bind_eq_some_iff.mp e
    split at e
    · rename_i hs
      cases e
      rw [hK]
      exact .inr (.inl ⟨p, qs, rx.dp e1, ry.dp (by show (toPys _).map PyData.tuple = _; rw [e2]; rfl), hs.1, hs.2, rfl⟩)
    · cases e
  · obtain ⟨p, e1, e⟩ := Option.bind_eq_some_iff.mp e
    obtain ⟨qs, e2, e⟩ := Option.bind_eq_some_iff.mp e
    split at e
    · rename_i hs
      cases e
      rw [hK]
      exact .inr (.inr ⟨p, qs, rx.dp e1, ry.dp (by show (toPys _).map PyData.list = _; rw [e2]; rfl), hs.1, hs.2, rfl⟩)
    · cases e
  · cases e
theorem sv_in (hK : X.K = N.K := by rfl) : Sv2 N (rInAll X.K) (o2 opIn) := svo2 fun O H x y dx dy d Q dm rx ry e k => by
  obtain ⟨b, e1, rfl⟩ := Option.map_eq_some_iff.mp e
  rcases in_ok hK rx ry e1 with ⟨i, j, rfl, rfl, rfl⟩ | ⟨p, q, h1, h2, h3, h4, rfl⟩ | ⟨p, q, h1, h2, h3, h4, rfl⟩
  · exact .inl ⟨_, _, rfl, rfl, k _ H (L2.Same.refl _) (.bl _)⟩
  · exact .inr (.inl ⟨p, q, h1, h2, h3, h4, by rw [Bool.false_xor]; exact k _ H (L2.Same.refl _) (.bl _)⟩)
  · exact .inr (.inr ⟨p, q, h1, h2, h3, h4, k _ H (L2.Same.refl _) (.bl _)⟩)
theorem sv_notIn (hK : X.K = N.K := by rfl) : Sv2 N (rNotInAll X.K) (o2 opNotIn) := svo2 fun O H x y dx dy d Q dm rx ry e k => by
  obtain ⟨b, e1, rfl⟩ := Option.map_eq_some_iff.mp e
  rcases in_ok hK rx ry e1 with ⟨i, j, rfl, rfl, rfl⟩ | ⟨p, q, h1, h2, h3, h4, rfl⟩ | ⟨p, q, h1, h2, h3, h4, rfl⟩
  · exact .inl ⟨_, _, rfl, rfl, k _ H (L2.Same.refl _) (.bl _)⟩
  · exact .inr (.inl ⟨p, q, h1, h2, h3, h4, by rw [Bool.true_xor]; exact k _ H (L2.Same.refl _) (.bl _)⟩)
  · exact .inr (.inr ⟨p, q, h1, h2, h3, h4, k _ H (L2.Same.refl _) (.bl _)⟩)
def toKey : D → Option Key
  | .int i => some (.inl i)
  | .str s => some (.inr s)
  | _ => none
def toKeys : List D → Option (List Key)
  | [] => some []
  | x :: xs => (toKey x).bind fun a => (toKeys xs).map fun r => a :: r
theorem key_ok {O : Addr → Prop} {H : Hp} {v : V} {d : D} {k : Key} (r : Rep N O H v d) (e : toKey d = some k) : v = kV k := by
  cases r with
  | int i => cases e; rfl
  | str s => cases e; rfl
  | _ => cases e
theorem keys_ok {O : Addr → Prop} {H : Hp} : ∀ {vs : List V} {ds : List D} {ks : List Key}, Reps N O H vs ds → toKeys ds = some ks → vs = ks.map kV
  | _, _, _, .nil, e => by
    cases e
    rfl
  | _, _, ks, .cons a r, e => by
    obtain ⟨p, e1, e2⟩ := Option.bind_eq_some_iff.mp (show ((toKey _).bind fun a => (toKeys _).map fun r => a :: r) = some ks from e)
    obtain ⟨q, e3, e4⟩ := Option.map_eq_some_iff.mp e2
    rw [← e4, key_ok a e1, keys_ok r e3]
    rfl
def toTKey : D → Option (List Key)
  | .tup [a, .int i] => (toKey a).map fun k => [k, .inl i]
  | _ => none
theorem tkey_ok {O : Addr → Prop} {H : Hp} {v : V} {d : D} {ks : List Key} (r : Rep N O H v d) (e : toTKey d = some ks) : ∃ a, v = .ref a ∧ H a = some (.tup (ks.map kV)) := by
  unfold toTKey at e
  split at e
  · rename_i a i
    obtain ⟨k, e1, rfl⟩ := Option.map_eq_some_iff.mp e
    cases r with
    | tup h rs =>
      have := keys_ok (ks := [k, .inl i]) rs (by show ((toKey _).bind fun a => (toKeys [D.int i]).map fun r => a :: r) = _; rw [e1]; rfl)
      rw [this] at h
      exact ⟨_, rfl, h⟩
    | tupK h s rs => exact absurd rfl (s _ _)
  · cases e
def memK {κ : Type} [DecidableEq κ] (k : κ) (ks : List κ) : Bool := ks.any fun x => decide (x = k)
theorem memK_iff {κ : Type} [DecidableEq κ] {k : κ} {ks : List κ} : memK k ks = true ↔ k ∈ ks := by
  unfold memK
  rw [List.any_eq_true]
  exact ⟨fun ⟨x, h, e⟩ => by rw [← of_decide_eq_true e]; exact h, fun h => ⟨k, h, decide_eq_true rfl⟩⟩
def inDict (x y : D) : Option Bool := match y with
  | .dt ks _ => (toTKey x).map fun k => memK k ks
  | .dk ks _ => (toKey x).map fun k => memK k ks
  | _ => none
def opInK (x y : D) : Option D := (inDict x y).map .bl
theorem valV_mem {κ : Type} [DecidableEq κ] {kvs : List (κ × V)} {k : κ} : (valV kvs k).isSome = memK k (kvs.map (·.1)) := by
  unfold valV memK
  rw [Option.isSome_map, List.any_map]
  induction kvs with
  | nil => rfl
  | cons p r ih =>
    rw [List.find?_cons, List.any_cons]
    show _ = (decide (p.1 = k) || _)
    cases h : decide (p.1 = k) with
    | true => rfl
    | false => exact ih
theorem dict_ok {O : Addr → Prop} {H : Hp} {x y : V} {dx dy : D} {b : Bool} (rx : Rep N O H x dx) (ry : Rep N O H y dy) (e : inDict dx dy = some b) : ∃ a r, y = .ref a ∧ DGet H a x r ∧ r.isSome = b := by
  unfold inDict at e
  split at e
  · obtain ⟨k, e1, rfl⟩ := Option.map_eq_some_iff.mp e
    obtain ⟨c, rfl, hc⟩ := tkey_ok rx e1
    cases ry with
    | dt n h ek r =>
      refine ⟨_, _, rfl, .inr ⟨_, k, c, h, rfl, hc, rfl⟩, ?_⟩
      rw [valV_mem, ek]
  · obtain ⟨k, e1, rfl⟩ := Option.map_eq_some_iff.mp e
    cases key_ok rx e1
    cases ry with
    | dk n h ek r =>
      refine ⟨_, _, rfl, .inl ⟨_, k, h, rfl, rfl⟩, ?_⟩
      rw [valV_mem, ek]
  · cases e
variable {a b : Expr} {fb : F}
theorem de_inK (hu : X.A.units + 1 < cLine) (ha : PE X a (tD N fa)) (hb : PE X b (tD N fb)) (hm : behindInMarks .In b = false := by rfl) : PE X (.Compare a [.In] [b] pos) (tD N (e2 (o2 opInK) fa fb)) :=
  PE.imp (pe_cmp (pc_din hu ha hb) hm) fun σ H Q ⟨Z, O, ρ, Qd, S, q, k⟩ => ⟨Z, O, ρ, _, S, q, fun v1 H1 O1 d1 ρ1 x1 S1 r1 q1 => ⟨Z, O1, ρ1, _, S1, q1, fun v2 H2 O2 d2 ρ2 x2 S2 r2 ⟨d, e, q2⟩ => by
    obtain ⟨bb, e1, rfl⟩ := Option.map_eq_some_iff.mp e
    obtain ⟨c, r, rfl, hd, rfl⟩ := dict_ok (r1.ext x2) r2 e1
    exact ⟨c, r, rfl, hd, k _ H2 O2 _ ρ2 (x1.trans x2) S2 (.bl _) q2⟩⟩⟩
end
section
variable {X : Cx} {N : Cd} {a b c e o : Expr} {es : List Expr} {p pos apos cpos : Pos} {fa fb fc fo : F} {fl : FL} {x : Str}
def opLen : D → Option D
  | .str z => if z.length ≤ sizeLine then some (.int (z.length : Int)) else none
  | .tup xs => some (.int (xs.length : Int))
  | .lst xs => some (.int (xs.length : Int))
  | .dk ks _ => some (.int (ks.length : Int))
  | .dt ks _ => some (.int (ks.length : Int))
  | _ => none
theorem call_len_dTR : CallR X (.builtin "len") (fun xs H Q => ∃ (p : Addr) (kvs : List (List Key × V)), xs = [.ref p] ∧ Rd H p (.dT kvs) ∧ Q (.int ((kvs.length : Nat) : Int)) H) := by
  intro pins s σ H xs us Q I r h
  obtain ⟨p, kvs, rfl, hp, q⟩ := h
  obtain ⟨u, rfl, rx⟩ := vals1 r
  obtain rfl : u = .ref p := rx
  obtain ⟨z, hd, ys, rel, dd⟩ := dt_rd I.hok hp
  have hl : kvs.length = ys.length := Paired.length rel
  refine call_len_dictH hd dd (by rw [← hl]; rw [sizeLine_eq] at z; omega) ?_
  rw [← hl]
  exact ⟨.int ((kvs.length : Nat) : Int), H, I.tok _, ⟨_, rfl⟩, q⟩
theorem call_len_dKR : CallR X (.builtin "len") (fun xs H Q => ∃ a kvs, xs = [V.ref a] ∧ Rd H a (.dK kvs) ∧ Q (.int ((kvs.length : Nat) : Int)) H) := by
  intro pins s σ H xs us Q I r h
  obtain ⟨a, kvs, rfl, ha, q⟩ := h
  obtain ⟨u, rfl, ru⟩ := vals1 r
  cases ru
  exact d_len I ha fun t s' I' => ⟨.int kvs.length, H, I', ⟨t, rfl⟩, q⟩
abbrev rLenD (K : PySem.W.Frag) : List V → Hp → VK → Prop := fun xs H Q => (∃ p ys, xs = [.ref p] ∧ (SqL K H p ys ∨ SqT K H p ys) ∧ Q (.int ys.length) H) ∨ ((∃ z, xs = [.str z] ∧ z.length ≤ sizeLine ∧ Q (.int z.length) H) ∨
  ((∃ (p : Addr) (kvs : List (List Key × V)), xs = [.ref p] ∧ Rd H p (.dT kvs) ∧ Q (.int ((kvs.length : Nat) : Int)) H) ∨ ∃ a kvs, xs = [V.ref a] ∧ Rd H a (.dK kvs) ∧ Q (.int ((kvs.length : Nat) : Int)) H))
theorem cd_len : CallR X (.builtin "len") (rLenD X.K) := CallR.or call_len_seq (CallR.or call_len_str (CallR.or call_len_dTR call_len_dKR))
theorem sv_len (hK : X.K = N.K := by rfl) : SvC N (rLenD X.K) (o1 opLen) := svoC fun O H x dx d Q dm rx e k => by
  unfold opLen at e
  split at e
  · split at e
    · rename_i hz
      cases e
      cases rep_str rx
      exact .inr (.inl ⟨_, rfl, hz, k _ H (L2.Same.refl _) (.int _)⟩)
    · cases e
  · cases e
    obtain ⟨a, vs, rfl, h, r⟩ := (rx.rep fun _ z => nomatch z).sqt
    rw [← r.length] at k
    exact .inl ⟨a, vs, rfl, .inr (by rw [hK]; exact h), k _ H (L2.Same.refl _) (.int _)⟩
  · cases e
    obtain ⟨a, vs, rfl, h, r⟩ := rx.sql
    rw [← r.length] at k
    exact .inl ⟨a, vs, rfl, .inl (SqL.of h), k _ H (L2.Same.refl _) (.int _)⟩
  · cases e
    cases rx with
    | of rx =>
      cases rx with
      | dk n h ek r =>
        rw [← ek, List.length_map] at k
        exact .inr (.inr (.inr ⟨_, _, rfl, h, k _ H (L2.Same.refl _) (.int _)⟩))
  · cases e
    cases rx with
    | of rx =>
      cases rx with
      | dt n h ek r =>
        rw [← ek, List.length_map] at k
        exact .inr (.inr (.inl ⟨_, _, rfl, h, k _ H (L2.Same.refl _) (.int _)⟩))
  · cases e
def toBools : List D → Option (List Bool)
  | [] => some []
  | .bl b :: r => (toBools r).map fun l => b :: l
  | _ :: _ => none
theorem reps_bools {O : Addr → Prop} {H : Hp} : ∀ {vs : List V} {ds : List D} {ns : List Bool}, Reps N O H vs ds → toBools ds = some ns → vs = ns.map V.bl
  | _, _, _, .nil, e => by
    cases e
    rfl
  | _, _, ns, .cons a r, e => by
    cases a with
    | bl i =>
      obtain ⟨l, e1, e2⟩ := Option.map_eq_some_iff.mp (show (toBools _).map (fun l => i :: l) = some ns from e)
      rw [← e2, reps_bools r e1]
      rfl
    | _ => cases e
def opAll : D → Option D
  | .lst xs => (toBools xs).map fun l => .bl (l.all id)
  | _ => none
theorem sv_all (hK : X.K = N.K := by rfl) : SvC N (rAll X.K) (o1 opAll) := svoC fun O H x dx d Q dm rx e k => by
  unfold opAll at e
  split at e
  · obtain ⟨l, e1, rfl⟩ := Option.map_eq_some_iff.mp e
    obtain ⟨a, vs, rfl, h, r⟩ := rx.sql
    rw [reps_bools r e1] at h
    exact ⟨a, l, rfl, SqL.of h, k _ H (L2.Same.refl _) (.bl _)⟩
  · cases e
def opTuple : D → Option D
  | .lst xs => some (.tup xs)
  | .tup xs => some (.tup xs)
  | _ => none
theorem sv_tuple (hK : X.K = N.K := by rfl) : SvC N (fun xs H Q => ∃ p ys, xs = [.ref p] ∧ ((SqL X.K H p ys ∧ ∀ l, H l = none → Q (.ref l) (upd H l (.tup ys))) ∨ (SqT X.K H p ys ∧ Q (.ref p) H))) (o1 opTuple) := svoC fun O H x dx d Q dm rx e k => by
  unfold opTuple at e
  split at e
  · cases e
    obtain ⟨a, vs, rfl, h, r⟩ := rx.sql
    exact ⟨a, vs, rfl, .inl ⟨SqL.of h, fun l hl => k _ _ (Wd.Same.new hl) (newTup r hl)⟩⟩
  · cases e
    have rr := rx.rep fun _ z => nomatch z
    obtain ⟨a, vs, rfl, h, r⟩ := rr.sqt
    exact ⟨a, vs, rfl, .inr ⟨by rw [hK]; exact h, k _ H (L2.Same.refl _) rr⟩⟩
  · cases e
def opList : D → Option (List D)
  | .lst xs => some xs
  | .tup xs => some xs
  | _ => none
def oList (f : F) : FL := fun ρ Q E => f ρ (fun d ρ1 => ∃ ds, opList d = some ds ∧ Q ds ρ1) E
end
section
variable {X : Cx} {N : Cd} {a b c e o : Expr} {es : List Expr} {p pos apos cpos p2 : Pos} {fa fb fc fo : F} {fl : FL} {x : Str}
def opInt : D → Option D
  | .int i => some (.int i)
  | .bl k => some (.int (if k then 1 else 0))
  | _ => none
theorem sv_int : SvC N (fun xs H Q => (∃ i, xs = [.int i] ∧ Q (.int i) H) ∨ ∃ k, xs = [.bl k] ∧ Q (.int (if k then 1 else 0)) H) (o1 opInt) := svoC fun O H x dx d Q dm rx e k => by
  unfold opInt at e
  split at e
  · cases e
    cases rep_int rx
    exact .inl ⟨_, rfl, k _ H (L2.Same.refl _) (.int _)⟩
  · cases e
    cases rep_bl rx
    exact .inr ⟨_, rfl, k _ H (L2.Same.refl _) (.int _)⟩
  · cases e
def opMax2 : List D → Option D
  | [.int i, .int j] => some (.int (if j > i then j else i))
  | _ => none
def opMin2 : List D → Option D
  | [.int i, .int j] => some (.int (if j < i then j else i))
  | _ => none
theorem two_ints {O : Addr → Prop} {H : Hp} {xs : List V} {i j : Int} (r : Reps N O H xs [.int i, .int j]) : xs = [.int i, .int j] := by
  cases r with
  | cons a r =>
    cases r with
    | cons b r =>
      cases r
      cases a
      cases b
      rfl
theorem sv_max2 : SvL N (fun xs H Q => ∃ i j, xs = [.int i, .int j] ∧ Q (.int (if j > i then j else i)) H) (oL opMax2) := svoL fun O H xs ds d Q dm rx e k => by
  unfold opMax2 at e
  split at e
  · cases e
    rw [two_ints rx]
    exact ⟨_, _, rfl, k _ H (L2.Same.refl _) (.int _)⟩
  · cases e
def toStrs : List D → Option (List Str)
  | [] => some []
  | .str b :: r => (toStrs r).map fun l => b :: l
  | _ :: _ => none
theorem reps_strs {O : Addr → Prop} {H : Hp} : ∀ {vs : List V} {ds : List D} {ns : List Str}, Reps N O H vs ds → toStrs ds = some ns → vs = ns.map V.str
  | _, _, _, .nil, e => by
    cases e
    rfl
  | _, _, ns, .cons a r, e => by
    cases a with
    | str i =>
      obtain ⟨l, e1, e2⟩ := Option.map_eq_some_iff.mp (show (toStrs _).map (fun l => i :: l) = some ns from e)
      rw [← e2, reps_strs r e1]
      rfl
    | _ => cases e
def opJoin (a : Str) (d : D) : Option D := match d with
  | .lst xs => (toStrs xs).bind fun ys => if (ys.map (·.length)).sum + ys.length * a.length ≤ 16777216 then some (.str (Txt.join a ys)) else none
  | .tup xs => (toStrs xs).bind fun ys => if (ys.map (·.length)).sum + ys.length * a.length ≤ 16777216 then some (.str (Txt.join a ys)) else none
  | _ => none
theorem de_join {z : Str} {j pc} (hh : PE X (.Call (.Attribute (.Constant (.str z) j pc) "join" apos) [e] [] pos) (tM1 (fun x xs H Q => ∃ a p, ∃ ys : List Str, x = .str a ∧ xs = [.ref p] ∧ (SqL X.K H p (ys.map V.str) ∨ SqT X.K H p (ys.map V.str)) ∧ (ys.map (·.length)).sum + ys.length * a.length ≤ 16777216 ∧ Q (.str (Txt.join a ys)) H) (tC (.str z)) (tDB N fa)))
    (hK : X.K = N.K := by rfl) : PE X (.Call (.Attribute (.Constant (.str z) j pc) "join" apos) [e] [] pos) (tD N (e1 (o1 (opJoin z)) fa)) :=
  PE.imp hh fun σ H Q ⟨Z, O, ρ, Qd, S, q, k⟩ => ⟨⟨z, rfl⟩, Z, O, ρ, _, S, q, fun v2 H2 O2 d2 ρ2 x2 S2 r2 ⟨d, e, q2⟩ => by
    unfold opJoin at e
    split at e
    · obtain ⟨ys, e1, e⟩ := Option.bind_eq_some_iff.mp e
      split at e
      · rename_i hz
        cases e
        obtain ⟨a, vs, rfl, h, r⟩ := r2.sql
        rw [reps_strs r e1] at h
        exact ⟨_, a, ys, rfl, rfl, .inl (SqL.of h), hz, k _ H2 O2 _ ρ2 x2 S2 (.str _) q2⟩
      · cases e
    · obtain ⟨ys, e1, e⟩ := Option.bind_eq_some_iff.mp e
      split at e
      · rename_i hz
        cases e
        obtain ⟨a, vs, rfl, h, r⟩ := (r2.rep fun _ z => nomatch z).sqt
        rw [reps_strs r e1] at h
        exact ⟨_, a, ys, rfl, rfl, .inr (by rw [hK]; exact h), hz, k _ H2 O2 _ ρ2 x2 S2 (.str _) q2⟩
      · cases e
    · cases e⟩
def opIx : D → D → Option D
  | .lst xs, .int i => atI xs i
  | .tup xs, .int i => atI xs i
  | .str z, .int i => if z.length ≤ sizeLine then (atI z.cps.toList i).map fun c => .str ⟨#[c]⟩ else none
  | _, _ => none
theorem at_up {O : Addr → Prop} {H : Hp} {vs : List V} {ds : List D} {i : Int} {d : D} (r : Reps N O H vs ds) (e : atI ds i = some d) : ∃ u, atI vs i = some u ∧ Rep N O H u d := by
  unfold atI at e ⊢
  obtain ⟨j, e1, e2⟩ := Option.bind_eq_some_iff.mp e
  rw [r.length, e1]
  obtain ⟨u, hu, ru⟩ := r.get' e2
  exact ⟨u, hu, ru⟩
theorem ix_read (hK : X.K = N.K) {O : Addr → Prop} {H : Hp} {x y : V} {dx dy d : D} {Q : VK} (rx : RepB N O H x dx) (ry : Rep N O H y dy) (e : opIx dx dy = some d) (k : ∀ v, Rep N O H v d → Q v H) : rIx X.K x y H Q := by
  unfold opIx at e
  split at e
  · cases rep_int (.of ry)
    obtain ⟨a, vs, rfl, h, r⟩ := rx.sql
    obtain ⟨u, hu, ru⟩ := at_up r e
    exact .inl ⟨a, vs, _, u, rfl, rfl, SqL.of h, hu, k u ru⟩
  · cases rep_int (.of ry)
    obtain ⟨a, vs, rfl, h, r⟩ := (rx.rep fun _ z => nomatch z).sqt
    obtain ⟨u, hu, ru⟩ := at_up r e
    exact .inr (.inl ⟨a, vs, _, u, rfl, rfl, by rw [hK]; exact h, hu, k u ru⟩)
  · split at e
    · rename_i hz
      cases rep_int (.of ry)
      cases rep_str rx
      obtain ⟨cc, e1, rfl⟩ := Option.map_eq_some_iff.mp e
      exact .inr (.inr ⟨_, _, cc, rfl, rfl, hz, e1, k _ (.str _)⟩)
    · cases e
  · cases e
theorem de_ix (ha : PE X a (tD N fa)) (hb : PE X b (tD N fb)) (hs : PlainIx b := by exact fun _ _ => rfl) (hK : X.K = N.K := by rfl) : PE X (.Subscript a b pos) (tD N (e2 (o2 opIx) fa fb)) :=
  PE.imp (pe_ix ix_seq ha hb hs) fun σ H Q ⟨Z, O, ρ, Qd, S, q, k⟩ => ⟨Z, O, ρ, _, S, q, fun v1 H1 O1 d1 ρ1 x1 S1 r1 q1 => ⟨Z, O1, ρ1, _, S1, q1, fun v2 H2 O2 d2 ρ2 x2 S2 r2 ⟨d, e, q2⟩ =>
    ix_read hK (.of (r1.ext x2)) r2 e fun v rv => k v H2 O2 d ρ2 (x1.trans x2) S2 rv q2⟩⟩
def cutD {α : Type} (xs : List α) (lo hi : Option Int) : List α := (xs.drop (HT.sIx xs.length 0 lo)).take (HT.sIx xs.length xs.length hi - HT.sIx xs.length 0 lo)
def opSl (d : D) (lo hi : Option Int) : Option D := match d with
  | .lst xs => some (.lst (cutD xs lo hi))
  | .tup xs => some (.tup (cutD xs lo hi))
  | .str z => if z.length ≤ sizeLine then some (.str (cutS z lo hi)) else none
  | _ => none
abbrev FO := Env → (Option Int → Env → Prop) → XP → Prop
def pNo : FO := fun ρ Q _ => Q none ρ
def pSome (f : F) : FO := fun ρ Q E => f ρ (fun d ρ1 => ∃ i, d = .int i ∧ Q (some i) ρ1) E
def eSl (f : F) (lo hi : FO) : F := fun ρ Q E => f ρ (fun d ρ1 => lo ρ1 (fun l ρ2 => hi ρ2 (fun h ρ3 => ∃ r, opSl d l h = some r ∧ Q r ρ3) E) E) E
def tO (N : Cd) (f : FO) : TO := fun σ H Q => ∃ Z O ρ Qd, Sim N Z O ρ σ H ∧ f ρ Qd Z.E ∧ ∀ o H' O' ρ', Ext O H O' H' → Sim N Z O' ρ' σ H' → Qd o ρ' → Q o H'
theorem PO.imp {e : Option Expr} {t t' : TO} (h : PO X e t) (i : ∀ σ H Q, t' σ H Q → t σ H Q) : PO X e t' := ⟨fun pn s σ H Q I q => h.run pn s σ H Q I (i σ H Q q)⟩
theorem dp_none : PO X none (tO N pNo) := PO.imp po_none fun σ H Q ⟨Z, O, ρ, Qd, S, q, k⟩ => k none H O ρ Ext.refl S q
theorem dp_some (h : PE X e (tD N fa)) : PO X (some e) (tO N (pSome fa)) := PO.imp (po_some h) fun σ H Q ⟨Z, O, ρ, Qd, S, q, k⟩ => ⟨Z, O, ρ, _, S, q, fun v H1 O1 d ρ1 x1 S1 r1 ⟨i, ed, q1⟩ => by
  subst ed
  cases r1
  exact ⟨i, rfl, k _ H1 O1 ρ1 x1 S1 q1⟩⟩
abbrev rSlD (K : PySem.W.Frag) : V → Option Int → Option Int → Hp → VK → Prop := fun x lo hi H Q => rSlL K x lo hi H Q ∨ (rSlA K x lo hi H Q ∨ rSlS x lo hi H Q)
theorem sd_sl : SlR X (rSlD X.K) := SlR.or sl_list (SlR.or sl_tupA sl_str)
theorem reps_cut {O : Addr → Prop} {H : Hp} {vs : List V} {ds : List D} (r : Reps N O H vs ds) (lo hi : Option Int) : Reps N O H (cutV vs lo hi) (cutD ds lo hi) := by
  unfold cutV cutD
  rw [r.length]
  exact (r.drop _).take _
theorem cut_all {α : Type} {xs : List α} {lo hi : Option Int} (h : HT.sIx xs.length 0 lo = 0 ∧ HT.sIx xs.length xs.length hi = xs.length) : cutD xs lo hi = xs := by
  unfold cutD
  rw [h.1, h.2, List.drop_zero, Nat.sub_zero, List.take_length]
theorem de_slice {lo hi : Option Expr} {fl fh : FO} (he : PE X e (tD N fa)) (hl : PO X lo (tO N fl)) (hh : PO X hi (tO N fh)) (hK : X.K = N.K := by rfl) : PE X (.Subscript e (.Slice lo hi none p2) pos) (tD N (eSl fa fl fh)) :=
  PE.imp (pe_slice sd_sl he hl hh) fun σ H Q ⟨Z, O, ρ, Qd, S, q, k⟩ => ⟨Z, O, ρ, _, S, q, fun v1 H1 O1 d1 ρ1 x1 S1 r1 q1 => ⟨Z, O1, ρ1, _, S1, q1, fun l H2 O2 ρ2 x2 S2 q2 => ⟨Z, O2, ρ2, _, S2, q2, fun h H3 O3 ρ3 x3 S3 ⟨r, e, q3⟩ => by
    have rr := (r1.ext x2).ext x3
    have xx := (x1.trans x2).trans x3
    unfold opSl at e
    split at e
    · cases e
      obtain ⟨a, vs, rfl, hv, rs⟩ := (RepB.of rr).sql
      exact .inl ⟨a, vs, rfl, SqL.of hv, fun p hp => k _ _ O3 _ ρ3 (xx.trans (Ext.same (Wd.Same.new hp))) (S3.same (Wd.Same.new hp)) (newLst S3.dom (reps_cut rs _ _) hp) q3⟩
    · cases e
      obtain ⟨a, vs, rfl, hv, rs⟩ := rr.sqt
      refine .inr (.inl ⟨a, vs, rfl, by rw [hK]; exact hv, fun hw => ?_, fun _ p hp => k _ _ O3 _ ρ3 (xx.trans (Ext.same (Wd.Same.new hp))) (S3.same (Wd.Same.new hp)) (newTup (reps_cut rs _ _) hp) q3⟩)
      rw [rs.length] at hw
      rw [cut_all hw] at q3
      exact k _ H3 O3 _ ρ3 xx S3 rr q3
    · split at e
      · rename_i hz
        cases e
        cases rep_str (.of rr)
        exact .inr (.inr ⟨_, rfl, hz, k _ H3 O3 _ ρ3 xx S3 (.str _) q3⟩)
      · cases e
    · cases e⟩⟩⟩
def aStar (f : F) (r : FL) : FL := fun ρ Q E => f ρ (fun d ρ1 => ∃ ds, opList d = some ds ∧ r ρ1 (fun xs ρ2 => Q (ds ++ xs) ρ2) E) E
end
theorem reps_nil {N : Cd} {O : Addr → Prop} {H : Hp} {vs : List V} (r : Reps N O H vs []) : vs = [] := by
  cases r
  rfl
def McAt (P : Program) (w : World) (mg : Str → Option Value) (base : Heap) (N : Cn) (k : Nat) (x : Str) (tab : Tab) : Prop := ∀ c n m, look tab c = some (n, m) → Att N c ∧ ∃ f fd ps, FnOk P w N.K mg base (CX P w) k f fd ps (spM N n m) ∧ Meth N.K (N.cl c) x f ∧ Binds N.K fd ps []
theorem McAll.at_ {P : Program} {w : World} {mg : Str → Option Value} {base : Heap} {N : Cd} {k : Nat} {x : Str} {tab : Tab} (C : McAll P w mg base N k x [] tab) : McAt P w mg base N k x tab := fun c n m h => by
  obtain ⟨dfl, mc, hd⟩ := C c n m h
  obtain ⟨f, fd, ps, ok, me, bs⟩ := mc.ex
  obtain ⟨dvs, ds, hb, hv, hr⟩ := bs [] hd
  have e : dvs = [] := reps_nil (hr (fun _ => False) fun _ => none)
  subst e
  cases hv
  exact ⟨mc.att, f, fd, ps, ok, me, hb⟩
theorem opr_ex {X : Cx} {f : Value → Value → Sem Value} {ι : Type} {C : ι → Prop} {r : ι → R2} (h : ∀ i, C i → OpR X f (r i)) : OpR X f (fun x y H Q => ∃ i, C i ∧ r i x y H Q) := fun pn s σ H x y v u Q I rx ry ⟨i, hc, q⟩ => h i hc pn s σ H x y v u Q I rx ry q
section
variable {X : Cx} {N : Cd} {k n : Nat} {tab : Tab} {x : Str}
def eqW (nc : Nat) (tab : Tab) : W2 := fun dx dy Q E => match dx with
  | .ins c ds => ∃ m t, look tab c = some (2, m) ∧ tyC dy = some t ∧ goodTy nc t = true ∧ c < nc ∧ m [.ins c ds, dy] (fun d => ∃ b, d = .bl b ∧ Q (.bl b)) noX
  | dx => ∃ d, opEq dx dy = some d ∧ Q d
def rEqOwn (N : Cn) (tab : Tab) : R2 := fun x y H Q => ∃ i : Nat × M, look tab i.1 = some (2, i.2) ∧ ∃ b dx fs t, x = .ref b ∧ H b = some (.ins (N.cl i.1) dx fs) ∧ TyX N.K H y t ∧ PySem.W.notFirst N.K (N.cl i.1) t = true ∧ spM N 2 i.2 [x, y] H (fun z H' => ∃ c, z = .bl c ∧ Q (.bl c) H') fun _ _ _ => False
theorem od_eqOwn (A : McAt X.prog X.w X.mg X.base N k "__eq__" tab) (hr : Room k X.A) (hK : X.K = N.K := by rfl) : OpR X (compareOp .Eq) (rEqOwn N tab) := opr_ex fun i hi => by
  obtain ⟨_, f, fd, ps, ok, me, hb⟩ := A i.1 2 i.2 hi
  rw [← hK] at ok me hb ⊢
  exact op_eq_own me ok hr hb (E := N.bt.ek) (tkB (N := N)).pass
theorem sv_eqW {nc : Nat} (C : Cfs N nc) (hK : X.K = N.K := by rfl) : Sv2 N (fun x y H Q => rEqAll X.K x y H Q ∨ rEqOwn N tab x y H Q) (eqW nc tab) := fun O H x y dx dy Qd Ed Q xk dm rx ry q kk => by
  unfold eqW at q
  split at q
  · rename_i c ds
    obtain ⟨m, t, hl, e1, e2, hc, q⟩ := q
    have ty := tyx_of C ry e1 e2
    have hnf : PySem.W.notFirst N.K (N.cl c) (tyVal N t) = true := by
      cases t with
      | inl U => exact C.nf _ hc U (List.contains_iff_mem.mp e2)
      | inr d => exact C.nfO _ hc d (of_decide_eq_true e2)
    have rr := rx
    cases rx with
    | ins no h sc rs =>
      cases ry with
      | of ry => exact .inr ⟨(_, m), hl, _, _, _, _, rfl, h, ty, hnf, O, _, _, noX, dm, .cons rr (.cons ry .nil), rfl, q, no_q, fun v H' d s r ⟨b, eb, q'⟩ => by
          subst eb
          cases r
          exact ⟨b, rfl, kk _ H' _ s (.bl b) q'⟩⟩
      | @own a vs ds o hh r =>
        have x' : Ext O H (fun z => O z ∧ z ≠ a) H := Ext.less fun z hz => hz.1
        exact .inr ⟨(_, m), hl, _, _, _, _, rfl, h, ty, hnf, fun z => O z ∧ z ≠ a, _, _, noX, ⟨fun z hz => dm.1 z hz.1, dm.2⟩, .cons (rr.ext x') (.cons (.lst (fun z => z.2 rfl) hh (r.ext x')) .nil), rfl, q, no_q, fun v H' d s r ⟨b, eb, q'⟩ => by
          subst eb
          cases r
          exact ⟨b, rfl, kk _ H' _ s (.bl b) q'⟩⟩
  · obtain ⟨d, e, q⟩ := q
    exact .inl (sv_eq hK O H x y dx dy Qd Ed Q xk dm rx ry ⟨d, e, q⟩ kk)
theorem od_eqW (A : McAt X.prog X.w X.mg X.base N k "__eq__" tab) (hr : Room k X.A) (hu : X.A.units + 64 < cLine) (hK : X.K = N.K := by rfl) : OpR X (compareOp .Eq) (fun x y H Q => rEqAll X.K x y H Q ∨ rEqOwn N tab x y H Q) := OpR.or (od_eq hu) (od_eqOwn A hr hK)
def inW (tab : Tab) (neg : Bool) : W2 := fun dx dy Q E => ∃ c ds m, dy = .ins c ds ∧ look tab c = some (2, m) ∧ m [dy, dx] (fun d => ∃ b, d = .bl b ∧ Q (.bl (neg ^^ b))) noX
def rInW (N : Cn) (tab : Tab) (neg : Bool) : R2 := fun x y H Q => ∃ i : Nat × M, look tab i.1 = some (2, i.2) ∧ rInOwn (N.cl i.1) (spM N 2 i.2) (fun _ _ _ => False) neg x y H Q
theorem od_inW (A : McAt X.prog X.w X.mg X.base N k "__contains__" tab) (hr : Room k X.A) (hK : X.K = N.K := by rfl) : OpR X (compareOp .In) (rInW N tab false) := opr_ex fun i hi => by
  obtain ⟨_, f, fd, ps, ok, me, hb⟩ := A i.1 2 i.2 hi
  rw [← hK] at ok me hb
  exact op_in_own me ok hr hb (E := N.bt.ek) (tkB (N := N)).pass
theorem sv_inW {neg : Bool} : Sv2 N (rInW N tab neg) (inW tab neg) := fun O H x y dx dy Qd Ed Q xk dm rx ry ⟨c, ds, m, ey, hl, q⟩ kk => by
  subst ey
  have ry' := ry.rep fun _ z => nomatch z
  have rr := ry'
  cases ry' with
  | ins no h sc rs => exact ⟨(c, m), hl, _, _, _, rfl, h, O, _, _, noX, dm, .cons rr (.cons rx .nil), rfl, q, no_q, fun v H' d s r ⟨b, eb, q'⟩ => by
      subst eb
      cases r
      exact ⟨b, rfl, kk _ H' _ s (.bl _) q'⟩⟩
def invW (tab : Tab) : W1 := fun dx Q E => ∃ c ds m, dx = .ins c ds ∧ look tab c = some (1, m) ∧ m [dx] Q noX
def binW (tab : Tab) (prs : List (Nat × Nat)) : W2 := fun dx dy Q E => ∃ c ds d es m, dx = .ins c ds ∧ dy = .ins d es ∧ look tab c = some (2, m) ∧ (d = c ∨ (c, d) ∈ prs) ∧ m [dx, dy] Q E
structure BinAll (N : Cn) (nm : String) (x : Str) (tab : Tab) (prs : List (Nat × Nat)) : Prop where
  dn : PySem.dunder nm = x
  sf : ∀ c n m, look tab c = some (n, m) → PySem.W.selfFirst N.K (N.cl c) = true
  two : ∀ c d, (c, d) ∈ prs → ∀ f, Meth N.K (N.cl c) x f → ∃ g, Two N.K (N.cl c) (N.cl d) f g nm
end
section
variable {prog : Program} {w : World} {A : Around} {E : Value → Shared → Prop} {s : Shared} {T : String} {r d : Addr} {n : Nat} {P : Nat → Value → Prop} {OK : Heap → Prop}
theorem collect_kdl {Q : List Value → Shared → Prop} (K : PySem.W.KdlSrc prog w T r d n P OK) (hh : A.handled = none) (hok : OK s.heap) (hn : n ≤ sizeLine)
    (hQ : ∀ (h' : Heap) (tk : Nat) (acc : Array Value), (∀ b o, s.heap.get? b = some o → h'.get? b = some o) → ItemsOf P acc n → Q acc.toList { s with heap := h', toks := tk }) :
    wpAny (model prog w) A (collect (.ref r)) Q E s := by
  unfold collect
  refine wpAny_bind (wpAny_runValue (codeAny_builtin PySem.F.entry_proto_collect ?_))
  rw [Around.under_plainId PySem.F.plain_proto_collect _]
  show wpAny _ A.in1 (newList [] >>= fun l => again (.builtin "list.__iadd__" ⟨[l, .ref r], []⟩)) _ _ s
  refine wpAny_bind (wpAny_newObj_type ?_)
  refine wpAny_pure ⟨plainId_quiet PySem.F.plain_list_iadd _, codeAny_builtin PySem.F.entry_list_iadd ?_⟩
  rw [Around.under_plainId PySem.F.plain_list_iadd _]
  show wpAny _ A.in1 (Builtin.List.listExtendWith (.ref s.heap.objs.size) (.ref r) (.ref s.heap.objs.size)) _ _ _
  have hS : (s.heap.push { cls := .type "list", data := .seq ([] : List Value).toArray }).get? s.heap.objs.size = some { cls := .type "list", data := .seq #[] 0 } := Heap.get?_push_size _ rfl
  have hlt := K.there _ hok
  refine wpAny_mono (PySem.W.kdl_extend (A := A) (R := fun rr s' => rr = .ok (.ret (.ref s.heap.objs.size)) ∧ ∃ (h' : Heap) (tk : Nat) (acc : Array Value) (c' : Nat), s' = { s with heap := h', toks := tk } ∧
      (∀ b o, s.heap.get? b = some o → h'.get? b = some o) ∧ h'.get? s.heap.objs.size = some { cls := .type "list", dict := none, data := .seq acc c', slots := #[] } ∧ ItemsOf P acc n)
    (s := { s with heap := s.heap.push { cls := .type "list", data := .seq ([] : List Value).toArray } }) K hh (K.keep _ _ hok fun b _ o e => Heap.get?_push_of_some _ e) _ (Nat.ne_of_gt hlt.1) (Nat.ne_of_gt hlt.2) (.ref s.heap.objs.size) 0 hS
    (fun h' tk acc c' hk e hi => ⟨rfl, h', tk, acc, c', rfl, fun b o q => hk b o (Nat.ne_of_lt (Heap.lt_size q)) (Heap.get?_push_of_some _ q), e, hi⟩) hn) (fun fin s' h => ?_) (fun e s' h => ?_)
  · cases fin with
    | done f =>
      obtain ⟨e, h', tk, acc, c', rfl, hk, hS', hi⟩ := h
      cases e
      show wpAny _ A (load s.heap.objs.size >>= _) _ _ _
      exact wpAny_bind (wpAny_load hS' (wpAny_pure (hQ h' tk acc hk hi)))
    | again c' =>
      refine ⟨h.1, codeAny_mono h.2 fun rr s'' hr' => ?_⟩
      obtain ⟨rfl, h', tk, acc, c', rfl, hk, hS', hi⟩ := hr'
      show wpAny _ A (load s.heap.objs.size >>= _) _ _ _
      exact wpAny_bind (wpAny_load hS' (wpAny_pure (hQ h' tk acc hk hi)))
  · exact absurd h.1 (by simp)
theorem code_tuple_kdl {Q₁ : Value → Shared → Prop} (K : PySem.W.KdlSrc prog w "dict" r d n P OK) (hh : A.handled = none) (hok : OK s.heap) (hn : n ≤ sizeLine)
    (h : ∀ (h' : Heap) (tk : Nat) (acc : Array Value), (∀ b o, s.heap.get? b = some o → h'.get? b = some o) → ItemsOf P acc n → Q₁ (.ref h'.objs.size) { s with heap := h'.push { cls := .type "tuple", data := .seq acc }, toks := tk }) :
    codeAny (model prog w) A (.call (.builtin "tuple.__new__") ⟨[.type "tuple", .ref r], []⟩) (wants Q₁ E) s := by
  refine codeAny_of_tree ?_
  show wpAny _ A.in1 (do checkBuiltinCall "tuple.__new__" ⟨[.type "tuple", .ref r], []⟩; again (.builtin "tuple.__new__" ⟨[.type "tuple", .ref r], []⟩)) _ _ s
  refine wpAny_bind (wpAny_of_eq (PySem.F.newCall_tuple_1 _) (wpAny_pure ⟨plainId_quiet PySem.F.plain_tuple_new _, codeAny_builtin PySem.F.entry_tuple_new ?_⟩))
  rw [Around.under_plainId PySem.F.plain_tuple_new _]
  have hsub := sub_tuple_self
  have hinit := init_tuple_lookup
  have hmh := madeHere_tuple
  have hTI : s.TypeIs (.ref r) "dict" := K.type s hok
  have hh1 : A.in1.handled = none := hh
  wp_walk using wpAny_typeOf hTI, collect_kdl (A := A.in1) K hh1 hok hn
  intro h' tk acc hk hacc
  show wpAny _ _ (Builtin.Tuple.tupleExact acc.toList.toArray >>= fun v => ret v) _ _ _
  unfold Builtin.Tuple.tupleExact
  refine wpAny_bind (wpAny_newObj_type ?_ (by show acc.toList.toArray.size ≤ sizeLine; simp only [Array.toArray_toList]; rw [hacc.1]; exact hn))
  refine wpAny_pure ?_
  have e : acc.toList.toArray = acc := by simp
  rw [e]
  exact h h' tk acc hk hacc
theorem call_tuple_kdl {Q : Value → Shared → Prop} (K : PySem.W.KdlSrc prog w "dict" r d n P OK) (hh : A.handled = none) (hok : OK s.heap) (hn : n ≤ sizeLine)
    (hQ : ∀ (h' : Heap) (tk : Nat) (acc : Array Value), (∀ b o, s.heap.get? b = some o → h'.get? b = some o) → ItemsOf P acc n → Q (.ref h'.objs.size) { s with heap := h'.push { cls := .type "tuple", data := .seq acc }, toks := tk }) :
    wpAny (model prog w) A (call (.type "tuple") [.ref r]) Q E s := by
  refine callType_codes (Q₁ := fun obj s₁ => s₁.TypeIs obj "tuple" ∧ Q obj s₁) PySem.F.called_tuple (PySem.F.typeCall_tuple_1 _) PySem.F.entry_object_init
    (code_tuple_kdl (A := A.in1) K hh hok hn fun h' tk acc hk hacc => ⟨⟨_, Heap.get?_push_size _ rfl, rfl⟩, hQ h' tk acc hk hacc⟩) fun obj s₁ h₁ => ?_
  exact ⟨h₁.1, PySem.F.args_object_init_2 obj _, object_init_meets PySem.F.called_tuple.init.lookup PySem.F.called_tuple.made (by decide) prog w A.in1 _ s₁ ⟨h₁.1, rfl, h₁.2⟩⟩
end
section
variable {X : Cx}
theorem keys_acc {P : Program} {w : World} {ks : List (List Key × Addr × Value)} {es : Array DictEntry} {acc : Array Value} (he : es.toList = ks.map (entryOfKey (tupleKind (mixKind P w)))) (it : ItemsOf (fun i v => ∃ en : DictEntry, es[i]? = some en ∧ v = en.key) acc es.size) : Vals ((ks.map fun x => x.2.1).map V.ref) acc.toList := by
  have l1 : es.size = ks.length := size_of_entries he
  have ea : acc.toList = ks.map fun x => Value.ref x.2.1 := by
    have hl : acc.toList.length = ks.length := by rw [Array.length_toList, it.1]; exact l1
    apply List.ext_getElem?
    intro j
    rw [List.getElem?_map]
    cases hj : acc.toList[j]? with
    | none =>
      have h1 := List.getElem?_eq_none_iff.mp hj
      rw [List.getElem?_eq_none (by omega)]
      all_goals rfl
    | some v =>
      obtain ⟨en, hen, hv⟩ := it.2 j v (by rw [← Array.getElem?_toList]; exact hj)
      have qe := entry_at he j
      rw [hen] at qe
      cases hb : ks[j]? with
      | none =>
        rw [hb] at qe
        exact nomatch (show some en = none from qe)
      | some b =>
        rw [hb] at qe
        have e2 : en = entryOfKey (tupleKind (mixKind P w)) b := Option.some.inj qe
        rw [hv, e2]
        all_goals rfl
  have eb : acc.toList = (ks.map fun x => x.2.1).map Value.ref := by rw [ea, List.map_map]; all_goals rfl
  rw [eb]
  exact vals_refs _
theorem call_tuple_dT (hc : X.calm = true) : CallR X (.type "tuple") (fun xs H Q => ∃ d kvs, xs = [V.ref d] ∧ Rd H d (.dT kvs) ∧ ∀ p bs, H p = none → IsKeys H kvs bs → Q (.ref p) (upd H p (.tup (bs.map V.ref)))) := by
  intro pins s σ H xs us Q I r h
  obtain ⟨d, kvs, rfl, hd, q⟩ := h
  obtain ⟨u, rfl, rx⟩ := r.one
  cases rx
  obtain ⟨z, hs, ks, pr, o, es, ep, ho, hx, hdt, he, hn⟩ := (show ObjOk X.prog X.w H s.heap d (.dT kvs) from hd.ok I.hok)
  have l1 : es.size = ks.length := size_of_entries he
  have l2 : kvs.length = ks.length := Paired.length pr
  refine call_tuple_kdl (kdl_raw hs hx hdt) (I.ok.hd hc) ho (by omega) fun h' tk acc' kp it => ?_
  have rv := keys_acc he it
  have hz : ((ks.map fun x => x.2.1).map V.ref).length ≤ sizeLine := by rw [List.length_map, List.length_map]; omega
  have I1 : Inv X pins σ H { s with heap := h', toks := tk } := I.kept (t' := tk) kp
  have I2 : Inv X pins σ (upd H h'.objs.size (.tup ((ks.map fun x => x.2.1).map V.ref))) { s with heap := h'.push { cls := .type "tuple", data := .seq acc' }, toks := tk } :=
    I1.laid (t' := tk) (fun b o e => Heap.get?_push_of_some _ e) (Nat.le_refl _) (show ObjOk X.prog X.w _ _ _ (.tup _) from ⟨hz, acc'.toList, rv, by rw [Array.toArray_toList]; exact IsTup.new _ _⟩)
  exact ⟨.ref h'.objs.size, _, I2, rfl, q _ _ (I1.hok.fresh (Nat.le_refl _)) (isKeys_of pr)⟩
def tStarD (te : TE) (t : TA) (K : PySem.W.Frag) : TA := fun σ H Q => te σ H fun x H1 => (∃ p xs, x = V.ref p ∧ (SqT K H1 p xs ∨ SqL K H1 p xs) ∧ t σ H1 fun ys H2 => Q (xs ++ ys) H2) ∨ ∃ d kvs, x = V.ref d ∧ Rd H1 d (.dT kvs) ∧ ∀ bs, IsKeys H1 kvs bs → t σ H1 fun ys H2 => Q (bs.map V.ref ++ ys) H2
theorem pa_starD {e : Expr} {es : List Expr} {p : Pos} {te : TE} {t : TA} (hc : X.calm = true) (he : PE X e te) (hr : PA X es t) (hs : starEach (.Starred e p :: es) X.env = (true, eval e X.env) :: starEach es X.env := by rfl) : PA X (.Starred e p :: es) (tStarD te t X.K) := by
  refine ⟨fun pos pins s σ H Q I h => ?_⟩
  refine PySem.W.items_star (thn (he.run pins s σ H _ I h) fun v s1 ⟨y, H1, I1, ry, q⟩ => ?_) hs
  rcases q with ⟨a, xs, ey, hx, q⟩ | ⟨d, kvs, ey, hd, q⟩
  · subst ey
    obtain rfl : v = Value.ref a := ry
    rcases hx with hx | hx
    · obtain ⟨its, rv, ⟨o, ho, hcl, n, hdt⟩, hz⟩ := I1.tuple hx
      refine wpAny_bind (wpAny_specialOf ⟨o, ho, hcl⟩ PySem.F.slot_tuple_iter.lookup (wpAny_pure ⟨rfl, ?_⟩))
      refine wpAny_collect_seq a (.inr rfl) ho hcl hdt (fun h' hk => ?_) (by rw [List.size_toArray, ← rv.length]; exact hz)
      have I2 : Inv X pins σ H1 { s1 with heap := h' } := I1.kept (t' := s1.toks) hk
      exact thn (hr.run pos pins _ σ H1 _ I2 q) fun us s2 ⟨ys, H2, I3, r3, q3⟩ => ⟨_, H2, I3, rv.append r3, q3⟩
    · obtain ⟨its, rv, ⟨o, n, ho, hcl, _, hdt⟩, hz⟩ := I1.list hx
      refine wpAny_bind (wpAny_specialOf ⟨o, ho, hcl⟩ PySem.F.slot_list_iter.lookup (wpAny_pure ⟨rfl, ?_⟩))
      refine wpAny_collect_seq a (.inl rfl) ho hcl hdt (fun h' hk => ?_) (by rw [List.size_toArray, ← rv.length]; exact hz)
      have I2 : Inv X pins σ H1 { s1 with heap := h' } := I1.kept (t' := s1.toks) hk
      exact thn (hr.run pos pins _ σ H1 _ I2 q) fun us s2 ⟨ys, H2, I3, r3, q3⟩ => ⟨_, H2, I3, rv.append r3, q3⟩
  · subst ey
    obtain rfl : v = Value.ref d := ry
    obtain ⟨z, hsm, ks, pr, o, es', ep, ho, hx, hdt, hee, hn⟩ := (show ObjOk X.prog X.w H1 s1.heap d (.dT kvs) from hd.ok I1.hok)
    have l1 : es'.size = ks.length := size_of_entries hee
    have l2 : kvs.length = ks.length := Paired.length pr
    refine wpAny_bind (wpAny_specialOf ⟨o, ho, hx.1⟩ PySem.F.slot_dict_iter.lookup (wpAny_pure ⟨rfl, ?_⟩))
    refine collect_kdl (kdl_raw hsm hx hdt) (I1.ok.hd hc) ho (by omega) fun h' tk acc' kp it => ?_
    have rv := keys_acc hee it
    have I2 : Inv X pins σ H1 { s1 with heap := h', toks := tk } := I1.kept (t' := tk) kp
    exact thn (hr.run pos pins _ σ H1 _ I2 (q _ (isKeys_of pr))) fun us s2 ⟨ys, H2, I3, r3, q3⟩ => ⟨_, H2, I3, rv.append r3, q3⟩
end
def keyD : Key → D
  | .inl i => .int i
  | .inr s => .str s
def tkeyD (k : List Key) : D := .tup (k.map keyD)
def itemsK : D → Option (List D)
  | .tup ds => some ds
  | .lst ds => some ds
  | .dt ks _ => some (ks.map tkeyD)
  | _ => none
section
variable {X : Cx} {N : Cd} {e : Expr} {es : List Expr} {p pos : Pos} {fa : F} {fl : FL}
theorem rep_key {O : Addr → Prop} {H : Hp} (k : Key) : Rep N O H (kV k) (keyD k) := by
  cases k with
  | inl i => exact .int i
  | inr s => exact .str s
theorem reps_key {O : Addr → Prop} {H : Hp} : ∀ ks : List Key, Reps N O H (ks.map kV) (ks.map keyD)
  | [] => .nil
  | k :: ks => .cons (rep_key k) (reps_key ks)
theorem reps_keys {O : Addr → Prop} {H : Hp} {kvs : List (List Key × V)} {bs : List Addr} (h : IsKeys H kvs bs) : Reps N O H (bs.map V.ref) ((kvs.map (·.1)).map tkeyD) := by
  unfold IsKeys at h
  induction h with
  | nil => exact .nil
  | cons a t ih => exact .cons (.tup a (reps_key _)) ih
def opTupleK : D → Option D
  | .lst xs => some (.tup xs)
  | .tup xs => some (.tup xs)
  | .dt ks _ => some (.tup (ks.map tkeyD))
  | _ => none
abbrev rTupleK (K : PySem.W.Frag) : List V → Hp → VK → Prop := fun xs H Q => (∃ p ys, xs = [.ref p] ∧ ((SqL K H p ys ∧ ∀ l, H l = none → Q (.ref l) (upd H l (.tup ys))) ∨ (SqT K H p ys ∧ Q (.ref p) H))) ∨ ∃ d kvs, xs = [V.ref d] ∧ Rd H d (.dT kvs) ∧ ∀ p bs, H p = none → IsKeys H kvs bs → Q (.ref p) (upd H p (.tup (bs.map V.ref)))
theorem cd_tupleK (hc : X.calm = true) : CallR X (.type "tuple") (rTupleK X.K) := CallR.or call_tuple_of (call_tuple_dT hc)
theorem sv_tupleK (hK : X.K = N.K := by rfl) : SvC N (rTupleK X.K) (o1 opTupleK) := fun O H x dx Qd Ed Q xk dm rx ⟨d, e, qd⟩ k => by
  unfold opTupleK at e
  split at e
  · exact .inl (sv_tuple hK O H x _ Qd Ed Q xk dm rx ⟨d, e, qd⟩ k)
  · exact .inl (sv_tuple hK O H x _ Qd Ed Q xk dm rx ⟨d, e, qd⟩ k)
  · cases e
    cases rx with
    | of rx =>
      cases rx with
      | dt n h ek r =>
        refine .inr ⟨_, _, rfl, h, fun p bs hp hb => k _ _ _ (dm.same (Wd.Same.new hp)) ?_ qd⟩
        rw [← ek]
        exact newTup (reps_keys hb) hp
  · cases e
def aStarK (f : F) (r : FL) : FL := fun ρ Q E => f ρ (fun d ρ1 => ∃ ds, itemsK d = some ds ∧ r ρ1 (fun xs ρ2 => Q (ds ++ xs) ρ2) E) E
theorem da_starK (hc : X.calm = true) (he : PE X e (tD N fa)) (hr : PA X es (tDL N fl)) (hs : starEach (.Starred e p :: es) X.env = (true, eval e X.env) :: starEach es X.env := by rfl) (hK : X.K = N.K := by rfl) : PA X (.Starred e p :: es) (tDL N (aStarK fa fl)) :=
  PA.imp (pa_starD hc he hr hs) fun σ H Q ⟨Z, O, ρ, Qd, S, q, k⟩ => ⟨Z, O, ρ, _, S, q, fun v1 H1 O1 d1 ρ1 x1 S1 r1 ⟨ds, e, q1⟩ => by
    unfold itemsK at e
    split at e
    · cases e
      obtain ⟨a, vs, rfl, h, r⟩ := r1.sqt
      exact .inl ⟨a, vs, rfl, .inl (by rw [hK]; exact h), Z, O1, ρ1, _, S1, q1, fun vs H2 O2 es ρ2 x2 S2 r2 q2 => k _ H2 O2 _ ρ2 (x1.trans x2) S2 ((r.ext x2).app r2) q2⟩
    · cases e
      obtain ⟨a, vs, rfl, h, r⟩ := (RepB.of r1).sql
      exact .inl ⟨a, vs, rfl, .inr (SqL.of h), Z, O1, ρ1, _, S1, q1, fun vs H2 O2 es ρ2 x2 S2 r2 q2 => k _ H2 O2 _ ρ2 (x1.trans x2) S2 ((r.ext x2).app r2) q2⟩
    · cases e
      cases r1 with
      | dt n h ek r =>
        refine .inr ⟨_, _, rfl, h, fun bs hb => ⟨Z, O1, ρ1, _, S1, q1, fun vs H2 O2 es ρ2 x2 S2 r2 q2 => ?_⟩⟩
        have rk := reps_keys (N := N) (O := O1) hb
        rw [ek] at rk
        exact k _ H2 O2 _ ρ2 (x1.trans x2) S2 ((rk.ext x2).app r2) q2
    · cases e⟩
end
def putA {κ α : Type} [DecidableEq κ] (kvs : List (κ × α)) (k : κ) (v : α) : List (κ × α) :=
  if (kvs.any fun kv => decide (kv.1 = k)) = true then kvs.map (fun kv => if kv.1 = k then (kv.1, v) else kv) else kvs ++ [(k, v)]
def dcD (g : GD) (t : FT) (fk fv : F) (vs : List Nat) (E : XP) (Q : List (List Key × D) → Env → Prop) : List D → List (List Key × D) → Env → Prop
  | [], acc, ρ => Q acc ρ
  | d :: ds, acc, ρ => g d ρ fun ρ1 => t ρ1 (fun b ρ2 => if b = true then fk ρ2 (fun y ρ3 => fv ρ3 (fun z ρ4 => ∃ k, toTKey y = some k ∧ acc.length < sizeLine ∧ dcD g t fk fv vs E Q ds (putA acc k z) (wipeE ρ4 vs)) E) E else dcD g t fk fv vs E Q ds acc (wipeE ρ2 vs)) E
def eDt (fi : FL) (g : GD) (t : FT) (fk fv : F) (vs : List Nat) : F := fun ρ Q E => fi ρ (fun ds ρ1 => dcD g t fk fv vs noX (fun acc ρ2 => Q (.dt (acc.map (·.1)) (acc.map (·.2))) ρ2) ds [] (wipeE ρ1 vs)) E
structure RepKV (N : Cn) (O : Addr → Prop) (H : Hp) (kvs : List (List Key × V)) (kds : List (List Key × D)) : Prop where
  ks : kvs.map (·.1) = kds.map (·.1)
  vs : Reps N O H (kvs.map (·.2)) (kds.map (·.2))
section
variable {N : Cd} {Z : Zd} {O O' : Addr → Prop} {H H' : Hp}
theorem RepKV.ext {kvs : List (List Key × V)} {kds : List (List Key × D)} (r : RepKV N O H kvs kds) (x : Ext O H O' H') : RepKV N O' H' kvs kds := ⟨r.ks, r.vs.ext x⟩
theorem RepKV.len {kvs : List (List Key × V)} {kds : List (List Key × D)} (r : RepKV N O H kvs kds) : kvs.length = kds.length := by
  have := congrArg List.length r.ks
  rwa [List.length_map, List.length_map] at this
theorem RepKV.put {k : List Key} {v : V} {d : D} (rv : Rep N O H v d) {kvs : List (List Key × V)} {kds : List (List Key × D)} (r : RepKV N O H kvs kds) : RepKV N O H (putK kvs k v) (putA kds k d) := by
  have ea : (kvs.any fun kv => decide (kv.1 = k)) = kds.any fun kv => decide (kv.1 = k) := by
    have e1 : (kvs.any fun kv => decide (kv.1 = k)) = (kvs.map (·.1)).any fun x => decide (x = k) := by rw [List.any_map]; rfl
    have e2 : (kds.any fun kv => decide (kv.1 = k)) = (kds.map (·.1)).any fun x => decide (x = k) := by rw [List.any_map]; rfl
    rw [e1, e2, r.ks]
  unfold putK putA
  rw [ea]
  by_cases h : (kds.any fun kv => decide (kv.1 = k)) = true
  · rw [if_pos h, if_pos h]
    clear ea h
    obtain ⟨h1, h2⟩ := r
    induction kvs generalizing kds with
    | nil =>
      cases kds with
      | nil => exact ⟨rfl, .nil⟩
      | cons _ _ => cases h1
    | cons p ps ih =>
      cases kds with
      | nil => cases h1
      | cons q qs =>
        rw [List.map_cons, List.map_cons] at h1
        injection h1 with e1 e2
        rw [List.map_cons, List.map_cons] at h2
        cases h2 with
        | cons a b =>
          obtain ⟨i1, i2⟩ := ih e2 b
          refine ⟨?_, ?_⟩
          · rw [List.map_cons, List.map_cons, List.map_cons, List.map_cons, i1]
            congr 1
            by_cases c : q.1 = k
            · rw [if_pos c, if_pos (e1.trans c)]
              exact e1
            · rw [if_neg c, if_neg (by rw [e1]; exact c)]
              exact e1
          · rw [List.map_cons, List.map_cons, List.map_cons, List.map_cons]
            refine .cons ?_ i2
            by_cases c : q.1 = k
            · rw [if_pos c, if_pos (e1.trans c)]
              exact rv
            · rw [if_neg c, if_neg (by rw [e1]; exact c)]
              exact a
  · rw [if_neg h, if_neg h]
    refine ⟨?_, ?_⟩
    · rw [List.map_append, List.map_append, r.ks]
      rfl
    · rw [List.map_append, List.map_append]
      exact r.vs.app (.cons rv .nil)
structure MkD (N : Cd) (Z : Zd) (O : Addr → Prop) (ρ : Env) (σ : L2.St) (H : Hp) (p : Addr) (acc : List (List Key × D)) : Prop where
  sim : Sim N Z O ρ σ H
  op : O p
  ap : Apart ρ σ (.ref p)
  ex : ∃ av, H p = some (.dT av) ∧ RepKV N O H av acc
variable {p : Addr} {g : GD} {t : FT} {fk fv : F} {is vs : List Nat}
theorem dc_in {J : It} {ds : List D} {O1 : Addr → Prop} {H1 : Hp} {ρ1 : Env} {σ : L2.St} {acc : List (List Key × D)} {Qd : List (List Key × D) → Env → Prop} {Fin : Hp → Prop} (mu : Z.fre N p) (sub : ∀ i ∈ is, i ∈ vs) (it : ItOk N KqT J ds O1 H1) (M : MkD N Z O1 ρ1 (wipe σ vs) H1 p acc) (hw : wipeE ρ1 vs = ρ1)
    (q : dcD g t fk fv vs noX Qd ds acc ρ1) (fin : ∀ H' O' ρ' acc', Ext O1 H1 O' H' → MkD N Z O' ρ' (wipe σ vs) H' p acc' → wipeE ρ' vs = ρ' → Qd acc' ρ' → Fin H') :
    ∃ W : Nat → Nat → Hp → Prop, (∃ m, W 0 m H1) ∧ ∀ i m H, W i m H → (J.stop i H ∧ Fin H) ∨ (J.go i H ∧ ∃ Nx : Hp → Prop, (∀ H', Nx H' → ∃ m', m' < m ∧ W (i + 1) m' H') ∧ ∀ x H', J.yld i H x H' → tG N.bt is g x (wipe σ vs) H' fun σ2 H2 => wipe σ2 vs = wipe σ vs ∧ tDT N.bt t σ2 H2 fun b H3 =>
      if b = true then tD N.bt fk σ2 H3 fun y He => tD N.bt fv σ2 He fun z Hf => ∃ kvs k c, y = .ref c ∧ Hf c = some (.tup (k.map kV)) ∧ Hf p = some (.dT kvs) ∧ kvs.length < sizeLine ∧ Nx (upd Hf p (.dT (putK kvs k z))) else Nx H3) := by
  refine ⟨fun i m H' => m = ds.length - i ∧ i ≤ ds.length ∧ ∃ O' ρ' acc', Ext O1 H1 O' H' ∧ MkD N Z O' ρ' (wipe σ vs) H' p acc' ∧ wipeE ρ' vs = ρ' ∧ dcD g t fk fv vs noX Qd (ds.drop i) acc' ρ', ⟨ds.length, by omega, Nat.zero_le _, O1, ρ1, acc, Ext.refl, M, hw, q⟩, ?_⟩
  rintro i m H2 ⟨rfl, hi, O2, ρ2, acc2, x2, ⟨S2, op2, ap2, av, hav, rav⟩, hw2, q2⟩
  obtain ⟨go, stop⟩ := it O2 H2 i x2 S2.dom trivial
  by_cases hlt : i < ds.length
  · refine .inr ⟨(go hlt).1, fun H' => ∃ O' ρ' acc', Ext O1 H1 O' H' ∧ MkD N Z O' ρ' (wipe σ vs) H' p acc' ∧ wipeE ρ' vs = ρ' ∧ dcD g t fk fv vs noX Qd (ds.drop (i + 1)) acc' ρ', fun H' z => ⟨_, by omega, rfl, hlt, z⟩, fun x H3 y => ?_⟩
    obtain ⟨s3, d, hd, r3⟩ := (go hlt).2 x H3 y
    rw [drop_cons hlt hd] at q2
    have S3 := S2.same s3
    have hav3 := s3 _ _ hav
    refine ⟨(Z.fr N H3 p).bt, O2, ρ2, d, _, (S3.frame op2 ap2).bt, r3, q2, fun σ4 ρ4 o4 S4 q4 => ?_⟩
    have o4' : Off vs (wipe σ vs) σ4 := o4.mono sub
    have ew : wipe σ4 vs = wipe σ vs := by
      rw [wipe_eq o4', wipe_eq off_wipe]
    refine ⟨ew, (Z.fr N H3 p).bt, O2, ρ4, _, S4, q4, fun k H5 O5 ρ5 x5 S5 q5 => ?_⟩
    have x3 : Ext O1 H1 O2 H3 := x2.trans (Ext.same s3)
    cases k with
    | true =>
      refine iteT ⟨(Z.fr N H3 p).bt, O5, ρ5, _, S5, q5, fun ky H6 O6 dk ρ6 x6 S6 r6 q6 => ⟨(Z.fr N H3 p).bt, O6, ρ6, _, S6, q6, fun z H7 O7 dz ρ7 x7 S7 r7 ⟨kk, hkk, hz, q7⟩ => ?_⟩⟩
      obtain ⟨c, ec, hc⟩ := tkey_ok (r6.ext x7) hkk
      obtain ⟨S8, hp8, op8, ap8⟩ := S3.unframe hav3 (Sim.ub (S3.frame op2 ap2).xk S7)
      have S9 := S8.wiped o4'.symm
      have ap9 := ap8.wiped o4'.symm
      obtain ⟨Sa, xa⟩ := S9.aside (o' := .dT (putK av kk z)) op8 mu hp8 (fun z => z) nofun nofun nofun ap9
      have xx := (x5.trans x6).trans x7
      have ra := (rav.ext (((Ext.same s3).trans xx).trans xa))
      refine ⟨av, kk, c, ec, hc, hp8, by rw [rav.len]; exact hz, O7, _, putA acc2 kk dz, (x3.trans xx).trans xa, ⟨Sa, op8, ap9, _, upd_same, ra.put (r7.ext xa)⟩, wipeE_idem _ _, q7⟩
    | false =>
      obtain ⟨S7, hp7, op7, ap7⟩ := S3.unframe hav3 (Sim.ub (S3.frame op2 ap2).xk S5)
      exact iteF ⟨O5, _, acc2, x3.trans x5, ⟨S7.wiped o4'.symm, op7, ap7.wiped o4'.symm, av, hp7, rav.ext ((Ext.same s3).trans x5)⟩, wipeE_idem _ _, q5⟩
  · have e : i = ds.length := by omega
    subst e
    rw [List.drop_length] at q2
    exact .inl ⟨stop rfl, fin H2 O2 ρ2 acc2 x2 ⟨S2, op2, ap2, av, hav, rav⟩ hw2 q2⟩
end
section
variable {X : Cx} {N : Cd} {fi : FL} {g : GD} {t : FT} {fk fv : F} {is : List Nat} {kx vx tg iter : Expr} {ifs : List Expr} {scope : Scope} {own : List (Str × Nat)} {pos : Pos}
theorem de_dt (hu : X.A.units + 1 < cLine) (hc : X.calm = true) (hN : X.N.Nodup) (hi : PI X tg iter (tI N fi)) (ok : BlkOk X.N X.env.scope scope own) (sub : ∀ i ∈ is, i ∈ own.map (·.2))
    (hg : ∀ (s : Shared) (H : Hp) (C : Addr) (cl : List (Str × Addr)) (fp : List Addr), PG (X.blk s H scope (compEnvC scope cl C X.env) fp) tg (tG N.bt is g)) (ht : ∀ (s : Shared) (H : Hp) (C : Addr) (cl : List (Str × Addr)) (fp : List Addr), PTs (X.blk s H scope (compEnvC scope cl C X.env) fp) ifs (tDT N.bt t))
    (hk : ∀ (s : Shared) (H : Hp) (C : Addr) (cl : List (Str × Addr)) (fp : List Addr), PE (X.blk s H scope (compEnvC scope cl C X.env) fp) kx (tD N.bt fk))
    (hv : ∀ (s : Shared) (H : Hp) (C : Addr) (cl : List (Str × Addr)) (fp : List Addr), PE (X.blk s H scope (compEnvC scope cl C X.env) fp) vx (tD N.bt fv)) (hs : ∀ x, foldedSetIterable iter X.env x = pure x := by intro _; rfl) :
    PE X (.DictComp kx vx [⟨tg, iter, ifs, 0⟩] scope pos) (tD N (eDt fi g t fk fv (own.map (·.2)))) :=
  PE.imp (pe_dt hu hc hN hi ok hg ht hk hv hs) fun σ H Q ⟨Z, O, ρ, Qd, S, q, k⟩ => ⟨Z, O, ρ, _, S, q, fun J H1 O1 ds ρ1 x1 S1 it q1 p hp => by
    obtain ⟨S2, x2, m, ap⟩ := S1.claim (o := .dT []) hp
    refine dc_in m.2.2 sub (it.ext x2) ⟨S2.wiped off_wipe, m.1, ap.wiped off_wipe, [], upd_same, ⟨rfl, .nil⟩⟩ (wipeE_idem _ _) q1 fun H' O' ρ' acc x' M' hw q' => ?_
    have S' := M'.sim.wiped (vs := own.map (·.2)) (off_wipe.symm)
    have ap' := M'.ap.wiped (vs := own.map (·.2)) (off_wipe.symm)
    rw [hw] at S' ap'
    obtain ⟨S3, x3⟩ := S'.free m.2.1 ap'
    obtain ⟨av, hav, rav⟩ := M'.ex
    exact k (.ref p) H' _ _ ρ' (((x1.trans x2).trans x').trans x3) S3 (.dt (fun z => z.2 rfl) (.inl hav) rav.ks (rav.vs.ext x3)) q'⟩
end
section
variable {N : Cd} {O : Addr → Prop} {H : Hp} {a : Addr} {u : HO} {od : Obj}
def Zd.lk (N : Cn) (Z : Zd) (H : Hp) (a : Addr) : Zd := ⟨H, Z.O0, fun b => Z.fre N b ∧ b ≠ a, noX⟩
end
def iAnyK (f : F) : FL := fun ρ Q E => f ρ (fun d ρ1 => ∃ ds, itemsK d = some ds ∧ Q ds ρ1) E
section
variable {X : Cx} {N : Cd} {fi : F} {g : GD} {t : FT} {fe : F} {is : List Nat} {elt tg iter : Expr} {ifs : List Expr} {scope : Scope} {own : List (Str × Nat)} {pos : Pos} {tr : TE}
theorem PE.or {e : Expr} {t1 t2 : TE} (h1 : PE X e t1) (h2 : PE X e t2) : PE X e (fun σ H Q => t1 σ H Q ∨ t2 σ H Q) := ⟨fun pn s σ H Q I q => q.elim (h1.run pn s σ H Q I) (h2.run pn s σ H Q I)⟩
end
theorem hu65 {A : Around} {k : Nat} (hr : Room k A) : A.units + 65 < cLine := by have := hr.un; omega
theorem hu66 {A : Around} {k : Nat} (hr : Room k A) : A.units + 66 < cLine := by have := hr.un; omega
def Ck (mg : Str → Option Value) (x : Str) (v : V) : Prop := ∃ u, mg x = some u ∧ RelV v u
section
variable {X : Cx} {N : Cd} {e : Expr} {x : Str} {p pos spos py : Pos} {v : V} {d : D} {fi : FL} {g : GD} {t : FT} {fe fp : F} {is : List Nat} {elt tg iter : Expr} {ifs : List Expr} {scope : Scope} {own : List (Str × Nat)} {i : Nat} {y : Str} {tr : TE}
theorem de_glob (h : Ck X.mg x v) (hg : Gl X x) (r : ∀ O H, Rep N O H v d) (hd : (x == ("__debug__" : Str)) = false := by decide) : PE X (.Name x pos) (tD N (eC d)) := by
  obtain ⟨u, hm, rv⟩ := h
  exact de_of_c (pe_glob hg hm rv hd) r
theorem de_globI {n : Int} (h : Ck X.mg x (.int n)) (hg : Gl X x) (hd : (x == ("__debug__" : Str)) = false := by decide) : PE X (.Name x pos) (tD N (eC (.int n))) := de_glob h hg (fun _ _ => .int n) hd
theorem de_globS {z : Str} (h : Ck X.mg x (.str z)) (hg : Gl X x) (hd : (x == ("__debug__" : Str)) = false := by decide) : PE X (.Name x pos) (tD N (eC (.str z))) := de_glob h hg (fun _ _ => .str z) hd
theorem pe_globC {C : Addr} (hm : X.mg x = some (.ref C)) (hg : Gl X x) (hd : (x == ("__debug__" : Str)) = false := by decide) : PE X (.Name x pos) (tC (.ref C)) := pe_glob hg hm rfl hd
theorem pe_tyB {T : String} (hv : bootBuiltins x = some (.type T)) (hm : X.mg x = none) (hg : Gl X x) (hn : x ≠ "__name__" := by decide) (hd : (x == ("__debug__" : Str)) = false := by decide) : PE X (.Name x pos) (tC (.ty T)) := pe_bltn hg hm hv rfl hn hd
theorem ds_setLc (hc : X.calm = true) (hN : X.N.Nodup) (hy : X.N[i]? = some y) (hyl : X.env.scope.names.lookup y = some .local) (hsw : swapsWith (.ListComp elt [⟨tg, iter, ifs, 0⟩] scope pos) (some (.Name y py)) spos.line X.env = pure true) (hi : PI X tg iter (tI N fi)) (ok : BlkOk X.N X.env.scope scope own) (sub : ∀ i ∈ is, i ∈ own.map (·.2))
    (hg : ∀ (s : Shared) (H : Hp) (C : Addr) (cl : List (Str × Addr)) (fp : List Addr), PG (X.blk s H scope (compEnvC scope cl C X.env) fp) tg (tG N.bt is g)) (ht : ∀ (s : Shared) (H : Hp) (C : Addr) (cl : List (Str × Addr)) (fp : List Addr), PTs (X.blk s H scope (compEnvC scope cl C X.env) fp) ifs (tDT N.bt t))
    (he : ∀ (s : Shared) (H : Hp) (C : Addr) (cl : List (Str × Addr)) (fp : List Addr), PE (X.blk s H scope (compEnvC scope cl C X.env) fp) elt (tD N.bt fe)) (hs : ∀ x, foldedSetIterable iter X.env x = pure x := by intro _; rfl) :
    PS X (.Assign [.Name y py] (.ListComp elt [⟨tg, iter, ifs, 0⟩] scope pos) spos) (tS N (sSet i (xVal (eMade (oLc fi g t fe (own.map (·.2))))))) :=
  PS.imp (ps_setLc hc hN hy hyl hsw hi ok hg ht he hs) fun D σ H ⟨Z, O, ρ, De, S, q, gg⟩ => lc_read sub S q fun p H' O' ρ' acc x M n0 mu q' => by
    obtain ⟨O2, x2, S2, r2⟩ := M.data n0
    exact gg.nx _ H' O2 _ (x.trans x2) (S2.set r2) q'
end
end Fd

namespace Wd
open PySem PySem.Spec PyProof.Rows L2
end Wd

namespace Fd
open PySem PySem.Spec PyProof.Rows L2 Wd
def lookN (kvs : List (D × D)) (k : NestedKey) : Option D := (kvs.find? fun p => decide (toNK p.1 = some k)).map (·.2)
def putN (kvs : List (D × D)) (kd : D) (k : NestedKey) (v : D) : List (D × D) := if (lookN kvs k).isSome then kvs.map (fun p => if toNK p.1 = some k then (p.1, v) else p) else kvs ++ [(kd, v)]
def KeyD (kd : D) (k : NestedKey) : Prop := (∃ ds, kd = .tup ds) ∧ toNK kd = some k ∧ k.depth ≤ 8
section
variable {N : Cn} {O : Addr → Prop} {H : Hp}
theorem KvRep.keys : ∀ {xs : List NKV} {kvs : List (D × D)}, KvRep N O H xs kvs → KeysOk N.K H xs
  | _, _, .nil, _, h => nomatch h
  | _, _, .cons a e h b r, x, hx => by
    rcases List.mem_cons.mp hx with rfl | hx
    · exact ⟨a.nk e, h⟩
    · exact KvRep.keys r x hx
theorem KvRep.look : ∀ {xs : List NKV} {kvs : List (D × D)}, KvRep N O H xs kvs → ∀ k, (valN xs k = none ∧ lookN kvs k = none) ∨ ∃ v d, valN xs k = some v ∧ lookN kvs k = some d ∧ Rep N O H v d
  | _, _, .nil, _ => .inl ⟨rfl, rfl⟩
  | _, _, .cons (k := k') (b := b) (v := v) (xs := xs) (dk := dk) (dv := dv) (kvs := kvs) a e h c r, k => by
    have ih := KvRep.look r k
    unfold valN lookN at ih ⊢
    rw [List.find?_cons, List.find?_cons]
    by_cases hk : k' = k
    · subst hk
      simp only [e, decide_true, Option.map_some]
      exact .inr ⟨v, dv, rfl, rfl, c⟩
    · have hne : ¬ toNK dk = some k := fun z => hk (Option.some.inj (e.symm.trans z))
      simp only [hk, hne, decide_false]
      exact ih
theorem KvRep.length : ∀ {xs : List NKV} {kvs : List (D × D)}, KvRep N O H xs kvs → xs.length = kvs.length
  | _, _, .nil => rfl
  | _, _, .cons _ _ _ _ r => congrArg (· + 1) (KvRep.length r)
theorem KvRep.map {k : NestedKey} {v : V} {d : D} (rv : Rep N O H v d) : ∀ {xs : List NKV} {kvs : List (D × D)}, KvRep N O H xs kvs → KvRep N O H (xs.map (setN k v)) (kvs.map fun p => if toNK p.1 = some k then (p.1, d) else p)
  | _, _, .nil => .nil
  | _, _, .cons (k := k') (dk := dk) a e h c r => by
    rw [List.map_cons, List.map_cons]
    unfold setN
    by_cases hk : k' = k
    · have h2 : toNK dk = some k := by rw [← hk]; exact e
      rw [if_pos hk, if_pos h2]
      exact .cons a e h rv (KvRep.map rv r)
    · have h2 : ¬ toNK dk = some k := fun z => hk (Option.some.inj (e.symm.trans z))
      rw [if_neg hk, if_neg h2]
      exact .cons a e h c (KvRep.map rv r)
theorem KvRep.snoc {k : NestedKey} {b : Addr} {v : V} {dk dv : D} (a : Rep N O H (.ref b) dk) (e : toNK dk = some k) (h : k.depth ≤ 8) (c : Rep N O H v dv) : ∀ {xs : List NKV} {kvs : List (D × D)}, KvRep N O H xs kvs → KvRep N O H (xs ++ [(k, b, v)]) (kvs ++ [(dk, dv)])
  | _, _, .nil => .cons a e h c .nil
  | _, _, .cons a' e' h' c' r => .cons a' e' h' c' (KvRep.snoc a e h c r)
theorem KvRep.put {k : NestedKey} {b : Addr} {v : V} {dk dv : D} {xs : List NKV} {kvs : List (D × D)} (r : KvRep N O H xs kvs) (a : Rep N O H (.ref b) dk) (e : toNK dk = some k) (h : k.depth ≤ 8) (c : Rep N O H v dv) : KvRep N O H (storeN xs k b v) (putN kvs dk k dv) := by
  unfold storeN putN
  rcases r.look k with ⟨h1, h2⟩ | ⟨x, y, h1, h2, _⟩
  · rw [h1, h2]
    exact r.snoc a e h c
  · rw [h1, h2]
    exact r.map c
end
section
variable {X : Cx} {N : Cd} {e o ki : Expr} {p pos apos cpos : Pos} {fa fk fv fx : F} {i : Nat}
theorem Sim.odk {Z : Zd} {O : Addr → Prop} {ρ : Env} {σ : L2.St} {H : Hp} {kvs : List (D × D)} (S : Sim N Z O ρ σ H) (h : ρ[i]? = some (Sl.odk kvs)) : ∃ a xs, σ[i]? = some (some (.ref a)) ∧ Mine N Z O a ∧ H a = some (DkN N.hs a xs) ∧ KvRep N O H xs kvs := by
  obtain ⟨v, hv, a, xs, e, m, hh, r⟩ := S.ref h
  subst e
  exact ⟨a, xs, hv, m, hh, r⟩
theorem key_of {O : Addr → Prop} {H : Hp} {y : V} {kd : D} {k : NestedKey} (r : Rep N O H y kd) (h : KeyD kd k) : ∃ b, y = .ref b ∧ NkX N.K H (.ref b) k ∧ k.depth ≤ 8 := by
  obtain ⟨⟨ds, rfl⟩, e, h8⟩ := h
  obtain ⟨b, vs, rfl, _, _⟩ := r.sqt
  exact ⟨b, rfl, r.nk e, h8⟩
end
structure Bf (mg : Str → Option Value) : Prop where
  int : mg "int" = none
  bool : mg "bool" = none
  str : mg "str" = none
  tuple : mg "tuple" = none
  list : mg "list" = none
  len : mg "len" = none
  range : mg "range" = none
  isinstance : mg "isinstance" = none
  all : mg "all" = none
  any : mg "any" = none
  enumerate : mg "enumerate" = none
  zip : mg "zip" = none
  sorted : mg "sorted" = none
  repr : mg "repr" = none
  max : mg "max" = none
  min : mg "min" = none
  abs : mg "abs" = none
  set : mg "set" = none
  sum : mg "sum" = none
inductive LiveAll : List GD → Prop
  | nil : LiveAll []
  | cons {g : GD} {l : List GD} : Live g → LiveAll l → LiveAll (g :: l)
theorem live_list {l : List GD} (h : LiveAll l) : ∀ g ∈ l, Live g := by
  induction h with
  | nil => exact fun _ z => nomatch z
  | cons a _ ih => exact fun g hg => (List.mem_cons.mp hg).elim (fun e => e ▸ a) (ih g)
theorem fld_ok {N : Cn} {x : Str} {ix : Nat → Option Nat} {n : Nat} (At : ∀ c, c < n → Att N c) (h : ∀ c j, ix c = some j → c < n ∧ (N.sch c)[j]? = some x) (h2 : ∀ c, ix (c + 100) = none) : FldOk N x ix := ⟨fun c j e _ => ⟨At c (h c j e).1, (h c j e).2⟩, fun c j e => by
  rw [h2] at e
  cases e⟩
theorem fld_okL {K : PySem.W.Frag} {cl xc : Nat → Addr} {tb : List (Addr × Str)} {hs : NestedKey → Int} {sb : Nat → Bool} {si : Nat → Nat → Nat} {sl : List (List Str)} {x : Str} {L : List (Option Nat)} {n : Nat} (At : ∀ c, c < n → Att ⟨K, cl, fun c => sl.getD c [], xc, tb, hs, sb, si⟩ c)
    (h : (decide (L.length ≤ n ∧ L.length ≤ 100) && (List.range n).all fun c => match L.getD c none with | none => true | some j => decide ((sl.getD c [])[j]? = some x)) = true) :
    FldOk ⟨K, cl, fun c => sl.getD c [], xc, tb, hs, sb, si⟩ x fun c => L.getD c none := by
  rw [Bool.and_eq_true] at h
  have hl := of_decide_eq_true h.1
  refine fld_ok At (fun c j e => ?_) fun c => ?_
  · have hc : c < n := by
      refine Nat.lt_of_lt_of_le ?_ hl.1
      refine Nat.lt_of_not_le fun z => ?_
      rw [List.getD_eq_getElem?_getD, List.getElem?_eq_none z] at e
      cases e
    have := List.all_eq_true.mp h.2 c (List.mem_range.mpr hc)
    rw [e] at this
    exact ⟨hc, of_decide_eq_true this⟩
  · rw [List.getD_eq_getElem?_getD, List.getElem?_eq_none (by omega)]
    rfl
structure AttB (N : Cn) (c : Nat) : Prop where
  d : N.sl c = false → Att N c
  s : N.sl c = true → SAtt N c
def relab (sc sc0 : Scope) : Scope := { sc with names := sc.names.map fun (n, k) => if (k == NameKind.free && sc0.kind == .function && sc0.names.lookup n == some .cell) then (n, NameKind.cell) else (n, k) }
theorem blkOk_in {N N' : List Str} {sc0 sc scope : Scope} {own : List (Str × Nat)} {env : PySem.Env} (e : N = N') (h : env.scope = sc0) (b : blkC N' (relab sc sc0) scope own = true) : BlkOk N (relabel sc env) scope own := by
  subst e h
  exact blkOk_by b
def opNeg : D → Option D
  | .int i => some (.int (-i))
  | _ => none
theorem sv_neg {N : Cd} : Sv1 N (rU fun i => .int (-i)) (o1 opNeg) := svo1 fun O H x dx d Q dm rx e k => by
  unfold opNeg at e
  split at e
  · cases e
    cases rep_int rx
    exact ⟨_, rfl, k _ H (L2.Same.refl _) (.int _)⟩
  · cases e
def strsD (zs : List Str) : List D := zs.map D.str
def colsD (zs : List Str) (wd : Nat) : List D := (List.range wd).map fun i => .tup (zs.map fun z => D.str ⟨#[z.cps.getD i 0]⟩)
def iZipX (f : F) : FL := fun ρ Q E => f ρ (fun d ρ1 => ∃ zs wd, d = .tup (strsD zs) ∧ 0 < zs.length ∧ zs.length ≤ 10 ∧ (∀ z ∈ zs, z.cps.size = wd) ∧ Q (colsD zs wd) ρ1) E
section
variable {X : Cx} {N : Cd} {a b c e e2 o tg : Expr} {es : List Expr} {p pos p2 pos2 apos cpos tpos sp : Pos} {fa fb fc fo : F} {fl : FL} {elts : List Expr} {kk : Nat} {x : Str}
def oRg1 (f : F) : FL := fun ρ Q E => f ρ (fun d ρ1 => ∃ j : Int, d = .int j ∧ RgOk 0 j ∧ Q (intsD 0 j.toNat) ρ1) E
end
def mTake : MP := fun ds c Q _ => ∃ up : Int, ds = [.int up] ∧ c < 1000000 ∧ 0 < up ∧ up < 1000000 ∧ ∀ d : Int, 0 ≤ d → d < up → Q (.int d) (c + 1)
abbrev m__law_take : MP := mTake
theorem fnok_cx {P : Program} {w : World} {K : PySem.W.Frag} {mg : Str → Option Value} {base : Heap} {CX' : CXT} {k : Nat} {f : Addr} {fd : FuncData} {ps : List Str} {sp : Sp} (F : FnOk P w K mg base CX0 k f fd ps sp) : FnOk P w K mg base CX' k f fd ps sp :=
  ⟨F.len, fun A outer s H args us vs Q E hr he hb hv hs => codeAny_mono (F.run A outer s H args us vs Q E hr he hb hv hs) fun r s' h => by
    cases r with
    | error e => exact h.elim
    | ok fl => cases fl <;> exact h⟩
theorem spTake_of {N : Cn} {vs : List V} {H : Hp} {Q : VK} {E : XK} (h : spP N 1 mTake vs H Q E) : spTake vs H Q E := by
  obtain ⟨a, us, O, ds, c, Qd, rfl, dm, oa, hp, r, hl, ⟨up, rfl, h1, h2, h3, q⟩, k⟩ := h
  cases r with
  | cons r rr =>
    cases r
    cases rr
    exact ⟨a, c, up, rfl, hp, h1, h2, h3, fun d H' d0 du hp' x => k _ H' _ _ (ExBT.of dm.2 hp x) hp' (.int d) (q d d0 du)⟩
theorem fc_take {P : Program} {w : World} {K : PySem.W.Frag} {mg : Str → Option Value} {base : Heap} {N : Cn} {f : Addr} {fd : FuncData} (hK : N.K = K) (F : FnP K "_law_take" sTake f fd) (mI : mg "int" = none) (hm : mg "_law_take" = some (.ref f)) (kp : PySem.W.keepIn K (.ref f) = true) (b : Binds K fd ["_law_pot_here", "_law_upto"] []) : FcP P w mg base N 1 "_law_take" 1 mTake :=
  ⟨f, fd, _, by rw [hK]; exact fnok_cx ((ok_take F mI).imp fun _ _ _ _ => spTake_of), hm, by rw [hK]; exact kp, by rw [hK]; exact b⟩
def colX : List FX → Env → (List Sl → Env → Prop) → XP → Prop
  | [], ρ, Q, _ => Q [] ρ
  | f :: l, ρ, Q, E => f ρ (fun s ρ1 => colX l ρ1 (fun ss ρ2 => Q (s :: ss) ρ2) E) E
def setsS : List Nat → List Sl → Env → Env
  | i :: is, s :: ss, ρ => setsS is ss (ρ.set i s)
  | _, _, ρ => ρ
def setsV : List Nat → List V → L2.St → L2.St
  | i :: is, v :: vs, σ => setsV is vs (σ.set i (some v))
  | _, _, σ => σ
def sParL (is : List Nat) (l : List FX) : FS := fun De ρ E => colX l ρ (fun ss ρ1 => ss.length = is.length ∧ De.nx (setsS is ss ρ1)) E
def Unlike (s : Sl) (v : V) (vs : List V) (ss : List Sl) : Prop := isOwn s = true → ∀ p ∈ vs.zip ss, isOwn p.2 = true → p.1 ≠ v
inductive SlsOk (N : Cn) (Z : Zd) (O : Addr → Prop) (H : Hp) (ρ : Env) (σ : L2.St) : List V → List Sl → Prop
  | nil : SlsOk N Z O H ρ σ [] []
  | cons {v : V} {s : Sl} {vs : List V} {ss : List Sl} : SlotOk N Z O H (some v) s → KS s → (isOwn s = true → Apart ρ σ v) → Unlike s v vs ss → SlsOk N Z O H ρ σ vs ss → SlsOk N Z O H ρ σ (v :: vs) (s :: ss)
theorem SlsOk.length {N : Cn} {Z : Zd} {O : Addr → Prop} {H : Hp} {ρ : Env} {σ : L2.St} : ∀ {vs : List V} {ss : List Sl}, SlsOk N Z O H ρ σ vs ss → vs.length = ss.length
  | _, _, .nil => rfl
  | _, _, .cons _ _ _ _ r => congrArg (· + 1) r.length
theorem SlsOk.smt {N : Cn} {Z : Zd} {O : Addr → Prop} {H H' : Hp} {ρ : Env} {σ : L2.St} (x : SmT N H H') : ∀ {vs : List V} {ss : List Sl}, SlsOk N Z O H ρ σ vs ss → SlsOk N Z O H' ρ σ vs ss
  | _, _, .nil => .nil
  | _, _, .cons a b c d r => .cons (a.smt x) b c d (SlsOk.smt x r)
theorem SlsOk.set {N : Cn} {Z : Zd} {O : Addr → Prop} {H : Hp} {ρ : Env} {σ : L2.St} {i : Nat} {s : Sl} {v : V} : ∀ {vs : List V} {ss : List Sl}, SlsOk N Z O H ρ σ vs ss → Unlike s v vs ss → SlsOk N Z O H (ρ.set i s) (σ.set i (some v)) vs ss
  | _, _, .nil, _ => .nil
  | _, _, .cons (v := w) (s := t) a b c d r, u => .cons a b (fun z => (c z).set fun zs b e1 e2 => u zs (w, t) (List.mem_cons_self ..) z (e1.trans e2.symm)) d (SlsOk.set r fun z p hp => u z p (List.mem_cons_of_mem _ hp))
theorem SlsOk.sim {N : Cd} {Z : Zd} {O : Addr → Prop} {H : Hp} : ∀ {is : List Nat} {vs : List V} {ss : List Sl} {ρ : Env} {σ : L2.St}, Sim N Z O ρ σ H → SlsOk N Z O H ρ σ vs ss → Sim N Z O (setsS is ss ρ) (setsV is vs σ) H
  | [], _, _, _, _, S, .nil => S
  | [], _, _, _, _, S, .cons _ _ _ _ _ => S
  | _ :: _, _, _, _, _, S, .nil => S
  | i :: is, _, _, _, _, S, .cons a b c d r => SlsOk.sim (is := is) (S.setS (i := i) a c) (r.set d)
theorem SlsOk.unframe {N : Cd} {Z : Zd} {O1 O : Addr → Prop} {H1 H : Hp} {ρ1 ρ : Env} {σ : L2.St} {p : Addr} (S1 : Sim N Z O1 ρ1 σ H1) (hp : ∃ o, H1 p = some o ∧ NT o) : ∀ {vs : List V} {ss : List Sl}, SlsOk N (Z.fr N H1 p) O H ρ σ vs ss → SlsOk N Z O H ρ σ vs ss ∧ ∀ q ∈ vs.zip ss, isOwn q.2 = true → q.1 ≠ .ref p
  | _, _, .nil => ⟨.nil, fun q h => nomatch h⟩
  | _, _, .cons (v := w) (s := t) a b c d r => by
    obtain ⟨r1, r2⟩ := SlsOk.unframe S1 hp r
    have key : SlotOk N Z O H (some w) t ∧ (isOwn t = true → w ≠ .ref p) := by
      rcases b with ⟨dd, rfl⟩ | ⟨es, rfl⟩ | ⟨es, rfl⟩ | ⟨b0, es, rfl⟩
      · exact ⟨a, fun z => nomatch z⟩
      · obtain ⟨x, us, e, ⟨m1, m2, m3⟩, hb, rb⟩ := a
        refine ⟨⟨x, us, e, ⟨m1, fun z => m2 (.inl z), fun o q t => Classical.byContradiction fun n => n ((m3 o (S1.keep _ o q t n) t).1 o q t)⟩, hb, rb⟩, fun _ ew => ?_⟩
        rw [ew] at e
        cases e
        exact m2 (.inr rfl)
      · obtain ⟨x, us, e, ⟨m1, m2, m3⟩, hb, rb⟩ := a
        refine ⟨⟨x, us, e, ⟨m1, fun z => m2 (.inl z), fun o q t => Classical.byContradiction fun n => n ((m3 o (S1.keep _ o q t n) t).1 o q t)⟩, hb, rb⟩, fun _ ew => ?_⟩
        rw [ew] at e
        cases e
        exact m2 (.inr rfl)
      · obtain ⟨e, ⟨m1, m3⟩, hb⟩ := a
        refine ⟨⟨e, ⟨m1, fun o q t => Classical.byContradiction fun n => n ((m3 o (S1.keep _ o q t n) t).1 o q t)⟩, hb⟩, fun _ ew => ?_⟩
        rw [ew] at e
        cases e
        obtain ⟨o, ho, no⟩ := hp
        exact (m3 o ho fun _ => no).2 rfl
    refine ⟨.cons key.1 b c d r1, fun q hq => ?_⟩
    rcases List.mem_cons.mp hq with rfl | hq
    · exact key.2
    · exact r2 q hq
section
variable {X : Cx} {N : Cd} {k : Nat} {tab : Tab}
theorem repB_lst {O : Addr → Prop} {H : Hp} {v : V} {xs : List D} (r : RepB N O H v (.lst xs)) : ∃ a vs, v = .ref a ∧ H a = some (.lst vs) ∧ Reps N O H vs xs := by
  cases r with
  | of r =>
    cases r with
    | lst n h r => exact ⟨_, _, rfl, h, r⟩
  | own o h r => exact ⟨_, _, rfl, h, r⟩
theorem rep_ins {O : Addr → Prop} {H : Hp} {v : V} {c : Nat} {ds : List D} (r : Rep N O H v (.ins c ds)) : ∃ a dx fs, v = .ref a ∧ H a = some (.ins (N.cl c) dx fs) := by
  cases r with
  | ins no h e r => exact ⟨_, _, _, rfl, h⟩
end
end Fd

namespace Wd
open PySem PySem.Spec PyProof.Rows L2
structure BinT (K : PySem.W.Frag) (C f : Addr) (nm : String) : Prop where
  sf : PySem.W.selfFirst K C = true
  at_ : PySem.W.findIn K (.ref C) (PySem.dunder nm) = some (some (.ref f))
  fn : PySem.W.isFn K (.ref f) = true
  rC : PySem.W.findIn K (.ref C) (PySem.dunderR nm) = some none
  i1 : ∃ fo ro, PySem.W.findIn K (.type "int") (PySem.dunder nm) = some fo ∧ PySem.W.findIn K (.type "int") (PySem.dunderR nm) = some ro ∧ ((fo.isSome && !isSeqSlot fo) || (ro.isSome && !isSeqSlot ro)) = true
  sub : PySem.W.subIn K (.type "int") (.ref C) = some false
end Wd
namespace Fd
open PySem PySem.Spec PyProof.Rows L2 Wd
structure BinIAll (N : Cn) (nm : String) (x : Str) (tab : Tab) : Prop where
  ex : ∀ c n m, look tab c = some (n, m) → ∀ f, Meth N.K (N.cl c) x f → BinT N.K (N.cl c) f nm
end Fd

namespace Wd
open PySem PySem.Spec PyProof.Rows L2
end Wd
namespace Fd
open PySem PySem.Spec PyProof.Rows L2 Wd
end Fd

namespace Wd
open PySem PySem.Spec PyProof.Rows L2
section
variable {P : Program} {w : World} {K : PySem.W.Frag} {mg mb : Str → Option Value} {CX : CXT} {k : Nat} {fa a : Addr} {fd : FuncData} {x : Str} {sp : Sp} {s : Shared} {vs : List Value} {ns : List Int}
def Script (K : PySem.W.Frag) (a : Addr) (ob : Obj) (H : Hp) : Prop := ∀ b u, H b = some u → b = a ∧ K.lookup a = none ∧ ∃ xs, u = .frz ob (.lst xs)
theorem script_seen (KX : K.In s.heap) (ha : s.heap.get? a = some { cls := .type "list", data := .seq vs.toArray }) (hi : IntsAre vs ns) (hl : ns.length ≤ sizeLine) :
    ∃ H : Hp, Script K a { cls := .type "list", data := .seq vs.toArray } H ∧ SqL K H a (ns.map V.int) ∧ HOk P w H s.heap := by
  have rel := vals_ints hi
  cases hk : K.lookup a with
  | some o =>
    have e := KX a o hk
    rw [ha] at e
    cases e
    refine ⟨fun _ => none, (fun b u z => nomatch z), .inr ⟨_, vs.toArray, _, hk, rfl, rfl, rfl, ?_, by simpa using rel⟩, (fun b u z => nomatch z)⟩
    rw [List.size_toArray, hi.length]
    exact hl
  | none =>
    refine ⟨fun b => if b = a then some (.frz { cls := .type "list", data := .seq vs.toArray } (.lst (ns.map V.int))) else none, fun b u z => ?_, .inl (.inr ⟨_, if_pos rfl⟩), fun b u z => ?_⟩
    · dsimp only at z
      by_cases e : b = a
      · rw [if_pos e] at z
        exact ⟨e, hk, _, (Option.some.inj z).symm⟩
      · rw [if_neg e] at z
        cases z
    · dsimp only at z
      by_cases e : b = a
      · rw [if_pos e] at z
        cases z
        subst e
        exact ⟨ha, by rw [List.length_map]; exact hl, vs, _, rel, ha⟩
      · rw [if_neg e] at z
        cases z
end
end Wd

namespace Fd
open PySem PySem.Spec PyProof.Rows L2 Wd
theorem dvB_ok {K : PySem.W.Frag} {v : Value} {d : D} {u : V} (h : dvB K v d = some u) : RelV u v ∧ ∀ (N : Cn) O H, N.K = K → Rep N O H u d := by
  unfold dvB at h
  split at h
  · split at h
    · cases h
      exact ⟨rfl, fun _ _ _ _ => .non⟩
    · cases h
  · split at h
    · split at h
      · rename_i e
        cases h
        subst e
        exact ⟨rfl, fun _ _ _ _ => .bl _⟩
      · cases h
    · cases h
  · split at h
    · split at h
      · rename_i e
        cases h
        subst e
        exact ⟨⟨_, rfl⟩, fun _ _ _ _ => .int _⟩
      · cases h
    · cases h
  · split at h
    · split at h
      · rename_i e
        cases h
        subst e
        exact ⟨⟨_, rfl⟩, fun _ _ _ _ => .str _⟩
      · cases h
    · cases h
  · split at h
    · split at h
      · rename_i e2
        split at h
        · rename_i e
          cases h
          obtain ⟨e3, e4⟩ := e
          subst e3
          have e5 := Array.eq_empty_of_size_eq_zero e4
          subst e5
          exact ⟨rfl, fun N O H hK => .tupK (vs := []) (by rw [hK]; exact ⟨_, _, _, e2, rfl, rfl, Nat.zero_le _, .nil⟩) (fun _ _ z => nomatch z) .nil⟩
        · cases h
      · cases h
    · cases h
  · cases h
theorem dvsB_ok {K : PySem.W.Frag} : ∀ {vs : List Value} {ds : List D} {us : List V}, dvsB K vs ds = some us → Vals us vs ∧ us.length = ds.length ∧ ∀ (N : Cn) O H, N.K = K → Reps N O H us ds
  | [], [], _, h => by
    cases h
    exact ⟨.nil, rfl, fun _ _ _ _ => .nil⟩
  | v :: vs, d :: ds, us, h => by
    unfold dvsB at h
    cases e : dvB K v d with
    | none =>
      rw [e] at h
      cases h
    | some u =>
      rw [e] at h
      cases e2 : dvsB K vs ds with
      | none =>
        rw [e2] at h
        cases h
      | some r =>
        rw [e2] at h
        cases h
        obtain ⟨h1, h2, h3⟩ := dvsB_ok e2
        obtain ⟨g1, g2⟩ := dvB_ok e
        exact ⟨.cons g1 h1, congrArg (· + 1) h2, fun N O H k => .cons (g2 N O H k) (h3 N O H k)⟩
  | [], _ :: _, _, h => by cases h
  | _ :: _, [], _, h => by cases h
theorem dfB_ok {K : PySem.W.Frag} {dV : Value} {dfl : List D} {us : List V} (h : dfB K dV dfl = some us) : DflV K dV us ∧ us.length = dfl.length ∧ ∀ (N : Cn) O H, N.K = K → Reps N O H us dfl := by
  unfold dfB at h
  split at h
  · split at h
    · cases h
      exact ⟨.inl ⟨rfl, rfl⟩, rfl, fun _ _ _ _ => .nil⟩
    · cases h
  · split at h
    · split at h
      · rename_i e
        obtain ⟨h1, h2, h3⟩ := dvsB_ok h
        have ne : us ≠ [] := fun z => by
          rw [z] at h2
          cases h2
        refine ⟨.inr ⟨ne, _, _, _, ?_, rfl, e, ?_, h1⟩, h2, h3⟩
        · exact ‹Nat›
        · rw [Array.toArray_toList]
      · cases h
    · cases h
theorem prB_ok {K : PySem.W.Frag} {c x : Str} (h : prB K c x = true) : PropOf K (He.ga K c) x (He.ma K (He.ga K c) x) (gAd K c x) := by
  obtain ⟨c1, h⟩ := He.ba h
  obtain ⟨c2, h⟩ := He.ba h
  obtain ⟨c3, c4⟩ := He.ba h
  refine ⟨He.eqO_ok c1, He.eqO_ok c2, of_decide_eq_true c3, ?_⟩
  unfold gAd
  cases e : PySem.W.recIn K (He.ma K (He.ga K c) x) "property" with
  | none =>
    rw [e] at c4
    cases c4
  | some l =>
    rw [e] at c4
    cases l with
    | nil => cases c4
    | cons v r =>
      cases v with
      | ref g => exact ⟨r, rfl⟩
      | _ => cases c4
structure Stands (K : PySem.W.Frag) (x qual : Str) (pa : Arguments) (bd : List Stmt) (sc : Scope) (dfl : List D) (f : Addr) (fd : FuncData) (dvs : List V) : Prop where
  fn : FunD K x qual pa bd sc dvs [] f fd
  len : dvs.length = dfl.length
  rep : ∀ (N : Cn) O H, N.K = K → Reps N O H dvs dfl
theorem Dx.stands {K : PySem.W.Frag} {d : Dx} (e : fnA K (d.ad K) = d.val) (c : d.ok K = true) : ∃ fd dvs, Stands K d.name d.qual d.params d.body d.scope d.dfl (d.ad K) fd dvs := by
  obtain ⟨kp, c⟩ := He.ba c
  obtain ⟨c, _⟩ := He.ba c
  generalize d.ad K = a at e kp c ⊢
  unfold fnA at e
  cases q : K.lookup a with
  | none =>
    rw [q] at c
    cases c
  | some o =>
    obtain ⟨oc, od, dt, osl⟩ := o
    rw [q] at c e
    cases dt with
    | func fd =>
      obtain ⟨n1, n2, n3, n4, n5, n6, n7, n8, n9, n10, n11, n12, n13, n14, n15⟩ := fd
      have e2 : (some (n1, n2, n3, n4, n5, n6, n7, n15) : He.FnW) = some (d.name, d.qual, d.params, .stmts d.body, d.scope, mainGlobals, [], builtinsNs) := e
      simp only [Option.some.injEq, Prod.mk.injEq] at e2
      obtain ⟨h1, h2, h3, h4, h5, h6, h7, h8⟩ := e2
      subst h1 h2 h3 h4 h5 h6 h7 h8
      obtain ⟨k1, k2⟩ := He.ba (show (PySem.W.codeIn K n13 d.qual && (dfB K n8 d.dfl).isSome) = true from c)
      obtain ⟨us, eu⟩ := Option.isSome_iff_exists.mp k2
      obtain ⟨g1, g2, g3⟩ := dfB_ok eu
      exact ⟨_, us, ⟨⟨oc, od, n8, n9, n10, n11, n12, n13, n14, osl, rfl, q, k1, g1, .inl rfl⟩, kp⟩, g2, g3⟩
    | _ => cases c
theorem Dx.prop_ {K : PySem.W.Frag} {d : Dx} {x : Str} (hc : d.cls = some x) (hp : d.prop = true) (c : d.ok K = true) : PropOf K (He.ga K x) d.name (He.ma K (He.ga K x) d.name) (gAd K x d.name) := by
  obtain ⟨_, c⟩ := He.ba c
  obtain ⟨_, c⟩ := He.ba c
  rw [hc, hp] at c
  exact prB_ok c
section
variable {K : PySem.W.Frag} {x qual : Str} {pa : Arguments} {bd : List Stmt} {sc : Scope} {dfl : List D} {f : Addr} {fd : FuncData} {dvs : List V} {ps : List Str} {N : Cn}
theorem Stands.nil (S : Stands K x qual pa bd sc [] f fd dvs) : FunD K x qual pa bd sc [] [] f fd := by
  have e : dvs = [] := List.eq_nil_of_length_eq_zero S.len
  have F := S.fn
  rw [e] at F
  exact F
theorem Stands.dfl0 (S : Stands K x qual pa bd sc [] f fd dvs) (hK : N.K = K) (h : ∀ (kV doc pm : Value) (an : Option Addr) (cdv ct : Value) (us : List Value), us.length = ps.length → bindArgs (PySem.W.fnOf x qual pa bd sc .none kV doc pm an cdv ct) ⟨us, []⟩ = pure (ps.zip us)) : ∀ dd ∈ [([] : List D)], Dfl N fd ps dd := fun dd hd => by
  cases List.mem_singleton.mp hd
  exact ⟨[], [], by rw [hK]; exact S.nil.bindsN h, .nil, fun _ _ => .nil⟩
theorem Stands.dfl1 (S : Stands K x qual pa bd sc dfl f fd dvs) (hK : N.K = K) (n j m : Nat) (hm : dfl.length = m) (h0 : 0 < m) (hn : n + (m - j) = ps.length)
    (h : ∀ (T : Addr) (kV doc pm : Value) (an : Option Addr) (cdv ct : Value) (us its : List Value), us.length = n → its.length = m →
      ∃ k, bindArgs (PySem.W.fnOf x qual pa bd sc (.ref T) kV doc pm an cdv ct) ⟨us, []⟩ = seqItems? (.ref T) >>= k ∧ k (some its.toArray) = pure (ps.zip (us ++ its.drop j))) : Dfl N fd ps (dfl.drop j) := by
  have hl : dvs.length = m := S.len.trans hm
  obtain ⟨ds, v, b⟩ := S.fn.binds1 (ps := ps) n j (fun z => by rw [z] at hl; rw [← hl] at h0; exact absurd h0 (by decide)) (by rw [hl]; exact hn) fun T kV doc pm an cdv ct us its hu hi => h T kV doc pm an cdv ct us its hu (hi.trans hl)
  exact ⟨dvs.drop j, ds, by rw [hK]; exact b, v, fun O H => (S.rep N O H hK).drop j⟩
end
structure ClOk (K : PySem.W.Frag) (cs : List Str) (N : Cn) : Prop where
  b : clB K cs = true
  k : N.K = K
  cl : ∀ c, N.cl c = He.ga K (cs.getD c "")
section
variable {K : PySem.W.Frag} {cs : List Str} {N : Cn}
theorem ClOk.cfs (h : ClOk K cs N) (hc : ∀ c, c < cs.length → Cls K (N.cl c)) : Cfs N cs.length := by
  obtain ⟨c1, z⟩ := He.ba h.b
  obtain ⟨c2, z⟩ := He.ba z
  have z' := fun c (hc : c < cs.length) => List.all_eq_true.mp z c (List.mem_range.mpr hc)
  obtain ⟨K', cl', sch'⟩ := N
  have hk : K' = K := h.k
  have hcl : cl' = fun c => He.ga K (cs.getD c "") := funext h.cl
  subst hk hcl
  refine ⟨hc, fun c hc => ?_, He.eqO_ok c1, of_decide_eq_true c2, fun c hc => ?_, fun c hc T hT => ?_, fun c hc d hd => ?_, fun c hc T hT => ?_, fun c hc T hT => ?_, fun c hc d hd => ?_⟩
  all_goals
    obtain ⟨a1, y⟩ := He.ba (z' c hc)
    obtain ⟨a2, y⟩ := He.ba y
    obtain ⟨a3, y⟩ := He.ba y
    obtain ⟨a4, y⟩ := He.ba y
  · exact He.eqO_ok a1
  · exact of_decide_eq_true a2
  · exact of_decide_eq_true (He.ba (List.all_eq_true.mp a3 T hT)).1
  · exact of_decide_eq_true (He.ba (List.all_eq_true.mp a4 d (List.mem_range.mpr hd))).1
  · exact of_decide_eq_true (He.ba (He.ba (List.all_eq_true.mp a3 T hT)).2).1
  · exact (He.ba (He.ba (List.all_eq_true.mp a3 T hT)).2).2
  · exact (He.ba (List.all_eq_true.mp a4 d (List.mem_range.mpr hd))).2
theorem ClOk.sf (h : ClOk K cs N) {c : Nat} (hc : c < cs.length) : PySem.W.selfFirst N.K (N.cl c) = true := by
  obtain ⟨c1, z⟩ := He.ba h.b
  obtain ⟨c2, z⟩ := He.ba z
  obtain ⟨a1, y⟩ := He.ba (List.all_eq_true.mp z c (List.mem_range.mpr hc))
  obtain ⟨a2, y⟩ := He.ba y
  obtain ⟨a3, y⟩ := He.ba y
  obtain ⟨a4, y⟩ := He.ba y
  rw [h.cl, h.k]
  exact (He.ba y).1
theorem ClOk.ne (h : ClOk K cs N) {c : Nat} (hc : c < cs.length) : NeF N.K (N.cl c) := by
  obtain ⟨c1, z⟩ := He.ba h.b
  obtain ⟨c2, z⟩ := He.ba z
  obtain ⟨a1, y⟩ := He.ba (List.all_eq_true.mp z c (List.mem_range.mpr hc))
  obtain ⟨a2, y⟩ := He.ba y
  obtain ⟨a3, y⟩ := He.ba y
  obtain ⟨a4, y⟩ := He.ba y
  rw [h.cl, h.k]
  exact ⟨He.eqO_ok (He.ba y).2, of_decide_eq_true a2⟩
end
section
variable {fa : List He.Fa} {ds : List Dx} {cs : List Str} {tw : List (Str × Str × String)} {K : PySem.W.Frag}
theorem SaysX.fact (c : SaysX fa ds cs tw K) (i : Nat) {f : He.Fa} (h : fa[i]? = some f := by rfl) : f.ok K = true :=
  List.all_eq_true.mp (He.ba (show ((fa.all fun f => f.ok K) && ((ds.all fun d => d.ok K) && (clB K cs && tw.all fun t => twC K t))) = true from congrArg (fun z : AlX => z.1) c)).1 f (List.mem_of_getElem? h)
theorem SaysX.rest (c : SaysX fa ds cs tw K) : (ds.all fun d => d.ok K) = true ∧ clB K cs = true ∧ (tw.all fun t => twC K t) = true := by
  obtain ⟨_, z⟩ := He.ba (show ((fa.all fun f => f.ok K) && ((ds.all fun d => d.ok K) && (clB K cs && tw.all fun t => twC K t))) = true from congrArg (fun z : AlX => z.1) c)
  obtain ⟨a, z⟩ := He.ba z
  exact ⟨a, He.ba z⟩
theorem SaysX.def_ (c : SaysX fa ds cs tw K) (i : Nat) {d : Dx} (h : ds[i]? = some d := by rfl) : ∃ fd dvs, Stands K d.name d.qual d.params d.body d.scope d.dfl (d.ad K) fd dvs := by
  have e : ds.map (fun d => fnA K (d.ad K)) = ds.map Dx.val := congrArg (fun z : AlX => z.2) c
  have e2 : (ds.map fun d => fnA K (d.ad K))[i]? = (ds.map Dx.val)[i]? := by rw [e]
  rw [List.getElem?_map, List.getElem?_map, h] at e2
  exact Dx.stands (Option.some.inj e2) (List.all_eq_true.mp c.rest.1 d (List.mem_of_getElem? h))
theorem SaysX.prop_ (c : SaysX fa ds cs tw K) (i : Nat) {d : Dx} {x : Str} (h : ds[i]? = some d := by rfl) (hc : d.cls = some x := by rfl) (hp : d.prop = true := by rfl) : PropOf K (He.ga K x) d.name (He.ma K (He.ga K x) d.name) (gAd K x d.name) :=
  Dx.prop_ hc hp (List.all_eq_true.mp c.rest.1 d (List.mem_of_getElem? h))
theorem SaysX.two (c : SaysX fa ds cs tw K) {a b : Str} {nm : String} (h : (a, b, nm) ∈ tw) (hb : b ≠ "int") (hb2 : b ≠ "()" := by decide) (hb3 : slotI b = none := by decide +kernel) (hb4 : b ≠ "kwF" := by decide) (hb5 : b ≠ "kwTF" := by decide) (hb6 : b ≠ "kwTM" := by decide) : twB K (He.ga K a) (He.ga K b) nm = true := by
  have z : twC K (a, b, nm) = true := List.all_eq_true.mp c.rest.2.2 _ h
  unfold twC at z
  rw [if_neg hb, if_neg hb2, if_neg hb4, if_neg hb5, if_neg hb6] at z
  have z : (match slotI b with
    | some i => slB K (He.ga K a) (Str.ofString nm) i
    | none => twB K (He.ga K a) (He.ga K b) nm) = true := z
  rw [hb3] at z
  exact z
theorem SaysX.slot (c : SaysX fa ds cs tw K) {a b : Str} {nm : String} {i : Nat} (h : (a, b, nm) ∈ tw) (hi : slotI b = some i) (hb : b ≠ "int" := by decide) (hb2 : b ≠ "()" := by decide) (hb4 : b ≠ "kwF" := by decide) (hb5 : b ≠ "kwTF" := by decide) (hb6 : b ≠ "kwTM" := by decide) : slB K (He.ga K a) (Str.ofString nm) i = true := by
  have z : twC K (a, b, nm) = true := List.all_eq_true.mp c.rest.2.2 _ h
  unfold twC at z
  rw [if_neg hb, if_neg hb2, if_neg hb4, if_neg hb5, if_neg hb6] at z
  have z : (match slotI b with
    | some i => slB K (He.ga K a) (Str.ofString nm) i
    | none => twB K (He.ga K a) (He.ga K b) nm) = true := z
  rw [hi] at z
  exact z
theorem SaysX.tn (c : SaysX fa ds cs tw K) {a : Str} {nm : String} (h : ((a, ("()" : Str), nm) : Str × Str × String) ∈ tw) : tnB K a = true := by
  have z : twC K ((a, ("()" : Str), nm) : Str × Str × String) = true := List.all_eq_true.mp c.rest.2.2 _ h
  unfold twC at z
  rw [if_neg (show ¬ (("()" : Str) = "int") by decide), if_pos rfl] at z
  exact z
end
theorem yes_go {te : TE} {σ : L2.St} {H : Hp} {N : V → Hp → Prop} {M : Hp → Prop} (h : te σ H N) : tYes σ H fun b H3 => if b = true then te σ H3 N else M H3 := by
  show if true = true then te σ H N else M H
  rw [if_pos rfl]
  exact h
theorem sqL_smt {N : Cn} {l : Addr} {H H1 : Hp} {xs : List V} (t : LamX.Tabs N.tb H) (x : SmT N H H1) (h : SqL N.K H l xs) : SqL N.K H1 l xs := by
  rcases h with (h | ⟨o, h⟩) | h
  · exact .inl (.inl (x.st _ _ h fun _ => nofun))
  · exact .inl (.inr ⟨o, x.st _ _ h fun _ => nofun⟩)
  · exact .inr h
def spLaw (N : Cn) : Sp := fun vs H Q _ => ∃ (a : Addr) (ns : List Int), vs = [.ref a] ∧ SqL N.K H a (ns.map V.int) ∧ LamX.Tabs N.tb H ∧ ∀ H', Q (.bl true) H'
def spRight (N : Cn) : Sp := fun vs H Q _ => ∃ a n, vs = [.ref a] ∧ Pot H a n ∧ n < 1000 ∧ LamX.Tabs N.tb H ∧ ∀ H', ExBT N a H H' → Q (.bl true) H'
def Right (m : MP) : Prop := ∀ c, c < 1000 → m [] c (fun d _ => d = .bl true) fun _ _ => False
theorem right_of {N : Cn} {m : MP} (h : Right m) {vs : List V} {H : Hp} {Q : VK} {E : XK} (q : spRight N vs H Q E) : spP N 0 m vs H Q E := by
  obtain ⟨a, n, rfl, hp, hn, tb, k⟩ := q
  refine ⟨a, [], fun b => b = a, [], n, _, rfl, ⟨fun b e => ?_, tb⟩, rfl, hp, .nil, rfl, h n hn, fun v H' d c' x _ r e => ?_⟩
  · subst e
    obtain ⟨o, b, c, h1, _⟩ := hp
    exact ⟨_, h1, nofun⟩
  · subst e
    cases r
    exact k H' x
theorem FnG.imp {P : Program} {w : World} {K : PySem.W.Frag} {mg : Str → Option Value} {base : Heap} {CX : CXT} {k : Nat} {f : Addr} {fd : FuncData} {ps : List Str} {sp sp' : Sp} (F : FnG P w K mg base CX k f fd ps sp)
    (h : ∀ vs H Q E, sp' vs H Q E → sp vs H Q E) : FnG P w K mg base CX k f fd ps sp' :=
  ⟨fun vs H Q E q => F.len vs H Q E (h _ _ _ _ q), fun A ga outer s H args us vs Q E hr he hb hv hs => F.run A ga outer s H args us vs Q E hr he hb hv (h _ _ _ _ hs)⟩
theorem FnG.of {P : Program} {w : World} {K : PySem.W.Frag} {mg : Str → Option Value} {base : Heap} {CX : CXT} {k : Nat} {f : Addr} {fd : FuncData} {ps : List Str} {sp : Sp} (F : FnOk P w K mg base CX k f fd ps sp) : FnG P w K mg base CX k f fd ps sp :=
  ⟨F.len, fun A _ => F.run A⟩
theorem fng_0 {P : Program} {w : World} {K : PySem.W.Frag} {mg : Str → Option Value} {base : Heap} {k : Nat} {f : Addr} {fd : FuncData} {ps : List Str} {N : Cn} {n : Nat} {m : MP} (F : FnG P w K mg base (CX P w) k f fd ps (spP N n m)) : FnG P w K mg base CX0 k f fd ps (spP N n m) :=
  ⟨F.len, fun A ga outer s H args us vs Q E hr he hb hv hs => codeAny_mono (F.run A ga outer s H args us vs Q (fun _ _ _ => False) hr he hb hv hs) fun r s' h => by
    cases r with
    | error e =>
      obtain ⟨_, _, _, _, _, _, _, _, _, _, _, _, z⟩ := h
      exact z.elim
    | ok fl => cases fl <;> exact h⟩
abbrev nmLaw : List Str := ["_law_script", "_law_number"]
theorem scLaw : FnScope nmLaw ["_law_script"] (defScope sLaw) := ⟨rfl, rfl, rfl, by decide +kernel, rfl, by decide +kernel, by decide +kernel⟩
def tCallG (sp : Sp) (t : TA) : TE := fun σ H Q => t σ H fun vs H1 => sp vs H1 Q fun _ _ _ => False
section
variable {P : Program} {w : World} {K : PySem.W.Frag} {mg : Str → Option Value} {base : Heap} {f f1 f2 : Addr} {fd fd1 fd2 : FuncData} {k : Nat}
theorem ok_law {N : Cn} (hK : N.K = K) (F : FnP K "law" sLaw f fd) (B : Bf mg) (ok1 : FnG P w K mg base CX0 (k + 1) f1 fd1 ["_law_pot_here"] (spRight N)) (hm1 : mg "_law_right" = some (.ref f1)) (kp1 : PySem.W.keepIn K (.ref f1) = true) (b1 : Binds K fd1 ["_law_pot_here"] [])
    (ok2 : FnOk P w K mg base CX0 1 f2 fd2 ["_law_script", "_law_number"] (spPot K)) (hm2 : mg "_law_pot" = some (.ref f2)) (kp2 : PySem.W.keepIn K (.ref f2) = true) (b2 : Binds K fd2 ["_law_script", "_law_number"] []) : FnG P w K mg base CX0 (k + 1 + 1) f fd ["_law_script"] (spLaw N) := by
  subst hK
  refine fng_of F scLaw (fun vs H Q E h => ?_) (fun cdv A outer s H vs Q E ga hr h => ?_)
  · obtain ⟨a, ns, rfl, _⟩ := h
    rfl
  · obtain ⟨a, ns, rfl, hs, tb, kk⟩ := h
    have h1 := hr.mono (show 1 ≤ k + 1 by omega)
    refine ⟨_, PSs.nox (pss_one (ps_ret (pe_callB (cr_all rfl) (by rfl) B.all boot_all (pa_cons (pe_lc (own := [("_law_number", 1)]) (g := gName 1) (tt := tYes) (te := tCallG (spRight N) (tCons (tCall (spPot N.K) [] E0 (tCons (tVar 0) (tCons (tVar 1) tNil))) tNil)) rfl scLaw.nd
      (pi_range1 (by rfl) B.range (pa_cons (pe_callB (call_max2 rfl) (by rfl) B.max boot_max (pa_cons pe_int (pa_cons (pe_callB (call_min2 rfl) (by rfl) B.min boot_min (pa_cons pe_int (pa_cons (pe_callB call_len_seq (by rfl) B.len PySem.boot_len (pa_cons (pv 0) pa_nil)) pa_nil))) pa_nil))) pa_nil)) (blkOk_by (N := nmLaw) (sc := defScope sLaw) (by decide +kernel))
      (fun _ _ _ _ _ => pg_name (i := 1) scLaw.nd rfl (Or.inl rfl)) (fun _ _ _ _ _ => pts_nil) (fun _ _ _ _ _ => pe_callG ga ok1 hr (by rfl) hm1 kp1 b1 pass0 (pa_cons (pe_call ok2 h1 (by rfl) hm2 kp2 b2 .nil pass0 (pa_cons (pv 0) (pa_cons (pv 1) pa_nil))) pa_nil))) pa_nil)))), ?_⟩
    refine ⟨_, rfl, a, _, rfl, .inl hs, _, _, rfl, _, _, rfl, ?_⟩
    generalize hm : (if (if (((ns.map V.int).length : Nat) : Int) < 3 then (((ns.map V.int).length : Nat) : Int) else 3) > 1 then (if (((ns.map V.int).length : Nat) : Int) < 3 then (((ns.map V.int).length : Nat) : Int) else 3) else 1) = n
    have hn : 1 ≤ n ∧ n ≤ 4 := by
      rw [← hm]
      constructor
      · split
        · omega
        · omega
      · split
        · split <;> omega
        · omega
    refine ⟨n, rfl, by omega, by omega, fun D hD => ?_⟩
    refine lc_it (n := n.toNat) walk_r0 (fun i H' => SmT N H H' ∧ H' D = some (.lst ((List.range i).map fun _ => V.bl true))) ⟨SmT.same tb (Wd.Same.new hD), upd_same⟩ (fun _ _ _ _ => trivial) ?_ ?_
    · rintro i x Ha Hb hi ⟨sm, hys⟩ ⟨rfl, rfl⟩
      refine ⟨rfl, yes_go ?_⟩
      refine ⟨_, rfl, _, rfl, a, ns, i, rfl, sqL_smt tb sm hs, by omega, fun p H1 hp s1 pot => ?_⟩
      refine ⟨p, 0, rfl, pot, by decide, sm.tb.ext s1, fun H2 x2 => ?_⟩
      have h2 : H2 D = some (.lst ((List.range i).map fun _ => V.bl true)) := x2.st D _ (ne_of_none hys hp) (s1 D _ hys) fun _ => nofun
      refine ⟨_, h2, ?_, ⟨fun b o e nt => ?_, tabs_but x2.tb (fun b o n e => by rw [upd_ne n]; exact e) (fun ps z => by rw [h2] at z; cases z) (fun φ z => by rw [h2] at z; cases z)⟩, ?_⟩
      · rw [List.length_map, List.length_range]
        have h3 : (1000000 : Nat) ≤ sizeLine := by decide
        omega
      · rw [upd_ne (ne_of_none e hD)]
        have e1 := sm.st b o e nt
        exact x2.st b o (ne_of_none e1 hp) (s1 b o e1) nt
      · rw [upd_same, List.range_succ, List.map_append]
        rfl
    · rintro H1 ⟨s1, hd1⟩
      have hd3 : H1 D = some (.lst (((List.range n.toNat).map fun _ => true).map V.bl)) := by
        rw [hd1, List.map_map]
        rfl
      refine ⟨D, _, rfl, SqL.of hd3, ?_⟩
      have e : ((List.range n.toNat).map fun _ => true).all id = true := by simp
      rw [e]
      exact kk H1
end
section
variable {K : PySem.W.Frag} {cs : List Str} {N : Cn} {nm : String} {x : Str} {tab : Tab} {prs : List (Nat × Nat)} {C : Addr} {l : List Str} {mg : Str → Option Value}
theorem obs_of {fa : List He.Fa} {ds : List Dx} {tw : List (Str × Str × String)} (h1 : (fa.all fun f => f.ok K) = true) (h2 : (ds.all fun d => d.ok K) = true) (h3 : (clB K cs && tw.all fun t => twC K t) = true) (h4 : (ds.map fun d => fnA K (d.ad K)) = ds.map Dx.val) : obsX fa ds cs tw K = valX ds := by
  unfold obsX valX
  rw [h1, h2, h3, h4]
  rfl
theorem map_at {α β : Type} {o : Option α} {s : α} {f : α → β} {b : β} (h : o = some s) (e : o.map f = some b) : f s = b := by
  rw [h] at e
  exact Option.some.inj e
theorem nos_nil : ∀ y ∈ ([] : List Str), NoAttr K C y := fun _ z => nomatch z
theorem nos_cons (h : NoAttr K C x) (r : ∀ y ∈ l, NoAttr K C y) : ∀ y ∈ x :: l, NoAttr K C y := fun y hy => (List.mem_cons.mp hy).elim (fun e => e ▸ h) (r y)
theorem ck_int {i : Int} (h : ∃ t, mg x = some (.int i t)) : Ck mg x (.int i) := by
  obtain ⟨t, h⟩ := h
  exact ⟨_, h, t, rfl⟩
theorem ck_str {z : Str} (h : ∃ t, mg x = some (.str z t)) : Ck mg x (.str z) := by
  obtain ⟨t, h⟩ := h
  exact ⟨_, h, t, rfl⟩
end
end Fd

namespace Wd
open PySem PySem.Spec PyProof.Rows L2
section
open PySem.W PySem.Calls
variable {prog : Program} {w : World} {M : Model} {A : Around} {E : Value → Shared → Prop} {h : Heap} {g : Array GenState} {d : Drawn} {t : Nat} {os : OsState}
variable {nm q : Str} {C N : Addr} {bs bm : List Value} {hdct : Bool} {sn : List Str} {sub : List Value} {ab : Bool} {col : Option Bool} {dd : Option Addr} {k0 k1 k2 k3 k5 : Option Value}
theorem call_mwV {u e t0 : Addr} {rest : List Value} {Q : Value → Shared → Prop}
    (hC : h.get? C = some (excClassObj nm q C N bs bm hdct sn sub ab col dd k0 k1 k2 k3 k5 "ValueError.__new__")) (he : h.get? e = some (PySem.HandSPX.excO C t0)) (hu : h.get? u = some (kxs_mw "ValueError.__init__" e)) (hrest : rest.length ≤ sizeLine)
    (hq : ∀ h' t1, (∀ b o, b ≠ e → h.get? b = some o → h'.get? b = some o) → h'.get? e = some (PySem.HandSPX.excO C t1) → Q .none ⟨h', g, d, t, os⟩) :
    wpAny (model prog w) A (call (.ref u) rest) Q E ⟨h, g, d, t, os⟩ := by
  refine wpAny_call (codeAny_of_tree ?_)
  show wpAny _ A.in1 (callAny (.ref u) ⟨rest, []⟩) _ _ _
  simp only [callAny]
  refine wpAny_bind (wpAny_load hu ?_)
  simp only [kxs_mw, show (Value.type "method-wrapper" == Value.type "method" || Value.type "method-wrapper" == Value.type "builtin_function_or_method" || Value.type "method-wrapper" == Value.type "method-wrapper") = true by decide, if_true]
  refine KFB.if_so (by decide) ?_
  refine wpAny_bind (PySem.ESX.check_bound F.excBase_ValueError hC he rfl ?_)
  refine wpAny_bind (wpAny_pure (wpAny_pure ?_))
  refine ⟨Code.quiet_builtin _ (by decide +kernel), codeAny_builtin F.excBase_ValueError.initEntry ?_⟩
  rw [Around.under_plainId F.excBase_ValueError.init.plain _]
  wp_walk
  refine hq _ h.objs.size (fun b o hb ho => ?_) ?_
  · rw [Heap.get?_update_other _ _ (Ne.symm hb)]
    exact Heap.get?_push_of_some _ ho
  · rw [Heap.get?_update_self _ (Heap.get?_push_of_some _ he) rfl]
    rfl
end
structure WeF (P : Program) (K : PySem.W.Frag) (mg : Str → Option Value) (params : Arguments) (body : List Stmt) (scope : Scope) (D f : Addr) (fd : FuncData) : Prop where
  ex : ∃ (oc : Value) (od : Option Addr) (dV kV doc pm : Value) (an : Option Addr) (cda : Addr) (ct : Value) (osl : Array (Option Value)) (cc : Addr), fd = PySem.W.ksFn "__init__" "WireError.__init__" params body scope dV kV doc pm an (.ref cda) ct cc ∧ K.lookup f = some ⟨oc, od, .func fd, osl⟩ ∧ PySem.W.codeIn K (.ref cda) "WireError.__init__" = true ∧
    (∃ (ccl : Value) (cdd : Option Addr) (vs : Array Value) (ccs : Array (Option Value)) (file : Str) (tf : Tok), K.lookup cda = some ⟨ccl, cdd, .fields vs, ccs⟩ ∧ vs[2]? = some (.str file tf) ∧ ((P.main.file : Str) == file) = true) ∧
    ∃ (cl : Value) (cld : Option Addr) (csl : Array (Option Value)), K.lookup cc = some ⟨cl, cld, .cell (some (.ref D)), csl⟩
  nod : fd.defaults = .none
  clsD : ∃ cd, PySem.W.clsIn K D = some cd
  opq : PySem.W.nsIn K cStatics "thirdparty.any" = some none
  sup : mg "super" = none
  top : (P.main.scope.names.lookup ("super" : Str)).isSome = false
structure WeC (K : PySem.W.Frag) (D C : Addr) : Prop where
  oex : OexC K C
  sub : PySem.W.mroIn K C (.ref D) = some true
  ini : PySem.W.ks_superIn K C D "__init__" = some (some (.builtin "ValueError.__init__"))
  val : PySem.W.findIn K (.ref C) "value" = some none
  ve : PySem.W.subIn K (.ref C) (.type "ValueError") = some true
def SysK (K : PySem.W.Frag) : Prop := ∃ o, K.lookup sysModules = some o ∧ o.cls = .type "dict"
def spWE (K : PySem.W.Frag) (D : Addr) : Sp := fun vs H Q _ => ∃ (a C : Addr) (v : V), vs = [.ref a, v] ∧ WeC K D C ∧ H a = some (exo a C none) ∧ ∀ dx, H dx = none → dx ≠ a → Q .non (upd (upd H dx (exd dx [("value", v)])) a (exo a C (some dx)))
def weCx (P : Program) (w : World) (K : PySem.W.Frag) (mg : Str → Option Value) (base : Heap) (A : Around) (outer : List PySem.Env) (s : Shared) (H : Hp) (E : XK) (scope : Scope) (f : Addr) (cd : Value) (cc : Addr) : Cx where
  prog := P
  w := w
  K := K
  mg := mg
  base := base
  A := A.deeper (PySem.W.ksEnv "WireError.__init__" scope s.heap.objs.size f cd cc)
  N := ["self", "value"]
  s_0 := s
  H_0 := H
  env := PySem.W.ksEnv "WireError.__init__" scope s.heap.objs.size f cd cc
  outer := outer
  stack := PySem.W.ksEnv "WireError.__init__" scope s.heap.objs.size f cd cc :: outer
  ex := []
  fn := fun _ => false
  calm := true
  pn := []
  xe := fun e s' => wpAny (model P w) (A.deeper (PySem.W.ksEnv "WireError.__init__" scope s.heap.objs.size f cd cc)) (leaving (PySem.W.ksEnv "WireError.__init__" scope s.heap.objs.size f cd cc) e) (fun _ s'' => L2.CX P w outer H s E e s'') (fun e' s'' => L2.CX P w outer H s E e' s'') s'
theorem lookup_one {c cc : Addr} {x : Str} (e : ([("__class__", cc)] : List (Str × Addr)).lookup x = some c) : x = "__class__" ∧ c = cc := by
  rw [List.lookup_cons] at e
  split at e
  · rename_i h
    exact ⟨by simpa using h, (Option.some.inj e).symm⟩
  · cases e
section
variable {P : Program} {w : World} {K : PySem.W.Frag} {mg : Str → Option Value} {base : Heap} {D f : Addr} {fd : FuncData}
theorem ok_we (F : WeF P K mg (defArgs s_we) (defBody s_we) (defScope s_we) D f fd) : FnOk P w K mg base (CX P w) 1 f fd ["self", "value"] (spWE K D) := by
  obtain ⟨ar, har, har2⟩ : ∃ ar, ((defArgs s_we).posonlyargs ++ (defArgs s_we).args).head? = some ar ∧ ar.arg = "self" := we_head
  have hk : (defScope s_we).kind = .function := rfl
  have n1 : (defScope s_we).names.lookup ("self" : Str) = some .local := by decide +kernel
  have n2 : (defScope s_we).names.lookup ("value" : Str) = some .local := by decide +kernel
  have n3 : (defScope s_we).names.lookup ("super" : Str) = some .globalImplicit := by decide +kernel
  have n4 : (defScope s_we).names.lookup ("__class__" : Str) = some .free := by decide +kernel
  have n5 : ∀ y ∈ (defScope s_we).names, y.2 ≠ .cell := by decide +kernel
  have n6 : ∀ y, (defScope s_we).names.lookup y = some .free → y = "__class__" := fun y h => by
    have q : ∀ z ∈ (defScope s_we).names, z.2 = .free → z.1 = ("__class__" : Str) := by decide +kernel
    exact q _ (PySem.mem_of_lookup h) rfl
  obtain ⟨oc, od, dV, kV, doc, pm, an, cda, ct, osl, cc, rfl, lk, hcd, ⟨ccl, cdd, fvs, ccs, file, tf, lc, hvs, hfile⟩, cl, cld, csl, lcc⟩ := F.ex
  obtain ⟨cdD, hD⟩ := F.clsD
  refine ⟨fun vs H Q E h => ?_, fun A outer s H args us vs Q E hr e0 hb r hsp => ?_⟩
  · obtain ⟨a, C, v, rfl, _⟩ := h
    rfl
  obtain ⟨a, C, v, rfl, T, ha, hq⟩ := hsp
  have KX : K.In s.heap := e0.mod.kin.keeps fun b o e => (e0.bs b o e).1
  have lim : s.heap.NoLimit := e0.mod.nolimit.keeps fun b o e => (e0.bs b o e).1
  cases r with
  | @cons _ ua _ ur ra rr =>
  cases rr with
  | @cons _ uv _ ur rv rr =>
  cases rr
  obtain rfl : ua = Value.ref a := ra
  refine PySem.ks_codeAny_call_defAt (fd := PySem.W.ksFn "__init__" "WireError.__init__" (defArgs s_we) (defBody s_we) (defScope s_we) dV kV doc pm an (.ref cda) ct cc) (body := defBody s_we) hr.depth (KX _ _ lk) rfl lim (PySem.W.codeRec_of KX hcd) rfl hb n5 (fun y hy => ?_) (fun h₁ hns kp => ?_) rfl rfl hk
  · rcases List.mem_cons.mp hy with e | hy
    · rw [e]
      exact n1
    · rcases List.mem_cons.mp hy with e | hy
      · rw [e]
        exact n2
      · cases hy
  have kcc : base.get? cc = some ⟨cl, cld, .cell (some (.ref D)), csl⟩ := e0.mod.kin _ _ lcc
  have noA : ∀ b : Addr, b ∉ (weCx P w K mg base A outer s H E (defScope s_we) f (.ref cda) cc).ex := fun b z => absurd (show b ∈ ([] : List Addr) from z) (by simp)
  have I : L2.Inv (weCx P w K mg base A outer s H E (defScope s_we) f (.ref cda) cc) [] [some (.ref a), some v] H { s with heap := h₁, toks := s.toks + 2 } := by
    refine ⟨⟨e0.mod, hk, rfl, rfl, Nat.le_refl _, fun x y c e1 e2 => (lookup_one e1).1.trans (lookup_one e2).1.symm, fun y hy => ?_, fun y c z _ => ?_, fun _ => hr.hd, Around.frames_deeper e0.frames, .inr ⟨rfl, rfl⟩, fun b z => absurd z (noA b), e0.bs, e0.bsz, fun b _ _ => noA b, fun b z => absurd z (noA b), e0.funs, e0.frf⟩,
      rfl, e0.bare, Un.kept kp, ⟨_, hns, fun i y v' e1 e2 e3 => ?_⟩, fun y c e => ?_, e0.hok.fresh (Nat.le_refl _), fun y c e => ?_, fun q hq => absurd (show q ∈ ([] : List (Addr × Obj)) ++ [] from hq) (by simp), e0.hok.kept kp, rfl⟩
    · have hy : (defScope s_we).names.lookup y = some .cell ∨ (defScope s_we).names.lookup y = some .free := hy
      rcases hy with hy | hy
      · exact absurd rfl (n5 _ (PySem.mem_of_lookup hy))
      · rw [n6 y hy]
        exact ⟨cc, rfl⟩
    · exact absurd (show false = true from z) Bool.false_ne_true
    · match i, e1, e2 with
      | 0, e1, e2 =>
        cases e1
        cases e2
        exact ⟨_, rfl, .inl ⟨n1, rfl⟩⟩
      | 1, e1, e2 =>
        cases e1
        cases e2
        exact ⟨_, rv, .inl ⟨n2, rfl⟩⟩
    · obtain ⟨rfl, rfl⟩ := lookup_one e
      exact ⟨_, _, kp _ _ (KX _ _ lcc), rfl⟩
    · obtain ⟨rfl, rfl⟩ := lookup_one e
      exact (e0.bs _ _ kcc).2
  obtain ⟨mb, hmb, hbb⟩ := I.mod.blt
  obtain ⟨t1, ho⟩ := exo_at I.hok ha
  obtain ⟨oD, hD1, hD2⟩ : ∃ oD, h₁.get? D = some oD ∧ oD.data = .cls cdD := by
    have hD' := hD
    unfold PySem.W.clsIn at hD'
    split at hD'
    · rename_i c d cd' sl ho
      cases hD'
      exact ⟨_, I.kIn _ _ ho, rfl⟩
    · cases hD'
  show PySem.wpAt _ (A.deeper (PySem.W.ksEnv "WireError.__init__" (defScope s_we) s.heap.objs.size f (.ref cda) cc)) (.func (defBody s_we) (PySem.W.ksEnv "WireError.__init__" (defScope s_we) s.heap.objs.size f (.ref cda) cc)) (execs (defBody s_we) (PySem.W.ksEnv "WireError.__init__" (defScope s_we) s.heap.objs.size f (.ref cda) cc)) _ _ _
  refine PySem.ks_wpAt_execs_cons (PySem.ks_wpAt_Expr_any (PySem.ks_wpAt_MethodCall ?_))
  refine PySem.ks_wpAt_super_base (env := PySem.W.ksEnv "WireError.__init__" (defScope s_we) s.heap.objs.size f (.ref cda) cc) n3 n4 (by decide) rfl (I.kIn _ _ lk) rfl har rfl (I.kIn _ _ lc) rfl hvs hfile F.top ?_
  refine PySem.W.ks_loadName_global hk n3 (PySem.Calls.loadGlobal_builtin (env := PySem.W.ksEnv "WireError.__init__" (defScope s_we) s.heap.objs.size f (.ref cda) cc) (I.mod.glob.keeps I.bk) F.sup (hmb.keeps I.bk) ((hbb _ (by decide)).trans (by decide +kernel)) ⟨rfl, ?_⟩)
  refine wpAny_loadName_free hk n4 rfl ⟨_, I.kIn _ _ lcc, rfl⟩ ?_
  rw [har2]
  refine wpAny_loadName_local hk n1 hns rfl ?_
  refine PySem.ks_wpAny_isType_cls hD1 hD2 ⟨rfl, ?_⟩
  refine PySem.ks_wpAny_call_super hD1 hD2 ho rfl (fun c e => by cases e) (PySem.W.looks_mroIn I.kIn T.sub) (fun h2 e2 k2 => ?_)
  have I2 := I.kept (t' := s.toks + 2) k2
  have ho2 := k2 _ _ ho
  cases hcl : PySem.W.clsIn K C with
  | none =>
    have z := T.ini
    unfold PySem.W.ks_superIn at z
    rw [hcl] at z
    cases z
  | some cd =>
  have hini := T.ini
  unfold PySem.W.ks_superIn at hini
  rw [hcl] at hini
  have J : PySem.W.InstAt h2 a { cls := .ref C, dict := none, data := .fields #[.ref t1, .none, .none, .none, .bool false, .none] } C none := ⟨ho2, rfl, rfl, trivial⟩
  refine PySem.W.kxs_getMethod PySem.W.kxs_ValueError e2 (PySem.W.looks_opaque I2.kIn F.opq) (l₀ := cd.mro) (fun A Q E s k q => wpAny_bind ((PySem.W.looks_clsIn I2.kIn hcl) A _ E s k (wpAny_pure q))) rfl I2.kIn hini (J.type.andThen (PySem.W.looks_subIn I2.kIn T.ve)) (PySem.W.ks_ne I2.kIn J hcl) (by decide) ?_
  have k3 : ∀ b o, h2.get? b = some o → (h2.push (PySem.W.kxs_mw "ValueError.__init__" a)).get? b = some o := fun b o e => Heap.get?_push_of_some _ e
  have I3 := I2.kept (t' := s.toks + 2 + 1) k3
  have hmw : (h2.push (PySem.W.kxs_mw "ValueError.__init__" a)).get? h2.objs.size = some (PySem.W.kxs_mw "ValueError.__init__" a) := Heap.get?_push_at rfl rfl
  have I3' : L2.Inv (weCx P w K mg base A outer s H E (defScope s_we) f (.ref cda) cc) [(h2.objs.size, PySem.W.kxs_mw "ValueError.__init__" a)] [some (.ref a), some v] H _ := I3.pins_of (pins' := [(h2.objs.size, PySem.W.kxs_mw "ValueError.__init__" a)]) fun p hp => by
    cases List.mem_singleton.mp hp
    exact ⟨hmw, I2.hok.fresh (Nat.le_refl _), fun z => Nat.lt_irrefl _ (by have := I2.lt; rw [← z] at this; exact this), I2.nofs (Nat.le_refl _), fun v z => by cases z⟩
  refine PySem.W.kxs_callWith (i := "ValueError.__init__") (x := a) (by rfl) ?_
  refine PySem.Calls.evalArgs_plain ?_
  refine thn ((pa_cons (pe_var (X := weCx P w K mg base A outer s H E (defScope s_we) f (.ref cda) cc) (i := 1) rfl (.inl n2)) pa_nil).run _ [(h2.objs.size, PySem.W.kxs_mw "ValueError.__init__" a)] _ _ H (fun vs H' => vs = [v] ∧ H' = H) I3' ⟨v, rfl, rfl, rfl⟩) fun us s1 ⟨vs, H1, I4, r1, ev, eH⟩ => ?_
  subst ev
  rw [eH] at I4
  cases r1 with
  | @cons _ ux _ ur rx rr =>
  cases rr
  obtain ⟨hu, _⟩ := I4.pin _ (List.mem_append_right _ (List.mem_singleton.mpr rfl))
  refine ⟨hu, ?_⟩
  obtain ⟨nm, q, N, bs, bm, sn, sub, ab, col, dd, k0, k1, k2, k3, k5, hC, hbm⟩ := T.oex.cls
  obtain ⟨t4, ho4⟩ := exo_at I4.hok ha
  obtain ⟨hp4, g4, d4, tk4, os4⟩ := s1
  refine call_mwV (I4.kIn _ _ hC) ho4 hu (by show 1 ≤ sizeLine; rw [sizeLine_eq]; omega) fun h5 t5 k5 hx5 => ?_
  have I5 := (I4.pins_of (pins' := []) fun _ z => nomatch z).write (t' := tk4) (x := a) (e := a) (o := exo a C none) (by rw [ha]; exact True.intro) (.inl rfl) k5 ⟨_, hx5⟩ (exo_ok hx5)
  have eu : upd H a (exo a C none) = H := by
    funext b
    by_cases hb : b = a
    · rw [hb, upd_same, ha]
    · rw [upd_ne hb]
  rw [eu] at I5
  refine PySem.wpAt_of_wpAny ?_
  refine wpAny_mono ((pss_one (ps_ost (X := weCx P w K mg base A outer s H E (defScope s_we) f (.ref cda) cc) (pe_var (i := 0) rfl (.inl n1)) (pe_var (i := 1) rfl (.inl n2)))).run [] _ _ H { nx := fun _ H' => Q .non H', rt := Q } I5 ?_) (fun fl s' hs => ?_) fun e s' hs => hs
  · exact ⟨v, rfl, .ref a, rfl, a, C, rfl, T.oex, T.val, .inl ⟨ha, hq⟩⟩
  · cases fl with
    | next =>
      obtain ⟨σ', H', J', q'⟩ := hs
      exact ⟨.non, H', J'.os, J'.bare, J'.base, J'.hok, rfl, q'⟩
    | ret u =>
      obtain ⟨v', σ', H', J', rv', q'⟩ := hs
      exact ⟨v', H', J'.os, J'.bare, J'.base, J'.hok, rv', q'⟩
    | brk =>
      obtain ⟨_, _, _, q'⟩ := hs
      exact q'.elim
    | cont =>
      obtain ⟨_, _, _, q'⟩ := hs
      exact q'.elim
end
def ExZ (cls : Value) (d : Option Addr) (a : Addr) : HO := .ext fun h => ∃ (oe : Obj) (vs : Array Value), h.get? a = some oe ∧ Zc cls d oe ∧ oe.data = .fields vs
theorem exZ_ok {P : Program} {w : World} {H : Hp} {h : Heap} {cls : Value} {d : Option Addr} {a : Addr} {oe : Obj} {vs : Array Value} (e : h.get? a = some oe) (z : Zc cls d oe) (hd : oe.data = .fields vs) : ObjOk P w H h a (ExZ cls d a) :=
  ⟨⟨oe, vs, e, z, hd⟩, ⟨oe, e⟩, fun _ _ ⟨o, v, q, r⟩ k => ⟨o, v, k o q, r⟩⟩
section
variable {X : Cx} {pins : List (Addr × Obj)} {σ : L2.St} {H : Hp} {s : Shared}
theorem track {a : Addr} {oe : Obj} {vs : Array Value} {cls : Value} {d : Option Addr} (I : L2.Inv X ((a, oe) :: pins) σ H s) (n0 : X.s_0.heap.get? a = none) (hd : oe.data = .fields vs) (hz : Zc cls d oe) (hp : ∀ p ∈ X.pn ++ pins, p.1 ≠ a) : L2.Inv X pins σ (upd H a (ExZ cls d a)) s := by
  obtain ⟨ha, na, nL, nF, _⟩ := I.pin (a, oe) (List.mem_append_right _ List.mem_cons_self)
  dsimp only at ha na nL nF
  have ne0 : ∀ b o, X.s_0.heap.get? b = some o → b ≠ a := fun b o e z => by
    rw [z, n0] at e
    cases e
  have sm : ∀ {b o}, H b = some o → upd H a (ExZ cls d a) b = some o := fun {b o} q => by
    rw [upd_ne (ne_of_none q na)]
    exact q
  refine ⟨I.ok, I.os, I.bare, ⟨I.base.keep, I.base.slot, fun b o e n hx => ?_, I.base.there, fun b xs e => sm (I.base.tups b xs e), fun b o u e => sm (I.base.frzs b o u e), fun b ps e => ?_⟩, I.loc, I.cell, ?_, fun x c e => ?_, fun p q => ?_, fun b u e => ?_, I.len⟩
  · rw [upd_ne (ne0 b o e)]
    exact I.base.free b o e n hx
  · obtain ⟨more, q⟩ := I.base.tbls b ps e
    exact ⟨more, sm q⟩
  · rw [upd_ne (Ne.symm nL)]
    exact I.free
  · have nc : c ≠ a := fun z => by
      obtain ⟨v, o, ho, hv⟩ := I.cell x c e
      rw [z, ha] at ho
      cases ho
      rw [hd] at hv
      cases hv
    rw [upd_ne nc]
    exact I.freeC x c e
  · obtain ⟨e, n, r⟩ := I.pin p (by
      rcases List.mem_append.mp q with q | q
      · exact List.mem_append_left _ q
      · exact List.mem_append_right _ (List.mem_cons_of_mem _ q))
    exact ⟨e, by rw [upd_ne (hp p q)]; exact n, r⟩
  · by_cases hb : b = a
    · subst hb
      rw [upd_same] at e
      cases e
      exact exZ_ok ha hz hd
    · rw [upd_ne hb] at e
      exact (I.hok b u e).stay (fun c v _ q => q) (fun c q => sm q) fun c xs q => sm q
theorem unsuiteK {a : Addr} {q : Addr × Obj} {pn' : List (Addr × Obj)} (I : L2.Inv (X.suite a (q :: (X.pn ++ pins))) pn' σ H s) (ok : X.Ok) : L2.Inv X (q :: pins) σ H s :=
  ⟨ok, I.os, I.bare, I.base, I.loc, I.cell, I.free, I.freeC, fun p hp => I.pin p (List.mem_append_left _ (by
    rcases List.mem_append.mp hp with z | z
    · exact List.mem_cons_of_mem _ (List.mem_append_left _ z)
    · rcases List.mem_cons.mp z with z | z
      · rw [z]
        exact List.mem_cons_self
      · exact List.mem_cons_of_mem _ (List.mem_append_right _ z))), I.hok, I.len⟩
end
def wKeep (K : PySem.W.Frag) (c : Value) (i j : Nat) (D : Ends) : WX := fun cls d σ H => PySem.W.exmOne K cls c = some true ∧ ∀ a, H a = none → D.nx (((σ.set i (some (.ref a))).set j (some (.ref a))).set i none) (upd H a (ExZ cls d a))
section
variable {X : Cx} {x n y : Str} {c : Value} {i j : Nat} {body : List Stmt} {np pos pos' p1 p2 p3 : Pos} {tb : WX → TS}
theorem ps_try_keep (hs : X.stack = X.env :: X.outer) (hf : X.env.frame = some X.env.locals) (hex : X.ex = []) (hN : X.N.Nodup) (hi : X.N[i]? = some n) (hj : X.N[j]? = some y) (hij : i ≠ j) (hln : X.env.kindOf n = some .local) (hly : X.env.kindOf y = some .local) (hc : Names X x c) (tk : Takes X fun _ _ _ _ => False)
    (hb : ∀ (W : WX) (pn : List (Addr × Obj)) (xe : Value → Shared → Prop), Takes (X.tr pn xe) W → PassesOwn (model X.prog X.w) X.A X.env xe → PSs (X.tr pn xe) body (tb W))
    (hsw : swapsWith (.Name n p2) (some (.Name y p1)) p3.line X.env = pure false := by rfl) (hdb : (n == ("__debug__" : Str)) = false := by decide) (hcd : (n == ("__classdict__" : Str)) = false := by decide) :
    PS X (.Try body [.ExceptHandler (some (.Name x np)) (some n) [.Assign [.Name y p1] (.Name n p2) p3] pos'] [] [] pos) (fun D σ H => tb (wKeep X.K c i j D) D σ H) := by
  refine ⟨fun pins s σ H D I h => ?_⟩
  have ok := I.ok
  have hfr : X.A.frames = some (X.env :: X.outer) := by rw [ok.frames, hs]
  have hloc : Loc X.env.scope n := .inl hln
  refine wpAny_Try_except ?_
  refine wpAny_mono ((hb (wKeep X.K c i j D) (X.pn ++ pins) (fun e s₁ => wpAny (model X.prog X.w) X.A (noteFrame e X.env) (fun _ s₂ => wpAny (model X.prog X.w) X.A (setFlight e none) (fun _ s₃ =>
    wpAny (model X.prog X.w) X.A (handleBy e X.env [.ExceptHandler (some (.Name x np)) (some n) [.Assign [.Name y p1] (.Name n p2) p3] pos']) (SP X pins D) X.xe s₃) X.xe s₂) X.xe s₁) (fun u s' xx => ?_) PassesOwn.looking).run [] s σ H D (I.toTry _) h) (fun f s1 hsp => ?_) (fun e s1 he => he)
  · obtain ⟨a, B, sI, pins', σ', H', cls, d, rfl, J', nb, up, sky, na, os, ag, hb1, hyes⟩ := xx
    have J : L2.Inv X pins σ' H' sI := J'.ofTry ok
    have sky' : Sky B (X.env :: X.outer) a (Zc cls d) X.env.locals s'.heap := by rw [← hs]; exact sky
    show wpAny (model X.prog X.w) X.A (noteFrame (.ref a) X.env) _ _ _
    refine Sky.land Zc.steady hfr hf sky' fun h3 fl3 up3 => ?_
    have J3 : L2.Inv X pins σ' H' { s' with heap := h3 } := J.landed nb fl3.1 (up.trans up3) os ag
    obtain ⟨oe3, vs3, he3, hz3, hd3⟩ := fl3.there
    have notFr : ∀ {h : Heap} {o : Obj} {vs : Array Value}, h.FunFrames B (X.env :: X.outer) → h.get? a = some o → o.data = .fields vs → a ∉ frs (X.env :: X.outer) := fun {h o vs} ff e dd hm => by
      obtain ⟨_, o', e', hnf⟩ := ff.mem hm
      rw [e] at e'; cases e'
      exact hnf _ dd
    have nfr := notFr fl3.2.2.1 he3 hd3
    have nL : a ≠ X.env.locals := fun z => nfr (List.mem_filterMap.mpr ⟨X.env, List.mem_cons_self, by rw [hf, z]⟩)
    have nF : a ∉ X.fs := fun hm => by
      obtain ⟨e, he, q⟩ := List.mem_filterMap.mp hm
      exact nfr (List.mem_filterMap.mpr ⟨e, List.mem_cons_of_mem _ he, q⟩)
    have nI : sI.heap.get? a = none := by
      cases q : sI.heap.get? a with
      | none => rfl
      | some o =>
        have z := nb a o q (by rw [hs]; exact nfr)
        rw [fl3.2.1] at z
        cases z
    have n0 : X.s_0.heap.get? a = none := by
      cases q : X.s_0.heap.get? a with
      | none => rfl
      | some o =>
        obtain ⟨o', z⟩ := J.base.there a o q (by rw [hex]; simp)
        rw [nI] at z
        cases z
    have np' : ∀ p ∈ X.pn ++ pins, p.1 ≠ a := fun p hp z => by
      have := (J.pin p hp).1
      rw [z, nI] at this
      cases this
    have S3 := J3.suite he3 hd3 na nL nF
    refine wpAny_handleBy_cons (codeAny_handlers_test ?_) (by intro q; cases q)
    have LT : PySem.W.Looks (model X.prog X.w) h3 (typeOf (.ref a)) cls := fun A Q E s k q => wpAny_typeOf_ref (k _ _ he3) (by rw [hz3.1]; exact q)
    have LM := PySem.W.exm_one (M := model X.prog X.w) (J3.kIn) LT hb1
    have test : ∀ {Q : Value → Shared → Prop} {E : Value → Shared → Prop}, Q c { s' with heap := h3 } → wpAny (model X.prog X.w) (X.A.mark (some (.ref a))) (eval (.Name x np) X.env) Q E { s' with heap := h3 } := fun {Q E} q => by
      obtain ⟨hg, hdbg, hm | ⟨hm, hv, hnn⟩⟩ := hc
      · exact ld_glob (X := X.suite a ((a, oe3) :: (X.pn ++ pins))) S3 hg hm q hdbg
      · exact ld_blt (X := X.suite a ((a, oe3) :: (X.pn ++ pins))) S3 hg hm hv q hnn hdbg
    refine test (LM.here ?_)
    refine codeAny_handlers_suite_as ?_
    refine PySem.HandSPX.lands_againZ fl3 fun h4 fl4 up4 => ?_
    have J4 : L2.Inv X pins σ' H' { s' with heap := h4 } := J.landed nb fl4.1 ((up.trans up3).trans up4) os ag
    obtain ⟨oe4, vs4, he4, hz4, hd4⟩ := fl4.there
    have S4 := J4.suite he4 hd4 na nL nF
    refine store_ok (X := X.suite a ((a, oe4) :: (X.pn ++ pins))) (v := .ref a) S4 hN hi hloc rfl (fun s5 S5 => ?_) (.inr hln)
    have hset : PS (X.suite a ((a, oe4) :: (X.pn ++ pins))) (.Assign [.Name y p1] (.Name n p2) p3) _ := ps_set hN hj (.inl hly) (pe_var (i := i) hi (.inl hln) hdb hcd) hsw (.inr hly)
    refine wpAny_mono ((pss_one hset).run [] s5 _ H' { nx := fun σ6 H6 => σ6 = (σ'.set i (some (.ref a))).set j (some (.ref a)) ∧ H6 = H', rt := fun _ _ => False } S5 ?_) (fun f s6 hsp => ?_) (fun _ _ z => False.elim z)
    · refine ⟨.ref a, ?_, rfl, rfl⟩
      rw [List.getElem?_set_self]
      rw [J4.len]
      exact (List.getElem?_eq_some_iff.mp hi).1
    cases f with
    | next =>
      obtain ⟨σ6, H6, S6, e6, eH⟩ := hsp
      subst e6 eH
      refine gone_ok (unsuiteK S6 ok) hN hi hln fun s7 J7 => ?_
      exact ⟨_, _, track J7 n0 hd4 hz4 np', hyes a na⟩
    | brk =>
      obtain ⟨_, _, _, q⟩ := hsp
      exact q.elim
    | cont =>
      obtain ⟨_, _, _, q⟩ := hsp
      exact q.elim
    | ret u =>
      obtain ⟨_, _, _, _, _, q⟩ := hsp
      exact q.elim
  · cases f with
    | next =>
      obtain ⟨σ', H', J', q⟩ := hsp
      exact wpAny_execs_nil ⟨σ', H', J'.ofTry ok, q⟩
    | brk =>
      obtain ⟨σ', H', J', q⟩ := hsp
      exact ⟨σ', H', J'.ofTry ok, q⟩
    | cont =>
      obtain ⟨σ', H', J', q⟩ := hsp
      exact ⟨σ', H', J'.ofTry ok, q⟩
    | ret u =>
      obtain ⟨v, σ', H', J', r, q⟩ := hsp
      exact ⟨v, σ', H', J'.ofTry ok, r, q⟩
end
end Wd

namespace Fd
open PySem PySem.Spec PyProof.Rows L2 Wd LamX
theorem oexB_ok {K : PySem.W.Frag} {C : Addr} (h : oexB K C = true) : OexC K C := by
  obtain ⟨h0, h⟩ := He.ba h
  obtain ⟨h1, h⟩ := He.ba h
  obtain ⟨h2, h⟩ := He.ba h
  obtain ⟨h3, h4⟩ := He.ba h
  refine ⟨?_, of_decide_eq_true h1, of_decide_eq_true h2, of_decide_eq_true h3, h4⟩
  split at h0
  · rename_i dd cd sl ho
    split at h0
    · rename_i C' bm k0 k1 k2 k3 n k5 hm hs
      obtain ⟨a1, h0⟩ := He.ba h0
      obtain ⟨a2, h0⟩ := He.ba h0
      obtain ⟨a3, h0⟩ := He.ba h0
      obtain ⟨a4, a5⟩ := He.ba h0
      have a1 := of_decide_eq_true a1
      have a2 := of_decide_eq_true a2
      obtain ⟨nm, bs, mro, ns, qn, hd, sn, sub, ab, col, dl⟩ := cd
      obtain ⟨l⟩ := sl
      dsimp only at hm hs a3 a4
      subst hm hs a1 a2 a4
      cases dl with
      | true => cases a3
      | false => exact ⟨nm, qn, ns, bs, bm, sn, sub, ab, col, dd, k0, k1, k2, k3, k5, ho, a5⟩
    · cases h0
  · cases h0
structure XcOne (K : PySem.W.Frag) (C D : Addr) : Prop where
  we : WeC K D C
  ini : PySem.W.findIn K (.ref C) "__init__" = some (some (.ref (He.ma K D "__init__")))
  ga : PySem.W.findIn K (.ref C) "__getattribute__" = some (some (.builtin "BaseException.__getattribute__"))
  gg : PySem.W.findIn K (.ref C) "__getattr__" = some none
  hd : PySem.W.hasDictIn K C = true
  cls : (PySem.W.clsIn K C).isSome = true
  ha : PySem.W.findIn K (.ref C) "__class__" = some (some (.builtin "object.__class__"))
  hm : PySem.W.mroIn K C (.type "object") = some true
  exm : PySem.W.exmOne K (.ref C) (.ref D) = some true
theorem xcOne_ok {K : PySem.W.Frag} {C D : Addr} (h : xcOne K C D = true) : XcOne K C D := by
  obtain ⟨h0, h⟩ := He.ba h
  obtain ⟨h1, h⟩ := He.ba h
  obtain ⟨h2, h⟩ := He.ba h
  obtain ⟨h3, h⟩ := He.ba h
  obtain ⟨h4, h⟩ := He.ba h
  obtain ⟨h5, h⟩ := He.ba h
  obtain ⟨h6, h⟩ := He.ba h
  obtain ⟨h7, h⟩ := He.ba h
  obtain ⟨h8, h⟩ := He.ba h
  obtain ⟨h9, h⟩ := He.ba h
  obtain ⟨ha, h⟩ := He.ba h
  obtain ⟨hb, hc⟩ := He.ba h
  exact ⟨⟨oexB_ok h0, of_decide_eq_true h1, of_decide_eq_true h2, of_decide_eq_true h3, of_decide_eq_true h4⟩, of_decide_eq_true h5, of_decide_eq_true h6, of_decide_eq_true h7, h8, h9, of_decide_eq_true ha, of_decide_eq_true hb, of_decide_eq_true hc⟩
theorem we_ok {P : Program} {K : PySem.W.Frag} {h : Heap} {mg : Str → Option Value} {D : Addr} (X : K.In h) (G : h.Ns mainGlobals mg) (b : weB K P.main.file D = true) (v : weV K D = weW) (top : (P.main.scope.names.lookup ("super" : Str)).isSome = false) :
    (∃ fd, WeF P K mg (defArgs s_we) (defBody s_we) (defScope s_we) D (He.ma K D "__init__") fd) ∧ PySem.W.typeIn K (.ref (He.ma K D "__init__")) = some (.type "function") ∧ SysK K := by
  obtain ⟨b0, b⟩ := He.ba b
  obtain ⟨b1, b⟩ := He.ba b
  obtain ⟨b2, b⟩ := He.ba b
  obtain ⟨b3, b⟩ := He.ba b
  obtain ⟨b4, b5⟩ := He.ba b
  refine ⟨?_, of_decide_eq_true b4, ?_⟩
  · unfold weV at v
    split at b0
    · rename_i oc od fd osl lk
      rw [lk] at v
      have v0 := Option.some.inj v
      clear v
      obtain ⟨n1, n2, n3, n4, n5, n6, n7, n8, n9, n10, n11, n12, n13, n14, n15⟩ := fd
      obtain ⟨e1, v1⟩ := Prod.mk.inj v0
      obtain ⟨e2, v2⟩ := Prod.mk.inj v1
      obtain ⟨e3, v3⟩ := Prod.mk.inj v2
      obtain ⟨e4, v4⟩ := Prod.mk.inj v3
      obtain ⟨e5, v5⟩ := Prod.mk.inj v4
      obtain ⟨e6, e7⟩ := Prod.mk.inj v5
      clear v0 v1 v2 v3 v4 v5
      obtain ⟨c01, b0'⟩ := He.ba b0
      obtain ⟨c2, c3⟩ := He.ba b0'
      obtain ⟨c0, c1⟩ := He.ba c01
      clear b0 b0' c01
      dsimp only at e1 e2 e3 e4 e5 e6 e7 c0 c1 c2 c3
      subst e1 e2 e3 e4 e5 e6 e7
      split at c3
      · rename_i n cc
        obtain ⟨d1, d2⟩ := He.ba c3
        clear c3
        have d1 := of_decide_eq_true d1
        subst d1
        split at d2
        · rename_i cl cld D' csl lcc
          have d2 := of_decide_eq_true d2
          subst d2
          split at c2
          · rename_i cda
            split at c2
            · rename_i ccl cdd fvs ccs lc
              split at c2
              · rename_i file tf hv
                refine ⟨_, ⟨⟨oc, od, _, _, _, _, _, cda, _, osl, cc, rfl, lk, c1, ⟨ccl, cdd, fvs, ccs, file, tf, lc, hv, c2⟩, cl, cld, csl, lcc⟩, (by split at c0; rfl; cases c0), Option.isSome_iff_exists.mp b1, of_decide_eq_true b2, PySem.W.mg_none_of X G (of_decide_eq_true b3), top⟩⟩
              · cases c2
            · cases c2
          · cases c2
        · cases d2
      · cases c3
    · cases b0
  · split at b5
    · rename_i o lk
      exact ⟨o, lk, of_decide_eq_true b5⟩
    · cases b5
end Fd

namespace GQ
open PySem PySem.SeqAt
open AutoSeq1 (wpAny_loadPart')
open MeetsSeq MeetsSeq2 MeetsSeq3 SeqRoads2
end GQ
namespace Fd
open PySem PySem.Spec PyProof.Rows L2 Wd
def cn (w : World) (K : PySem.W.Frag) : Cn := ⟨K, fun c => He.ga K (clsN.getD c ""), fun c => schL.getD c [], fun k => He.ga K (xcN.getD k ""), tfD.map fun p => ((He.cT K p).2, tfQ p), NestedKey.hash w, fun _ => false, fun _ j => j⟩
def ix_own_rows : Nat → Option Nat := fun c => ([some 0, none, some 1] : List (Option Nat)).getD c none
theorem ok_ix_own_rows {w : World} {K : PySem.W.Frag} (At : ∀ c, c < 3 → Att (cn w K) c) : FldOk (cn w K) "own_rows" ix_own_rows := fld_okL At (by decide +kernel)
def ix_own_dots : Nat → Option Nat := fun c => ([some 1, some 1, none] : List (Option Nat)).getD c none
theorem ok_ix_own_dots {w : World} {K : PySem.W.Frag} (At : ∀ c, c < 3 → Att (cn w K) c) : FldOk (cn w K) "own_dots" ix_own_dots := fld_okL At (by decide +kernel)
def ix_own_at : Nat → Option Nat := fun c => ([some 2, none, none] : List (Option Nat)).getD c none
theorem ok_ix_own_at {w : World} {K : PySem.W.Frag} (At : ∀ c, c < 3 → Att (cn w K) c) : FldOk (cn w K) "own_at" ix_own_at := fld_okL At (by decide +kernel)
def ix_own_board : Nat → Option Nat := fun c => ([none, some 0, some 0] : List (Option Nat)).getD c none
theorem ok_ix_own_board {w : World} {K : PySem.W.Frag} (At : ∀ c, c < 3 → Att (cn w K) c) : FldOk (cn w K) "own_board" ix_own_board := fld_okL At (by decide +kernel)
def ix_own_wires : Nat → Option Nat := fun c => ([none, none, some 3] : List (Option Nat)).getD c none
theorem ok_ix_own_wires {w : World} {K : PySem.W.Frag} (At : ∀ c, c < 3 → Att (cn w K) c) : FldOk (cn w K) "own_wires" ix_own_wires := fld_okL At (by decide +kernel)
end Fd

namespace GQ
open PySem PySem.SeqAt
open AutoSeq1 (wpAny_loadPart')
open MeetsSeq MeetsSeq2 MeetsSeq3 SeqRoads2
section
variable {prog : Program} {w : World} {A : Around} {R : Result → Shared → Prop}
theorem tuple_eqB (l b : Addr) (items items2 : Array Value) (n n2 : Nat) (dd dd2 : Option Addr) (sl sl2 : Array (Option Value)) (I : Nat → Shared → Prop) (Fs : Shared → Prop)
    (turn : ∀ i (h1 : i < items.size) (h2 : i < items2.size) s, I i s → wpAny (model prog w) A.in1 (eqBool items[i] items2[i]) (fun r s' => (r = true ∧ I (i + 1) s') ∨ (r = false ∧ Fs s')) (fun e s' => R (.error e) s') s)
    (fin : ∀ s, I (min items.size items2.size) s → R (.ok (.ret (.bool (items.size == items2.size)))) s) (finF : ∀ s, Fs s → R (.ok (.ret (.bool false))) s) {s : Shared} (hl1 : s.heap.get? l = some { cls := .type "tuple", dict := dd, data := .seq items n, slots := sl }) (hb1 : s.heap.get? b = some { cls := .type "tuple", dict := dd2, data := .seq items2 n2, slots := sl2 }) (h : I 0 s) :
    wpAny (model prog w) A.in1 (Builtin.«tuple.__eq__» ⟨[.ref l, .ref b], []⟩) (FinOf prog w A R) (fun e s' => R (.error e) s') s := by
  have f2 := AutoSeq1.sub_tuple_tuple
  have hZ : (items.toList.zip items2.toList).length = min items.size items2.size := by simp
  have h0 := h
  obtain ⟨hp, g, d, tk, os⟩ := s
  wp_walk using wpAny_loadPart' hl1, wpAny_loadPart' hb1, wpAny_forIn_list _ (fun rest b s' => b.1 = none ∧ ∃ i, rest = (items.toList.zip items2.toList).drop i ∧ i ≤ min items.size items2.size ∧ I i s') _
  case turn =>
    rintro ⟨y, x⟩ rest b s' ⟨hb', i, hz, hi, hI⟩
    have hlt : i < (items.toList.zip items2.toList).length := by
      rcases Nat.lt_or_ge i (items.toList.zip items2.toList).length with h' | h'
      · exact h'
      · rw [List.drop_of_length_le h'] at hz; cases hz
    have h0 : i < min items.size items2.size := hZ ▸ hlt
    have h1 : i < items.size := by omega
    have h2 : i < items2.size := by omega
    rw [List.drop_eq_getElem_cons hlt] at hz
    injection hz with hyx hrest
    have hy : y = items[i] := by have := congrArg Prod.fst hyx; simpa using this
    have hx : x = items2[i] := by have := congrArg Prod.snd hyx; simpa using this
    subst hy hx
    refine wpAny_bind (wpAny_mono (turn i h1 h2 s' hI) (fun r s2 q2 => ?_) fun _ _ x => x)
    rcases q2 with ⟨hr, q2⟩ | ⟨hr, q2⟩
    · subst hr
      wp_walk
      exact ⟨rfl, i + 1, hrest, h0, q2⟩
    · subst hr
      have hR := finF _ q2
      obtain ⟨hp3, g3, d3, tk3, os3⟩ := s2
      wp_walk
      exact hR
  case fin =>
    rintro ⟨b1, b2⟩ s' ⟨hb', i, hz, hi, hI⟩
    simp only at hb'
    subst hb'
    have hge : min items.size items2.size ≤ i := by
      rcases Nat.lt_or_ge i (items.toList.zip items2.toList).length with h' | h'
      · rw [List.drop_eq_getElem_cons h'] at hz; cases hz
      · exact hZ ▸ h'
    have hi' : i = min items.size items2.size := by omega
    have hR : R (.ok (.ret (.bool (items.size == items2.size)))) s' := fin s' (hi' ▸ hI)
    wp_walk
    simpa [Builtin.Tuple.tupleCompareSizes] using hR
  case h =>
    exact ⟨rfl, 0, rfl, Nat.zero_le _, h0⟩
end
section
variable {prog : Program} {w : World} {A : Around} {E : Value → Shared → Prop} {s : Shared}
theorem rc_tupB {l b : Addr} {items items2 : Array Value} {Q : Value → Shared → Prop} (hu : A.units < cLine) (I : Nat → Shared → Prop) (Fs : Shared → Prop)
    (hl : s.heap.IsTuple l items) (hb : s.heap.IsTuple b items2)
    (turn : ∀ i (h1 : i < items.size) (h2 : i < items2.size) s, I i s → wpAny (model prog w) A.in1 (eqBool items[i] items2[i]) (fun r s' => (r = true ∧ I (i + 1) s') ∨ (r = false ∧ Fs s')) E s)
    (fin : ∀ s, I (min items.size items2.size) s → Q (.bool (items.size == items2.size)) s) (finF : ∀ s, Fs s → Q (.bool false) s) (h : I 0 s) : wpAny (model prog w) A (richCompare .Eq (.ref l) (.ref b)) Q E s := by
  obtain ⟨⟨cls, dd, data, sl⟩, ho, hc, n, hd⟩ := id hl
  obtain ⟨⟨cls2, dd2, data2, sl2⟩, ho2, hc2, n2, hd2⟩ := id hb
  simp only at hc hd hc2 hd2
  subst hc hd hc2 hd2
  refine wpAny_richCompare_same_room (op := .Eq) ⟨_, ho, rfl⟩ ⟨_, ho2, rfl⟩ F.slot_tuple_eq (call_here F.slot_tuple_eq ⟨_, ho, rfl⟩ F.entry_tuple_eq (F.args_tuple_eq_2 _ _) ?_) hu
  exact tuple_eqB (R := wants (fun v s' => v ≠ .notImplemented ∧ Q v s') E) l b items items2 n n2 dd dd2 sl sl2 I Fs turn (fun s' q => ⟨(fun x => nomatch x), fin s' q⟩) (fun s' q => ⟨(fun x => nomatch x), finF s' q⟩) ho ho2 h
end
end GQ

namespace Fd
open PySem PySem.Spec PyProof.Rows L2 Wd
theorem relV_uniq {x x' : V} {u : Value} (h : RelV x u) (h' : RelV x' u) : x = x' := by
  cases x <;> cases x' <;> (try obtain ⟨t, rfl⟩ := h) <;> (try obtain ⟨t', h'⟩ := h') <;> first
    | (cases h; cases h'; rfl)
    | (cases h'; rfl)
    | (cases h; cases h')
    | (cases h')
    | rfl
theorem vals_uniq : ∀ {vs vs' : List V} {us : List Value}, Vals vs us → Vals vs' us → vs = vs'
  | _, _, _, .nil, .nil => rfl
  | _, _, _, .cons r rr, .cons r' rr' => by rw [relV_uniq r r', vals_uniq rr rr']
theorem kt_uniq {K : PySem.W.Frag} {a : Addr} {vs vs' : List V} (h : KT K a vs) (h' : KT K a vs') : vs = vs' := by
  obtain ⟨o, its, n, h1, h2, h3, h4, h5⟩ := h
  obtain ⟨o', its', n', h1', h2', h3', h4', h5'⟩ := h'
  rw [h1] at h1'
  cases h1'
  rw [h3] at h3'
  cases h3'
  exact vals_uniq h5 h5'
mutual
def goodC (n : Nat) : D → Bool
  | .tup xs => goodCs n xs
  | .lst xs => goodCs n xs
  | .dk _ vs => goodCs n vs
  | .dt _ vs => goodCs n vs
  | .ins c ds => decide (c < n) && goodCs n ds
  | .exc _ _ => false
  | .slt _ _ => false
  | .nk _ _ => false
  | .adr _ => false
  | _ => true
def goodCs (n : Nat) : List D → Bool
  | [] => true
  | x :: xs => goodC n x && goodCs n xs
end
structure Uq (N : Cn) (n : Nat) (H : Hp) : Prop where
  hk : ∀ a o, H a = some o → N.K.lookup a = none
  inj : ∀ c d, c < n → d < n → N.cl c = N.cl d → c = d
theorem kt_not {N : Cd} {n : Nat} {H : Hp} (U : Uq N n H) {a : Addr} {vs : List V} {o : HO} (h : H a = some o) (k : KT N.K a vs) : False := by
  obtain ⟨o', its, m, h1, _⟩ := k
  rw [U.hk a o h] at h1
  cases h1
section
variable {N : Cd} {n : Nat} {O : Addr → Prop} {H : Hp}
theorem rd_H {a : Addr} {o : HO} (h : Rd H a o) : ∃ o', H a = some o' := by
  rcases h with h | ⟨x, h⟩
  · exact ⟨_, h⟩
  · exact ⟨_, h⟩
mutual
theorem Rep.uniq (U : Uq N n H) : ∀ {v : V} {d d' : D}, Rep N O H v d → goodC n d = true → Rep N O H v d' → goodC n d' = true → d = d'
  | _, _, _, .non, _, r', _ => by cases r'; rfl
  | _, _, _, .bl b, _, r', _ => by cases r'; rfl
  | _, _, _, .int b, _, r', _ => by cases r'; rfl
  | _, _, _, .str b, _, r', _ => by cases r'; rfl
  | _, _, _, .tup h r, g, r', g' => by
    cases r' with
    | exc _ _ _ _ _ => exact absurd g' (by simp [goodC])
    | slt _ _ _ _ => exact absurd g' (by simp [goodC])
    | nkd _ _ _ _ _ => exact absurd g' (by simp [goodC])
    | adr _ => exact absurd g' (by simp [goodC])
    | tup h' r' =>
      rw [h] at h'
      cases h'
      rw [Reps.uniq U r g r' g']
    | tupK h' _ r' => exact (kt_not U h h').elim
    | lst _ h' _ => rw [h] at h'; cases h'
    | dk _ h' _ _ => rcases h' with h' | ⟨x, h'⟩ <;> (rw [h] at h'; cases h')
    | dt _ h' _ _ => rcases h' with h' | ⟨x, h'⟩ <;> (rw [h] at h'; cases h')
    | ins _ h' _ _ => rw [h] at h'; cases h'
  | _, _, _, .tupK h _ r, g, r', g' => by
    cases r' with
    | exc _ _ _ _ _ => exact absurd g' (by simp [goodC])
    | slt _ _ _ _ => exact absurd g' (by simp [goodC])
    | nkd _ _ _ _ _ => exact absurd g' (by simp [goodC])
    | adr _ => exact absurd g' (by simp [goodC])
    | tup h' r' => exact (kt_not U h' h).elim
    | tupK h' _ r' =>
      have e := kt_uniq h h'
      subst e
      rw [Reps.uniq U r g r' g']
    | lst _ h' _ => exact (kt_not U h' h).elim
    | dk _ h' _ _ =>
      obtain ⟨o, h'⟩ := rd_H h'
      exact (kt_not U h' h).elim
    | dt _ h' _ _ =>
      obtain ⟨o, h'⟩ := rd_H h'
      exact (kt_not U h' h).elim
    | ins _ h' _ _ => exact (kt_not U h' h).elim
  | _, _, _, .lst _ h r, g, r', g' => by
    cases r' with
    | exc _ _ _ _ _ => exact absurd g' (by simp [goodC])
    | slt _ _ _ _ => exact absurd g' (by simp [goodC])
    | nkd _ _ _ _ _ => exact absurd g' (by simp [goodC])
    | adr _ => exact absurd g' (by simp [goodC])
    | tup h' r' => rw [h] at h'; cases h'
    | tupK h' _ r' => exact (kt_not U h h').elim
    | lst _ h' r' =>
      rw [h] at h'
      cases h'
      rw [Reps.uniq U r g r' g']
    | dk _ h' _ _ => rcases h' with h' | ⟨x, h'⟩ <;> (rw [h] at h'; cases h')
    | dt _ h' _ _ => rcases h' with h' | ⟨x, h'⟩ <;> (rw [h] at h'; cases h')
    | ins _ h' _ _ => rw [h] at h'; cases h'
  | _, _, _, .ins _ h e r, g, r', g' => by
    cases r' with
    | exc _ _ _ _ _ => exact absurd g' (by simp [goodC])
    | slt _ _ _ _ => exact absurd g' (by simp [goodC])
    | nkd _ _ _ _ _ => exact absurd g' (by simp [goodC])
    | adr _ => exact absurd g' (by simp [goodC])
    | tup h' r' => rw [h] at h'; cases h'
    | tupK h' _ r' => exact (kt_not U h h').elim
    | lst _ h' _ => rw [h] at h'; cases h'
    | dk _ h' _ _ => rcases h' with h' | ⟨x, h'⟩ <;> (rw [h] at h'; cases h')
    | dt _ h' _ _ => rcases h' with h' | ⟨x, h'⟩ <;> (rw [h] at h'; cases h')
    | ins _ h' _ r' =>
      rw [h] at h'
      injection h' with h'
      injection h' with h1 h2 h3
      obtain ⟨g1, g2⟩ := Bool.and_eq_true_iff.mp g
      obtain ⟨g1', g2'⟩ := Bool.and_eq_true_iff.mp g'
      have ec := U.inj _ _ (of_decide_eq_true g1) (of_decide_eq_true g1') h1
      subst ec h3
      rw [Reps.uniq U r g2 r' g2']
  | _, _, _, .dk _ h e r, g, r', g' => by
    cases r' with
    | exc _ _ _ _ _ => exact absurd g' (by simp [goodC])
    | slt _ _ _ _ => exact absurd g' (by simp [goodC])
    | nkd _ _ _ _ _ => exact absurd g' (by simp [goodC])
    | adr _ => exact absurd g' (by simp [goodC])
    | tup h' r' => rcases h with h | ⟨x, h⟩ <;> (rw [h] at h'; cases h')
    | tupK h' _ r' =>
      obtain ⟨o, h⟩ := rd_H h
      exact (kt_not U h h').elim
    | lst _ h' _ => rcases h with h | ⟨x, h⟩ <;> (rw [h] at h'; cases h')
    | dt _ h' _ _ => rcases h with h | ⟨x, h⟩ <;> rcases h' with h' | ⟨y, h'⟩ <;> (rw [h] at h'; cases h')
    | dk _ h' e' r' =>
      rcases h with h | ⟨x, h⟩ <;> rcases h' with h' | ⟨y, h'⟩ <;> rw [h] at h' <;> cases h' <;> (subst e e'; rw [Reps.uniq U r g r' g'])
    | ins _ h' _ _ => rcases h with h | ⟨x, h⟩ <;> (rw [h] at h'; cases h')
  | _, _, _, .dt _ h e r, g, r', g' => by
    cases r' with
    | exc _ _ _ _ _ => exact absurd g' (by simp [goodC])
    | slt _ _ _ _ => exact absurd g' (by simp [goodC])
    | nkd _ _ _ _ _ => exact absurd g' (by simp [goodC])
    | adr _ => exact absurd g' (by simp [goodC])
    | tup h' r' => rcases h with h | ⟨x, h⟩ <;> (rw [h] at h'; cases h')
    | tupK h' _ r' =>
      obtain ⟨o, h⟩ := rd_H h
      exact (kt_not U h h').elim
    | lst _ h' _ => rcases h with h | ⟨x, h⟩ <;> (rw [h] at h'; cases h')
    | dk _ h' _ _ => rcases h with h | ⟨x, h⟩ <;> rcases h' with h' | ⟨y, h'⟩ <;> (rw [h] at h'; cases h')
    | dt _ h' e' r' =>
      rcases h with h | ⟨x, h⟩ <;> rcases h' with h' | ⟨y, h'⟩ <;> rw [h] at h' <;> cases h' <;> (subst e e'; rw [Reps.uniq U r g r' g'])
    | ins _ h' _ _ => rcases h with h | ⟨x, h⟩ <;> (rw [h] at h'; cases h')
  | _, _, _, .exc _ _ _ _ _, g, _, _ => absurd g (by simp [goodC])
  | _, _, _, .slt _ _ _ _, g, _, _ => absurd g (by simp [goodC])
  | _, _, _, .nkd _ _ _ _ _, g, _, _ => absurd g (by simp [goodC])
  | _, _, _, .adr _, g, _, _ => absurd g (by simp [goodC])
theorem Reps.uniq (U : Uq N n H) : ∀ {vs : List V} {ds ds' : List D}, Reps N O H vs ds → goodCs n ds = true → Reps N O H vs ds' → goodCs n ds' = true → ds = ds'
  | _, _, _, .nil, _, r', _ => by cases r'; rfl
  | _, _, _, .cons a r, g, r', g' => by
    cases r' with
    | cons a' r' =>
      obtain ⟨g1, g2⟩ := Bool.and_eq_true_iff.mp g
      obtain ⟨g1', g2'⟩ := Bool.and_eq_true_iff.mp g'
      rw [Rep.uniq U a g1 a' g1', Reps.uniq U r g2 r' g2']
end
end
end Fd

namespace Ws
open PySem PySem.Spec PyProof.Rows L2 Wd
end Ws

namespace Fd
open PySem PySem.Spec PyProof.Rows L2 Wd Ws
end Fd

namespace Fd
open PySem PySem.Spec PyProof.Rows L2 Wd
theorem goodCs_at {n : Nat} : ∀ {xs : List D} {i : Nat} {x : D}, goodCs n xs = true → xs[i]? = some x → goodC n x = true
  | [], _, _, _, h => by simp at h
  | y :: xs, 0, x, g, h => by
    simp at h
    subst h
    exact (Bool.and_eq_true_iff.mp g).1
  | y :: xs, i + 1, x, g, h => goodCs_at (i := i) (Bool.and_eq_true_iff.mp g).2 (by simpa using h)
section
variable {X : Cx} {N : Cd} {k n : Nat} {tab : Tab} {A : Around} {pins : List (Addr × Obj)} {s : Shared} {σ : L2.St} {H : Hp} {O : Addr → Prop}
def LoopM (N : Cn) (X : Cx) (pins : List (Addr × Obj)) (σ : L2.St) (H : Hp) (s' : Shared) : Prop := ∃ H', Inv X pins σ H' s' ∧ SmT N H H'
theorem rcB_ins {c : Nat} {m : M} {f a b : Addr} {fd : FuncData} {ps : List Str} {dx dy : D} {o : Bool} (F : FnOk X.prog X.w X.K X.mg X.base (CX X.prog X.w) k f fd ps (spM N 2 m)) (at_ : PySem.W.findIn X.K (.ref (N.cl c)) "__eq__" = some (some (.ref f))) (fn : PySem.W.isFn X.K (.ref f) = true) (hb : Binds X.K fd ps [])
    (sb : Sub X k A) (I : Inv X pins σ H s) (dm : Dm N O H) (ra : Rep N O H (.ref a) dx) (rb : Rep N O H (.ref b) dy) (ex : ∃ ds, dx = .ins c ds) (ey : ∃ es, dy = .ins c es) (q : m [dx, dy] (fun d => d = .bl o) fun _ _ => False) :
    wpAny (model X.prog X.w) A (richCompare .Eq (.ref a) (.ref b)) (fun r s' => r = .bool o ∧ LoopM N X pins σ H s') X.xe s := by
  obtain ⟨ds, rfl⟩ := ex
  obtain ⟨es, rfl⟩ := ey
  obtain ⟨a', d1, fs, ea, ha⟩ := rep_ins ra
  obtain ⟨b', d2, gs, eb, hb'⟩ := rep_ins rb
  cases ea
  cases eb
  obtain ⟨_, J, _⟩ := ins_get I.hok ha
  obtain ⟨_, J', _⟩ := ins_get I.hok hb'
  obtain ⟨_, J, _⟩ := J.look
  obtain ⟨_, J', _⟩ := J'.look
  obtain ⟨_, hF⟩ := I.fr
  refine PySem.W.cmp_K (op := .Eq) (tb := .ref (N.cl c)) sb.room.units0 hF I.ok.mod.kin J J'.type (by simp [PySem.W.notFirst]) at_ fn ?_
  have sp : spM N 2 m [.ref a, .ref b] H (fun v H' => v = .bl o ∧ SmT N H H') (fun _ _ _ => False) := ⟨O, _, _, _, dm, .cons ra (.cons rb .nil), rfl, q, no_q, fun v H' d sm r e => by
    subst e
    cases r
    exact ⟨rfl, sm⟩⟩
  have e0 : Env0 X.prog X.w X.K X.mg X.base A X.stack s H := by
    have e := I.env0
    exact ⟨by rw [sb.fr]; exact e.frames, e.mod, e.bs, e.bsz, e.funs, e.frf, e.hok, e.bare⟩
  have hl := F.len _ _ _ _ sp
  refine wpAny_call (codeAny_mono (F.run A X.stack s H ⟨[.ref a, .ref b], []⟩ [.ref a, .ref b] [.ref a, .ref b] _ (fun _ _ _ => False) sb.room e0 (by
    have := hb s [.ref a, .ref b] I.kIn (by simpa using hl)
    simpa using this) (.cons rfl (.cons rfl .nil)) sp) fun r s' hq => ?_)
  cases r with
  | error e => exact (tkB (N := N)).pass pins σ H s e s' I hq
  | ok fl =>
    cases fl with
    | ret w =>
      obtain ⟨z, H', I', rz, ez, ex⟩ := I.after hq
      subst ez
      cases rz
      exact ⟨rfl, H', I', ex⟩
    | next => exact False.elim hq
    | brk => exact False.elim hq
    | cont => exact False.elim hq
theorem eqB_ins {c : Nat} {m : M} {f a b : Addr} {fd : FuncData} {ps : List Str} {dx dy : D} {o : Bool} (F : FnOk X.prog X.w X.K X.mg X.base (CX X.prog X.w) k f fd ps (spM N 2 m)) (at_ : PySem.W.findIn X.K (.ref (N.cl c)) "__eq__" = some (some (.ref f))) (fn : PySem.W.isFn X.K (.ref f) = true) (hb : Binds X.K fd ps [])
    (sb : Sub X k A) (I : Inv X pins σ H s) (dm : Dm N O H) (ra : Rep N O H (.ref a) dx) (rb : Rep N O H (.ref b) dy) (ex : ∃ ds, dx = .ins c ds) (ey : ∃ es, dy = .ins c es) (q : m [dx, dy] (fun d => d = .bl o) fun _ _ => False) (same : a = b → o = true) :
    wpAny (model X.prog X.w) A (eqBool (.ref a) (.ref b)) (fun r s' => r = o ∧ LoopM N X pins σ H s') X.xe s := by
  by_cases e : a = b
  · rw [same e]
    subst e
    exact SeqAt.EqAt.same (A := A) (s := s) (.ref a) X.prog X.w X.xe _ ⟨rfl, H, I, SmT.same dm.2 (L2.Same.refl _)⟩
  · refine GQ.eqBool_refG e (wpAny_mono (rcB_ins F at_ fn hb sb I dm ra rb ex ey q) (fun r s' z => ?_) fun _ _ x => x)
    exact ⟨o, z.1, rfl, z.2⟩
theorem uq_of (I : Inv X pins σ H s) (hK : X.K = N.K) (inj : ∀ c d, c < n → d < n → N.cl c = N.cl d → c = d) : Uq N n H where
  hk := fun a o h => by
    cases e : N.K.lookup a with
    | none => rfl
    | some u =>
      rw [← hK] at e
      rw [(I.bs a u (I.mod.kin a u e)).2] at h
      cases h
  inj := inj
theorem reps_val {vs : List V} {us : List Value} {ds : List D} {i : Nat} (r : Reps N O H vs ds) (v : Vals vs us) (h : i < us.toArray.size) : ∃ w d, ds[i]? = some d ∧ Rep N O H w d ∧ RelV w us.toArray[i] := by
  have h1 : i < us.length := by simpa using h
  have h2 : i < vs.length := by rw [v.length]; exact h1
  have h3 : i < ds.length := by rw [← r.length]; exact h2
  obtain ⟨w, hw, rw'⟩ := r.get' (List.getElem?_eq_getElem h3)
  obtain ⟨u, hu, ru⟩ := v.get hw
  refine ⟨w, ds[i], List.getElem?_eq_getElem h3, rw', ?_⟩
  rw [List.getElem?_eq_getElem h1] at hu
  have e : us.toArray[i] = us[i] := by simp
  rw [e, Option.some.inj hu]
  exact ru
end
def EqN (tab : Tab) : Nat → D → D → Bool → Prop
  | 0, x, y, b => scalD x y = some b ∨ ∃ c m ds es, x = .ins c ds ∧ y = .ins c es ∧ look tab c = some (2, m) ∧ m [x, y] (fun d => d = .bl b) (fun _ _ => False) ∧ (x = y → b = true)
  | n + 1, x, y, b => EqN tab n x y b ∨ ∃ xs ys eqf, x = .tup xs ∧ y = .tup ys ∧ (∀ (i : Nat) x y, xs[i]? = some x → ys[i]? = some y → EqN tab n x y (eqf i)) ∧ b = (decide (xs.length = ys.length) && (List.range (min xs.length ys.length)).all eqf)
theorem scal_same {x y : D} {b : Bool} (h : scalD x y = some b) (e : x = y) : b = true := by
  subst e
  cases x with
  | non =>
    cases h
    rfl
  | int i =>
    have h : some (decide (i = i)) = some b := h
    rw [← Option.some.inj h, decide_eq_true rfl]
  | bl i =>
    have h : some (decide (i = i)) = some b := h
    rw [← Option.some.inj h, decide_eq_true rfl]
  | str i =>
    have h : some (decide (i = i)) = some b := h
    rw [← Option.some.inj h, decide_eq_true rfl]
  | _ => cases h
theorem eqN_same {tab : Tab} : ∀ {n : Nat} {x y : D} {b : Bool}, EqN tab n x y b → x = y → b = true
  | 0, x, y, b, h, e => by
    rcases h with h | ⟨c, m, ds, es, _, _, _, _, k⟩
    · exact scal_same h e
    · exact k e
  | n + 1, x, y, b, h, e => by
    rcases h with h | ⟨xs, ys, eqf, h1, h2, hh, rfl⟩
    · exact eqN_same h e
    · subst h1
      injection (e.trans h2) with e
      subst e
      rw [decide_eq_true rfl, Bool.true_and, List.all_eq_true]
      intro i hi
      rw [List.mem_range, Nat.min_self] at hi
      exact eqN_same (hh i _ _ (List.getElem?_eq_getElem hi) (List.getElem?_eq_getElem hi)) rfl
section
variable {X : Cx} {N : Cd} {k nc : Nat} {tab : Tab} {pins : List (Addr × Obj)} {σ : L2.St} {O : Addr → Prop}
theorem eq_scal {A : Around} {s : Shared} {H : Hp} {x y : V} {u v : Value} {dx dy : D} {b : Bool} (rx : Rep N O H x dx) (ry : Rep N O H y dy) (e : scalD dx dy = some b) (ru : RelV x u) (rv : RelV y v) : SeqAt.EqAt A s u v b := by
  unfold scalD at e
  split at e
  · cases e; cases rx; cases ry
    obtain ⟨t1, rfl⟩ := ru
    obtain ⟨t2, rfl⟩ := rv
    exact (SeqAt.EqAt.int_int _ _ _ _).cast (by rw [Bool.eq_iff_iff, beq_iff_eq, decide_eq_true_eq])
  · cases e; cases rx; cases ry; cases ru; cases rv
    exact (SeqAt.EqAt.bool_bool _ _).cast (by rw [Bool.eq_iff_iff, beq_iff_eq, decide_eq_true_eq])
  · cases e; cases rx; cases ry
    obtain ⟨t1, rfl⟩ := ru
    obtain ⟨t2, rfl⟩ := rv
    exact (SeqAt.EqAt.str_str _ _ _ _).cast (by rw [Bool.eq_iff_iff, beq_iff_eq, decide_eq_true_eq])
  · cases e; cases rx; cases ry; cases ru; cases rv
    exact SeqAt.EqAt.same _
  · cases e; cases rx; cases ry; cases ru
    obtain ⟨t2, rfl⟩ := rv
    exact SeqAt.EqAt.none_int _ _
  · cases e; cases rx; cases ry; cases rv
    obtain ⟨t1, rfl⟩ := ru
    exact SeqAt.EqAt.int_none _ _
  · cases e; cases rx; cases ry; cases ru; cases rv
    exact SeqAt.EqAt.none_bool _
  · cases e; cases rx; cases ry; cases ru; cases rv
    exact SeqAt.EqAt.bool_none _
  · cases e; cases rx; cases ry; cases ru
    obtain ⟨t2, rfl⟩ := rv
    exact SeqAt.EqAt.none_str _ _
  · cases e; cases rx; cases ry; cases rv
    obtain ⟨t1, rfl⟩ := ru
    exact SeqAt.EqAt.str_none _ _
  · cases e
theorem rc_any {d : Nat} {A : Around} {s : Shared} {H : Hp} (hK : X.K = N.K) (sb : Sub X (k + d + 1) A) (I : Inv X pins σ H s) (dm : Dm N O H) {x y : V} {u v : Value} {xs ys : List D} {eqf : Nat → Bool} (rx : Rep N O H x (.tup xs)) (ry : Rep N O H y (.tup ys)) (ru : RelV x u) (rv : RelV y v) (gx : goodCs nc xs = true) (gy : goodCs nc ys = true)
    (item : ∀ (i : Nat) dx dy, xs[i]? = some dx → ys[i]? = some dy → goodC nc dx = true → goodC nc dy = true → ∀ (A : Around) (s : Shared) (H : Hp), Sub X (k + d) A → Inv X pins σ H s → Dm N O H → ∀ (x y : V) (u v : Value), Rep N O H x dx → Rep N O H y dy → RelV x u → RelV y v → wpAny (model X.prog X.w) A (eqBool u v) (fun r s' => r = eqf i ∧ LoopM N X pins σ H s') X.xe s) :
    wpAny (model X.prog X.w) A (richCompare .Eq u v) (fun r s' => r = .bool (decide (xs.length = ys.length) && (List.range (min xs.length ys.length)).all eqf) ∧ LoopM N X pins σ H s') X.xe s := by
  obtain ⟨a, vs, rfl, s1, ra⟩ := rx.sqt
  obtain ⟨b, ws, rfl, s2, rb⟩ := ry.sqt
  cases ru
  cases rv
  rw [← hK] at s1 s2
  obtain ⟨its, va, ta, z1⟩ := I.tuple s1
  obtain ⟨its2, vb, tb, z2⟩ := I.tuple s2
  have l1 : its.toArray.size = xs.length := by rw [List.size_toArray, ← va.length, ra.length]
  have l2 : its2.toArray.size = ys.length := by rw [List.size_toArray, ← vb.length, rb.length]
  refine GQ.rc_tupB (items := its.toArray) (items2 := its2.toArray) sb.room.units0 (fun i s' => LoopM N X pins σ H s' ∧ (List.range i).all eqf = true) (fun s' => LoopM N X pins σ H s' ∧ ∃ i, i < min xs.length ys.length ∧ eqf i = false) ta tb (fun i h1 h2 s' ⟨⟨H1, I1, e1⟩, al⟩ => ?_) (fun s' ⟨⟨H1, I1, e1⟩, al⟩ => ?_) (fun s' ⟨⟨H1, I1, e1⟩, i, hi, ef⟩ => ?_) ⟨⟨H, I, SmT.same dm.2 (L2.Same.refl _)⟩, rfl⟩
  · have xx : Ext O H O H1 := Ext.smt e1
    obtain ⟨w1, d1, hd1, rd1, rel1⟩ := reps_val (ra.ext xx) va h1
    obtain ⟨w2, d2, hd2, rd2, rel2⟩ := reps_val (rb.ext xx) vb h2
    refine wpAny_mono (item i d1 d2 hd1 hd2 (goodCs_at gx hd1) (goodCs_at gy hd2) A.in1 s' H1 sb.in1 I1 (dm.smt e1) w1 w2 _ _ rd1 rd2 rel1 rel2) (fun r s2 z => ?_) fun _ _ x => x
    obtain ⟨er, H2, I2, e2⟩ := z
    have ll : LoopM N X pins σ H s2 := ⟨H2, I2, e1.trans e2⟩
    cases hf : eqf i with
    | true =>
      refine .inl ⟨by rw [er, hf], ll, ?_⟩
      rw [List.range_succ, List.all_append, al]
      simp [hf]
    | false => exact .inr ⟨by rw [er, hf], ll, i, by rw [l1] at h1; rw [l2] at h2; omega, hf⟩
  · refine ⟨?_, H1, I1, e1⟩
    rw [l1, l2] at al ⊢
    rw [al, Bool.and_true]
    congr 1
  · refine ⟨?_, H1, I1, e1⟩
    have e : (List.range (min xs.length ys.length)).all eqf = false := by
      rw [Bool.eq_false_iff]
      intro z
      rw [List.all_eq_true] at z
      rw [z i (List.mem_range.mpr hi)] at ef
      cases ef
    rw [e, Bool.and_false]
theorem eqB_any (M : McAt X.prog X.w X.mg X.base N k "__eq__" tab) (C : Cfs N nc) (hK : X.K = N.K) : ∀ (d : Nat) (dx dy : D) (b : Bool), EqN tab d dx dy b → goodC nc dx = true → goodC nc dy = true → ∀ (A : Around) (s : Shared) (H : Hp), Sub X (k + d) A → Inv X pins σ H s → Dm N O H → ∀ (x y : V) (u v : Value), Rep N O H x dx → Rep N O H y dy → RelV x u → RelV y v →
    wpAny (model X.prog X.w) A (eqBool u v) (fun r s' => r = b ∧ LoopM N X pins σ H s') X.xe s
  | 0, dx, dy, b, h, gx, gy, A, s, H, sb, I, dm, x, y, u, v, rx, ry, ru, rv => by
    rcases h with h | ⟨c, m, ds, es, rfl, rfl, hl, q, same⟩
    · exact eq_scal rx ry h ru rv X.prog X.w X.xe _ ⟨rfl, H, I, SmT.same dm.2 (L2.Same.refl _)⟩
    · obtain ⟨_, f, fd, ps, ok, me, hb⟩ := M c 2 m hl
      rw [← hK] at ok me hb
      obtain ⟨p1, _, _, ew1, _⟩ := rep_ins rx
      obtain ⟨p2, _, _, ew2, _⟩ := rep_ins ry
      subst ew1 ew2
      cases ru
      cases rv
      have inj : ∀ c d, c < nc → d < nc → N.cl c = N.cl d → c = d := fun c d hc hd e => by
        have h1 := C.kitO c hc d hd
        have h2 := C.kitO c hc c hc
        rw [e] at h1 h2
        have h3 := C.kitO d hd d hd
        rw [h3] at h1
        simpa using h1
      exact eqB_ins (A := A) ok me.at_ me.fn hb sb I dm rx ry ⟨ds, rfl⟩ ⟨es, rfl⟩ q fun e => same (by
        subst e
        exact Rep.uniq (uq_of I hK inj) rx gx ry gy)
  | d + 1, dx, dy, b, h, gx, gy, A, s, H, sb, I, dm, x, y, u, v, rx, ry, ru, rv => by
    rcases h with h | ⟨xs, ys, eqf, rfl, rfl, hh, eb⟩
    · exact eqB_any M C hK d dx dy b h gx gy A s H (sb.mono (by omega)) I dm x y u v rx ry ru rv
    · have inj : ∀ c d, c < nc → d < nc → N.cl c = N.cl d → c = d := fun c d hc hd e => by
        have h1 := C.kitO c hc d hd
        have h2 := C.kitO c hc c hc
        rw [e] at h1 h2
        have h3 := C.kitO d hd d hd
        rw [h3] at h1
        simpa using h1
      have rc := rc_any (d := d) hK sb I dm rx ry ru rv gx gy fun i dx dy h1 h2 g1 g2 A s H sb I dm x y u v => eqB_any M C hK d dx dy (eqf i) (hh i dx dy h1 h2) g1 g2 A s H sb I dm x y u v
      have same : (D.tup xs = D.tup ys → b = true) := fun e => eqN_same (tab := tab) (n := d + 1) (.inr ⟨xs, ys, eqf, rfl, rfl, hh, eb⟩) e
      obtain ⟨a, vs, rfl, _, _⟩ := rx.sqt
      obtain ⟨a2, ws, rfl, _, _⟩ := ry.sqt
      cases ru
      cases rv
      by_cases e : a = a2
      · subst e
        rw [same (Rep.uniq (uq_of I hK inj) rx gx ry gy)]
        exact SeqAt.EqAt.same (A := A) (s := s) (.ref a) X.prog X.w X.xe _ ⟨rfl, H, I, SmT.same dm.2 (L2.Same.refl _)⟩
      · refine GQ.eqBool_refG e (wpAny_mono rc (fun r s' z => ?_) fun _ _ x => x)
        exact ⟨b, by rw [eb]; exact z.1, rfl, z.2⟩
def eqSW (nc : Nat) (tab : Tab) : W2 := fun dx dy Q _ => ∃ (xs ys : List D) (b : Bool), dx = .tup xs ∧ dy = .tup ys ∧ goodC nc dx = true ∧ goodC nc dy = true ∧ EqN tab 4 dx dy b ∧ Q (.bl b)
def rEqSW (N : Cn) (nc : Nat) (tab : Tab) : R2 := fun x y H Q => ∃ (O : Addr → Prop) (dx dy : D) (b : Bool), Dm N O H ∧ Rep N O H x dx ∧ Rep N O H y dy ∧ (∃ xs ys eqf, dx = .tup xs ∧ dy = .tup ys ∧ (∀ (i : Nat) x y, xs[i]? = some x → ys[i]? = some y → EqN tab 3 x y (eqf i)) ∧ b = (decide (xs.length = ys.length) && (List.range (min xs.length ys.length)).all eqf)) ∧ goodC nc dx = true ∧ goodC nc dy = true ∧ ∀ H', SmT N H H' → Q (.bl b) H'
theorem eqN_top {xs ys : List D} {b : Bool} : ∀ {n : Nat}, EqN tab n (.tup xs) (.tup ys) b → ∃ eqf, (∀ (i : Nat) x y, xs[i]? = some x → ys[i]? = some y → EqN tab (n - 1) x y (eqf i)) ∧ b = (decide (xs.length = ys.length) && (List.range (min xs.length ys.length)).all eqf)
  | 0, h => by
    rcases h with h | ⟨c, m, ds, es, e, _⟩
    · cases h
    · cases e
  | n + 1, h => by
    rcases h with h | ⟨xs', ys', eqf, e1, e2, hh, eb⟩
    · obtain ⟨eqf, hh, eb⟩ := eqN_top (n := n) h
      refine ⟨eqf, fun i x y h1 h2 => ?_, eb⟩
      have z := hh i x y h1 h2
      cases n with
      | zero => exact z
      | succ n => exact .inl z
    · cases e1
      cases e2
      exact ⟨eqf, hh, eb⟩
theorem sv_eqSW : Sv2 N (rEqSW N nc tab) (eqSW nc tab) := fun O H x y dx dy Qd Ed Q xk dm rx ry q kk => by
  obtain ⟨xs, ys, b, rfl, rfl, g1, g2, h, q⟩ := q
  obtain ⟨eqf, hh, eb⟩ := eqN_top (n := 4) h
  have ry' := ry.rep fun _ z => (nomatch z)
  exact ⟨O, _, _, b, dm, rx, ry', ⟨xs, ys, eqf, rfl, rfl, hh, eb⟩, g1, g2, fun H' s => kk _ H' _ s (.bl _) q⟩
theorem od_eqSW (M : McAt X.prog X.w X.mg X.base N k "__eq__" tab) (hr : Room (k + 4) X.A) (C : Cfs N nc) (hK : X.K = N.K := by rfl) : OpR X (compareOp .Eq) (rEqSW N nc tab) := by
  intro pins s σ H x y v u Q I rx ry h
  obtain ⟨O, dx, dy, b, dm, r1, r2, ⟨xs, ys, eqf, rfl, rfl, hh, eb⟩, g1, g2, q⟩ := h
  show wpAny (model X.prog X.w) X.A (richCompare .Eq v u) (EP X pins σ Q) X.xe s
  have rc := rc_any (d := 3) (A := X.A) hK ⟨hr, rfl⟩ I dm r1 r2 rx ry g1 g2 fun i dx dy h1 h2 g1 g2 A s H sb I dm x y u v => eqB_any M C hK 3 dx dy (eqf i) (hh i dx dy h1 h2) g1 g2 A s H sb I dm x y u v
  refine wpAny_mono rc (fun r s' z => ?_) fun _ _ x => x
  obtain ⟨er, H1, I1, e1⟩ := z
  exact ⟨.bl b, H1, I1, by rw [er, eb]; rfl, q H1 e1⟩
end
end Fd

namespace GQ
open PySem PySem.SeqAt
open AutoSeq1 (wpAny_loadPart')
open MeetsSeq MeetsSeq2 MeetsSeq3 SeqRoads2
end GQ
namespace Fd
open PySem PySem.Spec PyProof.Rows L2 Wd
def eqLS (nc : Nat) (tab : Tab) : W2 := fun dx dy Q _ => ∃ xs, dx = .lst xs ∧ dy = .lst xs ∧ goodCs nc xs = true ∧ (∀ x ∈ xs, EqN tab 3 x x true) ∧ Q (.bl true)
def rEqLS (N : Cn) (nc : Nat) (tab : Tab) : R2 := fun x y H Q => ∃ (O : Addr → Prop) (xs : List D) (b : Addr) (us : List V), Dm N O H ∧ Rep N O H x (.lst xs) ∧ y = .ref b ∧ H b = some (.lst us) ∧ Reps N O H us xs ∧ goodCs nc xs = true ∧ (∀ x ∈ xs, EqN tab 3 x x true) ∧ ∀ H', SmT N H H' → Q (.bl true) H'
section
variable {X : Cx} {N : Cd} {k nc : Nat} {tab : Tab}
theorem sv_eqLS : Sv2 N (rEqLS N nc tab) (eqLS nc tab) := fun O H x y dx dy Qd Ed Q xk dm rx ry q kk => by
  obtain ⟨xs, rfl, rfl, g, h, q⟩ := q
  obtain ⟨b, us, rfl, hb, rb⟩ := repB_lst ry
  exact ⟨O, xs, b, us, dm, rx, rfl, hb, rb, g, h, fun H' s => kk _ H' _ s (.bl _) q⟩
theorem od_eqLS (M : McAt X.prog X.w X.mg X.base N k "__eq__" tab) (hr : Room (k + 4) X.A) (C : Cfs N nc) (hK : X.K = N.K := by rfl) : OpR X (compareOp .Eq) (rEqLS N nc tab) := by
  intro pins s σ H x y v u Q I rx ry h
  obtain ⟨O, xs, b, us, dm, r1, rfl, hb, rb, g, hE, q⟩ := h
  obtain ⟨a, vs, rfl, ha, ra⟩ := repB_lst (.of r1)
  cases rx
  cases ry
  show wpAny (model X.prog X.w) X.A (richCompare .Eq (.ref a) (.ref b)) (EP X pins σ Q) X.xe s
  have sub : Sub X (k + 3 + 1) X.A := ⟨hr, rfl⟩
  refine GQ.rc_listG (N := xs.length) hr.units0 (fun _ s' => LoopM N X pins σ H s') (fun i s' ⟨H1, I1, e1⟩ => ?_) (fun s' ⟨H1, I1, e1⟩ => ⟨.bl true, H1, I1, rfl, q H1 e1⟩) ⟨H, I, SmT.same dm.2 (L2.Same.refl _)⟩
  have xx : Ext O H O H1 := Ext.smt e1
  obtain ⟨_, its, n, r, l1, e⟩ := I1.lstM (e1.st a _ ha fun _ => nofun)
  obtain ⟨_, its2, n2, r2, l2, e2⟩ := I1.lstM (e1.st b _ hb fun _ => nofun)
  have z1 : its.toArray.size = xs.length := by rw [List.size_toArray, ← l1, ra.length]
  have z2 : its2.toArray.size = xs.length := by rw [List.size_toArray, ← l2, rb.length]
  refine ⟨_, _, _, _, e, e2, z1, z2, fun h1 h2 => ?_⟩
  obtain ⟨w1, d1, hd1, rd1, rel1⟩ := reps_val (ra.ext xx) r h1
  obtain ⟨w2, d2, hd2, rd2, rel2⟩ := reps_val (rb.ext xx) r2 h2
  have ed : d1 = d2 := by
    rw [hd1] at hd2
    cases hd2
    rfl
  subst ed
  refine wpAny_mono (eqB_any M C hK 3 d1 d1 true (hE _ (List.mem_of_getElem? hd1)) (goodCs_at g hd1) (goodCs_at g hd1) X.A.in1 s' H1 sub.in1 I1 (dm.smt e1) w1 w2 _ _ rd1 rd2 rel1 rel2) (fun r s2 z => ?_) fun _ _ x => x
  obtain ⟨er, H2, I2, e3⟩ := z
  exact ⟨er, H2, I2, e1.trans e3⟩
def eqAny (nc : Nat) (tab : Tab) : W2 := fun dx dy Q E => eqW nc tab dx dy Q E ∨ eqSW nc tab dx dy Q E ∨ eqLS nc tab dx dy Q E
theorem sv_or2 {r1 r2 : R2} {f1 f2 : W2} (h1 : Sv2 N r1 f1) (h2 : Sv2 N r2 f2) : Sv2 N (fun x y H Q => r1 x y H Q ∨ r2 x y H Q) (fun dx dy Q E => f1 dx dy Q E ∨ f2 dx dy Q E) := fun O H x y dx dy Qd Ed Q xk dm rx ry q kk =>
  q.elim (fun q => .inl (h1 O H x y dx dy Qd Ed Q xk dm rx ry q kk)) fun q => .inr (h2 O H x y dx dy Qd Ed Q xk dm rx ry q kk)
theorem sv_eqAny (C : Cfs N nc) (hK : X.K = N.K := by rfl) : Sv2 N (fun x y H Q => (rEqAll X.K x y H Q ∨ rEqOwn N tab x y H Q) ∨ (rEqSW N nc tab x y H Q ∨ rEqLS N nc tab x y H Q)) (eqAny nc tab) := sv_or2 (sv_eqW C hK) (sv_or2 sv_eqSW sv_eqLS)
theorem od_eqAny (M : McAt X.prog X.w X.mg X.base N k "__eq__" tab) (hr : Room (k + 4) X.A) (hu : X.A.units + 64 < cLine) (C : Cfs N nc) (hK : X.K = N.K := by rfl) : OpR X (compareOp .Eq) (fun x y H Q => (rEqAll X.K x y H Q ∨ rEqOwn N tab x y H Q) ∨ (rEqSW N nc tab x y H Q ∨ rEqLS N nc tab x y H Q)) :=
  OpR.or (od_eqW M (hr.mono (by omega)) hu hK) (OpR.or (od_eqSW M hr C hK) (od_eqLS M hr C hK))
end
def flatD : D → Bool
  | .non => true
  | .bl _ => true
  | .int _ => true
  | .str _ => true
  | _ => false
def dataD (d : D) : Bool := match toPy d with
  | some p => SeqAt.shaped p && PyData.eqv p p
  | none => false
def dkD : D → Bool
  | .dk ks ds => decide ks.Nodup && ds.all flatD
  | _ => false
def seD : Nat → D → Bool
  | 0, d => dataD d || dkD d
  | n + 1, d => seD n d || match d with
    | .tup xs => xs.all (seD n)
    | .lst xs => xs.all (seD n)
    | _ => false
section
variable {X : Cx} {N : Cd} {pins : List (Addr × Obj)} {σ : L2.St} {O : Addr → Prop}
theorem flat_fun {H : Hp} {v w : V} {d : D} (f : flatD d = true) (r1 : Rep N O H v d) (r2 : Rep N O H w d) : v = w ∧ flatB v = true := by
  cases d <;> cases f <;> cases r1 <;> cases r2 <;> exact ⟨rfl, rfl⟩
theorem flats_fun {H : Hp} : ∀ {vs ws : List V} {ds : List D}, Reps N O H vs ds → Reps N O H ws ds → ds.all flatD = true → vs = ws ∧ ∀ v ∈ vs, flatB v = true
  | _, _, _, .nil, .nil, _ => ⟨rfl, fun _ h => nomatch h⟩
  | _, _, _, .cons a r, .cons b s, h => by
    rw [List.all_cons, Bool.and_eq_true] at h
    obtain ⟨e1, f1⟩ := flat_fun h.1 a b
    obtain ⟨e2, f2⟩ := flats_fun r s h.2
    subst e1 e2
    exact ⟨rfl, fun v hv => (List.mem_cons.mp hv).elim (fun e => by rw [e]; exact f1) (f2 v)⟩
theorem se_rc (hK : X.K = N.K) : ∀ (n : Nat) (d : D), seD n d = true → ∀ (A : Around) (s : Shared) (H : Hp), A.units + n + 65 < cLine → Inv X pins σ H s → ∀ (x y : V) (u v : Value), Rep N O H x d → Rep N O H y d → RelV x u → RelV y v →
    SeqAt.EqP X.prog X.w A s u v true ∧ ∀ (E Q : Value → Shared → Prop), Q (.bool true) s → wpAny (model X.prog X.w) A (richCompare .Eq u v) Q E s
  | 0, d, h, A, s, H, hu, I, x, y, u, v, rx, ry, ru, rv => by
    rcases Bool.or_eq_true_iff.mp h with h | h
    · unfold dataD at h
      cases e : toPy d with
      | none =>
        rw [e] at h
        cases h
      | some p =>
        rw [e] at h
        obtain ⟨h1, h2⟩ := Bool.and_eq_true_iff.mp h
        have d1 := rx.dp e
        have d2 := ry.dp e
        rw [← hK] at d1 d2
        obtain ⟨as, ra⟩ := Dp.reads I p x u d1 ru
        obtain ⟨bs, rb⟩ := Dp.reads I p y v d2 rv
        have c := SeqAt.canLay_of_shaped h1
        have room := SeqAt.room_of_shaped (A := A) (db := p) h1 (by omega)
        have eq := SeqAt.eqAt_reads p p A s u v as bs ra rb c c room
        have rc := SeqAt.rcAt_reads ra rb c c room
        rw [h2] at eq rc
        exact ⟨eq.eqP, fun E Q q => rc X.prog X.w E Q q⟩
    · cases d with
      | dk ks ds =>
        obtain ⟨h1, h2⟩ := Bool.and_eq_true_iff.mp h
        have nd := of_decide_eq_true h1
        cases rx with
        | @dk a kvs _ _ no hr ek r =>
          cases ry with
          | @dk b lvs _ _ no2 hr2 ek2 r2 =>
            cases ru
            cases rv
            obtain ⟨ev, fl⟩ := flats_fun r r2 h2
            have ekl : kvs = lvs := by
              have z : ∀ (l m : List (Key × V)), l.map (·.1) = m.map (·.1) → l.map (·.2) = m.map (·.2) → l = m := fun l => by
                induction l with
                | nil =>
                  intro m h _
                  cases m with
                  | nil => rfl
                  | cons _ _ => cases h
                | cons p l ih =>
                  intro m h1 h2
                  cases m with
                  | nil => cases h1
                  | cons q m =>
                    injection h1 with a1 a2
                    injection h2 with b1 b2
                    rw [ih m a2 b2, Prod.ext a1 b1]
              exact z _ _ (ek.trans ek2.symm) ev
            subst ekl
            obtain ⟨_, ya, va, ra, da⟩ := dk_rd I.hok hr
            obtain ⟨_, yb, vb, rb, db⟩ := dk_rd I.hok hr2
            have hl : va.length = vb.length := ra.length.symm.trans rb.length
            have rc : ∀ (E Q : Value → Shared → Prop), Q (.bool true) s → wpAny (model X.prog X.w) A (richCompare .Eq (.ref a) (.ref b)) Q E s := fun E Q q =>
              PySem.W.keq_eq (knd := mixKind X.prog X.w) (r := true) ya yb da db (by omega) (fun _ => hits_all rb ra fun p hp => ⟨val_nodup (by rw [ek]; exact nd) p hp, fl p.2 (List.mem_map.mpr ⟨p, hp, rfl⟩)⟩) (by
                rw [hl]
                simpa using q)
            refine ⟨?_, rc⟩
            by_cases e : a = b
            · subst e
              exact (SeqAt.EqAt.same _).eqP
            · exact SeqAt.eqP_refs e rc
      | _ => cases h
  | n + 1, d, h, A, s, H, hu, I, x, y, u, v, rx, ry, ru, rv => by
    rcases Bool.or_eq_true_iff.mp h with h | h
    · exact se_rc hK n d h A s H (by omega) I x y u v rx ry ru rv
    · have hin : A.in1.units + n + 65 < cLine := by
        show A.units + 1 + n + 65 < cLine
        omega
      cases d with
      | tup xs =>
        obtain ⟨a, vs, rfl, s1, ra⟩ := rx.sqt
        obtain ⟨b, ws, rfl, s2, rb⟩ := ry.sqt
        cases ru
        cases rv
        rw [← hK] at s1 s2
        obtain ⟨its, va, ta, z1⟩ := I.tuple s1
        obtain ⟨its2, vb, tb, z2⟩ := I.tuple s2
        have l1 : its.toArray.size = xs.length := by rw [List.size_toArray, ← va.length, ra.length]
        have l2 : its2.toArray.size = xs.length := by rw [List.size_toArray, ← vb.length, rb.length]
        have rc : ∀ (E Q : Value → Shared → Prop), Q (.bool true) s → wpAny (model X.prog X.w) A (richCompare .Eq (.ref a) (.ref b)) Q E s := fun E Q q => by
          refine GQ.rc_tupB (items := its.toArray) (items2 := its2.toArray) (by omega) (fun _ s' => s' = s) (fun _ => False) ta tb (fun i h1 h2 s' e => ?_) (fun s' e => ?_) (fun _ z => z.elim) rfl
          · subst e
            obtain ⟨w1, d1, hd1, rd1, rel1⟩ := reps_val ra va h1
            obtain ⟨w2, d2, hd2, rd2, rel2⟩ := reps_val rb vb h2
            have ed : d1 = d2 := by
              rw [hd1] at hd2
              cases hd2
              rfl
            subst ed
            exact (se_rc hK n d1 (List.all_eq_true.mp h d1 (List.mem_of_getElem? hd1)) A.in1 s' H hin I w1 w2 _ _ rd1 rd2 rel1 rel2).1 _ _ (.inl ⟨rfl, rfl⟩)
          · subst e
            rw [l1, l2, beq_self_eq_true]
            exact q
        refine ⟨?_, rc⟩
        by_cases e : a = b
        · subst e
          exact (SeqAt.EqAt.same _).eqP
        · exact SeqAt.eqP_refs e rc
      | lst xs =>
        obtain ⟨a, vs, rfl, ha, ra⟩ := repB_lst (.of rx)
        obtain ⟨b, ws, rfl, hb, rb⟩ := repB_lst (.of ry)
        cases ru
        cases rv
        obtain ⟨_, its, k1, va, l1, e1⟩ := I.lstM ha
        obtain ⟨_, its2, k2, vb, l2, e2⟩ := I.lstM hb
        have z1 : its.toArray.size = xs.length := by rw [List.size_toArray, ← l1, ra.length]
        have z2 : its2.toArray.size = xs.length := by rw [List.size_toArray, ← l2, rb.length]
        have rc : ∀ (E Q : Value → Shared → Prop), Q (.bool true) s → wpAny (model X.prog X.w) A (richCompare .Eq (.ref a) (.ref b)) Q E s := fun E Q q => by
          refine SeqAt.rcP_lists (items := its.toArray) (items2 := its2.toArray) (e := fun _ => true) ⟨_, e1, rfl, _, rfl⟩ ⟨_, e2, rfl, _, rfl⟩ (z1.trans z2.symm) (by omega) (fun j h1 h2 => ?_) E Q ?_
          · obtain ⟨w1, d1, hd1, rd1, rel1⟩ := reps_val ra va h1
            obtain ⟨w2, d2, hd2, rd2, rel2⟩ := reps_val rb vb h2
            have ed : d1 = d2 := by
              rw [hd1] at hd2
              cases hd2
              rfl
            subst ed
            exact (se_rc hK n d1 (List.all_eq_true.mp h d1 (List.mem_of_getElem? hd1)) A.in1 s H hin I w1 w2 _ _ rd1 rd2 rel1 rel2).1
          · rw [List.all_eq_true.mpr fun _ _ => rfl]
            exact q
        refine ⟨?_, rc⟩
        by_cases e : a = b
        · subst e
          exact (SeqAt.EqAt.same _).eqP
        · exact SeqAt.eqP_refs e rc
      | _ => cases h
def eqSe : W2 := fun dx dy Q _ => dx = dy ∧ seD 3 dx = true ∧ (∀ l, dy ≠ .lst l) ∧ Q (.bl true)
def rEqSe (N : Cn) : R2 := fun x y H Q => ∃ (O : Addr → Prop) (d : D), Rep N O H x d ∧ Rep N O H y d ∧ seD 3 d = true ∧ Q (.bl true) H
theorem sv_eqSe : Sv2 N (rEqSe N) eqSe := fun O H x y dx dy Qd Ed Q xk dm rx ry q kk => by
  obtain ⟨rfl, h, nl, q⟩ := q
  exact ⟨O, dx, rx, ry.rep nl, h, kk _ H _ (SmT.same dm.2 (L2.Same.refl _)) (.bl _) q⟩
theorem od_eqSe (hu : X.A.units + 68 < cLine) (hK : X.K = N.K := by rfl) : OpR X (compareOp .Eq) (rEqSe N) := by
  intro pins s σ H x y v u Q I rx ry h
  obtain ⟨O, d, r1, r2, hd, q⟩ := h
  show wpAny (model X.prog X.w) X.A (richCompare .Eq v u) (EP X pins σ Q) X.xe s
  exact (se_rc hK 3 d hd X.A s H (by omega) I x y v u r1 r2 rx ry).2 _ _ ⟨.bl true, H, I, rfl, q⟩
end
def eqAnyS (nc : Nat) (tab : Tab) : W2 := fun dx dy Q E => eqAny nc tab dx dy Q E ∨ eqSe dx dy Q E
section
variable {X : Cx} {N : Cd} {k nc : Nat} {tab : Tab}
theorem sv_eqAnyS (C : Cfs N nc) (hK : X.K = N.K := by rfl) : Sv2 N (fun x y H Q => ((rEqAll X.K x y H Q ∨ rEqOwn N tab x y H Q) ∨ (rEqSW N nc tab x y H Q ∨ rEqLS N nc tab x y H Q)) ∨ rEqSe N x y H Q) (eqAnyS nc tab) := sv_or2 (sv_eqAny C hK) sv_eqSe
theorem od_eqAnyS (M : McAt X.prog X.w X.mg X.base N k "__eq__" tab) (hr : Room (k + 4) X.A) (C : Cfs N nc) (hK : X.K = N.K := by rfl) : OpR X (compareOp .Eq) (fun x y H Q => ((rEqAll X.K x y H Q ∨ rEqOwn N tab x y H Q) ∨ (rEqSW N nc tab x y H Q ∨ rEqLS N nc tab x y H Q)) ∨ rEqSe N x y H Q) :=
  OpR.or (od_eqAny M hr hr.units C hK) (od_eqSe (by have := hr.un; omega) hK)
end
end Fd

namespace Wd
open PySem PySem.Spec PyProof.Rows L2
end Wd
namespace Fd
open PySem PySem.Spec PyProof.Rows L2 Wd
instance (i j : Int) : Decidable (CPow i j) := inferInstanceAs (Decidable (_ ∧ _))
def opPow : D → D → Option D
  | .int i, .int j => if CPow i j then some (.int (i ^ j.toNat)) else none
  | _, _ => none
section
variable {X : Cx} {N : Cd} {e : Expr} {fa : F} {k : Nat} {p1 p2 p3 pos : Pos}
theorem reps_flat {O : Addr → Prop} {H : Hp} {vs : List V} {ds : List D} (r : Reps N O H vs ds) : ∀ n : Nat, Reps N O H (List.replicate n vs).flatten (List.replicate n ds).flatten
  | 0 => .nil
  | n + 1 => by
    rw [List.replicate_succ, List.replicate_succ, List.flatten_cons, List.flatten_cons]
    exact r.app (reps_flat r n)
theorem sv_pow : Sv2 N (rI CPow fun i j => .int (i ^ j.toNat)) (o2 opPow) := svo2 fun O H x y dx dy d Q dm rx ry e kk => by
  unfold opPow at e
  split at e
  · split at e
    · rename_i hz
      cases e
      cases rep_int (.of rx)
      cases rep_int ry
      exact ⟨_, _, rfl, rfl, hz, kk _ H (L2.Same.refl _) (.int _)⟩
    · cases e
  · cases e
end
def sRaise (n : Nat) (fe : F) : FS := fun _ ρ E => fe ρ (fun d _ => E n d) E
structure Xc (P : Program) (w : World) (mg : Str → Option Value) (base : Heap) (N : Cn) (x : Str) (n : Nat) : Prop where
  cls : WeC N.K (N.xc 0) (N.xc n)
  glo : mg x = some (.ref (N.xc n))
  ex : ∃ fI fd, PySem.W.findIn N.K (.ref (N.xc n)) "__init__" = some (some (.ref fI)) ∧ PySem.W.typeIn N.K (.ref fI) = some (.type "function") ∧ FnOk P w N.K mg base (CX P w) 1 fI fd ["self", "value"] (spWE N.K (N.xc 0)) ∧ Binds N.K fd ["self", "value"] []
section
variable {X : Cx} {N : Cd} {e : Expr} {fe : F} {x : Str} {n : Nat} {p pos pos' : Pos}
theorem ds_raise (C : Xc X.prog X.w X.mg X.base N x n) (hc : X.calm = true) (hr : Room 2 X.A) (hg : Gl X x) (he : PE X e (tD N fe)) (hdb : (x == ("__debug__" : Str)) = false := by decide) (hst : starEach [e] X.env = (false, eval e X.env) :: starEach [] X.env := by rfl) (hK : X.K = N.K := by rfl) (tk : Tk X N := by first | assumption | exact tkB) :
    PS X (.Raise (some (.Call (.Name x p) [e] [] pos)) none pos') (tS N (sRaise n fe)) := by
  obtain ⟨fI, fd, iC, tI, ok, hb⟩ := C.ex
  have T := C.cls
  rw [← hK] at T iC tI ok hb
  refine PS.imp (ps_raise hc tk (pmk_oex (pos := pos) (p := p) T.oex iC tI ok hr hb .nil (tkB (N := N)).pass hg C.glo (pa_cons he pa_nil hst) hdb hst rfl)) fun De σ H ⟨Z, O, ρ, D, S, q, g⟩ => ?_
  refine ⟨Z, O, ρ, _, S, q, fun v H1 O1 d ρ1 x1 S1 r1 q1 => ?_⟩
  refine ⟨by simp, fun a ha => ⟨a, _, v, rfl, T, upd_same, fun dx hdx ne => ⟨rfl, dx, [("value", v)], upd_same, ?_, ?_, ?_⟩⟩⟩
  · rw [upd_ne ne, upd_same]
  · rwa [upd_ne ne] at hdx
  · rw [upd_ne ne] at hdx
    have sm : Same H1 (upd (del (upd (upd (upd H1 a (exo a (N.xc n) none)) dx (exd dx [("value", v)])) a (exo a (N.xc n) (some dx))) a) dx (.xd [("value", v)])) := fun b o e => by
      have nb : b ≠ dx := ne_of_none e hdx
      have na : b ≠ a := ne_of_none e ha
      rw [upd_ne nb, del_ne na, upd_ne na, upd_ne nb, upd_ne na]
      exact e
    exact S1.xq _ _ _ n d (SmT.same S1.tab sm) ⟨dx, v, rfl, rfl, fun z => S1.dom dx z hdx, upd_same, r1.ext (Ext.same sm)⟩ q1
end
theorem exc_ok {P : Program} {w : World} {H : Hp} {h : Heap} {a dx C : Addr} {oe : Obj} {vs : Array Value} (e : h.get? a = some oe) (z : Zc (.ref C) (some dx) oe) (d : oe.data = .fields vs) : ObjOk P w H h a (ExC C dx a) :=
  ⟨⟨oe, vs, e, z, d⟩, ⟨oe, e⟩, fun _ _ ⟨o, v, q, r⟩ k => ⟨o, v, k o q, r⟩⟩
theorem pe_mk {X : Cx} {e : Expr} {t : L2.St → Hp → XK → Prop} (he : PMk X e t) : PE X e (fun σ H Q => t σ H fun cls d H' => ∃ C dx, cls = .ref C ∧ d = some dx ∧ ∀ a, H' a = none → Q (.ref a) (upd H' a (ExC C dx a))) := by
  refine ⟨fun pins s σ H Q I h => wpAny_mono (he pins s σ H _ I h) (fun u s1 hu => ?_) fun _ _ x => x⟩
  obtain ⟨a, oe, vs, sI, H', cls, d, rfl, J, k, hne, ha, hz, hd, h1, na, os, ag, r, C, dx, rfl, rfl, q⟩ := hu
  obtain ⟨hI, gI, dI, tI, oI⟩ := sI
  obtain ⟨hh, g1, d1, t1, o1⟩ := s1
  have U : Un (frs X.stack) [] H' (upd H' a (ExC C dx a)) hI hh := Un.laidN k hne na
  exact ⟨.ref a, _, J.call' (ch := []) os U (J.hok.laidN k na (exc_ok ha hz hd)) ag (fun b z => absurd z (by simp)), rfl, q a na⟩
def eMkX (n : Nat) (fe : F) : F := fun ρ Q E => fe ρ (fun d ρ1 => Q (.exc n d) ρ1) E
section
variable {X : Cx} {N : Cd} {e : Expr} {fe : F} {x : Str} {n : Nat} {p pos pos' : Pos}
theorem de_mkX (C : Xc X.prog X.w X.mg X.base N x n) (hr : Room 2 X.A) (hg : Gl X x) (he : PE X e (tD N fe)) (hdb : (x == ("__debug__" : Str)) = false := by decide) (hst : starEach [e] X.env = (false, eval e X.env) :: starEach [] X.env := by rfl) (hK : X.K = N.K := by rfl) (tk : Tk X N := by first | assumption | exact tkB) :
    PE X (.Call (.Name x p) [e] [] pos) (tD N (eMkX n fe)) := by
  obtain ⟨fI, fd, iC, tI, ok, hb⟩ := C.ex
  have T := C.cls
  rw [← hK] at T iC tI ok hb
  refine PE.imp (pe_mk (pmk_oex (pos := pos) (p := p) T.oex iC tI ok hr hb .nil (tkB (N := N)).pass hg C.glo (pa_cons he pa_nil hst) hdb hst rfl)) fun σ H Q ⟨Z, O, ρ, Qd, S, q, g⟩ => ?_
  refine ⟨Z, O, ρ, _, S, q, fun v H1 O1 d ρ1 x1 S1 r1 q1 => ?_⟩
  refine ⟨by simp, fun a ha => ⟨a, _, v, rfl, T, upd_same, fun dx hdx ne => ⟨rfl, dx, [("value", v)], upd_same, ?_, ?_, ?_⟩⟩⟩
  · rw [upd_ne ne, upd_same]
  · rwa [upd_ne ne] at hdx
  · rw [upd_ne ne] at hdx
    refine ⟨N.xc n, dx, rfl, rfl, fun b hb => ?_⟩
    have sm : Same H1 (upd (del (upd (upd (upd H1 a (exo a (N.xc n) none)) dx (exd dx [("value", v)])) a (exo a (N.xc n) (some dx))) a) dx (.xd [("value", v)])) := fun b o e => by
      have nb : b ≠ dx := ne_of_none e hdx
      have na : b ≠ a := ne_of_none e ha
      rw [upd_ne nb, del_ne na, upd_ne na, upd_ne nb, upd_ne na]
      exact e
    have hdx2 : (upd (del (upd (upd (upd H1 a (exo a (N.xc n) none)) dx (exd dx [("value", v)])) a (exo a (N.xc n) (some dx))) a) dx (.xd [("value", v)])) dx = some (.xd [("value", v)]) := upd_same
    generalize upd (del (upd (upd (upd H1 a (exo a (N.xc n) none)) dx (exd dx [("value", v)])) a (exo a (N.xc n) (some dx))) a) dx (.xd [("value", v)]) = H2 at sm hb hdx2 ⊢
    have s3 : Same H2 (upd H2 b (ExC (N.xc n) dx b)) := fun c o e => by
      rw [upd_ne (ne_of_none e hb)]
      exact e
    have hb1 : H1 b = none := by
      cases h : H1 b with
      | none => rfl
      | some o =>
        rw [sm b o h] at hb
        cases hb
    exact g (.ref b) _ O1 (.exc n d) ρ1 ((x1.trans (Ext.same sm)).trans (Ext.same s3)) ((S1.same sm).same s3) (.exc (dx := dx) (fun z => S1.dom b z hb1) (fun z => S1.dom dx z hdx) upd_same (s3 _ _ hdx2) ((r1.ext (Ext.same sm)).ext (Ext.same s3))) q1
end
end Fd

namespace Fd
open PySem PySem.Spec PyProof.Rows L2 Wd LamX
end Fd

namespace Wd
open PySem PySem.Spec PyProof.Rows L2
def keyPy : Key → PyData
  | .inl i => .int i
  | .inr x => .str x
mutual
inductive DpX (K : PySem.W.Frag) (H : Hp) : V → PyData → Prop
  | non : DpX K H .non .none
  | bl (b : Bool) : DpX K H (.bl b) (.bool b)
  | int (i : Int) : DpX K H (.int i) (.int i)
  | str (x : Str) : DpX K H (.str x) (.str x)
  | lst {a : Addr} {xs : List V} {ds : List PyData} : SqL K H a xs → DpXs K H xs ds → DpX K H (.ref a) (.list ds)
  | tup {a : Addr} {xs : List V} {ds : List PyData} : SqT K H a xs → DpXs K H xs ds → DpX K H (.ref a) (.tuple ds)
  | dct {a : Addr} {kvs : List (Key × V)} {ps : List (PyData × PyData)} : Rd H a (.dK kvs) → ps.map (·.1) = kvs.map (fun q => keyPy q.1) → DpXs K H (kvs.map (·.2)) (ps.map (·.2)) → DpX K H (.ref a) (.dict ps)
inductive DpXs (K : PySem.W.Frag) (H : Hp) : List V → List PyData → Prop
  | nil : DpXs K H [] []
  | cons {v : V} {d : PyData} {vs : List V} {ds : List PyData} : DpX K H v d → DpXs K H vs ds → DpXs K H (v :: vs) (d :: ds)
end
theorem key_reads {P : Program} {w : World} {h : Heap} : ∀ {es : List DictEntry} {vs : List (Key × Value)}, PySem.Pairs (mixKind P w) es vs → ReadsAll h (es.map (·.key)) (vs.map fun q => keyPy q.1) []
  | _, _, .nil => .nil
  | _, _, .cons (e := e) (kv := kv) hk _ r => by
    have a : Reads h e.key (keyPy kv.1) [] := by
      rcases keyIs_shape hk with ⟨i, t, e1, e2⟩ | ⟨x, t, e1, e2⟩
      · rw [e1, e2]
        exact .int i t
      · rw [e1, e2]
        exact .str x t
    exact ReadsAll.cons a (key_reads r)
theorem dvals_of {P : Program} {w : World} : ∀ {es : List DictEntry} {vs : List (Key × Value)} {kvs : List (Key × V)}, PySem.Pairs (mixKind P w) es vs → KV kvs vs → Vals (kvs.map (·.2)) (es.map (·.val)) ∧ kvs.map (fun q => keyPy q.1) = vs.map fun q => keyPy q.1
  | _, _, _, .nil, .nil => ⟨.nil, rfl⟩
  | _, _, _, .cons hk hv r, .cons a b => by
    obtain ⟨i1, i2⟩ := dvals_of r b
    refine ⟨.cons (hv.symm.subst (motive := fun z => L2.RelV _ z) a.2) i1, ?_⟩
    rw [List.map_cons, List.map_cons, i2, a.1]
section
variable {X : Cx} {pins : List (Addr × Obj)} {σ : L2.St} {H : Hp} {s : Shared}
theorem not_sys (SK : SysK X.K) (I : L2.Inv X pins σ H s) {a : Addr} {o : HO} (h : H a = some o) : a ≠ sysModules := fun e => by
  obtain ⟨o', h', _⟩ := SK
  have z := (I.bs a o' (by rw [e]; exact I.mod.kin _ _ h')).2
  rw [h] at z
  cases z
theorem sql_not_sys (SK : SysK X.K) (I : L2.Inv X pins σ H s) {a : Addr} {xs : List V} (h : SqL X.K H a xs) : a ≠ sysModules := by
  rcases h with (h | ⟨o, h⟩) | h
  · exact not_sys SK I h
  · exact not_sys SK I h
  · obtain ⟨o, its, n, hk, hc, _⟩ := h
    obtain ⟨o', h', c'⟩ := SK
    intro e
    rw [e, h'] at hk
    cases hk
    rw [c'] at hc
    injection hc with z
    exact absurd z (by decide)
theorem dct_reads (SK : SysK X.K) (I : L2.Inv X pins σ H s) {a : Addr} {kvs : List (Key × V)} {ps : List (PyData × PyData)} (h : Rd H a (.dK kvs)) (hk : ps.map (·.1) = kvs.map fun q => keyPy q.1)
    (hv : ∀ us, Vals (kvs.map (·.2)) us → ∃ bs, ReadsAll s.heap us (ps.map (·.2)) bs ∧ sysModules ∉ bs) : ∃ as, Reads s.heap (.ref a) (.dict ps) as ∧ sysModules ∉ as := by
  have q : ∃ vs, KV kvs vs ∧ s.heap.DictOf (mixKind X.prog X.w) a vs := by
    rcases h with h | ⟨o, h⟩
    · obtain ⟨_, _, vs, k1, k2⟩ := I.hok a _ h
      exact ⟨vs, k1, k2⟩
    · obtain ⟨_, _, _, vs, k1, k2⟩ := I.hok a _ h
      exact ⟨vs, k1, k2⟩
  have ns : a ≠ sysModules := by
    rcases h with h | ⟨o, h⟩
    · exact not_sys SK I h
    · exact not_sys SK I h
  obtain ⟨vs, kv, o, es, ep, e1, e2, e3, _, pr, _⟩ := q
  obtain ⟨v1, k1⟩ := dvals_of pr kv
  obtain ⟨bs, r2, n2⟩ := hv _ v1
  refine ⟨_, .dict (as := []) e1 e2.1 e3 ?_ r2, ?_⟩
  · rw [hk, k1]
    exact key_reads pr
  · simp only [List.append_nil, List.singleton_append, List.mem_cons, not_or]
    exact ⟨Ne.symm ns, n2⟩
mutual
theorem DpX.reads (SK : SysK X.K) (I : L2.Inv X pins σ H s) : ∀ {v : V} {d : PyData}, DpX X.K H v d → ∀ u, RelV v u → ∃ as, Reads s.heap u d as ∧ sysModules ∉ as
  | _, _, .non, u, r => by
    cases r
    exact ⟨_, .none, by simp⟩
  | _, _, .bl b, u, r => by
    cases r
    exact ⟨_, .bool b, by simp⟩
  | _, _, .int i, u, r => by
    obtain ⟨t, rfl⟩ := r
    exact ⟨_, .int i t, by simp⟩
  | _, _, .str x, u, r => by
    obtain ⟨t, rfl⟩ := r
    exact ⟨_, .str x t, by simp⟩
  | _, _, .lst hs ha, u, r => by
    cases r
    have ns := sql_not_sys SK I hs
    obtain ⟨its, rv, ⟨o, n, e, c, _, dd⟩, _⟩ := I.list hs
    obtain ⟨as, q, nq⟩ := DpXs.reads SK I ha _ rv
    refine ⟨_, .list e c dd (by simpa using q), ?_⟩
    simp only [List.mem_cons, not_or]
    exact ⟨Ne.symm ns, nq⟩
  | _, _, .tup hs ha, u, r => by
    cases r
    obtain ⟨its, rv, ⟨o, e, c, n, dd⟩, _⟩ := I.tuple hs
    obtain ⟨as, q, nq⟩ := DpXs.reads SK I ha _ rv
    exact ⟨_, .tuple e c dd (by simpa using q), nq⟩
  | _, _, .dct h hk hv, u, r => by
    cases r
    exact dct_reads SK I h hk fun us rv => DpXs.reads SK I hv us rv
theorem DpXs.reads (SK : SysK X.K) (I : L2.Inv X pins σ H s) : ∀ {vs : List V} {ds : List PyData}, DpXs X.K H vs ds → ∀ us, Vals vs us → ∃ as, ReadsAll s.heap us ds as ∧ sysModules ∉ as
  | _, _, .nil, us, r => by
    cases r
    exact ⟨_, .nil, by simp⟩
  | _, _, .cons a b, us, r => by
    cases r with
    | cons r1 r2 =>
      obtain ⟨as, q1, n1⟩ := DpX.reads SK I a _ r1
      obtain ⟨bs, q2, n2⟩ := DpXs.reads SK I b _ r2
      exact ⟨_, .cons q1 q2, fun z => (List.mem_append.mp z).elim n1 n2⟩
end
end
def rReprX (K : PySem.W.Frag) : List V → Hp → VK → Prop := fun xs H Q => ∃ v d, xs = [v] ∧ DpX K H v d ∧ d.showable = true ∧ d.depth ≤ 64 ∧ d.shown.length ≤ sizeLine ∧ Q (.str d.shown) H
theorem call_reprX {X : Cx} (SK : SysK X.K) (ga : X.A.guards = some []) (hu : X.A.units + 66 < cLine) : CallR X (.builtin "repr") (rReprX X.K) := by
  intro pn s σ H xs us Q I r h
  obtain ⟨v, d, rfl, hd, sh, dp, hz, q⟩ := h
  obtain ⟨u, rfl, ru⟩ := vals1 r
  have viaRef : ∀ a, u = Value.ref a → wpAny (model X.prog X.w) X.A (call (.builtin "repr") [u]) (EP X pn σ Q) X.xe s := fun a e => by
    subst e
    obtain ⟨as, rd, nq⟩ := hd.reads SK I _ ru
    refine repr_of_reads' rd sh (fun _ => nq) ga (by omega) (fun b o z => z) (fun h' t tk hk => ?_) hz
    exact ⟨.str d.shown, H, I.kept (t' := tk) hk, ⟨t, rfl⟩, q⟩
  cases hd with
  | non =>
    cases ru
    exact PySem.P.repr_of_none ⟨.str (PyData.none).shown, H, I.tok _, ⟨_, rfl⟩, q⟩
  | bl b =>
    cases ru
    exact PySem.P.repr_of_bool ⟨.str (PyData.bool b).shown, H, I.tok _, ⟨_, rfl⟩, q⟩
  | int i =>
    obtain ⟨t, rfl⟩ := ru
    exact PySem.P.repr_of_int (of_decide_eq_true sh) ⟨.str (PyData.int i).shown, H, I.tok _, ⟨_, rfl⟩, q⟩
  | str z =>
    obtain ⟨t, rfl⟩ := ru
    exact PySem.P.repr_of_str ⟨.str (PyData.str z).shown, H, I.tok _, ⟨_, rfl⟩, q⟩ hz
  | lst h1 h2 =>
    cases ru
    exact viaRef _ rfl
  | tup h1 h2 =>
    cases ru
    exact viaRef _ rfl
  | dct h1 h2 h3 =>
    cases ru
    exact viaRef _ rfl
end Wd
namespace Fd
open PySem PySem.Spec PyProof.Rows L2 Wd
mutual
def toPyX : D → Option PyData
  | .non => some .none
  | .bl b => some (.bool b)
  | .int i => some (.int i)
  | .str s => some (.str s)
  | .tup xs => (toPyXs xs).map .tuple
  | .lst xs => (toPyXs xs).map .list
  | .dk ks vs => (toPyXs vs).map fun ps => .dict ((ks.map keyPy).zip ps)
  | .dt _ _ => none
  | .ins _ _ => none
  | .exc _ _ => none
  | .slt _ _ => none
  | .nk _ _ => none
  | .adr _ => none
def toPyXs : List D → Option (List PyData)
  | [] => some []
  | x :: xs => (toPyX x).bind fun a => (toPyXs xs).map fun r => a :: r
end
theorem toPyXs_len : ∀ {ds : List D} {ps : List PyData}, toPyXs ds = some ps → ps.length = ds.length
  | [], _, e => by
    cases e
    rfl
  | x :: xs, ps, e => by
    obtain ⟨p, e1, e2⟩ := Option.bind_eq_some_iff.mp (show ((toPyX x).bind fun a => (toPyXs xs).map fun r => a :: r) = some ps from e)
    obtain ⟨q, e3, e4⟩ := Option.map_eq_some_iff.mp e2
    rw [← e4, List.length_cons, List.length_cons, toPyXs_len e3]
section
variable {N : Cd} {O : Addr → Prop} {H : Hp}
mutual
theorem Rep.dpx : ∀ {v : V} {d : D} {p : PyData}, Rep N O H v d → toPyX d = some p → DpX N.K H v p
  | _, _, _, .non, e => by
    cases e
    exact .non
  | _, _, _, .bl b, e => by
    cases e
    exact .bl b
  | _, _, _, .int i, e => by
    cases e
    exact .int i
  | _, _, _, .str s, e => by
    cases e
    exact .str s
  | _, _, p, .tup h r, e => by
    obtain ⟨ps, e1, e2⟩ := Option.map_eq_some_iff.mp (show (toPyXs _).map PyData.tuple = some p from e)
    rw [← e2]
    exact .tup (SqT.of h) (Reps.dpx r e1)
  | _, _, p, .tupK h s r, e => by
    obtain ⟨ps, e1, e2⟩ := Option.map_eq_some_iff.mp (show (toPyXs _).map PyData.tuple = some p from e)
    rw [← e2]
    exact .tup (.inr h) (Reps.dpx r e1)
  | _, _, p, .lst n h r, e => by
    obtain ⟨ps, e1, e2⟩ := Option.map_eq_some_iff.mp (show (toPyXs _).map PyData.list = some p from e)
    rw [← e2]
    exact .lst (SqL.of h) (Reps.dpx r e1)
  | _, _, p, .dk (kvs := kvs) (ks := ks) n h ek r, e => by
    obtain ⟨ps, e1, e2⟩ := Option.map_eq_some_iff.mp (show (toPyXs _).map (fun ps => PyData.dict ((ks.map keyPy).zip ps)) = some p from e)
    have l1 := toPyXs_len e1
    have l2 := r.length
    have l3 : ks.length = kvs.length := by rw [← ek, List.length_map]
    rw [List.length_map] at l2
    have d := Reps.dpx r e1
    rw [← e2]
    refine .dct h ?_ ?_
    · rw [List.map_fst_zip (by rw [List.length_map]; omega), ← ek, List.map_map]
      rfl
    · rw [List.map_snd_zip (by rw [List.length_map]; omega)]
      exact d
  | _, _, _, .dt .., e => by cases e
  | _, _, _, .ins .., e => by cases e
  | _, _, _, .exc .., e => by cases e
  | _, _, _, .slt .., e => by cases e
  | _, _, _, .nkd .., e => by cases e
  | _, _, _, .adr _, e => by cases e
theorem Reps.dpx : ∀ {vs : List V} {ds : List D} {ps : List PyData}, Reps N O H vs ds → toPyXs ds = some ps → DpXs N.K H vs ps
  | _, _, _, .nil, e => by
    cases e
    exact .nil
  | _, _, ps, .cons a r, e => by
    obtain ⟨p, e1, e2⟩ := Option.bind_eq_some_iff.mp (show ((toPyX _).bind fun a => (toPyXs _).map fun r => a :: r) = some ps from e)
    obtain ⟨q, e3, e4⟩ := Option.map_eq_some_iff.mp e2
    rw [← e4]
    exact .cons (Rep.dpx a e1) (Reps.dpx r e3)
end
theorem RepB.dpx {v : V} {d : D} {p : PyData} (r : RepB N O H v d) (e : toPyX d = some p) : DpX N.K H v p := by
  cases r with
  | of r => exact r.dpx e
  | own o h r =>
    obtain ⟨ps, e1, e2⟩ := Option.map_eq_some_iff.mp (show (toPyXs _).map PyData.list = some p from e)
    rw [← e2]
    exact .lst (SqL.of h) (r.dpx e1)
end
def opReprX (d : D) : Option D := (toPyX d).bind fun p => if p.showable = true ∧ p.depth ≤ 64 ∧ p.shown.length ≤ sizeLine then some (.str p.shown) else none
theorem sv_reprX {X : Cx} {N : Cd} (hK : X.K = N.K := by rfl) : SvC N (rReprX X.K) (o1 opReprX) := svoC fun O H x dx d Q dm rx e k => by
  obtain ⟨p, e1, e⟩ := Option.bind_eq_some_iff.mp e
  split at e
  · rename_i h
    cases e
    exact ⟨x, p, rfl, by rw [hK]; exact rx.dpx e1, h.1, h.2.1, h.2.2, k _ H (L2.Same.refl _) (.str _)⟩
  · cases e
end Fd

namespace Fd
open PySem PySem.Spec PyProof.Rows L2 Wd
section
variable {X : Cx} {N : Cd} {k v e : Expr} {pos p q : Pos} {x : Str} {c : V} {d : D} {fo : F}
theorem de_dict0 : PE X (.Dict [] [] pos) (tD N (eC (.dk [] []))) := PE.imp pe_dnewK fun σ H Q ⟨Z, O, ρ, Qd, S, h, kk⟩ hp => fun z =>
  kk (.ref hp) _ O _ ρ (Ext.same (Wd.Same.new z)) (S.same (Wd.Same.new z)) (.dk (fun o => S.dom hp o z) (.inl upd_same) rfl .nil) h
theorem de_dict1 (hk : PE X k (tC (.str x))) (hv : PE X v (tC c)) (rc : ∀ O H, Rep N O H c d) : PE X (.Dict [some k] [v] pos) (tD N (eC (.dk [.inr x] [d]))) :=
  PE.imp (pe_disp (pps_cons hk hv pps_nil) rfl rfl (by simp) (by simp)) fun σ H Q ⟨Z, O, ρ, Qd, S, h, kk⟩ hp => fun z => by
    refine ⟨upd_same, [(.inr x, c)], rfl, by simp, ?_⟩
    have e : upd (upd H hp (.dK [])) hp (.dK (mergeK [] [(.inr x, c)])) = upd H hp (.dK [(.inr x, c)]) := by
      funext b
      by_cases hb : b = hp
      · subst hb
        rw [upd_same, upd_same]
        rfl
      · rw [upd_ne hb, upd_ne hb, upd_ne hb]
    rw [e]
    exact kk (.ref hp) _ O _ ρ (Ext.same (Wd.Same.new z)) (S.same (Wd.Same.new z)) (.dk (fun o => S.dom hp o z) (.inl upd_same) rfl (.cons (rc _ _) .nil)) h
end
structure Xfs (N : Cn) (n nx : Nat) : Prop where
  ga : ∀ k, k < nx → PySem.W.findIn N.K (.ref (N.xc k)) "__getattribute__" = some (some (.builtin "BaseException.__getattribute__"))
  gg : ∀ k, k < nx → PySem.W.findIn N.K (.ref (N.xc k)) "__getattr__" = some none
  be : ∀ k, k < nx → PySem.W.subIn N.K (.ref (N.xc k)) (.type "BaseException") = some true
  hd : ∀ k, k < nx → PySem.W.hasDictIn N.K (N.xc k) = true
  cls : ∀ k, k < nx → (PySem.W.clsIn N.K (N.xc k)).isSome = true
  ha : ∀ k, k < nx → PySem.W.findIn N.K (.ref (N.xc k)) "__class__" = some (some (.builtin "object.__class__"))
  hn : PySem.W.specialIn N.K (.builtin "object.__class__") "__get__" = some (some (.builtin "getset_descriptor.__get__"))
  htk : PySem.W.takesIn N.K (.builtin "object.__class__") = some true
  hm : ∀ k, k < nx → PySem.W.mroIn N.K (N.xc k) (.type "object") = some true
  va : ∀ k, k < nx → PySem.W.findIn N.K (.ref (N.xc k)) "value" = some none
  kit : ∀ k, k < nx → ∀ m, m < nx → PySem.W.kitOne N.K (.ref (N.xc k)) (.ref (N.xc m)) = some (decide (k = m) || decide (m = 0))
  kitT : ∀ T ∈ tyNames, ∀ m, m < nx → PySem.W.kitOne N.K (.type T) (.ref (N.xc m)) = some false
  kitC : ∀ c, c < n → ∀ m, m < nx → PySem.W.kitOne N.K (.ref (N.cl c)) (.ref (N.xc m)) = some false
def rIsX (K : PySem.W.Frag) : List V → Hp → VK → Prop := fun xs H Q => ∃ (a dx C : Addr) (fs : List (Str × V)) (c : V) (u : Value) (b : Bool), xs = [.ref a, c] ∧ ClsV c u ∧ H a = some (ExC C dx a) ∧ H dx = some (.xd fs) ∧
  (PySem.W.clsIn K C).isSome = true ∧ PySem.W.findIn K (.ref C) "__getattribute__" = some (some (.builtin "BaseException.__getattribute__")) ∧ PySem.W.findIn K (.ref C) "__getattr__" = some none ∧ PySem.W.subIn K (.ref C) (.type "BaseException") = some true ∧
  PySem.W.findIn K (.ref C) "__class__" = some (some (.builtin "object.__class__")) ∧ PySem.W.specialIn K (.builtin "object.__class__") "__get__" = some (some (.builtin "getset_descriptor.__get__")) ∧ PySem.W.takesIn K (.builtin "object.__class__") = some true ∧ PySem.W.mroIn K C (.type "object") = some true ∧
  PySem.W.kitOne K (.ref C) u = some b ∧ Q (.bl b) H
theorem exc_inst {X : Cx} {pins : List (Addr × Obj)} {σ : L2.St} {H : Hp} {s : Shared} {a dx C : Addr} {fs : List (Str × V)} (I : L2.Inv X pins σ H s) (ha : H a = some (ExC C dx a)) (hd : H dx = some (.xd fs)) :
    ∃ (oe od : Obj) (mA : Str → Option Value), PySem.W.InstAt s.heap a oe C (some od) ∧ s.heap.get? dx = some od ∧ s.heap.Ns1 dx mA ∧ ∀ f, RelO (fs.lookup f) (mA f) := by
  have x : ObjOk X.prog X.w H s.heap a (.ext fun h => ∃ (oe : Obj) (vs : Array Value), h.get? a = some oe ∧ Zc (.ref C) (some dx) oe ∧ oe.data = .fields vs) := I.hok a _ ha
  obtain ⟨⟨oe, vs, hg, hz, hdt⟩, _⟩ := x
  have y : ObjOk X.prog X.w H s.heap dx (.xd fs) := I.hok dx _ hd
  obtain ⟨mA, hns, rel⟩ := y
  have hns' := hns
  obtain ⟨od, es, ep, ho, _⟩ := hns'
  exact ⟨oe, od, mA, ⟨hg, hz.1, by unfold PySem.W.notCls; rw [hdt] <;> rfl, by rw [hz.2]; exact ho⟩, ho, hns, rel⟩
theorem call_isX {X : Cx} : CallR X (.builtin "isinstance") (rIsX X.K) := by
  intro pins s σ H xs us Q I r h
  obtain ⟨a, dx, C, fs, c, u, b, rfl, hc, ha, hd, f1, f2, f3, f4, f5, f6, f7, f8, e, q⟩ := h
  obtain ⟨u1, u2, rfl, r1, r2⟩ := vals2 r
  have e2 := hc.eq r2
  subst e2
  obtain rfl : u1 = Value.ref a := r1
  obtain ⟨oe, od, mA, J, _⟩ := exc_inst I ha hd
  exact PySem.W.kia_one (PySem.W.kitx_exc f1 f2 f3 f4 f5 f6 f7 f8) I.kIn J e (fun z => nomatch z) fun tk => ⟨.bl b, H, I.tok tk, rfl, q⟩
def opIsX (n nx m : Nat) : D → Option D
  | .exc k _ => if k < nx then some (.bl (decide (k = m) || decide (m = 0))) else none
  | d => (tyC d).bind fun t => if goodTy n t = true then some (.bl false) else none
section
variable {X : Cx} {N : Cd} {n nx m : Nat} {e o : Expr} {p q pos : Pos} {fa fo : F} {x : Str}
theorem de_isX (C : Cfs N n) (Xf : Xfs N n nx) (hm' : m < nx) (hg : Gl X "isinstance") (hm : X.mg "isinstance" = none) (he : PE X e (tDB N fa)) (hx : PE X (.Name x q) (tC (.ref (N.xc m))))
    (hst : starEach [e, .Name x q] X.env = (false, eval e X.env) :: starEach [.Name x q] X.env := by rfl) (hst2 : starEach [.Name x q] X.env = (false, eval (.Name x q) X.env) :: starEach [] X.env := by rfl) (hpl : (backTo pos (starEach [.Name x q] X.env)).any (·.1) = false := by rfl) (hK : X.K = N.K := by rfl) :
    PE X (.Call (.Name "isinstance" p) [e, .Name x q] [] pos) (tD N (e1 (o1 (opIsX n nx m)) fa)) :=
  PE.imp (pe_callB (CallR.or call_isi call_isX) hg hm boot_isinstance (pa_cons he (pa_cons hx pa_nil hst2) hst) (by decide) (by decide) hst hpl) fun σ H Q ⟨Z, O, ρ, Qd, S, q, k⟩ => ⟨Z, O, ρ, _, S, q, fun v1 H1 O1 d1 ρ1 x1 S1 r1 ⟨d, e, q1⟩ => by
    rw [hK]
    unfold opIsX at e
    split at e
    · rename_i kx dv
      split at e
      · rename_i hk
        cases e
        cases r1 with
        | of r1 =>
          cases r1 with
          | exc no no2 h h2 rv => exact .inr ⟨_, _, _, _, _, _, _, rfl, .own _, h, h2, Xf.cls _ hk, Xf.ga _ hk, Xf.gg _ hk, Xf.be _ hk, Xf.ha _ hk, Xf.hn, Xf.htk, Xf.hm _ hk, Xf.kit _ hk _ hm', k _ H1 O1 _ ρ1 x1 S1 (.bl _) q1⟩
      · cases e
    · obtain ⟨t, e1, e⟩ := Option.bind_eq_some_iff.mp e
      split at e
      · rename_i hg
        cases e
        have ty := tyx_of C r1 e1 hg
        refine .inl ⟨_, _, _, _, false, rfl, .own _, ty, ?_, k _ H1 O1 _ ρ1 x1 S1 (.bl _) q1⟩
        cases t with
        | inl U => exact Xf.kitT U (List.contains_iff_mem.mp hg) m hm'
        | inr c => exact Xf.kitC c (of_decide_eq_true hg) m hm'
      · cases e⟩
def eXv (nx : Nat) (fo : F) : F := fun ρ Q E => fo ρ (fun d ρ1 => ∃ k v, d = .exc k v ∧ k < nx ∧ Q v ρ1) E
theorem de_xv (Xf : Xfs N n nx) (ho : PE X o (tD N fo)) (hab : attributeBase o "value" X.env (eval o X.env) = eval o X.env := by rfl) (hK : X.K = N.K := by rfl) : PE X (.Attribute o "value" pos) (tD N (eXv nx fo)) := by
  refine ⟨fun pins s σ H Q I ⟨Z, O, ρ, Qd, S, q, kk⟩ => ?_⟩
  refine attr_of hab (thn (ho.run pins s σ H (fun v H1 => ∃ O1 d ρ1, Ext O H O1 H1 ∧ Sim N Z O1 ρ1 σ H1 ∧ Rep N O1 H1 v d ∧ ∃ k v, d = .exc k v ∧ k < nx ∧ Qd v ρ1) I ⟨Z, O, ρ, _, S, q, fun v H1 O1 d ρ1 x1 S1 r1 q1 => ⟨O1, d, ρ1, x1, S1, r1, q1⟩⟩) fun u s1 ⟨v, H1, I1, rx, O1, d, ρ1, x1, S1, r1, k, dv, ed, hk, q1⟩ => ?_)
  subst ed
  cases r1 with
  | @exc a dx w _ _ no no2 h h2 rv =>
    obtain rfl : u = Value.ref a := rx
    obtain ⟨oe, od, mA, J, ho, hns, rel⟩ := exc_inst I1 h h2
    obtain ⟨od', ho', hl⟩ := lookIn_ns hns
    rw [ho] at ho'
    cases ho'
    obtain ⟨u, hu, ru⟩ := RelO.some_of (v := w) (o := mA "value") (rel "value")
    exact PySem.HandSPX.exc_get I1.kIn J (by rw [hK]; exact Xf.ga k hk) (by rw [hK]; exact Xf.gg k hk) (by rw [hK]; exact Xf.be k hk) (PySem.W.findObj_own (by rw [hK]; exact Xf.hd k hk) (by rw [hK]; exact Xf.va k hk) rfl (by rw [hl, hu])) (handed_of ru) ⟨w, H1, I1.tok _, ru, kk w H1 O1 dv ρ1 x1 S1 rv q1⟩
end
structure Trc (mg : Str → Option Value) (N : Cn) (nx : Nat) : Prop where
  we : mg "WireError" = some (.ref (N.xc 0))
  exm : ∀ n, n < nx → PySem.W.exmOne N.K (.ref (N.xc n)) (.ref (N.xc 0)) = some true
  ve : ∀ n, n < nx → PySem.W.subIn N.K (.ref (N.xc n)) (.type "ValueError") = some true
def sTryR (i j k n nx : Nat) : FS := fun De ρ _ => ∃ d, ρ[k]? = some (.val d) ∧ n < nx ∧ De.nx (((ρ.set i .no).set j (.val (.exc n d))).set i .no)
section
variable {X : Cx} {N : Cd} {x nm y z : Str} {i j k n nx : Nat} {p pz pos pos1 pos2 pos3 np p1 p2 p3 : Pos}
theorem ds_tryR (C : Xc X.prog X.w X.mg X.base N x n) (T : Trc X.mg N nx) (hc : X.calm = true) (hr : Room 2 X.A) (hg : Gl X x) (hw : Gl X "WireError") (hs : X.stack = X.env :: X.outer) (hf : X.env.frame = some X.env.locals) (hex : X.ex = []) (hN : X.N.Nodup)
    (hi : X.N[i]? = some nm) (hj : X.N[j]? = some y) (hk : X.N[k]? = some z) (hij : i ≠ j) (hln : X.env.kindOf nm = some .local) (hly : X.env.kindOf y = some .local) (hlz : X.env.kindOf z = some .local)
    (hsw : swapsWith (.Name nm p2) (some (.Name y p1)) p3.line X.env = pure false := by rfl) (hdn : (nm == ("__debug__" : Str)) = false := by decide) (hcn : (nm == ("__classdict__" : Str)) = false := by decide) (hdz : (z == ("__debug__" : Str)) = false := by decide) (hcz : (z == ("__classdict__" : Str)) = false := by decide)
    (hdb : (x == ("__debug__" : Str)) = false := by decide) (hst : starEach [.Name z pz] X.env = (false, eval (.Name z pz) X.env) :: starEach [] X.env := by rfl) (hK : X.K = N.K := by rfl) (tk : Takes X fun _ _ _ _ => False := by first | assumption | exact takes0) :
    PS X (.Try [.Raise (some (.Call (.Name x p) [.Name z pz] [] pos)) none pos1] [.ExceptHandler (some (.Name "WireError" np)) (some nm) [.Assign [.Name y p1] (.Name nm p2) p3] pos2] [] [] pos3) (tS N (sTryR i j k n nx)) := by
  obtain ⟨fI, fd, iC, tI, ok, hb⟩ := C.ex
  have W := C.cls
  have exm := T.exm
  rw [← hK] at W iC tI ok hb exm
  refine PS.imp (ps_try_keep (x := "WireError") (n := nm) (y := y) (c := .ref (N.xc 0)) (i := i) (j := j)
    (tb := fun W D σ H => tMkO (N.xc n) (spWE X.K (N.xc 0)) [] (tCons (tVar k) tNil) σ H fun cls d H' => W cls d σ H')
    hs hf hex hN hi hj hij hln hly ⟨hw, by decide, .inl T.we⟩ tk (fun W' pn xe tk' _ => ?_) hsw hdn hcn) fun De σ H ⟨Z, O, ρ, D, S, ⟨d, hd, hn, q⟩, g⟩ => ?_
  · exact pss_one (ps_raise (X := X.tr pn xe) hc tk' (pmk_oex (X := X.tr pn xe) (pos := pos) (p := p) W.oex iC tI ok hr hb .nil (tkB (N := N)).pass hg C.glo (pa_cons (pe_var (X := X.tr pn xe) (i := k) hk (.inl hlz) hdz hcz) pa_nil hst) hdb hst rfl))
  · obtain ⟨v0, hv, v, rfl, rv⟩ := S.ref hd
    refine ⟨v, hv, by simp, fun a ha => ⟨a, _, v, rfl, W, upd_same, fun dx hdx ne => ⟨rfl, dx, [("value", v)], upd_same, ?_, ?_, ?_⟩⟩⟩
    · rw [upd_ne ne, upd_same]
    · rwa [upd_ne ne] at hdx
    · rw [upd_ne ne] at hdx
      refine ⟨exm n hn, fun b hb => ?_⟩
      have sm : Same H (upd (del (upd (upd (upd H a (exo a (N.xc n) none)) dx (exd dx [("value", v)])) a (exo a (N.xc n) (some dx))) a) dx (.xd [("value", v)])) := fun b o e => by
        have nb : b ≠ dx := ne_of_none e hdx
        have na : b ≠ a := ne_of_none e ha
        rw [upd_ne nb, del_ne na, upd_ne na, upd_ne nb, upd_ne na]
        exact e
      have hdx2 : (upd (del (upd (upd (upd H a (exo a (N.xc n) none)) dx (exd dx [("value", v)])) a (exo a (N.xc n) (some dx))) a) dx (.xd [("value", v)])) dx = some (.xd [("value", v)]) := upd_same
      generalize upd (del (upd (upd (upd H a (exo a (N.xc n) none)) dx (exd dx [("value", v)])) a (exo a (N.xc n) (some dx))) a) dx (.xd [("value", v)]) = H2 at sm hb hdx2 ⊢
      have s3 : Same H2 (upd H2 b (ExZ (.ref (N.xc n)) (some dx) b)) := fun c o e => by
        rw [upd_ne (ne_of_none e hb)]
        exact e
      have hb1 : H b = none := by
        cases h : H b with
        | none => rfl
        | some o =>
          rw [sm b o h] at hb
          cases hb
      have S2 := (S.same sm).same s3
      have re : Rep N O (upd H2 b (ExZ (.ref (N.xc n)) (some dx) b)) (.ref b) (.exc n d) := .exc (dx := dx) (fun z => S.dom b z hb1) (fun z => S.dom dx z hdx) upd_same (s3 _ _ hdx2) ((rv.ext (Ext.same sm)).ext (Ext.same s3))
      have S3 : Sim N Z O (ρ.set i .no) (σ.set i (some (.ref b))) _ := S2.wiped (vs := [i]) Off.set
      exact g.nx _ _ O _ ((Ext.same sm).trans (Ext.same s3)) ((S3.set (i := j) re).wiped (vs := [i]) Off.set) q
def opIsVE (nx : Nat) : D → Option D
  | .exc k _ => if k < nx then some (.bl true) else none
  | _ => none
theorem de_isVE {nc : Nat} {e : Expr} {q : Pos} {fa : F} (T : Trc X.mg N nx) (Xf : Xfs N nc nx) (hg : Gl X "isinstance") (hm : X.mg "isinstance" = none) (he : PE X e (tDB N fa)) (hx : PE X (.Name "ValueError" q) (tC (.ty "ValueError")))
    (hst : starEach [e, .Name "ValueError" q] X.env = (false, eval e X.env) :: starEach [.Name "ValueError" q] X.env := by rfl) (hst2 : starEach [.Name "ValueError" q] X.env = (false, eval (.Name "ValueError" q) X.env) :: starEach [] X.env := by rfl) (hpl : (backTo pos (starEach [.Name "ValueError" q] X.env)).any (·.1) = false := by rfl) (hK : X.K = N.K := by rfl) :
    PE X (.Call (.Name "isinstance" p) [e, .Name "ValueError" q] [] pos) (tD N (e1 (o1 (opIsVE nx)) fa)) :=
  PE.imp (pe_callB call_isX hg hm boot_isinstance (pa_cons he (pa_cons hx pa_nil hst2) hst) (by decide) (by decide) hst hpl) fun σ H Q ⟨Z, O, ρ, Qd, S, q, k⟩ => ⟨Z, O, ρ, _, S, q, fun v1 H1 O1 d1 ρ1 x1 S1 r1 ⟨d, e, q1⟩ => by
    rw [hK]
    cases d1 with
    | exc kx dv =>
      have e : (if kx < nx then some (D.bl true) else none) = some d := e
      split at e
      · rename_i hk
        cases e
        cases r1 with
        | of r1 =>
          cases r1 with
          | exc no no2 h h2 rv =>
            have kit : PySem.W.kitOne N.K (.ref (N.xc kx)) (.type "ValueError") = some true := by
              unfold PySem.W.kitOne
              split
              · rfl
              unfold PySem.W.kitCls
              show (if PySem.W.kitMeta "ValueError" = true then PySem.W.subIn N.K (.ref (N.xc kx)) (.type "ValueError") else none) = some true
              rw [if_pos (by decide +kernel)]
              exact T.ve kx hk
            exact ⟨_, _, _, _, _, _, _, rfl, .ty "ValueError", h, h2, Xf.cls _ hk, Xf.ga _ hk, Xf.gg _ hk, Xf.be _ hk, Xf.ha _ hk, Xf.hn, Xf.htk, Xf.hm _ hk, kit, k _ H1 O1 _ ρ1 x1 S1 (.bl _) q1⟩
      · cases e
    | _ => cases e⟩
end
end Fd

namespace Wd
open PySem PySem.Spec PyProof.Rows L2
theorem tuple_mulS (l : Addr) (items : Array Value) (n : Nat) (dd : Option Addr) (sl : Array (Option Value)) (u : Tok) (hne : items.isEmpty = false) :
    Meets (Builtin.«tuple.__mul__» ⟨[.ref l, .int 1 u], []⟩) (fun _ R s => s.heap.get? l = some { cls := .type "tuple", dict := dd, data := .seq items n, slots := sl } ∧ R (.ok (.ret (Value.ref l))) s) :=
  .of_wp fun prog w A R s h => by
    obtain ⟨hp, g, d, tk, os⟩ := s
    obtain ⟨hl, h⟩ := h
    have f1 := AutoSeq1.idx_int
    wp_walk using wpAny_loadPart' hl
    exact ⟨_, rfl, h⟩
def rRepT1 (K : PySem.W.Frag) : R2 := fun x y H Q => ∃ l xs, x = .ref l ∧ y = .int 1 ∧ SqT K H l xs ∧ xs ≠ [] ∧ Q (.ref l) H
section
variable {X : Cx}
theorem op_repT1 : OpR X (binaryOp .Mult) (rRepT1 X.K) := by
  intro pins s σ H x y v u Q I rx ry h
  obtain ⟨l, xs, rfl, rfl, hT, hne, q⟩ := h
  cases rx
  obtain ⟨t, rfl⟩ := ry
  obtain ⟨its, r, ⟨⟨cls, dd, data, sl⟩, ho, hc, n, hd⟩, hs⟩ := I.tuple hT
  simp only at hc hd
  subst hc hd
  have hle : its.length = xs.length := r.length.symm
  have hi : its.toArray.isEmpty = false := by
    cases its with
    | nil => exact absurd (List.eq_nil_of_length_eq_zero hle.symm) hne
    | cons a b => rfl
  exact wpAny_binaryOp_repeat_ref (T := "tuple") (U := "int") (by decide) ⟨_, ho, rfl⟩ (fun s' => typeIs_int s' 1 t) noFill_tuple_mul F.fills_int_mul F.slot_int_rmul repeat_tuple F.slot_int_index.lookup
    (call_meets F.slot_int_rmul (typeIs_int s 1 t) F.entry_int_rmul (F.args_int_rmul_2 _ _) (int_rmul_tuple 1 t l its.toArray n dd sl)
      ⟨ho, rfl, ⟨_, ho, rfl⟩, call_meets F.slot_tuple_mul ⟨_, ho, rfl⟩ F.entry_tuple_mul (F.args_tuple_mul_2 _ _) (tuple_mulS l its.toArray n dd sl t hi) ⟨ho, .ref l, H, I, rfl, q⟩⟩)
def rRepS : R2 := fun x y H Q => ∃ z k, x = .str z ∧ y = .int k ∧ 0 ≤ k ∧ k ≤ 100000 ∧ z.length ≤ 100 ∧ Q (.str (Txt.mul z k)) H
theorem op_repS : OpR X (binaryOp .Mult) rRepS := by
  intro pins s σ H x y v u Q I rx ry h
  obtain ⟨z, k, rfl, rfl, h0, h1, hz, q⟩ := h
  obtain ⟨t, rfl⟩ := rx
  obtain ⟨t', rfl⟩ := ry
  refine SB.mul ⟨?_, fun a b => ?_, fun a b => ?_⟩ fun t' tk => ⟨.str (Txt.mul z k), H, I.tok _, ⟨_, rfl⟩, q⟩
  · rw [decide_eq_false (by omega), decide_eq_false (by omega)] <;> rfl
  · have : (2 ^ 63 - 1 : Int) / 100000 ≤ (2 ^ 63 - 1) / k := by
      apply (Int.le_ediv_iff_mul_le (by omega)).mpr
      exact Int.le_trans (Int.mul_le_mul_of_nonneg_left h1 (by decide)) (by decide)
    have e : (2 ^ 63 - 1 : Int) / 100000 = 92233720368547 := by decide
    omega
  · unfold Builtin.Str.tooLong
    rw [sizeLine_eq]
    have a1 : z.length * k.toNat ≤ 100 * 100000 := Nat.mul_le_mul hz (by omega)
    exact decide_eq_false (by omega)
end
end Wd
namespace Fd
open PySem PySem.Spec PyProof.Rows L2 Wd
def opMulA : D → D → Option D
  | .str z, .int k => if 0 ≤ k ∧ k ≤ 100000 ∧ z.length ≤ 100 then some (.str (Txt.mul z k)) else none
  | .tup xs, .int k => if xs ≠ [] ∧ 1 ≤ k ∧ k ≤ 1000 ∧ xs.length ≤ 1000 then some (.tup (List.replicate k.toNat xs).flatten) else none
  | x, y => opMul x y
section
variable {X : Cx} {N : Cd}
abbrev rMulA (K : PySem.W.Frag) : R2 := fun x y H Q => rMulD x y H Q ∨ (rRepS x y H Q ∨ (rRepT1 K x y H Q ∨ rRepT K x y H Q))
theorem od_mulA : OpR X (binaryOp .Mult) (rMulA X.K) := OpR.or od_mul (OpR.or op_repS (OpR.or op_repT1 op_repT))
theorem sv_mulA (hK : X.K = N.K := by rfl) : Sv2 N (rMulA X.K) (o2 opMulA) := fun O H x y dx dy Qd Ed Q xk dm rx ry ⟨d, e, q⟩ kk => by
  unfold opMulA at e
  split at e
  · split at e
    · rename_i hz
      cases e
      cases rep_str (.of rx)
      cases rep_int ry
      exact .inr (.inl ⟨_, _, rfl, rfl, hz.1, hz.2.1, hz.2.2, kk _ H _ (dm.same (L2.Same.refl _)) (.str _) q⟩)
    · cases e
  · split at e
    · rename_i xs k _h hz
      cases e
      cases rep_int ry
      obtain ⟨a, vs, rfl, hq, rs⟩ := rx.sqt
      have hl := rs.length
      have hn : vs ≠ [] := fun z => hz.1 (by
        rw [z] at hl
        exact List.eq_nil_of_length_eq_zero hl.symm)
      by_cases h1 : k = 1
      · subst h1
        refine .inr (.inr (.inl ⟨a, vs, rfl, rfl, by rw [hK]; exact hq, hn, kk _ H _ (dm.same (L2.Same.refl _)) ?_ q⟩))
        have e : (List.replicate (1 : Int).toNat xs).flatten = xs := by
          show (List.replicate 1 xs).flatten = xs
          simp
        rw [e]
        exact rx
      · exact .inr (.inr (.inr ⟨a, k, vs, rfl, rfl, by rw [hK]; exact hq, hn, by omega, hz.2.2.1, by omega, fun p hp => kk _ _ _ (dm.same (Wd.Same.new hp)) (newTup (reps_flat rs _) hp) q⟩))
    · cases e
  · exact .inl (sv_mul O H x y _ _ Qd Ed Q xk dm rx ry ⟨d, e, q⟩ kk)
end
end Fd

namespace Wd
open PySem PySem.Spec PyProof.Rows L2
end Wd
namespace Fd
open PySem PySem.Spec PyProof.Rows L2 Wd
end Fd

namespace Wd
open PySem PySem.Spec PyProof.Rows L2 PySem.W PySem.SeqAt
end Wd

namespace Fd
open PySem PySem.Spec PyProof.Rows L2 Wd PySem.W
end Fd

namespace Ws
open PySem PySem.Spec PyProof.Rows L2 Wd
end Ws
namespace Fd
open PySem PySem.Spec PyProof.Rows L2 Wd Ws
end Fd

namespace Wd
open PySem PySem.Spec PyProof.Rows L2 LamX
section
variable {P : Program} {w : World} {K : PySem.W.Frag} {mg mb : Str → Option Value} {CX : CXT} {k : Nat} {fa a : Addr} {fd : FuncData} {x : Str} {sp : Sp} {s : Shared} {vs : List Value} {ns : List Int} {ts : List Addr} {cs : List (Addr × Addr)}
abbrev tab0 : Obj := { cls := .none, data := .fields #[] }
theorem seenT (KX : K.In s.heap) (ha : s.heap.get? a = some { cls := .type "list", data := .seq vs.toArray }) (hi : IntsAre vs ns) (hl : ns.length ≤ sizeLine) (hT : ∀ b ∈ ts, s.heap.get? b = some tab0) :
    ∃ H : Hp, (∀ b u, H b = some u → (b ∈ ts ∧ u = .tbl #[]) ∨ (b ∉ ts ∧ b = a ∧ K.lookup a = none ∧ ∃ xs, u = .frz { cls := .type "list", data := .seq vs.toArray } (.lst xs))) ∧ (∀ b ∈ ts, H b = some (.tbl #[])) ∧ SqL K H a (ns.map V.int) ∧ HOk P w H s.heap := by
  obtain ⟨G, only, seen, sound⟩ := script_seen (P := P) (w := w) KX ha hi hl
  have na : a ∉ ts := fun z => by
    have e := hT a z
    rw [ha] at e
    cases e
  have off : ∀ b, b ∉ ts → (fun b => if b ∈ ts then some (HO.tbl #[]) else G b) b = G b := fun b hb => if_neg hb
  refine ⟨fun b => if b ∈ ts then some (.tbl #[]) else G b, fun b u e => ?_, fun b hb => if_pos hb, ?_, fun b u e => ?_⟩
  · by_cases hb : b ∈ ts
    · have e' := (if_pos hb).symm.trans e
      exact .inl ⟨hb, (Option.some.inj e').symm⟩
    · have e' := (if_neg hb).symm.trans e
      exact .inr ⟨hb, only b u e'⟩
  · rcases seen with (h | ⟨o, h⟩) | h
    · exact .inl (.inl ((off a na).trans h))
    · exact .inl (.inr ⟨o, (off a na).trans h⟩)
    · exact .inr h
  · by_cases hb : b ∈ ts
    · have e' := (if_pos hb).symm.trans e
      cases e'
      exact hT b hb
    · have e' := (if_neg hb).symm.trans e
      obtain ⟨rfl, _, xs, rfl⟩ := only b u e'
      exact sound _ _ e'
theorem law_callGT (KX : K.In s.heap) (hns : s.heap.Ns mainGlobals mg) (hb : s.heap.Ns builtinsNs mb) (hbb : ∀ x : Str, x ≠ "__name__" → mb x = bootBuiltins x) (hlim : s.heap.NoLimit) (hg : s.gens = #[])
    (hT : ∀ p ∈ cs, s.heap.get? p.2 = some tab0) (nT : ∀ p ∈ cs, K.lookup p.2 = none) (hC : ∀ p ∈ cs, PySem.W.codeHdIn K p.1 p.2 = true)
    (hbm : ∃ (bm : Addr) (ob : Obj), mg "__builtins__" = some (.ref bm) ∧ bm ≠ builtinsNs ∧ s.heap.get? bm = some ob ∧ ob.cls = .type "module" ∧ ob.dict = some builtinsNs ∧ ob.data = .plain)
    (ha : s.heap.get? a = some { cls := .type "list", data := .seq vs.toArray }) (hi : IntsAre vs ns) (hl : ns.length ≤ sizeLine) (hr : Room k callerA)
    (F : ∀ base : Heap, K.In base → base.Ns mainGlobals mg → (∀ p ∈ cs, TabB base mg p.1 p.2) → FnG P w K mg base CX k fa fd [x] sp) (hbind : ∀ (s : Shared) (u : Value), BindsTo s fd ⟨[u], []⟩ [(x, u)])
    (hsp : ∀ H : Hp, (∀ p ∈ cs, H p.2 = some (.tbl #[])) → SqL K H a (ns.map V.int) → sp [.ref a] H (fun v _ => v = .bl true) fun _ _ _ => False)
    (hCX : ∀ H e s', CX [] H s (fun _ _ _ => False) e s' → False) :
    codeAny (model P w) callerA (.call (.ref fa) ⟨[.ref a], []⟩) (fun r s' => r = .ok (.ret (.bool true)) ∧ OldK s.heap s'.heap ∧ s'.os = s.os ∧ AllBare s'.gens) s := by
  have inT : ∀ b ∈ cs.map (·.2), ∃ p ∈ cs, p.2 = b := fun b z => List.mem_map.mp z
  have hT' : ∀ b ∈ cs.map (·.2), s.heap.get? b = some tab0 := fun b z => by
    obtain ⟨p, hp, e⟩ := inT b z
    rw [← e]
    exact hT p hp
  have memT : ∀ p ∈ cs, p.2 ∈ cs.map (·.2) := fun p hp => List.mem_map.mpr ⟨p, hp, rfl⟩
  obtain ⟨H, only, tabs, seen, sound⟩ := seenT (P := P) (w := w) KX ha hi hl hT'
  -- an object that is no list and no empty table stays in the base
  have stay : ∀ b o, s.heap.get? b = some o → o ≠ tab0 → (b = a → K.lookup a = none → False) → (hidT s.heap H).get? b = some o := fun b o e n1 n2 => by
    refine hidT_get e ?_
    cases q : H b with
    | none => rfl
    | some u =>
      rcases only b u q with ⟨z, _⟩ | ⟨_, e1, e2, _⟩
      · rw [hT' b z] at e
        exact (n1 (Option.some.inj e).symm).elim
      · exact (n2 e1 e2).elim
  have names : ∀ {b : Addr} {m : Str → Option Value}, s.heap.Ns b m → (hidT s.heap H).Ns b m := fun {b m} ⟨o, es, ep, e, d, r⟩ => by
    refine ⟨o, es, ep, stay b o e (fun z => by rw [z] at d; cases d) fun z _ => ?_, d, r⟩
    subst z
    rw [ha] at e
    cases e
    exact nomatch (show Data.seq vs.toArray _ = Data.dict es ep from d)
  have inB : K.In (hidT s.heap H) := fun b o e => by
    by_cases hz : b ∈ cs.map (·.2)
    · obtain ⟨p, hp, ep⟩ := inT b hz
      rw [← ep, nT p hp] at e
      cases e
    · refine hidT_get (KX b o e) ?_
      cases q : H b with
      | none => rfl
      | some u =>
        rcases only b u q with ⟨z, _⟩ | ⟨_, e1, e2, _⟩
        · exact (hz z).elim
        · subst e1
          rw [e2] at e
          cases e
  have md : Mod K mg (hidT s.heap H) := by
    obtain ⟨mc, l1, l2⟩ := hlim
    exact ⟨inB, names hns, ⟨mb, names hb, hbb⟩, ⟨mc, names l1, l2⟩⟩
  have TB : ∀ p ∈ cs, TabB (hidT s.heap H) mg p.1 p.2 := fun p hp => by
    have dict_ne : ∀ {b : Addr} {m : Str → Option Value}, s.heap.Ns b m → b ≠ p.2 := fun {b m} ⟨o, es, ep, e, d, _⟩ z => by
      rw [z, hT p hp] at e
      cases e
      cases d
    obtain ⟨bm, ob, b1, b2, b3, b4, b5, b6⟩ := hbm
    refine ⟨PySem.W.codeHd_of_K inB (hC p hp), ⟨bm, ob, b1, b2, fun z => ?_, fun z => ?_, stay bm ob b3 (fun z => by rw [z] at b4; cases b4) fun z _ => ?_, b4, b5, b6⟩, dict_ne hns⟩
    · obtain ⟨o, es, ep, e, d, _⟩ := hns
      rw [z, e] at b3
      cases b3
      rw [d] at b6
      cases b6
    · rw [z, hT p hp] at b3
      cases b3
      cases b4
    · subst z
      rw [ha] at b3
      cases b3
      cases b6
  have env : Env0 P w K mg (hidT s.heap H) callerA [] s H := ⟨rfl, md, fun b o e => of_hidT e, Nat.le_of_eq (hidT_size _ _), trivial, fun b hb => absurd (show b ∈ ([] : List Addr) from hb) (by simp), sound, .of_eq hg⟩
  refine codeAny_mono ((F _ inB (names hns) TB).run callerA rfl [] s H ⟨[.ref a], []⟩ [.ref a] [.ref a] _ _ hr env (hbind s (.ref a)) (.cons rfl .nil) (hsp H (fun p hp => tabs _ (memT p hp)) seen)) fun r s' h => ?_
  cases r with
  | error e => exact (hCX H e s' h).elim
  | ok fl =>
    cases fl with
    | ret u =>
      obtain ⟨v, H', os, bare, un, ok', rv, q⟩ := h
      have ev : v = .bl true := q
      subst ev
      obtain rfl : u = Value.bool true := rv
      have same : ∀ b o, b ∉ cs.map (·.2) → s.heap.get? b = some o → s'.heap.get? b = some o := fun b o nb e => by
        cases q : H b with
        | none => exact un.keep b o e q (by intro z; exact absurd (show b ∈ ([] : List Addr) from z) (by simp)) (by simp)
        | some u =>
          rcases only b u q with ⟨z, _⟩ | ⟨_, _, _, xs, rfl⟩
          · exact (nb z).elim
          · obtain ⟨e1, _⟩ := sound b _ q
            obtain ⟨e2, _⟩ := ok' b _ (un.frzs b _ _ q)
            rw [e] at e1
            cases e1
            exact e2
      have grown : ∀ p ∈ cs, ∃ more : Array Value, s'.heap.get? p.2 = some { cls := .none, data := .fields more } := fun p hp => by
        obtain ⟨more, z⟩ := un.tbls p.2 #[] (tabs _ (memT p hp))
        exact ⟨_, ok' p.2 _ z⟩
      refine ⟨rfl, ⟨fun b o e => ?_, fun b o e => ?_⟩, os, bare⟩
      · by_cases hb : b ∈ cs.map (·.2)
        · obtain ⟨p, hp, rfl⟩ := inT b hb
          obtain ⟨more, hm⟩ := grown p hp
          rw [hT p hp] at e
          cases e
          exact .inr (.inl ⟨((PySem.W.codeHd_of_K KX (hC p hp)).tab (hT p hp)).isCodeTable, rfl, #[], more, rfl, by rw [Array.empty_append]; exact hm⟩)
        · exact .inl (same b o hb e)
      · by_cases hb : b ∈ cs.map (·.2)
        · obtain ⟨p, hp, rfl⟩ := inT b hb
          obtain ⟨more, hm⟩ := grown p hp
          exact ⟨_, hm⟩
        · exact ⟨o, same b o hb e⟩
    | next => exact False.elim h
    | brk => exact False.elim h
    | cont => exact False.elim h
end
theorem walk_ofGT {l : PySem.W.OpenLaw} {n k : Nat} {q : Program} {loose : List Str} {XP : (Str → Option Value) → Heap → Prop} {YP : World → Heap → Prop} {d : DefRec} {CX : World → CXT} {x : Str}
    (hn : l.most = some n) (hn2 : n ≤ sizeLine) (hdf : d.params.defaults = []) (hr : Room k callerA)
    (F : ∀ (w : World) (mg : Str → Option Value) (fa : Addr) (h : Heap), YP w h → h.Ns mainGlobals mg → mg d.name = some (.ref fa) →
      ∃ (K : PySem.W.Frag) (fd : FuncData) (sp : Sp) (cs : List (Addr × Addr)), K.In h ∧ (∀ p ∈ cs, h.get? p.2 = some tab0) ∧ (∀ p ∈ cs, K.lookup p.2 = none) ∧ (∀ p ∈ cs, PySem.W.codeHdIn K p.1 p.2 = true) ∧ (∀ (s : Shared) (u : Value), BindsTo s fd ⟨[u], []⟩ [(x, u)]) ∧
        (∀ (H : Hp) (a : Addr) (ns : List Int), ns.length ≤ n → (∀ p ∈ cs, H p.2 = some (.tbl #[])) → SqL K H a (ns.map V.int) → sp [.ref a] H (fun v _ => v = .bl true) fun _ _ _ => False) ∧
        ∀ base : Heap, K.In base → base.Ns mainGlobals mg → (∀ p ∈ cs, TabB base mg p.1 p.2) → FnG l.prog w K mg base (CX w) k fa fd [x] sp)
    (hCX : ∀ (w : World) (H : Hp) (s : Shared) (e : Value) (s' : Shared), CX w [] H s (fun _ _ _ => False) e s' → False) :
    PySem.W.WalkO q loose XP YP l.row.toRowW d [] (fun f vs => PySem.call f vs) := by
  refine Att.attach_call hn hdf fun w s₀ s₁ mg mb fa o pm cd doc a vs ns G Y ho hd hcd hmg hobj hints hlen hg => ?_
  obtain ⟨K, fd, sp, cs, KX, hT, nT, hC, hb, hsp, hF⟩ := F w mg fa _ Y G.T.g hmg
  exact law_callGT KX G.T.g G.T.b G.T.builtins G.T.nolimit hg hT nT hC G.T.bmain hobj hints (Nat.le_trans hlen hn2) hr hF hb (fun H hH hS => hsp H a ns hlen hH hS) fun H e s' => hCX w H s₁ e s'
end Wd

namespace Fd
open PySem PySem.Spec PyProof.Rows L2 Wd LamX
section
variable {P : Program} {w : World} {K : PySem.W.Frag} {mg : Str → Option Value} {base h : Heap} {cs xs : List Str} {N : Cn}
structure XcAt (K : PySem.W.Frag) (cs xs : List Str) (k : Nat) : Prop where
  one : XcOne K (He.ga K (xs.getD k "")) (He.ga K (xs.getD 0 ""))
  glo : PySem.W.nsIn K mainGlobals (xs.getD k "") = some (some (.ref (He.ga K (xs.getD k ""))))
  kit : ∀ m, m < xs.length → PySem.W.kitOne K (.ref (He.ga K (xs.getD k ""))) (.ref (He.ga K (xs.getD m ""))) = some (decide (k = m) || decide (m = 0))
  kitT : ∀ T ∈ tyNames, PySem.W.kitOne K (.type T) (.ref (He.ga K (xs.getD k ""))) = some false
  kitC : ∀ c, c < cs.length → PySem.W.kitOne K (.ref (He.ga K (cs.getD c ""))) (.ref (He.ga K (xs.getD k ""))) = some false
theorem xc_at (b : xcB K cs xs = true) {k : Nat} (hk : k < xs.length) : XcAt K cs xs k := by
  obtain ⟨b1, z⟩ := He.ba (List.all_eq_true.mp b k (List.mem_range.mpr hk))
  obtain ⟨b2, z⟩ := He.ba z
  obtain ⟨b3, z⟩ := He.ba z
  obtain ⟨b4, b5⟩ := He.ba z
  exact ⟨xcOne_ok b1, He.eqO_ok b2, fun m hm => of_decide_eq_true (List.all_eq_true.mp b3 m (List.mem_range.mpr hm)), fun T hT => of_decide_eq_true (List.all_eq_true.mp b4 T hT), fun c hc => of_decide_eq_true (List.all_eq_true.mp b5 c (List.mem_range.mpr hc))⟩
structure NOk (K : PySem.W.Frag) (cs xs : List Str) (N : Cn) : Prop where
  k : N.K = K
  cl : ∀ c, N.cl c = He.ga K (cs.getD c "")
  xc : ∀ k, N.xc k = He.ga K (xs.getD k "")
theorem xfs_of (b : xcB K cs xs = true) (nk : NOk K cs xs N) {n : Nat} (C : Cfs N n) (hn : n ≤ cs.length := by decide) : Xfs N n xs.length := by
  obtain ⟨K', cl', sch', xc', tb', hs'⟩ := N
  have h1 : K' = K := nk.k
  have h2 : cl' = fun c => He.ga K (cs.getD c "") := funext nk.cl
  have h3 : xc' = fun k => He.ga K (xs.getD k "") := funext nk.xc
  subst h1 h2 h3
  exact ⟨fun k hk => (xc_at b hk).one.ga, fun k hk => (xc_at b hk).one.gg, fun k hk => (xc_at b hk).one.we.oex.exC, fun k hk => (xc_at b hk).one.hd, fun k hk => (xc_at b hk).one.cls, fun k hk => (xc_at b hk).one.ha, C.hn, C.htk, fun k hk => (xc_at b hk).one.hm, fun k hk => (xc_at b hk).one.we.val,
    fun k hk m hm => (xc_at b hk).kit m hm, fun T hT m hm => (xc_at b hm).kitT T hT, fun c hc m hm => (xc_at b hm).kitC c (Nat.lt_of_lt_of_le hc hn)⟩
theorem we_binds {D f : Addr} {fd : FuncData} (F : WeF P K mg (defArgs s_we) (defBody s_we) (defScope s_we) D f fd) : Binds K fd ["self", "value"] [] := by
  have nd := F.nod
  obtain ⟨oc, od, dV, kV, doc, pm, an, cda, ct, osl, cc, rfl, _⟩ := F.ex
  have nd : dV = .none := nd
  subst nd
  exact .all fun us hl => match us, hl with
    | [_, _], _ => rfl
theorem xg_of (X : K.In h) (G : h.Ns mainGlobals mg) (b : xcB K cs xs = true) (nk : NOk K cs xs N) {k : Nat} (hk : k < xs.length) {x : Str} (hx : xs.getD k "" = x) : mg x = some (.ref (N.xc k)) := by
  rw [nk.xc, ← hx]
  exact PySem.W.mg_of X G (xc_at b hk).glo
theorem xc_of (X : K.In h) (G : h.Ns mainGlobals mg) (b : xcB K cs xs = true) (nk : NOk K cs xs N) (we : ∃ fd, WeF P K mg (defArgs s_we) (defBody s_we) (defScope s_we) (He.ga K (xs.getD 0 "")) (He.ma K (He.ga K (xs.getD 0 "")) "__init__") fd)
    (ty : PySem.W.typeIn K (.ref (He.ma K (He.ga K (xs.getD 0 "")) "__init__")) = some (.type "function")) {k : Nat} (hk : k < xs.length) {x : Str} (hx : xs.getD k "" = x) : Xc P w mg base N x k := by
  have g := xg_of X G b nk hk hx
  obtain ⟨fd, F⟩ := we
  obtain ⟨K', cl', sch', xc', tb', hs'⟩ := N
  have h1 : K' = K := nk.k
  have h3 : xc' = fun k => He.ga K (xs.getD k "") := funext nk.xc
  subst h1 h3
  exact ⟨(xc_at b hk).one.we, g, _, fd, (xc_at b hk).one.ini, ty, ok_we F, we_binds F⟩
end
theorem obsY_of {f0 : Str} {fa : List He.Fa} {ds : List Dx} {cs : List Str} {tw : List (Str × Str × String)} {xs : List Str} {tf : List He.Defn} {g : Addr → Option Obj} {K : PySem.W.Frag} (h1 : (fa.all fun f => f.ok K) = true) (h2 : (ds.all fun d => d.ok K) = true) (h3 : (clB K cs && tw.all fun t => twC K t) = true) (h4 : (ds.map fun d => fnA K (d.ad K)) = ds.map Dx.val)
    (h5 : exB f0 cs xs tf g K = true) (h6 : weV K (He.ga K (xs.getD 0 "")) = weW) : obsY f0 fa ds cs tw xs tf g K = valY ds := by
  have e := obs_of h1 h2 h3 h4
  unfold obsY
  rw [e, h5, h6]
  rfl
end Fd

namespace Fd
open PySem PySem.Spec PyProof.Rows L2 Wd
theorem enRun (w : World) : HandSHeadRun.RunEq enR (PySem.W.view enR.prog [74]) enK enO 16000 enL w := by
  intro os
  have h0 := en_look w os
  cases h : enE w os with
  | none =>
    rw [h] at h0
    cases h0
  | some s =>
    have look := map_at h h0
    have okc := map_at h (en_cl w os)
    have okf := map_at h (en_fa w os)
    have okd := map_at h (en_dk w os)
    have dv := map_at h (en_dv w os)
    have xb := map_at h (en_xb w os)
    have wv := map_at h (en_wv w os)
    have ob : enO s = valY enDs := obsY_of okf okd okc dv xb wv
    have hh : HandSHeadRun.endF (HandSHeadRun.stepQ (HandSHeadRun.denQ HandSHeadRun.tabQ) enR.prog w) 16000 enR.prog w os = some s := h
    rw [hh]
    exact congrArg some (Prod.ext (congrArg (fun z => z.1) look) (Prod.ext (congrArg (fun z => z.2) look) ob))
theorem trc_of {K : PySem.W.Frag} {mg : Str → Option Value} {h : Heap} {cs xs : List Str} {N : Cn} (X : K.In h) (G : h.Ns mainGlobals mg) (b : xcB K cs xs = true) (nk : NOk K cs xs N) (h0 : xs.getD 0 "" = "WireError") (hn : 0 < xs.length) : Trc mg N xs.length := by
  have g0 := xg_of X G b nk hn h0
  obtain ⟨K', cl', sch', xc', tb', hs'⟩ := N
  have h1 : K' = K := nk.k
  have h3 : xc' = fun k => He.ga K (xs.getD k "") := funext nk.xc
  subst h1 h3
  exact ⟨g0, fun n hn => (xc_at b hn).one.exm, fun n hn => (xc_at b hn).one.we.ve⟩
variable {P : Program} {w : World} {K : PySem.W.Frag} {mg : Str → Option Value} {base : Heap} {f : Addr} {fd : FuncData} {dvs : List V} {kws : List (Str × V)}
abbrev nm_is_integer : List Str := ["value", "least", "most"]
theorem sc_is_integer : FnScope nm_is_integer ["value", "least", "most"] (defScope s_is_integer) := ⟨rfl, rfl, rfl, by decide +kernel, rfl, by decide +kernel, by decide +kernel⟩
def g_is_integer : FS := (sSeq (sIf (bOr (bNot (bVal (e1 (o1 (opIs nC "int")) (eVar 0)))) (bOr (bVal (e1 (o1 (opIs nC "bool")) (eVar 0))) (bVal (e2 (o2 opLt) (eVar 0) (eVar 1))))) (sRet (eC (.bl false))) sNil) (sRet (eOr (e2 (o2 opIsN) (eVar 2) (eC .non)) (e2 (o2 opLe) (eVar 0) (eVar 2)))))
def m_is_integer : M := run 3 g_is_integer
theorem ok_is_integer (F : FunD K "is_integer" "is_integer" (defArgs s_is_integer) (defBody s_is_integer) (defScope s_is_integer) dvs kws f fd) (C : Cfs (cn w K) nC) (B : Bf mg) : FnOk P w K mg base (CX P w) 1 f fd ["value", "least", "most"] (spM (cn w K) 3 m_is_integer) :=
  fn_m F sc_is_integer (by decide) fun cdv A outer s H E hr tk => (ds_cons (ds_if (dt_bool (dw_or (dt_not (dt_val (de_is (T := "int") C (by decide) (by rfl) B.isinstance (db (de_of_var (pv 0))) (pe_tyB (by decide +kernel) B.int (by rfl))))) (dw_or (dt_val (de_is (T := "bool") C (by decide) (by rfl) B.isinstance (db (de_of_var (pv 0))) (pe_tyB (by decide +kernel) B.bool (by rfl)))) (dw_or1 (dt_cmp (od_lt hr.units0) sv_lt (de_of_var (pv 0)) (db (de_of_var (pv 1))) (nomark _)))))) (ds_one (ds_ret de_bl)) ds_nil) (ds_one (ds_ret (de_or (de_cmp op_isN sv_isN (de_of_var (pv 2)) (db de_non) (nomark _)) (de_one (de_cmp op_le sv_cmpI (de_of_var (pv 0)) (db (de_of_var (pv 2))) (nomark _)))))))
abbrev nm_is_tuple : List Str := ["value", "most"]
theorem sc_is_tuple : FnScope nm_is_tuple ["value", "most"] (defScope s_is_tuple) := ⟨rfl, rfl, rfl, by decide +kernel, rfl, by decide +kernel, by decide +kernel⟩
def g_is_tuple : FS := (sRet (eAnd (e1 (o1 (opIs nC "tuple")) (eVar 0)) (eChain (o2 opLe) (o2 opLe) (eC (.int 1)) (e1 (o1 opLen) (eVar 0)) (eVar 1))))
def m_is_tuple : M := run 2 g_is_tuple
theorem ok_is_tuple (F : FunD K "is_tuple" "is_tuple" (defArgs s_is_tuple) (defBody s_is_tuple) (defScope s_is_tuple) dvs kws f fd) (C : Cfs (cn w K) nC) (B : Bf mg) : FnOk P w K mg base (CX P w) 1 f fd ["value", "most"] (spM (cn w K) 2 m_is_tuple) :=
  fn_m F sc_is_tuple (by decide) fun cdv A outer s H E hr tk => (ds_one (ds_ret (de_and (de_is (T := "tuple") C (by decide) (by rfl) B.isinstance (db (de_of_var (pv 0))) (pe_tyB (by decide +kernel) B.tuple (by rfl))) (de_one (de_chain op_le op_le sv_cmpI sv_cmpI de_int (de_callB1 cd_len sv_len (by rfl) B.len PySem.boot_len (db (de_of_var (pv 0)))) (de_of_var (pv 1)))))))
abbrev nm_is_pair : List Str := ["value"]
theorem sc_is_pair : FnScope nm_is_pair ["value"] (defScope s_is_pair) := ⟨rfl, rfl, rfl, by decide +kernel, rfl, by decide +kernel, by decide +kernel⟩
def g_is_pair : FS := (sRet (eAnd (e1 (o1 (opIs nC "tuple")) (eVar 0)) (e2 (o2 opEq) (e1 (o1 opLen) (eVar 0)) (eC (.int 2)))))
def m_is_pair : M := run 1 g_is_pair
theorem ok_is_pair (F : FunD K "is_pair" "is_pair" (defArgs s_is_pair) (defBody s_is_pair) (defScope s_is_pair) dvs kws f fd) (C : Cfs (cn w K) nC) (B : Bf mg) (kc_PAIR : Ck mg "PAIR" (.int 2)) : FnOk P w K mg base (CX P w) 1 f fd ["value"] (spM (cn w K) 1 m_is_pair) :=
  fn_m F sc_is_pair (by decide) fun cdv A outer s H E hr tk => (ds_one (ds_ret (de_and (de_is (T := "tuple") C (by decide) (by rfl) B.isinstance (db (de_of_var (pv 0))) (pe_tyB (by decide +kernel) B.tuple (by rfl))) (de_one (de_cmp (od_eq hr.units) sv_eq (de_callB1 cd_len sv_len (by rfl) B.len PySem.boot_len (db (de_of_var (pv 0)))) (db (de_globI kc_PAIR (by rfl))) (nomark _))))))
abbrev nm_is_rising : List Str := ["things", "one", "other"]
theorem sc_is_rising : FnScope nm_is_rising ["things"] (defScope s_is_rising) := ⟨rfl, rfl, rfl, by decide +kernel, rfl, by decide +kernel, by decide +kernel⟩
def g_is_rising : FS := (sRet (e1 (o1 opAll) (eMade (oLc (iZipD (eVar 0) (eSl (eVar 0) (pSome (eC (.int 1))) pNo)) (gT [(gN 1), (gN 2)]) bYes (e2 (o2 opLt) (eVar 1) (eVar 2)) [1, 2]))))
def m_is_rising : M := run 3 g_is_rising
theorem ok_is_rising (F : FunD K "is_rising" "is_rising" (defArgs s_is_rising) (defBody s_is_rising) (defScope s_is_rising) dvs kws f fd) (B : Bf mg) : FnOk P w K mg base (CX P w) 1 f fd ["things"] (spM (cn w K) 1 m_is_rising) :=
  fn_m F sc_is_rising (by decide) fun cdv A outer s H E hr tk => (ds_one (ds_ret (de_callB1 (cr_all rfl) sv_all (by rfl) B.all boot_all (db (de_lc (own := [("one", 1), ("other", 2)]) rfl sc_is_rising.nd (di_zip (by rfl) B.zip (de_of_var (pv 0)) (de_slice (de_of_var (pv 0)) (dp_some de_int) dp_none)) (blkOk_by (N := nm_is_rising) (sc := defScope s_is_rising) (by decide +kernel)) (by decide) (fun _ _ _ _ _ => (dg_tup rfl (dgs_cons (dg_name (i := 1) sc_is_rising.nd rfl (by first | exact Or.inl rfl | exact Or.inr rfl)) (dgs_cons (dg_name (i := 2) sc_is_rising.nd rfl (by first | exact Or.inl rfl | exact Or.inr rfl)) dgs_nil)) (live_list (LiveAll.cons live_n (LiveAll.cons live_n LiveAll.nil))))) (fun _ _ _ _ _ => dts_nil) (fun _ _ _ _ _ => (de_cmp (od_lt hr.units0) sv_lt (de_of_var (pv 1)) (db (de_of_var (pv 2))) (nomark _))))))))
abbrev nm_are_numbers : List Str := ["value", "below", "number"]
theorem sc_are_numbers : FnScope nm_are_numbers ["value", "below"] (defScope s_are_numbers) := ⟨rfl, rfl, rfl, by decide +kernel, rfl, by decide +kernel, by decide +kernel⟩
def g_are_numbers : FS := (sSeq (sIf (bOr (bNot (bVal (e1 (o1 (opIs nC "tuple")) (eVar 0)))) (bNot (bVal (e1 (o1 opAll) (eMade (oLc (iAny (eVar 0)) (gN 2) bYes (eCallN 3 m_is_integer [] (aCons (eVar 2) (aCons (eC (.int 0)) (aCons (e2 (o2 opSub) (eVar 1) (eC (.int 1))) aNil)))) [2])))))) (sRet (eC (.bl false))) sNil) (sRet (eCallN 1 m_is_rising [] (aCons (eVar 0) aNil))))
def m_are_numbers : M := run 3 g_are_numbers
theorem ok_are_numbers (F : FunD K "are_numbers" "are_numbers" (defArgs s_are_numbers) (defBody s_are_numbers) (defScope s_are_numbers) dvs kws f fd) (C : Cfs (cn w K) nC) (B : Bf mg) (fc_is_integer : Fc P w mg base (cn w K) 1 "is_integer" 3 m_is_integer [[], [.non]]) (fc_is_rising : Fc P w mg base (cn w K) 1 "is_rising" 1 m_is_rising [[]]) : FnOk P w K mg base (CX P w) 2 f fd ["value", "below"] (spM (cn w K) 2 m_are_numbers) :=
  fn_m F sc_are_numbers (by decide) fun cdv A outer s H E hr tk => (ds_cons (ds_if (dt_bool (dw_or (dt_not (dt_val (de_is (T := "tuple") C (by decide) (by rfl) B.isinstance (db (de_of_var (pv 0))) (pe_tyB (by decide +kernel) B.tuple (by rfl))))) (dw_or1 (dt_not (dt_val (de_callB1 (cr_all rfl) sv_all (by rfl) B.all boot_all (db (de_lc (own := [("number", 2)]) rfl sc_are_numbers.nd (di_any (de_of_var (pv 0))) (blkOk_by (N := nm_are_numbers) (sc := defScope s_are_numbers) (by decide +kernel)) (by decide) (fun _ _ _ _ _ => (dg_name (i := 2) sc_are_numbers.nd rfl (by first | exact Or.inl rfl | exact Or.inr rfl))) (fun _ _ _ _ _ => dts_nil) (fun _ _ _ _ _ => (de_call fc_is_integer (by simp) (hr.mono (by decide)) (by rfl) (da_cons (de_of_var (pv 2)) (da_cons de_int (da_cons (de_op op_sub sv_sub (de_of_var (pv 1)) (db de_int)) da_nil))))))))))))) (ds_one (ds_ret de_bl)) ds_nil) (ds_one (ds_ret (de_call fc_is_rising (by simp) (hr.mono (by decide)) (by rfl) (da_cons (de_of_var (pv 0)) da_nil)))))
abbrev nm_is_row : List Str := ["value", "width", "sign"]
theorem sc_is_row : FnScope nm_is_row ["value", "width"] (defScope s_is_row) := ⟨rfl, rfl, rfl, by decide +kernel, rfl, by decide +kernel, by decide +kernel⟩
def g_is_row : FS := (sSeq (sIf (bOr (bNot (bVal (e1 (o1 (opIs nC "str")) (eVar 0)))) (bOr (bVal (e2 (o2 opNe) (e1 (o1 opLen) (eVar 0)) (eVar 1))) (bVal (e2 (o2 opNotIn) (eC (.str "o")) (eVar 0))))) (sRet (eC (.bl false))) sNil) (sRet (e1 (o1 opAll) (eMade (oLc (iAny (eVar 0)) (gN 2) bYes (e2 (o2 opIn) (eVar 2) (eL (oL opTup) (aCons (eC (.str "o")) (aCons (eC (.str ".")) aNil)))) [2])))))
def m_is_row : M := run 3 g_is_row
theorem ok_is_row (F : FunD K "is_row" "is_row" (defArgs s_is_row) (defBody s_is_row) (defScope s_is_row) dvs kws f fd) (C : Cfs (cn w K) nC) (B : Bf mg) (kc_DOT : Ck mg "DOT" (.str "o")) (kc_GAP : Ck mg "GAP" (.str ".")) : FnOk P w K mg base (CX P w) 1 f fd ["value", "width"] (spM (cn w K) 2 m_is_row) :=
  fn_m F sc_is_row (by decide) fun cdv A outer s H E hr tk => (ds_cons (ds_if (dt_bool (dw_or (dt_not (dt_val (de_is (T := "str") C (by decide) (by rfl) B.isinstance (db (de_of_var (pv 0))) (pe_tyB (by decide +kernel) B.str (by rfl))))) (dw_or (dt_cmp (od_ne hr.units) sv_ne (de_callB1 cd_len sv_len (by rfl) B.len PySem.boot_len (db (de_of_var (pv 0)))) (db (de_of_var (pv 1))) (nomark _)) (dw_or1 (dt_cmp (od_notIn (hu65 hr)) sv_notIn (de_globS kc_DOT (by rfl)) (db (de_of_var (pv 0))) (by rfl)))))) (ds_one (ds_ret de_bl)) ds_nil) (ds_one (ds_ret (de_callB1 (cr_all rfl) sv_all (by rfl) B.all boot_all (db (de_lc (own := [("sign", 2)]) rfl sc_is_row.nd (di_any (de_of_var (pv 0))) (blkOk_by (N := nm_is_row) (sc := defScope s_is_row) (by decide +kernel)) (by decide) (fun _ _ _ _ _ => (dg_name (i := 2) sc_is_row.nd rfl (by first | exact Or.inl rfl | exact Or.inr rfl))) (fun _ _ _ _ _ => dts_nil) (fun _ _ _ _ _ => (de_cmp (od_in (hu65 hr)) sv_in (de_of_var (pv 2)) (db (de_tup (da_cons (de_globS kc_DOT (by rfl)) (da_cons (de_globS kc_GAP (by rfl)) da_nil)))) (by rfl)))))))))
abbrev nm_are_rows : List Str := ["value", "width", "column", "row"]
theorem sc_are_rows : FnScope nm_are_rows ["value"] (defScope s_are_rows) := ⟨rfl, rfl, rfl, by decide +kernel, rfl, by decide +kernel, by decide +kernel⟩
def g_are_rows : FS := (sSeq (sIf (bOr (bNot (bVal (eCallN 2 m_is_tuple [] (aCons (eVar 0) (aCons (eC (.int 10)) aNil))))) (bNot (bVal (e1 (o1 (opIs nC "str")) (e2 (o2 opIx) (eVar 0) (eC (.int 0))))))) (sRet (eC (.bl false))) sNil) (sSeq (sSet 1 (xVal (e1 (o1 opLen) (e2 (o2 opIx) (eVar 0) (eC (.int 0)))))) (sSeq (sIf (bOr (bNot (bVal (eChain (o2 opLe) (o2 opLe) (eC (.int 1)) (eVar 1) (eC (.int 10))))) (bNot (bVal (e1 (o1 opAll) (eMade (oLc (iAny (eVar 0)) (gN 3) bYes (eCallN 2 m_is_row [] (aCons (eVar 3) (aCons (eVar 1) aNil))) [3])))))) (sRet (eC (.bl false))) sNil) (sRet (e1 (o1 opAll) (eMade (oLc (iRange1 (eVar 1)) (gN 2) bYes (e2 (o2 opIn) (eC (.str "o")) (eMade (oLc (iAny (eVar 0)) (gN 3) bYes (e2 (o2 opIx) (eVar 3) (eVar 2)) [3]))) [2])))))))
def m_are_rows : M := run 4 g_are_rows
theorem ok_are_rows (F : FunD K "are_rows" "are_rows" (defArgs s_are_rows) (defBody s_are_rows) (defScope s_are_rows) dvs kws f fd) (kc_MOST_ROWS : Ck mg "MOST_ROWS" (.int 10)) (fc_is_tuple : Fc P w mg base (cn w K) 1 "is_tuple" 2 m_is_tuple [[]]) (C : Cfs (cn w K) nC) (B : Bf mg) (kc_MOST_COLUMNS : Ck mg "MOST_COLUMNS" (.int 10)) (fc_is_row : Fc P w mg base (cn w K) 1 "is_row" 2 m_is_row [[]]) (kc_DOT : Ck mg "DOT" (.str "o")) : FnOk P w K mg base (CX P w) 2 f fd ["value"] (spM (cn w K) 1 m_are_rows) :=
  fn_m F sc_are_rows (by decide) fun cdv A outer s H E hr tk => (ds_cons (ds_if (dt_bool (dw_or (dt_not (dt_val (de_call fc_is_tuple (by simp) (hr.mono (by decide)) (by rfl) (da_cons (de_of_var (pv 0)) (da_cons (de_globI kc_MOST_ROWS (by rfl)) da_nil))))) (dw_or1 (dt_not (dt_val (de_is (T := "str") C (by decide) (by rfl) B.isinstance (db (de_ix (de_of_var (pv 0)) de_int)) (pe_tyB (by decide +kernel) B.str (by rfl)))))))) (ds_one (ds_ret de_bl)) ds_nil) (ds_cons (ds_set (i := 1) sc_are_rows.nd rfl (by first | exact Or.inl rfl | exact Or.inr rfl) (dx_val (de_callB1 cd_len sv_len (by rfl) B.len PySem.boot_len (db (de_ix (de_of_var (pv 0)) de_int))))) (ds_cons (ds_if (dt_bool (dw_or (dt_not (dt_chain op_le op_le sv_cmpI sv_cmpI de_int (de_of_var (pv 1)) (de_globI kc_MOST_COLUMNS (by rfl)))) (dw_or1 (dt_not (dt_val (de_callB1 (cr_all rfl) sv_all (by rfl) B.all boot_all (db (de_lc (own := [("row", 3)]) rfl sc_are_rows.nd (di_any (de_of_var (pv 0))) (blkOk_by (N := nm_are_rows) (sc := defScope s_are_rows) (by decide +kernel)) (by decide) (fun _ _ _ _ _ => (dg_name (i := 3) sc_are_rows.nd rfl (by first | exact Or.inl rfl | exact Or.inr rfl))) (fun _ _ _ _ _ => dts_nil) (fun _ _ _ _ _ => (de_call fc_is_row (by simp) (hr.mono (by decide)) (by rfl) (da_cons (de_of_var (pv 3)) (da_cons (de_of_var (pv 1)) da_nil)))))))))))) (ds_one (ds_ret de_bl)) ds_nil) (ds_one (ds_ret (de_callB1 (cr_all rfl) sv_all (by rfl) B.all boot_all (db (de_lc (own := [("column", 2)]) rfl sc_are_rows.nd (di_range1 (by rfl) B.range (de_of_var (pv 1))) (blkOk_by (N := nm_are_rows) (sc := defScope s_are_rows) (by decide +kernel)) (by decide) (fun _ _ _ _ _ => (dg_name (i := 2) sc_are_rows.nd rfl (by first | exact Or.inl rfl | exact Or.inr rfl))) (fun _ _ _ _ _ => dts_nil) (fun _ _ _ _ _ => (de_cmp (od_in (hu65 hr)) sv_in (de_globS kc_DOT (by rfl)) (db (de_lc (own := [("row", 3)]) rfl sc_are_rows.nd (di_any (de_of_var (pv 0))) (blkOk_in (N' := nm_are_rows) (sc0 := defScope s_are_rows) rfl rfl (by decide +kernel)) (by decide) (fun _ _ _ _ _ => (dg_name (i := 3) sc_are_rows.nd rfl (by first | exact Or.inl rfl | exact Or.inr rfl))) (fun _ _ _ _ _ => dts_nil) (fun _ _ _ _ _ => (de_ix (de_of_var (pv 3)) (de_of_var (pv 2)))))) (by rfl)))))))))))
end Fd

namespace Fd
open PySem PySem.Spec PyProof.Rows L2 Wd
variable {P : Program} {w : World} {K : PySem.W.Frag} {mg : Str → Option Value} {base : Heap} {f : Addr} {fd : FuncData} {dvs : List V} {kws : List (Str × V)}
abbrev nm_Board___init__ : List Str := ["self", "rows", "dot", "row", "signs", "column", "sign"]
theorem sc_Board___init__ : FnScope nm_Board___init__ ["self", "rows"] (defScope s_Board___init__) := ⟨rfl, rfl, rfl, by decide +kernel, rfl, by decide +kernel, by decide +kernel⟩
def g_Board___init__ : FS := (sSeq (sIf (bNot (bVal (eCallN 1 m_are_rows [] (aCons (eVar 1) aNil)))) (sRaise 1 (eVar 1)) sNil) (sSeq (sFldS 0 0 0 (eVar 1)) (sSeq (sFldS 0 0 1 (e1 (o1 opTupleK) (eMade (oLc2 (iEnumTD (eVar 1)) (gT [(gN 3), (gN 4)]) bYes (iEnumSD (eVar 4)) (gT [(gN 5), (gN 6)]) (bVal (e2 (o2 opEq) (eVar 6) (eC (.str "o")))) (eL (oL opTup) (aCons (eVar 3) (aCons (eVar 5) aNil))) [3, 4, 5, 6] [5, 6])))) (sFldS 0 0 2 (eDt (iAny (fun ρ Q _ => ∃ a ds d, ρ[0]? = some (Sl.obj a 0 ds) ∧ ds[1]? = some d ∧ Q d ρ)) (gN 2) bYes (eVar 2) (eC (.bl true)) [2])))))
def m_Board___init__ : MI := runI 0 3 7 g_Board___init__
theorem ok_Board___init__ (F : FunD K "__init__" "Board.__init__" (defArgs s_Board___init__) (defBody s_Board___init__) (defScope s_Board___init__) dvs kws f fd) (fc_are_rows : Fc P w mg base (cn w K) 2 "are_rows" 1 m_are_rows [[]]) (xc_BadBoard : Xc P w mg base (cn w K) "BadBoard" 1) (At : ∀ c, c < 3 → Att (cn w K) c) (B : Bf mg) (kc_DOT : Ck mg "DOT" (.str "o")) : FnOk P w K mg base (CX P w) 3 f fd ["self", "rows"] (spI (cn w K) 0 1 m_Board___init__) :=
  fn_i F sc_Board___init__ rfl (by decide) fun cdv A outer s H E hr tk => (ds_cons (ds_if (dt_not (dt_val (de_call fc_are_rows (by simp) (hr.mono (by decide)) (by rfl) (da_cons (de_of_var (pv 1)) da_nil)))) (ds_one (ds_raise xc_BadBoard rfl (hr.mono (by decide)) (by rfl) (de_of_var (pv 1)))) ds_nil) (ds_cons (ds_fldS (i := 0) (cn := 0) (j := 0) (At 0 (by decide)) rfl (pv 0) (de_of_var (pv 1))) (ds_cons (ds_fldS (i := 0) (cn := 0) (j := 1) (At 0 (by decide)) rfl (pv 0) (de_callTy1 (cd_tupleK rfl) sv_tupleK (by rfl) B.tuple boot_tuple (db (de_lc2 (own := [("row", 3), ("signs", 4), ("column", 5), ("sign", 6)]) (vs1 := [5, 6]) rfl sc_Board___init__.nd (di_enumT (by rfl) B.enumerate (de_of_var (pv 1))) (blkOk_by (N := nm_Board___init__) (sc := defScope s_Board___init__) (by decide +kernel)) (by decide) (by decide) (by decide) (fun _ _ _ _ _ => (dg_tup rfl (dgs_cons (dg_name (i := 3) sc_Board___init__.nd rfl (by first | exact Or.inl rfl | exact Or.inr rfl)) (dgs_cons (dg_name (i := 4) sc_Board___init__.nd rfl (by first | exact Or.inl rfl | exact Or.inr rfl)) dgs_nil)) (live_list (LiveAll.cons live_n (LiveAll.cons live_n LiveAll.nil))))) (fun _ _ _ _ _ => dts_nil) (fun _ _ _ _ _ => (di_enumS (by rfl) B.enumerate (de_of_var (pv 4)))) (fun _ _ _ _ _ => (dg_tup rfl (dgs_cons (dg_name (i := 5) sc_Board___init__.nd rfl (by first | exact Or.inl rfl | exact Or.inr rfl)) (dgs_cons (dg_name (i := 6) sc_Board___init__.nd rfl (by first | exact Or.inl rfl | exact Or.inr rfl)) dgs_nil)) (live_list (LiveAll.cons live_n (LiveAll.cons live_n LiveAll.nil))))) (fun _ _ _ _ _ => (dts_one (dt_cmp (od_eq hr.units) sv_eq (de_of_var (pv 6)) (db (de_globS kc_DOT (by rfl))) (nomark _)))) (fun _ _ _ _ _ => (de_tup (da_cons (de_of_var (pv 3)) (da_cons (de_of_var (pv 5)) da_nil)))))))) (ds_one (ds_fldS (i := 0) (cn := 0) (j := 2) (At 0 (by decide)) rfl (pv 0) (de_dt (own := [("dot", 2)]) (hu_of hr) rfl sc_Board___init__.nd (di_any (de_fldO (cn := 0) (j := 1) (At 0 (by decide)) rfl (pv 0))) (blkOk_by (N := nm_Board___init__) (sc := defScope s_Board___init__) (by decide +kernel)) (by decide) (fun _ _ _ _ _ => (dg_name (i := 2) sc_Board___init__.nd rfl (by first | exact Or.inl rfl | exact Or.inr rfl))) (fun _ _ _ _ _ => dts_nil) (fun _ _ _ _ _ => (de_of_var (pv 2))) (fun _ _ _ _ _ => de_bl)))))))
abbrev nm_Board_height : List Str := ["self"]
theorem sc_Board_height : FnScope nm_Board_height ["self"] (defScope s_Board_height) := ⟨rfl, rfl, rfl, by decide +kernel, rfl, by decide +kernel, by decide +kernel⟩
def g_Board_height : FS := (sRet (e1 (o1 opLen) (e1 (o1 (opFld ix_own_rows)) (eVar 0))))
def m_Board_height : M := run 1 g_Board_height
theorem ok_Board_height (F : FunD K "height" "Board.height" (defArgs s_Board_height) (defBody s_Board_height) (defScope s_Board_height) dvs kws f fd) (At : ∀ c, c < 3 → Att (cn w K) c) (B : Bf mg) : FnOk P w K mg base (CX P w) 1 f fd ["self"] (spM (cn w K) 1 m_Board_height) :=
  fn_m F sc_Board_height (by decide) fun cdv A outer s H E hr tk => (ds_one (ds_ret (de_callB1 cd_len sv_len (by rfl) B.len PySem.boot_len (db (de_fld (ok_ix_own_rows At) (de_of_var (pv 0)))))))
abbrev nm_Board_width : List Str := ["self"]
theorem sc_Board_width : FnScope nm_Board_width ["self"] (defScope s_Board_width) := ⟨rfl, rfl, rfl, by decide +kernel, rfl, by decide +kernel, by decide +kernel⟩
def g_Board_width : FS := (sRet (e1 (o1 opLen) (e2 (o2 opIx) (e1 (o1 (opFld ix_own_rows)) (eVar 0)) (eC (.int 0)))))
def m_Board_width : M := run 1 g_Board_width
theorem ok_Board_width (F : FunD K "width" "Board.width" (defArgs s_Board_width) (defBody s_Board_width) (defScope s_Board_width) dvs kws f fd) (At : ∀ c, c < 3 → Att (cn w K) c) (B : Bf mg) : FnOk P w K mg base (CX P w) 1 f fd ["self"] (spM (cn w K) 1 m_Board_width) :=
  fn_m F sc_Board_width (by decide) fun cdv A outer s H E hr tk => (ds_one (ds_ret (de_callB1 cd_len sv_len (by rfl) B.len PySem.boot_len (db (de_ix (de_fld (ok_ix_own_rows At) (de_of_var (pv 0))) de_int)))))
abbrev nm_Board_wires : List Str := ["self", "number"]
theorem sc_Board_wires : FnScope nm_Board_wires ["self"] (defScope s_Board_wires) := ⟨rfl, rfl, rfl, by decide +kernel, rfl, by decide +kernel, by decide +kernel⟩
def g_Board_wires : FS := (sRet (eL (oL opTup) (aStarK (eMade (oLc (iRange1 (e1 (o1 opLen) (e2 (o2 opIx) (e1 (o1 (opFld ix_own_rows)) (eVar 0)) (eC (.int 0))))) (gN 1) bYes (eL (oL opTup) (aCons (eC (.str "column")) (aCons (eVar 1) aNil))) [1])) (aStarK (eMade (oLc (iRange1 (e1 (o1 opLen) (e1 (o1 (opFld ix_own_rows)) (eVar 0)))) (gN 1) bYes (eL (oL opTup) (aCons (eC (.str "row")) (aCons (eVar 1) aNil))) [1])) aNil))))
def m_Board_wires : M := run 2 g_Board_wires
theorem ok_Board_wires (F : FunD K "wires" "Board.wires" (defArgs s_Board_wires) (defBody s_Board_wires) (defScope s_Board_wires) dvs kws f fd) (At : ∀ c, c < 3 → Att (cn w K) c) (B : Bf mg) (kc_COLUMN : Ck mg "COLUMN" (.str "column")) (kc_ROW : Ck mg "ROW" (.str "row")) : FnOk P w K mg base (CX P w) 1 f fd ["self"] (spM (cn w K) 1 m_Board_wires) :=
  fn_m F sc_Board_wires (by decide) fun cdv A outer s H E hr tk => (ds_one (ds_ret (de_tup (da_starK rfl (de_lc (own := [("number", 1)]) rfl sc_Board_wires.nd (di_range1 (by rfl) B.range (de_callB1 cd_len sv_len (by rfl) B.len PySem.boot_len (db (de_ix (de_fld (ok_ix_own_rows At) (de_of_var (pv 0))) de_int)))) (blkOk_by (N := nm_Board_wires) (sc := defScope s_Board_wires) (by decide +kernel)) (by decide) (fun _ _ _ _ _ => (dg_name (i := 1) sc_Board_wires.nd rfl (by first | exact Or.inl rfl | exact Or.inr rfl))) (fun _ _ _ _ _ => dts_nil) (fun _ _ _ _ _ => (de_tup (da_cons (de_globS kc_COLUMN (by rfl)) (da_cons (de_of_var (pv 1)) da_nil))))) (da_starK rfl (de_lc (own := [("number", 1)]) rfl sc_Board_wires.nd (di_range1 (by rfl) B.range (de_callB1 cd_len sv_len (by rfl) B.len PySem.boot_len (db (de_fld (ok_ix_own_rows At) (de_of_var (pv 0)))))) (blkOk_by (N := nm_Board_wires) (sc := defScope s_Board_wires) (by decide +kernel)) (by decide) (fun _ _ _ _ _ => (dg_name (i := 1) sc_Board_wires.nd rfl (by first | exact Or.inl rfl | exact Or.inr rfl))) (fun _ _ _ _ _ => dts_nil) (fun _ _ _ _ _ => (de_tup (da_cons (de_globS kc_ROW (by rfl)) (da_cons (de_of_var (pv 1)) da_nil))))) da_nil)))))
abbrev nm_Board___contains__ : List Str := ["self", "value", "number"]
theorem sc_Board___contains__ : FnScope nm_Board___contains__ ["self", "value"] (defScope s_Board___contains__) := ⟨rfl, rfl, rfl, by decide +kernel, rfl, by decide +kernel, by decide +kernel⟩
def g_Board___contains__ : FS := (sSeq (sIf (bOr (bNot (bVal (eCallN 1 m_is_pair [] (aCons (eVar 1) aNil)))) (bNot (bVal (e1 (o1 opAll) (eMade (oLc (iAny (eVar 1)) (gN 2) bYes (eCallN 3 m_is_integer [.non] (aCons (eVar 2) (aCons (eC (.int 0)) aNil))) [2])))))) (sRet (eC (.bl false))) sNil) (sRet (e2 (o2 opInK) (eVar 1) (e1 (o1 (opFld ix_own_at)) (eVar 0)))))
def m_Board___contains__ : M := run 3 g_Board___contains__
theorem ok_Board___contains__ (F : FunD K "__contains__" "Board.__contains__" (defArgs s_Board___contains__) (defBody s_Board___contains__) (defScope s_Board___contains__) dvs kws f fd) (fc_is_pair : Fc P w mg base (cn w K) 1 "is_pair" 1 m_is_pair [[]]) (fc_is_integer : Fc P w mg base (cn w K) 1 "is_integer" 3 m_is_integer [[], [.non]]) (B : Bf mg) (At : ∀ c, c < 3 → Att (cn w K) c) : FnOk P w K mg base (CX P w) 2 f fd ["self", "value"] (spM (cn w K) 2 m_Board___contains__) :=
  fn_m F sc_Board___contains__ (by decide) fun cdv A outer s H E hr tk => (ds_cons (ds_if (dt_bool (dw_or (dt_not (dt_val (de_call fc_is_pair (by simp) (hr.mono (by decide)) (by rfl) (da_cons (de_of_var (pv 1)) da_nil)))) (dw_or1 (dt_not (dt_val (de_callB1 (cr_all rfl) sv_all (by rfl) B.all boot_all (db (de_lc (own := [("number", 2)]) rfl sc_Board___contains__.nd (di_any (de_of_var (pv 1))) (blkOk_by (N := nm_Board___contains__) (sc := defScope s_Board___contains__) (by decide +kernel)) (by decide) (fun _ _ _ _ _ => (dg_name (i := 2) sc_Board___contains__.nd rfl (by first | exact Or.inl rfl | exact Or.inr rfl))) (fun _ _ _ _ _ => dts_nil) (fun _ _ _ _ _ => (de_call fc_is_integer (by simp) (hr.mono (by decide)) (by rfl) (da_cons (de_of_var (pv 2)) (da_cons de_int da_nil)))))))))))) (ds_one (ds_ret de_bl)) ds_nil) (ds_one (ds_ret (de_inK (hu_of hr) (de_of_var (pv 1)) (de_fld (ok_ix_own_at At) (de_of_var (pv 0)))))))
abbrev nm_Board___eq__ : List Str := ["self", "other"]
theorem sc_Board___eq__ : FnScope nm_Board___eq__ ["self", "other"] (defScope s_Board___eq__) := ⟨rfl, rfl, rfl, by decide +kernel, rfl, by decide +kernel, by decide +kernel⟩
def g_Board___eq__ : FS := (sRet (eAnd (e1 (o1 (opIsC nC 0)) (eVar 1)) (e2 (o2 opEq) (e1 (o1 (opFld ix_own_rows)) (eVar 0)) (e1 (o1 (opFld ix_own_rows)) (eVar 1)))))
def m_Board___eq__ : M := run 2 g_Board___eq__
theorem ok_Board___eq__ (F : FunD K "__eq__" "Board.__eq__" (defArgs s_Board___eq__) (defBody s_Board___eq__) (defScope s_Board___eq__) dvs kws f fd) (mc_Board : mg "Board" = some (.ref ((cn w K).cl 0))) (C : Cfs (cn w K) nC) (B : Bf mg) (At : ∀ c, c < 3 → Att (cn w K) c) : FnOk P w K mg base (CX P w) 1 f fd ["self", "other"] (spM (cn w K) 2 m_Board___eq__) :=
  fn_m F sc_Board___eq__ (by decide) fun cdv A outer s H E hr tk => (ds_one (ds_ret (de_and (de_isC C (by decide) (by rfl) B.isinstance (db (de_of_var (pv 1))) (pe_globC mc_Board (by rfl))) (de_one (de_cmp (od_eq hr.units) sv_eq (de_fld (ok_ix_own_rows At) (de_of_var (pv 0))) (db (de_fld (ok_ix_own_rows At) (de_of_var (pv 1)))) (nomark _))))))
abbrev nm_are_dots : List Str := ["board", "value", "dot"]
theorem sc_are_dots : FnScope nm_are_dots ["board", "value"] (defScope s_are_dots) := ⟨rfl, rfl, rfl, by decide +kernel, rfl, by decide +kernel, by decide +kernel⟩
def g_are_dots : FS := (sRet (eAnd (e1 (o1 (opIs nC "tuple")) (eVar 1)) (eAnd (e1 (o1 opAll) (eMade (oLc (iAny (eVar 1)) (gN 2) bYes (e2 (inW [(0, 2, m_Board___contains__)] false) (eVar 2) (eVar 0)) [2]))) (eCallN 1 m_is_rising [] (aCons (eVar 1) aNil)))))
def m_are_dots : M := run 3 g_are_dots
theorem ok_are_dots (F : FunD K "are_dots" "are_dots" (defArgs s_are_dots) (defBody s_are_dots) (defScope s_are_dots) dvs kws f fd) (C : Cfs (cn w K) nC) (B : Bf mg) (mt_contains : McAll P w mg base (cn w K) 2 "__contains__" [] [(0, 2, m_Board___contains__)]) (fc_is_rising : Fc P w mg base (cn w K) 1 "is_rising" 1 m_is_rising [[]]) : FnOk P w K mg base (CX P w) 3 f fd ["board", "value"] (spM (cn w K) 2 m_are_dots) :=
  fn_m F sc_are_dots (by decide) fun cdv A outer s H E hr tk => (ds_one (ds_ret (de_and (de_is (T := "tuple") C (by decide) (by rfl) B.isinstance (db (de_of_var (pv 1))) (pe_tyB (by decide +kernel) B.tuple (by rfl))) (de_and (de_callB1 (cr_all rfl) sv_all (by rfl) B.all boot_all (db (de_lc (own := [("dot", 2)]) rfl sc_are_dots.nd (di_any (de_of_var (pv 1))) (blkOk_by (N := nm_are_dots) (sc := defScope s_are_dots) (by decide +kernel)) (by decide) (fun _ _ _ _ _ => (dg_name (i := 2) sc_are_dots.nd rfl (by first | exact Or.inl rfl | exact Or.inr rfl))) (fun _ _ _ _ _ => dts_nil) (fun _ _ _ _ _ => (de_cmp (od_inW mt_contains.at_ (hr.mono (by decide))) sv_inW (de_of_var (pv 2)) (db (de_of_var (pv 0))) (by rfl)))))) (de_one (de_call fc_is_rising (by simp) (hr.mono (by decide)) (by rfl) (da_cons (de_of_var (pv 1)) da_nil)))))))
end Fd

namespace Fd
open PySem PySem.Spec PyProof.Rows L2 Wd
variable {P : Program} {w : World} {K : PySem.W.Frag} {mg : Str → Option Value} {base : Heap} {f : Addr} {fd : FuncData} {dvs : List V} {kws : List (Str × V)}
abbrev nm_Picture___init__ : List Str := ["self", "board", "dots", "dot"]
theorem sc_Picture___init__ : FnScope nm_Picture___init__ ["self", "board", "dots"] (defScope s_Picture___init__) := ⟨rfl, rfl, rfl, by decide +kernel, rfl, by decide +kernel, by decide +kernel⟩
def g_Picture___init__ : FS := (sSeq (sIf (bNot (bVal (eCallN 2 m_are_dots [] (aCons (eVar 1) (aCons (eVar 2) aNil))))) (sRaise 2 (eVar 2)) sNil) (sSeq (sFldS 0 1 0 (eVar 1)) (sSeq (sFldS 0 1 1 (eVar 2)) (sFldS 0 1 2 (eDt (iAny (eVar 2)) (gN 3) bYes (eVar 3) (eC (.bl true)) [3])))))
def m_Picture___init__ : MI := runI 1 3 4 g_Picture___init__
theorem ok_Picture___init__ (F : FunD K "__init__" "Picture.__init__" (defArgs s_Picture___init__) (defBody s_Picture___init__) (defScope s_Picture___init__) dvs kws f fd) (fc_are_dots : Fc P w mg base (cn w K) 3 "are_dots" 2 m_are_dots [[]]) (xc_BadDots : Xc P w mg base (cn w K) "BadDots" 2) (At : ∀ c, c < 3 → Att (cn w K) c) : FnOk P w K mg base (CX P w) 4 f fd ["self", "board", "dots"] (spI (cn w K) 1 2 m_Picture___init__) :=
  fn_i F sc_Picture___init__ rfl (by decide) fun cdv A outer s H E hr tk => (ds_cons (ds_if (dt_not (dt_val (de_call fc_are_dots (by simp) (hr.mono (by decide)) (by rfl) (da_cons (de_of_var (pv 1)) (da_cons (de_of_var (pv 2)) da_nil))))) (ds_one (ds_raise xc_BadDots rfl (hr.mono (by decide)) (by rfl) (de_of_var (pv 2)))) ds_nil) (ds_cons (ds_fldS (i := 0) (cn := 1) (j := 0) (At 1 (by decide)) rfl (pv 0) (de_of_var (pv 1))) (ds_cons (ds_fldS (i := 0) (cn := 1) (j := 1) (At 1 (by decide)) rfl (pv 0) (de_of_var (pv 2))) (ds_one (ds_fldS (i := 0) (cn := 1) (j := 2) (At 1 (by decide)) rfl (pv 0) (de_dt (own := [("dot", 3)]) (hu_of hr) rfl sc_Picture___init__.nd (di_any (de_of_var (pv 2))) (blkOk_by (N := nm_Picture___init__) (sc := defScope s_Picture___init__) (by decide +kernel)) (by decide) (fun _ _ _ _ _ => (dg_name (i := 3) sc_Picture___init__.nd rfl (by first | exact Or.inl rfl | exact Or.inr rfl))) (fun _ _ _ _ _ => dts_nil) (fun _ _ _ _ _ => (de_of_var (pv 3))) (fun _ _ _ _ _ => de_bl)))))))
abbrev nm_Picture___eq__ : List Str := ["self", "other"]
theorem sc_Picture___eq__ : FnScope nm_Picture___eq__ ["self", "other"] (defScope s_Picture___eq__) := ⟨rfl, rfl, rfl, by decide +kernel, rfl, by decide +kernel, by decide +kernel⟩
def g_Picture___eq__ : FS := (sSeq (sIf (bNot (bVal (e1 (o1 (opIsC nC 1)) (eVar 1)))) (sRet (eC (.bl false))) sNil) (sRet (eAnd (e2 (eqW nC [(0, 2, m_Board___eq__)]) (e1 (o1 (opFld ix_own_board)) (eVar 0)) (e1 (o1 (opFld ix_own_board)) (eVar 1))) (e2 (o2 opEq) (e1 (o1 (opFld ix_own_dots)) (eVar 0)) (e1 (o1 (opFld ix_own_dots)) (eVar 1))))))
def m_Picture___eq__ : M := run 2 g_Picture___eq__
theorem ok_Picture___eq__ (F : FunD K "__eq__" "Picture.__eq__" (defArgs s_Picture___eq__) (defBody s_Picture___eq__) (defScope s_Picture___eq__) dvs kws f fd) (mc_Picture : mg "Picture" = some (.ref ((cn w K).cl 1))) (C : Cfs (cn w K) nC) (B : Bf mg) (At : ∀ c, c < 3 → Att (cn w K) c) (mt_eq : McAll P w mg base (cn w K) 1 "__eq__" [] [(0, 2, m_Board___eq__)]) : FnOk P w K mg base (CX P w) 2 f fd ["self", "other"] (spM (cn w K) 2 m_Picture___eq__) :=
  fn_m F sc_Picture___eq__ (by decide) fun cdv A outer s H E hr tk => (ds_cons (ds_if (dt_not (dt_val (de_isC C (by decide) (by rfl) B.isinstance (db (de_of_var (pv 1))) (pe_globC mc_Picture (by rfl))))) (ds_one (ds_ret de_bl)) ds_nil) (ds_one (ds_ret (de_and (de_cmp (od_eqW mt_eq.at_ (hr.mono (by decide)) hr.units) (sv_eqW C) (de_fld (ok_ix_own_board At) (de_of_var (pv 0))) (db (de_fld (ok_ix_own_board At) (de_of_var (pv 1)))) (nomark _)) (de_one (de_cmp (od_eq hr.units) sv_eq (de_fld (ok_ix_own_dots At) (de_of_var (pv 0))) (db (de_fld (ok_ix_own_dots At) (de_of_var (pv 1)))) (nomark _)))))))
abbrev nm_named_wires : List Str := ["rows", "columns", "number"]
theorem sc_named_wires : FnScope nm_named_wires ["rows", "columns"] (defScope s_named_wires) := ⟨rfl, rfl, rfl, by decide +kernel, rfl, by decide +kernel, by decide +kernel⟩
def g_named_wires : FS := (sRet (eL (oL opLst) (aStarK (eMade (oLc (iAny (eVar 1)) (gN 2) bYes (eL (oL opTup) (aCons (eC (.str "column")) (aCons (eVar 2) aNil))) [2])) (aStarK (eMade (oLc (iAny (eVar 0)) (gN 2) bYes (eL (oL opTup) (aCons (eC (.str "row")) (aCons (eVar 2) aNil))) [2])) aNil))))
def m_named_wires : M := run 3 g_named_wires
theorem ok_named_wires (F : FunD K "named_wires" "named_wires" (defArgs s_named_wires) (defBody s_named_wires) (defScope s_named_wires) dvs kws f fd) (kc_COLUMN : Ck mg "COLUMN" (.str "column")) (kc_ROW : Ck mg "ROW" (.str "row")) : FnOk P w K mg base (CX P w) 1 f fd ["rows", "columns"] (spM (cn w K) 2 m_named_wires) :=
  fn_m F sc_named_wires (by decide) fun cdv A outer s H E hr tk => (ds_one (ds_ret (de_lst (da_starK rfl (de_lc (own := [("number", 2)]) rfl sc_named_wires.nd (di_any (de_of_var (pv 1))) (blkOk_by (N := nm_named_wires) (sc := defScope s_named_wires) (by decide +kernel)) (by decide) (fun _ _ _ _ _ => (dg_name (i := 2) sc_named_wires.nd rfl (by first | exact Or.inl rfl | exact Or.inr rfl))) (fun _ _ _ _ _ => dts_nil) (fun _ _ _ _ _ => (de_tup (da_cons (de_globS kc_COLUMN (by rfl)) (da_cons (de_of_var (pv 2)) da_nil))))) (da_starK rfl (de_lc (own := [("number", 2)]) rfl sc_named_wires.nd (di_any (de_of_var (pv 0))) (blkOk_by (N := nm_named_wires) (sc := defScope s_named_wires) (by decide +kernel)) (by decide) (fun _ _ _ _ _ => (dg_name (i := 2) sc_named_wires.nd rfl (by first | exact Or.inl rfl | exact Or.inr rfl))) (fun _ _ _ _ _ => dts_nil) (fun _ _ _ _ _ => (de_tup (da_cons (de_globS kc_ROW (by rfl)) (da_cons (de_of_var (pv 2)) da_nil))))) da_nil)))))
end Fd

namespace Fd
open PySem PySem.Spec PyProof.Rows L2 Wd
variable {P : Program} {w : World} {K : PySem.W.Frag} {mg : Str → Option Value} {base : Heap} {f : Addr} {fd : FuncData} {dvs : List V} {kws : List (Str × V)}
abbrev nm_Dead___init__ : List Str := ["self", "board", "rows", "columns", "wire"]
theorem sc_Dead___init__ : FnScope nm_Dead___init__ ["self", "board", "rows", "columns"] (defScope s_Dead___init__) := ⟨rfl, rfl, rfl, by decide +kernel, rfl, by decide +kernel, by decide +kernel⟩
def g_Dead___init__ : FS := (sSeq (sIf (bNot (bVal (eCallN 2 m_are_numbers [] (aCons (eVar 2) (aCons (ePr [(0, 1, m_Board_height)] (eVar 1)) aNil))))) (sRaise 3 (eVar 2)) sNil) (sSeq (sIf (bNot (bVal (eCallN 2 m_are_numbers [] (aCons (eVar 3) (aCons (ePr [(0, 1, m_Board_width)] (eVar 1)) aNil))))) (sRaise 4 (eVar 3)) sNil) (sSeq (sFldS 0 2 0 (eVar 1)) (sSeq (sFldS 0 2 1 (eVar 2)) (sSeq (sFldS 0 2 2 (eVar 3)) (sFldS 0 2 3 (eDt (iAny (eCallN 2 m_named_wires [] (aCons (eVar 2) (aCons (eVar 3) aNil)))) (gN 4) bYes (eVar 4) (eC (.bl true)) [4])))))))
def m_Dead___init__ : MI := runI 2 4 5 g_Dead___init__
theorem ok_Dead___init__ (F : FunD K "__init__" "Dead.__init__" (defArgs s_Dead___init__) (defBody s_Dead___init__) (defScope s_Dead___init__) dvs kws f fd) (pr_height : PcAll P w mg base (cn w K) 1 "height" [(0, 1, m_Board_height)]) (fc_are_numbers : Fc P w mg base (cn w K) 2 "are_numbers" 2 m_are_numbers [[]]) (xc_BadRows : Xc P w mg base (cn w K) "BadRows" 3) (pr_width : PcAll P w mg base (cn w K) 1 "width" [(0, 1, m_Board_width)]) (xc_BadColumns : Xc P w mg base (cn w K) "BadColumns" 4) (At : ∀ c, c < 3 → Att (cn w K) c) (fc_named_wires : Fc P w mg base (cn w K) 1 "named_wires" 2 m_named_wires [[]]) : FnOk P w K mg base (CX P w) 3 f fd ["self", "board", "rows", "columns"] (spI (cn w K) 2 3 m_Dead___init__) :=
  fn_i F sc_Dead___init__ rfl (by decide) fun cdv A outer s H E hr tk => (ds_cons (ds_if (dt_not (dt_val (de_call fc_are_numbers (by simp) (hr.mono (by decide)) (by rfl) (da_cons (de_of_var (pv 2)) (da_cons (de_prop pr_height (hr.mono (by decide)) (de_of_var (pv 1))) da_nil))))) (ds_one (ds_raise xc_BadRows rfl (hr.mono (by decide)) (by rfl) (de_of_var (pv 2)))) ds_nil) (ds_cons (ds_if (dt_not (dt_val (de_call fc_are_numbers (by simp) (hr.mono (by decide)) (by rfl) (da_cons (de_of_var (pv 3)) (da_cons (de_prop pr_width (hr.mono (by decide)) (de_of_var (pv 1))) da_nil))))) (ds_one (ds_raise xc_BadColumns rfl (hr.mono (by decide)) (by rfl) (de_of_var (pv 3)))) ds_nil) (ds_cons (ds_fldS (i := 0) (cn := 2) (j := 0) (At 2 (by decide)) rfl (pv 0) (de_of_var (pv 1))) (ds_cons (ds_fldS (i := 0) (cn := 2) (j := 1) (At 2 (by decide)) rfl (pv 0) (de_of_var (pv 2))) (ds_cons (ds_fldS (i := 0) (cn := 2) (j := 2) (At 2 (by decide)) rfl (pv 0) (de_of_var (pv 3))) (ds_one (ds_fldS (i := 0) (cn := 2) (j := 3) (At 2 (by decide)) rfl (pv 0) (de_dt (own := [("wire", 4)]) (hu_of hr) rfl sc_Dead___init__.nd (di_any (de_call fc_named_wires (by simp) (hr.mono (by decide)) (by rfl) (da_cons (de_of_var (pv 2)) (da_cons (de_of_var (pv 3)) da_nil)))) (blkOk_by (N := nm_Dead___init__) (sc := defScope s_Dead___init__) (by decide +kernel)) (by decide) (fun _ _ _ _ _ => (dg_name (i := 4) sc_Dead___init__.nd rfl (by first | exact Or.inl rfl | exact Or.inr rfl))) (fun _ _ _ _ _ => dts_nil) (fun _ _ _ _ _ => (de_of_var (pv 4))) (fun _ _ _ _ _ => de_bl)))))))))
abbrev nm_Dead_wires : List Str := ["self"]
theorem sc_Dead_wires : FnScope nm_Dead_wires ["self"] (defScope s_Dead_wires) := ⟨rfl, rfl, rfl, by decide +kernel, rfl, by decide +kernel, by decide +kernel⟩
def g_Dead_wires : FS := (sRet (e1 (o1 opTupleK) (e1 (o1 (opFld ix_own_wires)) (eVar 0))))
def m_Dead_wires : M := run 1 g_Dead_wires
theorem ok_Dead_wires (F : FunD K "wires" "Dead.wires" (defArgs s_Dead_wires) (defBody s_Dead_wires) (defScope s_Dead_wires) dvs kws f fd) (At : ∀ c, c < 3 → Att (cn w K) c) (B : Bf mg) : FnOk P w K mg base (CX P w) 1 f fd ["self"] (spM (cn w K) 1 m_Dead_wires) :=
  fn_m F sc_Dead_wires (by decide) fun cdv A outer s H E hr tk => (ds_one (ds_ret (de_callTy1 (cd_tupleK rfl) sv_tupleK (by rfl) B.tuple boot_tuple (db (de_fld (ok_ix_own_wires At) (de_of_var (pv 0)))))))
abbrev nm_Dead___eq__ : List Str := ["self", "other"]
theorem sc_Dead___eq__ : FnScope nm_Dead___eq__ ["self", "other"] (defScope s_Dead___eq__) := ⟨rfl, rfl, rfl, by decide +kernel, rfl, by decide +kernel, by decide +kernel⟩
def g_Dead___eq__ : FS := (sSeq (sIf (bNot (bVal (e1 (o1 (opIsC nC 2)) (eVar 1)))) (sRet (eC (.bl false))) sNil) (sRet (eAnd (e2 (eqW nC [(0, 2, m_Board___eq__), (1, 2, m_Picture___eq__)]) (e1 (o1 (opFld ix_own_board)) (eVar 0)) (e1 (o1 (opFld ix_own_board)) (eVar 1))) (e2 (o2 opEq) (ePr [(0, 1, m_Board_wires), (2, 1, m_Dead_wires)] (eVar 0)) (ePr [(0, 1, m_Board_wires), (2, 1, m_Dead_wires)] (eVar 1))))))
def m_Dead___eq__ : M := run 2 g_Dead___eq__
theorem ok_Dead___eq__ (F : FunD K "__eq__" "Dead.__eq__" (defArgs s_Dead___eq__) (defBody s_Dead___eq__) (defScope s_Dead___eq__) dvs kws f fd) (mc_Dead : mg "Dead" = some (.ref ((cn w K).cl 2))) (C : Cfs (cn w K) nC) (B : Bf mg) (At : ∀ c, c < 3 → Att (cn w K) c) (mt_eq : McAll P w mg base (cn w K) 2 "__eq__" [] [(0, 2, m_Board___eq__), (1, 2, m_Picture___eq__)]) (pr_wires : PcAll P w mg base (cn w K) 1 "wires" [(0, 1, m_Board_wires), (2, 1, m_Dead_wires)]) : FnOk P w K mg base (CX P w) 3 f fd ["self", "other"] (spM (cn w K) 2 m_Dead___eq__) :=
  fn_m F sc_Dead___eq__ (by decide) fun cdv A outer s H E hr tk => (ds_cons (ds_if (dt_not (dt_val (de_isC C (by decide) (by rfl) B.isinstance (db (de_of_var (pv 1))) (pe_globC mc_Dead (by rfl))))) (ds_one (ds_ret de_bl)) ds_nil) (ds_one (ds_ret (de_and (de_cmp (od_eqW mt_eq.at_ (hr.mono (by decide)) hr.units) (sv_eqW C) (de_fld (ok_ix_own_board At) (de_of_var (pv 0))) (db (de_fld (ok_ix_own_board At) (de_of_var (pv 1)))) (nomark _)) (de_one (de_cmp (od_eq hr.units) sv_eq (de_prop pr_wires (hr.mono (by decide)) (de_of_var (pv 0))) (db (de_prop pr_wires (hr.mono (by decide)) (de_of_var (pv 1)))) (nomark _)))))))
end Fd

namespace Fd
open PySem PySem.Spec PyProof.Rows L2 Wd
variable {P : Program} {w : World} {K : PySem.W.Frag} {mg : Str → Option Value} {base : Heap} {f : Addr} {fd : FuncData} {dvs : List V} {kws : List (Str × V)}
abbrev nm__law_of : List Str := ["_law_pot_here", "_law_some"]
theorem sc__law_of : FnScope nm__law_of ["_law_pot_here", "_law_some"] (defScope s__law_of) := ⟨rfl, rfl, rfl, by decide +kernel, rfl, by decide +kernel, by decide +kernel⟩
def g__law_of : FS := (sRet (e2 (o2 opIx) (eVar 1) (eCallP 0 1 m__law_take (aCons (e1 (o1 opLen) (eVar 1)) aNil))))
def m__law_of : MP := runP 2 g__law_of
theorem ok__law_of (F : FunD K "_law_of" "_law_of" (defArgs s__law_of) (defBody s__law_of) (defScope s__law_of) dvs kws f fd) (B : Bf mg) (fc__law_take : FcP P w mg base (cn w K) 1 "_law_take" 1 m__law_take) : FnOk P w K mg base (CX P w) 2 f fd ["_law_pot_here", "_law_some"] (spP (cn w K) 1 m__law_of) :=
  fn_p F sc__law_of rfl (by decide) fun cdv A outer s H E hr => (ds_one (ds_ret (de_ix (de_of_var (pv 1)) (de_callP fc__law_take (hr.mono (by decide)) (by rfl) (pv 0) (da_cons (de_callB1 cd_len sv_len (by rfl) B.len PySem.boot_len (db (de_of_var (pv 1)))) da_nil)))))
abbrev nm__law_rows : List Str := ["_law_pot_here", "_law_tall", "_law_wide", "_law_row", "_law_way", "_law_rows_here", "_law_marks", "_law_column", "_law_is_there"]
theorem sc__law_rows : FnScope nm__law_rows ["_law_pot_here", "_law_tall", "_law_wide"] (defScope s__law_rows) := ⟨rfl, rfl, rfl, by decide +kernel, rfl, by decide +kernel, by decide +kernel⟩
def g__law_rows : FS := (sSeq (sPar 4 5 (xVal (eCallP 0 1 m__law_take (aCons (eC (.int 4)) aNil))) (xOwn (oLst aNil))) (sSeq (sFor (iRange1 (eVar 1)) (gN 3) (sSeq (sSet 6 (xOwn (oLst aNil))) (sSeq (sFor (iRange1 (eVar 2)) (gN 7) (sSeq (sSet 8 (xVal (eOr (e2 (o2 opLt) (eVar 4) (eC (.int 2))) (eOr (e2 (o2 opLt) (e2 (o2 opMod) (e2 (o2 opAdd) (eVar 3) (eVar 7)) (eL (oL opMax2) (aCons (e1 (o1 opInt) (eVar 1)) (aCons (e1 (o1 opInt) (eVar 2)) aNil)))) (eC (.int 2))) (eAnd (e2 (o2 opEq) (eVar 4) (eC (.int 2))) (e2 (o2 opGt) (eCallP 0 1 m__law_take (aCons (eC (.int 3)) aNil)) (eC (.int 0)))))))) (sExpr (eApp 6 (eIf (bOr (bVal (eVar 8)) (bOr (bVal (e2 (o2 opEq) (e2 (o2 opMod) (eVar 3) (eVar 2)) (eVar 7))) (bVal (e2 (o2 opEq) (e2 (o2 opMod) (eVar 7) (eVar 1)) (eVar 3))))) (eC (.str "o")) (eC (.str "."))))))) (sExpr (eApp 5 (e1 (o1 (opJoin "")) (eOwn 6))))))) (sRet (e1 (o1 opTupleK) (eOwn 5)))))
def m__law_rows : MP := runP 9 g__law_rows
theorem ok__law_rows (F : FunD K "_law_rows" "_law_rows" (defArgs s__law_rows) (defBody s__law_rows) (defScope s__law_rows) dvs kws f fd) (fc__law_take : FcP P w mg base (cn w K) 1 "_law_take" 1 m__law_take) (B : Bf mg) : FnOk P w K mg base (CX P w) 2 f fd ["_law_pot_here", "_law_tall", "_law_wide"] (spP (cn w K) 2 m__law_rows) :=
  fn_p F sc__law_rows rfl (by decide) fun cdv A outer s H E hr => (ds_cons (ds_par (i := 4) (j := 5) rfl sc__law_rows.nd rfl rfl (by decide) rfl rfl (dx_val (de_callP fc__law_take (hr.mono (by decide)) (by rfl) (pv 0) (da_cons de_int da_nil))) (dx_lst da_nil) (by rfl)) (ds_cons (ds_for (passes_of rfl) rfl (di_range1 (by rfl) B.range (de_of_var (pv 1))) (dg_name (i := 3) sc__law_rows.nd rfl (by first | exact Or.inl rfl | exact Or.inr rfl)) (ds_cons (ds_set (i := 6) sc__law_rows.nd rfl (by first | exact Or.inl rfl | exact Or.inr rfl) (dx_lst da_nil)) (ds_cons (ds_for (passes_of rfl) rfl (di_range1 (by rfl) B.range (de_of_var (pv 2))) (dg_name (i := 7) sc__law_rows.nd rfl (by first | exact Or.inl rfl | exact Or.inr rfl)) (ds_cons (ds_set (i := 8) sc__law_rows.nd rfl (by first | exact Or.inl rfl | exact Or.inr rfl) (dx_val (de_or (de_cmp (od_lt hr.units0) sv_lt (de_of_var (pv 4)) (db de_int) (nomark _)) (de_or (de_cmp (od_lt hr.units0) sv_lt (de_op op_mod sv_mod (de_op od_add sv_add (de_of_var (pv 3)) (db (de_of_var (pv 7)))) (db (de_callB (call_max2 rfl) sv_max2 (by rfl) B.max boot_max (da_cons (de_callTy1 call_int1 sv_int (by rfl) B.int boot_int (db (de_of_var (pv 1)))) (da_cons (de_callTy1 call_int1 sv_int (by rfl) B.int boot_int (db (de_of_var (pv 2)))) da_nil))))) (db de_int) (nomark _)) (de_one (de_and (de_cmp (od_eq hr.units) sv_eq (de_of_var (pv 4)) (db de_int) (nomark _)) (de_one (de_cmp op_gt sv_cmpI (de_callP fc__law_take (hr.mono (by decide)) (by rfl) (pv 0) (da_cons de_int da_nil)) (db de_int) (nomark _))))))))) (ds_one (ds_expr (de_app (pe_bm PySem.F.plainAttrs_list PySem.F.slot_list_append PySem.F.type_list_append mt_append (pv 6) (pa_cons (de_ifExp (dt_bool (dw_or (dt_val (de_of_var (pv 8))) (dw_or (dt_cmp (od_eq hr.units) sv_eq (de_op op_mod sv_mod (de_of_var (pv 3)) (db (de_of_var (pv 2)))) (db (de_of_var (pv 7))) (nomark _)) (dw_or1 (dt_cmp (od_eq hr.units) sv_eq (de_op op_mod sv_mod (de_of_var (pv 7)) (db (de_of_var (pv 1)))) (db (de_of_var (pv 3))) (nomark _)))))) de_str de_str) pa_nil))))))) (ds_one (ds_expr (de_app (pe_bm PySem.F.plainAttrs_list PySem.F.slot_list_append PySem.F.type_list_append mt_append (pv 5) (pa_cons (de_join (pe_join pe_str (de_of_own (pv 6)))) pa_nil)))))))) (ds_one (ds_ret (de_callTy1 (cd_tupleK rfl) sv_tupleK (by rfl) B.tuple boot_tuple (de_of_own (pv 5)))))))
abbrev nm__law_size : List Str := ["_law_pot_here", "_law_most"]
theorem sc__law_size : FnScope nm__law_size ["_law_pot_here", "_law_most"] (defScope s__law_size) := ⟨rfl, rfl, rfl, by decide +kernel, rfl, by decide +kernel, by decide +kernel⟩
def g__law_size : FS := (sRet (eL (oL opTup) (aCons (e2 (o2 opAdd) (eC (.int 1)) (eCallP 0 1 m__law_take (aCons (eVar 1) aNil))) (aCons (e2 (o2 opAdd) (eC (.int 1)) (eCallP 0 1 m__law_take (aCons (eVar 1) aNil))) aNil))))
def m__law_size : MP := runP 2 g__law_size
theorem ok__law_size (F : FunD K "_law_size" "_law_size" (defArgs s__law_size) (defBody s__law_size) (defScope s__law_size) dvs kws f fd) (fc__law_take : FcP P w mg base (cn w K) 1 "_law_take" 1 m__law_take) : FnOk P w K mg base (CX P w) 2 f fd ["_law_pot_here", "_law_most"] (spP (cn w K) 1 m__law_size) :=
  fn_p F sc__law_size rfl (by decide) fun cdv A outer s H E hr => (ds_one (ds_ret (de_tup (da_cons (de_op od_add sv_add de_int (db (de_callP fc__law_take (hr.mono (by decide)) (by rfl) (pv 0) (da_cons (de_of_var (pv 1)) da_nil)))) (da_cons (de_op od_add sv_add de_int (db (de_callP fc__law_take (hr.mono (by decide)) (by rfl) (pv 0) (da_cons (de_of_var (pv 1)) da_nil)))) da_nil)))))
abbrev nm__law_small_rows : List Str := ["_law_pot_here", "_law_most", "_law_tall", "_law_wide"]
theorem sc__law_small_rows : FnScope nm__law_small_rows ["_law_pot_here", "_law_most"] (defScope s__law_small_rows) := ⟨rfl, rfl, rfl, by decide +kernel, rfl, by decide +kernel, by decide +kernel⟩
def g__law_small_rows : FS := (sSeq (sAsg (eCallP 0 1 m__law_size (aCons (eVar 1) aNil)) (gT [(gN 2), (gN 3)])) (sRet (eCallP 0 2 m__law_rows (aCons (eVar 2) (aCons (eVar 3) aNil)))))
def m__law_small_rows : MP := runP 4 g__law_small_rows
theorem ok__law_small_rows (F : FunD K "_law_small_rows" "_law_small_rows" (defArgs s__law_small_rows) (defBody s__law_small_rows) (defScope s__law_small_rows) dvs kws f fd) (fc__law_size : FcP P w mg base (cn w K) 2 "_law_size" 1 m__law_size) (fc__law_rows : FcP P w mg base (cn w K) 2 "_law_rows" 2 m__law_rows) : FnOk P w K mg base (CX P w) 3 f fd ["_law_pot_here", "_law_most"] (spP (cn w K) 1 m__law_small_rows) :=
  fn_p F sc__law_small_rows rfl (by decide) fun cdv A outer s H E hr => (ds_cons (ds_asg (de_callP fc__law_size (hr.mono (by decide)) (by rfl) (pv 0) (da_cons (de_of_var (pv 1)) da_nil)) (dg_tup rfl (dgs_cons (dg_name (i := 2) sc__law_small_rows.nd rfl (by first | exact Or.inl rfl | exact Or.inr rfl)) (dgs_cons (dg_name (i := 3) sc__law_small_rows.nd rfl (by first | exact Or.inl rfl | exact Or.inr rfl)) dgs_nil)) (live_list (LiveAll.cons live_n (LiveAll.cons live_n LiveAll.nil))))) (ds_one (ds_ret (de_callP fc__law_rows (hr.mono (by decide)) (by rfl) (pv 0) (da_cons (de_of_var (pv 2)) (da_cons (de_of_var (pv 3)) da_nil))))))
abbrev nm__law_odd : List Str := ["_law_pot_here", "_law_some"]
theorem sc__law_odd : FnScope nm__law_odd ["_law_pot_here"] (defScope s__law_odd) := ⟨rfl, rfl, rfl, by decide +kernel, rfl, by decide +kernel, by decide +kernel⟩
def g__law_odd : FS := (sSeq (sSet 1 (xVal (eL (oL opLst) (aCons (eC .non) (aCons (eC (.bl true)) (aCons (eC (.bl false)) (aCons (eC (.int 0)) (aCons (eC (.int 1)) (aCons (e1 (o1 opNeg) (eC (.int 1))) (aCons (eC (.int 10)) (aCons (eC (.str "")) (aCons (eC (.str "o")) (aCons (eC (.str "#")) (aCons (eC (.str ".")) (aCons (eC (.str "a")) (aCons (eL (oL opTup) aNil) (aCons (eL (oL opLst) aNil) (aCons (eC (.dk [] [])) (aCons (eL (oL opTup) (aCons (eL (oL opTup) aNil) aNil)) (aCons (eL (oL opTup) (aCons (eC (.int 0)) aNil)) (aCons (eL (oL opLst) (aCons (eC (.int 0)) aNil)) (aCons (eL (oL opTup) (aCons (eC (.str "o")) aNil)) (aCons (eL (oL opTup) (aCons (eC (.bl true)) aNil)) aNil))))))))))))))))))))))) (sRet (eCallP 0 1 m__law_of (aCons (e2 (o2 opAdd) (eVar 1) (eL (oL opLst) (aCons (eL (oL opTup) (aCons (eL (oL opTup) (aCons (eC (.int 0)) (aCons (eC (.int 0)) aNil))) aNil)) (aCons (eL (oL opTup) (aCons (eC (.str "row")) (aCons (eC (.int 0)) aNil))) (aCons (eC (.dk [.inr "row"] [.int 0])) (aCons (eC (.str "row")) (aCons (eL (oL opTup) (aCons (eC (.int 0)) (aCons (eC (.int 0)) (aCons (eC (.int 0)) aNil)))) (aCons (eL (oL opTup) (aCons (eL (oL opTup) (aCons (eC (.int 0)) (aCons (eC (.int 0)) aNil))) (aCons (eL (oL opTup) (aCons (eC (.int 0)) (aCons (eC (.int 0)) aNil))) aNil))) (aCons (e2 (o2 opPow) (eC (.int 10)) (eC (.int 8))) aNil))))))))) aNil))))
def m__law_odd : MP := runP 2 g__law_odd
theorem ok__law_odd (F : FunD K "_law_odd" "_law_odd" (defArgs s__law_odd) (defBody s__law_odd) (defScope s__law_odd) dvs kws f fd) (fc__law_of : FcP P w mg base (cn w K) 2 "_law_of" 1 m__law_of) : FnOk P w K mg base (CX P w) 3 f fd ["_law_pot_here"] (spP (cn w K) 0 m__law_odd) :=
  fn_p F sc__law_odd rfl (by decide) fun cdv A outer s H E hr => (ds_cons (ds_set (i := 1) sc__law_odd.nd rfl (by first | exact Or.inl rfl | exact Or.inr rfl) (dx_val (de_lst (da_cons de_non (da_cons de_bl (da_cons de_bl (da_cons de_int (da_cons de_int (da_cons (de_un un_neg sv_neg (db de_int)) (da_cons de_int (da_cons de_str (da_cons de_str (da_cons de_str (da_cons de_str (da_cons de_str (da_cons (de_tup da_nil) (da_cons (de_lst da_nil) (da_cons de_dict0 (da_cons (de_tup (da_cons (de_tup da_nil) da_nil)) (da_cons (de_tup (da_cons de_int da_nil)) (da_cons (de_lst (da_cons de_int da_nil)) (da_cons (de_tup (da_cons de_str da_nil)) (da_cons (de_tup (da_cons de_bl da_nil)) da_nil))))))))))))))))))))))) (ds_one (ds_ret (de_callP fc__law_of (hr.mono (by decide)) (by rfl) (pv 0) (da_cons (de_op od_add sv_add (de_of_var (pv 1)) (db (de_lst (da_cons (de_tup (da_cons (de_tup (da_cons de_int (da_cons de_int da_nil))) da_nil)) (da_cons (de_tup (da_cons de_str (da_cons de_int da_nil))) (da_cons (de_dict1 pe_str pe_int fun _ _ => .int _) (da_cons de_str (da_cons (de_tup (da_cons de_int (da_cons de_int (da_cons de_int da_nil)))) (da_cons (de_tup (da_cons (de_tup (da_cons de_int (da_cons de_int da_nil))) (da_cons (de_tup (da_cons de_int (da_cons de_int da_nil))) da_nil))) (da_cons (de_op op_pow sv_pow de_int (db de_int)) da_nil)))))))))) da_nil)))))
abbrev nm__law_all_of : List Str := ["_law_one", "_law_found"]
theorem sc__law_all_of : FnScope nm__law_all_of ["_law_one"] (defScope s__law_all_of) := ⟨rfl, rfl, rfl, by decide +kernel, rfl, by decide +kernel, by decide +kernel⟩
def g__law_all_of : FS := (sSeq (sSet 1 (xOwn (oLst (aCons (eMkX 1 (eVar 0)) (aCons (eMkX 2 (eVar 0)) (aCons (eMkX 3 (eVar 0)) (aCons (eMkX 4 (eVar 0)) aNil))))))) (sSeq (sExpr (eExt 1 (eL (oL opLst) (aCons (eMkX 5 (eVar 0)) (aCons (eMkX 6 (eVar 0)) (aCons (eMkX 7 (eVar 0)) (aCons (eMkX 8 (eVar 0)) aNil))))))) (sSeq (sExpr (eExt 1 (eL (oL opLst) (aCons (eMkX 9 (eVar 0)) (aCons (eMkX 10 (eVar 0)) (aCons (eMkX 11 (eVar 0)) (aCons (eMkX 12 (eVar 0)) aNil))))))) (sSeq (sExpr (eExt 1 (eL (oL opLst) (aCons (eMkX 13 (eVar 0)) (aCons (eMkX 14 (eVar 0)) (aCons (eMkX 15 (eVar 0)) (aCons (eMkX 16 (eVar 0)) aNil))))))) (sSeq (sExpr (eExt 1 (eL (oL opLst) (aCons (eMkX 17 (eVar 0)) (aCons (eMkX 18 (eVar 0)) (aCons (eMkX 19 (eVar 0)) (aCons (eMkX 20 (eVar 0)) aNil))))))) (sSeq (sExpr (eExt 1 (eL (oL opLst) (aCons (eMkX 21 (eVar 0)) (aCons (eMkX 22 (eVar 0)) (aCons (eMkX 23 (eVar 0)) (aCons (eMkX 24 (eVar 0)) aNil))))))) (sSeq (sExpr (eExt 1 (eL (oL opLst) (aCons (eMkX 25 (eVar 0)) (aCons (eMkX 26 (eVar 0)) (aCons (eMkX 27 (eVar 0)) (aCons (eMkX 28 (eVar 0)) aNil))))))) (sSeq (sExpr (eExt 1 (eL (oL opLst) (aCons (eMkX 29 (eVar 0)) aNil)))) (sRet (eFrz 1))))))))))
def m__law_all_of : M := run 2 g__law_all_of
theorem ok__law_all_of (F : FunD K "_law_all_of" "_law_all_of" (defArgs s__law_all_of) (defBody s__law_all_of) (defScope s__law_all_of) dvs kws f fd) (xc_BadBoard : Xc P w mg base (cn w K) "BadBoard" 1) (xc_BadDots : Xc P w mg base (cn w K) "BadDots" 2) (xc_BadRows : Xc P w mg base (cn w K) "BadRows" 3) (xc_BadColumns : Xc P w mg base (cn w K) "BadColumns" 4) (xc_OtherBoard : Xc P w mg base (cn w K) "OtherBoard" 5) (xc_BadPictures : Xc P w mg base (cn w K) "BadPictures" 6) (xc_BadTick : Xc P w mg base (cn w K) "BadTick" 7) (xc_TooLong : Xc P w mg base (cn w K) "TooLong" 8) (xc_BadStrip : Xc P w mg base (cn w K) "BadStrip" 9) (xc_BadLooks : Xc P w mg base (cn w K) "BadLooks" 10) (xc_BadSeen : Xc P w mg base (cn w K) "BadSeen" 11) (xc_BadWires : Xc P w mg base (cn w K) "BadWires" 12) (xc_NoCause : Xc P w mg base (cn w K) "NoCause" 13) (xc_BadNumber : Xc P w mg base (cn w K) "BadNumber" 14) (xc_BadFilms : Xc P w mg base (cn w K) "BadFilms" 15) (xc_BadParts : Xc P w mg base (cn w K) "BadParts" 16) (xc_BadOffers : Xc P w mg base (cn w K) "BadOffers" 17) (xc_NotFull : Xc P w mg base (cn w K) "NotFull" 18) (xc_BadBook : Xc P w mg base (cn w K) "BadBook" 19) (xc_NoFilm : Xc P w mg base (cn w K) "NoFilm" 20) (xc_BadWire : Xc P w mg base (cn w K) "BadWire" 21) (xc_NoChange : Xc P w mg base (cn w K) "NoChange" 22) (xc_SeenAlready : Xc P w mg base (cn w K) "SeenAlready" 23) (xc_NothingSeen : Xc P w mg base (cn w K) "NothingSeen" 24) (xc_NothingToUndo : Xc P w mg base (cn w K) "NothingToUndo" 25) (xc_NothingToRedo : Xc P w mg base (cn w K) "NothingToRedo" 26) (xc_BadText : Xc P w mg base (cn w K) "BadText" 27) (xc_BadJournal : Xc P w mg base (cn w K) "BadJournal" 28) (xc_BadLine : Xc P w mg base (cn w K) "BadLine" 29) : FnOk P w K mg base (CX P w) 3 f fd ["_law_one"] (spM (cn w K) 1 m__law_all_of) :=
  fn_m F sc__law_all_of (by decide) fun cdv A outer s H E hr tk => (ds_cons (ds_set (i := 1) sc__law_all_of.nd rfl (by first | exact Or.inl rfl | exact Or.inr rfl) (dx_lst (da_cons (de_mkX xc_BadBoard (hr.mono (by decide)) (by rfl) (de_of_var (pv 0))) (da_cons (de_mkX xc_BadDots (hr.mono (by decide)) (by rfl) (de_of_var (pv 0))) (da_cons (de_mkX xc_BadRows (hr.mono (by decide)) (by rfl) (de_of_var (pv 0))) (da_cons (de_mkX xc_BadColumns (hr.mono (by decide)) (by rfl) (de_of_var (pv 0))) da_nil)))))) (ds_cons (ds_expr (de_ext (pe_bm PySem.F.plainAttrs_list PySem.F.slot_list_extend PySem.F.type_list_extend mt_extend (pv 1) (pa_cons (db (de_lst (da_cons (de_mkX xc_OtherBoard (hr.mono (by decide)) (by rfl) (de_of_var (pv 0))) (da_cons (de_mkX xc_BadPictures (hr.mono (by decide)) (by rfl) (de_of_var (pv 0))) (da_cons (de_mkX xc_BadTick (hr.mono (by decide)) (by rfl) (de_of_var (pv 0))) (da_cons (de_mkX xc_TooLong (hr.mono (by decide)) (by rfl) (de_of_var (pv 0))) da_nil)))))) pa_nil)))) (ds_cons (ds_expr (de_ext (pe_bm PySem.F.plainAttrs_list PySem.F.slot_list_extend PySem.F.type_list_extend mt_extend (pv 1) (pa_cons (db (de_lst (da_cons (de_mkX xc_BadStrip (hr.mono (by decide)) (by rfl) (de_of_var (pv 0))) (da_cons (de_mkX xc_BadLooks (hr.mono (by decide)) (by rfl) (de_of_var (pv 0))) (da_cons (de_mkX xc_BadSeen (hr.mono (by decide)) (by rfl) (de_of_var (pv 0))) (da_cons (de_mkX xc_BadWires (hr.mono (by decide)) (by rfl) (de_of_var (pv 0))) da_nil)))))) pa_nil)))) (ds_cons (ds_expr (de_ext (pe_bm PySem.F.plainAttrs_list PySem.F.slot_list_extend PySem.F.type_list_extend mt_extend (pv 1) (pa_cons (db (de_lst (da_cons (de_mkX xc_NoCause (hr.mono (by decide)) (by rfl) (de_of_var (pv 0))) (da_cons (de_mkX xc_BadNumber (hr.mono (by decide)) (by rfl) (de_of_var (pv 0))) (da_cons (de_mkX xc_BadFilms (hr.mono (by decide)) (by rfl) (de_of_var (pv 0))) (da_cons (de_mkX xc_BadParts (hr.mono (by decide)) (by rfl) (de_of_var (pv 0))) da_nil)))))) pa_nil)))) (ds_cons (ds_expr (de_ext (pe_bm PySem.F.plainAttrs_list PySem.F.slot_list_extend PySem.F.type_list_extend mt_extend (pv 1) (pa_cons (db (de_lst (da_cons (de_mkX xc_BadOffers (hr.mono (by decide)) (by rfl) (de_of_var (pv 0))) (da_cons (de_mkX xc_NotFull (hr.mono (by decide)) (by rfl) (de_of_var (pv 0))) (da_cons (de_mkX xc_BadBook (hr.mono (by decide)) (by rfl) (de_of_var (pv 0))) (da_cons (de_mkX xc_NoFilm (hr.mono (by decide)) (by rfl) (de_of_var (pv 0))) da_nil)))))) pa_nil)))) (ds_cons (ds_expr (de_ext (pe_bm PySem.F.plainAttrs_list PySem.F.slot_list_extend PySem.F.type_list_extend mt_extend (pv 1) (pa_cons (db (de_lst (da_cons (de_mkX xc_BadWire (hr.mono (by decide)) (by rfl) (de_of_var (pv 0))) (da_cons (de_mkX xc_NoChange (hr.mono (by decide)) (by rfl) (de_of_var (pv 0))) (da_cons (de_mkX xc_SeenAlready (hr.mono (by decide)) (by rfl) (de_of_var (pv 0))) (da_cons (de_mkX xc_NothingSeen (hr.mono (by decide)) (by rfl) (de_of_var (pv 0))) da_nil)))))) pa_nil)))) (ds_cons (ds_expr (de_ext (pe_bm PySem.F.plainAttrs_list PySem.F.slot_list_extend PySem.F.type_list_extend mt_extend (pv 1) (pa_cons (db (de_lst (da_cons (de_mkX xc_NothingToUndo (hr.mono (by decide)) (by rfl) (de_of_var (pv 0))) (da_cons (de_mkX xc_NothingToRedo (hr.mono (by decide)) (by rfl) (de_of_var (pv 0))) (da_cons (de_mkX xc_BadText (hr.mono (by decide)) (by rfl) (de_of_var (pv 0))) (da_cons (de_mkX xc_BadJournal (hr.mono (by decide)) (by rfl) (de_of_var (pv 0))) da_nil)))))) pa_nil)))) (ds_cons (ds_expr (de_ext (pe_bm PySem.F.plainAttrs_list PySem.F.slot_list_extend PySem.F.type_list_extend mt_extend (pv 1) (pa_cons (db (de_lst (da_cons (de_mkX xc_BadLine (hr.mono (by decide)) (by rfl) (de_of_var (pv 0))) da_nil))) pa_nil)))) (ds_one (ds_ret (de_frz (pv 1))))))))))))
abbrev nm__law_kinds_of : List Str := ["_law_error", "_law_found"]
theorem sc__law_kinds_of : FnScope nm__law_kinds_of ["_law_error"] (defScope s__law_kinds_of) := ⟨rfl, rfl, rfl, by decide +kernel, rfl, by decide +kernel, by decide +kernel⟩
def g__law_kinds_of : FS := (sSeq (sSet 1 (xOwn (oLst (aCons (e1 (o1 (opIsX nC nX 1)) (eVar 0)) (aCons (e1 (o1 (opIsX nC nX 2)) (eVar 0)) aNil))))) (sSeq (sExpr (eExt 1 (eL (oL opLst) (aCons (e1 (o1 (opIsX nC nX 3)) (eVar 0)) (aCons (e1 (o1 (opIsX nC nX 4)) (eVar 0)) aNil))))) (sSeq (sExpr (eExt 1 (eL (oL opLst) (aCons (e1 (o1 (opIsX nC nX 5)) (eVar 0)) (aCons (e1 (o1 (opIsX nC nX 6)) (eVar 0)) aNil))))) (sSeq (sExpr (eExt 1 (eL (oL opLst) (aCons (e1 (o1 (opIsX nC nX 7)) (eVar 0)) (aCons (e1 (o1 (opIsX nC nX 8)) (eVar 0)) aNil))))) (sSeq (sExpr (eExt 1 (eL (oL opLst) (aCons (e1 (o1 (opIsX nC nX 9)) (eVar 0)) (aCons (e1 (o1 (opIsX nC nX 10)) (eVar 0)) aNil))))) (sSeq (sExpr (eExt 1 (eL (oL opLst) (aCons (e1 (o1 (opIsX nC nX 11)) (eVar 0)) (aCons (e1 (o1 (opIsX nC nX 12)) (eVar 0)) aNil))))) (sSeq (sExpr (eExt 1 (eL (oL opLst) (aCons (e1 (o1 (opIsX nC nX 13)) (eVar 0)) (aCons (e1 (o1 (opIsX nC nX 14)) (eVar 0)) aNil))))) (sSeq (sExpr (eExt 1 (eL (oL opLst) (aCons (e1 (o1 (opIsX nC nX 15)) (eVar 0)) (aCons (e1 (o1 (opIsX nC nX 16)) (eVar 0)) aNil))))) (sSeq (sExpr (eExt 1 (eL (oL opLst) (aCons (e1 (o1 (opIsX nC nX 17)) (eVar 0)) (aCons (e1 (o1 (opIsX nC nX 18)) (eVar 0)) aNil))))) (sSeq (sExpr (eExt 1 (eL (oL opLst) (aCons (e1 (o1 (opIsX nC nX 19)) (eVar 0)) (aCons (e1 (o1 (opIsX nC nX 20)) (eVar 0)) aNil))))) (sSeq (sExpr (eExt 1 (eL (oL opLst) (aCons (e1 (o1 (opIsX nC nX 21)) (eVar 0)) (aCons (e1 (o1 (opIsX nC nX 22)) (eVar 0)) aNil))))) (sSeq (sExpr (eExt 1 (eL (oL opLst) (aCons (e1 (o1 (opIsX nC nX 23)) (eVar 0)) (aCons (e1 (o1 (opIsX nC nX 24)) (eVar 0)) aNil))))) (sSeq (sExpr (eExt 1 (eL (oL opLst) (aCons (e1 (o1 (opIsX nC nX 25)) (eVar 0)) (aCons (e1 (o1 (opIsX nC nX 26)) (eVar 0)) aNil))))) (sSeq (sExpr (eExt 1 (eL (oL opLst) (aCons (e1 (o1 (opIsX nC nX 27)) (eVar 0)) (aCons (e1 (o1 (opIsX nC nX 28)) (eVar 0)) aNil))))) (sSeq (sExpr (eExt 1 (eL (oL opLst) (aCons (e1 (o1 (opIsX nC nX 29)) (eVar 0)) aNil)))) (sRet (eFrz 1)))))))))))))))))
def m__law_kinds_of : M := run 2 g__law_kinds_of
theorem ok__law_kinds_of (F : FunD K "_law_kinds_of" "_law_kinds_of" (defArgs s__law_kinds_of) (defBody s__law_kinds_of) (defScope s__law_kinds_of) dvs kws f fd) (XF : Xfs (cn w K) nC nX) (xg_BadBoard : mg "BadBoard" = some (.ref ((cn w K).xc 1))) (C : Cfs (cn w K) nC) (B : Bf mg) (xg_BadDots : mg "BadDots" = some (.ref ((cn w K).xc 2))) (xg_BadRows : mg "BadRows" = some (.ref ((cn w K).xc 3))) (xg_BadColumns : mg "BadColumns" = some (.ref ((cn w K).xc 4))) (xg_OtherBoard : mg "OtherBoard" = some (.ref ((cn w K).xc 5))) (xg_BadPictures : mg "BadPictures" = some (.ref ((cn w K).xc 6))) (xg_BadTick : mg "BadTick" = some (.ref ((cn w K).xc 7))) (xg_TooLong : mg "TooLong" = some (.ref ((cn w K).xc 8))) (xg_BadStrip : mg "BadStrip" = some (.ref ((cn w K).xc 9))) (xg_BadLooks : mg "BadLooks" = some (.ref ((cn w K).xc 10))) (xg_BadSeen : mg "BadSeen" = some (.ref ((cn w K).xc 11))) (xg_BadWires : mg "BadWires" = some (.ref ((cn w K).xc 12))) (xg_NoCause : mg "NoCause" = some (.ref ((cn w K).xc 13))) (xg_BadNumber : mg "BadNumber" = some (.ref ((cn w K).xc 14))) (xg_BadFilms : mg "BadFilms" = some (.ref ((cn w K).xc 15))) (xg_BadParts : mg "BadParts" = some (.ref ((cn w K).xc 16))) (xg_BadOffers : mg "BadOffers" = some (.ref ((cn w K).xc 17))) (xg_NotFull : mg "NotFull" = some (.ref ((cn w K).xc 18))) (xg_BadBook : mg "BadBook" = some (.ref ((cn w K).xc 19))) (xg_NoFilm : mg "NoFilm" = some (.ref ((cn w K).xc 20))) (xg_BadWire : mg "BadWire" = some (.ref ((cn w K).xc 21))) (xg_NoChange : mg "NoChange" = some (.ref ((cn w K).xc 22))) (xg_SeenAlready : mg "SeenAlready" = some (.ref ((cn w K).xc 23))) (xg_NothingSeen : mg "NothingSeen" = some (.ref ((cn w K).xc 24))) (xg_NothingToUndo : mg "NothingToUndo" = some (.ref ((cn w K).xc 25))) (xg_NothingToRedo : mg "NothingToRedo" = some (.ref ((cn w K).xc 26))) (xg_BadText : mg "BadText" = some (.ref ((cn w K).xc 27))) (xg_BadJournal : mg "BadJournal" = some (.ref ((cn w K).xc 28))) (xg_BadLine : mg "BadLine" = some (.ref ((cn w K).xc 29))) : FnOk P w K mg base (CX P w) 1 f fd ["_law_error"] (spM (cn w K) 1 m__law_kinds_of) :=
  fn_m F sc__law_kinds_of (by decide) fun cdv A outer s H E hr tk => (ds_cons (ds_set (i := 1) sc__law_kinds_of.nd rfl (by first | exact Or.inl rfl | exact Or.inr rfl) (dx_lst (da_cons (de_isX C XF (by decide) (by rfl) B.isinstance (db (de_of_var (pv 0))) (pe_globC xg_BadBoard (by rfl))) (da_cons (de_isX C XF (by decide) (by rfl) B.isinstance (db (de_of_var (pv 0))) (pe_globC xg_BadDots (by rfl))) da_nil)))) (ds_cons (ds_expr (de_ext (pe_bm PySem.F.plainAttrs_list PySem.F.slot_list_extend PySem.F.type_list_extend mt_extend (pv 1) (pa_cons (db (de_lst (da_cons (de_isX C XF (by decide) (by rfl) B.isinstance (db (de_of_var (pv 0))) (pe_globC xg_BadRows (by rfl))) (da_cons (de_isX C XF (by decide) (by rfl) B.isinstance (db (de_of_var (pv 0))) (pe_globC xg_BadColumns (by rfl))) da_nil)))) pa_nil)))) (ds_cons (ds_expr (de_ext (pe_bm PySem.F.plainAttrs_list PySem.F.slot_list_extend PySem.F.type_list_extend mt_extend (pv 1) (pa_cons (db (de_lst (da_cons (de_isX C XF (by decide) (by rfl) B.isinstance (db (de_of_var (pv 0))) (pe_globC xg_OtherBoard (by rfl))) (da_cons (de_isX C XF (by decide) (by rfl) B.isinstance (db (de_of_var (pv 0))) (pe_globC xg_BadPictures (by rfl))) da_nil)))) pa_nil)))) (ds_cons (ds_expr (de_ext (pe_bm PySem.F.plainAttrs_list PySem.F.slot_list_extend PySem.F.type_list_extend mt_extend (pv 1) (pa_cons (db (de_lst (da_cons (de_isX C XF (by decide) (by rfl) B.isinstance (db (de_of_var (pv 0))) (pe_globC xg_BadTick (by rfl))) (da_cons (de_isX C XF (by decide) (by rfl) B.isinstance (db (de_of_var (pv 0))) (pe_globC xg_TooLong (by rfl))) da_nil)))) pa_nil)))) (ds_cons (ds_expr (de_ext (pe_bm PySem.F.plainAttrs_list PySem.F.slot_list_extend PySem.F.type_list_extend mt_extend (pv 1) (pa_cons (db (de_lst (da_cons (de_isX C XF (by decide) (by rfl) B.isinstance (db (de_of_var (pv 0))) (pe_globC xg_BadStrip (by rfl))) (da_cons (de_isX C XF (by decide) (by rfl) B.isinstance (db (de_of_var (pv 0))) (pe_globC xg_BadLooks (by rfl))) da_nil)))) pa_nil)))) (ds_cons (ds_expr (de_ext (pe_bm PySem.F.plainAttrs_list PySem.F.slot_list_extend PySem.F.type_list_extend mt_extend (pv 1) (pa_cons (db (de_lst (da_cons (de_isX C XF (by decide) (by rfl) B.isinstance (db (de_of_var (pv 0))) (pe_globC xg_BadSeen (by rfl))) (da_cons (de_isX C XF (by decide) (by rfl) B.isinstance (db (de_of_var (pv 0))) (pe_globC xg_BadWires (by rfl))) da_nil)))) pa_nil)))) (ds_cons (ds_expr (de_ext (pe_bm PySem.F.plainAttrs_list PySem.F.slot_list_extend PySem.F.type_list_extend mt_extend (pv 1) (pa_cons (db (de_lst (da_cons (de_isX C XF (by decide) (by rfl) B.isinstance (db (de_of_var (pv 0))) (pe_globC xg_NoCause (by rfl))) (da_cons (de_isX C XF (by decide) (by rfl) B.isinstance (db (de_of_var (pv 0))) (pe_globC xg_BadNumber (by rfl))) da_nil)))) pa_nil)))) (ds_cons (ds_expr (de_ext (pe_bm PySem.F.plainAttrs_list PySem.F.slot_list_extend PySem.F.type_list_extend mt_extend (pv 1) (pa_cons (db (de_lst (da_cons (de_isX C XF (by decide) (by rfl) B.isinstance (db (de_of_var (pv 0))) (pe_globC xg_BadFilms (by rfl))) (da_cons (de_isX C XF (by decide) (by rfl) B.isinstance (db (de_of_var (pv 0))) (pe_globC xg_BadParts (by rfl))) da_nil)))) pa_nil)))) (ds_cons (ds_expr (de_ext (pe_bm PySem.F.plainAttrs_list PySem.F.slot_list_extend PySem.F.type_list_extend mt_extend (pv 1) (pa_cons (db (de_lst (da_cons (de_isX C XF (by decide) (by rfl) B.isinstance (db (de_of_var (pv 0))) (pe_globC xg_BadOffers (by rfl))) (da_cons (de_isX C XF (by decide) (by rfl) B.isinstance (db (de_of_var (pv 0))) (pe_globC xg_NotFull (by rfl))) da_nil)))) pa_nil)))) (ds_cons (ds_expr (de_ext (pe_bm PySem.F.plainAttrs_list PySem.F.slot_list_extend PySem.F.type_list_extend mt_extend (pv 1) (pa_cons (db (de_lst (da_cons (de_isX C XF (by decide) (by rfl) B.isinstance (db (de_of_var (pv 0))) (pe_globC xg_BadBook (by rfl))) (da_cons (de_isX C XF (by decide) (by rfl) B.isinstance (db (de_of_var (pv 0))) (pe_globC xg_NoFilm (by rfl))) da_nil)))) pa_nil)))) (ds_cons (ds_expr (de_ext (pe_bm PySem.F.plainAttrs_list PySem.F.slot_list_extend PySem.F.type_list_extend mt_extend (pv 1) (pa_cons (db (de_lst (da_cons (de_isX C XF (by decide) (by rfl) B.isinstance (db (de_of_var (pv 0))) (pe_globC xg_BadWire (by rfl))) (da_cons (de_isX C XF (by decide) (by rfl) B.isinstance (db (de_of_var (pv 0))) (pe_globC xg_NoChange (by rfl))) da_nil)))) pa_nil)))) (ds_cons (ds_expr (de_ext (pe_bm PySem.F.plainAttrs_list PySem.F.slot_list_extend PySem.F.type_list_extend mt_extend (pv 1) (pa_cons (db (de_lst (da_cons (de_isX C XF (by decide) (by rfl) B.isinstance (db (de_of_var (pv 0))) (pe_globC xg_SeenAlready (by rfl))) (da_cons (de_isX C XF (by decide) (by rfl) B.isinstance (db (de_of_var (pv 0))) (pe_globC xg_NothingSeen (by rfl))) da_nil)))) pa_nil)))) (ds_cons (ds_expr (de_ext (pe_bm PySem.F.plainAttrs_list PySem.F.slot_list_extend PySem.F.type_list_extend mt_extend (pv 1) (pa_cons (db (de_lst (da_cons (de_isX C XF (by decide) (by rfl) B.isinstance (db (de_of_var (pv 0))) (pe_globC xg_NothingToUndo (by rfl))) (da_cons (de_isX C XF (by decide) (by rfl) B.isinstance (db (de_of_var (pv 0))) (pe_globC xg_NothingToRedo (by rfl))) da_nil)))) pa_nil)))) (ds_cons (ds_expr (de_ext (pe_bm PySem.F.plainAttrs_list PySem.F.slot_list_extend PySem.F.type_list_extend mt_extend (pv 1) (pa_cons (db (de_lst (da_cons (de_isX C XF (by decide) (by rfl) B.isinstance (db (de_of_var (pv 0))) (pe_globC xg_BadText (by rfl))) (da_cons (de_isX C XF (by decide) (by rfl) B.isinstance (db (de_of_var (pv 0))) (pe_globC xg_BadJournal (by rfl))) da_nil)))) pa_nil)))) (ds_cons (ds_expr (de_ext (pe_bm PySem.F.plainAttrs_list PySem.F.slot_list_extend PySem.F.type_list_extend mt_extend (pv 1) (pa_cons (db (de_lst (da_cons (de_isX C XF (by decide) (by rfl) B.isinstance (db (de_of_var (pv 0))) (pe_globC xg_BadLine (by rfl))) da_nil))) pa_nil)))) (ds_one (ds_ret (de_frz (pv 1)))))))))))))))))))
abbrev nm__law_is_caught : List Str := ["_law_one", "_law_caught", "_law_error"]
theorem sc__law_is_caught : FnScope nm__law_is_caught ["_law_one"] (defScope s__law_is_caught) := ⟨rfl, rfl, rfl, by decide +kernel, rfl, by decide +kernel, by decide +kernel⟩
def g__law_is_caught : FS := (sSeq (sSet 1 (xVal (eC .non))) (sSeq (sTryR 2 1 0 1 nX) (sRet (eAnd (e1 (o1 (opIsX nC nX 1)) (eVar 1)) (e1 (o1 (opIsVE nX)) (eVar 1))))))
def m__law_is_caught : M := run 3 g__law_is_caught
theorem ok__law_is_caught (F : FunD K "_law_is_caught" "_law_is_caught" (defArgs s__law_is_caught) (defBody s__law_is_caught) (defScope s__law_is_caught) dvs kws f fd) (xc_BadBoard : Xc P w mg base (cn w K) "BadBoard" 1) (trc : Trc mg (cn w K) nX) (XF : Xfs (cn w K) nC nX) (xg_BadBoard : mg "BadBoard" = some (.ref ((cn w K).xc 1))) (C : Cfs (cn w K) nC) (B : Bf mg) (nvVE : mg "ValueError" = none) : FnG P w K mg base (CX P w) 3 f fd ["_law_one"] (spM (cn w K) 1 m__law_is_caught) :=
  fn_mG F sc__law_is_caught (by decide) fun cdv A outer s H E ga hr tk => (ds_cons (ds_set (i := 1) sc__law_is_caught.nd rfl (by first | exact Or.inl rfl | exact Or.inr rfl) (dx_val de_non)) (ds_cons (ds_tryR (i := 2) (j := 1) (k := 0) xc_BadBoard trc rfl (hr.mono (by decide)) (by rfl) (by rfl) rfl rfl rfl sc__law_is_caught.nd rfl rfl rfl (by decide) (by rfl) (by rfl) (by rfl)) (ds_one (ds_ret (de_and (de_isX C XF (by decide) (by rfl) B.isinstance (db (de_of_var (pv 1))) (pe_globC xg_BadBoard (by rfl))) (de_one (de_isVE trc XF (by rfl) B.isinstance (db (de_of_var (pv 1))) (pe_tyB (by decide +kernel) nvVE (by rfl)))))))))
abbrev nm__law_right : List Str := ["_law_pot_here", "_law_rows_here", "_law_board", "_law_some", "_law_one", "_law_kept", "_law_errors", "_law_at", "_law_error", "_law_k"]
theorem sc__law_right : FnScope nm__law_right ["_law_pot_here"] (defScope s__law_right) := ⟨rfl, rfl, rfl, by decide +kernel, rfl, by decide +kernel, by decide +kernel⟩
def g__law_right : FS := (sSeq (sSet 1 (xVal (eCallP 0 1 m__law_small_rows (aCons (eC (.int 4)) aNil)))) (sSeq (sSet 2 (xVal (eMake 0 1 m_Board___init__ [] (aCons (eVar 1) aNil)))) (sSeq (sSet 3 (xOwn (oLst (aCons (eCallP 0 0 m__law_odd aNil) (aCons (eL (oL opTup) (aCons (eCallP 0 0 m__law_odd aNil) (aCons (eL (oL opLst) (aCons (eCallP 0 0 m__law_odd aNil) aNil)) aNil))) aNil))))) (sSeq (sExpr (eApp 3 (eCallP 0 1 m__law_of (aCons (eL (oL opLst) (aCons (eVar 2) (aCons (eL (oL opTup) (aCons (eVar 2) aNil)) (aCons (eMake 2 3 m_Dead___init__ [.tup [], .tup []] (aCons (eVar 2) aNil)) (aCons (eMake 1 2 m_Picture___init__ [.tup []] (aCons (eVar 2) aNil)) aNil))))) aNil)))) (sSeq (sFor (iAny (eFrz 3)) (gN 4) (sSeq (sSet 6 (xVal (eCallN 1 m__law_all_of [] (aCons (eVar 4) aNil)))) (sSeq (sIf (bOr (bNot (bVal (e1 (o1 opAll) (eMade (oLc (iAny (eVar 6)) (gN 8) bYes (e2 (eqAnyS nC [(0, 2, m_Board___eq__), (1, 2, m_Picture___eq__), (2, 2, m_Dead___eq__)]) (eXv nX (eVar 8)) (eVar 4)) [8]))))) (bNot (bVal (eCallN 1 m__law_is_caught [] (aCons (eVar 4) aNil))))) (sRet (eC (.bl false))) sNil) (sFor (iEnumLD (eVar 6)) (gT [(gN 7), (gN 8)]) (sIf (bOr (bVal (e2 (o2 opNe) (eCallN 1 m__law_kinds_of [] (aCons (eVar 8) aNil)) (eMade (oLc (iRange1 (e1 (o1 opLen) (eVar 6))) (gN 9) bYes (e2 (o2 opEq) (eVar 9) (eVar 7)) [9])))) (bNot (bVal (e1 (o1 (opIsX nC nX 0)) (eVar 8))))) (sRet (eC (.bl false))) sNil))))) (sSeq (sSet 5 (xVal (eMade (oLc (iAny (eCallN 1 m__law_all_of [] (aCons (e2 (o2 opIx) (eVar 3) (eC (.int 0))) aNil))) (gN 8) bYes (eXv nX (eVar 8)) [8])))) (sRet (e2 (o2 opEq) (e1 (o1 opReprX) (eVar 5)) (e1 (o1 opReprX) (e2 (o2 opMulA) (eL (oL opLst) (aCons (e2 (o2 opIx) (eVar 3) (eC (.int 0))) aNil)) (e1 (o1 opLen) (eVar 5))))))))))))
def m__law_right : MP := runP 10 g__law_right
theorem ok__law_right (F : FunD K "_law_right" "_law_right" (defArgs s__law_right) (defBody s__law_right) (defScope s__law_right) dvs kws f fd) (fc__law_small_rows : FcP P w mg base (cn w K) 3 "_law_small_rows" 1 m__law_small_rows) (ic_Board : Ic P w mg base (cn w K) 3 "Board" 0 1 m_Board___init__ [[]]) (fc__law_odd : FcP P w mg base (cn w K) 3 "_law_odd" 0 m__law_odd) (ic_Dead : Ic P w mg base (cn w K) 3 "Dead" 2 3 m_Dead___init__ [[], [.tup []], [.tup [], .tup []]]) (ic_Picture : Ic P w mg base (cn w K) 4 "Picture" 1 2 m_Picture___init__ [[], [.tup []]]) (fc__law_of : FcP P w mg base (cn w K) 2 "_law_of" 1 m__law_of) (fc__law_all_of : Fc P w mg base (cn w K) 3 "_law_all_of" 1 m__law_all_of [[]]) (XF : Xfs (cn w K) nC nX) (mt_eq : McAll P w mg base (cn w K) 3 "__eq__" [] [(0, 2, m_Board___eq__), (1, 2, m_Picture___eq__), (2, 2, m_Dead___eq__)]) (C : Cfs (cn w K) nC) (B : Bf mg) (fc__law_is_caught : FcG P w mg base (cn w K) 3 "_law_is_caught" 1 m__law_is_caught) (fc__law_kinds_of : Fc P w mg base (cn w K) 1 "_law_kinds_of" 1 m__law_kinds_of [[]]) (xg_WireError : mg "WireError" = some (.ref ((cn w K).xc 0))) (SK : SysK K) : FnG P w K mg base (CX P w) 8 f fd ["_law_pot_here"] (spP (cn w K) 0 m__law_right) :=
  fn_pG F sc__law_right rfl (by decide) fun cdv A outer s H E ga hr => (ds_cons (ds_set (i := 1) sc__law_right.nd rfl (by first | exact Or.inl rfl | exact Or.inr rfl) (dx_val (de_callP fc__law_small_rows (hr.mono (by decide)) (by rfl) (pv 0) (da_cons de_int da_nil)))) (ds_cons (ds_set (i := 2) sc__law_right.nd rfl (by first | exact Or.inl rfl | exact Or.inr rfl) (dx_val (de_make ic_Board (by simp) (hr.mono (by decide)) (by rfl) (da_cons (de_of_var (pv 1)) da_nil)))) (ds_cons (ds_set (i := 3) sc__law_right.nd rfl (by first | exact Or.inl rfl | exact Or.inr rfl) (dx_lst (da_cons (de_callP fc__law_odd (hr.mono (by decide)) (by rfl) (pv 0) da_nil) (da_cons (de_tup (da_cons (de_callP fc__law_odd (hr.mono (by decide)) (by rfl) (pv 0) da_nil) (da_cons (de_lst (da_cons (de_callP fc__law_odd (hr.mono (by decide)) (by rfl) (pv 0) da_nil) da_nil)) da_nil))) da_nil)))) (ds_cons (ds_expr (de_app (pe_bm PySem.F.plainAttrs_list PySem.F.slot_list_append PySem.F.type_list_append mt_append (pv 3) (pa_cons (de_callP fc__law_of (hr.mono (by decide)) (by rfl) (pv 0) (da_cons (de_lst (da_cons (de_of_var (pv 2)) (da_cons (de_tup (da_cons (de_of_var (pv 2)) da_nil)) (da_cons (de_make ic_Dead (by simp) (hr.mono (by decide)) (by rfl) (da_cons (de_of_var (pv 2)) da_nil)) (da_cons (de_make ic_Picture (by simp) (hr.mono (by decide)) (by rfl) (da_cons (de_of_var (pv 2)) da_nil)) da_nil))))) da_nil)) pa_nil)))) (ds_cons (ds_for (passes_of rfl) rfl (di_any (de_frz (pv 3))) (dg_name (i := 4) sc__law_right.nd rfl (by first | exact Or.inl rfl | exact Or.inr rfl)) (ds_cons (ds_set (i := 6) sc__law_right.nd rfl (by first | exact Or.inl rfl | exact Or.inr rfl) (dx_val (de_call fc__law_all_of (by simp) (hr.mono (by decide)) (by rfl) (da_cons (de_of_var (pv 4)) da_nil)))) (ds_cons (ds_if (dt_bool (dw_or (dt_not (dt_val (de_callB1 (cr_all rfl) sv_all (by rfl) B.all boot_all (db (de_lc (own := [("_law_error", 8)]) rfl sc__law_right.nd (di_any (de_of_var (pv 6))) (blkOk_by (N := nm__law_right) (sc := defScope s__law_right) (by decide +kernel)) (by decide) (fun _ _ _ _ _ => (dg_name (i := 8) sc__law_right.nd rfl (by first | exact Or.inl rfl | exact Or.inr rfl))) (fun _ _ _ _ _ => dts_nil) (fun _ _ _ _ _ => (de_cmp (od_eqAnyS mt_eq.at_ (hr.mono (by decide)) C) (sv_eqAnyS C) (de_xv XF (de_of_var (pv 8))) (db (de_of_var (pv 4))) (nomark _)))))))) (dw_or1 (dt_not (dt_val (de_callG ga fc__law_is_caught (hr.mono (by decide)) (by rfl) (da_cons (de_of_var (pv 4)) da_nil))))))) (ds_one (ds_ret de_bl)) ds_nil) (ds_one (ds_for (passes_of rfl) rfl (di_enumL (by rfl) B.enumerate (de_of_var (pv 6))) (dg_tup rfl (dgs_cons (dg_name (i := 7) sc__law_right.nd rfl (by first | exact Or.inl rfl | exact Or.inr rfl)) (dgs_cons (dg_name (i := 8) sc__law_right.nd rfl (by first | exact Or.inl rfl | exact Or.inr rfl)) dgs_nil)) (live_list (LiveAll.cons live_n (LiveAll.cons live_n LiveAll.nil)))) (ds_one (ds_if (dt_bool (dw_or (dt_cmp (od_ne hr.units) sv_ne (de_call fc__law_kinds_of (by simp) (hr.mono (by decide)) (by rfl) (da_cons (de_of_var (pv 8)) da_nil)) (db (de_lc (own := [("_law_k", 9)]) rfl sc__law_right.nd (di_range1 (by rfl) B.range (de_callB1 cd_len sv_len (by rfl) B.len PySem.boot_len (db (de_of_var (pv 6))))) (blkOk_by (N := nm__law_right) (sc := defScope s__law_right) (by decide +kernel)) (by decide) (fun _ _ _ _ _ => (dg_name (i := 9) sc__law_right.nd rfl (by first | exact Or.inl rfl | exact Or.inr rfl))) (fun _ _ _ _ _ => dts_nil) (fun _ _ _ _ _ => (de_cmp (od_eq hr.units) sv_eq (de_of_var (pv 9)) (db (de_of_var (pv 7))) (nomark _))))) (nomark _)) (dw_or1 (dt_not (dt_val (de_isX C XF (by decide) (by rfl) B.isinstance (db (de_of_var (pv 8))) (pe_globC xg_WireError (by rfl)))))))) (ds_one (ds_ret de_bl)) ds_nil))))))) (ds_cons (ds_setLc (i := 5) (own := [("_law_error", 8)]) rfl sc__law_right.nd rfl rfl (sw_true rfl rfl rfl (by decide +kernel)) (di_any (de_call fc__law_all_of (by simp) (hr.mono (by decide)) (by rfl) (da_cons (de_ix (de_of_var (pv 3)) de_int) da_nil))) (blkOk_by (N := nm__law_right) (sc := defScope s__law_right) (by decide +kernel)) (by decide) (fun _ _ _ _ _ => (dg_name (i := 8) sc__law_right.nd rfl (by first | exact Or.inl rfl | exact Or.inr rfl))) (fun _ _ _ _ _ => dts_nil) (fun _ _ _ _ _ => (de_xv XF (de_of_var (pv 8))))) (ds_one (ds_ret (de_cmp (od_eq hr.units) sv_eq (de_callB1 (call_reprX SK ga (hu66 hr)) sv_reprX (by rfl) B.repr (by decide +kernel) (db (de_of_var (pv 5)))) (db (de_callB1 (call_reprX SK ga (hu66 hr)) sv_reprX (by rfl) B.repr (by decide +kernel) (db (de_op od_mulA sv_mulA (de_lst (da_cons (de_ix (de_of_var (pv 3)) de_int) da_nil)) (db (de_callB1 cd_len sv_len (by rfl) B.len PySem.boot_len (db (de_of_var (pv 5))))))))) (nomark _))))))))))
end Fd

namespace Fd
open PySem PySem.Spec PyProof.Rows L2 Wd
section
variable {P : Program} {w : World} {mg : Str → Option Value} {base : Heap} {N : Cn} {k j : Nat} {x : Str} {dd : List D}
theorem mcallN_cons {c n : Nat} {m : M} {tab : Tab} {dfl : List (List D)} (h : Mc P w mg base N j x c n m dfl) (hj : j ≤ k) (hd : dd ∈ dfl) (r : McAll P w mg base N k x dd tab) : McAll P w mg base N k x dd ((c, n, m) :: tab) := fun c' n' m' e => by
  show ∃ dfl, _
  unfold look at e
  split at e
  · rename_i ec
    cases e
    subst ec
    obtain ⟨f, fd, ps, ok, me, bs⟩ := h.ex
    exact ⟨dfl, ⟨h.att, h.nox, f, fd, ps, ok.mono hj, me, bs⟩, hd⟩
  · exact r c' n' m' e
theorem mcallN_nil' : McAll P w mg base N k x dd [] := fun c n m h => by cases h
theorem pcallN_cons {c : Nat} {m : M} {tab : Tab} (h : Pc P w mg base N j x c m) (hj : j ≤ k) (r : PcAll P w mg base N k x tab) : PcAll P w mg base N k x ((c, 1, m) :: tab) := fun c' n' m' e => by
  unfold look at e
  split at e
  · rename_i ec
    cases e
    subst ec
    obtain ⟨pa, g, fd, ok, pr, hb⟩ := h.ex
    exact ⟨rfl, h.cls, pa, g, fd, ok.mono hj, pr, hb⟩
  · exact r c' n' m' e
theorem pcallN_nil : PcAll P w mg base N k x [] := fun c n m h => by cases h
end
theorem facts {P : Program} {w : World} {K : PySem.W.Frag} {h h0 : Heap} {mg : Str → Option Value} {f : Addr} (HR : Right m__law_right) (X : K.In h) (G : h.Ns mainGlobals mg) (hfa : mg ("law" : Str) = some (.ref f)) (top : (P.main.scope.names.lookup ("super" : Str)).isSome = false) (c : SaysY P.main.file enFa enDs clsN enTw xcN tfD h0 K) :
    ∃ fd : FuncData, (∀ (s : Shared) (v : Value), BindsTo s fd ⟨[v], []⟩ [("_law_script", v)]) ∧ ∀ base : Heap, K.In base → base.Ns mainGlobals mg → (∀ p ∈ tfD.map (He.cT K), LamX.TabB base mg p.1 p.2) → FnG P w K mg base CX0 9 f fd ["_law_script"] (spLaw (cn w K)) := by
  obtain ⟨fd__law_take, dv__law_take, S__law_take⟩ : ∃ fd dv, Stands K "_law_take" "_law_take" (defArgs sTake) (defBody sTake) (defScope sTake) [] (He.ga K "_law_take") fd dv := c.x.def_ 0 rfl
  obtain ⟨fd__law_pot, dv__law_pot, S__law_pot⟩ : ∃ fd dv, Stands K "_law_pot" "_law_pot" (defArgs sPot) (defBody sPot) (defScope sPot) [] (He.ga K "_law_pot") fd dv := c.x.def_ 1 rfl
  obtain ⟨fd_law, dv_law, S_law⟩ : ∃ fd dv, Stands K "law" "law" (defArgs sLaw) (defBody sLaw) (defScope sLaw) [] (He.ga K "law") fd dv := c.x.def_ 2 rfl
  obtain ⟨fd_is_integer, dv_is_integer, S_is_integer⟩ : ∃ fd dv, Stands K "is_integer" "is_integer" (defArgs s_is_integer) (defBody s_is_integer) (defScope s_is_integer) [.non] (He.ga K "is_integer") fd dv := c.x.def_ 3 rfl
  obtain ⟨fd_is_tuple, dv_is_tuple, S_is_tuple⟩ : ∃ fd dv, Stands K "is_tuple" "is_tuple" (defArgs s_is_tuple) (defBody s_is_tuple) (defScope s_is_tuple) [] (He.ga K "is_tuple") fd dv := c.x.def_ 4 rfl
  obtain ⟨fd_is_pair, dv_is_pair, S_is_pair⟩ : ∃ fd dv, Stands K "is_pair" "is_pair" (defArgs s_is_pair) (defBody s_is_pair) (defScope s_is_pair) [] (He.ga K "is_pair") fd dv := c.x.def_ 5 rfl
  obtain ⟨fd_is_rising, dv_is_rising, S_is_rising⟩ : ∃ fd dv, Stands K "is_rising" "is_rising" (defArgs s_is_rising) (defBody s_is_rising) (defScope s_is_rising) [] (He.ga K "is_rising") fd dv := c.x.def_ 6 rfl
  obtain ⟨fd_are_numbers, dv_are_numbers, S_are_numbers⟩ : ∃ fd dv, Stands K "are_numbers" "are_numbers" (defArgs s_are_numbers) (defBody s_are_numbers) (defScope s_are_numbers) [] (He.ga K "are_numbers") fd dv := c.x.def_ 7 rfl
  obtain ⟨fd_is_row, dv_is_row, S_is_row⟩ : ∃ fd dv, Stands K "is_row" "is_row" (defArgs s_is_row) (defBody s_is_row) (defScope s_is_row) [] (He.ga K "is_row") fd dv := c.x.def_ 8 rfl
  obtain ⟨fd_are_rows, dv_are_rows, S_are_rows⟩ : ∃ fd dv, Stands K "are_rows" "are_rows" (defArgs s_are_rows) (defBody s_are_rows) (defScope s_are_rows) [] (He.ga K "are_rows") fd dv := c.x.def_ 9 rfl
  obtain ⟨fd_Board___init__, dv_Board___init__, S_Board___init__⟩ : ∃ fd dv, Stands K "__init__" "Board.__init__" (defArgs s_Board___init__) (defBody s_Board___init__) (defScope s_Board___init__) [] (He.ma K (He.ga K "Board") "__init__") fd dv := c.x.def_ 10 rfl
  obtain ⟨fd_Board_height, dv_Board_height, S_Board_height⟩ : ∃ fd dv, Stands K "height" "Board.height" (defArgs s_Board_height) (defBody s_Board_height) (defScope s_Board_height) [] (gAd K "Board" "height") fd dv := c.x.def_ 12 rfl
  obtain ⟨fd_Board_width, dv_Board_width, S_Board_width⟩ : ∃ fd dv, Stands K "width" "Board.width" (defArgs s_Board_width) (defBody s_Board_width) (defScope s_Board_width) [] (gAd K "Board" "width") fd dv := c.x.def_ 13 rfl
  obtain ⟨fd_Board_wires, dv_Board_wires, S_Board_wires⟩ : ∃ fd dv, Stands K "wires" "Board.wires" (defArgs s_Board_wires) (defBody s_Board_wires) (defScope s_Board_wires) [] (gAd K "Board" "wires") fd dv := c.x.def_ 15 rfl
  obtain ⟨fd_Board___contains__, dv_Board___contains__, S_Board___contains__⟩ : ∃ fd dv, Stands K "__contains__" "Board.__contains__" (defArgs s_Board___contains__) (defBody s_Board___contains__) (defScope s_Board___contains__) [] (He.ma K (He.ga K "Board") "__contains__") fd dv := c.x.def_ 16 rfl
  obtain ⟨fd_Board___eq__, dv_Board___eq__, S_Board___eq__⟩ : ∃ fd dv, Stands K "__eq__" "Board.__eq__" (defArgs s_Board___eq__) (defBody s_Board___eq__) (defScope s_Board___eq__) [] (He.ma K (He.ga K "Board") "__eq__") fd dv := c.x.def_ 19 rfl
  obtain ⟨fd_are_dots, dv_are_dots, S_are_dots⟩ : ∃ fd dv, Stands K "are_dots" "are_dots" (defArgs s_are_dots) (defBody s_are_dots) (defScope s_are_dots) [] (He.ga K "are_dots") fd dv := c.x.def_ 22 rfl
  obtain ⟨fd_Picture___init__, dv_Picture___init__, S_Picture___init__⟩ : ∃ fd dv, Stands K "__init__" "Picture.__init__" (defArgs s_Picture___init__) (defBody s_Picture___init__) (defScope s_Picture___init__) [.tup []] (He.ma K (He.ga K "Picture") "__init__") fd dv := c.x.def_ 26 rfl
  obtain ⟨fd_Picture___eq__, dv_Picture___eq__, S_Picture___eq__⟩ : ∃ fd dv, Stands K "__eq__" "Picture.__eq__" (defArgs s_Picture___eq__) (defBody s_Picture___eq__) (defScope s_Picture___eq__) [] (He.ma K (He.ga K "Picture") "__eq__") fd dv := c.x.def_ 37 rfl
  obtain ⟨fd_named_wires, dv_named_wires, S_named_wires⟩ : ∃ fd dv, Stands K "named_wires" "named_wires" (defArgs s_named_wires) (defBody s_named_wires) (defScope s_named_wires) [] (He.ga K "named_wires") fd dv := c.x.def_ 38 rfl
  obtain ⟨fd_Dead___init__, dv_Dead___init__, S_Dead___init__⟩ : ∃ fd dv, Stands K "__init__" "Dead.__init__" (defArgs s_Dead___init__) (defBody s_Dead___init__) (defScope s_Dead___init__) [.tup [], .tup []] (He.ma K (He.ga K "Dead") "__init__") fd dv := c.x.def_ 39 rfl
  obtain ⟨fd_Dead_wires, dv_Dead_wires, S_Dead_wires⟩ : ∃ fd dv, Stands K "wires" "Dead.wires" (defArgs s_Dead_wires) (defBody s_Dead_wires) (defScope s_Dead_wires) [] (gAd K "Dead" "wires") fd dv := c.x.def_ 43 rfl
  obtain ⟨fd_Dead___eq__, dv_Dead___eq__, S_Dead___eq__⟩ : ∃ fd dv, Stands K "__eq__" "Dead.__eq__" (defArgs s_Dead___eq__) (defBody s_Dead___eq__) (defScope s_Dead___eq__) [] (He.ma K (He.ga K "Dead") "__eq__") fd dv := c.x.def_ 49 rfl
  obtain ⟨fd__law_of, dv__law_of, S__law_of⟩ : ∃ fd dv, Stands K "_law_of" "_law_of" (defArgs s__law_of) (defBody s__law_of) (defScope s__law_of) [] (He.ga K "_law_of") fd dv := c.x.def_ 56 rfl
  obtain ⟨fd__law_rows, dv__law_rows, S__law_rows⟩ : ∃ fd dv, Stands K "_law_rows" "_law_rows" (defArgs s__law_rows) (defBody s__law_rows) (defScope s__law_rows) [] (He.ga K "_law_rows") fd dv := c.x.def_ 57 rfl
  obtain ⟨fd__law_size, dv__law_size, S__law_size⟩ : ∃ fd dv, Stands K "_law_size" "_law_size" (defArgs s__law_size) (defBody s__law_size) (defScope s__law_size) [] (He.ga K "_law_size") fd dv := c.x.def_ 58 rfl
  obtain ⟨fd__law_small_rows, dv__law_small_rows, S__law_small_rows⟩ : ∃ fd dv, Stands K "_law_small_rows" "_law_small_rows" (defArgs s__law_small_rows) (defBody s__law_small_rows) (defScope s__law_small_rows) [] (He.ga K "_law_small_rows") fd dv := c.x.def_ 59 rfl
  obtain ⟨fd__law_odd, dv__law_odd, S__law_odd⟩ : ∃ fd dv, Stands K "_law_odd" "_law_odd" (defArgs s__law_odd) (defBody s__law_odd) (defScope s__law_odd) [] (He.ga K "_law_odd") fd dv := c.x.def_ 60 rfl
  obtain ⟨fd__law_all_of, dv__law_all_of, S__law_all_of⟩ : ∃ fd dv, Stands K "_law_all_of" "_law_all_of" (defArgs s__law_all_of) (defBody s__law_all_of) (defScope s__law_all_of) [] (He.ga K "_law_all_of") fd dv := c.x.def_ 61 rfl
  obtain ⟨fd__law_kinds_of, dv__law_kinds_of, S__law_kinds_of⟩ : ∃ fd dv, Stands K "_law_kinds_of" "_law_kinds_of" (defArgs s__law_kinds_of) (defBody s__law_kinds_of) (defScope s__law_kinds_of) [] (He.ga K "_law_kinds_of") fd dv := c.x.def_ 62 rfl
  obtain ⟨fd__law_is_caught, dv__law_is_caught, S__law_is_caught⟩ : ∃ fd dv, Stands K "_law_is_caught" "_law_is_caught" (defArgs s__law_is_caught) (defBody s__law_is_caught) (defScope s__law_is_caught) [] (He.ga K "_law_is_caught") fd dv := c.x.def_ 63 rfl
  obtain ⟨fd__law_right, dv__law_right, S__law_right⟩ : ∃ fd dv, Stands K "_law_right" "_law_right" (defArgs s__law_right) (defBody s__law_right) (defScope s__law_right) [] (He.ga K "_law_right") fd dv := c.x.def_ 64 rfl
  have B : Bf mg := ⟨He.free_ok X G (c.x.fact 0 rfl), He.free_ok X G (c.x.fact 1 rfl), He.free_ok X G (c.x.fact 2 rfl), He.free_ok X G (c.x.fact 3 rfl), He.free_ok X G (c.x.fact 4 rfl), He.free_ok X G (c.x.fact 5 rfl), He.free_ok X G (c.x.fact 6 rfl), He.free_ok X G (c.x.fact 7 rfl), He.free_ok X G (c.x.fact 8 rfl), He.free_ok X G (c.x.fact 9 rfl), He.free_ok X G (c.x.fact 10 rfl), He.free_ok X G (c.x.fact 11 rfl), He.free_ok X G (c.x.fact 12 rfl), He.free_ok X G (c.x.fact 13 rfl), He.free_ok X G (c.x.fact 14 rfl), He.free_ok X G (c.x.fact 15 rfl), He.free_ok X G (c.x.fact 16 rfl), He.free_ok X G (c.x.fact 17 rfl), He.free_ok X G (c.x.fact 18 rfl)⟩
  have CL : ClOk K clsN (cn w K) := ⟨c.x.rest.2.1, rfl, fun _ => rfl⟩
  have At0 : Att (cn w K) 0 := ⟨He.cls_ok (c.x.fact 22 rfl), (nos_cons (He.noat_ok (c.x.fact 19 rfl)) (nos_cons (He.noat_ok (c.x.fact 20 rfl)) (nos_cons (He.noat_ok (c.x.fact 21 rfl)) nos_nil))), by show (schL.getD 0 []).Nodup; decide +kernel, rfl⟩
  have At1 : Att (cn w K) 1 := ⟨He.cls_ok (c.x.fact 26 rfl), (nos_cons (He.noat_ok (c.x.fact 23 rfl)) (nos_cons (He.noat_ok (c.x.fact 24 rfl)) (nos_cons (He.noat_ok (c.x.fact 25 rfl)) nos_nil))), by show (schL.getD 1 []).Nodup; decide +kernel, rfl⟩
  have At2 : Att (cn w K) 2 := ⟨He.cls_ok (c.x.fact 31 rfl), (nos_cons (He.noat_ok (c.x.fact 27 rfl)) (nos_cons (He.noat_ok (c.x.fact 28 rfl)) (nos_cons (He.noat_ok (c.x.fact 29 rfl)) (nos_cons (He.noat_ok (c.x.fact 30 rfl)) nos_nil)))), by show (schL.getD 2 []).Nodup; decide +kernel, rfl⟩
  have At : ∀ c, c < 3 → Att (cn w K) c := fun c hc => match c, hc with | 0, _ => At0 | 1, _ => At1 | 2, _ => At2
  have C : Cfs (cn w K) nC := CL.cfs fun c hc => (At c hc).cls
  have NK : NOk K clsN xcN (cn w K) := ⟨rfl, fun _ => rfl, fun _ => rfl⟩
  have we := we_ok X G c.we c.wv top
  have kc_PAIR : Ck mg "PAIR" (.int 2) := ck_int (He.int_ok X G (c.x.fact 32 rfl))
  have kc_DOT : Ck mg "DOT" (.str "o") := ck_str (He.str_ok X G (c.x.fact 33 rfl))
  have kc_GAP : Ck mg "GAP" (.str ".") := ck_str (He.str_ok X G (c.x.fact 34 rfl))
  have kc_MOST_ROWS : Ck mg "MOST_ROWS" (.int 10) := ck_int (He.int_ok X G (c.x.fact 35 rfl))
  have kc_MOST_COLUMNS : Ck mg "MOST_COLUMNS" (.int 10) := ck_int (He.int_ok X G (c.x.fact 36 rfl))
  have kc_COLUMN : Ck mg "COLUMN" (.str "column") := ck_str (He.str_ok X G (c.x.fact 37 rfl))
  have kc_ROW : Ck mg "ROW" (.str "row") := ck_str (He.str_ok X G (c.x.fact 38 rfl))
  have e := hfa.symm.trans (He.glo_ok X G (c.x.fact 40 rfl))
  cases e
  have bl := FunD.bindsA (ps := ["_law_script"]) S_law.nil fun _ _ _ _ _ _ us hl => match us, hl with | [_], _ => rfl
  refine ⟨fd_law, fun s v => bl s [v] rfl, fun base _ _ TB0 => ?_⟩
  have fc__law_take : FcP P w mg base (cn w K) 1 "_law_take" 1 mTake := fc_take rfl S__law_take.nil B.int (He.glo_ok X G (c.x.fact 41 rfl)) S__law_take.fn.kp (S__law_take.nil.bindsN fun _ _ _ _ _ _ us hl => match us, hl with | [_, _], _ => rfl)
  have ok_is_integer' := ok_is_integer (P := P) (w := w) (mg := mg) (base := base) S_is_integer.fn (C := C) (B := B)
  have fc_is_integer : Fc P w mg base (cn w K) 1 "is_integer" 3 m_is_integer [[], [.non]] := ⟨_, fd_is_integer, _, ok_is_integer', He.glo_ok X G (c.x.fact 42 rfl), S_is_integer.fn.kp, (fun dd hd => by
    simp only [List.mem_cons, List.not_mem_nil, or_false] at hd
    rcases hd with rfl | rfl
    · exact S_is_integer.dfl1 rfl 3 1 1 rfl (by decide) rfl fun _ _ _ _ _ _ _ us its hu hi => match us, hu, its, hi with | [_, _, _], _, [_], _ => ⟨_, rfl, rfl⟩
    · exact S_is_integer.dfl1 rfl 2 0 1 rfl (by decide) rfl fun _ _ _ _ _ _ _ us its hu hi => match us, hu, its, hi with | [_, _], _, [_], _ => ⟨_, rfl, rfl⟩)⟩
  have ok_is_tuple' := ok_is_tuple (P := P) (w := w) (mg := mg) (base := base) S_is_tuple.fn (C := C) (B := B)
  have fc_is_tuple : Fc P w mg base (cn w K) 1 "is_tuple" 2 m_is_tuple [[]] := ⟨_, fd_is_tuple, _, ok_is_tuple', He.glo_ok X G (c.x.fact 43 rfl), S_is_tuple.fn.kp, (S_is_tuple.dfl0 rfl fun _ _ _ _ _ _ us hl => match us, hl with | [_, _], _ => rfl)⟩
  have ok_is_pair' := ok_is_pair (P := P) (w := w) (mg := mg) (base := base) S_is_pair.fn (C := C) (B := B) (kc_PAIR := kc_PAIR)
  have fc_is_pair : Fc P w mg base (cn w K) 1 "is_pair" 1 m_is_pair [[]] := ⟨_, fd_is_pair, _, ok_is_pair', He.glo_ok X G (c.x.fact 44 rfl), S_is_pair.fn.kp, (S_is_pair.dfl0 rfl fun _ _ _ _ _ _ us hl => match us, hl with | [_], _ => rfl)⟩
  have ok_is_rising' := ok_is_rising (P := P) (w := w) (mg := mg) (base := base) S_is_rising.fn (B := B)
  have fc_is_rising : Fc P w mg base (cn w K) 1 "is_rising" 1 m_is_rising [[]] := ⟨_, fd_is_rising, _, ok_is_rising', He.glo_ok X G (c.x.fact 45 rfl), S_is_rising.fn.kp, (S_is_rising.dfl0 rfl fun _ _ _ _ _ _ us hl => match us, hl with | [_], _ => rfl)⟩
  have ok_are_numbers' := ok_are_numbers (P := P) (w := w) (mg := mg) (base := base) S_are_numbers.fn (C := C) (B := B) (fc_is_integer := fc_is_integer) (fc_is_rising := fc_is_rising)
  have fc_are_numbers : Fc P w mg base (cn w K) 2 "are_numbers" 2 m_are_numbers [[]] := ⟨_, fd_are_numbers, _, ok_are_numbers', He.glo_ok X G (c.x.fact 46 rfl), S_are_numbers.fn.kp, (S_are_numbers.dfl0 rfl fun _ _ _ _ _ _ us hl => match us, hl with | [_, _], _ => rfl)⟩
  have ok_is_row' := ok_is_row (P := P) (w := w) (mg := mg) (base := base) S_is_row.fn (C := C) (B := B) (kc_DOT := kc_DOT) (kc_GAP := kc_GAP)
  have fc_is_row : Fc P w mg base (cn w K) 1 "is_row" 2 m_is_row [[]] := ⟨_, fd_is_row, _, ok_is_row', He.glo_ok X G (c.x.fact 47 rfl), S_is_row.fn.kp, (S_is_row.dfl0 rfl fun _ _ _ _ _ _ us hl => match us, hl with | [_, _], _ => rfl)⟩
  have ok_are_rows' := ok_are_rows (P := P) (w := w) (mg := mg) (base := base) S_are_rows.fn (kc_MOST_ROWS := kc_MOST_ROWS) (fc_is_tuple := fc_is_tuple) (C := C) (B := B) (kc_MOST_COLUMNS := kc_MOST_COLUMNS) (fc_is_row := fc_is_row) (kc_DOT := kc_DOT)
  have fc_are_rows : Fc P w mg base (cn w K) 2 "are_rows" 1 m_are_rows [[]] := ⟨_, fd_are_rows, _, ok_are_rows', He.glo_ok X G (c.x.fact 48 rfl), S_are_rows.fn.kp, (S_are_rows.dfl0 rfl fun _ _ _ _ _ _ us hl => match us, hl with | [_], _ => rfl)⟩
  have ok_Board___init__' := ok_Board___init__ (P := P) (w := w) (mg := mg) (base := base) S_Board___init__.fn (fc_are_rows := fc_are_rows) (xc_BadBoard := (xc_of X G c.xc NK we.1 we.2.1 (k := 1) (by decide) rfl)) (At := At) (B := B) (kc_DOT := kc_DOT)
  have ic_Board : Ic P w mg base (cn w K) 3 "Board" 0 1 m_Board___init__ [[]] := ⟨_, fd_Board___init__, _, ok_Board___init__', He.mkr_ok (c.x.fact 49 rfl), He.glo_ok X G (c.x.fact 50 rfl), (S_Board___init__.dfl0 rfl fun _ _ _ _ _ _ us hl => match us, hl with | [_, _], _ => rfl)⟩
  have ok_Board_height' := ok_Board_height (P := P) (w := w) (mg := mg) (base := base) S_Board_height.fn (At := At) (B := B)
  have pc_Board_height : Pc P w mg base (cn w K) 1 "height" 0 m_Board_height := ⟨At0.cls, _, _, fd_Board_height, ok_Board_height', (by have t := c.x.prop_ 12 (x := "Board") rfl rfl rfl; exact t), (S_Board_height.nil.bindsN fun _ _ _ _ _ _ us hl => match us, hl with | [_], _ => rfl)⟩
  have ok_Board_width' := ok_Board_width (P := P) (w := w) (mg := mg) (base := base) S_Board_width.fn (At := At) (B := B)
  have pc_Board_width : Pc P w mg base (cn w K) 1 "width" 0 m_Board_width := ⟨At0.cls, _, _, fd_Board_width, ok_Board_width', (by have t := c.x.prop_ 13 (x := "Board") rfl rfl rfl; exact t), (S_Board_width.nil.bindsN fun _ _ _ _ _ _ us hl => match us, hl with | [_], _ => rfl)⟩
  have ok_Board_wires' := ok_Board_wires (P := P) (w := w) (mg := mg) (base := base) S_Board_wires.fn (At := At) (B := B) (kc_COLUMN := kc_COLUMN) (kc_ROW := kc_ROW)
  have pc_Board_wires : Pc P w mg base (cn w K) 1 "wires" 0 m_Board_wires := ⟨At0.cls, _, _, fd_Board_wires, ok_Board_wires', (by have t := c.x.prop_ 15 (x := "Board") rfl rfl rfl; exact t), (S_Board_wires.nil.bindsN fun _ _ _ _ _ _ us hl => match us, hl with | [_], _ => rfl)⟩
  have ok_Board___contains__' := ok_Board___contains__ (P := P) (w := w) (mg := mg) (base := base) S_Board___contains__.fn (fc_is_pair := fc_is_pair) (fc_is_integer := fc_is_integer) (B := B) (At := At)
  have mc_Board___contains__ : Mc P w mg base (cn w K) 2 "__contains__" 0 2 m_Board___contains__ [[]] := ⟨At0, by show ("__contains__" : Str) ∉ schL.getD 0 []; decide +kernel, _, fd_Board___contains__, _, ok_Board___contains__', He.meth_ok (c.x.fact 51 rfl), (S_Board___contains__.dfl0 rfl fun _ _ _ _ _ _ us hl => match us, hl with | [_, _], _ => rfl)⟩
  have ok_Board___eq__' := ok_Board___eq__ (P := P) (w := w) (mg := mg) (base := base) S_Board___eq__.fn (mc_Board := He.glo_ok X G (c.x.fact 50 rfl)) (C := C) (B := B) (At := At)
  have mc_Board___eq__ : Mc P w mg base (cn w K) 1 "__eq__" 0 2 m_Board___eq__ [[]] := ⟨At0, by show ("__eq__" : Str) ∉ schL.getD 0 []; decide +kernel, _, fd_Board___eq__, _, ok_Board___eq__', He.meth_ok (c.x.fact 54 rfl), (S_Board___eq__.dfl0 rfl fun _ _ _ _ _ _ us hl => match us, hl with | [_, _], _ => rfl)⟩
  have ok_are_dots' := ok_are_dots (P := P) (w := w) (mg := mg) (base := base) S_are_dots.fn (C := C) (B := B) (mt_contains := (mcallN_cons mc_Board___contains__ (by decide) (by simp) mcallN_nil')) (fc_is_rising := fc_is_rising)
  have fc_are_dots : Fc P w mg base (cn w K) 3 "are_dots" 2 m_are_dots [[]] := ⟨_, fd_are_dots, _, ok_are_dots', He.glo_ok X G (c.x.fact 57 rfl), S_are_dots.fn.kp, (S_are_dots.dfl0 rfl fun _ _ _ _ _ _ us hl => match us, hl with | [_, _], _ => rfl)⟩
  have ok_Picture___init__' := ok_Picture___init__ (P := P) (w := w) (mg := mg) (base := base) S_Picture___init__.fn (fc_are_dots := fc_are_dots) (xc_BadDots := (xc_of X G c.xc NK we.1 we.2.1 (k := 2) (by decide) rfl)) (At := At)
  have ic_Picture : Ic P w mg base (cn w K) 4 "Picture" 1 2 m_Picture___init__ [[], [.tup []]] := ⟨_, fd_Picture___init__, _, ok_Picture___init__', He.mkr_ok (c.x.fact 61 rfl), He.glo_ok X G (c.x.fact 62 rfl), (fun dd hd => by
    simp only [List.mem_cons, List.not_mem_nil, or_false] at hd
    rcases hd with rfl | rfl
    · exact S_Picture___init__.dfl1 rfl 3 1 1 rfl (by decide) rfl fun _ _ _ _ _ _ _ us its hu hi => match us, hu, its, hi with | [_, _, _], _, [_], _ => ⟨_, rfl, rfl⟩
    · exact S_Picture___init__.dfl1 rfl 2 0 1 rfl (by decide) rfl fun _ _ _ _ _ _ _ us its hu hi => match us, hu, its, hi with | [_, _], _, [_], _ => ⟨_, rfl, rfl⟩)⟩
  have ok_Picture___eq__' := ok_Picture___eq__ (P := P) (w := w) (mg := mg) (base := base) S_Picture___eq__.fn (mc_Picture := He.glo_ok X G (c.x.fact 62 rfl)) (C := C) (B := B) (At := At) (mt_eq := (mcallN_cons mc_Board___eq__ (by decide) (by simp) mcallN_nil'))
  have mc_Picture___eq__ : Mc P w mg base (cn w K) 2 "__eq__" 1 2 m_Picture___eq__ [[]] := ⟨At1, by show ("__eq__" : Str) ∉ schL.getD 1 []; decide +kernel, _, fd_Picture___eq__, _, ok_Picture___eq__', He.meth_ok (c.x.fact 70 rfl), (S_Picture___eq__.dfl0 rfl fun _ _ _ _ _ _ us hl => match us, hl with | [_, _], _ => rfl)⟩
  have ok_named_wires' := ok_named_wires (P := P) (w := w) (mg := mg) (base := base) S_named_wires.fn (kc_COLUMN := kc_COLUMN) (kc_ROW := kc_ROW)
  have fc_named_wires : Fc P w mg base (cn w K) 1 "named_wires" 2 m_named_wires [[]] := ⟨_, fd_named_wires, _, ok_named_wires', He.glo_ok X G (c.x.fact 71 rfl), S_named_wires.fn.kp, (S_named_wires.dfl0 rfl fun _ _ _ _ _ _ us hl => match us, hl with | [_, _], _ => rfl)⟩
  have ok_Dead___init__' := ok_Dead___init__ (P := P) (w := w) (mg := mg) (base := base) S_Dead___init__.fn (pr_height := (pcallN_cons pc_Board_height (by decide) pcallN_nil)) (fc_are_numbers := fc_are_numbers) (xc_BadRows := (xc_of X G c.xc NK we.1 we.2.1 (k := 3) (by decide) rfl)) (pr_width := (pcallN_cons pc_Board_width (by decide) pcallN_nil)) (xc_BadColumns := (xc_of X G c.xc NK we.1 we.2.1 (k := 4) (by decide) rfl)) (At := At) (fc_named_wires := fc_named_wires)
  have ic_Dead : Ic P w mg base (cn w K) 3 "Dead" 2 3 m_Dead___init__ [[], [.tup []], [.tup [], .tup []]] := ⟨_, fd_Dead___init__, _, ok_Dead___init__', He.mkr_ok (c.x.fact 72 rfl), He.glo_ok X G (c.x.fact 73 rfl), (fun dd hd => by
    simp only [List.mem_cons, List.not_mem_nil, or_false] at hd
    rcases hd with rfl | rfl | rfl
    · exact S_Dead___init__.dfl1 rfl 4 2 2 rfl (by decide) rfl fun _ _ _ _ _ _ _ us its hu hi => match us, hu, its, hi with | [_, _, _, _], _, [_, _], _ => ⟨_, rfl, rfl⟩
    · exact S_Dead___init__.dfl1 rfl 3 1 2 rfl (by decide) rfl fun _ _ _ _ _ _ _ us its hu hi => match us, hu, its, hi with | [_, _, _], _, [_, _], _ => ⟨_, rfl, rfl⟩
    · exact S_Dead___init__.dfl1 rfl 2 0 2 rfl (by decide) rfl fun _ _ _ _ _ _ _ us its hu hi => match us, hu, its, hi with | [_, _], _, [_, _], _ => ⟨_, rfl, rfl⟩)⟩
  have ok_Dead_wires' := ok_Dead_wires (P := P) (w := w) (mg := mg) (base := base) S_Dead_wires.fn (At := At) (B := B)
  have pc_Dead_wires : Pc P w mg base (cn w K) 1 "wires" 2 m_Dead_wires := ⟨At2.cls, _, _, fd_Dead_wires, ok_Dead_wires', (by have t := c.x.prop_ 43 (x := "Dead") rfl rfl rfl; exact t), (S_Dead_wires.nil.bindsN fun _ _ _ _ _ _ us hl => match us, hl with | [_], _ => rfl)⟩
  have ok_Dead___eq__' := ok_Dead___eq__ (P := P) (w := w) (mg := mg) (base := base) S_Dead___eq__.fn (mc_Dead := He.glo_ok X G (c.x.fact 73 rfl)) (C := C) (B := B) (At := At) (mt_eq := (mcallN_cons mc_Board___eq__ (by decide) (by simp) (mcallN_cons mc_Picture___eq__ (by decide) (by simp) mcallN_nil'))) (pr_wires := (pcallN_cons pc_Board_wires (by decide) (pcallN_cons pc_Dead_wires (by decide) pcallN_nil)))
  have mc_Dead___eq__ : Mc P w mg base (cn w K) 3 "__eq__" 2 2 m_Dead___eq__ [[]] := ⟨At2, by show ("__eq__" : Str) ∉ schL.getD 2 []; decide +kernel, _, fd_Dead___eq__, _, ok_Dead___eq__', He.meth_ok (c.x.fact 78 rfl), (S_Dead___eq__.dfl0 rfl fun _ _ _ _ _ _ us hl => match us, hl with | [_, _], _ => rfl)⟩
  have ok__law_of' := ok__law_of (P := P) (w := w) (mg := mg) (base := base) S__law_of.fn (B := B) (fc__law_take := fc__law_take)
  have fc__law_of : FcP P w mg base (cn w K) 2 "_law_of" 1 m__law_of := ⟨_, fd__law_of, _, ok__law_of', He.glo_ok X G (c.x.fact 85 rfl), S__law_of.fn.kp, (S__law_of.nil.bindsN fun _ _ _ _ _ _ us hl => match us, hl with | [_, _], _ => rfl)⟩
  have ok__law_rows' := ok__law_rows (P := P) (w := w) (mg := mg) (base := base) S__law_rows.fn (fc__law_take := fc__law_take) (B := B)
  have fc__law_rows : FcP P w mg base (cn w K) 2 "_law_rows" 2 m__law_rows := ⟨_, fd__law_rows, _, ok__law_rows', He.glo_ok X G (c.x.fact 86 rfl), S__law_rows.fn.kp, (S__law_rows.nil.bindsN fun _ _ _ _ _ _ us hl => match us, hl with | [_, _, _], _ => rfl)⟩
  have ok__law_size' := ok__law_size (P := P) (w := w) (mg := mg) (base := base) S__law_size.fn (fc__law_take := fc__law_take)
  have fc__law_size : FcP P w mg base (cn w K) 2 "_law_size" 1 m__law_size := ⟨_, fd__law_size, _, ok__law_size', He.glo_ok X G (c.x.fact 87 rfl), S__law_size.fn.kp, (S__law_size.nil.bindsN fun _ _ _ _ _ _ us hl => match us, hl with | [_, _], _ => rfl)⟩
  have ok__law_small_rows' := ok__law_small_rows (P := P) (w := w) (mg := mg) (base := base) S__law_small_rows.fn (fc__law_size := fc__law_size) (fc__law_rows := fc__law_rows)
  have fc__law_small_rows : FcP P w mg base (cn w K) 3 "_law_small_rows" 1 m__law_small_rows := ⟨_, fd__law_small_rows, _, ok__law_small_rows', He.glo_ok X G (c.x.fact 88 rfl), S__law_small_rows.fn.kp, (S__law_small_rows.nil.bindsN fun _ _ _ _ _ _ us hl => match us, hl with | [_, _], _ => rfl)⟩
  have ok__law_odd' := ok__law_odd (P := P) (w := w) (mg := mg) (base := base) S__law_odd.fn (fc__law_of := fc__law_of)
  have fc__law_odd : FcP P w mg base (cn w K) 3 "_law_odd" 0 m__law_odd := ⟨_, fd__law_odd, _, ok__law_odd', He.glo_ok X G (c.x.fact 89 rfl), S__law_odd.fn.kp, (S__law_odd.nil.bindsN fun _ _ _ _ _ _ us hl => match us, hl with | [_], _ => rfl)⟩
  have ok__law_all_of' := ok__law_all_of (P := P) (w := w) (mg := mg) (base := base) S__law_all_of.fn (xc_BadBoard := (xc_of X G c.xc NK we.1 we.2.1 (k := 1) (by decide) rfl)) (xc_BadDots := (xc_of X G c.xc NK we.1 we.2.1 (k := 2) (by decide) rfl)) (xc_BadRows := (xc_of X G c.xc NK we.1 we.2.1 (k := 3) (by decide) rfl)) (xc_BadColumns := (xc_of X G c.xc NK we.1 we.2.1 (k := 4) (by decide) rfl)) (xc_OtherBoard := (xc_of X G c.xc NK we.1 we.2.1 (k := 5) (by decide) rfl)) (xc_BadPictures := (xc_of X G c.xc NK we.1 we.2.1 (k := 6) (by decide) rfl)) (xc_BadTick := (xc_of X G c.xc NK we.1 we.2.1 (k := 7) (by decide) rfl)) (xc_TooLong := (xc_of X G c.xc NK we.1 we.2.1 (k := 8) (by decide) rfl)) (xc_BadStrip := (xc_of X G c.xc NK we.1 we.2.1 (k := 9) (by decide) rfl)) (xc_BadLooks := (xc_of X G c.xc NK we.1 we.2.1 (k := 10) (by decide) rfl)) (xc_BadSeen := (xc_of X G c.xc NK we.1 we.2.1 (k := 11) (by decide) rfl)) (xc_BadWires := (xc_of X G c.xc NK we.1 we.2.1 (k := 12) (by decide) rfl)) (xc_NoCause := (xc_of X G c.xc NK we.1 we.2.1 (k := 13) (by decide) rfl)) (xc_BadNumber := (xc_of X G c.xc NK we.1 we.2.1 (k := 14) (by decide) rfl)) (xc_BadFilms := (xc_of X G c.xc NK we.1 we.2.1 (k := 15) (by decide) rfl)) (xc_BadParts := (xc_of X G c.xc NK we.1 we.2.1 (k := 16) (by decide) rfl)) (xc_BadOffers := (xc_of X G c.xc NK we.1 we.2.1 (k := 17) (by decide) rfl)) (xc_NotFull := (xc_of X G c.xc NK we.1 we.2.1 (k := 18) (by decide) rfl)) (xc_BadBook := (xc_of X G c.xc NK we.1 we.2.1 (k := 19) (by decide) rfl)) (xc_NoFilm := (xc_of X G c.xc NK we.1 we.2.1 (k := 20) (by decide) rfl)) (xc_BadWire := (xc_of X G c.xc NK we.1 we.2.1 (k := 21) (by decide) rfl)) (xc_NoChange := (xc_of X G c.xc NK we.1 we.2.1 (k := 22) (by decide) rfl)) (xc_SeenAlready := (xc_of X G c.xc NK we.1 we.2.1 (k := 23) (by decide) rfl)) (xc_NothingSeen := (xc_of X G c.xc NK we.1 we.2.1 (k := 24) (by decide) rfl)) (xc_NothingToUndo := (xc_of X G c.xc NK we.1 we.2.1 (k := 25) (by decide) rfl)) (xc_NothingToRedo := (xc_of X G c.xc NK we.1 we.2.1 (k := 26) (by decide) rfl)) (xc_BadText := (xc_of X G c.xc NK we.1 we.2.1 (k := 27) (by decide) rfl)) (xc_BadJournal := (xc_of X G c.xc NK we.1 we.2.1 (k := 28) (by decide) rfl)) (xc_BadLine := (xc_of X G c.xc NK we.1 we.2.1 (k := 29) (by decide) rfl))
  have fc__law_all_of : Fc P w mg base (cn w K) 3 "_law_all_of" 1 m__law_all_of [[]] := ⟨_, fd__law_all_of, _, ok__law_all_of', He.glo_ok X G (c.x.fact 90 rfl), S__law_all_of.fn.kp, (S__law_all_of.dfl0 rfl fun _ _ _ _ _ _ us hl => match us, hl with | [_], _ => rfl)⟩
  have ok__law_kinds_of' := ok__law_kinds_of (P := P) (w := w) (mg := mg) (base := base) S__law_kinds_of.fn (XF := (xfs_of c.xc NK C)) (xg_BadBoard := (xg_of X G c.xc NK (k := 1) (by decide) rfl)) (C := C) (B := B) (xg_BadDots := (xg_of X G c.xc NK (k := 2) (by decide) rfl)) (xg_BadRows := (xg_of X G c.xc NK (k := 3) (by decide) rfl)) (xg_BadColumns := (xg_of X G c.xc NK (k := 4) (by decide) rfl)) (xg_OtherBoard := (xg_of X G c.xc NK (k := 5) (by decide) rfl)) (xg_BadPictures := (xg_of X G c.xc NK (k := 6) (by decide) rfl)) (xg_BadTick := (xg_of X G c.xc NK (k := 7) (by decide) rfl)) (xg_TooLong := (xg_of X G c.xc NK (k := 8) (by decide) rfl)) (xg_BadStrip := (xg_of X G c.xc NK (k := 9) (by decide) rfl)) (xg_BadLooks := (xg_of X G c.xc NK (k := 10) (by decide) rfl)) (xg_BadSeen := (xg_of X G c.xc NK (k := 11) (by decide) rfl)) (xg_BadWires := (xg_of X G c.xc NK (k := 12) (by decide) rfl)) (xg_NoCause := (xg_of X G c.xc NK (k := 13) (by decide) rfl)) (xg_BadNumber := (xg_of X G c.xc NK (k := 14) (by decide) rfl)) (xg_BadFilms := (xg_of X G c.xc NK (k := 15) (by decide) rfl)) (xg_BadParts := (xg_of X G c.xc NK (k := 16) (by decide) rfl)) (xg_BadOffers := (xg_of X G c.xc NK (k := 17) (by decide) rfl)) (xg_NotFull := (xg_of X G c.xc NK (k := 18) (by decide) rfl)) (xg_BadBook := (xg_of X G c.xc NK (k := 19) (by decide) rfl)) (xg_NoFilm := (xg_of X G c.xc NK (k := 20) (by decide) rfl)) (xg_BadWire := (xg_of X G c.xc NK (k := 21) (by decide) rfl)) (xg_NoChange := (xg_of X G c.xc NK (k := 22) (by decide) rfl)) (xg_SeenAlready := (xg_of X G c.xc NK (k := 23) (by decide) rfl)) (xg_NothingSeen := (xg_of X G c.xc NK (k := 24) (by decide) rfl)) (xg_NothingToUndo := (xg_of X G c.xc NK (k := 25) (by decide) rfl)) (xg_NothingToRedo := (xg_of X G c.xc NK (k := 26) (by decide) rfl)) (xg_BadText := (xg_of X G c.xc NK (k := 27) (by decide) rfl)) (xg_BadJournal := (xg_of X G c.xc NK (k := 28) (by decide) rfl)) (xg_BadLine := (xg_of X G c.xc NK (k := 29) (by decide) rfl))
  have fc__law_kinds_of : Fc P w mg base (cn w K) 1 "_law_kinds_of" 1 m__law_kinds_of [[]] := ⟨_, fd__law_kinds_of, _, ok__law_kinds_of', He.glo_ok X G (c.x.fact 91 rfl), S__law_kinds_of.fn.kp, (S__law_kinds_of.dfl0 rfl fun _ _ _ _ _ _ us hl => match us, hl with | [_], _ => rfl)⟩
  have ok__law_is_caught' := ok__law_is_caught (P := P) (w := w) (mg := mg) (base := base) S__law_is_caught.fn (xc_BadBoard := (xc_of X G c.xc NK we.1 we.2.1 (k := 1) (by decide) rfl)) (trc := (trc_of X G c.xc NK rfl (by decide))) (XF := (xfs_of c.xc NK C)) (xg_BadBoard := (xg_of X G c.xc NK (k := 1) (by decide) rfl)) (C := C) (B := B) (nvVE := (He.free_ok X G (c.x.fact 92 rfl)))
  have fc__law_is_caught : FcG P w mg base (cn w K) 3 "_law_is_caught" 1 m__law_is_caught := ⟨_, fd__law_is_caught, _, ok__law_is_caught', He.glo_ok X G (c.x.fact 93 rfl), S__law_is_caught.fn.kp, (S__law_is_caught.nil.bindsN fun _ _ _ _ _ _ us hl => match us, hl with | [_], _ => rfl)⟩
  have ok__law_right' := ok__law_right (P := P) (w := w) (mg := mg) (base := base) S__law_right.fn (fc__law_small_rows := fc__law_small_rows) (ic_Board := ic_Board) (fc__law_odd := fc__law_odd) (ic_Dead := ic_Dead) (ic_Picture := ic_Picture) (fc__law_of := fc__law_of) (fc__law_all_of := fc__law_all_of) (XF := (xfs_of c.xc NK C)) (mt_eq := (mcallN_cons mc_Board___eq__ (by decide) (by simp) (mcallN_cons mc_Picture___eq__ (by decide) (by simp) (mcallN_cons mc_Dead___eq__ (by decide) (by simp) mcallN_nil')))) (C := C) (B := B) (fc__law_is_caught := fc__law_is_caught) (fc__law_kinds_of := fc__law_kinds_of) (xg_WireError := (xg_of X G c.xc NK (k := 0) (by decide) rfl)) (SK := we.2.2)
  exact ok_law (N := cn w K) rfl S_law.nil B (FnG.imp (fng_0 ok__law_right') fun _ _ _ _ => right_of HR) (He.glo_ok X G (c.x.fact 94 rfl)) S__law_right.fn.kp (S__law_right.nil.bindsN fun _ _ _ _ _ _ us hl => match us, hl with | [_], _ => rfl) (ok_pot S__law_pot.nil B.int B.len B.abs) (He.glo_ok X G (c.x.fact 95 rfl)) S__law_pot.fn.kp (S__law_pot.nil.bindsN fun _ _ _ _ _ _ us hl => match us, hl with | [_, _], _ => rfl)
theorem run_eq {n : Nat} {g : FS} {ds : List D} {Q : D → Prop} {E : XP} : run n g ds Q E = g ⟨fun _ => Q .non, fun d _ => Q d, fun _ => False, fun _ => False⟩ (ds.map Sl.val ++ List.replicate (n - ds.length) .no) E := rfl
def Turn (g : GD) (t : FT) (e : F) (vs : List Nat) (E : XP) (ρ : Env) (d : D) (r : Option D) : Prop :=
  ∀ (A : D → Env → Prop) (B : Env → Prop), (g d ρ fun ρ1 => t ρ1 (fun b ρ2 => if b = true then e ρ2 (fun y ρ3 => A y (wipeE ρ3 vs)) E else B (wipeE ρ2 vs)) E) ↔ match r with
    | some y => A y ρ
    | none => B ρ
theorem lcD_eq {α : Type} {g : GD} {t : FT} {e : F} {vs : List Nat} {E : XP} {Q : List D → Env → Prop} {ρ : Env} {enc : α → D} (f : α → Option D) : ∀ (l : List α) (acc : List D), acc.length + l.length ≤ sizeLine → (∀ a ∈ l, Turn g t e vs E ρ (enc a) (f a)) →
    (lcD g t e vs E Q (l.map enc) acc ρ ↔ Q (acc ++ l.filterMap f) ρ)
  | [], acc, _, _ => by
    rw [List.filterMap_nil, List.append_nil]
    exact Iff.rfl
  | a :: l, acc, hl, h => by
    rw [List.length_cons] at hl
    have hi := h a List.mem_cons_self (fun y ρ3 => acc.length < sizeLine ∧ lcD g t e vs E Q (l.map enc) (acc ++ [y]) ρ3) (fun ρ2 => lcD g t e vs E Q (l.map enc) acc ρ2)
    have e1 : lcD g t e vs E Q ((a :: l).map enc) acc ρ = (g (enc a) ρ fun ρ1 => t ρ1 (fun b ρ2 => if b = true then e ρ2 (fun y ρ3 => acc.length < sizeLine ∧ lcD g t e vs E Q (l.map enc) (acc ++ [y]) (wipeE ρ3 vs)) E else lcD g t e vs E Q (l.map enc) acc (wipeE ρ2 vs)) E) := rfl
    rw [e1, hi]
    have ht := fun b hb => h b (List.mem_cons_of_mem _ hb)
    cases hf : f a with
    | none =>
      rw [List.filterMap_cons_none hf]
      exact lcD_eq f l acc (by omega) ht
    | some y =>
      rw [List.filterMap_cons_some hf]
      show acc.length < sizeLine ∧ lcD g t e vs E Q (l.map enc) (acc ++ [y]) ρ ↔ _
      rw [lcD_eq f l (acc ++ [y]) (by rw [List.length_append, List.length_singleton]; omega) ht, List.append_assoc]
      exact ⟨fun z => z.2, fun z => ⟨by omega, z⟩⟩
theorem lcD_map {α : Type} {g : GD} {t : FT} {e : F} {vs : List Nat} {E : XP} {Q : List D → Env → Prop} {ρ : Env} {enc : α → D} (f : α → D) (l : List α) (hl : l.length ≤ sizeLine) (h : ∀ a ∈ l, Turn g t e vs E ρ (enc a) (some (f a))) :
    lcD g t e vs E Q (l.map enc) [] ρ ↔ Q (l.map f) ρ := by
  rw [lcD_eq (fun a => some (f a)) l [] (by rw [List.length_nil]; omega) h, List.nil_append, List.filterMap_eq_map']
theorem filterMap_if {α β : Type} (p : α → Bool) (f : α → β) : ∀ l : List α, (l.filterMap fun a => if p a = true then some (f a) else none) = (l.filter p).map f
  | [] => rfl
  | a :: l => by
    rw [List.filterMap_cons, List.filter_cons, filterMap_if p f l]
    cases p a <;> rfl
theorem toBools_map {α : Type} (p : α → Bool) : ∀ l : List α, toBools (l.map fun a => .bl (p a)) = some (l.map p)
  | [] => rfl
  | a :: l => by
    rw [List.map_cons, toBools, toBools_map p l]
    rfl
theorem opAll_map {α : Type} (p : α → Bool) (l : List α) : opAll (.lst (l.map fun a => .bl (p a))) = some (.bl (l.all p)) := by
  show (toBools _).map _ = _
  rw [toBools_map]
  simp [List.all_map, Function.comp_def]
theorem ex_some {α : Type} {d : α} {Q : α → Prop} : (∃ x, some d = some x ∧ Q x) ↔ Q d := by simp
theorem ex_bl {b : Bool} {Q : Bool → Prop} : (∃ x, D.bl b = .bl x ∧ Q x) ↔ Q b := by simp
theorem ex_int {b : Int} {Q : Int → Prop} : (∃ x, D.int b = .int x ∧ Q x) ↔ Q b := by simp
theorem ex_tup {b : List D} {Q : List D → Prop} : (∃ x, D.tup b = .tup x ∧ Q x) ↔ Q b := by simp
theorem ex_lst {b : List D} {Q : List D → Prop} : (∃ x, D.lst b = .lst x ∧ Q x) ↔ Q b := by simp
theorem ex_val {b : D} {Q : D → Prop} : (∃ x, some (Sl.val b) = some (Sl.val x) ∧ Q x) ↔ Q b := by simp
theorem ex_own {b : List D} {Q : List D → Prop} : (∃ x, some (Sl.own b) = some (Sl.own x) ∧ Q x) ↔ Q b := by simp
theorem is_int_int {n : Nat} {i : Int} : opIs n "int" (.int i) = some (.bl true) := by simp [opIs, tyC, goodTy, isB, tyNames]
theorem is_int_bool {n : Nat} {b : Bool} : opIs n "int" (.bl b) = some (.bl true) := by simp [opIs, tyC, goodTy, isB, tyNames]
theorem is_int_str {n : Nat} {z : Str} : opIs n "int" (.str z) = some (.bl false) := by simp [opIs, tyC, goodTy, isB, tyNames]
theorem is_int_tuple {n : Nat} {ds : List D} : opIs n "int" (.tup ds) = some (.bl false) := by simp [opIs, tyC, goodTy, isB, tyNames]
theorem is_int_list {n : Nat} {ds : List D} : opIs n "int" (.lst ds) = some (.bl false) := by simp [opIs, tyC, goodTy, isB, tyNames]
theorem is_int_NoneType {n : Nat}  : opIs n "int" .non = some (.bl false) := by simp [opIs, tyC, goodTy, isB, tyNames]
theorem is_int_ins {n c : Nat} {ds : List D} (h : c < n) : opIs n "int" (.ins c ds) = some (.bl false) := by simp [opIs, tyC, goodTy, isB, h]
theorem is_bool_int {n : Nat} {i : Int} : opIs n "bool" (.int i) = some (.bl false) := by simp [opIs, tyC, goodTy, isB, tyNames]
theorem is_bool_bool {n : Nat} {b : Bool} : opIs n "bool" (.bl b) = some (.bl true) := by simp [opIs, tyC, goodTy, isB, tyNames]
theorem is_bool_str {n : Nat} {z : Str} : opIs n "bool" (.str z) = some (.bl false) := by simp [opIs, tyC, goodTy, isB, tyNames]
theorem is_bool_tuple {n : Nat} {ds : List D} : opIs n "bool" (.tup ds) = some (.bl false) := by simp [opIs, tyC, goodTy, isB, tyNames]
theorem is_bool_list {n : Nat} {ds : List D} : opIs n "bool" (.lst ds) = some (.bl false) := by simp [opIs, tyC, goodTy, isB, tyNames]
theorem is_bool_NoneType {n : Nat}  : opIs n "bool" .non = some (.bl false) := by simp [opIs, tyC, goodTy, isB, tyNames]
theorem is_bool_ins {n c : Nat} {ds : List D} (h : c < n) : opIs n "bool" (.ins c ds) = some (.bl false) := by simp [opIs, tyC, goodTy, isB, h]
theorem is_str_int {n : Nat} {i : Int} : opIs n "str" (.int i) = some (.bl false) := by simp [opIs, tyC, goodTy, isB, tyNames]
theorem is_str_bool {n : Nat} {b : Bool} : opIs n "str" (.bl b) = some (.bl false) := by simp [opIs, tyC, goodTy, isB, tyNames]
theorem is_str_str {n : Nat} {z : Str} : opIs n "str" (.str z) = some (.bl true) := by simp [opIs, tyC, goodTy, isB, tyNames]
theorem is_str_tuple {n : Nat} {ds : List D} : opIs n "str" (.tup ds) = some (.bl false) := by simp [opIs, tyC, goodTy, isB, tyNames]
theorem is_str_list {n : Nat} {ds : List D} : opIs n "str" (.lst ds) = some (.bl false) := by simp [opIs, tyC, goodTy, isB, tyNames]
theorem is_str_NoneType {n : Nat}  : opIs n "str" .non = some (.bl false) := by simp [opIs, tyC, goodTy, isB, tyNames]
theorem is_str_ins {n c : Nat} {ds : List D} (h : c < n) : opIs n "str" (.ins c ds) = some (.bl false) := by simp [opIs, tyC, goodTy, isB, h]
theorem is_tuple_int {n : Nat} {i : Int} : opIs n "tuple" (.int i) = some (.bl false) := by simp [opIs, tyC, goodTy, isB, tyNames]
theorem is_tuple_bool {n : Nat} {b : Bool} : opIs n "tuple" (.bl b) = some (.bl false) := by simp [opIs, tyC, goodTy, isB, tyNames]
theorem is_tuple_str {n : Nat} {z : Str} : opIs n "tuple" (.str z) = some (.bl false) := by simp [opIs, tyC, goodTy, isB, tyNames]
theorem is_tuple_tuple {n : Nat} {ds : List D} : opIs n "tuple" (.tup ds) = some (.bl true) := by simp [opIs, tyC, goodTy, isB, tyNames]
theorem is_tuple_list {n : Nat} {ds : List D} : opIs n "tuple" (.lst ds) = some (.bl false) := by simp [opIs, tyC, goodTy, isB, tyNames]
theorem is_tuple_NoneType {n : Nat}  : opIs n "tuple" .non = some (.bl false) := by simp [opIs, tyC, goodTy, isB, tyNames]
theorem is_tuple_ins {n c : Nat} {ds : List D} (h : c < n) : opIs n "tuple" (.ins c ds) = some (.bl false) := by simp [opIs, tyC, goodTy, isB, h]
theorem is_list_int {n : Nat} {i : Int} : opIs n "list" (.int i) = some (.bl false) := by simp [opIs, tyC, goodTy, isB, tyNames]
theorem is_list_bool {n : Nat} {b : Bool} : opIs n "list" (.bl b) = some (.bl false) := by simp [opIs, tyC, goodTy, isB, tyNames]
theorem is_list_str {n : Nat} {z : Str} : opIs n "list" (.str z) = some (.bl false) := by simp [opIs, tyC, goodTy, isB, tyNames]
theorem is_list_tuple {n : Nat} {ds : List D} : opIs n "list" (.tup ds) = some (.bl false) := by simp [opIs, tyC, goodTy, isB, tyNames]
theorem is_list_list {n : Nat} {ds : List D} : opIs n "list" (.lst ds) = some (.bl true) := by simp [opIs, tyC, goodTy, isB, tyNames]
theorem is_list_NoneType {n : Nat}  : opIs n "list" .non = some (.bl false) := by simp [opIs, tyC, goodTy, isB, tyNames]
theorem is_list_ins {n c : Nat} {ds : List D} (h : c < n) : opIs n "list" (.ins c ds) = some (.bl false) := by simp [opIs, tyC, goodTy, isB, h]
theorem is_dict_int {n : Nat} {i : Int} : opIs n "dict" (.int i) = some (.bl false) := by simp [opIs, tyC, goodTy, isB, tyNames]
theorem is_dict_bool {n : Nat} {b : Bool} : opIs n "dict" (.bl b) = some (.bl false) := by simp [opIs, tyC, goodTy, isB, tyNames]
theorem is_dict_str {n : Nat} {z : Str} : opIs n "dict" (.str z) = some (.bl false) := by simp [opIs, tyC, goodTy, isB, tyNames]
theorem is_dict_tuple {n : Nat} {ds : List D} : opIs n "dict" (.tup ds) = some (.bl false) := by simp [opIs, tyC, goodTy, isB, tyNames]
theorem is_dict_list {n : Nat} {ds : List D} : opIs n "dict" (.lst ds) = some (.bl false) := by simp [opIs, tyC, goodTy, isB, tyNames]
theorem is_dict_NoneType {n : Nat}  : opIs n "dict" .non = some (.bl false) := by simp [opIs, tyC, goodTy, isB, tyNames]
theorem is_dict_ins {n c : Nat} {ds : List D} (h : c < n) : opIs n "dict" (.ins c ds) = some (.bl false) := by simp [opIs, tyC, goodTy, isB, h]
theorem isC_int {n k : Nat} {i : Int} : opIsC n k (.int i) = some (.bl false) := by simp [opIsC, tyC, goodTy, tyNames]
theorem isC_bool {n k : Nat} {b : Bool} : opIsC n k (.bl b) = some (.bl false) := by simp [opIsC, tyC, goodTy, tyNames]
theorem isC_str {n k : Nat} {z : Str} : opIsC n k (.str z) = some (.bl false) := by simp [opIsC, tyC, goodTy, tyNames]
theorem isC_tuple {n k : Nat} {ds : List D} : opIsC n k (.tup ds) = some (.bl false) := by simp [opIsC, tyC, goodTy, tyNames]
theorem isC_list {n k : Nat} {ds : List D} : opIsC n k (.lst ds) = some (.bl false) := by simp [opIsC, tyC, goodTy, tyNames]
theorem isC_NoneType {n k : Nat}  : opIsC n k .non = some (.bl false) := by simp [opIsC, tyC, goodTy, tyNames]
theorem isC_ins {n c k : Nat} {ds : List D} (h : c < n) : opIsC n k (.ins c ds) = some (.bl (decide (c = k))) := by simp [opIsC, tyC, goodTy, h]
theorem eq_int {a b : Int} : opEq (.int a) (.int b) = some (.bl (decide (a = b))) := rfl
theorem eq_str {a b : Str} : opEq (.str a) (.str b) = some (.bl (decide (a = b))) := rfl
theorem eq_bl {a b : Bool} : opEq (.bl a) (.bl b) = some (.bl (decide (a = b))) := rfl
theorem ne_int {a b : Int} : opNe (.int a) (.int b) = some (.bl (!decide (a = b))) := rfl
theorem ne_str {a b : Str} : opNe (.str a) (.str b) = some (.bl (!decide (a = b))) := rfl
theorem ne_bl {a b : Bool} : opNe (.bl a) (.bl b) = some (.bl (!decide (a = b))) := rfl
theorem zipD_map {α β : Type} (f : α → D) (g : β → D) (l : List α) (k : List β) : zipD (l.map f) (k.map g) = (l.zip k).map fun p => .tup [f p.1, g p.2] := by
  unfold zipD
  rw [List.zip_map, List.map_map]
  rfl
theorem cut_1 {α : Type} (xs : List α) : cutD xs (some 1) none = xs.drop 1 := by
  unfold cutD HT.sIx
  cases xs with
  | nil => rfl
  | cons x xs =>
    simp
theorem adj_all {α : Type} {R : α → α → Prop} : ∀ {l : List α}, l.Pairwise R → ∀ p ∈ l.zip (l.drop 1), R p.1 p.2
  | [], _, p, h => by simp at h
  | [a], _, p, h => by simp at h
  | a :: b :: l, hp, p, h => by
    rw [List.pairwise_cons] at hp
    rw [List.drop_one, List.tail_cons, List.zip_cons_cons, List.mem_cons] at h
    rcases h with h | h
    · rw [h]
      exact hp.1 b List.mem_cons_self
    · exact adj_all hp.2 p (by rw [List.drop_one, List.tail_cons]; exact h)
def natsD (l : List Nat) : List D := l.map fun (n : Nat) => .int (n : Int)
def dotT (p : Nat × Nat) : D := .tup [.int (p.1 : Int), .int (p.2 : Int)]
abbrev cd (b : Bool) : Nat := if b then 111 else 46
def rowS (r : List Bool) : Str := SX.S (r.map cd)
structure Brd (g : List (List Bool)) (t w : Nat) : Prop where
  tall : g.length = t
  wide : ∀ r ∈ g, r.length = w
  inRow : ∀ r ∈ g, true ∈ r
  inCol : ∀ c, c < w → ∃ r ∈ g, r[c]? = some true
  t1 : 1 ≤ t
  t10 : t ≤ 10
  w1 : 1 ≤ w
  w10 : w ≤ 10
theorem joinL_flat : ∀ ls : List (List Nat), TL.joinL [] ls = ls.flatten
  | [] => rfl
  | [x] => by simp [TL.joinL]
  | x :: y :: r => by
    show x ++ ([] ++ TL.joinL [] (y :: r)) = _
    rw [joinL_flat (y :: r), List.nil_append]
    rfl
theorem flat_ones (bs : List Bool) : (bs.map fun b => [cd b]).flatten = bs.map cd := by
  induction bs with
  | nil => rfl
  | cons b r ih => rw [List.map_cons, List.flatten_cons, ih, List.map_cons, List.singleton_append]
theorem join_signs (bs : List Bool) : Txt.join (SX.S []) ((bs.map fun b => [cd b]).map SX.S) = rowS bs := by
  rw [SX.join_S, joinL_flat, flat_ones]
  rfl
theorem sum_ones (bs : List Bool) : (((bs.map fun b => [cd b]).map SX.S).map (·.length)).sum = bs.length := by
  rw [SX.lens]
  induction bs with
  | nil => rfl
  | cons b r ih =>
    rw [List.map_cons, List.map_cons, List.sum_cons, ih, List.length_cons]
    exact Nat.add_comm _ _
def dotsOf (g : List (List Bool)) : List (Nat × Nat) := places g.length (fun i => (g.getD i []).length) fun i j => (g.getD i []).getD j false
abbrev dotK (p : Nat × Nat) : List Key := [.inl (p.1 : Int), .inl (p.2 : Int)]
theorem rowS_len (r : List Bool) : (rowS r).length = r.length := by
  unfold rowS
  rw [SX.S_len, List.length_map]
theorem rowS_list (r : List Bool) : (rowS r).cps.toList = r.map cd := by
  unfold rowS
  simp
theorem places_lt {n : Nat} {m : Nat → Nat} {keep : Nat → Nat → Bool} {p : Nat × Nat} (h : p ∈ places n m keep) : p.1 < n ∧ p.2 < m p.1 ∧ keep p.1 p.2 = true := by
  unfold places at h
  obtain ⟨i, hi, hp⟩ := List.mem_flatMap.mp h
  obtain ⟨j, hj, rfl⟩ := List.mem_map.mp hp
  obtain ⟨h1, h2⟩ := List.mem_filter.mp hj
  exact ⟨List.mem_range.mp hi, List.mem_range.mp h1, h2⟩
theorem places_nodup (m : Nat → Nat) (keep : Nat → Nat → Bool) : ∀ n, (places n m keep).Nodup
  | 0 => List.nodup_nil
  | n + 1 => by
    rw [places_snoc]
    refine List.nodup_append.mpr ⟨places_nodup m keep n, ?_, ?_⟩
    · refine List.Pairwise.map _ (fun a b (h : a ≠ b) => ?_) (List.Pairwise.filter _ List.nodup_range)
      intro z
      injection z with _ z
      exact h z
    · intro a ha b hb z
      obtain ⟨j, _, e⟩ := List.mem_map.mp hb
      have := (places_lt ha).1
      rw [z, ← e] at this
      exact absurd this (Nat.lt_irrefl _)
theorem dots_nodup (g : List (List Bool)) : (dotsOf g).Nodup := places_nodup _ _ _
theorem dotK_inj {p q : Nat × Nat} (h : dotK p = dotK q) : p = q := by
  injection h with h1 h2
  injection h2 with h2 _
  injection h1 with h1
  injection h2 with h2
  exact Prod.ext (by omega) (by omega)
theorem brd_m {g : List (List Bool)} {t w : Nat} (hb : Brd g t w) (i : Nat) : (g.getD i []).length ≤ 10 := by
  rw [List.getD_eq_getElem?_getD]
  cases h : g[i]? with
  | none => exact Nat.zero_le _
  | some r =>
    have := hb.wide r (List.mem_of_getElem? h)
    have := hb.w10
    show r.length ≤ 10
    omega
theorem rowsV_first {g : List (List Bool)} {t w : Nat} (h : Brd g t w) : ∃ r0 rest, g = r0 :: rest ∧ r0.length = w := by
  cases g with
  | nil =>
    have := h.tall
    have := h.t1
    rw [List.length_nil] at *
    omega
  | cons r0 rest => exact ⟨r0, rest, rfl, h.wide r0 (List.mem_cons_self ..)⟩
theorem dots_le {g : List (List Bool)} {t w : Nat} (hb : Brd g t w) : (dotsOf g).length ≤ 100 := by
  have h1 := places_len (fun i => (g.getD i []).length) (fun i j => (g.getD i []).getD j false) 10 (brd_m hb) g.length
  have h2 := hb.t10
  rw [hb.tall] at h1
  show (places g.length _ _).length ≤ 100
  rw [hb.tall]
  omega
theorem rowS_ix {r : List Bool} {j : Nat} (hj : j < r.length) : (rowS r).cps.toList[j]? = some (cd (r.getD j false)) := by
  rw [rowS_list, List.getElem?_map, List.getD_eq_getElem?_getD, List.getElem?_eq_getElem hj]
  rfl
def ltN (p q : Nat × Nat) : Prop := p.1 < q.1 ∨ p.1 = q.1 ∧ p.2 < q.2
theorem places_sorted (m : Nat → Nat) (keep : Nat → Nat → Bool) : ∀ n, (places n m keep).Pairwise ltN
  | 0 => List.Pairwise.nil
  | n + 1 => by
    rw [places_snoc]
    refine List.pairwise_append.mpr ⟨places_sorted m keep n, ?_, ?_⟩
    · exact List.Pairwise.map _ (fun a b (h : a < b) => Or.inr ⟨rfl, h⟩) (List.Pairwise.filter _ List.pairwise_lt_range)
    · intro a ha b hb
      obtain ⟨j, _, rfl⟩ := List.mem_map.mp hb
      exact Or.inl (places_lt ha).1
structure Fit (d : PyData) (dep wt : Nat) : Prop where
  lay : d.canLay0 = true
  sh : d.showable = true
  is : d.intsShort 13 = true
  dp : d.depth ≤ dep
  wg : d.weight ≤ wt
theorem Fit.mono {d : PyData} {a b a' b' : Nat} (h : Fit d a b) (ha : a ≤ a') (hb : b ≤ b') : Fit d a' b' := ⟨h.lay, h.sh, h.is, Nat.le_trans h.dp ha, Nat.le_trans h.wg hb⟩
theorem Fit.shaped {d : PyData} {a b : Nat} (h : Fit d a b) (ha : a ≤ 64) : SeqAt.shaped d = true := by
  show (d.canLay0 && decide (d.depth ≤ 64)) = true
  rw [h.lay, decide_eq_true (Nat.le_trans h.dp ha)]
  rfl
def clean : Nat → D → Bool
  | _, .int _ => true
  | _, .str z => PyData.strOk z
  | n + 1, .tup xs => xs.all (clean n)
  | n + 1, .lst xs => xs.all (clean n)
  | _, _ => false
theorem clean_py : ∀ {n : Nat} {d : D}, clean n d = true → ∃ p, toPy d = some p ∧ p.canLay0 = true ∧ p.depth ≤ n := by
  intro n
  induction n with
  | zero =>
    intro d h
    cases d with
    | int i => exact ⟨_, rfl, rfl, Nat.le_refl 0⟩
    | str z => exact ⟨_, rfl, h, Nat.le_refl 0⟩
    | _ => cases h
  | succ n ih =>
    have all : ∀ xs : List D, xs.all (clean n) = true → ∃ ps, toPys xs = some ps ∧ PyData.canLayAll0 ps = true ∧ PyData.depthAll ps ≤ n := by
      intro xs
      induction xs with
      | nil => exact fun _ => ⟨[], rfl, rfl, Nat.zero_le _⟩
      | cons x xs ihx =>
        intro h
        rw [List.all_cons, Bool.and_eq_true] at h
        obtain ⟨p, e1, e2, e3⟩ := ih h.1
        obtain ⟨ps, f1, f2, f3⟩ := ihx h.2
        refine ⟨p :: ps, ?_, ?_, ?_⟩
        · show ((toPy x).bind fun a => (toPys xs).map fun r => a :: r) = _
          rw [e1, f1]
          rfl
        · show (p.canLay0 && PyData.canLayAll0 ps) = true
          rw [e2, f2]
          rfl
        · show max p.depth (PyData.depthAll ps) ≤ n
          exact Nat.max_le.mpr ⟨e3, f3⟩
    intro d h
    cases d with
    | int i => exact ⟨_, rfl, rfl, Nat.zero_le _⟩
    | str z => exact ⟨_, rfl, h, Nat.zero_le _⟩
    | tup xs =>
      obtain ⟨ps, f1, f2, f3⟩ := all xs h
      refine ⟨.tuple ps, ?_, f2, Nat.succ_le_succ f3⟩
      show (toPys xs).map PyData.tuple = _
      rw [f1]
      rfl
    | lst xs =>
      obtain ⟨ps, f1, f2, f3⟩ := all xs h
      refine ⟨.list ps, ?_, f2, Nat.succ_le_succ f3⟩
      show (toPys xs).map PyData.list = _
      rw [f1]
      rfl
    | _ => cases h
theorem clean_eqv : ∀ {n : Nat} {m : Nat} {d e : D} {p q : PyData}, clean n d = true → clean m e = true → toPy d = some p → toPy e = some q → (PyData.eqv p q = true ↔ d = e) := by
  intro n
  induction n with
  | zero =>
    intro m d e p q hd he h1 h2
    cases d with
    | int i =>
      cases h1
      cases e with
      | int j =>
        cases h2
        simp [PyData.eqv]
      | str z =>
        cases h2
        simp [PyData.eqv]
      | tup xs =>
        obtain ⟨ps, e1, rfl⟩ := Option.map_eq_some_iff.mp (show (toPys _).map PyData.tuple = some q from h2)
        simp [PyData.eqv]
      | lst xs =>
        obtain ⟨ps, e1, rfl⟩ := Option.map_eq_some_iff.mp (show (toPys _).map PyData.list = some q from h2)
        simp [PyData.eqv]
      | _ => cases m <;> cases he
    | str z =>
      cases h1
      cases e with
      | int j =>
        cases h2
        simp [PyData.eqv]
      | str z =>
        cases h2
        simp [PyData.eqv]
      | tup xs =>
        obtain ⟨ps, e1, rfl⟩ := Option.map_eq_some_iff.mp (show (toPys _).map PyData.tuple = some q from h2)
        simp [PyData.eqv]
      | lst xs =>
        obtain ⟨ps, e1, rfl⟩ := Option.map_eq_some_iff.mp (show (toPys _).map PyData.list = some q from h2)
        simp [PyData.eqv]
      | _ => cases m <;> cases he
    | _ => cases hd
  | succ n ih =>
    have all : ∀ (m : Nat) (xs ys : List D) (ps qs : List PyData), xs.all (clean n) = true → ys.all (clean m) = true → toPys xs = some ps → toPys ys = some qs → (PyData.eqvAll ps qs = true ↔ xs = ys) := by
      intro m xs
      induction xs with
      | nil =>
        intro ys ps qs hx hy h1 h2
        cases h1
        cases ys with
        | nil =>
          cases h2
          simp [PyData.eqvAll]
        | cons y ys =>
          obtain ⟨a, e1, h2⟩ := Option.bind_eq_some_iff.mp (show ((toPy y).bind fun a => (toPys ys).map fun r => a :: r) = some qs from h2)
          obtain ⟨r, e2, rfl⟩ := Option.map_eq_some_iff.mp h2
          simp [PyData.eqvAll]
      | cons x xs ihx =>
        intro ys ps qs hx hy h1 h2
        obtain ⟨a, e1, h1⟩ := Option.bind_eq_some_iff.mp (show ((toPy x).bind fun a => (toPys xs).map fun r => a :: r) = some ps from h1)
        obtain ⟨r, e2, rfl⟩ := Option.map_eq_some_iff.mp h1
        cases ys with
        | nil =>
          cases h2
          simp [PyData.eqvAll]
        | cons y ys =>
          obtain ⟨a', e1', h2⟩ := Option.bind_eq_some_iff.mp (show ((toPy y).bind fun a => (toPys ys).map fun r => a :: r) = some qs from h2)
          obtain ⟨r', e2', rfl⟩ := Option.map_eq_some_iff.mp h2
          rw [List.all_cons, Bool.and_eq_true] at hx hy
          show (PyData.eqv a a' && PyData.eqvAll r r') = true ↔ _
          rw [Bool.and_eq_true, ih hx.1 hy.1 e1 e1', ihx ys r r' hx.2 hy.2 e2 e2', List.cons.injEq]
    intro m d e p q hd he h1 h2
    cases d with
    | int i =>
      cases h1
      cases e with
      | int j =>
        cases h2
        simp [PyData.eqv]
      | str z =>
        cases h2
        simp [PyData.eqv]
      | tup xs =>
        obtain ⟨ps, e1, rfl⟩ := Option.map_eq_some_iff.mp (show (toPys _).map PyData.tuple = some q from h2)
        simp [PyData.eqv]
      | lst xs =>
        obtain ⟨ps, e1, rfl⟩ := Option.map_eq_some_iff.mp (show (toPys _).map PyData.list = some q from h2)
        simp [PyData.eqv]
      | _ => cases m <;> cases he
    | str z =>
      cases h1
      cases e with
      | int j =>
        cases h2
        simp [PyData.eqv]
      | str z =>
        cases h2
        simp [PyData.eqv]
      | tup xs =>
        obtain ⟨ps, e1, rfl⟩ := Option.map_eq_some_iff.mp (show (toPys _).map PyData.tuple = some q from h2)
        simp [PyData.eqv]
      | lst xs =>
        obtain ⟨ps, e1, rfl⟩ := Option.map_eq_some_iff.mp (show (toPys _).map PyData.list = some q from h2)
        simp [PyData.eqv]
      | _ => cases m <;> cases he
    | tup xs =>
      obtain ⟨ps, f1, rfl⟩ := Option.map_eq_some_iff.mp (show (toPys _).map PyData.tuple = some p from h1)
      cases e with
      | int j =>
        cases h2
        simp [PyData.eqv]
      | str z =>
        cases h2
        simp [PyData.eqv]
      | tup ys =>
        obtain ⟨qs, e1, rfl⟩ := Option.map_eq_some_iff.mp (show (toPys _).map PyData.tuple = some q from h2)
        cases m with
        | zero => cases he
        | succ m =>
          rw [PyData.eqv, all m xs ys ps qs hd he f1 e1, D.tup.injEq]
      | lst ys =>
        obtain ⟨qs, e1, rfl⟩ := Option.map_eq_some_iff.mp (show (toPys _).map PyData.list = some q from h2)
        simp [PyData.eqv]
      | _ => cases m <;> cases he
    | lst xs =>
      obtain ⟨ps, f1, rfl⟩ := Option.map_eq_some_iff.mp (show (toPys _).map PyData.list = some p from h1)
      cases e with
      | int j =>
        cases h2
        simp [PyData.eqv]
      | str z =>
        cases h2
        simp [PyData.eqv]
      | lst ys =>
        obtain ⟨qs, e1, rfl⟩ := Option.map_eq_some_iff.mp (show (toPys _).map PyData.list = some q from h2)
        cases m with
        | zero => cases he
        | succ m =>
          rw [PyData.eqv, all m xs ys ps qs hd he f1 e1, D.lst.injEq]
      | tup ys =>
        obtain ⟨qs, e1, rfl⟩ := Option.map_eq_some_iff.mp (show (toPys _).map PyData.tuple = some q from h2)
        simp [PyData.eqv]
      | _ => cases m <;> cases he
    | _ => cases hd
theorem py_shaped {p : PyData} {n : Nat} (h : p.canLay0 = true) (d : p.depth ≤ n) (hn : n ≤ 64) : SeqAt.shaped p = true := by
  show (p.canLay0 && decide (p.depth ≤ 64)) = true
  rw [h, decide_eq_true (Nat.le_trans d hn)]
  rfl
theorem scal_none {x y : D} (hx : (∃ l, x = .tup l) ∨ ∃ l, x = .lst l) : scalD x y = none := by
  rcases hx with ⟨l, rfl⟩ | ⟨l, rfl⟩ <;> cases y <;> rfl
open Classical in
theorem eq_clean {x y : D} {n m : Nat} (hx : (∃ l, x = .tup l) ∨ ∃ l, x = .lst l) (cx : clean n x = true) (cy : clean m y = true) (hn : n ≤ 64) (hm : m ≤ 64) : eqD x y = some (decide (x = y)) := by
  obtain ⟨p, a1, a2, a3⟩ := clean_py cx
  obtain ⟨q, b1, b2, b3⟩ := clean_py cy
  unfold eqD
  rw [scal_none hx]
  show ((toPy x).bind fun a => (toPy y).bind fun b => if SeqAt.shaped a = true ∧ SeqAt.shaped b = true then some (PyData.eqv a b) else none) = _
  rw [a1, b1]
  show (if SeqAt.shaped p = true ∧ SeqAt.shaped q = true then some (PyData.eqv p q) else none) = _
  rw [if_pos ⟨py_shaped a2 a3 hn, py_shaped b2 b3 hm⟩]
  congr 1
  rw [Bool.eq_iff_iff, decide_eq_true_eq]
  exact clean_eqv cx cy a1 b1
open Classical in
theorem in_clean {x : D} {ys : List D} {n m : Nat} (cx : clean n x = true) (cy : ys.all (clean m) = true) (hn : n ≤ 64) (hm : m < 64) : inD x (.lst ys) = some (decide (x ∈ ys)) ∧ inD x (.tup ys) = some (decide (x ∈ ys)) := by
  obtain ⟨p, a1, a2, a3⟩ := clean_py cx
  have cl : clean (m + 1) (.lst ys) = true := cy
  obtain ⟨q, b1, b2, b3⟩ := clean_py cl
  obtain ⟨qs, c1, rfl⟩ := Option.map_eq_some_iff.mp (show (toPys _).map PyData.list = some q from b1)
  have any : ∀ (zs : List D) (rs : List PyData), zs.all (clean m) = true → toPys zs = some rs → (rs.any (fun z => PyData.eqv z p) = decide (x ∈ zs)) := by
    intro zs
    induction zs with
    | nil =>
      intro rs _ h
      cases h
      rfl
    | cons z zs ih =>
      intro rs hz h
      obtain ⟨a, e1, h⟩ := Option.bind_eq_some_iff.mp (show ((toPy z).bind fun a => (toPys zs).map fun r => a :: r) = some rs from h)
      obtain ⟨r, e2, rfl⟩ := Option.map_eq_some_iff.mp h
      rw [List.all_cons, Bool.and_eq_true] at hz
      rw [List.any_cons, ih r hz.2 e2]
      have e : PyData.eqv a p = decide (x = z) := by
        rw [Bool.eq_iff_iff, decide_eq_true_eq, clean_eqv hz.1 cx e1 a1]
        exact eq_comm
      rw [e]
      simp [List.mem_cons]
  have d0 : SeqAt.shaped (.list qs) = true := py_shaped b2 b3 hm
  have d1 : SeqAt.shaped (.tuple qs) = true := d0
  have hp : SeqAt.shaped p = true := py_shaped a2 a3 hn
  constructor
  · have e : inD x (.lst ys) = ((toPy x).bind fun a => (toPys ys).bind fun bs => if SeqAt.shaped a = true ∧ SeqAt.shaped (.list bs) = true then some (bs.any fun z => PyData.eqv z a) else none) := by
      cases x <;> rfl
    rw [e, a1, c1]
    show (if SeqAt.shaped p = true ∧ SeqAt.shaped (.list qs) = true then some (qs.any fun z => PyData.eqv z p) else none) = _
    rw [if_pos ⟨hp, d0⟩, any ys qs cy c1]
  · have e : inD x (.tup ys) = ((toPy x).bind fun a => (toPys ys).bind fun bs => if SeqAt.shaped a = true ∧ SeqAt.shaped (.tuple bs) = true then some (bs.any fun z => PyData.eqv z a) else none) := by
      cases x <;> rfl
    rw [e, a1, c1]
    show (if SeqAt.shaped p = true ∧ SeqAt.shaped (.tuple qs) = true then some (qs.any fun z => PyData.eqv z p) else none) = _
    rw [if_pos ⟨hp, d1⟩, any ys qs cy c1]
theorem lt_ii {a b : Int} : opLt (.int a) (.int b) = some (.bl (decide (a < b))) := rfl
theorem cmp_ii {f : Int → Int → Bool} {a b : Int} : opCmpI f (.int a) (.int b) = some (.bl (f a b)) := rfl
theorem add_ii {a b : Int} : opAdd (.int a) (.int b) = some (.int (a + b)) := rfl
theorem add_ll {a b : List D} : opAdd (.lst a) (.lst b) = if a.length + b.length ≤ sizeLine then some (.lst (a ++ b)) else none := rfl
theorem add_tt {a b : List D} : opAdd (.tup a) (.tup b) = if a.length + b.length ≤ sizeLine then some (.tup (a ++ b)) else none := rfl
theorem sub_ii {a b : Int} : opSub (.int a) (.int b) = some (.int (a - b)) := rfl
theorem mod_ii {a b : Int} : opMod (.int a) (.int b) = if 0 < b then some (.int (a % b)) else none := rfl
theorem fdiv_ii {a b : Int} : opFdiv (.int a) (.int b) = if 0 < b ∧ b < 1073741824 then some (.int (a / b)) else none := rfl
theorem len_s {z : Str} : opLen (.str z) = if z.length ≤ sizeLine then some (.int (z.length : Int)) else none := rfl
theorem len_t {xs : List D} : opLen (.tup xs) = some (.int (xs.length : Int)) := rfl
theorem len_l {xs : List D} : opLen (.lst xs) = some (.int (xs.length : Int)) := rfl
theorem len_dt {ks : List (List Key)} {vs : List D} : opLen (.dt ks vs) = some (.int (ks.length : Int)) := rfl
theorem int_i {a : Int} : opInt (.int a) = some (.int a) := rfl
theorem max_ii {a b : Int} : opMax2 [.int a, .int b] = some (.int (if b > a then b else a)) := rfl
theorem min_ii {a b : Int} : opMin2 [.int a, .int b] = some (.int (if b < a then b else a)) := rfl
theorem tuple_l {xs : List D} : opTupleK (.lst xs) = some (.tup xs) := rfl
theorem tuple_t {xs : List D} : opTupleK (.tup xs) = some (.tup xs) := rfl
theorem tuple_dt {ks : List (List Key)} {vs : List D} : opTupleK (.dt ks vs) = some (.tup (ks.map tkeyD)) := rfl
theorem list_l {xs : List D} : opList (.lst xs) = some xs := rfl
theorem list_t {xs : List D} : opList (.tup xs) = some xs := rfl
theorem items_l {xs : List D} : itemsD (.lst xs) = some xs := rfl
theorem items_t {xs : List D} : itemsD (.tup xs) = some xs := rfl
theorem items_s {z : Str} : itemsD (.str z) = some (chars z) := rfl
theorem itemsK_l {xs : List D} : itemsK (.lst xs) = some xs := rfl
theorem itemsK_t {xs : List D} : itemsK (.tup xs) = some xs := rfl
theorem itemsK_dt {ks : List (List Key)} {vs : List D} : itemsK (.dt ks vs) = some (ks.map tkeyD) := rfl
theorem isN_n  : opIsN .non .non = some (.bl true) := rfl
theorem isN_i {a : Int} : opIsN (.int a) .non = some (.bl false) := rfl
theorem isN_s {a : Str} : opIsN (.str a) .non = some (.bl false) := rfl
theorem isN_t {a : List D} : opIsN (.tup a) .non = some (.bl false) := rfl
theorem isN_l {a : List D} : opIsN (.lst a) .non = some (.bl false) := rfl
theorem isN_o {c : Nat} {a : List D} : opIsN (.ins c a) .non = some (.bl false) := rfl
theorem notN_n  : opNotN .non .non = some (.bl false) := rfl
theorem notN_i {a : Int} : opNotN (.int a) .non = some (.bl true) := rfl
theorem notN_s {a : Str} : opNotN (.str a) .non = some (.bl true) := rfl
theorem notN_t {a : List D} : opNotN (.tup a) .non = some (.bl true) := rfl
theorem notN_l {a : List D} : opNotN (.lst a) .non = some (.bl true) := rfl
theorem notN_o {c : Nat} {a : List D} : opNotN (.ins c a) .non = some (.bl true) := rfl
theorem ix_l {xs : List D} {i : Int} : opIx (.lst xs) (.int i) = atI xs i := rfl
theorem ix_t {xs : List D} {i : Int} : opIx (.tup xs) (.int i) = atI xs i := rfl
theorem ix_s {z : Str} {i : Int} : opIx (.str z) (.int i) = if z.length ≤ sizeLine then (atI z.cps.toList i).map (fun c => D.str ⟨#[c]⟩) else none := rfl
theorem sl_t {xs : List D} {a b : Option Int} : opSl (.tup xs) a b = some (.tup (cutD xs a b)) := rfl
theorem sl_l {xs : List D} {a b : Option Int} : opSl (.lst xs) a b = some (.lst (cutD xs a b)) := rfl
theorem fld_o {ix : Nat → Option Nat} {c : Nat} {ds : List D} : opFld ix (.ins c ds) = if c < 100 then (ix c).bind fun j => ds[j]? else none := rfl
instance (p q : Nat × Nat) : Decidable (ltN p q) := inferInstanceAs (Decidable (_ ∨ _))
theorem at_0 {α : Type} {x : α} {xs : List α} : atI (x :: xs) 0 = some x := atI_nat (j := 0) rfl
theorem at_nat {α : Type} {xs : List α} {n : Nat} (h : n < xs.length) : atI xs (n : Int) = some xs[n] := atI_nat (List.getElem?_eq_getElem h)
theorem sl_le0 : (0 ≤ sizeLine) = True := eq_true (by rw [sizeLine_eq]; omega)
theorem sl_le1 : (1 ≤ sizeLine) = True := eq_true (by rw [sizeLine_eq]; omega)
theorem sl_le2 : (2 ≤ sizeLine) = True := eq_true (by rw [sizeLine_eq]; omega)
theorem sl_le3 : (3 ≤ sizeLine) = True := eq_true (by rw [sizeLine_eq]; omega)
theorem sl_le4 : (4 ≤ sizeLine) = True := eq_true (by rw [sizeLine_eq]; omega)
theorem sl_le5 : (5 ≤ sizeLine) = True := eq_true (by rw [sizeLine_eq]; omega)
theorem sl_le6 : (6 ≤ sizeLine) = True := eq_true (by rw [sizeLine_eq]; omega)
theorem sl_le7 : (7 ≤ sizeLine) = True := eq_true (by rw [sizeLine_eq]; omega)
theorem sl_le8 : (8 ≤ sizeLine) = True := eq_true (by rw [sizeLine_eq]; omega)
theorem sl_lt0 : (0 < sizeLine) = True := eq_true (by rw [sizeLine_eq]; omega)
theorem sl_lt1 : (1 < sizeLine) = True := eq_true (by rw [sizeLine_eq]; omega)
theorem sl_lt2 : (2 < sizeLine) = True := eq_true (by rw [sizeLine_eq]; omega)
theorem sl_lt3 : (3 < sizeLine) = True := eq_true (by rw [sizeLine_eq]; omega)
theorem sl_lt4 : (4 < sizeLine) = True := eq_true (by rw [sizeLine_eq]; omega)
theorem sl_lt5 : (5 < sizeLine) = True := eq_true (by rw [sizeLine_eq]; omega)
theorem sl_lt6 : (6 < sizeLine) = True := eq_true (by rw [sizeLine_eq]; omega)
theorem sl_lt7 : (7 < sizeLine) = True := eq_true (by rw [sizeLine_eq]; omega)
theorem sl_lt8 : (8 < sizeLine) = True := eq_true (by rw [sizeLine_eq]; omega)
theorem rg1 {n : Nat} : (-2 ^ 62 ≤ (n : Int)) = True := eq_true (by omega)
theorem rg2 {n : Nat} (h : n ≤ 1000000) : (n : Int) < 2 ^ 62 := by omega
theorem ints0 {n : Nat} : intsD 0 n = (List.range n).map fun (i : Nat) => D.int (i : Int) := by
  unfold intsD
  simp
theorem small {n : Nat} (h : n ≤ 1000000) : n ≤ sizeLine := by
  rw [sizeLine_eq]
  omega
theorem enum_map {α : Type} (f : α → D) (d : α) (l : List α) : enumD (l.map f) = (List.range l.length).map fun (i : Nat) => .tup [.int (i : Int), f (l.getD i d)] := by
  refine List.ext_getElem? fun i => ?_
  by_cases h : i < l.length
  · rw [enum_at (d := f (l.getD i d)) (by rw [List.getElem?_map, List.getD_eq_getElem?_getD, List.getElem?_eq_getElem h]; rfl), List.getElem?_map, List.getElem?_range h]
    rfl
  · rw [List.getElem?_eq_none (by rw [enum_len, List.length_map]; omega), List.getElem?_eq_none (by rw [List.length_map, List.length_range]; omega)]
theorem lcD_from {α : Type} {g : GD} {t : FT} {e : F} {vs : List Nat} {E : XP} {Q : List D → Env → Prop} {ρ : Env} {enc : α → D} (p : α → Bool) (f : α → D) (l : List α) (acc : List D) (hl : acc.length + l.length ≤ sizeLine) (h : ∀ a ∈ l, Turn g t e vs E ρ (enc a) (if p a = true then some (f a) else none)) :
    lcD g t e vs E Q (l.map enc) acc ρ ↔ Q (acc ++ (l.filter p).map f) ρ := by
  rw [lcD_eq (fun a => if p a = true then some (f a) else none) l acc hl h, filterMap_if]
theorem lc2D_eq {α β : Type} {g : GD} {t : FT} {fi1 : FL} {g1 : GD} {t1 : FT} {e : F} {vs vs1 : List Nat} {E : XP} {Q : List D → Env → Prop} {ρ : Env} {enc : α → D} (its : α → List β) (enc1 : α → β → D) (p : α → β → Bool) (f : α → β → D) (ρa : α → Env) :
    ∀ (l : List α) (acc : List D), (∀ a ∈ l, (its a).length ≤ 1000) → acc.length + l.length * 1000 ≤ sizeLine → (∀ a ∈ l, wipeE (ρa a) vs = ρ) →
    (∀ a ∈ l, ∀ (A : List D → Env → Prop) (B : Env → Prop), (g (enc a) ρ fun ρ1 => t ρ1 (fun b ρ2 => if b = true then fi1 ρ2 (fun es ρ3 => A es (wipeE ρ3 vs1)) E else B ρ2) E) ↔ A ((its a).map (enc1 a)) (ρa a)) →
    (∀ a ∈ l, ∀ b ∈ its a, Turn g1 t1 e vs1 E (ρa a) (enc1 a b) (if p a b = true then some (f a b) else none)) →
    (lc2D g t fi1 g1 t1 e vs vs1 E Q (l.map enc) acc ρ ↔ Q (acc ++ l.flatMap fun a => ((its a).filter (p a)).map (f a)) ρ)
  | [], acc, _, _, _, _, _ => by
    rw [List.flatMap_nil, List.append_nil]
    exact Iff.rfl
  | a :: l, acc, hi, hl, hw, h, h1 => by
    rw [List.length_cons] at hl
    have e1 : lc2D g t fi1 g1 t1 e vs vs1 E Q ((a :: l).map enc) acc ρ = (g (enc a) ρ fun ρ1 => t ρ1 (fun b ρ2 => if b = true then fi1 ρ2 (fun es ρ3 => lcD g1 t1 e vs1 E (fun acc' ρ4 => lc2D g t fi1 g1 t1 e vs vs1 E Q (l.map enc) acc' (wipeE ρ4 vs)) es acc (wipeE ρ3 vs1)) E else lc2D g t fi1 g1 t1 e vs vs1 E Q (l.map enc) acc (wipeE ρ2 vs)) E) := rfl
    have ha := hi a List.mem_cons_self
    rw [e1, h a List.mem_cons_self (fun es ρ3 => lcD g1 t1 e vs1 E (fun acc' ρ4 => lc2D g t fi1 g1 t1 e vs vs1 E Q (l.map enc) acc' (wipeE ρ4 vs)) es acc ρ3) fun ρ2 => lc2D g t fi1 g1 t1 e vs vs1 E Q (l.map enc) acc (wipeE ρ2 vs),
      lcD_from (p a) (f a) (its a) acc (by omega) (h1 a List.mem_cons_self), hw a List.mem_cons_self,
      lc2D_eq its enc1 p f ρa l _ (fun b hb => hi b (List.mem_cons_of_mem _ hb)) (by
        have : ((its a).filter (p a)).length ≤ (its a).length := List.length_filter_le _ _
        rw [List.length_append, List.length_map]
        omega) (fun b hb => hw b (List.mem_cons_of_mem _ hb)) (fun b hb => h b (List.mem_cons_of_mem _ hb)) (fun b hb => h1 b (List.mem_cons_of_mem _ hb)), List.flatMap_cons, List.append_assoc]
theorem put_new {κ α : Type} [DecidableEq κ] {kvs : List (κ × α)} {k : κ} {v : α} (h : k ∉ kvs.map (·.1)) : putA kvs k v = kvs ++ [(k, v)] := by
  unfold putA
  rw [if_neg]
  intro z
  obtain ⟨q, hq, e⟩ := List.any_eq_true.mp z
  exact h (List.mem_map.mpr ⟨q, hq, of_decide_eq_true e⟩)
theorem dcD_eq {α : Type} {g : GD} {t : FT} {fk fv : F} {vs : List Nat} {E : XP} {Q : List (List Key × D) → Env → Prop} {ρ : Env} {enc : α → D} (key : α → List Key) (val : α → D) : ∀ (l : List α) (acc : List (List Key × D)), acc.length + l.length ≤ sizeLine → (acc.map (·.1) ++ l.map key).Nodup →
    (∀ a ∈ l, ∀ (A : D → D → Env → Prop) (B : Env → Prop), (g (enc a) ρ fun ρ1 => t ρ1 (fun b ρ2 => if b = true then fk ρ2 (fun y ρ3 => fv ρ3 (fun z ρ4 => A y z (wipeE ρ4 vs)) E) E else B (wipeE ρ2 vs)) E) ↔ A (tkeyD (key a)) (val a) ρ) → (∀ a ∈ l, toTKey (tkeyD (key a)) = some (key a)) →
    (dcD g t fk fv vs E Q (l.map enc) acc ρ ↔ Q (acc ++ l.map fun a => (key a, val a)) ρ)
  | [], acc, _, _, _, _ => by
    rw [List.map_nil, List.map_nil, List.append_nil]
    exact Iff.rfl
  | a :: l, acc, hl, nd, h, hk => by
    rw [List.length_cons] at hl
    have e1 : dcD g t fk fv vs E Q ((a :: l).map enc) acc ρ = (g (enc a) ρ fun ρ1 => t ρ1 (fun b ρ2 => if b = true then fk ρ2 (fun y ρ3 => fv ρ3 (fun z ρ4 => ∃ k, toTKey y = some k ∧ acc.length < sizeLine ∧ dcD g t fk fv vs E Q (l.map enc) (putA acc k z) (wipeE ρ4 vs)) E) E else dcD g t fk fv vs E Q (l.map enc) acc (wipeE ρ2 vs)) E) := rfl
    have hn : key a ∉ acc.map (·.1) := fun z => by
      rw [List.map_cons, List.nodup_append] at nd
      exact nd.2.2 _ z _ List.mem_cons_self rfl
    rw [e1, h a List.mem_cons_self (fun y z ρ4 => ∃ k, toTKey y = some k ∧ acc.length < sizeLine ∧ dcD g t fk fv vs E Q (l.map enc) (putA acc k z) ρ4) fun ρ2 => dcD g t fk fv vs E Q (l.map enc) acc ρ2]
    rw [hk a List.mem_cons_self]
    have nd2 : ((acc ++ [(key a, val a)]).map (·.1) ++ l.map key).Nodup := by
      rw [List.map_append, List.append_assoc]
      exact nd
    have ih := dcD_eq (Q := Q) key val l (acc ++ [(key a, val a)]) (by rw [List.length_append, List.length_singleton]; omega) nd2 (fun b hb => h b (List.mem_cons_of_mem _ hb)) (fun b hb => hk b (List.mem_cons_of_mem _ hb))
    constructor
    · rintro ⟨k, e, _, q⟩
      cases e
      rw [put_new hn, ih, List.append_assoc] at q
      exact q
    · intro q
      refine ⟨_, rfl, by omega, ?_⟩
      rw [put_new hn, ih, List.append_assoc]
      exact q
theorem toStrs_map {α : Type} (f : α → Str) : ∀ l : List α, toStrs (l.map fun a => .str (f a)) = some (l.map f)
  | [] => rfl
  | a :: l => by
    rw [List.map_cons, toStrs, toStrs_map f l]
    rfl
theorem str_e : ("" : Str) = SX.S [] := by decide +kernel
theorem runP_eq {n : Nat} {g : FS} {ds : List D} {c : Nat} {Q : D → Nat → Prop} {E : XP} : runP n g ds c Q E = ∀ a, g ⟨fun ρ => ∃ c', ρ[0]? = some (Sl.pot a c') ∧ Q .non c', fun d ρ => ∃ c', ρ[0]? = some (Sl.pot a c') ∧ Q d c', fun _ => False, fun _ => False⟩ (Sl.pot a c :: (ds.map Sl.val ++ List.replicate (n - 1 - ds.length) .no)) E := rfl
theorem loopD_inv {α : Type} {g : GD} {body : FS} {De : DeT} {E : XP} {enc : α → D} (I : List α → Env → Prop)
    (step : ∀ a l ρ, I (a :: l) ρ → ∀ N : Env → Prop, (∀ ρ', I l ρ' → N ρ') → g (enc a) ρ fun ρ1 => body { De with nx := N, ct := N, bk := De.nx } ρ1 E) (fin : ∀ ρ, I [] ρ → De.nx ρ) : ∀ (l : List α) (ρ : Env), I l ρ → loopD g body De E (l.map enc) ρ
  | [], ρ, h => fin ρ h
  | a :: l, ρ, h => step a l ρ h (loopD g body De E (l.map enc)) fun ρ' h' => loopD_inv I step fin l ρ' h'
theorem take_ok {Q : D → Nat → Prop} {E : XP} {c : Nat} {up : Int} (hc : c < 1000000) (h0 : 0 < up) (h1 : up < 1000000) (k : ∀ d : Int, 0 ≤ d → d < up → Q (.int d) (c + 1)) : mTake [.int up] c Q E := ⟨up, rfl, hc, h0, h1, k⟩
def Diag (t w k : Nat) (bs : List Bool) : Prop := ∀ c, c < bs.length → (k % w = c ∨ c % t = k) → bs[c]? = some true
theorem brd_of {gs : List (List Bool)} {t wd : Nat} (t1 : 1 ≤ t) (t10 : t ≤ 10) (w1 : 1 ≤ wd) (w10 : wd ≤ 10) (gl : gs.length = t) (gw : ∀ r ∈ gs, r.length = wd) (gd : ∀ j r, gs[j]? = some r → Diag t wd j r) : Brd gs t wd where
  tall := gl
  wide := gw
  inRow := fun r hr => by
    obtain ⟨j, hj⟩ := List.getElem?_of_mem hr
    have hl := gw r hr
    have : j % wd < r.length := by rw [hl]; exact Nat.mod_lt _ w1
    exact List.mem_of_getElem? (gd j r hj (j % wd) this (.inl rfl))
  inCol := fun c hc => by
    have hj : c % t < gs.length := by rw [gl]; exact Nat.mod_lt _ t1
    exact ⟨gs[c % t], List.getElem_mem hj, gd (c % t) _ (List.getElem?_eq_getElem hj) c (by rw [gw _ (List.getElem_mem hj)]; exact hc) (.inr rfl)⟩
  t1 := t1
  t10 := t10
  w1 := w1
  w10 := w10
def evB := (And.intro (And.intro (And.intro (And.intro (And.intro (And.intro (And.intro @run_eq @ex_some) (And.intro @ex_bl @ex_int)) (And.intro (And.intro @ex_tup @ex_lst) (And.intro @ex_val @ex_own))) (And.intro (And.intro (And.intro @lt_ii @cmp_ii) (And.intro @add_ii @add_ll)) (And.intro (And.intro @add_tt @sub_ii) (And.intro @mod_ii @fdiv_ii)))) (And.intro (And.intro (And.intro (And.intro @len_s @len_t) (And.intro @len_l @len_dt)) (And.intro (And.intro @int_i @max_ii) (And.intro @min_ii @tuple_l))) (And.intro (And.intro (And.intro @tuple_t @tuple_dt) (And.intro @list_l @list_t)) (And.intro (And.intro @items_l @items_t) (And.intro @items_s @itemsK_l))))) (And.intro (And.intro (And.intro (And.intro (And.intro @itemsK_t @itemsK_dt) (And.intro @isN_n @isN_i)) (And.intro (And.intro @isN_s @isN_t) (And.intro @isN_l @isN_o))) (And.intro (And.intro (And.intro @notN_n @notN_i) (And.intro @notN_s @notN_t)) (And.intro (And.intro @notN_l @notN_o) (And.intro @ix_l @ix_t)))) (And.intro (And.intro (And.intro (And.intro @ix_s @sl_t) (And.intro @sl_l @fld_o)) (And.intro (And.intro @at_0 @sl_lt0) (And.intro @sl_lt1 @sl_lt2))) (And.intro (And.intro (And.intro @sl_lt3 @sl_lt4) (And.intro @sl_lt5 @sl_lt6)) (And.intro (And.intro @sl_lt7 @sl_lt8) (And.intro @rg1 @ints0)))))) (And.intro (And.intro (And.intro (And.intro (And.intro (And.intro @sl_le0 @sl_le1) (And.intro @sl_le2 @sl_le3)) (And.intro (And.intro @sl_le4 @sl_le5) (And.intro @sl_le6 @sl_le7))) (And.intro (And.intro (And.intro @sl_le8 @is_int_int) (And.intro @is_int_bool @is_int_str)) (And.intro (And.intro @is_int_tuple @is_int_list) (And.intro @is_int_NoneType @is_int_ins)))) (And.intro (And.intro (And.intro (And.intro @is_bool_int @is_bool_bool) (And.intro @is_bool_str @is_bool_tuple)) (And.intro (And.intro @is_bool_list @is_bool_NoneType) (And.intro @is_bool_ins @is_str_int))) (And.intro (And.intro (And.intro @is_str_bool @is_str_str) (And.intro @is_str_tuple @is_str_list)) (And.intro (And.intro @is_str_NoneType @is_str_ins) (And.intro @is_tuple_int @is_tuple_bool))))) (And.intro (And.intro (And.intro (And.intro (And.intro @is_tuple_str @is_tuple_tuple) (And.intro @is_tuple_list @is_tuple_NoneType)) (And.intro (And.intro @is_tuple_ins @is_list_int) (And.intro @is_list_bool @is_list_str))) (And.intro (And.intro (And.intro @is_list_tuple @is_list_list) (And.intro @is_list_NoneType @is_list_ins)) (And.intro (And.intro @is_dict_int @is_dict_bool) (And.intro @is_dict_str @is_dict_tuple)))) (And.intro (And.intro (And.intro (And.intro @is_dict_list @is_dict_NoneType) (And.intro @is_dict_ins @isC_int)) (And.intro (And.intro @isC_bool @isC_str) (And.intro @isC_tuple @isC_list))) (And.intro (And.intro (And.intro @isC_NoneType @isC_ins) (And.intro @eq_int @eq_str)) (And.intro (And.intro @eq_bl @ne_int) (And.intro @ne_str (And.intro @ne_bl @opAll_map))))))))
def evD := (And.intro (And.intro (And.intro (And.intro (And.intro (And.intro @eVar.eq_1 @eOwn.eq_1) (And.intro @eC.eq_1 @e1.eq_1)) (And.intro (And.intro @e2.eq_1 @eL.eq_1) (And.intro @o1.eq_1 (And.intro @o2.eq_1 @oL.eq_1)))) (And.intro (And.intro (And.intro @aNil.eq_1 @aCons.eq_1) (And.intro @aStar.eq_1 (And.intro @aStarK.eq_1 @bVal.eq_1))) (And.intro (And.intro @bAnd.eq_1 @bOr.eq_1) (And.intro @bNot.eq_1 (And.intro @bYes.eq_1 @eAnd.eq_1))))) (And.intro (And.intro (And.intro (And.intro @eOr.eq_1 @eNot.eq_1) (And.intro @eIf.eq_1 @eChain.eq_1)) (And.intro (And.intro @eMade.eq_1 @oLc.eq_1) (And.intro @eDt.eq_1 (And.intro @oLst.eq_1 @oList.eq_1)))) (And.intro (And.intro (And.intro @oRg1.eq_1 @iAny.eq_1) (And.intro @iAnyK.eq_1 (And.intro @iRange1.eq_1 @iRange2.eq_1))) (And.intro (And.intro @iEnumTD.eq_1 @iEnumLD.eq_1) (And.intro @iEnumSD.eq_1 (And.intro @iZipD.eq_1 @xVal.eq_1)))))) (And.intro (And.intro (And.intro (And.intro (And.intro @xOwn.eq_1 @sNil.eq_1) (And.intro @sSeq.eq_1 @sExpr.eq_1)) (And.intro (And.intro @sRet.eq_1 @sRetN.eq_1) (And.intro @sIf.eq_1 (And.intro @sNever.eq_1 @sSet.eq_1)))) (And.intro (And.intro (And.intro @sFor.eq_1 @sPar.eq_1) (And.intro @sAsg.eq_1 (And.intro @sFldS.eq_1 @oLc2.eq_1))) (And.intro (And.intro @iZipX.eq_1 @inW.eq_1) (And.intro @invW.eq_1 (And.intro @binW.eq_1 @gN.eq_1))))) (And.intro (And.intro (And.intro (And.intro @gT.eq_1 @gUL.eq_1) (And.intro @eFrz.eq_1 @eApp.eq_1)) (And.intro (And.intro @eExt.eq_1 @eCallN.eq_1) (And.intro @eMeth.eq_1 (And.intro @eMake.eq_1 @eSl.eq_1)))) (And.intro (And.intro (And.intro @pNo.eq_1 @pSome.eq_1) (And.intro @opLe.eq_1 (And.intro @opGt.eq_1 @opGe.eq_1))) (And.intro (And.intro @opTup.eq_1 @opLst.eq_1) (And.intro @ePr.eq_1 (And.intro @sParL.eq_1 @sRaise.eq_1)))))))
def badW : Nat := 1073741824
def wtK : Key → Nat
  | .inl i => if i.natAbs.log2 < 1920 ∧ (PyData.shown (.int i)).length ≤ 13 then 1 else badW
  | .inr z => if PyData.strOk z = true then z.length + 1 else badW
def wtKs : List Key → Nat
  | [] => 0
  | k :: ks => wtK k + 2 + wtKs ks
mutual
def wtD : D → Nat
  | .non => 1
  | .bl _ => 1
  | .int i => if i.natAbs.log2 < 1920 ∧ (PyData.shown (.int i)).length ≤ 13 then 1 else badW
  | .str z => if PyData.strOk z = true then z.length + 1 else badW
  | .tup xs => wtDs xs + 1
  | .lst xs => wtDs xs + 1
  | .dk ks vs => wtKs ks + wtDs vs + 1
  | .dt _ _ => badW
  | .ins _ _ => badW
  | .exc _ _ => badW
  | .slt _ _ => badW
  | .nk _ _ => badW
  | .adr _ => badW
def wtDs : List D → Nat
  | [] => 0
  | x :: xs => wtD x + 1 + wtDs xs
end
mutual
def dpD : D → Nat
  | .tup xs => dpDs xs + 1
  | .lst xs => dpDs xs + 1
  | .dk _ vs => dpDs vs + 1
  | _ => 0
def dpDs : List D → Nat
  | [] => 0
  | x :: xs => max (dpD x) (dpDs xs)
end
theorem strOk_short {z : Str} (h : PyData.strOk z = true) : (z.cps.toList.all fun c => decide (c < 16 ^ 8)) = true := by
  have h : (z.cps.all fun x => decide (x < 0x110000)) = true := h
  rw [← Array.all_toList, List.all_eq_true] at h
  refine List.all_eq_true.mpr fun c hc => decide_eq_true ?_
  have := of_decide_eq_true (h c hc)
  omega
theorem key_fit {k : Key} (h : wtK k < badW) : (keyPy k).showable = true ∧ (keyPy k).leavesShort 13 = true ∧ (keyPy k).bulk ≤ wtK k ∧ (keyPy k).depth = 0 := by
  cases k with
  | inl i =>
    have h : (if i.natAbs.log2 < 1920 ∧ (PyData.shown (.int i)).length ≤ 13 then 1 else badW) < badW := h
    split at h
    · rename_i g
      exact ⟨decide_eq_true g.1, decide_eq_true g.2, Nat.zero_le _, rfl⟩
    · exact absurd h (Nat.lt_irrefl _)
  | inr z =>
    have h : (if PyData.strOk z = true then z.length + 1 else badW) < badW := h
    split at h
    · rename_i g
      refine ⟨rfl, strOk_short g, ?_, rfl⟩
      show z.cps.size ≤ if PyData.strOk z = true then z.length + 1 else badW
      rw [if_pos g]
      exact Nat.le_succ _
    · exact absurd h (Nat.lt_irrefl _)
theorem keys_fit : ∀ {ks : List Key} {ps : List PyData}, wtKs ks < badW → PyData.showableAll ps = true → PyData.leavesShortAll 13 ps = true →
    PyData.showableKv ((ks.map keyPy).zip ps) = true ∧ PyData.leavesShortKv 13 ((ks.map keyPy).zip ps) = true ∧ PyData.bulkKv ((ks.map keyPy).zip ps) ≤ wtKs ks + PyData.bulkAll ps ∧ PyData.depthKv ((ks.map keyPy).zip ps) ≤ PyData.depthAll ps
  | [], _, _, _, _ => ⟨rfl, rfl, Nat.zero_le _, Nat.zero_le _⟩
  | k :: ks, [], _, _, _ => ⟨rfl, rfl, Nat.zero_le _, Nat.zero_le _⟩
  | k :: ks, p :: ps, h, h1, h2 => by
    have hw : wtK k + 2 + wtKs ks < badW := h
    obtain ⟨a1, a2, a3, a4⟩ := key_fit (k := k) (by omega)
    have h1 : p.showable = true ∧ PyData.showableAll ps = true := by simpa only [PyData.showableAll, Bool.and_eq_true] using h1
    have h2 : p.leavesShort 13 = true ∧ PyData.leavesShortAll 13 ps = true := by simpa only [PyData.leavesShortAll, Bool.and_eq_true] using h2
    obtain ⟨b1, b2, b3, b4⟩ := keys_fit (ks := ks) (ps := ps) (by omega) h1.2 h2.2
    rw [List.map_cons, List.zip_cons_cons]
    refine ⟨by simp only [PyData.showableKv, Bool.and_eq_true]; exact ⟨⟨a1, h1.1⟩, b1⟩, by simp only [PyData.leavesShortKv, Bool.and_eq_true]; exact ⟨⟨a2, h2.1⟩, b2⟩, ?_, ?_⟩
    · simp only [PyData.bulkKv, PyData.bulkAll, wtKs]
      omega
    · simp only [PyData.depthKv, PyData.depthAll, a4]
      omega
mutual
theorem fit_any : ∀ {d : D}, wtD d < badW → ∃ p, toPyX d = some p ∧ p.showable = true ∧ p.leavesShort 13 = true ∧ p.bulk ≤ wtD d ∧ p.depth ≤ dpD d
  | .non, _ => ⟨_, rfl, rfl, rfl, Nat.zero_le _, Nat.le_refl _⟩
  | .bl _, _ => ⟨_, rfl, rfl, rfl, Nat.zero_le _, Nat.le_refl _⟩
  | .int i, h => by
    unfold wtD at h
    split at h
    · rename_i g
      exact ⟨_, rfl, decide_eq_true g.1, decide_eq_true g.2, Nat.zero_le _, Nat.le_refl _⟩
    · exact absurd h (Nat.lt_irrefl _)
  | .str z, h => by
    unfold wtD at h
    split at h
    · rename_i g
      refine ⟨_, rfl, rfl, strOk_short g, ?_, Nat.le_refl _⟩
      unfold wtD
      rw [if_pos g]
      exact Nat.le_succ _
    · exact absurd h (Nat.lt_irrefl _)
  | .tup xs, h => by
    unfold wtD at h
    obtain ⟨ps, e1, _, e2, e3, e4, e5⟩ := fit_anys (xs := xs) (by omega)
    refine ⟨.tuple ps, by show (toPyXs xs).map PyData.tuple = _; rw [e1]; rfl, e2, e3, ?_, ?_⟩
    · unfold wtD
      exact Nat.le_succ_of_le e4
    · unfold dpD
      exact Nat.succ_le_succ e5
  | .lst xs, h => by
    unfold wtD at h
    obtain ⟨ps, e1, _, e2, e3, e4, e5⟩ := fit_anys (xs := xs) (by omega)
    refine ⟨.list ps, by show (toPyXs xs).map PyData.list = _; rw [e1]; rfl, e2, e3, ?_, ?_⟩
    · unfold wtD
      exact Nat.le_succ_of_le e4
    · unfold dpD
      exact Nat.succ_le_succ e5
  | .dk ks vs, h => by
    unfold wtD at h
    obtain ⟨ps, e1, e0, e2, e3, e4, e5⟩ := fit_anys (xs := vs) (by omega)
    obtain ⟨a1, a2, a3, a4⟩ := keys_fit (ks := ks) (ps := ps) (by omega) e2 e3
    refine ⟨.dict ((ks.map keyPy).zip ps), by show (toPyXs vs).map (fun ps => PyData.dict ((ks.map keyPy).zip ps)) = _; rw [e1]; rfl, a1, a2, ?_, ?_⟩
    · unfold wtD
      show PyData.bulkKv _ ≤ _
      omega
    · unfold dpD
      show PyData.depthKv _ + 1 ≤ _
      omega
  | .dt _ _, h => absurd h (Nat.lt_irrefl _)
  | .ins _ _, h => absurd h (Nat.lt_irrefl _)
  | .exc _ _, h => absurd h (Nat.lt_irrefl _)
  | .slt _ _, h => absurd h (Nat.lt_irrefl _)
  | .nk _ _, h => absurd h (Nat.lt_irrefl _)
  | .adr _, h => absurd h (Nat.lt_irrefl _)
theorem fit_anys : ∀ {xs : List D}, wtDs xs < badW → ∃ ps, toPyXs xs = some ps ∧ ps.length = xs.length ∧ PyData.showableAll ps = true ∧ PyData.leavesShortAll 13 ps = true ∧ PyData.bulkAll ps ≤ wtDs xs ∧ PyData.depthAll ps ≤ dpDs xs
  | [], _ => ⟨[], rfl, rfl, rfl, rfl, Nat.zero_le _, Nat.zero_le _⟩
  | x :: xs, h => by
    unfold wtDs at h
    obtain ⟨p, a1, a2, a3, a4, a5⟩ := fit_any (d := x) (by omega)
    obtain ⟨ps, b1, b0, b2, b3, b4, b5⟩ := fit_anys (xs := xs) (by omega)
    refine ⟨p :: ps, ?_, by rw [List.length_cons, List.length_cons, b0], ?_, ?_, ?_, ?_⟩
    · show ((toPyX x).bind fun a => (toPyXs xs).map fun r => a :: r) = _
      rw [a1, b1]
      rfl
    · simp only [PyData.showableAll, Bool.and_eq_true]
      exact ⟨a2, b2⟩
    · simp only [PyData.leavesShortAll, Bool.and_eq_true]
      exact ⟨a3, b3⟩
    · unfold wtDs
      simp only [PyData.bulkAll]
      omega
    · unfold dpDs
      simp only [PyData.depthAll]
      omega
end
theorem repr_any {d : D} (h : wtD d ≤ 1000000) (h2 : dpD d ≤ 64) : ∃ z, opReprX d = some (.str z) := by
  obtain ⟨p, e1, a2, a3, a4, a5⟩ := fit_any (d := d) (by unfold badW; omega)
  refine ⟨p.shown, ?_⟩
  unfold opReprX
  rw [e1]
  show (if _ then _ else _) = _
  rw [if_pos ⟨a2, Nat.le_trans a5 h2, PyData.shown_fits_bulk (B := 13) (by decide) (by decide) a3 (by omega)⟩]
structure Wt (n k : Nat) (d : D) : Prop where
  w : wtD d ≤ n
  p : dpD d ≤ k
structure Wts (n k : Nat) (ds : List D) : Prop where
  w : wtDs ds ≤ n
  p : ∀ x ∈ ds, dpD x ≤ k
theorem dpDs_le {k : Nat} : ∀ {ds : List D}, (∀ x ∈ ds, dpD x ≤ k) → dpDs ds ≤ k
  | [], _ => Nat.zero_le _
  | x :: xs, h => Nat.max_le.mpr ⟨h x List.mem_cons_self, dpDs_le fun y hy => h y (List.mem_cons_of_mem _ hy)⟩
theorem wtDs_mem {x : D} : ∀ {ds : List D}, x ∈ ds → wtD x < wtDs ds
  | y :: ys, h => by
    unfold wtDs
    rcases List.mem_cons.mp h with rfl | h
    · omega
    · have := wtDs_mem h
      omega
theorem wtDs_sub {xs ys : List D} (h : xs.Sublist ys) : wtDs xs ≤ wtDs ys := by
  induction h with
  | slnil => exact Nat.le_refl _
  | @cons l1 l2 a _ ih =>
    show wtDs l1 ≤ wtD a + 1 + wtDs l2
    omega
  | @cons_cons l1 l2 a _ ih =>
    show wtD a + 1 + wtDs l1 ≤ wtD a + 1 + wtDs l2
    omega
theorem wtDs_len : ∀ xs : List D, xs.length ≤ wtDs xs
  | [] => Nat.le_refl _
  | x :: xs => by
    have := wtDs_len xs
    rw [List.length_cons]
    unfold wtDs
    omega
section
variable {n m k k' : Nat} {d : D} {xs ys : List D}
theorem Wt.mono (h : Wt n k d) (hn : n ≤ m) (hk : k ≤ k') : Wt m k' d := ⟨Nat.le_trans h.w hn, Nat.le_trans h.p hk⟩
theorem Wts.mono (h : Wts n k xs) (hn : n ≤ m) (hk : k ≤ k') : Wts m k' xs := ⟨Nat.le_trans h.w hn, fun x hx => Nat.le_trans (h.p x hx) hk⟩
theorem Wts.sub (h : Wts n k ys) (s : xs.Sublist ys) : Wts n k xs := ⟨Nat.le_trans (wtDs_sub s) h.w, fun x hx => h.p x (s.subset hx)⟩
theorem Wts.one (h : Wt n k d) : Wts (n + 1) k [d] := ⟨Nat.succ_le_succ h.w, fun x hx => by
  rw [List.mem_singleton.mp hx]
  exact h.p⟩
theorem Wts.tup (h : Wts n k xs) : Wt (n + 1) (k + 1) (.tup xs) := ⟨Nat.succ_le_succ h.w, Nat.succ_le_succ (dpDs_le h.p)⟩
theorem Wts.lst (h : Wts n k xs) : Wt (n + 1) (k + 1) (.lst xs) := ⟨Nat.succ_le_succ h.w, Nat.succ_le_succ (dpDs_le h.p)⟩
theorem Wts.mem (h : Wts n k xs) (hx : d ∈ xs) : Wt n k d := ⟨Nat.le_trans (Nat.le_of_lt (wtDs_mem hx)) h.w, h.p d hx⟩
theorem Wts.len (h : Wts n k xs) : xs.length ≤ n := Nat.le_trans (wtDs_len xs) h.w
end
end Fd

namespace Fd
open PySem PySem.Spec PyProof.Rows L2 Wd
theorem t_is_integer {i lo : Int} {Q : D → Prop} {E : XP} : m_is_integer [.int i, .int lo, .non] Q E ↔ Q (.bl (decide (lo ≤ i))) := by
  unfold m_is_integer g_is_integer
  simp only [evB, evD, Sl.obj.injEq, eq_self, forall_const, Prod.mk.injEq, List.getElem?_cons_zero, List.getElem?_cons_succ, List.set_cons_zero, List.set_cons_succ, List.map_cons, List.map_nil, List.cons_append, List.nil_append, List.append_nil, List.length_cons, List.length_nil, List.replicate_succ, List.replicate_zero, Nat.reduceAdd, Nat.reduceSub, D.bl.injEq, D.int.injEq, D.str.injEq, D.tup.injEq, D.lst.injEq, D.ins.injEq, Sl.val.injEq, Sl.own.injEq, Option.some.injEq, exists_eq_left, exists_eq_left', exists_eq_right, exists_eq_right', exists_and_left, true_and, and_true, Option.bind_some, Option.map_some, exists_eq, exists_eq', Nat.reduceLT, Nat.lt_irrefl, Nat.reduceEqDiff, Nat.reduceLeDiff, Nat.zero_lt_succ, Int.toNat_natCast, Int.ofNat_lt, Int.ofNat_le, Int.natCast_inj, Bool.not_true, Bool.not_false, Bool.false_eq_true, if_false, ite_true, ite_false, reduceIte, ↓reduceIte, List.mem_cons, List.not_mem_nil, or_false, false_or, true_or, or_true, decide_true, decide_false, reduceCtorEq, false_and, and_false, and_assoc, List.length_map, not_false_eq_true, exists_false, exists_const, ge_iff_le, gt_iff_lt, gs, look, wipeE, nC, if_true]
  by_cases h : lo ≤ i
  · simp [h, show ¬ i < lo by omega]
  · simp [h, show i < lo by omega]
theorem t_is_integer3 {i lo hi : Int} {Q : D → Prop} {E : XP} : m_is_integer [.int i, .int lo, .int hi] Q E ↔ Q (.bl (decide (lo ≤ i ∧ i ≤ hi))) := by
  unfold m_is_integer g_is_integer
  simp only [evB, evD, Sl.obj.injEq, eq_self, forall_const, Prod.mk.injEq, List.getElem?_cons_zero, List.getElem?_cons_succ, List.set_cons_zero, List.set_cons_succ, List.map_cons, List.map_nil, List.cons_append, List.nil_append, List.append_nil, List.length_cons, List.length_nil, List.replicate_succ, List.replicate_zero, Nat.reduceAdd, Nat.reduceSub, D.bl.injEq, D.int.injEq, D.str.injEq, D.tup.injEq, D.lst.injEq, D.ins.injEq, Sl.val.injEq, Sl.own.injEq, Option.some.injEq, exists_eq_left, exists_eq_left', exists_eq_right, exists_eq_right', exists_and_left, true_and, and_true, Option.bind_some, Option.map_some, exists_eq, exists_eq', Nat.reduceLT, Nat.lt_irrefl, Nat.reduceEqDiff, Nat.reduceLeDiff, Nat.zero_lt_succ, Int.toNat_natCast, Int.ofNat_lt, Int.ofNat_le, Int.natCast_inj, Bool.not_true, Bool.not_false, Bool.false_eq_true, if_false, ite_true, ite_false, reduceIte, ↓reduceIte, List.mem_cons, List.not_mem_nil, or_false, false_or, true_or, or_true, decide_true, decide_false, reduceCtorEq, false_and, and_false, and_assoc, List.length_map, not_false_eq_true, exists_false, exists_const, ge_iff_le, gt_iff_lt, gs, look, wipeE, nC, if_true]
  by_cases h : lo ≤ i
  · simp [h, show ¬ i < lo by omega]
  · simp [h, show i < lo by omega]
theorem t_is_pair {ds : List D} {Q : D → Prop} {E : XP} (h : ds.length ≤ sizeLine) : m_is_pair [.tup ds] Q E ↔ Q (.bl (decide (ds.length = 2))) := by
  unfold m_is_pair g_is_pair
  simp only [evB, evD, Sl.obj.injEq, eq_self, forall_const, Prod.mk.injEq, List.getElem?_cons_zero, List.getElem?_cons_succ, List.set_cons_zero, List.set_cons_succ, List.map_cons, List.map_nil, List.cons_append, List.nil_append, List.append_nil, List.length_cons, List.length_nil, List.replicate_succ, List.replicate_zero, Nat.reduceAdd, Nat.reduceSub, D.bl.injEq, D.int.injEq, D.str.injEq, D.tup.injEq, D.lst.injEq, D.ins.injEq, Sl.val.injEq, Sl.own.injEq, Option.some.injEq, exists_eq_left, exists_eq_left', exists_eq_right, exists_eq_right', exists_and_left, true_and, and_true, Option.bind_some, Option.map_some, exists_eq, exists_eq', Nat.reduceLT, Nat.lt_irrefl, Nat.reduceEqDiff, Nat.reduceLeDiff, Nat.zero_lt_succ, Int.toNat_natCast, Int.ofNat_lt, Int.ofNat_le, Int.natCast_inj, Bool.not_true, Bool.not_false, Bool.false_eq_true, if_false, ite_true, ite_false, reduceIte, ↓reduceIte, List.mem_cons, List.not_mem_nil, or_false, false_or, true_or, or_true, decide_true, decide_false, reduceCtorEq, false_and, and_false, and_assoc, List.length_map, not_false_eq_true, exists_false, exists_const, ge_iff_le, gt_iff_lt, gs, look, wipeE, nC, h]
  rw [show (decide ((ds.length : Int) = 2)) = decide (ds.length = 2) from decide_eq_decide.mpr (by omega)]
theorem t_is_tuple {ds : List D} {n : Int} {Q : D → Prop} {E : XP} (h : ds.length ≤ sizeLine) (h1 : 1 ≤ ds.length) (hn : (ds.length : Int) ≤ n) : m_is_tuple [.tup ds, .int n] Q E ↔ Q (.bl true) := by
  unfold m_is_tuple g_is_tuple
  simp only [evB, evD, Sl.obj.injEq, eq_self, forall_const, Prod.mk.injEq, List.getElem?_cons_zero, List.getElem?_cons_succ, List.set_cons_zero, List.set_cons_succ, List.map_cons, List.map_nil, List.cons_append, List.nil_append, List.append_nil, List.length_cons, List.length_nil, List.replicate_succ, List.replicate_zero, Nat.reduceAdd, Nat.reduceSub, D.bl.injEq, D.int.injEq, D.str.injEq, D.tup.injEq, D.lst.injEq, D.ins.injEq, Sl.val.injEq, Sl.own.injEq, Option.some.injEq, exists_eq_left, exists_eq_left', exists_eq_right, exists_eq_right', exists_and_left, true_and, and_true, Option.bind_some, Option.map_some, exists_eq, exists_eq', Nat.reduceLT, Nat.lt_irrefl, Nat.reduceEqDiff, Nat.reduceLeDiff, Nat.zero_lt_succ, Int.toNat_natCast, Int.ofNat_lt, Int.ofNat_le, Int.natCast_inj, Bool.not_true, Bool.not_false, Bool.false_eq_true, if_false, ite_true, ite_false, reduceIte, ↓reduceIte, List.mem_cons, List.not_mem_nil, or_false, false_or, true_or, or_true, decide_true, decide_false, reduceCtorEq, false_and, and_false, and_assoc, List.length_map, not_false_eq_true, exists_false, exists_const, ge_iff_le, gt_iff_lt, gs, look, wipeE, nC, h, show (1 : Int) ≤ (ds.length : Int) by omega, hn]
theorem t_is_rising {l : List Nat} {Q : D → Prop} {E : XP} (hl : l.length ≤ 1000) (h : l.Pairwise (· < ·)) : m_is_rising [.tup (natsD l)] Q E ↔ Q (.bl true) := by
  unfold m_is_rising g_is_rising
  simp only [evB, evD, Sl.obj.injEq, eq_self, forall_const, Prod.mk.injEq, List.getElem?_cons_zero, List.getElem?_cons_succ, List.set_cons_zero, List.set_cons_succ, List.map_cons, List.map_nil, List.cons_append, List.nil_append, List.append_nil, List.length_cons, List.length_nil, List.replicate_succ, List.replicate_zero, Nat.reduceAdd, Nat.reduceSub, D.bl.injEq, D.int.injEq, D.str.injEq, D.tup.injEq, D.lst.injEq, D.ins.injEq, Sl.val.injEq, Sl.own.injEq, Option.some.injEq, exists_eq_left, exists_eq_left', exists_eq_right, exists_eq_right', exists_and_left, true_and, and_true, Option.bind_some, Option.map_some, exists_eq, exists_eq', Nat.reduceLT, Nat.lt_irrefl, Nat.reduceEqDiff, Nat.reduceLeDiff, Nat.zero_lt_succ, Int.toNat_natCast, Int.ofNat_lt, Int.ofNat_le, Int.natCast_inj, Bool.not_true, Bool.not_false, Bool.false_eq_true, if_false, ite_true, ite_false, reduceIte, ↓reduceIte, List.mem_cons, List.not_mem_nil, or_false, false_or, true_or, or_true, decide_true, decide_false, reduceCtorEq, false_and, and_false, and_assoc, List.length_map, not_false_eq_true, exists_false, exists_const, ge_iff_le, gt_iff_lt, gs, look, wipeE, nC, cut_1, natsD]
  rw [← List.map_drop, zipD_map, lcD_map (fun p => .bl (decide (p.1 < p.2)))]
  · simp only [evB, evD, Sl.obj.injEq, eq_self, forall_const, Prod.mk.injEq, List.getElem?_cons_zero, List.getElem?_cons_succ, List.set_cons_zero, List.set_cons_succ, List.map_cons, List.map_nil, List.cons_append, List.nil_append, List.append_nil, List.length_cons, List.length_nil, List.replicate_succ, List.replicate_zero, Nat.reduceAdd, Nat.reduceSub, D.bl.injEq, D.int.injEq, D.str.injEq, D.tup.injEq, D.lst.injEq, D.ins.injEq, Sl.val.injEq, Sl.own.injEq, Option.some.injEq, exists_eq_left, exists_eq_left', exists_eq_right, exists_eq_right', exists_and_left, true_and, and_true, Option.bind_some, Option.map_some, exists_eq, exists_eq', Nat.reduceLT, Nat.lt_irrefl, Nat.reduceEqDiff, Nat.reduceLeDiff, Nat.zero_lt_succ, Int.toNat_natCast, Int.ofNat_lt, Int.ofNat_le, Int.natCast_inj, Bool.not_true, Bool.not_false, Bool.false_eq_true, if_false, ite_true, ite_false, reduceIte, ↓reduceIte, List.mem_cons, List.not_mem_nil, or_false, false_or, true_or, or_true, decide_true, decide_false, reduceCtorEq, false_and, and_false, and_assoc, List.length_map, not_false_eq_true, exists_false, exists_const, ge_iff_le, gt_iff_lt, gs, look, wipeE, nC, if_true]
    rw [List.all_eq_true.mpr fun p hp => decide_eq_true (adj_all h p hp)]
  · rw [List.length_zip, sizeLine_eq]
    omega
  · intro p hp A B
    simp only [evB, evD, Sl.obj.injEq, eq_self, forall_const, Prod.mk.injEq, List.getElem?_cons_zero, List.getElem?_cons_succ, List.set_cons_zero, List.set_cons_succ, List.map_cons, List.map_nil, List.cons_append, List.nil_append, List.append_nil, List.length_cons, List.length_nil, List.replicate_succ, List.replicate_zero, Nat.reduceAdd, Nat.reduceSub, D.bl.injEq, D.int.injEq, D.str.injEq, D.tup.injEq, D.lst.injEq, D.ins.injEq, Sl.val.injEq, Sl.own.injEq, Option.some.injEq, exists_eq_left, exists_eq_left', exists_eq_right, exists_eq_right', exists_and_left, true_and, and_true, Option.bind_some, Option.map_some, exists_eq, exists_eq', Nat.reduceLT, Nat.lt_irrefl, Nat.reduceEqDiff, Nat.reduceLeDiff, Nat.zero_lt_succ, Int.toNat_natCast, Int.ofNat_lt, Int.ofNat_le, Int.natCast_inj, Bool.not_true, Bool.not_false, Bool.false_eq_true, if_false, ite_true, ite_false, reduceIte, ↓reduceIte, List.mem_cons, List.not_mem_nil, or_false, false_or, true_or, or_true, decide_true, decide_false, reduceCtorEq, false_and, and_false, and_assoc, List.length_map, not_false_eq_true, exists_false, exists_const, ge_iff_le, gt_iff_lt, gs, look, wipeE, nC, Int.ofNat_lt]
theorem lt_dot {p q : Nat × Nat} : opLt (dotT p) (dotT q) = some (.bl (decide (ltN p q))) := by
  show some (D.bl (HT.lexLt [(p.1 : Int), (p.2 : Int)] [(q.1 : Int), (q.2 : Int)])) = _
  congr 2
  rw [Bool.eq_iff_iff, decide_eq_true_eq]
  unfold ltN
  simp only [HT.lexLt]
  split
  · split
    · simp
      omega
    · simp
      omega
  · simp
    omega
theorem t_is_rising2 {l : List (Nat × Nat)} {Q : D → Prop} {E : XP} (hl : l.length ≤ 1000) (h : l.Pairwise ltN) : m_is_rising [.tup (l.map dotT)] Q E ↔ Q (.bl true) := by
  unfold m_is_rising g_is_rising
  simp only [evB, evD, Sl.obj.injEq, eq_self, forall_const, Prod.mk.injEq, List.getElem?_cons_zero, List.getElem?_cons_succ, List.set_cons_zero, List.set_cons_succ, List.map_cons, List.map_nil, List.cons_append, List.nil_append, List.append_nil, List.length_cons, List.length_nil, List.replicate_succ, List.replicate_zero, Nat.reduceAdd, Nat.reduceSub, D.bl.injEq, D.int.injEq, D.str.injEq, D.tup.injEq, D.lst.injEq, D.ins.injEq, Sl.val.injEq, Sl.own.injEq, Option.some.injEq, exists_eq_left, exists_eq_left', exists_eq_right, exists_eq_right', exists_and_left, true_and, and_true, Option.bind_some, Option.map_some, exists_eq, exists_eq', Nat.reduceLT, Nat.lt_irrefl, Nat.reduceEqDiff, Nat.reduceLeDiff, Nat.zero_lt_succ, Int.toNat_natCast, Int.ofNat_lt, Int.ofNat_le, Int.natCast_inj, Bool.not_true, Bool.not_false, Bool.false_eq_true, if_false, ite_true, ite_false, reduceIte, ↓reduceIte, List.mem_cons, List.not_mem_nil, or_false, false_or, true_or, or_true, decide_true, decide_false, reduceCtorEq, false_and, and_false, and_assoc, List.length_map, not_false_eq_true, exists_false, exists_const, ge_iff_le, gt_iff_lt, gs, look, wipeE, nC, cut_1]
  rw [← List.map_drop, zipD_map, lcD_map (fun p => .bl true)]
  · simp only [evB, evD, Sl.obj.injEq, eq_self, forall_const, Prod.mk.injEq, List.getElem?_cons_zero, List.getElem?_cons_succ, List.set_cons_zero, List.set_cons_succ, List.map_cons, List.map_nil, List.cons_append, List.nil_append, List.append_nil, List.length_cons, List.length_nil, List.replicate_succ, List.replicate_zero, Nat.reduceAdd, Nat.reduceSub, D.bl.injEq, D.int.injEq, D.str.injEq, D.tup.injEq, D.lst.injEq, D.ins.injEq, Sl.val.injEq, Sl.own.injEq, Option.some.injEq, exists_eq_left, exists_eq_left', exists_eq_right, exists_eq_right', exists_and_left, true_and, and_true, Option.bind_some, Option.map_some, exists_eq, exists_eq', Nat.reduceLT, Nat.lt_irrefl, Nat.reduceEqDiff, Nat.reduceLeDiff, Nat.zero_lt_succ, Int.toNat_natCast, Int.ofNat_lt, Int.ofNat_le, Int.natCast_inj, Bool.not_true, Bool.not_false, Bool.false_eq_true, if_false, ite_true, ite_false, reduceIte, ↓reduceIte, List.mem_cons, List.not_mem_nil, or_false, false_or, true_or, or_true, decide_true, decide_false, reduceCtorEq, false_and, and_false, and_assoc, List.length_map, not_false_eq_true, exists_false, exists_const, ge_iff_le, gt_iff_lt, gs, look, wipeE, nC, if_true]
    rw [List.all_eq_true.mpr fun p hp => rfl]
  · rw [List.length_zip, sizeLine_eq]
    omega
  · intro p hp A B
    simp only [evB, evD, Sl.obj.injEq, eq_self, forall_const, Prod.mk.injEq, List.getElem?_cons_zero, List.getElem?_cons_succ, List.set_cons_zero, List.set_cons_succ, List.map_cons, List.map_nil, List.cons_append, List.nil_append, List.append_nil, List.length_cons, List.length_nil, List.replicate_succ, List.replicate_zero, Nat.reduceAdd, Nat.reduceSub, D.bl.injEq, D.int.injEq, D.str.injEq, D.tup.injEq, D.lst.injEq, D.ins.injEq, Sl.val.injEq, Sl.own.injEq, Option.some.injEq, exists_eq_left, exists_eq_left', exists_eq_right, exists_eq_right', exists_and_left, true_and, and_true, Option.bind_some, Option.map_some, exists_eq, exists_eq', Nat.reduceLT, Nat.lt_irrefl, Nat.reduceEqDiff, Nat.reduceLeDiff, Nat.zero_lt_succ, Int.toNat_natCast, Int.ofNat_lt, Int.ofNat_le, Int.natCast_inj, Bool.not_true, Bool.not_false, Bool.false_eq_true, if_false, ite_true, ite_false, reduceIte, ↓reduceIte, List.mem_cons, List.not_mem_nil, or_false, false_or, true_or, or_true, decide_true, decide_false, reduceCtorEq, false_and, and_false, and_assoc, List.length_map, not_false_eq_true, exists_false, exists_const, ge_iff_le, gt_iff_lt, gs, look, wipeE, nC, lt_dot, decide_eq_true (adj_all h p hp)]
theorem t_are_numbers {l : List Nat} {n : Nat} {Q : D → Prop} {E : XP} (hl : l.length ≤ 1000) (h : l.Pairwise (· < ·)) (hn : ∀ x ∈ l, x < n) : m_are_numbers [.tup (natsD l), .int (n : Int)] Q E ↔ Q (.bl true) := by
  unfold m_are_numbers g_are_numbers
  have z := @t_is_rising l
  unfold natsD at z ⊢
  simp only [evB, evD, Sl.obj.injEq, eq_self, forall_const, Prod.mk.injEq, List.getElem?_cons_zero, List.getElem?_cons_succ, List.set_cons_zero, List.set_cons_succ, List.map_cons, List.map_nil, List.cons_append, List.nil_append, List.append_nil, List.length_cons, List.length_nil, List.replicate_succ, List.replicate_zero, Nat.reduceAdd, Nat.reduceSub, D.bl.injEq, D.int.injEq, D.str.injEq, D.tup.injEq, D.lst.injEq, D.ins.injEq, Sl.val.injEq, Sl.own.injEq, Option.some.injEq, exists_eq_left, exists_eq_left', exists_eq_right, exists_eq_right', exists_and_left, true_and, and_true, Option.bind_some, Option.map_some, exists_eq, exists_eq', Nat.reduceLT, Nat.lt_irrefl, Nat.reduceEqDiff, Nat.reduceLeDiff, Nat.zero_lt_succ, Int.toNat_natCast, Int.ofNat_lt, Int.ofNat_le, Int.natCast_inj, Bool.not_true, Bool.not_false, Bool.false_eq_true, if_false, ite_true, ite_false, reduceIte, ↓reduceIte, List.mem_cons, List.not_mem_nil, or_false, false_or, true_or, or_true, decide_true, decide_false, reduceCtorEq, false_and, and_false, and_assoc, List.length_map, not_false_eq_true, exists_false, exists_const, ge_iff_le, gt_iff_lt, gs, look, wipeE, nC, if_true]
  rw [lcD_map (fun p => .bl true)]
  · simp only [evB, evD, Sl.obj.injEq, eq_self, forall_const, Prod.mk.injEq, List.getElem?_cons_zero, List.getElem?_cons_succ, List.set_cons_zero, List.set_cons_succ, List.map_cons, List.map_nil, List.cons_append, List.nil_append, List.append_nil, List.length_cons, List.length_nil, List.replicate_succ, List.replicate_zero, Nat.reduceAdd, Nat.reduceSub, D.bl.injEq, D.int.injEq, D.str.injEq, D.tup.injEq, D.lst.injEq, D.ins.injEq, Sl.val.injEq, Sl.own.injEq, Option.some.injEq, exists_eq_left, exists_eq_left', exists_eq_right, exists_eq_right', exists_and_left, true_and, and_true, Option.bind_some, Option.map_some, exists_eq, exists_eq', Nat.reduceLT, Nat.lt_irrefl, Nat.reduceEqDiff, Nat.reduceLeDiff, Nat.zero_lt_succ, Int.toNat_natCast, Int.ofNat_lt, Int.ofNat_le, Int.natCast_inj, Bool.not_true, Bool.not_false, Bool.false_eq_true, if_false, ite_true, ite_false, reduceIte, ↓reduceIte, List.mem_cons, List.not_mem_nil, or_false, false_or, true_or, or_true, decide_true, decide_false, reduceCtorEq, false_and, and_false, and_assoc, List.length_map, not_false_eq_true, exists_false, exists_const, ge_iff_le, gt_iff_lt, gs, look, wipeE, nC, z hl h, List.all_eq_true.mpr fun p hp => rfl]
  · rw [sizeLine_eq]
    omega
  · intro p hp A B
    have := hn p hp
    simp only [evB, evD, Sl.obj.injEq, eq_self, forall_const, Prod.mk.injEq, List.getElem?_cons_zero, List.getElem?_cons_succ, List.set_cons_zero, List.set_cons_succ, List.map_cons, List.map_nil, List.cons_append, List.nil_append, List.append_nil, List.length_cons, List.length_nil, List.replicate_succ, List.replicate_zero, Nat.reduceAdd, Nat.reduceSub, D.bl.injEq, D.int.injEq, D.str.injEq, D.tup.injEq, D.lst.injEq, D.ins.injEq, Sl.val.injEq, Sl.own.injEq, Option.some.injEq, exists_eq_left, exists_eq_left', exists_eq_right, exists_eq_right', exists_and_left, true_and, and_true, Option.bind_some, Option.map_some, exists_eq, exists_eq', Nat.reduceLT, Nat.lt_irrefl, Nat.reduceEqDiff, Nat.reduceLeDiff, Nat.zero_lt_succ, Int.toNat_natCast, Int.ofNat_lt, Int.ofNat_le, Int.natCast_inj, Bool.not_true, Bool.not_false, Bool.false_eq_true, if_false, ite_true, ite_false, reduceIte, ↓reduceIte, List.mem_cons, List.not_mem_nil, or_false, false_or, true_or, or_true, decide_true, decide_false, reduceCtorEq, false_and, and_false, and_assoc, List.length_map, not_false_eq_true, exists_false, exists_const, ge_iff_le, gt_iff_lt, gs, look, wipeE, nC, t_is_integer3, show ((0 : Int) ≤ (p : Int) ∧ (p : Int) ≤ (n : Int) - 1) by omega]
abbrev rowD (r : List Bool) : D := .str (rowS r)
theorem str_o : ("o" : Str) = SX.S [111] := by decide +kernel
theorem notIn_o {r : List Bool} : opNotIn (.str "o") (.str (rowS r)) = some (.bl (!decide (true ∈ r))) := by
  show some (D.bl (!(!(Builtin.Str.occurrences (rowS r) "o" 0 (rowS r).length 1).isEmpty))) = _
  unfold rowS
  rw [str_o, SX.in_one]
  congr 3
  exact decide_eq_decide.mpr ⟨fun h => by
    obtain ⟨b, hb, e⟩ := List.mem_map.mp h
    cases b with
    | true => exact hb
    | false => exact absurd e (by decide), fun h => List.mem_map.mpr ⟨true, h, rfl⟩⟩
theorem chars_row {r : List Bool} : chars (rowS r) = r.map fun b => .str ⟨#[cd b]⟩ := by
  unfold chars
  rw [rowS_list, List.map_map]
  rfl
open Classical in
theorem sign_in (b : Bool) : opIn (.str ⟨#[cd b]⟩) (.tup [.str "o", .str "."]) = some (.bl true) := by
  have h : D.str ⟨#[cd b]⟩ ∈ [D.str "o", D.str "."] := by
    cases b with
    | true => exact List.mem_cons.mpr (.inl (congrArg D.str (by decide +kernel)))
    | false => exact List.mem_cons_of_mem _ (List.mem_singleton.mpr (congrArg D.str (by decide +kernel)))
  unfold opIn
  rw [(in_clean (n := 0) (m := 0) (by cases b <;> decide +kernel) (by decide +kernel) (by decide) (by decide)).2, decide_eq_true h]
  rfl
theorem t_is_row {r : List Bool} {w : Nat} {Q : D → Prop} {E : XP} (hw : r.length = w) (h10 : w ≤ 10) (h : true ∈ r) : m_is_row [rowD r, .int (w : Int)] Q E ↔ Q (.bl true) := by
  unfold m_is_row g_is_row
  have hl : (rowS r).length ≤ sizeLine := by rw [rowS_len, sizeLine_eq]; omega
  simp only [evB, evD, Sl.obj.injEq, eq_self, forall_const, Prod.mk.injEq, List.getElem?_cons_zero, List.getElem?_cons_succ, List.set_cons_zero, List.set_cons_succ, List.map_cons, List.map_nil, List.cons_append, List.nil_append, List.append_nil, List.length_cons, List.length_nil, List.replicate_succ, List.replicate_zero, Nat.reduceAdd, Nat.reduceSub, D.bl.injEq, D.int.injEq, D.str.injEq, D.tup.injEq, D.lst.injEq, D.ins.injEq, Sl.val.injEq, Sl.own.injEq, Option.some.injEq, exists_eq_left, exists_eq_left', exists_eq_right, exists_eq_right', exists_and_left, true_and, and_true, Option.bind_some, Option.map_some, exists_eq, exists_eq', Nat.reduceLT, Nat.lt_irrefl, Nat.reduceEqDiff, Nat.reduceLeDiff, Nat.zero_lt_succ, Int.toNat_natCast, Int.ofNat_lt, Int.ofNat_le, Int.natCast_inj, Bool.not_true, Bool.not_false, Bool.false_eq_true, if_false, ite_true, ite_false, reduceIte, ↓reduceIte, List.mem_cons, List.not_mem_nil, or_false, false_or, true_or, or_true, decide_true, decide_false, reduceCtorEq, false_and, and_false, and_assoc, List.length_map, not_false_eq_true, exists_false, exists_const, ge_iff_le, gt_iff_lt, gs, look, wipeE, nC, small (show w ≤ 1000000 by omega), rowS_len, hw, notIn_o, h, chars_row]
  rw [lcD_map (fun p => .bl true)]
  · simp only [evB, evD, Sl.obj.injEq, eq_self, forall_const, Prod.mk.injEq, List.getElem?_cons_zero, List.getElem?_cons_succ, List.set_cons_zero, List.set_cons_succ, List.map_cons, List.map_nil, List.cons_append, List.nil_append, List.append_nil, List.length_cons, List.length_nil, List.replicate_succ, List.replicate_zero, Nat.reduceAdd, Nat.reduceSub, D.bl.injEq, D.int.injEq, D.str.injEq, D.tup.injEq, D.lst.injEq, D.ins.injEq, Sl.val.injEq, Sl.own.injEq, Option.some.injEq, exists_eq_left, exists_eq_left', exists_eq_right, exists_eq_right', exists_and_left, true_and, and_true, Option.bind_some, Option.map_some, exists_eq, exists_eq', Nat.reduceLT, Nat.lt_irrefl, Nat.reduceEqDiff, Nat.reduceLeDiff, Nat.zero_lt_succ, Int.toNat_natCast, Int.ofNat_lt, Int.ofNat_le, Int.natCast_inj, Bool.not_true, Bool.not_false, Bool.false_eq_true, if_false, ite_true, ite_false, reduceIte, ↓reduceIte, List.mem_cons, List.not_mem_nil, or_false, false_or, true_or, or_true, decide_true, decide_false, reduceCtorEq, false_and, and_false, and_assoc, List.length_map, not_false_eq_true, exists_false, exists_const, ge_iff_le, gt_iff_lt, gs, look, wipeE, nC, List.all_eq_true.mpr fun p hp => rfl]
  · rw [sizeLine_eq]
    omega
  · intro p hp A B
    simp only [evB, evD, Sl.obj.injEq, eq_self, forall_const, Prod.mk.injEq, List.getElem?_cons_zero, List.getElem?_cons_succ, List.set_cons_zero, List.set_cons_succ, List.map_cons, List.map_nil, List.cons_append, List.nil_append, List.append_nil, List.length_cons, List.length_nil, List.replicate_succ, List.replicate_zero, Nat.reduceAdd, Nat.reduceSub, D.bl.injEq, D.int.injEq, D.str.injEq, D.tup.injEq, D.lst.injEq, D.ins.injEq, Sl.val.injEq, Sl.own.injEq, Option.some.injEq, exists_eq_left, exists_eq_left', exists_eq_right, exists_eq_right', exists_and_left, true_and, and_true, Option.bind_some, Option.map_some, exists_eq, exists_eq', Nat.reduceLT, Nat.lt_irrefl, Nat.reduceEqDiff, Nat.reduceLeDiff, Nat.zero_lt_succ, Int.toNat_natCast, Int.ofNat_lt, Int.ofNat_le, Int.natCast_inj, Bool.not_true, Bool.not_false, Bool.false_eq_true, if_false, ite_true, ite_false, reduceIte, ↓reduceIte, List.mem_cons, List.not_mem_nil, or_false, false_or, true_or, or_true, decide_true, decide_false, reduceCtorEq, false_and, and_false, and_assoc, List.length_map, not_false_eq_true, exists_false, exists_const, ge_iff_le, gt_iff_lt, gs, look, wipeE, nC, sign_in]
open Classical in
theorem in_o (bs : List Bool) : opIn (.str "o") (.lst (bs.map fun b => .str ⟨#[cd b]⟩)) = some (.bl (decide (true ∈ bs))) := by
  unfold opIn
  rw [(in_clean (n := 0) (m := 0) (by decide +kernel) (List.all_eq_true.mpr fun d hd => by
    obtain ⟨b, _, rfl⟩ := List.mem_map.mp hd
    cases b <;> decide +kernel) (by decide) (by decide)).1]
  have h : D.str "o" ∈ (bs.map fun b => D.str ⟨#[cd b]⟩) ↔ true ∈ bs := ⟨fun h => by
    obtain ⟨b, hb, e⟩ := List.mem_map.mp h
    cases b with
    | true => exact hb
    | false =>
      injection e with e
      exact absurd e (by decide +kernel), fun h => List.mem_map.mpr ⟨true, h, congrArg D.str (by decide +kernel)⟩⟩
  show some (D.bl _) = _
  rw [decide_eq_decide.mpr h]
theorem ix_row {r : List Bool} {j : Nat} (hj : j < r.length) (h10 : r.length ≤ 10) : opIx (rowD r) (.int (j : Int)) = some (.str ⟨#[cd (r.getD j false)]⟩) := by
  show (if (rowS r).length ≤ sizeLine then (atI (rowS r).cps.toList (j : Int)).map (fun c => D.str ⟨#[c]⟩) else none) = _
  rw [if_pos (by rw [rowS_len, sizeLine_eq]; omega), atI_nat (rowS_ix hj)]
  rfl
theorem t_are_rows {g : List (List Bool)} {t w : Nat} {Q : D → Prop} {E : XP} (hb : Brd g t w) : m_are_rows [.tup (g.map rowD)] Q E ↔ Q (.bl true) := by
  unfold m_are_rows g_are_rows
  obtain ⟨r0, rest, eg, hr0⟩ := rowsV_first hb
  have hgl : g.length = t := hb.tall
  have t1 := hb.t1
  have t10 := hb.t10
  have w1 := hb.w1
  have w10 := hb.w10
  have hix : atI (g.map rowD) 0 = some (rowD r0) := by
    rw [eg]
    exact at_0
  have hl0 : (rowS r0).length = w := by rw [rowS_len, hr0]
  simp only [evB, evD, Sl.obj.injEq, eq_self, forall_const, Prod.mk.injEq, List.getElem?_cons_zero, List.getElem?_cons_succ, List.set_cons_zero, List.set_cons_succ, List.map_cons, List.map_nil, List.cons_append, List.nil_append, List.append_nil, List.length_cons, List.length_nil, List.replicate_succ, List.replicate_zero, Nat.reduceAdd, Nat.reduceSub, D.bl.injEq, D.int.injEq, D.str.injEq, D.tup.injEq, D.lst.injEq, D.ins.injEq, Sl.val.injEq, Sl.own.injEq, Option.some.injEq, exists_eq_left, exists_eq_left', exists_eq_right, exists_eq_right', exists_and_left, true_and, and_true, Option.bind_some, Option.map_some, exists_eq, exists_eq', Nat.reduceLT, Nat.lt_irrefl, Nat.reduceEqDiff, Nat.reduceLeDiff, Nat.zero_lt_succ, Int.toNat_natCast, Int.ofNat_lt, Int.ofNat_le, Int.natCast_inj, Bool.not_true, Bool.not_false, Bool.false_eq_true, if_false, ite_true, ite_false, reduceIte, ↓reduceIte, List.mem_cons, List.not_mem_nil, or_false, false_or, true_or, or_true, decide_true, decide_false, reduceCtorEq, false_and, and_false, and_assoc, List.length_map, not_false_eq_true, exists_false, exists_const, ge_iff_le, gt_iff_lt, gs, look, wipeE, nC, t_is_tuple (ds := g.map rowD) (n := 10) (by rw [List.length_map, sizeLine_eq]; omega) (by rw [List.length_map]; omega) (by rw [List.length_map]; omega), hix, hl0, small (show w ≤ 1000000 by omega), show (1 : Int) ≤ (w : Int) by omega, show (w : Int) ≤ 10 by omega]
  rw [lcD_map (fun p => .bl true)]
  · simp only [evB, evD, Sl.obj.injEq, eq_self, forall_const, Prod.mk.injEq, List.getElem?_cons_zero, List.getElem?_cons_succ, List.set_cons_zero, List.set_cons_succ, List.map_cons, List.map_nil, List.cons_append, List.nil_append, List.append_nil, List.length_cons, List.length_nil, List.replicate_succ, List.replicate_zero, Nat.reduceAdd, Nat.reduceSub, D.bl.injEq, D.int.injEq, D.str.injEq, D.tup.injEq, D.lst.injEq, D.ins.injEq, Sl.val.injEq, Sl.own.injEq, Option.some.injEq, exists_eq_left, exists_eq_left', exists_eq_right, exists_eq_right', exists_and_left, true_and, and_true, Option.bind_some, Option.map_some, exists_eq, exists_eq', Nat.reduceLT, Nat.lt_irrefl, Nat.reduceEqDiff, Nat.reduceLeDiff, Nat.zero_lt_succ, Int.toNat_natCast, Int.ofNat_lt, Int.ofNat_le, Int.natCast_inj, Bool.not_true, Bool.not_false, Bool.false_eq_true, if_false, ite_true, ite_false, reduceIte, ↓reduceIte, List.mem_cons, List.not_mem_nil, or_false, false_or, true_or, or_true, decide_true, decide_false, reduceCtorEq, false_and, and_false, and_assoc, List.length_map, not_false_eq_true, exists_false, exists_const, ge_iff_le, gt_iff_lt, gs, look, wipeE, nC, List.all_eq_true.mpr fun p hp => rfl, rg2 (show w ≤ 1000000 by omega)]
    rw [lcD_map (fun p => .bl true)]
    · simp only [evB, evD, Sl.obj.injEq, eq_self, forall_const, Prod.mk.injEq, List.getElem?_cons_zero, List.getElem?_cons_succ, List.set_cons_zero, List.set_cons_succ, List.map_cons, List.map_nil, List.cons_append, List.nil_append, List.append_nil, List.length_cons, List.length_nil, List.replicate_succ, List.replicate_zero, Nat.reduceAdd, Nat.reduceSub, D.bl.injEq, D.int.injEq, D.str.injEq, D.tup.injEq, D.lst.injEq, D.ins.injEq, Sl.val.injEq, Sl.own.injEq, Option.some.injEq, exists_eq_left, exists_eq_left', exists_eq_right, exists_eq_right', exists_and_left, true_and, and_true, Option.bind_some, Option.map_some, exists_eq, exists_eq', Nat.reduceLT, Nat.lt_irrefl, Nat.reduceEqDiff, Nat.reduceLeDiff, Nat.zero_lt_succ, Int.toNat_natCast, Int.ofNat_lt, Int.ofNat_le, Int.natCast_inj, Bool.not_true, Bool.not_false, Bool.false_eq_true, if_false, ite_true, ite_false, reduceIte, ↓reduceIte, List.mem_cons, List.not_mem_nil, or_false, false_or, true_or, or_true, decide_true, decide_false, reduceCtorEq, false_and, and_false, and_assoc, List.length_map, not_false_eq_true, exists_false, exists_const, ge_iff_le, gt_iff_lt, gs, look, wipeE, nC, List.all_eq_true.mpr fun p hp => rfl]
    · rw [List.length_range, sizeLine_eq]
      omega
    · intro c hc A B
      have hc := List.mem_range.mp hc
      simp only [evB, evD, Sl.obj.injEq, eq_self, forall_const, Prod.mk.injEq, List.getElem?_cons_zero, List.getElem?_cons_succ, List.set_cons_zero, List.set_cons_succ, List.map_cons, List.map_nil, List.cons_append, List.nil_append, List.append_nil, List.length_cons, List.length_nil, List.replicate_succ, List.replicate_zero, Nat.reduceAdd, Nat.reduceSub, D.bl.injEq, D.int.injEq, D.str.injEq, D.tup.injEq, D.lst.injEq, D.ins.injEq, Sl.val.injEq, Sl.own.injEq, Option.some.injEq, exists_eq_left, exists_eq_left', exists_eq_right, exists_eq_right', exists_and_left, true_and, and_true, Option.bind_some, Option.map_some, exists_eq, exists_eq', Nat.reduceLT, Nat.lt_irrefl, Nat.reduceEqDiff, Nat.reduceLeDiff, Nat.zero_lt_succ, Int.toNat_natCast, Int.ofNat_lt, Int.ofNat_le, Int.natCast_inj, Bool.not_true, Bool.not_false, Bool.false_eq_true, if_false, ite_true, ite_false, reduceIte, ↓reduceIte, List.mem_cons, List.not_mem_nil, or_false, false_or, true_or, or_true, decide_true, decide_false, reduceCtorEq, false_and, and_false, and_assoc, List.length_map, not_false_eq_true, exists_false, exists_const, ge_iff_le, gt_iff_lt, gs, look, wipeE, nC, if_true]
      rw [lcD_map (fun r => .str ⟨#[cd (r.getD c false)]⟩)]
      · have e : (g.map fun r => D.str ⟨#[cd (r.getD c false)]⟩) = (g.map fun r => r.getD c false).map fun b => .str ⟨#[cd b]⟩ := by rw [List.map_map]; rfl
        have h : true ∈ g.map fun r => r.getD c false := by
          obtain ⟨r, hr, e⟩ := hb.inCol c hc
          exact List.mem_map.mpr ⟨r, hr, by rw [List.getD_eq_getElem?_getD, e]; rfl⟩
        rw [e]
        simp only [evB, evD, Sl.obj.injEq, eq_self, forall_const, Prod.mk.injEq, List.getElem?_cons_zero, List.getElem?_cons_succ, List.set_cons_zero, List.set_cons_succ, List.map_cons, List.map_nil, List.cons_append, List.nil_append, List.append_nil, List.length_cons, List.length_nil, List.replicate_succ, List.replicate_zero, Nat.reduceAdd, Nat.reduceSub, D.bl.injEq, D.int.injEq, D.str.injEq, D.tup.injEq, D.lst.injEq, D.ins.injEq, Sl.val.injEq, Sl.own.injEq, Option.some.injEq, exists_eq_left, exists_eq_left', exists_eq_right, exists_eq_right', exists_and_left, true_and, and_true, Option.bind_some, Option.map_some, exists_eq, exists_eq', Nat.reduceLT, Nat.lt_irrefl, Nat.reduceEqDiff, Nat.reduceLeDiff, Nat.zero_lt_succ, Int.toNat_natCast, Int.ofNat_lt, Int.ofNat_le, Int.natCast_inj, Bool.not_true, Bool.not_false, Bool.false_eq_true, if_false, ite_true, ite_false, reduceIte, ↓reduceIte, List.mem_cons, List.not_mem_nil, or_false, false_or, true_or, or_true, decide_true, decide_false, reduceCtorEq, false_and, and_false, and_assoc, List.length_map, not_false_eq_true, exists_false, exists_const, ge_iff_le, gt_iff_lt, gs, look, wipeE, nC, in_o, decide_eq_true h]
      · rw [sizeLine_eq]
        omega
      · intro r hr A B
        have hw := hb.wide r hr
        simp only [evB, evD, Sl.obj.injEq, eq_self, forall_const, Prod.mk.injEq, List.getElem?_cons_zero, List.getElem?_cons_succ, List.set_cons_zero, List.set_cons_succ, List.map_cons, List.map_nil, List.cons_append, List.nil_append, List.append_nil, List.length_cons, List.length_nil, List.replicate_succ, List.replicate_zero, Nat.reduceAdd, Nat.reduceSub, D.bl.injEq, D.int.injEq, D.str.injEq, D.tup.injEq, D.lst.injEq, D.ins.injEq, Sl.val.injEq, Sl.own.injEq, Option.some.injEq, exists_eq_left, exists_eq_left', exists_eq_right, exists_eq_right', exists_and_left, true_and, and_true, Option.bind_some, Option.map_some, exists_eq, exists_eq', Nat.reduceLT, Nat.lt_irrefl, Nat.reduceEqDiff, Nat.reduceLeDiff, Nat.zero_lt_succ, Int.toNat_natCast, Int.ofNat_lt, Int.ofNat_le, Int.natCast_inj, Bool.not_true, Bool.not_false, Bool.false_eq_true, if_false, ite_true, ite_false, reduceIte, ↓reduceIte, List.mem_cons, List.not_mem_nil, or_false, false_or, true_or, or_true, decide_true, decide_false, reduceCtorEq, false_and, and_false, and_assoc, List.length_map, not_false_eq_true, exists_false, exists_const, ge_iff_le, gt_iff_lt, gs, look, wipeE, nC, ix_row (show c < r.length by omega) (by omega)]
  · rw [sizeLine_eq]
    omega
  · intro r hr A B
    simp only [evB, evD, Sl.obj.injEq, eq_self, forall_const, Prod.mk.injEq, List.getElem?_cons_zero, List.getElem?_cons_succ, List.set_cons_zero, List.set_cons_succ, List.map_cons, List.map_nil, List.cons_append, List.nil_append, List.append_nil, List.length_cons, List.length_nil, List.replicate_succ, List.replicate_zero, Nat.reduceAdd, Nat.reduceSub, D.bl.injEq, D.int.injEq, D.str.injEq, D.tup.injEq, D.lst.injEq, D.ins.injEq, Sl.val.injEq, Sl.own.injEq, Option.some.injEq, exists_eq_left, exists_eq_left', exists_eq_right, exists_eq_right', exists_and_left, true_and, and_true, Option.bind_some, Option.map_some, exists_eq, exists_eq', Nat.reduceLT, Nat.lt_irrefl, Nat.reduceEqDiff, Nat.reduceLeDiff, Nat.zero_lt_succ, Int.toNat_natCast, Int.ofNat_lt, Int.ofNat_le, Int.natCast_inj, Bool.not_true, Bool.not_false, Bool.false_eq_true, if_false, ite_true, ite_false, reduceIte, ↓reduceIte, List.mem_cons, List.not_mem_nil, or_false, false_or, true_or, or_true, decide_true, decide_false, reduceCtorEq, false_and, and_false, and_assoc, List.length_map, not_false_eq_true, exists_false, exists_const, ge_iff_le, gt_iff_lt, gs, look, wipeE, nC, t_is_row (hb.wide r hr) w10 (hb.inRow r hr)]
def boardF (g : List (List Bool)) : List D := [.tup (g.map rowD), .tup ((dotsOf g).map dotT), .dt ((dotsOf g).map dotK) ((dotsOf g).map fun _ => .bl true)]
def boardD (g : List (List Bool)) : D := .ins 0 (boardF g)
theorem sgn_eq (b : Bool) : (decide ((⟨#[cd b]⟩ : Str) = "o")) = b := by
  cases b <;> decide +kernel
theorem tkey_dot (p : Nat × Nat) : tkeyD (dotK p) = dotT p := rfl
theorem toT_dot (p : Nat × Nat) : toTKey (dotT p) = some (dotK p) := rfl
theorem dotK_nodup {l : List (Nat × Nat)} (h : l.Nodup) : (l.map dotK).Nodup := by
  rw [List.Nodup, List.pairwise_map]
  exact List.Pairwise.imp (fun hn e => hn (dotK_inj e)) h
theorem runI_eq {cn k n : Nat} {g : FS} {ds : List D} {Q : List D → Prop} {E : XP} : runI cn k n g ds Q E = ∀ a, g ⟨fun ρ => ∃ fds, ρ[0]? = some (Sl.obj a cn fds) ∧ fds.length = k ∧ Q fds, fun d ρ => d = .non ∧ ∃ fds, ρ[0]? = some (Sl.obj a cn fds) ∧ fds.length = k ∧ Q fds, fun _ => False, fun _ => False⟩ (Sl.obj a cn [] :: (ds.map Sl.val ++ List.replicate (n - 1 - ds.length) .no)) E := rfl
theorem all_iff {P : Addr → Prop} {q : Prop} (h : ∀ a, P a ↔ q) : (∀ a, P a) ↔ q := ⟨fun z => (h 0).mp (z 0), fun z a => (h a).mpr z⟩
theorem dots_flat (g : List (List Bool)) : ((List.range g.length).flatMap fun i => ((List.range (g.getD i []).length).filter fun j => (g.getD i []).getD j false).map fun j => dotT (i, j)) = (dotsOf g).map dotT := by
  unfold dotsOf places
  rw [List.map_flatMap]
  congr 1
  funext i
  rw [List.map_map]
  rfl
theorem map_snd_true {α β : Type} (f : α → β) (l : List α) : ((l.map fun a => (f a, D.bl true)).map fun x => x.fst) = l.map f ∧ ((l.map fun a => (f a, D.bl true)).map fun x => x.snd) = l.map fun _ => D.bl true := by
  rw [List.map_map, List.map_map]
  exact ⟨rfl, rfl⟩
theorem t_Board_init {g : List (List Bool)} {t w : Nat} {Q : List D → Prop} {E : XP} (hb : Brd g t w) : m_Board___init__ [.tup (g.map rowD)] Q E ↔ Q (boardF g) := by
  unfold m_Board___init__ g_Board___init__
  have t10 := hb.t10
  have hgl := hb.tall
  simp only [evB, evD, Sl.obj.injEq, eq_self, forall_const, Prod.mk.injEq, List.getElem?_cons_zero, List.getElem?_cons_succ, List.set_cons_zero, List.set_cons_succ, List.map_cons, List.map_nil, List.cons_append, List.nil_append, List.append_nil, List.length_cons, List.length_nil, List.replicate_succ, List.replicate_zero, Nat.reduceAdd, Nat.reduceSub, D.bl.injEq, D.int.injEq, D.str.injEq, D.tup.injEq, D.lst.injEq, D.ins.injEq, Sl.val.injEq, Sl.own.injEq, Option.some.injEq, exists_eq_left, exists_eq_left', exists_eq_right, exists_eq_right', exists_and_left, true_and, and_true, Option.bind_some, Option.map_some, exists_eq, exists_eq', Nat.reduceLT, Nat.lt_irrefl, Nat.reduceEqDiff, Nat.reduceLeDiff, Nat.zero_lt_succ, Int.toNat_natCast, Int.ofNat_lt, Int.ofNat_le, Int.natCast_inj, Bool.not_true, Bool.not_false, Bool.false_eq_true, if_false, ite_true, ite_false, reduceIte, ↓reduceIte, List.mem_cons, List.not_mem_nil, or_false, false_or, true_or, or_true, decide_true, decide_false, reduceCtorEq, false_and, and_false, and_assoc, List.length_map, not_false_eq_true, exists_false, exists_const, ge_iff_le, gt_iff_lt, gs, look, wipeE, nC, runI_eq, t_are_rows hb, enum_map rowD []]
  refine all_iff fun a => ?_
  rw [lc2D_eq (fun i => List.range (g.getD i []).length) (fun i j => .tup [.int (j : Int), .str ⟨#[cd ((g.getD i []).getD j false)]⟩]) (fun i j => (g.getD i []).getD j false) (fun i j => dotT (i, j))
    (fun i => [Sl.obj a 0 [D.tup (List.map rowD g)], Sl.val (D.tup (List.map rowD g)), Sl.no, Sl.val (.int (i : Int)), Sl.val (rowD (g.getD i [])), Sl.no, Sl.no])]
  · rw [dots_flat]
    have hd := dots_le hb
    simp only [evB, evD, Sl.obj.injEq, eq_self, forall_const, Prod.mk.injEq, List.getElem?_cons_zero, List.getElem?_cons_succ, List.set_cons_zero, List.set_cons_succ, List.map_cons, List.map_nil, List.cons_append, List.nil_append, List.append_nil, List.length_cons, List.length_nil, List.replicate_succ, List.replicate_zero, Nat.reduceAdd, Nat.reduceSub, D.bl.injEq, D.int.injEq, D.str.injEq, D.tup.injEq, D.lst.injEq, D.ins.injEq, Sl.val.injEq, Sl.own.injEq, Option.some.injEq, exists_eq_left, exists_eq_left', exists_eq_right, exists_eq_right', exists_and_left, true_and, and_true, Option.bind_some, Option.map_some, exists_eq, exists_eq', Nat.reduceLT, Nat.lt_irrefl, Nat.reduceEqDiff, Nat.reduceLeDiff, Nat.zero_lt_succ, Int.toNat_natCast, Int.ofNat_lt, Int.ofNat_le, Int.natCast_inj, Bool.not_true, Bool.not_false, Bool.false_eq_true, if_false, ite_true, ite_false, reduceIte, ↓reduceIte, List.mem_cons, List.not_mem_nil, or_false, false_or, true_or, or_true, decide_true, decide_false, reduceCtorEq, false_and, and_false, and_assoc, List.length_map, not_false_eq_true, exists_false, exists_const, ge_iff_le, gt_iff_lt, gs, look, wipeE, nC, if_true]
    rw [dcD_eq dotK (fun _ => .bl true)]
    · simp only [evB, evD, Sl.obj.injEq, eq_self, forall_const, Prod.mk.injEq, List.getElem?_cons_zero, List.getElem?_cons_succ, List.set_cons_zero, List.set_cons_succ, List.map_cons, List.map_nil, List.cons_append, List.nil_append, List.append_nil, List.length_cons, List.length_nil, List.replicate_succ, List.replicate_zero, Nat.reduceAdd, Nat.reduceSub, D.bl.injEq, D.int.injEq, D.str.injEq, D.tup.injEq, D.lst.injEq, D.ins.injEq, Sl.val.injEq, Sl.own.injEq, Option.some.injEq, exists_eq_left, exists_eq_left', exists_eq_right, exists_eq_right', exists_and_left, true_and, and_true, Option.bind_some, Option.map_some, exists_eq, exists_eq', Nat.reduceLT, Nat.lt_irrefl, Nat.reduceEqDiff, Nat.reduceLeDiff, Nat.zero_lt_succ, Int.toNat_natCast, Int.ofNat_lt, Int.ofNat_le, Int.natCast_inj, Bool.not_true, Bool.not_false, Bool.false_eq_true, if_false, ite_true, ite_false, reduceIte, ↓reduceIte, List.mem_cons, List.not_mem_nil, or_false, false_or, true_or, or_true, decide_true, decide_false, reduceCtorEq, false_and, and_false, and_assoc, List.length_map, not_false_eq_true, exists_false, exists_const, ge_iff_le, gt_iff_lt, gs, look, wipeE, nC, (map_snd_true dotK (dotsOf g)).1, (map_snd_true dotK (dotsOf g)).2, boardF]
    · rw [List.length_nil, sizeLine_eq]
      omega
    · exact dotK_nodup (dots_nodup g)
    · intro p hp A B
      simp only [evB, evD, Sl.obj.injEq, eq_self, forall_const, Prod.mk.injEq, List.getElem?_cons_zero, List.getElem?_cons_succ, List.set_cons_zero, List.set_cons_succ, List.map_cons, List.map_nil, List.cons_append, List.nil_append, List.append_nil, List.length_cons, List.length_nil, List.replicate_succ, List.replicate_zero, Nat.reduceAdd, Nat.reduceSub, D.bl.injEq, D.int.injEq, D.str.injEq, D.tup.injEq, D.lst.injEq, D.ins.injEq, Sl.val.injEq, Sl.own.injEq, Option.some.injEq, exists_eq_left, exists_eq_left', exists_eq_right, exists_eq_right', exists_and_left, true_and, and_true, Option.bind_some, Option.map_some, exists_eq, exists_eq', Nat.reduceLT, Nat.lt_irrefl, Nat.reduceEqDiff, Nat.reduceLeDiff, Nat.zero_lt_succ, Int.toNat_natCast, Int.ofNat_lt, Int.ofNat_le, Int.natCast_inj, Bool.not_true, Bool.not_false, Bool.false_eq_true, if_false, ite_true, ite_false, reduceIte, ↓reduceIte, List.mem_cons, List.not_mem_nil, or_false, false_or, true_or, or_true, decide_true, decide_false, reduceCtorEq, false_and, and_false, and_assoc, List.length_map, not_false_eq_true, exists_false, exists_const, ge_iff_le, gt_iff_lt, gs, look, wipeE, nC, tkey_dot]
    · intro p hp
      exact toT_dot p
  · intro i hi
    have := brd_m hb i
    rw [List.length_range]
    omega
  · rw [List.length_nil, List.length_range, sizeLine_eq]
    omega
  · intro i hi
    rfl
  · intro i hi A B
    simp only [evB, evD, Sl.obj.injEq, eq_self, forall_const, Prod.mk.injEq, List.getElem?_cons_zero, List.getElem?_cons_succ, List.set_cons_zero, List.set_cons_succ, List.map_cons, List.map_nil, List.cons_append, List.nil_append, List.append_nil, List.length_cons, List.length_nil, List.replicate_succ, List.replicate_zero, Nat.reduceAdd, Nat.reduceSub, D.bl.injEq, D.int.injEq, D.str.injEq, D.tup.injEq, D.lst.injEq, D.ins.injEq, Sl.val.injEq, Sl.own.injEq, Option.some.injEq, exists_eq_left, exists_eq_left', exists_eq_right, exists_eq_right', exists_and_left, true_and, and_true, Option.bind_some, Option.map_some, exists_eq, exists_eq', Nat.reduceLT, Nat.lt_irrefl, Nat.reduceEqDiff, Nat.reduceLeDiff, Nat.zero_lt_succ, Int.toNat_natCast, Int.ofNat_lt, Int.ofNat_le, Int.natCast_inj, Bool.not_true, Bool.not_false, Bool.false_eq_true, if_false, ite_true, ite_false, reduceIte, ↓reduceIte, List.mem_cons, List.not_mem_nil, or_false, false_or, true_or, or_true, decide_true, decide_false, reduceCtorEq, false_and, and_false, and_assoc, List.length_map, not_false_eq_true, exists_false, exists_const, ge_iff_le, gt_iff_lt, gs, look, wipeE, nC, chars_row, enum_map (fun b => D.str ⟨#[cd b]⟩) false]
  · intro i hi j hj A B
    simp only [evB, evD, Sl.obj.injEq, eq_self, forall_const, Prod.mk.injEq, List.getElem?_cons_zero, List.getElem?_cons_succ, List.set_cons_zero, List.set_cons_succ, List.map_cons, List.map_nil, List.cons_append, List.nil_append, List.append_nil, List.length_cons, List.length_nil, List.replicate_succ, List.replicate_zero, Nat.reduceAdd, Nat.reduceSub, D.bl.injEq, D.int.injEq, D.str.injEq, D.tup.injEq, D.lst.injEq, D.ins.injEq, Sl.val.injEq, Sl.own.injEq, Option.some.injEq, exists_eq_left, exists_eq_left', exists_eq_right, exists_eq_right', exists_and_left, true_and, and_true, Option.bind_some, Option.map_some, exists_eq, exists_eq', Nat.reduceLT, Nat.lt_irrefl, Nat.reduceEqDiff, Nat.reduceLeDiff, Nat.zero_lt_succ, Int.toNat_natCast, Int.ofNat_lt, Int.ofNat_le, Int.natCast_inj, Bool.not_true, Bool.not_false, Bool.false_eq_true, if_false, ite_true, ite_false, reduceIte, ↓reduceIte, List.mem_cons, List.not_mem_nil, or_false, false_or, true_or, or_true, decide_true, decide_false, reduceCtorEq, false_and, and_false, and_assoc, List.length_map, not_false_eq_true, exists_false, exists_const, ge_iff_le, gt_iff_lt, gs, look, wipeE, nC, sgn_eq]
    cases (g.getD i []).getD j false
    · simp only [evB, evD, Sl.obj.injEq, eq_self, forall_const, Prod.mk.injEq, List.getElem?_cons_zero, List.getElem?_cons_succ, List.set_cons_zero, List.set_cons_succ, List.map_cons, List.map_nil, List.cons_append, List.nil_append, List.append_nil, List.length_cons, List.length_nil, List.replicate_succ, List.replicate_zero, Nat.reduceAdd, Nat.reduceSub, D.bl.injEq, D.int.injEq, D.str.injEq, D.tup.injEq, D.lst.injEq, D.ins.injEq, Sl.val.injEq, Sl.own.injEq, Option.some.injEq, exists_eq_left, exists_eq_left', exists_eq_right, exists_eq_right', exists_and_left, true_and, and_true, Option.bind_some, Option.map_some, exists_eq, exists_eq', Nat.reduceLT, Nat.lt_irrefl, Nat.reduceEqDiff, Nat.reduceLeDiff, Nat.zero_lt_succ, Int.toNat_natCast, Int.ofNat_lt, Int.ofNat_le, Int.natCast_inj, Bool.not_true, Bool.not_false, Bool.false_eq_true, if_false, ite_true, ite_false, reduceIte, ↓reduceIte, List.mem_cons, List.not_mem_nil, or_false, false_or, true_or, or_true, decide_true, decide_false, reduceCtorEq, false_and, and_false, and_assoc, List.length_map, not_false_eq_true, exists_false, exists_const, ge_iff_le, gt_iff_lt, gs, look, wipeE, nC, if_true]
    · simp only [evB, evD, Sl.obj.injEq, eq_self, forall_const, Prod.mk.injEq, List.getElem?_cons_zero, List.getElem?_cons_succ, List.set_cons_zero, List.set_cons_succ, List.map_cons, List.map_nil, List.cons_append, List.nil_append, List.append_nil, List.length_cons, List.length_nil, List.replicate_succ, List.replicate_zero, Nat.reduceAdd, Nat.reduceSub, D.bl.injEq, D.int.injEq, D.str.injEq, D.tup.injEq, D.lst.injEq, D.ins.injEq, Sl.val.injEq, Sl.own.injEq, Option.some.injEq, exists_eq_left, exists_eq_left', exists_eq_right, exists_eq_right', exists_and_left, true_and, and_true, Option.bind_some, Option.map_some, exists_eq, exists_eq', Nat.reduceLT, Nat.lt_irrefl, Nat.reduceEqDiff, Nat.reduceLeDiff, Nat.zero_lt_succ, Int.toNat_natCast, Int.ofNat_lt, Int.ofNat_le, Int.natCast_inj, Bool.not_true, Bool.not_false, Bool.false_eq_true, if_false, ite_true, ite_false, reduceIte, ↓reduceIte, List.mem_cons, List.not_mem_nil, or_false, false_or, true_or, or_true, decide_true, decide_false, reduceCtorEq, false_and, and_false, and_assoc, List.length_map, not_false_eq_true, exists_false, exists_const, ge_iff_le, gt_iff_lt, gs, look, wipeE, nC, if_true]
      rfl
theorem fld_rows (g : List (List Bool)) : opFld ix_own_rows (boardD g) = some (.tup (g.map rowD)) := rfl
theorem fld_at (g : List (List Bool)) : opFld ix_own_at (boardD g) = some (.dt ((dotsOf g).map dotK) ((dotsOf g).map fun _ => .bl true)) := rfl
section
variable {g g' : List (List Bool)} {t w t' w' : Nat} {Q : D → Prop} {E : XP}
theorem t_Board_height (hb : Brd g t w) : m_Board_height [boardD g] Q E ↔ Q (.int (t : Int)) := by
  unfold m_Board_height g_Board_height
  simp only [evB, evD, Sl.obj.injEq, eq_self, forall_const, Prod.mk.injEq, List.getElem?_cons_zero, List.getElem?_cons_succ, List.set_cons_zero, List.set_cons_succ, List.map_cons, List.map_nil, List.cons_append, List.nil_append, List.append_nil, List.length_cons, List.length_nil, List.replicate_succ, List.replicate_zero, Nat.reduceAdd, Nat.reduceSub, D.bl.injEq, D.int.injEq, D.str.injEq, D.tup.injEq, D.lst.injEq, D.ins.injEq, Sl.val.injEq, Sl.own.injEq, Option.some.injEq, exists_eq_left, exists_eq_left', exists_eq_right, exists_eq_right', exists_and_left, true_and, and_true, Option.bind_some, Option.map_some, exists_eq, exists_eq', Nat.reduceLT, Nat.lt_irrefl, Nat.reduceEqDiff, Nat.reduceLeDiff, Nat.zero_lt_succ, Int.toNat_natCast, Int.ofNat_lt, Int.ofNat_le, Int.natCast_inj, Bool.not_true, Bool.not_false, Bool.false_eq_true, if_false, ite_true, ite_false, reduceIte, ↓reduceIte, List.mem_cons, List.not_mem_nil, or_false, false_or, true_or, or_true, decide_true, decide_false, reduceCtorEq, false_and, and_false, and_assoc, List.length_map, not_false_eq_true, exists_false, exists_const, ge_iff_le, gt_iff_lt, gs, look, wipeE, nC, fld_rows, hb.tall]
theorem row_first (hb : Brd g t w) : ∃ r0, atI (g.map rowD) 0 = some (rowD r0) ∧ (rowS r0).length = w := by
  obtain ⟨r0, rest, eg, hr0⟩ := rowsV_first hb
  exact ⟨r0, by rw [eg]; exact at_0, by rw [rowS_len, hr0]⟩
theorem t_Board_width (hb : Brd g t w) : m_Board_width [boardD g] Q E ↔ Q (.int (w : Int)) := by
  unfold m_Board_width g_Board_width
  have w10 := hb.w10
  obtain ⟨r0, h1, h2⟩ := row_first hb
  simp only [evB, evD, Sl.obj.injEq, eq_self, forall_const, Prod.mk.injEq, List.getElem?_cons_zero, List.getElem?_cons_succ, List.set_cons_zero, List.set_cons_succ, List.map_cons, List.map_nil, List.cons_append, List.nil_append, List.append_nil, List.length_cons, List.length_nil, List.replicate_succ, List.replicate_zero, Nat.reduceAdd, Nat.reduceSub, D.bl.injEq, D.int.injEq, D.str.injEq, D.tup.injEq, D.lst.injEq, D.ins.injEq, Sl.val.injEq, Sl.own.injEq, Option.some.injEq, exists_eq_left, exists_eq_left', exists_eq_right, exists_eq_right', exists_and_left, true_and, and_true, Option.bind_some, Option.map_some, exists_eq, exists_eq', Nat.reduceLT, Nat.lt_irrefl, Nat.reduceEqDiff, Nat.reduceLeDiff, Nat.zero_lt_succ, Int.toNat_natCast, Int.ofNat_lt, Int.ofNat_le, Int.natCast_inj, Bool.not_true, Bool.not_false, Bool.false_eq_true, if_false, ite_true, ite_false, reduceIte, ↓reduceIte, List.mem_cons, List.not_mem_nil, or_false, false_or, true_or, or_true, decide_true, decide_false, reduceCtorEq, false_and, and_false, and_assoc, List.length_map, not_false_eq_true, exists_false, exists_const, ge_iff_le, gt_iff_lt, gs, look, wipeE, nC, fld_rows, h1, h2, small (show w ≤ 1000000 by omega)]
theorem memK_dot {p : Nat × Nat} {l : List (Nat × Nat)} : memK (dotK p) (l.map dotK) = decide (p ∈ l) := by
  rw [Bool.eq_iff_iff, memK_iff, decide_eq_true_eq]
  exact ⟨fun h => by
    obtain ⟨q, hq, e⟩ := List.mem_map.mp h
    rw [← dotK_inj e]
    exact hq, fun h => List.mem_map.mpr ⟨p, h, rfl⟩⟩
theorem inK_dot {p : Nat × Nat} {l : List (Nat × Nat)} {vs : List D} : opInK (dotT p) (.dt (l.map dotK) vs) = some (.bl (decide (p ∈ l))) := by
  show some (D.bl (memK (dotK p) (l.map dotK))) = _
  rw [memK_dot]
theorem t_Board_contains {p : Nat × Nat} : m_Board___contains__ [boardD g, dotT p] Q E ↔ Q (.bl (decide (p ∈ dotsOf g))) := by
  unfold m_Board___contains__ g_Board___contains__
  have e : dotT p = .tup [.int (p.1 : Int), .int (p.2 : Int)] := rfl
  have h := @inK_dot p (dotsOf g)
  rw [e] at h ⊢
  simp only [evB, evD, Sl.obj.injEq, eq_self, forall_const, Prod.mk.injEq, List.getElem?_cons_zero, List.getElem?_cons_succ, List.set_cons_zero, List.set_cons_succ, List.map_cons, List.map_nil, List.cons_append, List.nil_append, List.append_nil, List.length_cons, List.length_nil, List.replicate_succ, List.replicate_zero, Nat.reduceAdd, Nat.reduceSub, D.bl.injEq, D.int.injEq, D.str.injEq, D.tup.injEq, D.lst.injEq, D.ins.injEq, Sl.val.injEq, Sl.own.injEq, Option.some.injEq, exists_eq_left, exists_eq_left', exists_eq_right, exists_eq_right', exists_and_left, true_and, and_true, Option.bind_some, Option.map_some, exists_eq, exists_eq', Nat.reduceLT, Nat.lt_irrefl, Nat.reduceEqDiff, Nat.reduceLeDiff, Nat.zero_lt_succ, Int.toNat_natCast, Int.ofNat_lt, Int.ofNat_le, Int.natCast_inj, Bool.not_true, Bool.not_false, Bool.false_eq_true, if_false, ite_true, ite_false, reduceIte, ↓reduceIte, List.mem_cons, List.not_mem_nil, or_false, false_or, true_or, or_true, decide_true, decide_false, reduceCtorEq, false_and, and_false, and_assoc, List.length_map, not_false_eq_true, exists_false, exists_const, ge_iff_le, gt_iff_lt, gs, look, wipeE, nC, fld_at, t_is_pair (ds := [.int (p.1 : Int), .int (p.2 : Int)]) (show 2 ≤ sizeLine by rw [sizeLine_eq]; omega), lcD, t_is_integer, Int.natCast_nonneg, opAll, toBools, List.all_cons, List.all_nil, id, Bool.and_self, h]
theorem isC_board {n k : Nat} (h : 0 < n) : opIsC n k (boardD g) = some (.bl (decide (0 = k))) := isC_ins h
theorem row_ok (r : List Bool) : PyData.strOk (rowS r) = true := by
  show (rowS r).cps.all (· < 0x110000) = true
  rw [← Array.all_toList, rowS_list, List.all_eq_true]
  intro c hc
  obtain ⟨b, _, rfl⟩ := List.mem_map.mp hc
  cases b <;> decide
theorem clean_rows (g : List (List Bool)) : clean 1 (.tup (g.map rowD)) = true := by
  show (g.map rowD).all (clean 0) = true
  rw [List.all_eq_true]
  intro d hd
  obtain ⟨r, _, rfl⟩ := List.mem_map.mp hd
  exact row_ok r
theorem rowS_inj {r s : List Bool} (h : rowS r = rowS s) : r = s := by
  have e := congrArg (fun z : Str => z.cps.toList) h
  simp only [rowS_list] at e
  refine List.map_inj_right (fun a b => ?_) |>.mp e
  cases a <;> cases b <;> decide
theorem rows_inj {g g' : List (List Bool)} (h : g.map rowD = g'.map rowD) : g = g' := by
  refine List.map_inj_right (fun a b e => ?_) |>.mp h
  injection e with e
  exact rowS_inj e
open Classical in
theorem eq_rows : opEq (.tup (g.map rowD)) (.tup (g'.map rowD)) = some (.bl (decide (g = g'))) := by
  unfold opEq
  rw [eq_clean (.inl ⟨_, rfl⟩) (clean_rows g) (clean_rows g') (by decide) (by decide)]
  have h : (D.tup (g.map rowD) = D.tup (g'.map rowD)) ↔ g = g' := ⟨fun e => rows_inj (D.tup.inj e), fun e => by rw [e]⟩
  show some (D.bl _) = _
  congr 2
  rw [Bool.eq_iff_iff, decide_eq_true_eq, decide_eq_true_eq]
  exact h
theorem t_Board_eq : m_Board___eq__ [boardD g, boardD g'] Q E ↔ Q (.bl (decide (g = g'))) := by
  unfold m_Board___eq__ g_Board___eq__
  simp only [evB, evD, Sl.obj.injEq, eq_self, forall_const, Prod.mk.injEq, List.getElem?_cons_zero, List.getElem?_cons_succ, List.set_cons_zero, List.set_cons_succ, List.map_cons, List.map_nil, List.cons_append, List.nil_append, List.append_nil, List.length_cons, List.length_nil, List.replicate_succ, List.replicate_zero, Nat.reduceAdd, Nat.reduceSub, D.bl.injEq, D.int.injEq, D.str.injEq, D.tup.injEq, D.lst.injEq, D.ins.injEq, Sl.val.injEq, Sl.own.injEq, Option.some.injEq, exists_eq_left, exists_eq_left', exists_eq_right, exists_eq_right', exists_and_left, true_and, and_true, Option.bind_some, Option.map_some, exists_eq, exists_eq', Nat.reduceLT, Nat.lt_irrefl, Nat.reduceEqDiff, Nat.reduceLeDiff, Nat.zero_lt_succ, Int.toNat_natCast, Int.ofNat_lt, Int.ofNat_le, Int.natCast_inj, Bool.not_true, Bool.not_false, Bool.false_eq_true, if_false, ite_true, ite_false, reduceIte, ↓reduceIte, List.mem_cons, List.not_mem_nil, or_false, false_or, true_or, or_true, decide_true, decide_false, reduceCtorEq, false_and, and_false, and_assoc, List.length_map, not_false_eq_true, exists_false, exists_const, ge_iff_le, gt_iff_lt, gs, look, wipeE, nC, fld_rows, isC_board, eq_rows, Nat.zero_lt_succ]
theorem join_rowX {bs : List Bool} (h : bs.length ≤ 100) : ((toStrs (bs.map fun b => .str ⟨#[cd b]⟩)).bind fun ys => if (ys.map (·.length)).sum + ys.length * ("" : Str).length ≤ 16777216 then some (D.str (Txt.join "" ys)) else none) = some (rowD bs) := by
  rw [toStrs_map]
  have e : (bs.map fun b => (⟨#[cd b]⟩ : Str)) = (bs.map fun b => [cd b]).map SX.S := by
    rw [List.map_map]
    rfl
  rw [e]
  show (if _ then _ else _) = _
  rw [str_e, join_signs, sum_ones]
  rw [if_pos (by
    have : (SX.S []).length = 0 := rfl
    rw [this]
    omega)]
theorem join_rowL {bs : List Bool} (h : bs.length ≤ 100) : opJoin "" (.lst (bs.map fun b => .str ⟨#[cd b]⟩)) = some (rowD bs) := join_rowX h
theorem board_is {c : Nat} {ds : List D} : (boardD g = D.ins c ds) ↔ (0 = c ∧ boardF g = ds) := by
  unfold boardD
  rw [D.ins.injEq]
theorem eqW_board {n : Nat} {tab : Tab} {y : D} {Q : D → Prop} {E : XP} : eqW n tab (boardD g) y Q E = ∃ m t, look tab 0 = some (2, m) ∧ tyC y = some t ∧ goodTy n t = true ∧ 0 < n ∧ m [boardD g, y] (fun d => ∃ b, d = .bl b ∧ Q (.bl b)) noX := rfl
theorem ty_board : tyC (boardD g) = some (.inr 0) := rfl
theorem t_are_dots {l : List (Nat × Nat)} (hl : l.length ≤ 1000) (h : l.Pairwise ltN) (hs : ∀ p ∈ l, p ∈ dotsOf g) : m_are_dots [boardD g, .tup (l.map dotT)] Q E ↔ Q (.bl true) := by
  unfold m_are_dots g_are_dots
  simp only [evB, evD, Sl.obj.injEq, eq_self, forall_const, Prod.mk.injEq, List.getElem?_cons_zero, List.getElem?_cons_succ, List.set_cons_zero, List.set_cons_succ, List.map_cons, List.map_nil, List.cons_append, List.nil_append, List.append_nil, List.length_cons, List.length_nil, List.replicate_succ, List.replicate_zero, Nat.reduceAdd, Nat.reduceSub, D.bl.injEq, D.int.injEq, D.str.injEq, D.tup.injEq, D.lst.injEq, D.ins.injEq, Sl.val.injEq, Sl.own.injEq, Option.some.injEq, exists_eq_left, exists_eq_left', exists_eq_right, exists_eq_right', exists_and_left, true_and, and_true, Option.bind_some, Option.map_some, exists_eq, exists_eq', Nat.reduceLT, Nat.lt_irrefl, Nat.reduceEqDiff, Nat.reduceLeDiff, Nat.zero_lt_succ, Int.toNat_natCast, Int.ofNat_lt, Int.ofNat_le, Int.natCast_inj, Bool.not_true, Bool.not_false, Bool.false_eq_true, if_false, ite_true, ite_false, reduceIte, ↓reduceIte, List.mem_cons, List.not_mem_nil, or_false, false_or, true_or, or_true, decide_true, decide_false, reduceCtorEq, false_and, and_false, and_assoc, List.length_map, not_false_eq_true, exists_false, exists_const, ge_iff_le, gt_iff_lt, gs, look, wipeE, nC, if_true]
  rw [lcD_map (fun _ => .bl true)]
  · simp only [evB, evD, Sl.obj.injEq, eq_self, forall_const, Prod.mk.injEq, List.getElem?_cons_zero, List.getElem?_cons_succ, List.set_cons_zero, List.set_cons_succ, List.map_cons, List.map_nil, List.cons_append, List.nil_append, List.append_nil, List.length_cons, List.length_nil, List.replicate_succ, List.replicate_zero, Nat.reduceAdd, Nat.reduceSub, D.bl.injEq, D.int.injEq, D.str.injEq, D.tup.injEq, D.lst.injEq, D.ins.injEq, Sl.val.injEq, Sl.own.injEq, Option.some.injEq, exists_eq_left, exists_eq_left', exists_eq_right, exists_eq_right', exists_and_left, true_and, and_true, Option.bind_some, Option.map_some, exists_eq, exists_eq', Nat.reduceLT, Nat.lt_irrefl, Nat.reduceEqDiff, Nat.reduceLeDiff, Nat.zero_lt_succ, Int.toNat_natCast, Int.ofNat_lt, Int.ofNat_le, Int.natCast_inj, Bool.not_true, Bool.not_false, Bool.false_eq_true, if_false, ite_true, ite_false, reduceIte, ↓reduceIte, List.mem_cons, List.not_mem_nil, or_false, false_or, true_or, or_true, decide_true, decide_false, reduceCtorEq, false_and, and_false, and_assoc, List.length_map, not_false_eq_true, exists_false, exists_const, ge_iff_le, gt_iff_lt, gs, look, wipeE, nC, List.all_eq_true.mpr fun p hp => rfl, t_is_rising2 hl h]
  · rw [sizeLine_eq]
    omega
  · intro p hp A B
    simp only [evB, evD, Sl.obj.injEq, eq_self, forall_const, Prod.mk.injEq, List.getElem?_cons_zero, List.getElem?_cons_succ, List.set_cons_zero, List.set_cons_succ, List.map_cons, List.map_nil, List.cons_append, List.nil_append, List.append_nil, List.length_cons, List.length_nil, List.replicate_succ, List.replicate_zero, Nat.reduceAdd, Nat.reduceSub, D.bl.injEq, D.int.injEq, D.str.injEq, D.tup.injEq, D.lst.injEq, D.ins.injEq, Sl.val.injEq, Sl.own.injEq, Option.some.injEq, exists_eq_left, exists_eq_left', exists_eq_right, exists_eq_right', exists_and_left, true_and, and_true, Option.bind_some, Option.map_some, exists_eq, exists_eq', Nat.reduceLT, Nat.lt_irrefl, Nat.reduceEqDiff, Nat.reduceLeDiff, Nat.zero_lt_succ, Int.toNat_natCast, Int.ofNat_lt, Int.ofNat_le, Int.natCast_inj, Bool.not_true, Bool.not_false, Bool.false_eq_true, if_false, ite_true, ite_false, reduceIte, ↓reduceIte, List.mem_cons, List.not_mem_nil, or_false, false_or, true_or, or_true, decide_true, decide_false, reduceCtorEq, false_and, and_false, and_assoc, List.length_map, not_false_eq_true, exists_false, exists_const, ge_iff_le, gt_iff_lt, gs, look, wipeE, nC, board_is, t_Board_contains, hs p hp, Bool.false_xor]
end
def lits (g : List (List Bool)) (f : Nat × Nat → Bool) : List (Nat × Nat) := (dotsOf g).filter f
def picF (g : List (List Bool)) (f : Nat × Nat → Bool) : List D := [boardD g, .tup ((lits g f).map dotT), .dt ((lits g f).map dotK) ((lits g f).map fun _ => .bl true)]
def picD (g : List (List Bool)) (f : Nat × Nat → Bool) : D := .ins 1 (picF g f)
section
variable {g g' : List (List Bool)} {t w t' w' : Nat} {Q : D → Prop} {E : XP} {f f' : Nat × Nat → Bool}
theorem dots_sorted (g : List (List Bool)) : (dotsOf g).Pairwise ltN := places_sorted _ _ _
theorem lits_sorted : (lits g f).Pairwise ltN := (dots_sorted g).filter f
theorem lits_nodup : (lits g f).Nodup := (dots_nodup g).filter f
theorem lits_sub {p : Nat × Nat} (h : p ∈ lits g f) : p ∈ dotsOf g := (List.mem_filter.mp h).1
theorem lits_len (hb : Brd g t w) : (lits g f).length ≤ 100 := Nat.le_trans (List.length_filter_le _ _) (dots_le hb)
theorem fldP_board : opFld ix_own_board (picD g f) = some (boardD g) := rfl
theorem fldP_dots : opFld ix_own_dots (picD g f) = some (.tup ((lits g f).map dotT)) := rfl
theorem t_Picture_init {Q : List D → Prop} (hb : Brd g t w) : m_Picture___init__ [boardD g, .tup ((lits g f).map dotT)] Q E ↔ Q (picF g f) := by
  unfold m_Picture___init__ g_Picture___init__
  have hl := lits_len (f := f) hb
  simp only [evB, evD, Sl.obj.injEq, eq_self, forall_const, Prod.mk.injEq, List.getElem?_cons_zero, List.getElem?_cons_succ, List.set_cons_zero, List.set_cons_succ, List.map_cons, List.map_nil, List.cons_append, List.nil_append, List.append_nil, List.length_cons, List.length_nil, List.replicate_succ, List.replicate_zero, Nat.reduceAdd, Nat.reduceSub, D.bl.injEq, D.int.injEq, D.str.injEq, D.tup.injEq, D.lst.injEq, D.ins.injEq, Sl.val.injEq, Sl.own.injEq, Option.some.injEq, exists_eq_left, exists_eq_left', exists_eq_right, exists_eq_right', exists_and_left, true_and, and_true, Option.bind_some, Option.map_some, exists_eq, exists_eq', Nat.reduceLT, Nat.lt_irrefl, Nat.reduceEqDiff, Nat.reduceLeDiff, Nat.zero_lt_succ, Int.toNat_natCast, Int.ofNat_lt, Int.ofNat_le, Int.natCast_inj, Bool.not_true, Bool.not_false, Bool.false_eq_true, if_false, ite_true, ite_false, reduceIte, ↓reduceIte, List.mem_cons, List.not_mem_nil, or_false, false_or, true_or, or_true, decide_true, decide_false, reduceCtorEq, false_and, and_false, and_assoc, List.length_map, not_false_eq_true, exists_false, exists_const, ge_iff_le, gt_iff_lt, gs, look, wipeE, nC, runI_eq, t_are_dots (show (lits g f).length ≤ 1000 by omega) lits_sorted fun p => lits_sub]
  refine all_iff fun a => ?_
  rw [dcD_eq dotK (fun _ => .bl true)]
  · simp only [evB, evD, Sl.obj.injEq, eq_self, forall_const, Prod.mk.injEq, List.getElem?_cons_zero, List.getElem?_cons_succ, List.set_cons_zero, List.set_cons_succ, List.map_cons, List.map_nil, List.cons_append, List.nil_append, List.append_nil, List.length_cons, List.length_nil, List.replicate_succ, List.replicate_zero, Nat.reduceAdd, Nat.reduceSub, D.bl.injEq, D.int.injEq, D.str.injEq, D.tup.injEq, D.lst.injEq, D.ins.injEq, Sl.val.injEq, Sl.own.injEq, Option.some.injEq, exists_eq_left, exists_eq_left', exists_eq_right, exists_eq_right', exists_and_left, true_and, and_true, Option.bind_some, Option.map_some, exists_eq, exists_eq', Nat.reduceLT, Nat.lt_irrefl, Nat.reduceEqDiff, Nat.reduceLeDiff, Nat.zero_lt_succ, Int.toNat_natCast, Int.ofNat_lt, Int.ofNat_le, Int.natCast_inj, Bool.not_true, Bool.not_false, Bool.false_eq_true, if_false, ite_true, ite_false, reduceIte, ↓reduceIte, List.mem_cons, List.not_mem_nil, or_false, false_or, true_or, or_true, decide_true, decide_false, reduceCtorEq, false_and, and_false, and_assoc, List.length_map, not_false_eq_true, exists_false, exists_const, ge_iff_le, gt_iff_lt, gs, look, wipeE, nC, (map_snd_true dotK (lits g f)).1, (map_snd_true dotK (lits g f)).2, picF]
  · rw [List.length_nil, sizeLine_eq]
    omega
  · exact dotK_nodup lits_nodup
  · intro p hp A B
    simp only [evB, evD, Sl.obj.injEq, eq_self, forall_const, Prod.mk.injEq, List.getElem?_cons_zero, List.getElem?_cons_succ, List.set_cons_zero, List.set_cons_succ, List.map_cons, List.map_nil, List.cons_append, List.nil_append, List.append_nil, List.length_cons, List.length_nil, List.replicate_succ, List.replicate_zero, Nat.reduceAdd, Nat.reduceSub, D.bl.injEq, D.int.injEq, D.str.injEq, D.tup.injEq, D.lst.injEq, D.ins.injEq, Sl.val.injEq, Sl.own.injEq, Option.some.injEq, exists_eq_left, exists_eq_left', exists_eq_right, exists_eq_right', exists_and_left, true_and, and_true, Option.bind_some, Option.map_some, exists_eq, exists_eq', Nat.reduceLT, Nat.lt_irrefl, Nat.reduceEqDiff, Nat.reduceLeDiff, Nat.zero_lt_succ, Int.toNat_natCast, Int.ofNat_lt, Int.ofNat_le, Int.natCast_inj, Bool.not_true, Bool.not_false, Bool.false_eq_true, if_false, ite_true, ite_false, reduceIte, ↓reduceIte, List.mem_cons, List.not_mem_nil, or_false, false_or, true_or, or_true, decide_true, decide_false, reduceCtorEq, false_and, and_false, and_assoc, List.length_map, not_false_eq_true, exists_false, exists_const, ge_iff_le, gt_iff_lt, gs, look, wipeE, nC, tkey_dot]
  · intro p hp
    exact toT_dot p
theorem clean_dots (l : List (Nat × Nat)) : clean 2 (.tup (l.map dotT)) = true := by
  show (l.map dotT).all (clean 1) = true
  rw [List.all_eq_true]
  intro d hd
  obtain ⟨p, _, rfl⟩ := List.mem_map.mp hd
  rfl
theorem dotT_inj {p q : Nat × Nat} (h : dotT p = dotT q) : p = q := by
  have e := congrArg toTKey h
  rw [toT_dot, toT_dot] at e
  exact dotK_inj (Option.some.inj e)
theorem dots_inj {l k : List (Nat × Nat)} (h : l.map dotT = k.map dotT) : l = k := List.map_inj_right (fun a b e => dotT_inj e) |>.mp h
open Classical in
theorem eq_dots {l k : List (Nat × Nat)} : opEq (.tup (l.map dotT)) (.tup (k.map dotT)) = some (.bl (decide (l = k))) := by
  unfold opEq
  rw [eq_clean (.inl ⟨_, rfl⟩) (clean_dots l) (clean_dots k) (by decide) (by decide)]
  show some (D.bl _) = _
  congr 2
  rw [Bool.eq_iff_iff, decide_eq_true_eq, decide_eq_true_eq]
  exact ⟨fun e => dots_inj (D.tup.inj e), fun e => by rw [e]⟩
theorem isC_pic {n k : Nat} (h : 1 < n) : opIsC n k (picD g f) = some (.bl (decide (1 = k))) := isC_ins h
theorem t_Picture_eq : m_Picture___eq__ [picD g f, picD g' f'] Q E ↔ Q (.bl (decide (g = g') && decide (lits g f = lits g' f'))) := by
  unfold m_Picture___eq__ g_Picture___eq__
  simp only [evB, evD, Sl.obj.injEq, eq_self, forall_const, Prod.mk.injEq, List.getElem?_cons_zero, List.getElem?_cons_succ, List.set_cons_zero, List.set_cons_succ, List.map_cons, List.map_nil, List.cons_append, List.nil_append, List.append_nil, List.length_cons, List.length_nil, List.replicate_succ, List.replicate_zero, Nat.reduceAdd, Nat.reduceSub, D.bl.injEq, D.int.injEq, D.str.injEq, D.tup.injEq, D.lst.injEq, D.ins.injEq, Sl.val.injEq, Sl.own.injEq, Option.some.injEq, exists_eq_left, exists_eq_left', exists_eq_right, exists_eq_right', exists_and_left, true_and, and_true, Option.bind_some, Option.map_some, exists_eq, exists_eq', Nat.reduceLT, Nat.lt_irrefl, Nat.reduceEqDiff, Nat.reduceLeDiff, Nat.zero_lt_succ, Int.toNat_natCast, Int.ofNat_lt, Int.ofNat_le, Int.natCast_inj, Bool.not_true, Bool.not_false, Bool.false_eq_true, if_false, ite_true, ite_false, reduceIte, ↓reduceIte, List.mem_cons, List.not_mem_nil, or_false, false_or, true_or, or_true, decide_true, decide_false, reduceCtorEq, false_and, and_false, and_assoc, List.length_map, not_false_eq_true, exists_false, exists_const, ge_iff_le, gt_iff_lt, gs, look, wipeE, nC, isC_pic (show 1 < nC by decide), fldP_board, fldP_dots, eqW_board, ty_board, t_Board_eq, eq_dots, goodTy]
  by_cases h : g = g' <;> simp [h]
end
abbrev Wire := Bool × Nat
def wordS (b : Bool) : Str := if b = true then "row" else "column"
def wireK (q : Wire) : List Key := [.inr (wordS q.1), .inl (q.2 : Int)]
def wireT (q : Wire) : D := .tup [.str (wordS q.1), .int (q.2 : Int)]
def nums (n : Nat) (r : Nat → Bool) : List Nat := (List.range n).filter r
def wiresQ (t w : Nat) (r c : Nat → Bool) : List Wire := (nums w c).map (fun n => (false, n)) ++ (nums t r).map fun n => (true, n)
def deadF (g : List (List Bool)) (t w : Nat) (r c : Nat → Bool) : List D := [boardD g, .tup (natsD (nums t r)), .tup (natsD (nums w c)), .dt ((wiresQ t w r c).map wireK) ((wiresQ t w r c).map fun _ => .bl true)]
def deadD (g : List (List Bool)) (t w : Nat) (r c : Nat → Bool) : D := .ins 2 (deadF g t w r c)
section
variable {g g' : List (List Bool)} {t w t' w' : Nat} {Q : D → Prop} {E : XP} {f f' : Nat × Nat → Bool} {r c r' c' : Nat → Bool}
theorem nums_up (n : Nat) : (nums n r).Pairwise (· < ·) := List.pairwise_lt_range.filter r
theorem nums_nodup (n : Nat) : (nums n r).Nodup := List.nodup_range.filter r
theorem nums_len (n : Nat) : (nums n r).length ≤ n := Nat.le_trans (List.length_filter_le _ _) (by rw [List.length_range]; exact Nat.le_refl n)
theorem mem_nums {n i : Nat} : i ∈ nums n r ↔ i < n ∧ r i = true := by
  unfold nums
  rw [List.mem_filter, List.mem_range]
theorem wires_nodup : (wiresQ t w r c).Nodup := by
  unfold wiresQ
  refine List.nodup_append.mpr ⟨?_, ?_, fun a ha b hb e => ?_⟩
  · rw [List.Nodup, List.pairwise_map]
    exact (nums_nodup w).imp fun h e => h (Prod.mk.inj e).2
  · rw [List.Nodup, List.pairwise_map]
    exact (nums_nodup t).imp fun h e => h (Prod.mk.inj e).2
  · obtain ⟨x, _, rfl⟩ := List.mem_map.mp ha
    obtain ⟨y, _, rfl⟩ := List.mem_map.mp hb
    cases e
theorem wires_len : (wiresQ t w r c).length ≤ w + t := by
  unfold wiresQ
  rw [List.length_append, List.length_map, List.length_map]
  exact Nat.add_le_add (nums_len w) (nums_len t)
theorem word_inj {a b : Bool} (h : wordS a = wordS b) : a = b := by
  cases a <;> cases b <;> first | rfl | exact absurd h (by decide +kernel)
theorem wireK_inj {p q : Wire} (h : wireK p = wireK q) : p = q := by
  obtain ⟨a, n⟩ := p
  obtain ⟨b, m⟩ := q
  unfold wireK at h
  injection h with h1 h2
  injection h2 with h2 _
  injection h1 with h1
  injection h2 with h2
  have k1 : a = b := word_inj h1
  have k2 : n = m := by
    have h2 : (n : Int) = (m : Int) := h2
    omega
  rw [k1, k2]
theorem wireK_nodup {l : List Wire} (h : l.Nodup) : (l.map wireK).Nodup := by
  rw [List.Nodup, List.pairwise_map]
  exact List.Pairwise.imp (fun hn e => hn (wireK_inj e)) h
theorem tkey_wire (q : Wire) : tkeyD (wireK q) = wireT q := rfl
theorem toT_wire (q : Wire) : toTKey (wireT q) = some (wireK q) := rfl
theorem keys_wires (l : List Wire) : (l.map wireK).map tkeyD = l.map wireT := by
  rw [List.map_map]
  rfl
theorem fldD_board : opFld ix_own_board (deadD g t w r c) = some (boardD g) := rfl
theorem fldD_wires : opFld ix_own_wires (deadD g t w r c) = some (.dt ((wiresQ t w r c).map wireK) ((wiresQ t w r c).map fun _ => .bl true)) := rfl
theorem dead_is {k : Nat} {ds : List D} : (deadD g t w r c = D.ins k ds) ↔ (2 = k ∧ deadF g t w r c = ds) := by
  unfold deadD
  rw [D.ins.injEq]
theorem isC_dead {n k : Nat} (h : 2 < n) : opIsC n k (deadD g t w r c) = some (.bl (decide (2 = k))) := isC_ins h
theorem t_named_wires {ns ms : List Nat} (h1 : ns.length ≤ 100) (h2 : ms.length ≤ 100) : m_named_wires [.tup (natsD ns), .tup (natsD ms)] Q E ↔ Q (.lst ((ms.map (fun n => ((false, n) : Wire)) ++ ns.map fun n => ((true, n) : Wire)).map wireT)) := by
  unfold m_named_wires g_named_wires natsD
  simp only [evB, evD, Sl.obj.injEq, eq_self, forall_const, Prod.mk.injEq, List.getElem?_cons_zero, List.getElem?_cons_succ, List.set_cons_zero, List.set_cons_succ, List.map_cons, List.map_nil, List.cons_append, List.nil_append, List.append_nil, List.length_cons, List.length_nil, List.replicate_succ, List.replicate_zero, Nat.reduceAdd, Nat.reduceSub, D.bl.injEq, D.int.injEq, D.str.injEq, D.tup.injEq, D.lst.injEq, D.ins.injEq, Sl.val.injEq, Sl.own.injEq, Option.some.injEq, exists_eq_left, exists_eq_left', exists_eq_right, exists_eq_right', exists_and_left, true_and, and_true, Option.bind_some, Option.map_some, exists_eq, exists_eq', Nat.reduceLT, Nat.lt_irrefl, Nat.reduceEqDiff, Nat.reduceLeDiff, Nat.zero_lt_succ, Int.toNat_natCast, Int.ofNat_lt, Int.ofNat_le, Int.natCast_inj, Bool.not_true, Bool.not_false, Bool.false_eq_true, if_false, ite_true, ite_false, reduceIte, ↓reduceIte, List.mem_cons, List.not_mem_nil, or_false, false_or, true_or, or_true, decide_true, decide_false, reduceCtorEq, false_and, and_false, and_assoc, List.length_map, not_false_eq_true, exists_false, exists_const, ge_iff_le, gt_iff_lt, gs, look, wipeE, nC, if_true]
  rw [lcD_map (fun (n : Nat) => wireT (false, n))]
  · simp only [evB, evD, Sl.obj.injEq, eq_self, forall_const, Prod.mk.injEq, List.getElem?_cons_zero, List.getElem?_cons_succ, List.set_cons_zero, List.set_cons_succ, List.map_cons, List.map_nil, List.cons_append, List.nil_append, List.append_nil, List.length_cons, List.length_nil, List.replicate_succ, List.replicate_zero, Nat.reduceAdd, Nat.reduceSub, D.bl.injEq, D.int.injEq, D.str.injEq, D.tup.injEq, D.lst.injEq, D.ins.injEq, Sl.val.injEq, Sl.own.injEq, Option.some.injEq, exists_eq_left, exists_eq_left', exists_eq_right, exists_eq_right', exists_and_left, true_and, and_true, Option.bind_some, Option.map_some, exists_eq, exists_eq', Nat.reduceLT, Nat.lt_irrefl, Nat.reduceEqDiff, Nat.reduceLeDiff, Nat.zero_lt_succ, Int.toNat_natCast, Int.ofNat_lt, Int.ofNat_le, Int.natCast_inj, Bool.not_true, Bool.not_false, Bool.false_eq_true, if_false, ite_true, ite_false, reduceIte, ↓reduceIte, List.mem_cons, List.not_mem_nil, or_false, false_or, true_or, or_true, decide_true, decide_false, reduceCtorEq, false_and, and_false, and_assoc, List.length_map, not_false_eq_true, exists_false, exists_const, ge_iff_le, gt_iff_lt, gs, look, wipeE, nC, if_true]
    rw [lcD_map (fun (n : Nat) => wireT (true, n))]
    · have e : (ms.map fun (n : Nat) => wireT (false, n)) ++ (ns.map fun (n : Nat) => wireT (true, n)) = (ms.map (fun n => ((false, n) : Wire)) ++ ns.map fun n => ((true, n) : Wire)).map wireT := by
        rw [List.map_append, List.map_map, List.map_map]
        rfl
      simp only [evB, evD, Sl.obj.injEq, eq_self, forall_const, Prod.mk.injEq, List.getElem?_cons_zero, List.getElem?_cons_succ, List.set_cons_zero, List.set_cons_succ, List.map_cons, List.map_nil, List.cons_append, List.nil_append, List.append_nil, List.length_cons, List.length_nil, List.replicate_succ, List.replicate_zero, Nat.reduceAdd, Nat.reduceSub, D.bl.injEq, D.int.injEq, D.str.injEq, D.tup.injEq, D.lst.injEq, D.ins.injEq, Sl.val.injEq, Sl.own.injEq, Option.some.injEq, exists_eq_left, exists_eq_left', exists_eq_right, exists_eq_right', exists_and_left, true_and, and_true, Option.bind_some, Option.map_some, exists_eq, exists_eq', Nat.reduceLT, Nat.lt_irrefl, Nat.reduceEqDiff, Nat.reduceLeDiff, Nat.zero_lt_succ, Int.toNat_natCast, Int.ofNat_lt, Int.ofNat_le, Int.natCast_inj, Bool.not_true, Bool.not_false, Bool.false_eq_true, if_false, ite_true, ite_false, reduceIte, ↓reduceIte, List.mem_cons, List.not_mem_nil, or_false, false_or, true_or, or_true, decide_true, decide_false, reduceCtorEq, false_and, and_false, and_assoc, List.length_map, not_false_eq_true, exists_false, exists_const, ge_iff_le, gt_iff_lt, gs, look, wipeE, nC, e, small (show (ms.map (fun n => ((false, n) : Wire)) ++ ns.map fun n => ((true, n) : Wire)).length ≤ 1000000 by rw [List.length_append, List.length_map, List.length_map]; omega)]
    · rw [sizeLine_eq]
      omega
    · intro n hn A B
      simp only [evB, evD, Sl.obj.injEq, eq_self, forall_const, Prod.mk.injEq, List.getElem?_cons_zero, List.getElem?_cons_succ, List.set_cons_zero, List.set_cons_succ, List.map_cons, List.map_nil, List.cons_append, List.nil_append, List.append_nil, List.length_cons, List.length_nil, List.replicate_succ, List.replicate_zero, Nat.reduceAdd, Nat.reduceSub, D.bl.injEq, D.int.injEq, D.str.injEq, D.tup.injEq, D.lst.injEq, D.ins.injEq, Sl.val.injEq, Sl.own.injEq, Option.some.injEq, exists_eq_left, exists_eq_left', exists_eq_right, exists_eq_right', exists_and_left, true_and, and_true, Option.bind_some, Option.map_some, exists_eq, exists_eq', Nat.reduceLT, Nat.lt_irrefl, Nat.reduceEqDiff, Nat.reduceLeDiff, Nat.zero_lt_succ, Int.toNat_natCast, Int.ofNat_lt, Int.ofNat_le, Int.natCast_inj, Bool.not_true, Bool.not_false, Bool.false_eq_true, if_false, ite_true, ite_false, reduceIte, ↓reduceIte, List.mem_cons, List.not_mem_nil, or_false, false_or, true_or, or_true, decide_true, decide_false, reduceCtorEq, false_and, and_false, and_assoc, List.length_map, not_false_eq_true, exists_false, exists_const, ge_iff_le, gt_iff_lt, gs, look, wipeE, nC, if_true]
      rfl
  · rw [sizeLine_eq]
    omega
  · intro n hn A B
    simp only [evB, evD, Sl.obj.injEq, eq_self, forall_const, Prod.mk.injEq, List.getElem?_cons_zero, List.getElem?_cons_succ, List.set_cons_zero, List.set_cons_succ, List.map_cons, List.map_nil, List.cons_append, List.nil_append, List.append_nil, List.length_cons, List.length_nil, List.replicate_succ, List.replicate_zero, Nat.reduceAdd, Nat.reduceSub, D.bl.injEq, D.int.injEq, D.str.injEq, D.tup.injEq, D.lst.injEq, D.ins.injEq, Sl.val.injEq, Sl.own.injEq, Option.some.injEq, exists_eq_left, exists_eq_left', exists_eq_right, exists_eq_right', exists_and_left, true_and, and_true, Option.bind_some, Option.map_some, exists_eq, exists_eq', Nat.reduceLT, Nat.lt_irrefl, Nat.reduceEqDiff, Nat.reduceLeDiff, Nat.zero_lt_succ, Int.toNat_natCast, Int.ofNat_lt, Int.ofNat_le, Int.natCast_inj, Bool.not_true, Bool.not_false, Bool.false_eq_true, if_false, ite_true, ite_false, reduceIte, ↓reduceIte, List.mem_cons, List.not_mem_nil, or_false, false_or, true_or, or_true, decide_true, decide_false, reduceCtorEq, false_and, and_false, and_assoc, List.length_map, not_false_eq_true, exists_false, exists_const, ge_iff_le, gt_iff_lt, gs, look, wipeE, nC, if_true]
    rfl
theorem t_Dead_init {Q : List D → Prop} (hb : Brd g t w) : m_Dead___init__ [boardD g, .tup (natsD (nums t r)), .tup (natsD (nums w c))] Q E ↔ Q (deadF g t w r c) := by
  unfold m_Dead___init__ g_Dead___init__
  have t10 := hb.t10
  have w10 := hb.w10
  have h1 := nums_len (r := r) t
  have h2 := nums_len (r := c) w
  simp only [evB, evD, Sl.obj.injEq, eq_self, forall_const, Prod.mk.injEq, List.getElem?_cons_zero, List.getElem?_cons_succ, List.set_cons_zero, List.set_cons_succ, List.map_cons, List.map_nil, List.cons_append, List.nil_append, List.append_nil, List.length_cons, List.length_nil, List.replicate_succ, List.replicate_zero, Nat.reduceAdd, Nat.reduceSub, D.bl.injEq, D.int.injEq, D.str.injEq, D.tup.injEq, D.lst.injEq, D.ins.injEq, Sl.val.injEq, Sl.own.injEq, Option.some.injEq, exists_eq_left, exists_eq_left', exists_eq_right, exists_eq_right', exists_and_left, true_and, and_true, Option.bind_some, Option.map_some, exists_eq, exists_eq', Nat.reduceLT, Nat.lt_irrefl, Nat.reduceEqDiff, Nat.reduceLeDiff, Nat.zero_lt_succ, Int.toNat_natCast, Int.ofNat_lt, Int.ofNat_le, Int.natCast_inj, Bool.not_true, Bool.not_false, Bool.false_eq_true, if_false, ite_true, ite_false, reduceIte, ↓reduceIte, List.mem_cons, List.not_mem_nil, or_false, false_or, true_or, or_true, decide_true, decide_false, reduceCtorEq, false_and, and_false, and_assoc, List.length_map, not_false_eq_true, exists_false, exists_const, ge_iff_le, gt_iff_lt, gs, look, wipeE, nC, runI_eq, board_is, t_Board_height hb, t_Board_width hb, t_are_numbers (n := t) (show (nums t r).length ≤ 1000 by omega) (nums_up t) (fun x hx => (mem_nums.mp hx).1), t_are_numbers (n := w) (show (nums w c).length ≤ 1000 by omega) (nums_up w) (fun x hx => (mem_nums.mp hx).1), t_named_wires (show (nums t r).length ≤ 100 by omega) (show (nums w c).length ≤ 100 by omega)]
  refine all_iff fun a => ?_
  have hw := wires_len (t := t) (w := w) (r := r) (c := c)
  show dcD _ _ _ _ _ _ _ ((wiresQ t w r c).map wireT) _ _ ↔ _
  rw [dcD_eq wireK (fun _ => .bl true)]
  · simp only [evB, evD, Sl.obj.injEq, eq_self, forall_const, Prod.mk.injEq, List.getElem?_cons_zero, List.getElem?_cons_succ, List.set_cons_zero, List.set_cons_succ, List.map_cons, List.map_nil, List.cons_append, List.nil_append, List.append_nil, List.length_cons, List.length_nil, List.replicate_succ, List.replicate_zero, Nat.reduceAdd, Nat.reduceSub, D.bl.injEq, D.int.injEq, D.str.injEq, D.tup.injEq, D.lst.injEq, D.ins.injEq, Sl.val.injEq, Sl.own.injEq, Option.some.injEq, exists_eq_left, exists_eq_left', exists_eq_right, exists_eq_right', exists_and_left, true_and, and_true, Option.bind_some, Option.map_some, exists_eq, exists_eq', Nat.reduceLT, Nat.lt_irrefl, Nat.reduceEqDiff, Nat.reduceLeDiff, Nat.zero_lt_succ, Int.toNat_natCast, Int.ofNat_lt, Int.ofNat_le, Int.natCast_inj, Bool.not_true, Bool.not_false, Bool.false_eq_true, if_false, ite_true, ite_false, reduceIte, ↓reduceIte, List.mem_cons, List.not_mem_nil, or_false, false_or, true_or, or_true, decide_true, decide_false, reduceCtorEq, false_and, and_false, and_assoc, List.length_map, not_false_eq_true, exists_false, exists_const, ge_iff_le, gt_iff_lt, gs, look, wipeE, nC, (map_snd_true wireK (wiresQ t w r c)).1, (map_snd_true wireK (wiresQ t w r c)).2, deadF]
  · rw [List.length_nil, sizeLine_eq]
    omega
  · exact wireK_nodup wires_nodup
  · intro p hp A B
    simp only [evB, evD, Sl.obj.injEq, eq_self, forall_const, Prod.mk.injEq, List.getElem?_cons_zero, List.getElem?_cons_succ, List.set_cons_zero, List.set_cons_succ, List.map_cons, List.map_nil, List.cons_append, List.nil_append, List.append_nil, List.length_cons, List.length_nil, List.replicate_succ, List.replicate_zero, Nat.reduceAdd, Nat.reduceSub, D.bl.injEq, D.int.injEq, D.str.injEq, D.tup.injEq, D.lst.injEq, D.ins.injEq, Sl.val.injEq, Sl.own.injEq, Option.some.injEq, exists_eq_left, exists_eq_left', exists_eq_right, exists_eq_right', exists_and_left, true_and, and_true, Option.bind_some, Option.map_some, exists_eq, exists_eq', Nat.reduceLT, Nat.lt_irrefl, Nat.reduceEqDiff, Nat.reduceLeDiff, Nat.zero_lt_succ, Int.toNat_natCast, Int.ofNat_lt, Int.ofNat_le, Int.natCast_inj, Bool.not_true, Bool.not_false, Bool.false_eq_true, if_false, ite_true, ite_false, reduceIte, ↓reduceIte, List.mem_cons, List.not_mem_nil, or_false, false_or, true_or, or_true, decide_true, decide_false, reduceCtorEq, false_and, and_false, and_assoc, List.length_map, not_false_eq_true, exists_false, exists_const, ge_iff_le, gt_iff_lt, gs, look, wipeE, nC, tkey_wire]
  · intro p hp
    exact toT_wire p
theorem t_Dead_wires : m_Dead_wires [deadD g t w r c] Q E ↔ Q (.tup ((wiresQ t w r c).map wireT)) := by
  unfold m_Dead_wires g_Dead_wires
  simp only [evB, evD, Sl.obj.injEq, eq_self, forall_const, Prod.mk.injEq, List.getElem?_cons_zero, List.getElem?_cons_succ, List.set_cons_zero, List.set_cons_succ, List.map_cons, List.map_nil, List.cons_append, List.nil_append, List.append_nil, List.length_cons, List.length_nil, List.replicate_succ, List.replicate_zero, Nat.reduceAdd, Nat.reduceSub, D.bl.injEq, D.int.injEq, D.str.injEq, D.tup.injEq, D.lst.injEq, D.ins.injEq, Sl.val.injEq, Sl.own.injEq, Option.some.injEq, exists_eq_left, exists_eq_left', exists_eq_right, exists_eq_right', exists_and_left, true_and, and_true, Option.bind_some, Option.map_some, exists_eq, exists_eq', Nat.reduceLT, Nat.lt_irrefl, Nat.reduceEqDiff, Nat.reduceLeDiff, Nat.zero_lt_succ, Int.toNat_natCast, Int.ofNat_lt, Int.ofNat_le, Int.natCast_inj, Bool.not_true, Bool.not_false, Bool.false_eq_true, if_false, ite_true, ite_false, reduceIte, ↓reduceIte, List.mem_cons, List.not_mem_nil, or_false, false_or, true_or, or_true, decide_true, decide_false, reduceCtorEq, false_and, and_false, and_assoc, List.length_map, not_false_eq_true, exists_false, exists_const, ge_iff_le, gt_iff_lt, gs, look, wipeE, nC, fldD_wires, keys_wires]
end
section
variable {g g' : List (List Bool)} {t w t' w' : Nat} {Q : D → Prop} {E : XP} {f f' : Nat × Nat → Bool} {r c r' c' : Nat → Bool}
theorem clean_wires (l : List Wire) : clean 2 (.tup (l.map wireT)) = true := by
  show (l.map wireT).all (clean 1) = true
  rw [List.all_eq_true]
  intro d hd
  obtain ⟨⟨b, n⟩, _, rfl⟩ := List.mem_map.mp hd
  have h : PyData.strOk (wordS b) = true := by cases b <;> decide +kernel
  show (PyData.strOk (wordS b) && (true && true)) = true
  rw [h]
  rfl
theorem wires_inj {l k : List Wire} (h : l.map wireT = k.map wireT) : l = k := List.map_inj_right (fun a b e => by
    have e := congrArg toTKey e
    rw [toT_wire, toT_wire] at e
    exact wireK_inj (Option.some.inj e)) |>.mp h
open Classical in
theorem eq_wires {l k : List Wire} : opEq (.tup (l.map wireT)) (.tup (k.map wireT)) = some (.bl (decide (l = k))) := by
  unfold opEq
  rw [eq_clean (.inl ⟨_, rfl⟩) (clean_wires l) (clean_wires k) (by decide) (by decide)]
  show some (D.bl _) = _
  congr 2
  rw [Bool.eq_iff_iff, decide_eq_true_eq, decide_eq_true_eq]
  exact ⟨fun e => wires_inj (D.tup.inj e), fun e => by rw [e]⟩
theorem t_Dead_eq : m_Dead___eq__ [deadD g t w r c, deadD g' t' w' r' c'] Q E ↔ Q (.bl (decide (g = g') && decide (wiresQ t w r c = wiresQ t' w' r' c'))) := by
  unfold m_Dead___eq__ g_Dead___eq__
  simp only [evB, evD, Sl.obj.injEq, eq_self, forall_const, Prod.mk.injEq, List.getElem?_cons_zero, List.getElem?_cons_succ, List.set_cons_zero, List.set_cons_succ, List.map_cons, List.map_nil, List.cons_append, List.nil_append, List.append_nil, List.length_cons, List.length_nil, List.replicate_succ, List.replicate_zero, Nat.reduceAdd, Nat.reduceSub, D.bl.injEq, D.int.injEq, D.str.injEq, D.tup.injEq, D.lst.injEq, D.ins.injEq, Sl.val.injEq, Sl.own.injEq, Option.some.injEq, exists_eq_left, exists_eq_left', exists_eq_right, exists_eq_right', exists_and_left, true_and, and_true, Option.bind_some, Option.map_some, exists_eq, exists_eq', Nat.reduceLT, Nat.lt_irrefl, Nat.reduceEqDiff, Nat.reduceLeDiff, Nat.zero_lt_succ, Int.toNat_natCast, Int.ofNat_lt, Int.ofNat_le, Int.natCast_inj, Bool.not_true, Bool.not_false, Bool.false_eq_true, if_false, ite_true, ite_false, reduceIte, ↓reduceIte, List.mem_cons, List.not_mem_nil, or_false, false_or, true_or, or_true, decide_true, decide_false, reduceCtorEq, false_and, and_false, and_assoc, List.length_map, not_false_eq_true, exists_false, exists_const, ge_iff_le, gt_iff_lt, gs, look, wipeE, nC, isC_dead (show 2 < nC by decide), fldD_board, eqW_board, ty_board, t_Board_eq, eq_wires, goodTy, dead_is, t_Dead_wires]
  by_cases h : g = g' <;> simp [h]
end
section
variable {g g' : List (List Bool)} {t w c : Nat} {Q : D → Nat → Prop} {E : XP} {f f' : Nat × Nat → Bool}
theorem t_law_size {m : Nat} (h0 : 0 < m) (h1 : m ≤ 10) (hc : c < 900000) (k : ∀ t w : Nat, 1 ≤ t → t ≤ m → 1 ≤ w → w ≤ m → Q (.tup [.int (t : Int), .int (w : Int)]) (c + 2)) : m__law_size [.int (m : Int)] c Q E := by
  unfold m__law_size g__law_size
  simp only [evB, evD, Sl.obj.injEq, eq_self, forall_const, Prod.mk.injEq, List.getElem?_cons_zero, List.getElem?_cons_succ, List.set_cons_zero, List.set_cons_succ, List.map_cons, List.map_nil, List.cons_append, List.nil_append, List.append_nil, List.length_cons, List.length_nil, List.replicate_succ, List.replicate_zero, Nat.reduceAdd, Nat.reduceSub, D.bl.injEq, D.int.injEq, D.str.injEq, D.tup.injEq, D.lst.injEq, D.ins.injEq, Sl.val.injEq, Sl.own.injEq, Option.some.injEq, exists_eq_left, exists_eq_left', exists_eq_right, exists_eq_right', exists_and_left, true_and, and_true, Option.bind_some, Option.map_some, exists_eq, exists_eq', Nat.reduceLT, Nat.lt_irrefl, Nat.reduceEqDiff, Nat.reduceLeDiff, Nat.zero_lt_succ, Int.toNat_natCast, Int.ofNat_lt, Int.ofNat_le, Int.natCast_inj, Bool.not_true, Bool.not_false, Bool.false_eq_true, if_false, ite_true, ite_false, reduceIte, ↓reduceIte, List.mem_cons, List.not_mem_nil, or_false, false_or, true_or, or_true, decide_true, decide_false, reduceCtorEq, false_and, and_false, and_assoc, List.length_map, not_false_eq_true, exists_false, exists_const, ge_iff_le, gt_iff_lt, gs, look, wipeE, nC, runP_eq, eCallP, Sl.pot.injEq]
  refine take_ok (by omega) (by omega) (by omega) fun d d0 d1 => ?_
  simp only [evB, evD, Sl.obj.injEq, eq_self, forall_const, Prod.mk.injEq, List.getElem?_cons_zero, List.getElem?_cons_succ, List.set_cons_zero, List.set_cons_succ, List.map_cons, List.map_nil, List.cons_append, List.nil_append, List.append_nil, List.length_cons, List.length_nil, List.replicate_succ, List.replicate_zero, Nat.reduceAdd, Nat.reduceSub, D.bl.injEq, D.int.injEq, D.str.injEq, D.tup.injEq, D.lst.injEq, D.ins.injEq, Sl.val.injEq, Sl.own.injEq, Option.some.injEq, exists_eq_left, exists_eq_left', exists_eq_right, exists_eq_right', exists_and_left, true_and, and_true, Option.bind_some, Option.map_some, exists_eq, exists_eq', Nat.reduceLT, Nat.lt_irrefl, Nat.reduceEqDiff, Nat.reduceLeDiff, Nat.zero_lt_succ, Int.toNat_natCast, Int.ofNat_lt, Int.ofNat_le, Int.natCast_inj, Bool.not_true, Bool.not_false, Bool.false_eq_true, if_false, ite_true, ite_false, reduceIte, ↓reduceIte, List.mem_cons, List.not_mem_nil, or_false, false_or, true_or, or_true, decide_true, decide_false, reduceCtorEq, false_and, and_false, and_assoc, List.length_map, not_false_eq_true, exists_false, exists_const, ge_iff_le, gt_iff_lt, gs, look, wipeE, nC, if_true]
  refine take_ok (by omega) (by omega) (by omega) fun e e0 e1 => ?_
  simp only [evB, evD, Sl.obj.injEq, eq_self, forall_const, Prod.mk.injEq, List.getElem?_cons_zero, List.getElem?_cons_succ, List.set_cons_zero, List.set_cons_succ, List.map_cons, List.map_nil, List.cons_append, List.nil_append, List.append_nil, List.length_cons, List.length_nil, List.replicate_succ, List.replicate_zero, Nat.reduceAdd, Nat.reduceSub, D.bl.injEq, D.int.injEq, D.str.injEq, D.tup.injEq, D.lst.injEq, D.ins.injEq, Sl.val.injEq, Sl.own.injEq, Option.some.injEq, exists_eq_left, exists_eq_left', exists_eq_right, exists_eq_right', exists_and_left, true_and, and_true, Option.bind_some, Option.map_some, exists_eq, exists_eq', Nat.reduceLT, Nat.lt_irrefl, Nat.reduceEqDiff, Nat.reduceLeDiff, Nat.zero_lt_succ, Int.toNat_natCast, Int.ofNat_lt, Int.ofNat_le, Int.natCast_inj, Bool.not_true, Bool.not_false, Bool.false_eq_true, if_false, ite_true, ite_false, reduceIte, ↓reduceIte, List.mem_cons, List.not_mem_nil, or_false, false_or, true_or, or_true, decide_true, decide_false, reduceCtorEq, false_and, and_false, and_assoc, List.length_map, not_false_eq_true, exists_false, exists_const, ge_iff_le, gt_iff_lt, gs, look, wipeE, nC, if_true]
  obtain ⟨j, rfl⟩ : ∃ j : Nat, d = (j : Int) := ⟨d.toNat, by omega⟩
  obtain ⟨i, rfl⟩ : ∃ j : Nat, e = (j : Int) := ⟨e.toNat, by omega⟩
  have := k (1 + j) (1 + i) (by omega) (by omega) (by omega) (by omega)
  simpa using this
theorem t_law_rows (t1 : 1 ≤ t) (t10 : t ≤ 10) (w1 : 1 ≤ w) (w10 : w ≤ 10) (hc : c < 900000) (k : ∀ g c', Brd g t w → c' ≤ c + 101 → Q (.tup (g.map rowD)) c') : m__law_rows [.int (t : Int), .int (w : Int)] c Q E := by
  unfold m__law_rows g__law_rows
  simp only [evB, evD, Sl.obj.injEq, eq_self, forall_const, Prod.mk.injEq, List.getElem?_cons_zero, List.getElem?_cons_succ, List.set_cons_zero, List.set_cons_succ, List.map_cons, List.map_nil, List.cons_append, List.nil_append, List.append_nil, List.length_cons, List.length_nil, List.replicate_succ, List.replicate_zero, Nat.reduceAdd, Nat.reduceSub, D.bl.injEq, D.int.injEq, D.str.injEq, D.tup.injEq, D.lst.injEq, D.ins.injEq, Sl.val.injEq, Sl.own.injEq, Option.some.injEq, exists_eq_left, exists_eq_left', exists_eq_right, exists_eq_right', exists_and_left, true_and, and_true, Option.bind_some, Option.map_some, exists_eq, exists_eq', Nat.reduceLT, Nat.lt_irrefl, Nat.reduceEqDiff, Nat.reduceLeDiff, Nat.zero_lt_succ, Int.toNat_natCast, Int.ofNat_lt, Int.ofNat_le, Int.natCast_inj, Bool.not_true, Bool.not_false, Bool.false_eq_true, if_false, ite_true, ite_false, reduceIte, ↓reduceIte, List.mem_cons, List.not_mem_nil, or_false, false_or, true_or, or_true, decide_true, decide_false, reduceCtorEq, false_and, and_false, and_assoc, List.length_map, not_false_eq_true, exists_false, exists_const, ge_iff_le, gt_iff_lt, gs, look, wipeE, nC, runP_eq, eCallP, Sl.pot.injEq, rg2 (show t ≤ 1000000 by omega)]
  intro a
  refine take_ok (by omega) (by omega) (by omega) fun way y0 y1 => ?_
  refine loopD_inv (fun l ρ => ∃ (i : Nat) (gq : List (List Bool)) (m : Nat) (s3 s6 s7 s8 : Sl), l = (List.range t).drop i ∧ i ≤ t ∧ ρ = [Sl.pot a m, Sl.val (.int (t : Int)), Sl.val (.int (w : Int)), s3, Sl.val (.int way), Sl.own (gq.map rowD), s6, s7, s8] ∧ m ≤ c + 1 + i * w ∧ gq.length = i ∧ (∀ r ∈ gq, r.length = w) ∧ ∀ j r, gq[j]? = some r → Diag t w j r) ?_ ?_ _ _ ⟨0, [], c + 1, Sl.no, Sl.no, Sl.no, Sl.no, rfl, Nat.zero_le _, rfl, by omega, rfl, (fun r hr => nomatch hr), (fun j r hr => by simp at hr)⟩
  · rintro i0 l ρ ⟨i, gq, m, s3, s6, s7, s8, hl, hi, rfl, hm, gl, gw, gd⟩ N hN
    have hi' : i < t := by
      rcases Nat.lt_or_ge i t with h | h
      · exact h
      · rw [List.drop_of_length_le (by rw [List.length_range]; exact h)] at hl
        cases hl
    rw [List.drop_eq_getElem_cons (by rw [List.length_range]; exact hi')] at hl
    injection hl with x1 x2
    rw [List.getElem_range] at x1
    subst x1
    have him : i0 * w ≤ 9 * 10 := Nat.mul_le_mul (by omega) w10
    simp only [evB, evD, Sl.obj.injEq, eq_self, forall_const, Prod.mk.injEq, List.getElem?_cons_zero, List.getElem?_cons_succ, List.set_cons_zero, List.set_cons_succ, List.map_cons, List.map_nil, List.cons_append, List.nil_append, List.append_nil, List.length_cons, List.length_nil, List.replicate_succ, List.replicate_zero, Nat.reduceAdd, Nat.reduceSub, D.bl.injEq, D.int.injEq, D.str.injEq, D.tup.injEq, D.lst.injEq, D.ins.injEq, Sl.val.injEq, Sl.own.injEq, Option.some.injEq, exists_eq_left, exists_eq_left', exists_eq_right, exists_eq_right', exists_and_left, true_and, and_true, Option.bind_some, Option.map_some, exists_eq, exists_eq', Nat.reduceLT, Nat.lt_irrefl, Nat.reduceEqDiff, Nat.reduceLeDiff, Nat.zero_lt_succ, Int.toNat_natCast, Int.ofNat_lt, Int.ofNat_le, Int.natCast_inj, Bool.not_true, Bool.not_false, Bool.false_eq_true, if_false, ite_true, ite_false, reduceIte, ↓reduceIte, List.mem_cons, List.not_mem_nil, or_false, false_or, true_or, or_true, decide_true, decide_false, reduceCtorEq, false_and, and_false, and_assoc, List.length_map, not_false_eq_true, exists_false, exists_const, ge_iff_le, gt_iff_lt, gs, look, wipeE, nC, rg2 (show w ≤ 1000000 by omega)]
    refine loopD_inv (fun l ρ => ∃ (j : Nat) (bs : List Bool) (m : Nat) (s7 s8 : Sl), l = (List.range w).drop j ∧ j ≤ w ∧ ρ = [Sl.pot a m, Sl.val (.int (t : Int)), Sl.val (.int (w : Int)), Sl.val (.int (i0 : Int)), Sl.val (.int way), Sl.own (gq.map rowD), Sl.own (bs.map fun b => .str ⟨#[cd b]⟩), s7, s8] ∧ m ≤ c + 1 + i0 * w + j ∧ bs.length = j ∧ Diag t w i0 bs) ?_ ?_ _ _ ⟨0, [], m, s7, s8, rfl, Nat.zero_le _, rfl, by omega, rfl, fun c hc => by simp at hc⟩
    · rintro j0 l' ρ ⟨j, bs, m', s7', s8', hl', hj, rfl, hm', bl, bd⟩ M hM
      have hj' : j < w := by
        rcases Nat.lt_or_ge j w with h | h
        · exact h
        · rw [List.drop_of_length_le (by rw [List.length_range]; exact h)] at hl'
          cases hl'
      rw [List.drop_eq_getElem_cons (by rw [List.length_range]; exact hj')] at hl'
      injection hl' with y1' y2'
      rw [List.getElem_range] at y1'
      subst y1'
      have hmx : (0 : Int) < if t < w then (w : Int) else (t : Int) := by split <;> omega
      have so : D.str "o" = D.str ⟨#[cd true]⟩ := congrArg D.str (by decide +kernel)
      have sd : D.str "." = D.str ⟨#[cd false]⟩ := congrArg D.str (by decide +kernel)
      have hlt : bs.length < sizeLine := by rw [sizeLine_eq]; omega
      have fin : ∀ (b2 : Bool) (m2 : Nat) (s8 : Sl), m2 ≤ c + 1 + i0 * w + (j0 + 1) → (b2 = true ∨ ¬ (i0 % w = j0 ∨ j0 % t = i0)) → M [Sl.pot a m2, Sl.val (.int (t : Int)), Sl.val (.int (w : Int)), Sl.val (.int (i0 : Int)), Sl.val (.int way), Sl.own (gq.map rowD), Sl.own ((bs.map fun b => D.str ⟨#[cd b]⟩) ++ [D.str ⟨#[cd b2]⟩]), Sl.val (.int (j0 : Int)), s8] := fun b2 m2 s8 hm2 hb2 => by
        refine hM _ ⟨j0 + 1, bs ++ [b2], m2, _, _, y2', hj', by rw [List.map_append]; rfl, hm2, by rw [List.length_append, bl]; rfl, ?_⟩
        intro c hc hd
        rw [List.length_append, bl] at hc
        have hc' : c < j0 + 1 := hc
        by_cases e : c < bs.length
        · rw [List.getElem?_append_left e]
          exact bd c e hd
        · have ec : c = j0 := by omega
          subst ec
          rw [List.getElem?_append_right (by omega), bl, Nat.sub_self]
          rcases hb2 with hb | hb
          · rw [hb]
            rfl
          · exact absurd hd hb
      simp only [evB, evD, Sl.obj.injEq, eq_self, forall_const, Prod.mk.injEq, List.getElem?_cons_zero, List.getElem?_cons_succ, List.set_cons_zero, List.set_cons_succ, List.map_cons, List.map_nil, List.cons_append, List.nil_append, List.append_nil, List.length_cons, List.length_nil, List.replicate_succ, List.replicate_zero, Nat.reduceAdd, Nat.reduceSub, D.bl.injEq, D.int.injEq, D.str.injEq, D.tup.injEq, D.lst.injEq, D.ins.injEq, Sl.val.injEq, Sl.own.injEq, Option.some.injEq, exists_eq_left, exists_eq_left', exists_eq_right, exists_eq_right', exists_and_left, true_and, and_true, Option.bind_some, Option.map_some, exists_eq, exists_eq', Nat.reduceLT, Nat.lt_irrefl, Nat.reduceEqDiff, Nat.reduceLeDiff, Nat.zero_lt_succ, Int.toNat_natCast, Int.ofNat_lt, Int.ofNat_le, Int.natCast_inj, Bool.not_true, Bool.not_false, Bool.false_eq_true, if_false, ite_true, ite_false, reduceIte, ↓reduceIte, List.mem_cons, List.not_mem_nil, or_false, false_or, true_or, or_true, decide_true, decide_false, reduceCtorEq, false_and, and_false, and_assoc, List.length_map, not_false_eq_true, exists_false, exists_const, ge_iff_le, gt_iff_lt, gs, look, wipeE, nC, eCallP, Sl.pot.injEq, hmx, show (0 : Int) < (w : Int) by omega, show (0 : Int) < (t : Int) by omega, so, sd, hlt]
      have f1 := fin true
      have f2 := fun (x : Nat) (y : Sl) (z : x ≤ c + 1 + i0 * w + (j0 + 1)) (h1 : ¬ decide ((i0 : Int) % (w : Int) = (j0 : Int)) = true) (h2 : ¬ decide ((j0 : Int) % (t : Int) = (i0 : Int)) = true) => fin false x y z (.inr fun q => by
        rw [decide_eq_true_eq] at h1 h2
        rcases q with q | q
        · exact h1 (by rw [← Int.natCast_emod, q])
        · exact h2 (by rw [← Int.natCast_emod, q]))
      by_cases w2 : decide (way < 2) = true
      · rw [if_pos w2]
        exact f1 _ _ (by omega) (.inl rfl)
      · rw [if_neg w2]
        by_cases w3 : decide (((i0 : Int) + (j0 : Int)) % (if t < w then (w : Int) else (t : Int)) < 2) = true
        · rw [if_pos w3]
          exact f1 _ _ (by omega) (.inl rfl)
        · rw [if_neg w3]
          by_cases w4 : decide (way = 2) = true
          · rw [if_pos w4]
            refine take_ok (by omega) (by omega) (by omega) fun d d0 d1 => ?_
            simp only [evB, evD, Sl.obj.injEq, eq_self, forall_const, Prod.mk.injEq, List.getElem?_cons_zero, List.getElem?_cons_succ, List.set_cons_zero, List.set_cons_succ, List.map_cons, List.map_nil, List.cons_append, List.nil_append, List.append_nil, List.length_cons, List.length_nil, List.replicate_succ, List.replicate_zero, Nat.reduceAdd, Nat.reduceSub, D.bl.injEq, D.int.injEq, D.str.injEq, D.tup.injEq, D.lst.injEq, D.ins.injEq, Sl.val.injEq, Sl.own.injEq, Option.some.injEq, exists_eq_left, exists_eq_left', exists_eq_right, exists_eq_right', exists_and_left, true_and, and_true, Option.bind_some, Option.map_some, exists_eq, exists_eq', Nat.reduceLT, Nat.lt_irrefl, Nat.reduceEqDiff, Nat.reduceLeDiff, Nat.zero_lt_succ, Int.toNat_natCast, Int.ofNat_lt, Int.ofNat_le, Int.natCast_inj, Bool.not_true, Bool.not_false, Bool.false_eq_true, if_false, ite_true, ite_false, reduceIte, ↓reduceIte, List.mem_cons, List.not_mem_nil, or_false, false_or, true_or, or_true, decide_true, decide_false, reduceCtorEq, false_and, and_false, and_assoc, List.length_map, not_false_eq_true, exists_false, exists_const, ge_iff_le, gt_iff_lt, gs, look, wipeE, nC, if_true]
            by_cases w5 : decide (0 < d) = true
            · rw [if_pos w5]
              exact f1 _ _ (by omega) (.inl rfl)
            · rw [if_neg w5]
              split
              · exact f1 _ _ (by omega) (.inl rfl)
              · split
                · exact f1 _ _ (by omega) (.inl rfl)
                · exact f2 _ _ (by omega) (by assumption) (by assumption)
          · rw [if_neg w4]
            split
            · exact f1 _ _ (by omega) (.inl rfl)
            · split
              · exact f1 _ _ (by omega) (.inl rfl)
              · exact f2 _ _ (by omega) (by assumption) (by assumption)
    · rintro ρ ⟨j, bs, m', s7', s8', hl', hj, rfl, hm', bl, bd⟩
      have hj' : j = w := by
        have := congrArg List.length hl'
        rw [List.length_nil, List.length_drop, List.length_range] at this
        omega
      subst hj'
      simp only [evB, evD, Sl.obj.injEq, eq_self, forall_const, Prod.mk.injEq, List.getElem?_cons_zero, List.getElem?_cons_succ, List.set_cons_zero, List.set_cons_succ, List.map_cons, List.map_nil, List.cons_append, List.nil_append, List.append_nil, List.length_cons, List.length_nil, List.replicate_succ, List.replicate_zero, Nat.reduceAdd, Nat.reduceSub, D.bl.injEq, D.int.injEq, D.str.injEq, D.tup.injEq, D.lst.injEq, D.ins.injEq, Sl.val.injEq, Sl.own.injEq, Option.some.injEq, exists_eq_left, exists_eq_left', exists_eq_right, exists_eq_right', exists_and_left, true_and, and_true, Option.bind_some, Option.map_some, exists_eq, exists_eq', Nat.reduceLT, Nat.lt_irrefl, Nat.reduceEqDiff, Nat.reduceLeDiff, Nat.zero_lt_succ, Int.toNat_natCast, Int.ofNat_lt, Int.ofNat_le, Int.natCast_inj, Bool.not_true, Bool.not_false, Bool.false_eq_true, if_false, ite_true, ite_false, reduceIte, ↓reduceIte, List.mem_cons, List.not_mem_nil, or_false, false_or, true_or, or_true, decide_true, decide_false, reduceCtorEq, false_and, and_false, and_assoc, List.length_map, not_false_eq_true, exists_false, exists_const, ge_iff_le, gt_iff_lt, gs, look, wipeE, nC, join_rowL (show bs.length ≤ 100 by omega), show gq.length < sizeLine by rw [sizeLine_eq]; omega]
      refine hN _ ⟨i0 + 1, gq ++ [bs], m', _, _, _, _, x2, hi', by rw [List.map_append]; rfl, ?_, by rw [List.length_append, gl]; rfl, ?_, ?_⟩
      · rw [Nat.add_mul]
        omega
      · intro r hr
        rcases List.mem_append.mp hr with h | h
        · exact gw r h
        · rw [List.mem_singleton.mp h]
          exact bl
      · intro j r hj
        by_cases e : j < gq.length
        · rw [List.getElem?_append_left e] at hj
          exact gd j r hj
        · rw [List.getElem?_append_right (by omega)] at hj
          have ej : j - gq.length = 0 := by
            have := (List.getElem?_eq_some_iff.mp hj).1
            simp at this
            omega
          rw [ej] at hj
          cases hj
          have : j = i0 := by omega
          rw [this]
          exact bd
  · rintro ρ ⟨i, gq, m, s3, s6, s7, s8, hl, hi, rfl, hm, gl, gw, gd⟩
    have him : t * w ≤ 10 * 10 := Nat.mul_le_mul t10 w10
    have hi' : i = t := by
      have := congrArg List.length hl
      rw [List.length_nil, List.length_drop, List.length_range] at this
      omega
    subst hi'
    simp only [evB, evD, Sl.obj.injEq, eq_self, forall_const, Prod.mk.injEq, List.getElem?_cons_zero, List.getElem?_cons_succ, List.set_cons_zero, List.set_cons_succ, List.map_cons, List.map_nil, List.cons_append, List.nil_append, List.append_nil, List.length_cons, List.length_nil, List.replicate_succ, List.replicate_zero, Nat.reduceAdd, Nat.reduceSub, D.bl.injEq, D.int.injEq, D.str.injEq, D.tup.injEq, D.lst.injEq, D.ins.injEq, Sl.val.injEq, Sl.own.injEq, Option.some.injEq, exists_eq_left, exists_eq_left', exists_eq_right, exists_eq_right', exists_and_left, true_and, and_true, Option.bind_some, Option.map_some, exists_eq, exists_eq', Nat.reduceLT, Nat.lt_irrefl, Nat.reduceEqDiff, Nat.reduceLeDiff, Nat.zero_lt_succ, Int.toNat_natCast, Int.ofNat_lt, Int.ofNat_le, Int.natCast_inj, Bool.not_true, Bool.not_false, Bool.false_eq_true, if_false, ite_true, ite_false, reduceIte, ↓reduceIte, List.mem_cons, List.not_mem_nil, or_false, false_or, true_or, or_true, decide_true, decide_false, reduceCtorEq, false_and, and_false, and_assoc, List.length_map, not_false_eq_true, exists_false, exists_const, ge_iff_le, gt_iff_lt, gs, look, wipeE, nC, Sl.pot.injEq]
    exact k gq m (brd_of t1 t10 w1 w10 gl gw gd) (by omega)
end
end Fd

namespace Fd
open PySem PySem.Spec PyProof.Rows L2 Wd PySem.W
theorem t_law_of {Q : D → Nat → Prop} {E : XP} {c : Nat} {xs : List D} (h0 : 0 < xs.length) (h1 : xs.length < 1000) (hc : c < 900000) (k : ∀ x ∈ xs, Q x (c + 1)) : m__law_of [.lst xs] c Q E := by
  unfold m__law_of g__law_of
  simp only [evB, evD, Sl.obj.injEq, eq_self, forall_const, Prod.mk.injEq, List.getElem?_cons_zero, List.getElem?_cons_succ, List.set_cons_zero, List.set_cons_succ, List.map_cons, List.map_nil, List.cons_append, List.nil_append, List.append_nil, List.length_cons, List.length_nil, List.replicate_succ, List.replicate_zero, Nat.reduceAdd, Nat.reduceSub, D.bl.injEq, D.int.injEq, D.str.injEq, D.tup.injEq, D.lst.injEq, D.ins.injEq, Sl.val.injEq, Sl.own.injEq, Option.some.injEq, exists_eq_left, exists_eq_left', exists_eq_right, exists_eq_right', exists_and_left, true_and, and_true, Option.bind_some, Option.map_some, exists_eq, exists_eq', Nat.reduceLT, Nat.lt_irrefl, Nat.reduceEqDiff, Nat.reduceLeDiff, Nat.zero_lt_succ, Int.toNat_natCast, Int.ofNat_lt, Int.ofNat_le, Int.natCast_inj, Bool.not_true, Bool.not_false, Bool.false_eq_true, if_false, ite_true, ite_false, reduceIte, ↓reduceIte, List.mem_cons, List.not_mem_nil, or_false, false_or, true_or, or_true, decide_true, decide_false, reduceCtorEq, false_and, and_false, and_assoc, List.length_map, not_false_eq_true, exists_false, exists_const, ge_iff_le, gt_iff_lt, gs, look, wipeE, nC, runP_eq, eCallP, Sl.pot.injEq]
  refine take_ok (by omega) (by omega) (by omega) fun d d0 d1 => ?_
  obtain ⟨j, rfl⟩ : ∃ j : Nat, d = (j : Int) := ⟨d.toNat, by omega⟩
  have hj : j < xs.length := by omega
  simp only [evB, evD, Sl.obj.injEq, eq_self, forall_const, Prod.mk.injEq, List.getElem?_cons_zero, List.getElem?_cons_succ, List.set_cons_zero, List.set_cons_succ, List.map_cons, List.map_nil, List.cons_append, List.nil_append, List.append_nil, List.length_cons, List.length_nil, List.replicate_succ, List.replicate_zero, Nat.reduceAdd, Nat.reduceSub, D.bl.injEq, D.int.injEq, D.str.injEq, D.tup.injEq, D.lst.injEq, D.ins.injEq, Sl.val.injEq, Sl.own.injEq, Option.some.injEq, exists_eq_left, exists_eq_left', exists_eq_right, exists_eq_right', exists_and_left, true_and, and_true, Option.bind_some, Option.map_some, exists_eq, exists_eq', Nat.reduceLT, Nat.lt_irrefl, Nat.reduceEqDiff, Nat.reduceLeDiff, Nat.zero_lt_succ, Int.toNat_natCast, Int.ofNat_lt, Int.ofNat_le, Int.natCast_inj, Bool.not_true, Bool.not_false, Bool.false_eq_true, if_false, ite_true, ite_false, reduceIte, ↓reduceIte, List.mem_cons, List.not_mem_nil, or_false, false_or, true_or, or_true, decide_true, decide_false, reduceCtorEq, false_and, and_false, and_assoc, List.length_map, not_false_eq_true, exists_false, exists_const, ge_iff_le, gt_iff_lt, gs, look, wipeE, nC, at_nat hj]
  exact k _ (List.getElem_mem hj)
theorem lcD_of {α : Type} {g : GD} {t : FT} {e : F} {vs : List Nat} {E : XP} {Q : List D → Env → Prop} {ρ : Env} {enc : α → D} (p : α → Bool) (f : α → D) : ∀ (l : List α) (acc : List D), acc.length + l.length ≤ sizeLine →
    (∀ a ∈ l, ∀ (A : D → Env → Prop) (B : Env → Prop), (p a = true → A (f a) ρ) → (p a = false → B ρ) → (g (enc a) ρ fun ρ1 => t ρ1 (fun b ρ2 => if b = true then e ρ2 (fun y ρ3 => A y (wipeE ρ3 vs)) E else B (wipeE ρ2 vs)) E)) →
    Q (acc ++ (l.filter p).map f) ρ → lcD g t e vs E Q (l.map enc) acc ρ
  | [], acc, _, _, q => by
    rw [List.filter_nil, List.map_nil, List.append_nil] at q
    exact q
  | a :: l, acc, hl, h, q => by
    rw [List.length_cons] at hl
    refine h a List.mem_cons_self (fun y ρ3 => acc.length < sizeLine ∧ lcD g t e vs E Q (l.map enc) (acc ++ [y]) ρ3) (fun ρ2 => lcD g t e vs E Q (l.map enc) acc ρ2) (fun hp => ⟨by omega, ?_⟩) (fun hp => ?_)
    · refine lcD_of p f l _ (by rw [List.length_append, List.length_singleton]; omega) (fun b hb => h b (List.mem_cons_of_mem _ hb)) ?_
      rw [List.filter_cons, if_pos hp] at q
      rw [List.append_assoc]
      exact q
    · refine lcD_of p f l _ (by omega) (fun b hb => h b (List.mem_cons_of_mem _ hb)) ?_
      rw [List.filter_cons, if_neg (by rw [hp]; exact nofun)] at q
      exact q
abbrev tab0 : Tab := [(0, 2, m_Board___eq__), (1, 2, m_Picture___eq__), (2, 2, m_Dead___eq__)]
theorem bools_py : ∀ l : List Bool, toPys (l.map D.bl) = some (l.map PyData.bool)
  | [] => rfl
  | b :: l => by
    show ((toPy (D.bl b)).bind fun a => (toPys (l.map D.bl)).map fun r => a :: r) = _
    rw [bools_py l]
    rfl
theorem bools_lay : ∀ l : List Bool, PyData.canLayAll0 (l.map PyData.bool) = true ∧ PyData.depthAll (l.map PyData.bool) = 0
  | [] => ⟨rfl, rfl⟩
  | b :: l => by
    obtain ⟨h1, h2⟩ := bools_lay l
    rw [List.map_cons]
    refine ⟨?_, ?_⟩
    · simp only [PyData.canLayAll0, PyData.canLay0, h1]
      rfl
    · simp only [PyData.depthAll, PyData.depth, h2]
      rfl
theorem bools_shaped (l : List Bool) : SeqAt.shaped (.list (l.map PyData.bool)) = true := by
  obtain ⟨h1, h2⟩ := bools_lay l
  refine py_shaped (n := 1) ?_ ?_ (by decide)
  · simp only [PyData.canLay0, h1]
  · simp only [PyData.depth, h2]
    decide
theorem bools_eqv : ∀ l m : List Bool, PyData.eqvAll (l.map PyData.bool) (m.map PyData.bool) = decide (l = m)
  | [], [] => rfl
  | [], b :: m => by simp [PyData.eqvAll]
  | a :: l, [] => by simp [PyData.eqvAll]
  | a :: l, b :: m => by
    rw [List.map_cons, List.map_cons]
    simp only [PyData.eqvAll, PyData.eqv, bools_eqv l m, List.cons.injEq]
    rw [Bool.eq_iff_iff]
    simp
theorem eqD_bools {l m : List Bool} : eqD (.lst (l.map D.bl)) (.lst (m.map D.bl)) = some (decide (l = m)) := by
  unfold eqD
  rw [scal_none (.inr ⟨_, rfl⟩)]
  show (((toPys (l.map D.bl)).map PyData.list).bind fun a => ((toPys (m.map D.bl)).map PyData.list).bind fun b => if SeqAt.shaped a = true ∧ SeqAt.shaped b = true then some (PyData.eqv a b) else none) = _
  rw [bools_py, bools_py]
  show (if SeqAt.shaped (.list (l.map PyData.bool)) = true ∧ SeqAt.shaped (.list (m.map PyData.bool)) = true then some (PyData.eqv (.list (l.map PyData.bool)) (.list (m.map PyData.bool))) else none) = _
  rw [if_pos ⟨bools_shaped l, bools_shaped m⟩]
  simp only [PyData.eqv, bools_eqv]
theorem opNe_bools {l m : List Bool} : opNe (.lst (l.map D.bl)) (.lst (m.map D.bl)) = some (.bl (!decide (l = m))) := by
  unfold opNe
  rw [eqD_bools]
  rfl
theorem add_llN {xs ys : List D} (h : xs.length + ys.length ≤ sizeLine) : opAdd (.lst xs) (.lst ys) = some (.lst (xs ++ ys)) := if_pos h
def errs (v : D) : List D := (List.range 29).map fun i => .exc (i + 1) v
def kd (k : Nat) : List Bool := (List.range 29).map fun i => decide (k = i + 1)
def SelfE (v : D) : Prop := ∀ (Q : D → Prop) (E : XP), Q (.bl true) → eqAnyS nC tab0 v v Q E
theorem se_mono {d : D} : ∀ {n : Nat}, seD 0 d = true → seD n d = true
  | 0, h => h
  | n + 1, h => by
    show (seD n d || _) = true
    rw [se_mono (n := n) h]
    rfl
theorem self_se {d : D} (h : seD 3 d = true) (nl : ∀ l, d ≠ .lst l) : SelfE d := fun Q E q => .inr ⟨rfl, h, nl, q⟩
theorem self_eq {d : D} (h : opEq d d = some (.bl true)) (ni : ∀ c ds, d ≠ .ins c ds) : SelfE d := fun Q E q => .inl (.inl (by
  unfold eqW
  split
  · rename_i c ds
    exact absurd rfl (ni c ds)
  · exact ⟨_, h, q⟩))
section
theorem t_all_of {Q : D → Prop} {E : XP} {v : D} (q : Q (.lst (errs v))) : m__law_all_of [v] Q E := by
  unfold m__law_all_of g__law_all_of
  have z := sizeLine_eq
  exact ⟨_, rfl, _, rfl, _, rfl, _, rfl, (show 4 ≤ sizeLine by omega),
    ⟨_, rfl⟩, _, rfl, _, rfl, _, rfl, _, rfl, _, if_pos (show 4 ≤ sizeLine by omega), _, _, rfl, rfl, (show 4 + 4 ≤ sizeLine by omega),
    ⟨_, rfl⟩, _, rfl, _, rfl, _, rfl, _, rfl, _, if_pos (show 4 ≤ sizeLine by omega), _, _, rfl, rfl, (show 8 + 4 ≤ sizeLine by omega),
    ⟨_, rfl⟩, _, rfl, _, rfl, _, rfl, _, rfl, _, if_pos (show 4 ≤ sizeLine by omega), _, _, rfl, rfl, (show 12 + 4 ≤ sizeLine by omega),
    ⟨_, rfl⟩, _, rfl, _, rfl, _, rfl, _, rfl, _, if_pos (show 4 ≤ sizeLine by omega), _, _, rfl, rfl, (show 16 + 4 ≤ sizeLine by omega),
    ⟨_, rfl⟩, _, rfl, _, rfl, _, rfl, _, rfl, _, if_pos (show 4 ≤ sizeLine by omega), _, _, rfl, rfl, (show 20 + 4 ≤ sizeLine by omega),
    ⟨_, rfl⟩, _, rfl, _, rfl, _, rfl, _, rfl, _, if_pos (show 4 ≤ sizeLine by omega), _, _, rfl, rfl, (show 24 + 4 ≤ sizeLine by omega),
    ⟨_, rfl⟩, _, rfl, _, if_pos (show 1 ≤ sizeLine by omega), _, _, rfl, rfl, (show 28 + 1 ≤ sizeLine by omega), _, rfl, q⟩
theorem t_kinds_of {Q : D → Prop} {E : XP} {v : D} {k : Nat} (hk : k < nX) (q : Q (.lst ((kd k).map D.bl))) : m__law_kinds_of [.exc k v] Q E := by
  unfold m__law_kinds_of g__law_kinds_of
  have z := sizeLine_eq
  have ix : ∀ m : Nat, m + 1 < nX → opIsX nC nX (m + 1) (.exc k v) = some (.bl (decide (k = m + 1))) := fun m _ => by
    show (if k < nX then some (D.bl (decide (k = m + 1) || decide (m + 1 = 0))) else none) = _
    rw [if_pos hk, decide_eq_false (Nat.succ_ne_zero m), Bool.or_false]
  exact ⟨_, rfl, _, ix 0 (by decide), _, rfl, _, ix 1 (by decide), (show 2 ≤ sizeLine by omega),
    ⟨_, rfl⟩, _, rfl, _, ix 2 (by decide), _, rfl, _, ix 3 (by decide), _, if_pos (show 2 ≤ sizeLine by omega), _, _, rfl, rfl, (show 2 + 2 ≤ sizeLine by omega),
    ⟨_, rfl⟩, _, rfl, _, ix 4 (by decide), _, rfl, _, ix 5 (by decide), _, if_pos (show 2 ≤ sizeLine by omega), _, _, rfl, rfl, (show 4 + 2 ≤ sizeLine by omega),
    ⟨_, rfl⟩, _, rfl, _, ix 6 (by decide), _, rfl, _, ix 7 (by decide), _, if_pos (show 2 ≤ sizeLine by omega), _, _, rfl, rfl, (show 6 + 2 ≤ sizeLine by omega),
    ⟨_, rfl⟩, _, rfl, _, ix 8 (by decide), _, rfl, _, ix 9 (by decide), _, if_pos (show 2 ≤ sizeLine by omega), _, _, rfl, rfl, (show 8 + 2 ≤ sizeLine by omega),
    ⟨_, rfl⟩, _, rfl, _, ix 10 (by decide), _, rfl, _, ix 11 (by decide), _, if_pos (show 2 ≤ sizeLine by omega), _, _, rfl, rfl, (show 10 + 2 ≤ sizeLine by omega),
    ⟨_, rfl⟩, _, rfl, _, ix 12 (by decide), _, rfl, _, ix 13 (by decide), _, if_pos (show 2 ≤ sizeLine by omega), _, _, rfl, rfl, (show 12 + 2 ≤ sizeLine by omega),
    ⟨_, rfl⟩, _, rfl, _, ix 14 (by decide), _, rfl, _, ix 15 (by decide), _, if_pos (show 2 ≤ sizeLine by omega), _, _, rfl, rfl, (show 14 + 2 ≤ sizeLine by omega),
    ⟨_, rfl⟩, _, rfl, _, ix 16 (by decide), _, rfl, _, ix 17 (by decide), _, if_pos (show 2 ≤ sizeLine by omega), _, _, rfl, rfl, (show 16 + 2 ≤ sizeLine by omega),
    ⟨_, rfl⟩, _, rfl, _, ix 18 (by decide), _, rfl, _, ix 19 (by decide), _, if_pos (show 2 ≤ sizeLine by omega), _, _, rfl, rfl, (show 18 + 2 ≤ sizeLine by omega),
    ⟨_, rfl⟩, _, rfl, _, ix 20 (by decide), _, rfl, _, ix 21 (by decide), _, if_pos (show 2 ≤ sizeLine by omega), _, _, rfl, rfl, (show 20 + 2 ≤ sizeLine by omega),
    ⟨_, rfl⟩, _, rfl, _, ix 22 (by decide), _, rfl, _, ix 23 (by decide), _, if_pos (show 2 ≤ sizeLine by omega), _, _, rfl, rfl, (show 22 + 2 ≤ sizeLine by omega),
    ⟨_, rfl⟩, _, rfl, _, ix 24 (by decide), _, rfl, _, ix 25 (by decide), _, if_pos (show 2 ≤ sizeLine by omega), _, _, rfl, rfl, (show 24 + 2 ≤ sizeLine by omega),
    ⟨_, rfl⟩, _, rfl, _, ix 26 (by decide), _, rfl, _, ix 27 (by decide), _, if_pos (show 2 ≤ sizeLine by omega), _, _, rfl, rfl, (show 26 + 2 ≤ sizeLine by omega),
    ⟨_, rfl⟩, _, rfl, _, ix 28 (by decide), _, if_pos (show 1 ≤ sizeLine by omega), _, _, rfl, rfl, (show 28 + 1 ≤ sizeLine by omega), _, rfl, q⟩
theorem t_is_caught {Q : D → Prop} {E : XP} {v : D} (q : Q (.bl true)) : m__law_is_caught [v] Q E := by
  unfold m__law_is_caught g__law_is_caught
  have i1 : opIsX nC nX 1 (.exc 1 v) = some (.bl true) := rfl
  have i2 : opIsVE nX (.exc 1 v) = some (.bl true) := rfl
  exact ⟨v, rfl, by decide, _, rfl, _, i1, _, rfl, iteT ⟨_, rfl, _, i2, q⟩⟩
end
def oddL : List D := [.non, .bl true, .bl false, .int 0, .int 1, .int (-1), .int 10, .str "", .str "o", .str "#", .str ".", .str "a", .tup [], .lst [], .dk [] [], .tup [.tup []], .tup [.int 0], .lst [.int 0], .tup [.str "o"], .tup [.bl true]] ++ [.tup [.tup [.int 0, .int 0]], .tup [.str "row", .int 0], .dk [.inr "row"] [.int 0], .str "row", .tup [.int 0, .int 0, .int 0], .tup [.tup [.int 0, .int 0], .tup [.int 0, .int 0]], .int 100000000]
theorem odd_se : (oddL.all fun v => seD 0 v) = true := by decide +kernel
theorem odd_wt : (oddL.all fun v => decide (wtD (.lst (List.replicate 29 v)) ≤ 1000000) && decide (dpD (.lst (List.replicate 29 v)) ≤ 64)) = true := by decide +kernel
def plainB : D → Bool
  | .ins _ _ => false
  | _ => true
theorem odd_pl : (oddL.all plainB) = true := by decide +kernel
theorem odd_ok {v : D} (h : v ∈ oddL) : SelfE v ∧ seD 0 v = true := by
  have s := List.all_eq_true.mp odd_se v h
  have pl := List.all_eq_true.mp odd_pl v h
  refine ⟨?_, s⟩
  cases v with
  | lst l =>
    refine self_eq ?_ (fun _ _ z => by cases z)
    have d : dataD (.lst l) = true := (Bool.or_eq_true_iff.mp s).elim id fun z => nomatch z
    unfold dataD at d
    unfold opEq eqD
    cases e : toPy (.lst l) with
    | none =>
      rw [e] at d
      cases d
    | some p =>
      rw [e] at d
      obtain ⟨h1, h2⟩ := Bool.and_eq_true_iff.mp d
      show Option.map D.bl (if SeqAt.shaped p = true ∧ SeqAt.shaped p = true then some (PyData.eqv p p) else none) = _
      rw [if_pos ⟨h1, h1⟩, h2]
      rfl
  | _ => exact self_se (se_mono s) fun _ z => by cases z
section
variable {c : Nat} {Q : D → Nat → Prop} {E : XP}
theorem t_odd (hc : c < 800000) (k : ∀ v ∈ oddL, Q v (c + 1)) : m__law_odd [] c Q E := by
  unfold m__law_odd g__law_odd
  have z := sizeLine_eq
  have ng : opNeg (.int 1) = some (.int (-1)) := rfl
  have pw : opPow (.int 10) (.int 8) = some (.int 100000000) := rfl
  refine fun a => ?_
  simp only [evB, evD, Sl.obj.injEq, eq_self, forall_const, Prod.mk.injEq, List.getElem?_cons_zero, List.getElem?_cons_succ, List.set_cons_zero, List.set_cons_succ, List.map_cons, List.map_nil, List.cons_append, List.nil_append, List.append_nil, List.length_cons, List.length_nil, List.replicate_succ, List.replicate_zero, Nat.reduceAdd, Nat.reduceSub, D.bl.injEq, D.int.injEq, D.str.injEq, D.tup.injEq, D.lst.injEq, D.ins.injEq, Sl.val.injEq, Sl.own.injEq, Option.some.injEq, exists_eq_left, exists_eq_left', exists_eq_right, exists_eq_right', exists_and_left, true_and, and_true, Option.bind_some, Option.map_some, exists_eq, exists_eq', Nat.reduceLT, Nat.lt_irrefl, Nat.reduceEqDiff, Nat.reduceLeDiff, Nat.zero_lt_succ, Int.toNat_natCast, Int.ofNat_lt, Int.ofNat_le, Int.natCast_inj, Bool.not_true, Bool.not_false, Bool.false_eq_true, if_false, ite_true, ite_false, reduceIte, ↓reduceIte, List.mem_cons, List.not_mem_nil, or_false, false_or, true_or, or_true, decide_true, decide_false, reduceCtorEq, false_and, and_false, and_assoc, List.length_map, not_false_eq_true, exists_false, exists_const, ge_iff_le, gt_iff_lt, gs, look, wipeE, nC, ng, pw, eCallP, Sl.pot.injEq]
  refine ⟨_, if_pos (show 20 ≤ sizeLine by omega), _, add_llN (show 20 + 7 ≤ sizeLine by omega), t_law_of (Nat.zero_lt_succ _) (show 27 < 1000 by decide) (by omega) fun v hv => k v hv⟩
theorem t_law_smallM {m : Nat} (h0 : 0 < m) (h1 : m ≤ 10) (hc : c < 700000) (k : ∀ g t w c', Brd g t w → t ≤ m → w ≤ m → c' ≤ c + 103 → Q (.tup (g.map rowD)) c') : m__law_small_rows [.int (m : Int)] c Q E := by
  unfold m__law_small_rows g__law_small_rows
  refine fun a => ⟨⟨a, c, rfl⟩, _, rfl, a, c, rfl, rfl, t_law_size h0 h1 (by omega) fun t w t1 t2 w1 w2 => ⟨_, rfl, ?_⟩⟩
  exact ⟨⟨a, c + 2, rfl⟩, _, rfl, _, rfl, a, c + 2, rfl, rfl, t_law_rows t1 (by omega) w1 (by omega) (by omega) fun g c' hb h => ⟨c', rfl, k g t w c' hb t2 w2 (by omega)⟩⟩
end
section
variable {g : List (List Bool)} {f : Nat × Nat → Bool} {t w : Nat} {r s : Nat → Bool}
theorem self_board : SelfE (boardD g) := fun Q E q => .inl (.inl (by
  show eqW nC _ (boardD g) (boardD g) Q E
  rw [eqW_board]
  exact ⟨_, _, rfl, rfl, rfl, by decide, t_Board_eq.mpr ⟨_, rfl, by rw [decide_eq_true rfl]; exact q⟩⟩))
theorem self_pic : SelfE (picD g f) := fun Q E q => .inl (.inl ⟨_, _, rfl, rfl, rfl, by decide, t_Picture_eq.mpr ⟨_, rfl, by rw [decide_eq_true rfl, decide_eq_true rfl]; exact q⟩⟩)
theorem self_dead : SelfE (deadD g t w r s) := fun Q E q => .inl (.inl ⟨_, _, rfl, rfl, rfl, by decide, t_Dead_eq.mpr ⟨_, rfl, by rw [decide_eq_true rfl, decide_eq_true rfl]; exact q⟩⟩)
theorem goodCsM {α : Type} {n : Nat} {f : α → D} : ∀ {l : List α}, (∀ x ∈ l, goodC n (f x) = true) → goodCs n (l.map f) = true
  | [], _ => rfl
  | x :: l, h => by
    show (goodC n (f x) && goodCs n (l.map f)) = true
    rw [h x (List.mem_cons_self ..), goodCsM fun y hy => h y (List.mem_cons_of_mem _ hy)]
    rfl
theorem goodBd {n : Nat} (h : 0 < n) : goodC n (boardD g) = true := by
  show (decide (0 < n) && (goodCs n (g.map rowD) && (goodCs n ((dotsOf g).map dotT) && (goodCs n ((dotsOf g).map fun _ => D.bl true) && true)))) = true
  rw [decide_eq_true h, goodCsM fun _ _ => rfl, goodCsM fun _ _ => rfl, goodCsM fun _ _ => rfl]
  rfl
theorem self_tupB : SelfE (.tup [boardD g]) := fun Q E q => by
  have gd : goodC nC (.tup [boardD g]) = true := by
    show (goodC nC (boardD g) && true) = true
    rw [goodBd (by decide)]
    rfl
  have eb : EqN tab0 0 (boardD g) (boardD g) true := .inr ⟨0, m_Board___eq__, boardF g, boardF g, rfl, rfl, rfl, t_Board_eq.mpr (by rw [decide_eq_true rfl]), fun _ => rfl⟩
  refine .inl (.inr (.inl ⟨[boardD g], [boardD g], true, rfl, rfl, gd, gd, .inr ⟨[boardD g], [boardD g], fun _ => true, rfl, rfl, fun i x y hx hy => ?_, rfl⟩, q⟩))
  rw [hx] at hy
  cases hy
  rw [List.mem_singleton.mp (List.mem_of_getElem? hx)]
  exact .inl (.inl (.inl eb))
end
theorem self_pair {x y : D} (h1 : seD 0 x = true) (h2 : seD 0 y = true) : SelfE (.tup [x, .lst [y]]) := self_se (by
  have a : seD 2 x = true := se_mono h1
  have b : seD 2 (.lst [y]) = true := by
    show (seD 1 (.lst [y]) || [y].all (seD 1)) = true
    have : seD 1 y = true := se_mono h2
    rw [List.all_cons, this]
    simp
  show (seD 2 (.tup [x, .lst [y]]) || [x, D.lst [y]].all (seD 2)) = true
  rw [List.all_cons, List.all_cons, a, b]
  simp) fun _ z => by cases z
theorem dead0 {g : List (List Bool)} {t w : Nat} {Q : List D → Prop} {E : XP} (hb : Brd g t w) (q : Q (deadF g t w (fun _ => false) fun _ => false)) : m_Dead___init__ [boardD g, .tup [], .tup []] Q E := by
  have h := (t_Dead_init (r := fun _ => false) (c := fun _ => false) (E := E) hb).mpr q
  have e : ∀ n, natsD (nums n fun _ => false) = [] := fun n => by
    have : nums n (fun _ => false) = [] := List.filter_eq_nil_iff.mpr fun _ _ => by simp
    rw [this]
    rfl
  rw [e, e] at h
  exact h
theorem pic0 {g : List (List Bool)} {t w : Nat} {Q : List D → Prop} {E : XP} (hb : Brd g t w) (q : Q (picF g fun _ => false)) : m_Picture___init__ [boardD g, .tup []] Q E := by
  have h := (t_Picture_init (f := fun _ => false) (E := E) hb).mpr q
  have e : lits g (fun _ => false) = [] := List.filter_eq_nil_iff.mpr fun _ _ => by simp
  rw [e] at h
  exact h
section
variable {a : Addr} {c : Nat} {R B S : D} {De : DeT} {E : XP}
theorem t_body {x : D} (hx : SelfE x) {s6 s7 s8 : Sl} (hN : ∀ s4 s6 s7 s8 : Sl, De.nx [.pot a c, .val R, .val B, .val S, s4, .no, s6, s7, s8, .no]) : (sSeq (sSet 6 (xVal (eCallN 1 m__law_all_of [] (aCons (eVar 4) aNil)))) (sSeq (sIf (bOr (bNot (bVal (e1 (o1 opAll) (eMade (oLc (iAny (eVar 6)) (gN 8) bYes (e2 (eqAnyS nC [(0, 2, m_Board___eq__), (1, 2, m_Picture___eq__), (2, 2, m_Dead___eq__)]) (eXv nX (eVar 8)) (eVar 4)) [8]))))) (bNot (bVal (eCallN 1 m__law_is_caught [] (aCons (eVar 4) aNil))))) (sRet (eC (.bl false))) sNil) (sFor (iEnumLD (eVar 6)) (gT [(gN 7), (gN 8)]) (sIf (bOr (bVal (e2 (o2 opNe) (eCallN 1 m__law_kinds_of [] (aCons (eVar 8) aNil)) (eMade (oLc (iRange1 (e1 (o1 opLen) (eVar 6))) (gN 9) bYes (e2 (o2 opEq) (eVar 9) (eVar 7)) [9])))) (bNot (bVal (e1 (o1 (opIsX nC nX 0)) (eVar 8))))) (sRet (eC (.bl false))) sNil)))) De [.pot a c, .val R, .val B, .val S, .val x, .no, s6, s7, s8, .no] E := by
  have z := sizeLine_eq
  refine ⟨x, rfl, rfl, t_all_of ?_⟩
  refine ⟨.lst (errs x), rfl, errs x, rfl, ?_⟩
  refine lcD_of (enc := fun i : Nat => D.exc (i + 1) x) (fun _ => true) (fun _ => .bl true) (List.range 29) [] (by rw [List.length_range]; show 0 + 29 ≤ _; omega) (fun i hi A B hA _ => ?_) ?_
  · have hi := List.mem_range.mp hi
    exact ⟨.exc (i + 1) x, rfl, i + 1, x, rfl, (by show i + 1 < 30; omega), x, rfl, hx _ _ (hA rfl)⟩
  have ea : opAll (.lst ([] ++ ((List.range 29).filter fun _ => true).map fun _ => D.bl true)) = some (.bl true) := by rfl
  refine ⟨.bl true, ea, true, rfl, ?_⟩
  refine iteF ⟨x, rfl, rfl, t_is_caught ⟨true, rfl, iteF ?_⟩⟩
  refine ⟨.lst (errs x), rfl, errs x, rfl, ?_⟩
  have en : enumD (errs x) = (List.range 29).map fun i : Nat => D.tup [.int (i : Int), .exc (i + 1) x] := by rfl
  rw [en]
  refine loopD_inv (enc := fun i : Nat => D.tup [.int (i : Int), .exc (i + 1) x]) (I := fun l ρ => (∀ i ∈ l, i < 29) ∧ ∃ s7 s8 : Sl, ρ = [.pot a c, .val R, .val B, .val S, .val x, .no, .val (.lst (errs x)), s7, s8, .no]) (fun i l ρ h N hN' => ?_) (fun ρ h => ?_) (List.range 29) _ ⟨fun i hi => List.mem_range.mp hi, s7, .no, rfl⟩
  · obtain ⟨h, s7, s8, rfl⟩ := h
    have hi := h i List.mem_cons_self
    refine ⟨_, rfl, ?_⟩
    refine ⟨.exc (i + 1) x, rfl, rfl, t_kinds_of (show i + 1 < 30 by omega) ?_⟩
    refine ⟨.lst (errs x), rfl, .int 29, rfl, 29, rfl, by decide, ?_⟩
    refine lcD_of (enc := fun j : Nat => D.int (0 + (j : Int))) (fun _ => true) (fun j => .bl (decide (j = i))) (List.range 29) [] (by rw [List.length_range]; show 0 + 29 ≤ _; omega) (fun j hj A B hA _ => ?_) ?_
    · have eq : opEq (.int (0 + (j : Int))) (.int (i : Int)) = some (.bl (decide (j = i))) := by
        rw [eq_int, show decide ((0 : Int) + (j : Int) = (i : Int)) = decide (j = i) from decide_eq_decide.mpr (by omega)]
      exact ⟨_, rfl, _, rfl, _, eq, hA rfl⟩
    have el : ([] ++ ((List.range 29).filter fun _ => true).map fun j => D.bl (decide (j = i))) = ((List.range 29).map fun j => decide (j = i)).map D.bl := by rfl
    have ek : kd (i + 1) = (List.range 29).map fun j => decide (j = i) := List.map_congr_left fun j _ => decide_eq_decide.mpr (by omega)
    have ne : opNe (.lst ((kd (i + 1)).map D.bl)) (.lst ([] ++ ((List.range 29).filter fun _ => true).map fun j => D.bl (decide (j = i)))) = some (.bl false) := by
      rw [el, opNe_bools, decide_eq_true ek]
      rfl
    have is0 : opIsX nC nX 0 (.exc (i + 1) x) = some (.bl true) := by
      show (if i + 1 < 30 then some (D.bl (decide (i + 1 = 0) || decide (0 = 0))) else none) = _
      rw [if_pos (by omega), decide_eq_true rfl, Bool.or_true]
    exact ⟨.bl false, ne, false, rfl, iteF ⟨.exc (i + 1) x, rfl, .bl true, is0, true, rfl, iteF (hN' _ ⟨fun y hy => h y (List.mem_cons_of_mem _ hy), _, _, rfl⟩)⟩⟩
  · obtain ⟨_, s7, s8, rfl⟩ := h
    exact hN _ _ _ _
end
theorem right_ : Right m__law_right := by
  intro c hc
  unfold m__law_right g__law_right
  have z := sizeLine_eq
  refine fun a => ?_
  refine ⟨⟨a, c, rfl⟩, a, c, rfl, rfl, t_law_smallM (m := 4) (by decide) (by decide) (by omega) fun g t w c1 hb t4 w4 h1 => ?_⟩
  refine ⟨.tup (g.map rowD), rfl, rfl, (t_Board_init hb).mpr ?_⟩
  refine ⟨⟨a, c1, rfl⟩, a, c1, rfl, rfl, t_odd (by omega) fun v1 hv1 => ?_⟩
  refine ⟨⟨a, c1 + 1, rfl⟩, a, c1 + 1, rfl, rfl, t_odd (by omega) fun v2 hv2 => ?_⟩
  refine ⟨⟨a, c1 + 1 + 1, rfl⟩, a, c1 + 1 + 1, rfl, rfl, t_odd (by omega) fun v3 hv3 => ?_⟩
  refine ⟨_, if_pos (show 1 ≤ sizeLine by omega), _, if_pos (show 2 ≤ sizeLine by omega), (show 2 ≤ sizeLine by omega), ?_⟩
  refine ⟨⟨_, rfl⟩, ⟨a, c1 + 1 + 1 + 1, rfl⟩, boardD g, rfl, boardD g, rfl, _, if_pos (show 1 ≤ sizeLine by omega), boardD g, rfl, rfl, dead0 hb ?_⟩
  refine ⟨boardD g, rfl, rfl, pic0 hb ?_⟩
  refine ⟨_, if_pos (show 4 ≤ sizeLine by omega), a, c1 + 1 + 1 + 1, rfl, rfl, t_law_of (Nat.zero_lt_succ _) (show 4 < 1000 by decide) (by omega) fun v4 hv4 => ?_⟩
  have h4 : SelfE v4 := by
    simp only [List.mem_cons, List.not_mem_nil, or_false] at hv4
    rcases hv4 with rfl | rfl | rfl | rfl
    · exact self_board
    · exact self_tupB
    · exact self_dead (t := t) (w := w) (r := fun _ => false) (s := fun _ => false)
    · exact self_pic (f := fun _ => false)
  refine ⟨_, rfl, (show 2 < sizeLine by omega), ?_⟩
  refine ⟨_, rfl, _, rfl, ?_⟩
  refine loopD_inv (enc := fun d : D => d) (I := fun l ρ => (∀ x ∈ l, SelfE x) ∧ ∃ s4 s6 s7 s8 : Sl, ρ = [.pot a (c1 + 1 + 1 + 1 + 1), .val (.tup (g.map rowD)), .val (boardD g), .val (.lst [v1, .tup [v2, .lst [v3]], v4]), s4, .no, s6, s7, s8, .no]) (fun x l ρ h N hN => ?_) (fun ρ h => ?_) [v1, .tup [v2, .lst [v3]], v4] _ ⟨fun x hx => ?_, .no, .no, .no, .no, rfl⟩
  · obtain ⟨h, s4, s6, s7, s8, rfl⟩ := h
    exact t_body (h x List.mem_cons_self) fun s4 s6 s7 s8 => hN _ ⟨fun y hy => h y (List.mem_cons_of_mem _ hy), s4, s6, s7, s8, rfl⟩
  · obtain ⟨_, s4, s6, s7, s8, rfl⟩ := h
    refine ⟨_, rfl, v1, at_0, rfl, t_all_of ?_⟩
    refine ⟨errs v1, rfl, ?_⟩
    refine lcD_of (enc := fun i : Nat => D.exc (i + 1) v1) (fun _ => true) (fun _ => v1) (List.range 29) [] (by rw [List.length_range]; show 0 + 29 ≤ _; omega) (fun i hi A B hA _ => ?_) ?_
    · have hi := List.mem_range.mp hi
      exact ⟨.exc (i + 1) v1, rfl, i + 1, v1, rfl, (by show i + 1 < 30; omega), hA rfl⟩
    have ek : ([] ++ ((List.range 29).filter fun _ => true).map fun _ => v1) = List.replicate 29 v1 := by rfl
    rw [ek]
    have wd := List.all_eq_true.mp odd_wt v1 hv1
    obtain ⟨w1, w2⟩ := Bool.and_eq_true_iff.mp wd
    obtain ⟨y, hy⟩ := repr_any (of_decide_eq_true w1) (of_decide_eq_true w2)
    have mu : opMulA (.lst [v1]) (.int 29) = some (.lst (List.replicate 29 v1)) := by rfl
    exact ⟨_, rfl, _, hy, _, rfl, v1, at_0, _, if_pos (show 1 ≤ sizeLine by omega), _, rfl, .int 29, rfl, _, mu, _, hy, _, by rw [eq_str, decide_eq_true rfl], _, rfl, rfl⟩
  · simp only [List.mem_cons, List.not_mem_nil, or_false] at hx
    rcases hx with rfl | rfl | rfl
    · exact (odd_ok hv1).1
    · exact self_pair (odd_ok hv2).2 (odd_ok hv3).2
    · exact h4
end Fd

open PySem PySem.W PySem.Calls PyProof.Rows
set_option maxHeartbeats 0 in
theorem PySem.Challenge.cw_wiresindark_k00_errors_keep_their_value_holds : PySem.Challenge.rw_wiresindark_k00_errors_keep_their_value.Holds := by
  refine Fd.enHolds fun said => ?_
  refine HandSHeadRun.head_any (r := OpenLaw.row PySem.Challenge.rw_wiresindark_k00_errors_keep_their_value) (q := view (OpenLaw.row PySem.Challenge.rw_wiresindark_k00_errors_keep_their_value).prog [74]) (H := Fd.enK) (ob := Fd.enO) (M := 16000) (loose := Fd.enL) (d := HandSHeadRun.topDef (OpenLaw.row PySem.Challenge.rw_wiresindark_k00_errors_keep_their_value).prog 74) (kwd := []) Fd.enO_eq
    Fd.enEq Fd.enFe Fd.enRun Fd.enHd Fd.enHp (by kernel_rfl) (by rfl) said Fd.enOk Fd.enBa Fd.enHw ?hc
  case hc =>
    refine Wd.walk_ofGT (l := PySem.Challenge.rw_wiresindark_k00_errors_keep_their_value) (n := 63) (k := 9) (x := "_law_script") (CX := fun _ => L2.CX0) rfl (by decide) (by kernel_rfl) ⟨rfl, by decide, by decide⟩ ?F (fun _ _ _ _ _ z => z)
    intro w mg fa h Y G hmg0
    obtain ⟨K, KX, c⟩ := Y
    have hmg : mg ("law" : PySem.Str) = some (.ref fa) := by
      have e : (HandSHeadRun.topDef (OpenLaw.row PySem.Challenge.rw_wiresindark_k00_errors_keep_their_value).prog 74).name = ("law" : PySem.Str) := by kernel_rfl
      rw [← e]
      exact hmg0
    obtain ⟨fd, hb, hF⟩ := Fd.facts (P := (PySem.Challenge.rw_wiresindark_k00_errors_keep_their_value).prog) (w := w) Fd.right_ KX G hmg (by decide +kernel) c
    have mem : ∀ p ∈ Fd.tfD.map (He.cT K), ∃ q ∈ Fd.tfD, He.cT K q = p := fun p hp => List.mem_map.mp hp
    refine ⟨K, fd, Fd.spLaw (Fd.cn w K), Fd.tfD.map (He.cT K), KX, fun p hp => ?_, fun p hp => ?_, fun p hp => ?_, hb, fun H a ns hl hH hS => ⟨a, ns, rfl, hS, fun p hp => ?_, fun _ => rfl⟩, hF⟩
    · obtain ⟨q, hq, rfl⟩ := mem p hp
      exact c.empty q hq
    · obtain ⟨q, hq, rfl⟩ := mem p hp
      exact c.out q hq
    · obtain ⟨q, hq, rfl⟩ := mem p hp
      exact c.hd q hq
    · obtain ⟨q, hq, rfl⟩ := List.mem_map.mp hp
      exact LamX.TabS.nil (hH _ (List.mem_map.mpr ⟨q, hq, rfl⟩))
