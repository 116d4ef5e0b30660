import PyProof.Rows.All
import Wide.All
import OpenK.AllK
import Wide.FinOn
import HandS.ForMost
import HandS.Wide
import HandS.Codes
import PySem.Challenge.RW_thinnedpast_k01_works_read
import HandS.IsInst
import HandS.Walk
import HandS.CallLocal
import HandS.Star
import HandS.NoneIn
import HandS.TupAny
import HandS.Lambda
import KE.KNest
import KE.KEqDict
import HandS.DictComp
import HandS.TupLe
import KE.KDictSum
import PyProof.MinMaxWalk
import HandS.More
import HandS.WordsDict
import HandS.Property
import HandS.OwnEq
import HandS.Flow
import HandS.Exc
import HandS.WordsExc
import HandS.Small
import HandS.Style
import HandS.SortRule
import KE.KItemsList
import HandS.Conv
import HandS.DictTup
import HandS.MakeKw
import HandS.MakeKwOnly
import HandS.EndTab
import KE.KStateDown
import HandS.Defaults
import HandS.Head0
import HandS.Head1
import HandS.Head2
import HandS.HeadEnd
import HandS.HeadHook1
import HandS.HeadHook2
import HandS.HeadHook3
import HandS.HeadHook4
section
set_option Elab.async false
set_option maxRecDepth 100000
set_option maxHeartbeats 4000000
namespace WK
open PySem L2 PyProof.Rows
def top (i : Nat) : Stmt := PySem.Challenge.pw_thinnedpast_k01_works_read.main.body.getD i (.Pass ⟨0, 0, 0, 0⟩)
abbrev sTake : Stmt := top 51
abbrev sOf : Stmt := top 52
abbrev sPotOf : Stmt := top 60

/-! the pot: three ints in a list -/
def potL (a b c : Int) : List V := [.int a, .int b, .int c]
structure Pot (H : Hp) (p : Addr) (n : Nat) : Prop where
  ex : ∃ a b c : Int, H p = some (.lst (potL a b c)) ∧ 0 ≤ b ∧ b < 2 ^ 62 ∧ 0 ≤ c ∧ c ≤ n
/-- H' is H but for the pot at p, which stands at most n times drawn from -/
structure Drawn (H : Hp) (p : Addr) (n : Nat) (H' : Hp) : Prop where
  pot : Pot H' p n
  rest : ∀ a o, a ≠ p → H a = some o → H' a = some o
theorem upd_at {H : Hp} {p : Addr} {o : HO} (h : H p = some o) : upd H p o = H := by
  funext b
  by_cases hb : b = p
  · rw [hb, upd_same, h]
  · rw [upd_ne hb]
theorem Pot.mono {H : Hp} {p : Addr} {n m : Nat} (h : Pot H p n) (l : n ≤ m) : Pot H p m := by
  obtain ⟨a, b, c, e, h1, h2, h3, h4⟩ := h.ex
  exact ⟨a, b, c, e, h1, h2, h3, by omega⟩
theorem Drawn.refl {H : Hp} {p : Addr} {n : Nat} (h : Pot H p n) : Drawn H p n H := ⟨h, fun _ _ _ z => z⟩
theorem Drawn.trans {H H1 H2 : Hp} {p : Addr} {n m : Nat} (a : Drawn H p n H1) (b : Drawn H1 p m H2) : Drawn H p m H2 :=
  ⟨b.pot, fun x o hx z => b.rest x o hx (a.rest x o hx z)⟩

def spTake : Sp := fun vs H Q _ => ∃ (p : Addr) (n : Nat) (m : Int), vs = [.ref p, .int m] ∧ Pot H p n ∧ n < 1000000 ∧ 0 < m ∧ m < 1000000 ∧
  ∀ (r : Int) (H' : Hp), 0 ≤ r → r < m → Drawn H p (n + 1) H' → Q (.int r) H'

section
variable {P : Program} {w : World} {K : PySem.W.Frag} {mg : Str → Option Value} {base : Heap}
theorem scT : FnScope ["_law_pot", "_law_upto", "_law_digit", "_law_prime", "_law_mixed"] ["_law_pot", "_law_upto"] (defScope sTake) := ⟨rfl, rfl, rfl, by decide +kernel, rfl, by decide +kernel, by decide +kernel⟩
theorem op_powX {X : Cx} : OpR X (binaryOp .Pow) (rI (fun i j => 0 ≤ j ∧ (Builtin.Int.intBits i : Int) * j ≤ 2 ^ 27) fun i j => .int (i ^ j.toNat)) := opI fun _ _ _ _ _ _ _ hc q => pow_int hc.1 hc.2 q
theorem prime_at (c : Int) : ∃ q : Int, atI ([.int 2147483647, .int 2147483629, .int 2147483587, .int 2147483579, .int 2147483563] : List V) (c % 5) = some (.int q) ∧ 0 < q ∧ q < 2 ^ 31 := by
  have h : c % 5 = 0 ∨ c % 5 = 1 ∨ c % 5 = 2 ∨ c % 5 = 3 ∨ c % 5 = 4 := by omega
  rcases h with h | h | h | h | h <;> rw [h]
  · exact ⟨2147483647, rfl, by decide, by decide⟩
  · exact ⟨2147483629, rfl, by decide, by decide⟩
  · exact ⟨2147483587, rfl, by decide, by decide⟩
  · exact ⟨2147483579, rfl, by decide, by decide⟩
  · exact ⟨2147483563, rfl, by decide, by decide⟩
theorem ok_take {f : Addr} {fd : FuncData} (F : Fun K "_law_take" "_law_take" sTake f fd) (mi : mg "int" = none) : FnOk P w K mg base CX0 1 f fd ["_law_pot", "_law_upto"] spTake := by
  refine F.ok scT (fun vs H Q E h => ?_) (fun cdv A outer s H vs Q E hr h => ?_)
  · obtain ⟨p, n, m, rfl, _⟩ := h
    rfl
  · obtain ⟨p, n, m, rfl, hp, hn, hm0, hm1, k⟩ := h
    obtain ⟨a, b, c, e, hb0, hb1, hc0, hc1⟩ := hp.ex
    refine ⟨_, pss_cons (ps_if (pt_cmpR op_gt (pe_ix ix_list (pv 0) pe_int (fun _ _ => rfl)) pe_int (nomark _))
        (pss_cons (ps_set (i := 2) scT.nd rfl (Or.inl rfl) (pe_op op_mod (pe_callTy call_int1 (by rfl) mi boot_int (pa_cons (pe_ix ix_list (pv 0) pe_int (fun _ _ => rfl)) pa_nil)) (pv 1)))
        (pss_cons (ps_asg (pe_op op_fdiv (pe_ix ix_list (pv 0) pe_int (fun _ _ => rfl)) (pv 1)) (pg_sub (pv 0) pe_int set_list))
        (pss_one (ps_ret (pv 2))))) pss_nil)
      (pss_cons (ps_asg (pe_op op_add (pe_ix ix_list (pv 0) pe_int (fun _ _ => rfl)) pe_int) (pg_sub (pv 0) pe_int set_list))
      (pss_cons (ps_set (i := 3) scT.nd rfl (Or.inl rfl) (pe_ix ix_list (pe_lst (pa_cons pe_int (pa_cons pe_int (pa_cons pe_int (pa_cons pe_int (pa_cons pe_int pa_nil))))))
          (pe_op op_mod (pe_callTy call_int1 (by rfl) mi boot_int (pa_cons (pe_ix ix_list (pv 0) pe_int (fun _ _ => rfl)) pa_nil)) pe_int) (fun _ _ => rfl)))
      (pss_cons (ps_set (i := 4) scT.nd rfl (Or.inl rfl) (pe_op op_mod (pe_op op_pow (pe_callTy call_int1 (by rfl) mi boot_int (pa_cons
          (pe_op op_add (pe_op op_add (pe_ix ix_list (pv 0) pe_int (fun _ _ => rfl)) (pe_op op_mul (pe_op op_mul pe_int (pe_ix ix_list (pv 0) pe_int (fun _ _ => rfl))) (pe_ix ix_list (pv 0) pe_int (fun _ _ => rfl)))) pe_int) pa_nil)) pe_int) (pv 3)))
      (pss_one (ps_ret (pe_op op_mod (pe_op op_fdiv (pe_op op_mod (pe_callTy call_int1 (by rfl) mi boot_int (pa_cons
          (pe_op op_mul (pv 4) (pe_op op_add (pe_op op_mod (pe_callTy call_int1 (by rfl) mi boot_int (pa_cons (pv 4) pa_nil)) pe_int) (pe_op op_mul pe_int (pe_ix ix_list (pv 0) pe_int (fun _ _ => rfl))))) pa_nil)) pe_int) pe_int) (pv 1))))))), ?_⟩
    have i0 : ∀ {a b c : Int}, atI (potL a b c) 0 = some (.int a) := rfl
    have i1 : ∀ {a b c : Int}, atI (potL a b c) 1 = some (.int b) := rfl
    have i2 : ∀ {a b c : Int}, atI (potL a b c) 2 = some (.int c) := rfl
    refine ⟨_, rfl, p, _, _, _, rfl, rfl, SqL.of e, i0, _, _, rfl, rfl, _, rfl, ?_⟩
    refine ite2 (fun h => ?_) (fun h => ?_)
    · refine ⟨_, rfl, p, _, _, _, rfl, rfl, SqL.of e, i0, .inl ⟨_, rfl, _, rfl, _, _, rfl, rfl, hm0, ?_⟩⟩
      refine ⟨_, rfl, p, _, _, _, rfl, rfl, SqL.of e, i0, _, rfl, _, _, rfl, rfl, ⟨hm0, by omega⟩, ?_⟩
      refine ⟨_, rfl, p, _, _, _, rfl, rfl, e, rfl, ?_⟩
      refine ⟨_, rfl, ?_⟩
      refine k _ _ (Int.emod_nonneg _ (by omega)) (Int.emod_lt_of_pos _ hm0) ⟨⟨a / m, b, c, upd_same, hb0, hb1, hc0, by omega⟩, fun x o hx z => by rw [upd_ne hx]; exact z⟩
    · have e1 : ∀ z, (upd H p (.lst (potL a b z))) p = some (.lst (potL a b z)) := fun z => upd_same
      refine ⟨_, rfl, p, _, _, _, rfl, rfl, SqL.of e, i2, _, _, rfl, rfl, ?_⟩
      refine ⟨_, rfl, p, _, _, _, rfl, rfl, e, rfl, ?_⟩
      have e2 : (upd H p (.lst (potL a b (c + 1)))) p = some (.lst (potL a b (c + 1))) := upd_same
      -- prime
      refine ⟨by show 5 ≤ sizeLine; decide, fun l hl => ?_⟩
      have e3 : (upd (upd H p (.lst (potL a b (c + 1)))) l (.lst [.int 2147483647, .int 2147483629, .int 2147483587, .int 2147483579, .int 2147483563])) p = some (.lst (potL a b (c + 1))) := by
        rw [upd_ne (ne_of_none e2 hl)]; exact e2
      obtain ⟨q, hq, hq0, hq1⟩ := prime_at (c + 1)
      refine ⟨_, rfl, p, _, _, _, rfl, rfl, SqL.of e3, i2, .inl ⟨_, rfl, _, _, rfl, rfl, (by show (0 : Int) < 5; decide), l, _, _, _, rfl, rfl, SqL.of upd_same, hq, ?_⟩⟩
      -- mixed
      have hcc : 0 ≤ 60029 * (c + 1) * (c + 1) ∧ 60029 * (c + 1) * (c + 1) ≤ 60029 * (1000000 * 1000000) := by
        have h1 : 0 ≤ (c + 1) * (c + 1) := Int.mul_nonneg (by omega) (by omega)
        have h2 : (c + 1) * (c + 1) ≤ 1000000 * 1000000 := Int.mul_le_mul (by omega) (by omega) (by omega) (by omega)
        rw [Int.mul_assoc]
        omega
      refine ⟨_, rfl, p, _, _, _, rfl, rfl, SqL.of e3, i1, _, rfl, p, _, _, _, rfl, rfl, SqL.of e3, i2, _, _, rfl, rfl, .inl ⟨by decide, by decide⟩, _, rfl, p, _, _, _, rfl, rfl, SqL.of e3, i2,
        _, _, rfl, rfl, .inl ⟨by omega, by omega⟩, _, _, rfl, rfl, _, _, rfl, rfl, .inl ⟨_, rfl, _, _, rfl, rfl, ⟨by decide, by decide, by omega⟩, _, rfl, _, _, rfl, rfl, hq0, ?_⟩⟩
      -- return
      generalize hx : ((b + 60029 * (c + 1) * (c + 1) + 59) ^ Int.toNat 3) % q = x
      have hx0 : 0 ≤ x := by rw [← hx]; exact Int.emod_nonneg _ (by omega)
      have hx1 : x < q := by rw [← hx]; exact Int.emod_lt_of_pos _ hq0
      refine ⟨_, rfl, _, rfl, .inl ⟨_, rfl, _, _, rfl, rfl, (by show (0 : Int) < 10007; decide), _, rfl, p, _, _, _, rfl, rfl, SqL.of e3, i2, _, _, rfl, rfl, .inl ⟨by decide, by decide⟩, _, _, rfl, rfl,
        _, _, rfl, rfl, .inl ⟨by omega, by omega⟩, .inl ⟨_, rfl, _, _, rfl, rfl, (by show (0 : Int) < 2305843009213693951; decide), _, _, rfl, rfl, ⟨by decide, by decide⟩, _, rfl, _, _, rfl, rfl, hm0, ?_⟩⟩⟩
      refine k _ _ (Int.emod_nonneg _ (by omega)) (Int.emod_lt_of_pos _ hm0) ⟨⟨a, b, c + 1, e3, hb0, hb1, by omega, by omega⟩, fun x o hx z => ?_⟩
      have z1 : (upd H p (.lst (potL a b (c + 1)))) x = some o := by rw [upd_ne hx]; exact z
      have z2 : x ≠ l := ne_of_none z1 hl
      show upd _ l _ x = some o
      rw [upd_ne z2]
      exact z1
theorem Drawn.free {H H' : Hp} {p q : Addr} {n : Nat} (d : Drawn H p n H') (h : H' q = none) : H q = none := by
  cases e : H q with
  | none => rfl
  | some o =>
    have hq : q ≠ p := fun z => by
      obtain ⟨a, b, c, e', _⟩ := d.pot.ex
      rw [z, e'] at h
      cases h
    rw [d.rest q o hq e] at h
    cases h
/-! some[take(pot, len(some))]: one of the items -/
def spOf (K : PySem.W.Frag) : Sp := fun vs H Q _ => ∃ (p a : Addr) (n : Nat) (xs : List V), vs = [.ref p, .ref a] ∧ Pot H p n ∧ n < 1000000 ∧ a ≠ p ∧ SqL K H a xs ∧ xs ≠ [] ∧ xs.length < 1000000 ∧
  ∀ (v : V) (H' : Hp), v ∈ xs → Drawn H p (n + 1) H' → Q v H'
theorem scO : FnScope ["_law_pot", "_law_some"] ["_law_pot", "_law_some"] (defScope sOf) := ⟨rfl, rfl, rfl, by decide +kernel, rfl, by decide +kernel, by decide +kernel⟩
theorem SqL_drawn {H H' : Hp} {p a : Addr} {n : Nat} {xs : List V} (d : Drawn H p n H') (ha : a ≠ p) (h : SqL K H a xs) : SqL K H' a xs := by
  rcases h with h | h
  · left
    rcases h with h | ⟨o, h⟩
    · exact .inl (d.rest _ _ ha h)
    · exact .inr ⟨o, d.rest _ _ ha h⟩
  · exact .inr h
theorem ok_of {f fT : Addr} {fd fdT : FuncData} (F : Fun K "_law_of" "_law_of" sOf f fd) (FT : FnOk P w K mg base CX0 1 fT fdT ["_law_pot", "_law_upto"] spTake) (bT : Binds K fdT ["_law_pot", "_law_upto"] []) (mT : mg "_law_take" = some (.ref fT)) (kT : PySem.W.keepIn K (.ref fT) = true) (ml : mg "len" = none) : FnOk P w K mg base CX0 2 f fd ["_law_pot", "_law_some"] (spOf K) := by
  refine F.ok scO (fun vs H Q E h => ?_) (fun cdv A outer s H vs Q E hr h => ?_)
  · obtain ⟨p, a, n, xs, rfl, _⟩ := h
    rfl
  · obtain ⟨p, a, n, xs, rfl, hp, hn, hap, hx, hne, hl, k⟩ := h
    refine ⟨_, pss_one (ps_ret (pe_ix ix_list (pv 1) (pe_call FT hr rfl mT kT bT .nil pass0 (pa_cons (pv 0) (pa_cons (pe_callB call_len_seq (by rfl) ml PySem.boot_len (pa_cons (pv 1) pa_nil)) pa_nil))) (fun _ _ => rfl))), ?_⟩
    refine ⟨_, rfl, _, rfl, _, rfl, a, xs, rfl, .inl hx, p, n, _, rfl, hp, hn, ?_, by omega, fun r H' h0 h1 d => ?_⟩
    · have : xs.length ≠ 0 := fun z => hne (List.length_eq_zero_iff.mp z)
      omega
    · have hr : r.toNat < xs.length := by omega
      have er : ((r.toNat : Nat) : Int) = r := Int.toNat_of_nonneg h0
      have hg : xs[r.toNat]? = some xs[r.toNat] := List.getElem?_eq_getElem hr
      refine ⟨a, xs, r, _, rfl, rfl, SqL_drawn d hap hx, (by rw [← er]; exact atI_nat hg), ?_⟩
      exact k _ _ (List.getElem_mem hr) d
/-! the pot of a cell -/
theorem bit_small (k : Bool) : -(2 ^ 64) < (if k = true then (1 : Int) else 0) ∧ (if k = true then (1 : Int) else 0) < 2 ^ 64 := by cases k <;> decide
def spPotOf (K : PySem.W.Frag) : Sp := fun vs H Q _ => ∃ (a : Addr) (ns : List Int) (k : Nat), vs = [.ref a, .int k] ∧ SqL K H a (ns.map V.int) ∧ ns.length ≤ 63 ∧ k ≤ 100 ∧
  ∀ (p : Addr) (H' : Hp), H p = none → Same H H' → Pot H' p 0 → Q (.ref p) H'
theorem scP : FnScope ["_law_script", "_law_k", "_law_cell", "_law_own"] ["_law_script", "_law_k"] (defScope sPotOf) := ⟨rfl, rfl, rfl, by decide +kernel, rfl, by decide +kernel, by decide +kernel⟩
theorem ok_potOf {f : Addr} {fd : FuncData} (F : Fun K "_law_pot_of" "_law_pot_of" sPotOf f fd) (mi : mg "int" = none) (ma : mg "abs" = none) (ml : mg "len" = none) : FnOk P w K mg base CX0 1 f fd ["_law_script", "_law_k"] (spPotOf K) := by
  refine F.ok scP (fun vs H Q E h => ?_) (fun cdv A outer s H vs Q E hr h => ?_)
  · obtain ⟨a, ns, k, rfl, _⟩ := h
    rfl
  · obtain ⟨a, ns, k, rfl, hs, hl, hk, kk⟩ := h
    refine ⟨_, C8.pss_cut (ps_set (i := 2) scP.nd rfl (Or.inl rfl) (pe_ifExp (pt_cmpR op_lt (pv 1) (pe_callB call_len_seq (by rfl) ml PySem.boot_len (pa_cons (pv 0) pa_nil)) (nomark _))
        (pe_ix ix_list (pv 0) (pv 1) (fun _ _ => rfl)) (pe_op op_add (pe_op op_mul pe_int (pv 1)) pe_int)))
      (pss_cons (ps_set (i := 3) scP.nd rfl (Or.inl rfl) (pe_op op_mul (pe_op op_mod (pe_callTy call_int1 (by rfl) mi boot_int (pa_cons (pe_callB call_abs (by rfl) ma boot_abs (pa_cons (pv 2) pa_nil)) pa_nil))
          (pe_op op_powX (pe_op op_pow pe_int pe_int) pe_int))
        (pe_callTy call_int1 (by rfl) mi boot_int (pa_cons (pe_cmpR op_ge (pe_callB call_abs (by rfl) ma boot_abs (pa_cons (pv 2) pa_nil)) (pe_op op_pow pe_int pe_int) (nomark _)) pa_nil))))
      (pss_one (ps_ret (pe_lst (pa_cons (pv 3) (pa_cons (pe_op op_mod (pe_op op_add (pe_op op_add (pe_op op_mul (pe_op op_mod (pe_callTy call_int1 (by rfl) mi boot_int (pa_cons (pv 2) pa_nil)) pe_int) pe_int)
          (pe_op op_mul (pe_op op_mul pe_int (pv 1)) (pv 1))) pe_int) pe_int) (pa_cons pe_int pa_nil))))))), ?_⟩
    refine ⟨fun σ' H' => ∃ x : Int, σ' = [some (.ref a), some (.int k), some (.int x), none] ∧ H' = H, ?_, ?_⟩
    · refine ⟨_, rfl, _, rfl, a, _, rfl, .inl hs, _, _, rfl, rfl, _, rfl, ?_⟩
      refine ite2 (fun h => ?_) (fun h => ?_)
      · have h' : k < ns.length := by
          have := of_decide_eq_true h
          rw [List.length_map] at this
          omega
        refine ⟨_, rfl, _, rfl, a, _, _, _, rfl, rfl, hs, atI_nat (v := V.int ns[k]) (by rw [List.getElem?_map, List.getElem?_eq_getElem h']; rfl), ?_⟩
        exact ⟨_, rfl, rfl⟩
      · refine ⟨_, rfl, _, _, rfl, rfl, .inl ⟨by decide, by decide⟩, _, _, rfl, rfl, ?_⟩
        exact ⟨_, rfl, rfl⟩
    · rintro σ' H' ⟨x, rfl, rfl⟩
      refine ⟨_, rfl, _, rfl, .inl ⟨_, rfl, _, _, rfl, rfl, ⟨by decide, by decide, by decide⟩, _, _, rfl, rfl, ⟨by decide, by decide +kernel⟩, _, _, rfl, rfl, ?_, ?_⟩⟩
      · show (0 : Int) < _
        decide +kernel
      refine ⟨_, rfl, _, rfl, _, _, rfl, rfl, ⟨by decide, by decide, by decide⟩, _, _, rfl, rfl, .inr ⟨_, rfl, _, _, rfl, rfl, .inr ?_, ?_⟩⟩
      · exact bit_small _
      refine ⟨_, rfl, _, rfl, .inl ⟨_, rfl, _, _, rfl, rfl, (by show (0 : Int) < 2305843009213693951; decide), _, _, rfl, rfl, .inr ⟨by decide, by decide⟩, _, rfl, _, _, rfl, rfl, .inl ⟨by decide, by decide⟩, _, rfl, _, _, rfl, rfl, .inr ⟨by omega, by omega⟩,
        _, _, rfl, rfl, _, _, rfl, rfl, _, _, rfl, rfl, (by show (0 : Int) < 2305843009213693921; decide), by show 3 ≤ sizeLine; decide, fun p hp => ?_⟩⟩
      refine kk p _ hp (fun b o e => by rw [upd_ne (ne_of_none e hp)]; exact e) ⟨_, _, _, upd_same, Int.emod_nonneg _ (by decide), ?_, Int.le_refl 0, Int.le_refl 0⟩
      exact Int.lt_trans (Int.emod_lt_of_pos _ (by decide)) (by decide)
end
end WK
end
section
set_option Elab.async false
set_option linter.all false
set_option maxRecDepth 100000
set_option maxHeartbeats 4000000
namespace WK
open PySem L2 PyProof.Rows
theorem iteY {b : Bool} {A B : Prop} (e : b = true) (h : A) : if b = true then A else B := by rw [if_pos e]; exact h
theorem iteN {b : Bool} {A B : Prop} (e : b = false) (h : B) : if b = true then A else B := by rw [if_neg (by rw [e]; decide)]; exact h
theorem new_same {H : Hp} {q : Addr} {o : HO} (h : H q = none) : Same H (upd H q o) := fun b u e => by rw [upd_ne (ne_of_none e h)]; exact e
theorem same_rf {H : Hp} : Same H H := fun _ _ z => z
theorem same_tr {H H1 H2 : Hp} (a : Same H H1) (b : Same H1 H2) : Same H H2 := fun x o e => b x o (a x o e)
/-- H without what stands at p -/
def del (H : Hp) (p : Addr) : Hp := fun b => if b = p then none else H b
theorem del_sub {H : Hp} {p : Addr} : Same (del H p) H := fun b o e => by
  unfold del at e
  split at e
  · cases e
  · exact e
theorem del_ne {H : Hp} {p b : Addr} (h : b ≠ p) : del H p b = H b := by unfold del; rw [if_neg h]
theorem del_at {H : Hp} {p : Addr} : del H p p = none := by unfold del; rw [if_pos rfl]
theorem del_upd {H : Hp} {p : Addr} {o : HO} : del (upd H p o) p = del H p := by
  funext b
  by_cases h : b = p
  · rw [h, del_at, del_at]
  · rw [del_ne h, del_ne h, upd_ne h]
theorem same_del {H G : Hp} {p : Addr} (s : Same H G) : Same (del H p) (del G p) := fun b o e => by
  by_cases h : b = p
  · rw [h, del_at] at e; cases e
  · rw [del_ne h] at e ⊢; exact s b o e
theorem sub_del {H G : Hp} {p : Addr} (s : Same H G) (n : H p = none) : Same H (del G p) := fun b o e => by
  rw [del_ne (ne_of_none e n)]; exact s b o e
section
variable {J : It} {n : Nat} {G : Hp → Prop} {Y : Nat → Hp → V → Hp → Prop}
/-- a comprehension without a condition whose elements only add to the heap; R tells of each element (it does not rest on the list itself) -/
theorem lc_map (w : Walk J n G Y) {g : TG} {te : TE} {vs : List Nat} {σ : L2.St} {H1 : Hp} {D : Addr} {Qd : Hp → Prop} (R : Nat → V → Hp → Prop) (hD : H1 D = none) (hn : n ≤ sizeLine)
    (hG : ∀ G1, Same H1 G1 → G G1) (hm : ∀ i y G1 G2, Same G1 G2 → R i y G1 → R i y G2)
    (hs : ∀ i x G1 G2 (k : VK), i < n → Same H1 G1 → G1 D ≠ none → Y i G1 x G2 → (∀ y H4, Same G1 H4 → R i y (del H4 D) → k y H4) → g x (wipe σ vs) G2 fun σ2 H2 => wipe σ2 vs = wipe σ vs ∧ te σ2 H2 k)
    (hd : ∀ G1 ys, Same H1 G1 → G1 D = some (.lst ys) → ys.length = n → (∀ i y, ys[i]? = some y → R i y (del G1 D)) → Qd G1) :
    ∃ W : Nat → Nat → Hp → Prop, (∃ m, W 0 m (upd H1 D (.lst []))) ∧ ∀ i m H, W i m H →
      (J.stop i H ∧ Qd H) ∨ (J.go i H ∧ ∃ Nx : Hp → Prop, (∀ H', Nx H' → ∃ m', m' < m ∧ W (i + 1) m' H') ∧ ∀ x H', J.yld i H x H' → g x (wipe σ vs) H' fun σ2 H2 => wipe σ2 vs = wipe σ vs ∧ tYes σ2 H2 fun b H3 =>
        if b = true then te σ2 H3 fun y H4 => ∃ acc, H4 D = some (.lst acc) ∧ acc.length < sizeLine ∧ Nx (upd H4 D (.lst (acc ++ [y]))) else Nx H3) := by
  refine lc_it w (fun i K1 => Same H1 K1 ∧ ∃ ys, K1 D = some (.lst ys) ∧ ys.length = i ∧ ∀ j y, ys[j]? = some y → R j y (del K1 D)) ⟨new_same hD, [], upd_same, rfl, fun j y e => by simp at e⟩ (fun i K1 _ q => hG K1 q.1) (fun i x K1 K2 hi q y => ?_) fun K1 ⟨s, ys, h1, h2, h3⟩ => hd K1 ys s h1 h2 h3
  obtain ⟨s, ys, h1, h2, h3⟩ := q
  have e : ∀ (k : VK) (B : Hp → Prop), (fun (σ2 : L2.St) (H2 : Hp) => wipe σ2 vs = wipe σ vs ∧ tYes σ2 H2 fun b H3 => if b = true then te σ2 H3 k else B H3) = fun σ2 H2 => wipe σ2 vs = wipe σ vs ∧ te σ2 H2 k := fun k B => by
    funext σ2 H2
    have z : (tYes σ2 H2 fun b H3 => if b = true then te σ2 H3 k else B H3) = te σ2 H2 k := by
      unfold tYes
      exact if_pos rfl
    rw [z]
  rw [e]
  refine hs i x K1 K2 _ hi s (by rw [h1]; simp) y fun v H4 s4 r => ?_
  have n4 : H4 D = some (.lst ys) := s4 _ _ h1
  refine ⟨ys, n4, by omega, fun b o e => ?_, _, upd_same, by simp [h2], fun j u e => ?_⟩
  · rw [upd_ne (ne_of_none e hD)]
    exact s4 _ _ (s _ _ e)
  · rw [del_upd]
    by_cases hj : j < ys.length
    · rw [List.getElem?_append_left hj] at e
      exact hm _ _ _ _ (same_del s4) (h3 j u e)
    · rw [List.getElem?_append_right (by omega)] at e
      have ej : j = i := by
        cases hk : j - ys.length with
        | zero => omega
        | succ m => rw [hk] at e; simp at e
      subst ej
      rw [h2, Nat.sub_self] at e
      simp at e
      subst e
      exact r
/-- .. whose elements are the plain values zs -/
theorem lc_vals (w : Walk J n G Y) {g : TG} {te : TE} {vs : List Nat} {σ : L2.St} {H1 : Hp} {D : Addr} {Qd : Hp → Prop} (zs : List V) (hz : zs.length = n) (hD : H1 D = none) (hn : n ≤ sizeLine)
    (hG : ∀ G1, Same H1 G1 → G G1)
    (hs : ∀ i x G1 G2 (k : VK), i < n → Same H1 G1 → Y i G1 x G2 → (∀ y H4, Same G1 H4 → zs[i]? = some y → k y H4) → g x (wipe σ vs) G2 fun σ2 H2 => wipe σ2 vs = wipe σ vs ∧ te σ2 H2 k)
    (hd : ∀ G1, Same H1 G1 → G1 D = some (.lst zs) → Qd G1) :
    ∃ W : Nat → Nat → Hp → Prop, (∃ m, W 0 m (upd H1 D (.lst []))) ∧ ∀ i m H, W i m H →
      (J.stop i H ∧ Qd H) ∨ (J.go i H ∧ ∃ Nx : Hp → Prop, (∀ H', Nx H' → ∃ m', m' < m ∧ W (i + 1) m' H') ∧ ∀ x H', J.yld i H x H' → g x (wipe σ vs) H' fun σ2 H2 => wipe σ2 vs = wipe σ vs ∧ tYes σ2 H2 fun b H3 =>
        if b = true then te σ2 H3 fun y H4 => ∃ acc, H4 D = some (.lst acc) ∧ acc.length < sizeLine ∧ Nx (upd H4 D (.lst (acc ++ [y]))) else Nx H3) :=
  lc_map w (fun i y _ => zs[i]? = some y) hD hn hG (fun _ _ _ _ _ e => e) (fun i x G1 G2 k hi s _ y kk => hs i x G1 G2 k hi s y fun v H4 s4 e => kk v H4 s4 e) fun G1 ys s e hl r => by
    have : ys = zs := List.ext_getElem? fun i => by
      cases q : ys[i]? with
      | some y => exact (r i y q).symm
      | none =>
        have : ys.length ≤ i := List.getElem?_eq_none_iff.mp q
        exact (List.getElem?_eq_none_iff.mpr (by omega)).symm
    subst this
    exact hd G1 s e
end
theorem at0 {α : Type} {v : α} {xs : List α} : atI (v :: xs) 0 = some v := atI_nat (j := 0) rfl
theorem at1 {α : Type} {u v : α} {xs : List α} : atI (u :: v :: xs) 1 = some v := atI_nat (j := 1) rfl
theorem at2 {α : Type} {t u v : α} {xs : List α} : atI (t :: u :: v :: xs) 2 = some v := atI_nat (j := 2) rfl
theorem sz1 {a : V} : [a].length ≤ sizeLine := show 1 ≤ sizeLine by decide
theorem sz2 {a b : V} : [a, b].length ≤ sizeLine := show 2 ≤ sizeLine by decide
theorem sz3 {a b c : V} : [a, b, c].length ≤ sizeLine := show 3 ≤ sizeLine by decide
/-! ### slices -/
theorem cut_hd (xs : List V) (k : Nat) : cutV xs none (some (k : Int)) = xs.take k := by
  unfold cutV
  rw [HT.sIx_nat, HT.sIx_none, List.drop_zero, Nat.sub_zero]
  by_cases h : k ≤ xs.length
  · rw [Nat.min_eq_left h]
  · rw [Nat.min_eq_right (by omega), List.take_of_length_le (Nat.le_refl _), List.take_of_length_le (by omega)]
theorem cut_tl (xs : List V) (k : Nat) : cutV xs (some (k : Int)) none = xs.drop k := by
  unfold cutV
  rw [HT.sIx_nat, HT.sIx_none]
  by_cases h : k ≤ xs.length
  · rw [Nat.min_eq_left h, List.take_of_length_le (by rw [List.length_drop]; omega)]
  · rw [Nat.min_eq_right (by omega), Nat.sub_self, List.take_zero, List.drop_eq_nil_of_le (by omega)]
theorem cut_hd1 (xs : List V) : cutV xs none (some 1) = xs.take 1 := cut_hd xs 1
theorem cut_hd3 (xs : List V) : cutV xs none (some 3) = xs.take 3 := cut_hd xs 3
theorem cut_tl1 (xs : List V) : cutV xs (some 1) none = xs.drop 1 := cut_tl xs 1
theorem cut_tl3 (xs : List V) : cutV xs (some 3) none = xs.drop 3 := cut_tl xs 3
theorem cut_init (xs : List V) : cutV xs none (some (-1)) = xs.dropLast := by
  unfold cutV
  rw [HT.sIx_none, List.drop_zero, Nat.sub_zero]
  simp only [HT.sIx]
  rw [if_pos (by decide), List.dropLast_eq_take]
  congr 1
  omega
/-! ### texts -/
theorem part_le {y : Str} : ∀ {parts : List Str} {p : Str}, p ∈ parts → p.length ≤ (Str.join y parts).length
  | [], _, h => by cases h
  | [x], p, h => by
    rw [List.mem_singleton.mp h]
    exact Nat.le_refl _
  | x :: z :: r, p, h => by
    show p.length ≤ (x ++ y ++ Str.join y (z :: r)).length
    rw [Str.length_append, Str.length_append]
    rcases List.mem_cons.mp h with e | e
    · rw [e]; omega
    · have := part_le (y := y) e
      omega
theorem split_le {z y p : Str} (h : p ∈ Txt.split z y) : p.length ≤ z.length := by
  have := part_le (y := y) h
  rw [StrLaws.join_split] at this
  exact this
end WK
end
section
set_option Elab.async false
set_option linter.all false
set_option maxRecDepth 100000
set_option maxHeartbeats 4000000
namespace WK
open PySem L2 PyProof.Rows
/-- a def of the text under its name -/
structure DefOf (K : PySem.W.Frag) (mg : Str → Option Value) (x : Str) (st : Stmt) (ps : List Str) : Prop where
  ex : ∃ (f : Addr) (fd : FuncData), Fun K x x st f fd ∧ mg x = some (.ref f) ∧ Binds K fd ps []
section
variable {P : Program} {w : World} {K : PySem.W.Frag} {mg : Str → Option Value} {base : Heap}
theorem DefOf.cal {x : Str} {st : Stmt} {N ps : List Str} {k : Nat} {sp : Sp} (D : DefOf K mg x st ps) (S : FnScope N ps (defScope st)) (len : ∀ vs H Q E, sp vs H Q E → vs.length = ps.length)
    (hbody : ∀ (f : Addr) (cdv : Value) (A : Around) (outer : List Env) (s : Shared) (H : Hp) (vs : List V) (Q : VK) (E : XK), Room k (A.deeper (envOfC x (defScope st) s.heap.objs.size f cdv)) → sp vs H Q E →
      ∃ t, PSs (cxOf CX0 P w K mg base N x (defScope st) f cdv A outer s H E).nox (defBody st) t ∧ t { nx := fun _ H' => Q .non H', rt := Q } (start N vs) H) : C8.Cal P w K mg base (k + 1) x sp [] := by
  obtain ⟨f, fd, F, m, b⟩ := D.ex
  exact ⟨f, fd, ps, [], F.ok S len (fun cdv A outer s H vs Q E hr h => hbody f cdv A outer s H vs Q E hr h), m, F.kp, b, .nil⟩
end
/-! ### constants and built-ins -/
abbrev Cst (mg : Str → Option Value) (x : Str) (v : V) : Prop := ∃ u, mg x = some u ∧ RelV v u
def CstT (K : PySem.W.Frag) (mg : Str → Option Value) (x : Str) (vs : List V) : Prop := ∃ a : Addr, mg x = some (.ref a) ∧ ∀ H, SqT K H a vs
def letters : Str := "abcdefghijklmnopqrstuvwxyz"
structure Free (mg : Str → Option Value) : Prop where
  isi : mg "isinstance" = none
  str : mg "str" = none
  len : mg "len" = none
  all : mg "all" = none
  any : mg "any" = none
  int : mg "int" = none
  abs : mg "abs" = none
  range : mg "range" = none
  max : mg "max" = none
  min : mg "min" = none
  repr : mg "repr" = none
  tuple : mg "tuple" = none
  list : mg "list" = none
  dict : mg "dict" = none
  sorted : mg "sorted" = none
  sum : mg "sum" = none
structure Forms (K : PySem.W.Frag) (mg : Str → Option Value) : Prop where
  LETTERS : Cst mg "LETTERS" (.str letters)
  MOST_LETTERS : Cst mg "MOST_LETTERS" (.int 8)
  POINT : Cst mg "POINT" (.str ".")
  ANY : Cst mg "ANY" (.str "*")
  PATH_SIZES : CstT K mg "PATH_SIZES" [.int 2, .int 3]
abbrev sName : Stmt := top 10
abbrev sPath : Stmt := top 11
abbrev sPattern : Stmt := top 12
def isName (z : Str) : Bool := decide (1 ≤ z.length) && (decide (z.length ≤ 8) && z.cps.toList.all fun c => decide (c ∈ letters.cps.toList))
def spName : Sp := fun vs H Q _ => ∃ z, vs = [.str z] ∧ z.length ≤ sizeLine ∧ ∀ H', Same H H' → Q (.bl (isName z)) H'
section
variable {P : Program} {w : World} {K : PySem.W.Frag} {mg : Str → Option Value} {base : Heap}
abbrev nName : List Str := ["value", "letter"]
theorem scName : FnScope nName ["value"] (defScope sName) := ⟨rfl, rfl, rfl, by decide +kernel, rfl, by decide +kernel, by decide +kernel⟩
theorem ok_name (B : Free mg) (C : Forms K mg) (D : DefOf K mg "is_name" sName ["value"]) : C8.Cal P w K mg base 1 "is_name" spName [] := by
  refine D.cal scName (fun vs H Q E h => ?_) (fun f cdv A outer s H vs Q E hr h => ?_)
  · obtain ⟨z, rfl, _⟩ := h
    rfl
  · obtain ⟨z, rfl, hz, k⟩ := h
    refine ⟨_, pss_cons (ps_if (pw_or (pt_not (pt_val (pe_callB call_isi (by rfl) B.isi boot_isinstance (pa_cons (pv 0) (pa_cons (pe_bltn (by rfl) B.str (v := .ty "str") (by decide +kernel) rfl) pa_nil)))))
        (pw_or1 (pt_not (pt_chain op_le op_le pe_int (pe_callB call_len_str (by rfl) B.len PySem.boot_len (pa_cons (pv 0) pa_nil)) (C8.pe_gc (by rfl) C.MOST_LETTERS))))).pt
          (pss_one (ps_ret pe_bl)) pss_nil)
      (pss_one (ps_ret (pe_callB (cr_all rfl) (by rfl) B.all (by decide +kernel) (pa_cons (pe_lc (own := [("letter", 1)]) (g := gName 1) (tt := tYes) rfl scName.nd (pi_str (pv 0))
          (blkOk_by (N := nName) (sc := defScope sName) (by decide +kernel)) (fun _ _ _ _ _ => pg_name (i := 1) scName.nd rfl (Or.inl rfl)) (fun _ _ _ _ _ => pts_nil)
          (fun _ _ _ _ _ => pe_cmpR op_in_sign (pv 1) (C8.pe_gc (by rfl) C.LETTERS) rfl)) pa_nil)))), ?_⟩
    refine ⟨_, rfl, _, _, _, _, true, rfl, .ty _, .base (.str _), by rfl, _, rfl, ?_⟩
    refine ite2 (fun h => ?_) (fun h => ?_)
    · cases h
    refine ⟨_, rfl, z, rfl, hz, _, _, rfl, rfl, _, rfl, ?_⟩
    by_cases h1 : 1 ≤ z.length
    · refine iteY (decide_eq_true (by omega)) ?_
      refine ⟨_, _, rfl, rfl, _, rfl, ?_⟩
      by_cases h2 : z.length ≤ 8
      · refine iteN (by simp; omega) ?_
        refine ⟨_, rfl, z, rfl, fun D hD => lc_vals (walk_str (z := z)) ((z.cps.toList.map fun c => decide (c ∈ letters.cps.toList)).map V.bl) (by simp) hD (by have : z.cps.size = z.length := rfl; omega) (fun _ _ => trivial) ?_ ?_⟩
        · rintro i x G1 G2 kk hi s1 ⟨rfl, c, hc, rfl⟩ q
          refine ⟨rfl, _, rfl, c, _, rfl, rfl, q _ _ same_rf ?_⟩
          have : z.cps.toList[i]? = some c := by simpa using hc
          simp [this]
        · intro G1 s1 g1
          refine ⟨D, _, rfl, SqL.of g1, ?_⟩
          have e : isName z = (List.map (fun c => decide (c ∈ letters.cps.toList)) z.cps.toList).all id := by
            unfold isName
            rw [decide_eq_true h1, decide_eq_true h2, List.all_map]
            rfl
          rw [← e]
          exact k _ s1
      · refine iteY (by simp; omega) ?_
        have e : isName z = false := by unfold isName; simp; omega
        rw [← e]
        exact k _ (fun _ _ z => z)
    · refine iteN (by simp; omega) ?_
      refine ⟨_, rfl, ?_⟩
      refine iteY (by rfl) ?_
      have e : isName z = false := by unfold isName; simp; omega
      rw [← e]
      exact k _ (fun _ _ z => z)
def isPath (z : Str) : Bool := (decide ((Txt.split z ".").length = 2) || decide ((Txt.split z ".").length = 3)) && (Txt.split z ".").all isName
def spPath : Sp := fun vs H Q _ => ∃ z, vs = [.str z] ∧ z.length + 2 ≤ sizeLine ∧ ∀ H', Same H H' → Q (.bl (isPath z)) H'
abbrev nPath : List Str := ["value", "names", "name"]
theorem scPath : FnScope nPath ["value"] (defScope sPath) := ⟨rfl, rfl, rfl, by decide +kernel, rfl, by decide +kernel, by decide +kernel⟩
theorem sizes_in (n : Nat) : inV (.int n) [.int 2, .int 3] = (decide (n = 2) || decide (n = 3)) := by
  unfold inV
  simp only [List.any_cons, List.any_nil, eqV, Bool.or_false]
  congr 1 <;> · rw [Bool.eq_iff_iff]; simp; omega
theorem ok_path (B : Free mg) (C : Forms K mg) (D : DefOf K mg "is_path" sPath ["value"]) (O_is_name : C8.Cal P w K mg base 1 "is_name" spName []) : C8.Cal P w K mg base 2 "is_path" spPath [] := by
  refine D.cal scPath (fun vs H Q E h => ?_) (fun f cdv A outer s H vs Q E hr h => ?_)
  · obtain ⟨z, rfl, _⟩ := h
    rfl
  · obtain ⟨z, rfl, hz, k⟩ := h
    obtain ⟨aS, mS, qS⟩ := C.PATH_SIZES
    refine ⟨_, pss_cons (ps_if (pt_not (pt_val (pe_callB call_isi (by rfl) B.isi boot_isinstance (pa_cons (pv 0) (pa_cons (pe_bltn (by rfl) B.str (v := .ty "str") (by decide +kernel) rfl) pa_nil)))))
          (pss_one (ps_ret pe_bl)) pss_nil)
      (pss_cons (ps_set (i := 1) scPath.nd rfl (Or.inl rfl) (pe_split (pv 0) (C8.pe_gc (by rfl) C.POINT)))
      (pss_one (ps_ret (pe_and (pe_cmpR op_in_seq (pe_callB call_len_seq (by rfl) B.len PySem.boot_len (pa_cons (pv 1) pa_nil)) (pe_glob (by rfl) mS (v := .ref aS) rfl) rfl)
        (pe_one (pe_callB (cr_all rfl) (by rfl) B.all (by decide +kernel) (pa_cons (pe_lc (own := [("name", 2)]) (g := gName 2) (tt := tYes) rfl scPath.nd (pi_list (pv 1))
          (blkOk_by (N := nPath) (sc := defScope sPath) (by decide +kernel)) (fun _ _ _ _ _ => pg_name (i := 2) scPath.nd rfl (Or.inl rfl)) (fun _ _ _ _ _ => pts_nil)
          (fun _ _ _ _ _ => C8.pe_c O_is_name hr (Nat.le_refl _) (by rfl) (pa_cons (pv 2) pa_nil))) pa_nil))))))), ?_⟩
    refine ⟨_, rfl, _, _, _, _, true, rfl, .ty _, .base (.str _), by rfl, _, rfl, ?_⟩
    refine iteN rfl ?_
    refine ⟨_, rfl, ⟨z, rfl⟩, z, _, rfl, rfl, by rfl, hz, fun p hp => ?_⟩
    have s0 : Same H (upd H p (.lst ((Txt.split z ".").map V.str))) := new_same hp
    refine ⟨_, rfl, p, _, rfl, .inl (SqL.of upd_same), aS, _, rfl, .inr (qS _), by rfl, by rfl, _, rfl, ?_⟩
    refine ite2 (fun h => ?_) (fun h => ?_)
    · have h' := h
      rw [List.length_map] at h'
      change inV (.int (_ : Nat)) _ = true at h'
      rw [sizes_in] at h'
      refine ⟨_, rfl, p, rfl, ⟨_, SqL.of upd_same⟩, fun D hD => lc_vals (walk_list (K := K) (a := p) (xs := (Txt.split z ".").map V.str)) (((Txt.split z ".").map isName).map V.bl) (by simp) hD ?_ (fun G1 s1 => SqL.of (s1 _ _ upd_same)) ?_ ?_⟩
      · rw [List.length_map]
        have : (Txt.split z ".").length ≤ 3 := by
          rcases Bool.or_eq_true _ _ ▸ h' with e | e <;> have := of_decide_eq_true e <;> omega
        exact Nat.le_trans this (by decide)
      · rintro i x G1 G2 kk hi s1 ⟨rfl, hx⟩ q
        rw [List.getElem?_map] at hx
        cases e : (Txt.split z ".")[i]? with
        | none => rw [e] at hx; cases hx
        | some y =>
          rw [e] at hx
          cases hx
          have hy := split_le (List.mem_of_getElem? e)
          refine ⟨rfl, _, rfl, y, rfl, by omega, fun G3 s3 => q _ _ s3 ?_⟩
          simp [e]
      · intro G1 s1 g1
        refine ⟨D, _, rfl, SqL.of g1, ?_⟩
        have e : isPath z = ((Txt.split z ".").map isName).all id := by
          unfold isPath
          rw [h', List.all_map]
          rfl
        rw [← e]
        exact k _ (same_tr s0 s1)
    · have h' : (decide ((Txt.split z ".").length = 2) || decide ((Txt.split z ".").length = 3)) = false := by
        rw [← sizes_in]
        rw [List.length_map] at h
        exact Bool.eq_false_iff.mpr h
      have e : isPath z = false := by unfold isPath; rw [h']; rfl
      rw [← e]
      exact k _ s0
theorem split_ne {z y : Str} (hy : 0 < y.length) : Txt.split z y ≠ [] := fun h => by
  have e := StrLaws.join_split z y
  rw [h] at e
  have e2 : z = Str.empty := e.symm
  subst e2
  unfold Txt.split at h
  rw [if_pos (by rw [decide_eq_true (show Str.empty.length < y.length from hy)]; rfl)] at h
  cases h
theorem at_last {α : Type} {xs : List α} {v : α} (h : xs.getLast? = some v) : atI xs (-1) = some v := by
  obtain ⟨ys, rfl⟩ := List.getLast?_eq_some_iff.mp h
  exact atI_last ys v
def isPattern (z : Str) : Bool := decide (z = "*") || (isPath z || (decide ((Txt.split z ".").getLast? = some "*") && ((decide ((Txt.split z ".").length = 2) || decide ((Txt.split z ".").length = 3)) && (Txt.split z ".").dropLast.all isName)))
def spPattern : Sp := fun vs H Q _ => ∃ z, vs = [.str z] ∧ z.length + 2 ≤ sizeLine ∧ ∀ H', Same H H' → Q (.bl (isPattern z)) H'
abbrev nPattern : List Str := ["word", "names", "name"]
theorem scPattern : FnScope nPattern ["word"] (defScope sPattern) := ⟨rfl, rfl, rfl, by decide +kernel, rfl, by decide +kernel, by decide +kernel⟩
theorem ok_pattern (B : Free mg) (C : Forms K mg) (D : DefOf K mg "is_pattern" sPattern ["word"]) (O_is_name : C8.Cal P w K mg base 1 "is_name" spName []) (O_is_path : C8.Cal P w K mg base 2 "is_path" spPath []) : C8.Cal P w K mg base 3 "is_pattern" spPattern [] := by
  refine D.cal scPattern (fun vs H Q E h => ?_) (fun f cdv A outer s H vs Q E hr h => ?_)
  · obtain ⟨z, rfl, _⟩ := h
    rfl
  · obtain ⟨z, rfl, hz, k⟩ := h
    obtain ⟨aS, mS, qS⟩ := C.PATH_SIZES
    refine ⟨_, (pss_cons (ps_if (pw_or (pt_cmpR op_eq (pv 0) (C8.pe_gc (by rfl) C.ANY) (nomark _))
        (pw_or1 (pt_val (C8.pe_c O_is_path hr (by omega) (by rfl) (pa_cons (pv 0) pa_nil))))).pt
      (pss_one (ps_ret pe_bl))
      pss_nil)
      (pss_cons (ps_set (i := 1) scPattern.nd rfl (Or.inl rfl) (pe_split (pv 0) (C8.pe_gc (by rfl) C.POINT)))
      (pss_one (ps_ret (pe_and (pe_cmpR op_eq (pe_ix ix_list (pv 1) (pe_un un_neg pe_int) (fun _ _ => rfl)) (C8.pe_gc (by rfl) C.ANY) (nomark _)) (pe_and (pe_cmpR op_in_seq (pe_callB call_len_seq (by rfl) B.len PySem.boot_len (pa_cons (pv 1) pa_nil)) (pe_glob (by rfl) mS (v := .ref aS) rfl) rfl) (pe_one (pe_callB (cr_all rfl) (by rfl) B.all (by decide +kernel) (pa_cons (pe_lc (own := [("name", 2)]) (g := gName 2) (tt := tYes) rfl scPattern.nd (pi_list (pe_slice sl_list (pv 1) po_none (po_some (pe_un un_neg pe_int))))
        (blkOk_by (N := nPattern) (sc := defScope sPattern) (by decide +kernel)) (fun _ _ _ _ _ => pg_name (i := 2) scPattern.nd rfl (Or.inl rfl)) (fun _ _ _ _ _ => pts_nil)
        (fun _ _ _ _ _ => (C8.pe_c O_is_name hr (by omega) (by rfl) (pa_cons (pv 2) pa_nil)))) pa_nil))))))))), ?_⟩
    refine ⟨_, rfl, rfl, _, rfl, ?_⟩
    refine ite2 (fun h => ?_) (fun h => ?_)
    · refine iteY rfl ?_
      have e : isPattern z = true := by
        have h1 := of_decide_eq_true h
        injection h1 with h1
        unfold isPattern
        rw [decide_eq_true h1]
        rfl
      rw [← e]
      exact k _ same_rf
    · have h0 : decide (z = "*") = false := decide_eq_false fun z0 => h (decide_eq_true (by rw [z0]))
      refine ⟨_, rfl, z, rfl, hz, fun H1 s1 => ⟨_, rfl, ?_⟩⟩
      refine ite2 (fun hP => ?_) (fun hP => ?_)
      · have e : isPattern z = true := by
          unfold isPattern
          rw [h0, hP]
          rfl
        rw [← e]
        exact k _ s1
      · have hP0 : isPath z = false := Bool.eq_false_iff.mpr hP
        refine ⟨_, rfl, ⟨z, rfl⟩, z, _, rfl, rfl, by rfl, hz, fun p hp => ?_⟩
        have s2 : Same H (upd H1 p (.lst ((Txt.split z ".").map V.str))) := same_tr s1 (new_same hp)
        have gp : (upd H1 p (.lst ((Txt.split z ".").map V.str))) p = some (.lst ((Txt.split z ".").map V.str)) := upd_same
        generalize upd H1 p (.lst ((Txt.split z ".").map V.str)) = G at s2 gp
        obtain ⟨u, hu⟩ : ∃ u, (Txt.split z ".").getLast? = some u := by
          cases e : (Txt.split z ".").getLast? with
          | some u => exact ⟨u, rfl⟩
          | none => exact absurd (List.getLast?_eq_none_iff.mp e) (split_ne (by decide))
        have hu' : ((Txt.split z ".").map V.str).getLast? = some (.str u) := by rw [List.getLast?_map, hu]; rfl
        refine ⟨_, rfl, _, rfl, p, _, _, _, rfl, rfl, SqL.of gp, at_last hu', rfl, _, rfl, ?_⟩
        refine ite2 (fun hL => ?_) (fun hL => ?_)
        · have hL' : u = "*" := by
            have h1 := of_decide_eq_true hL
            injection h1
          refine ⟨_, rfl, p, _, rfl, .inl (SqL.of gp), aS, _, rfl, .inr (qS _), by rfl, by rfl, _, rfl, ?_⟩
          refine ite2 (fun h => ?_) (fun h => ?_)
          · have h' := h
            rw [List.length_map] at h'
            change inV (.int (_ : Nat)) _ = true at h'
            rw [sizes_in] at h'
            refine ⟨_, rfl, _, rfl, _, rfl, p, _, rfl, SqL.of gp, fun p2 hp2 => ?_⟩
            have eC : cutV ((Txt.split z ".").map V.str) none (some (-1)) = (Txt.split z ".").dropLast.map V.str := by rw [cut_init, List.map_dropLast]
            rw [eC]
            have s3 : Same H (upd G p2 (.lst ((Txt.split z ".").dropLast.map V.str))) := same_tr s2 (new_same hp2)
            have gp2 : (upd G p2 (.lst ((Txt.split z ".").dropLast.map V.str))) p2 = some (.lst ((Txt.split z ".").dropLast.map V.str)) := upd_same
            generalize upd G p2 (.lst ((Txt.split z ".").dropLast.map V.str)) = G' at s3 gp2
            refine ⟨p2, rfl, ⟨_, SqL.of gp2⟩, fun D hD => lc_vals (walk_list (K := K) (a := p2) (xs := (Txt.split z ".").dropLast.map V.str)) (((Txt.split z ".").dropLast.map isName).map V.bl) (by simp) hD ?_ (fun G1 s1 => SqL.of (s1 _ _ gp2)) ?_ ?_⟩
            · rw [List.length_map]
              have : (Txt.split z ".").length ≤ 3 := by
                rcases Bool.or_eq_true _ _ ▸ h' with e | e <;> have := of_decide_eq_true e <;> omega
              refine Nat.le_trans ?_ (show 3 ≤ sizeLine by decide)
              rw [List.length_dropLast]
              omega
            · rintro i x G1 G2 kk hi s1 ⟨rfl, hx⟩ q
              rw [List.getElem?_map] at hx
              cases e : (Txt.split z ".").dropLast[i]? with
              | none => rw [e] at hx; cases hx
              | some y =>
                rw [e] at hx
                cases hx
                have hy := split_le ((List.dropLast_sublist _).subset (List.mem_of_getElem? e))
                refine ⟨rfl, _, rfl, y, rfl, by omega, fun G3 s3 => q _ _ s3 ?_⟩
                rw [List.getElem?_map, List.getElem?_map, e]
                rfl
            · intro G1 s1 g1
              refine ⟨D, _, rfl, SqL.of g1, ?_⟩
              have e : isPattern z = ((Txt.split z ".").dropLast.map isName).all id := by
                unfold isPattern
                rw [h0, hP0, hu, hL', h', List.all_map]
                rfl
              rw [← e]
              exact k _ (same_tr s3 s1)
          · have h' : (decide ((Txt.split z ".").length = 2) || decide ((Txt.split z ".").length = 3)) = false := by
              rw [← sizes_in]
              rw [List.length_map] at h
              exact Bool.eq_false_iff.mpr h
            have e : isPattern z = false := by
              unfold isPattern
              rw [h0, hP0, h', Bool.false_and, Bool.and_false]
              rfl
            rw [← e]
            exact k _ s2
        · have e : isPattern z = false := by
            unfold isPattern
            rw [h0, hP0, hu, decide_eq_false (fun z0 => hL (decide_eq_true (by injection z0 with z0; rw [z0])))]
            rfl
          rw [← e]
          exact k _ s2
end
end WK
end
section
set_option Elab.async false
set_option linter.all false
set_option maxRecDepth 100000
set_option maxHeartbeats 4000000
namespace WK
open PySem L2 PyProof.Rows
/-! ### == of lists of texts -/
def okW (z : Str) : Prop := PyData.strOk z = true
theorem dp_strs {K : PySem.W.Frag} {H : Hp} : ∀ zs : List Str, DpAll K H (zs.map V.str) (zs.map PyData.str)
  | [] => .nil
  | z :: zs => .cons (.str z) (dp_strs zs)
theorem lay_strs : ∀ {zs : List Str}, (∀ z ∈ zs, okW z) → PyData.canLayAll0 (zs.map PyData.str) = true
  | [], _ => rfl
  | z :: zs, h => by
    have h1 : PyData.strOk z = true := h z (List.mem_cons_self ..)
    simp only [List.map_cons, PyData.canLayAll0, PyData.canLay0, h1, lay_strs fun y hy => h y (List.mem_cons_of_mem _ hy), Bool.and_self]
theorem dep_strs : ∀ zs : List Str, PyData.depthAll (zs.map PyData.str) = 0
  | [] => rfl
  | z :: zs => by simp only [List.map_cons, PyData.depthAll, PyData.depth, dep_strs zs, Nat.max_self]
theorem shaped_strs {zs : List Str} (h : ∀ z ∈ zs, okW z) : SeqAt.shaped (.list (zs.map PyData.str)) = true := by
  unfold SeqAt.shaped
  simp only [PyData.canLay0, PyData.depth, lay_strs h, dep_strs]
  decide
theorem eqv_strs : ∀ xs ys : List Str, PyData.eqvAll (xs.map PyData.str) (ys.map PyData.str) = decide (xs = ys)
  | [], [] => rfl
  | [], _ :: _ => rfl
  | _ :: _, [] => rfl
  | x :: xs, y :: ys => by
    simp only [List.map_cons, PyData.eqvAll, PyData.eqv, eqv_strs xs ys]
    rw [Bool.eq_iff_iff]
    simp
def rEqW (K : PySem.W.Frag) : R2 := fun x y H Q => ∃ (a b : Addr) (xs ys : List Str), x = .ref a ∧ y = .ref b ∧ SqL K H a (xs.map V.str) ∧ SqL K H b (ys.map V.str) ∧ (∀ z ∈ xs, okW z) ∧ (∀ z ∈ ys, okW z) ∧ Q (.bl (decide (xs = ys))) H
def rNeW (K : PySem.W.Frag) : R2 := fun x y H Q => ∃ (a b : Addr) (xs ys : List Str), x = .ref a ∧ y = .ref b ∧ SqL K H a (xs.map V.str) ∧ SqL K H b (ys.map V.str) ∧ (∀ z ∈ xs, okW z) ∧ (∀ z ∈ ys, okW z) ∧ Q (.bl (!decide (xs = ys))) H
theorem op_eqW {X : Cx} (hu : X.A.units + 64 < cLine) : OpR X (compareOp .Eq) (rEqW X.K) := by
  intro pins s σ H x y v u Q I rx ry h
  obtain ⟨a, b, xs, ys, rfl, rfl, h1, h2, o1, o2, q⟩ := h
  refine op_eqD hu pins s σ H _ _ v u Q I rx ry ⟨_, _, .lst h1 (dp_strs xs), .lst h2 (dp_strs ys), shaped_strs o1, shaped_strs o2, ?_⟩
  simp only [PyData.eqv, eqv_strs]
  exact q
theorem op_neW {X : Cx} (hu : X.A.units + 64 < cLine) : OpR X (compareOp .NotEq) (rNeW X.K) := by
  intro pins s σ H x y v u Q I rx ry h
  obtain ⟨a, b, xs, ys, rfl, rfl, h1, h2, o1, o2, q⟩ := h
  refine op_neD hu pins s σ H _ _ v u Q I rx ry ⟨_, _, .lst h1 (dp_strs xs), .lst h2 (dp_strs ys), shaped_strs o1, shaped_strs o2, ?_⟩
  simp only [PyData.eqv, eqv_strs]
  exact q
/-! ### formulas -/
inductive Op where
  | and | or | iff
def Op.s : Op → Str
  | .and => "and"
  | .or => "or"
  | .iff => "if"
inductive Fm where
  | non (p : Str) | word (p z : Str) | like (p q : Str) | neg (f : Fm) | bin (o : Op) (f g : Fm)
def inner (o : Op) (u v : List Str) : List Str := match o with
  | .iff => ("if" : Str) :: (u ++ ("then" : Str) :: v)
  | o => u ++ o.s :: v
def ones : Fm → Bool → List Str
  | .non p, _ => [p, "is", "none"]
  | .word p z, _ => [p, "=", z]
  | .like p q, _ => [p, "=", q]
  | .neg f, _ => ("not" : Str) :: ones f true
  | .bin o f g, true => ("(" : Str) :: (inner o (ones f true) (ones g true) ++ [(")" : Str)])
  | .bin o f g, false => inner o (ones f true) (ones g true)
/-- the formula in the heap -/
def FmAt (K : PySem.W.Frag) (H : Hp) : Fm → V → Prop
  | .non p, v => ∃ a, v = .ref a ∧ SqT K H a [.str "none", .str p]
  | .word p z, v => ∃ a, v = .ref a ∧ SqT K H a [.str "word", .str p, .str z]
  | .like p q, v => ∃ a, v = .ref a ∧ SqT K H a [.str "like", .str p, .str q]
  | .neg f, v => ∃ a x, v = .ref a ∧ SqT K H a [.str "not", x] ∧ FmAt K H f x
  | .bin o f g, v => ∃ a x y, v = .ref a ∧ SqT K H a [.str o.s, x, y] ∧ FmAt K H f x ∧ FmAt K H g y
theorem sqT_same {K : PySem.W.Frag} {H H' : Hp} {a : Addr} {xs : List V} (e : Same H H') (h : SqT K H a xs) : SqT K H' a xs := by
  rcases h with h | h
  · rcases h with h | ⟨o, h⟩
    · exact .inl (.inl (e _ _ h))
    · exact .inl (.inr ⟨o, e _ _ h⟩)
  · exact .inr h
theorem FmAt.mono {K : PySem.W.Frag} {H H' : Hp} (e : Same H H') : ∀ {f : Fm} {v : V}, FmAt K H f v → FmAt K H' f v
  | .non _, _, ⟨a, h1, h2⟩ => ⟨a, h1, sqT_same e h2⟩
  | .word _ _, _, ⟨a, h1, h2⟩ => ⟨a, h1, sqT_same e h2⟩
  | .like _ _, _, ⟨a, h1, h2⟩ => ⟨a, h1, sqT_same e h2⟩
  | .neg _, _, ⟨a, x, h1, h2, h3⟩ => ⟨a, x, h1, sqT_same e h2, FmAt.mono e h3⟩
  | .bin _ _ _, _, ⟨a, x, y, h1, h2, h3, h4⟩ => ⟨a, x, y, h1, sqT_same e h2, FmAt.mono e h3, FmAt.mono e h4⟩
/-- a path as it may stand in a rule -/
structure PathW (p : Str) : Prop where
  ok : okW p
  pt : 46 ∈ p.cps.toList
def OkF (ps : List Str) : Fm → Prop
  | .non p => p ∈ ps ∧ PathW p
  | .word p z => p ∈ ps ∧ PathW p ∧ isName z = true ∧ okW z
  | .like p q => p ∈ ps ∧ PathW p ∧ q ∈ ps ∧ PathW q
  | .neg f => OkF ps f
  | .bin _ f g => OkF ps f ∧ OkF ps g
def ht : Fm → Nat
  | .neg f => ht f + 1
  | .bin _ f g => max (ht f) (ht g) + 1
  | _ => 0
def atomic : Fm → Prop
  | .neg _ => False
  | .bin .. => False
  | _ => True
/-- what a reader gives: the formula and the words that are left -/
def Res (K : PySem.W.Frag) (H : Hp) (v : V) (f : Fm) (rest : List Str) : Prop := ∃ t x l, v = .ref t ∧ SqT K H t [x, .ref l] ∧ FmAt K H f x ∧ SqL K H l (rest.map V.str)
/-- a reader that reads what S tells -/
def spS (K : PySem.W.Frag) (S : List Str → Fm → List Str → List Str → Prop) : Sp := fun vs H Q _ => ∃ (a b : Addr) (ws ps rest : List Str) (f : Fm), vs = [.ref a, .ref b] ∧ SqL K H a (ws.map V.str) ∧ SqL K H b (ps.map V.str) ∧ (∀ z ∈ ws, okW z) ∧ S ps f ws rest ∧
  ∀ v H', Same H H' → Res K H' v f rest → Q v H'
structure FConsts (K : PySem.W.Frag) (mg : Str → Option Value) : Prop extends Forms K mg where
  IF : Cst mg "IF" (.str "if")
  THEN : Cst mg "THEN" (.str "then")
  OR : Cst mg "OR" (.str "or")
  AND : Cst mg "AND" (.str "and")
  NOT : Cst mg "NOT" (.str "not")
  NONE : Cst mg "NONE" (.str "none")
  WORD : Cst mg "WORD" (.str "word")
  LIKE : Cst mg "LIKE" (.str "like")
  ATOMS : CstT K mg "ATOMS" [.str "none", .str "word", .str "like"]
abbrev sAtomIn : Stmt := top 28
abbrev nAtomIn : List Str := ["words", "paths", "path", "sign", "last"]
def SAtom (ps : List Str) (f : Fm) (ws rest : List Str) : Prop := atomic f ∧ OkF ps f ∧ ws = ones f true ++ rest
section
variable {P : Program} {w : World} {K : PySem.W.Frag} {mg : Str → Option Value} {base : Heap}
theorem scAtomIn : FnScope nAtomIn ["words", "paths"] (defScope sAtomIn) := ⟨rfl, rfl, rfl, by decide +kernel, rfl, by decide +kernel, by decide +kernel⟩
theorem in_strs (p : Str) (ps : List Str) : inV (.str p) (ps.map V.str) = decide (p ∈ ps) := by
  unfold inV
  rw [Bool.eq_iff_iff]
  simp [eqV, List.any_eq_true]
theorem flat_strs (ps : List Str) : (ps.map V.str).all flatV = true := by
  rw [List.all_eq_true]
  intro x hx
  obtain ⟨z, _, rfl⟩ := List.mem_map.mp hx
  rfl
theorem spS_len {S : List Str → Fm → List Str → List Str → Prop} : ∀ vs H Q E, spS K S vs H Q E → vs.length = (["words", "paths"] : List Str).length := fun vs H Q E h => by
  obtain ⟨a, b, ws, ps, rest, f, rfl, _⟩ := h
  rfl
theorem name_le {z : Str} (h : isName z = true) : z.length ≤ sizeLine := by
  unfold isName at h
  simp only [Bool.and_eq_true, decide_eq_true_eq] at h
  exact Nat.le_trans h.2.1 (by decide)
theorem name_pt {z : Str} (h : isName z = true) : ¬ 46 ∈ z.cps.toList := fun m => by
  unfold isName at h
  simp only [Bool.and_eq_true, decide_eq_true_eq, List.all_eq_true] at h
  have := h.2.2 46 m
  revert this
  decide
theorem res_mk {H G1 : Hp} {x : V} {l u : Addr} {fm : Fm} {rest : List Str} (s : Same H G1) (hf : FmAt K G1 fm x) (nl : G1 l = none) (nu : upd G1 l (.lst (rest.map V.str)) u = none) :
    Same H (upd (upd G1 l (.lst (rest.map V.str))) u (.tup [x, .ref l])) ∧ Res K (upd (upd G1 l (.lst (rest.map V.str))) u (.tup [x, .ref l])) (.ref u) fm rest := by
  have s1 : Same G1 (upd G1 l (.lst (rest.map V.str))) := new_same nl
  have s2 : Same (upd G1 l (.lst (rest.map V.str))) (upd (upd G1 l (.lst (rest.map V.str))) u (.tup [x, .ref l])) := new_same nu
  exact ⟨same_tr s (same_tr s1 s2), u, x, l, rfl, SqT.of upd_same, FmAt.mono (same_tr s1 s2) hf, SqL.of (s2 _ _ upd_same)⟩
theorem ok_atom (B : Free mg) (C : FConsts K mg) (D : DefOf K mg "atom_in" sAtomIn ["words", "paths"]) (O_is_name : C8.Cal P w K mg base 1 "is_name" spName []) : C8.Cal P w K mg base 2 "atom_in" (spS K SAtom) [] := by
  refine D.cal scAtomIn spS_len (fun f cdv A outer s H vs Q E hr h => ?_)
  obtain ⟨a, b, ws, ps, rest, fm, rfl, ha, hb, hw, ⟨hat, hok, rfl⟩, k⟩ := h
  refine ⟨_, (pss_cons (ps_if (pw_or (pt_cmpR op_lt (pe_callB call_len_seq (by rfl) B.len PySem.boot_len (pa_cons (pv 0) pa_nil)) pe_int (nomark _))
        (pw_or1 (pt_cmpR op_notIn_seq (pe_ix ix_list (pv 0) pe_int (fun _ _ => rfl)) (pv 1) rfl))).pt
      (pss_one (ps_ret pe_non))
      pss_nil)
      (pss_cons (ps_asg (pe_slice sl_list (pv 0) po_none (po_some pe_int)) (pg_unl rfl (pgs_cons (pg_name (i := 2) scAtomIn.nd rfl (Or.inl rfl)) (pgs_cons (pg_name (i := 3) scAtomIn.nd rfl (Or.inl rfl)) (pgs_cons (pg_name (i := 4) scAtomIn.nd rfl (Or.inl rfl)) pgs_nil)))))
      (pss_cons (ps_if (pt_cmpR op_eq (pv 3) pe_str (nomark _))
      (pss_one (ps_ret (pe_ifExp (pt_cmpR op_eq (pv 4) (C8.pe_gc (by rfl) C.NONE) (nomark _)) (pe_tup (pa_cons (pe_tup (pa_cons (C8.pe_gc (by rfl) C.NONE) (pa_cons (pv 2) pa_nil))) (pa_cons (pe_slice sl_list (pv 0) (po_some pe_int) po_none) pa_nil))) pe_non)))
      pss_nil)
      (pss_cons (ps_if (pt_cmpR op_ne (pv 3) pe_str (nomark _))
      (pss_one (ps_ret pe_non))
      pss_nil)
      (pss_cons (ps_if (pt_cmpR op_in_sign (C8.pe_gc (by rfl) C.POINT) (pv 4) rfl)
      (pss_one (ps_ret (pe_ifExp (pt_cmpR op_in_seq (pv 4) (pv 1) rfl) (pe_tup (pa_cons (pe_tup (pa_cons (C8.pe_gc (by rfl) C.LIKE) (pa_cons (pv 2) (pa_cons (pv 4) pa_nil)))) (pa_cons (pe_slice sl_list (pv 0) (po_some pe_int) po_none) pa_nil))) pe_non)))
      pss_nil)
      (pss_one (ps_ret (pe_ifExp (pt_val (C8.pe_c O_is_name hr (by omega) (by rfl) (pa_cons (pv 4) pa_nil))) (pe_tup (pa_cons (pe_tup (pa_cons (C8.pe_gc (by rfl) C.WORD) (pa_cons (pv 2) (pa_cons (pv 4) pa_nil)))) (pa_cons (pe_slice sl_list (pv 0) (po_some pe_int) po_none) pa_nil))) pe_non)))))))), ?_⟩
  obtain ⟨p, sg, la, hws, hp⟩ : ∃ p sg la, ones fm true = [p, sg, la] ∧ p ∈ ps := by
    cases fm with
    | non p => exact ⟨_, _, _, rfl, hok.1⟩
    | word p z => exact ⟨_, _, _, rfl, hok.1⟩
    | like p q => exact ⟨_, _, _, rfl, hok.1⟩
    | neg f => exact hat.elim
    | bin o f g => exact hat.elim
  refine ⟨_, rfl, a, _, rfl, .inl ha, _, _, rfl, rfl, _, rfl, ?_⟩
  refine iteN (by rw [hws]; simp; omega) ?_
  refine ⟨_, rfl, a, _, _, .str p, rfl, rfl, ha, by rw [hws]; exact at0, _, rfl, b, _, rfl, .inl hb, rfl, flat_strs ps, _, rfl, ?_⟩
  refine iteN (by rw [in_strs, decide_eq_true hp]; rfl) ?_
  refine ⟨_, rfl, _, rfl, a, _, rfl, ha, fun l hl => ?_⟩
  have e3 : cutV ((ones fm true ++ rest).map V.str) none (some 3) = [.str p, .str sg, .str la] := by rw [cut_hd3, hws]; rfl
  have d3 : cutV ((ones fm true ++ rest).map V.str) (some 3) none = rest.map V.str := by rw [cut_tl3, hws]; rfl
  rw [e3]
  have s1 : Same H (upd H l (.lst [.str p, .str sg, .str la])) := new_same hl
  refine ⟨l, _, rfl, SqL.of upd_same, rfl, _, _, rfl, _, _, rfl, _, _, rfl, rfl, ?_⟩
  generalize upd H l (.lst [.str p, .str sg, .str la]) = G at s1
  have ha1 := s1.seq ha
  have hb1 := s1.seq hb
  refine ⟨_, rfl, rfl, _, rfl, ?_⟩
  cases fm with
  | neg f => exact hat.elim
  | bin o f g => exact hat.elim
  | non p0 =>
    cases hws
    refine iteY (by decide) ?_
    refine ⟨_, rfl, rfl, _, rfl, ?_⟩
    refine iteY (by decide) ?_
    refine ⟨_, rfl, sz2, fun t nt => ?_⟩
    refine ⟨_, rfl, _, rfl, a, _, rfl, (new_same nt).seq ha1, fun l2 nl => ?_⟩
    rw [d3]
    refine ⟨sz2, fun u nu => ?_⟩
    obtain ⟨s2, r⟩ := res_mk (K := K) (fm := .non p) (x := .ref t) (same_tr s1 (new_same nt)) ⟨t, rfl, SqT.of upd_same⟩ nl nu
    exact k _ _ s2 r
  | word p0 z =>
    cases hws
    obtain ⟨_, _, hn, hz⟩ := hok
    refine iteN (by decide) ?_
    refine ⟨_, rfl, rfl, _, rfl, ?_⟩
    refine iteN (by decide) ?_
    refine ⟨_, rfl, 46, _, rfl, rfl, _, rfl, ?_⟩
    refine iteN (decide_eq_false (name_pt hn)) ?_
    refine ⟨_, rfl, la, rfl, name_le hn, fun G2 s2 => ⟨_, rfl, ?_⟩⟩
    refine iteY hn ?_
    refine ⟨_, rfl, _, rfl, sz3, fun t nt => ?_⟩
    refine ⟨_, rfl, _, rfl, a, _, rfl, (new_same nt).seq (s2.seq ha1), fun l2 nl => ?_⟩
    rw [d3]
    refine ⟨sz2, fun u nu => ?_⟩
    obtain ⟨s3, r⟩ := res_mk (K := K) (fm := .word p la) (x := .ref t) (same_tr (same_tr s1 s2) (new_same nt)) ⟨t, rfl, SqT.of upd_same⟩ nl nu
    exact k _ _ s3 r
  | like p0 q =>
    cases hws
    obtain ⟨_, _, hq, hq2⟩ := hok
    refine iteN (by decide) ?_
    refine ⟨_, rfl, rfl, _, rfl, ?_⟩
    refine iteN (by decide) ?_
    refine ⟨_, rfl, 46, _, rfl, rfl, _, rfl, ?_⟩
    refine iteY (decide_eq_true hq2.pt) ?_
    refine ⟨_, rfl, _, rfl, b, _, rfl, .inl hb1, rfl, flat_strs ps, _, rfl, ?_⟩
    refine iteY (by rw [in_strs, decide_eq_true hq]; rfl) ?_
    refine ⟨_, rfl, _, rfl, sz3, fun t nt => ?_⟩
    refine ⟨_, rfl, _, rfl, a, _, rfl, (new_same nt).seq ha1, fun l2 nl => ?_⟩
    rw [d3]
    refine ⟨sz2, fun u nu => ?_⟩
    obtain ⟨s3, r⟩ := res_mk (K := K) (fm := .like p la) (x := .ref t) (same_tr s1 (new_same nt)) ⟨t, rfl, SqT.of upd_same⟩ nl nu
    exact k _ _ s3 r
end
end WK
end
section
set_option Elab.async false
set_option linter.all false
set_option maxRecDepth 100000
set_option maxHeartbeats 4000000
namespace WK
open PySem L2 PyProof.Rows
section
variable {K : PySem.W.Frag}
theorem sqT_over {G : Hp} {pp a : Addr} {xs ys : List V} {o : HO} (h : G pp = some (.lst xs)) (q : SqT K G a ys) : SqT K (upd G pp o) a ys := by
  have ne : ∀ u, G a = some u → u ≠ .lst xs → a ≠ pp := fun u e n z => by
    rw [z, h] at e
    exact n (Option.some.inj e).symm
  rcases q with q | q
  · rcases q with q | ⟨ob, q⟩
    · exact .inl (.inl (by rw [upd_ne (ne _ q (by intro z; cases z))]; exact q))
    · exact .inl (.inr ⟨ob, by rw [upd_ne (ne _ q (by intro z; cases z))]; exact q⟩)
  · exact .inr q
theorem sqL_over {G : Hp} {pp a : Addr} {xs ys : List V} {o : HO} (h : G pp = some (.lst xs)) (n : xs ≠ ys) (q : SqL K G a ys) : SqL K (upd G pp o) a ys := by
  have ne : ∀ u, G a = some u → u ≠ .lst xs → a ≠ pp := fun u e n z => by
    rw [z, h] at e
    exact n (Option.some.inj e).symm
  rcases q with q | q
  · rcases q with q | ⟨ob, q⟩
    · exact .inl (.inl (by rw [upd_ne (ne _ q (by intro z; injection z with z; exact n z.symm))]; exact q))
    · exact .inl (.inr ⟨ob, by rw [upd_ne (ne _ q (by intro z; cases z))]; exact q⟩)
  · exact .inr q
theorem FmAt.over {G : Hp} {pp : Addr} {xs : List V} {o : HO} (h : G pp = some (.lst xs)) : ∀ {f : Fm} {v : V}, FmAt K G f v → FmAt K (upd G pp o) f v
  | .non _, _, ⟨a, h1, h2⟩ => ⟨a, h1, sqT_over h h2⟩
  | .word _ _, _, ⟨a, h1, h2⟩ => ⟨a, h1, sqT_over h h2⟩
  | .like _ _, _, ⟨a, h1, h2⟩ => ⟨a, h1, sqT_over h h2⟩
  | .neg _, _, ⟨a, x, h1, h2, h3⟩ => ⟨a, x, h1, sqT_over h h2, FmAt.over h h3⟩
  | .bin _ _ _, _, ⟨a, x, y, h1, h2, h3, h4⟩ => ⟨a, x, y, h1, sqT_over h h2, FmAt.over h h3, FmAt.over h h4⟩
theorem FmAt.ref {H : Hp} : ∀ {f : Fm} {v : V}, FmAt K H f v → ∃ a, v = .ref a
  | .non _, _, ⟨a, h1, _⟩ => ⟨a, h1⟩
  | .word _ _, _, ⟨a, h1, _⟩ => ⟨a, h1⟩
  | .like _ _, _, ⟨a, h1, _⟩ => ⟨a, h1⟩
  | .neg _, _, ⟨a, _, h1, _⟩ => ⟨a, h1⟩
  | .bin _ _ _, _, ⟨a, _, _, h1, _⟩ => ⟨a, h1⟩
end
/-! ### joined_in -/
def hdNe (o : Op) (rest : List Str) : Prop := rest.take 1 ≠ [o.s]
def JS (S : List Str → Fm → List Str → List Str → Prop) (o : Op) : List Str → Fm → List Str → List Str → Prop := fun ps F ws rest =>
  (S ps F ws rest ∧ hdNe o rest) ∨ ∃ f g ws2, F = .bin o f g ∧ S ps f ws (o.s :: ws2) ∧ S ps g ws2 rest ∧ hdNe o rest
/-- all that is left is of the words -/
def Left (S : List Str → Fm → List Str → List Str → Prop) : Prop := ∀ ps f ws rest, S ps f ws rest → ∀ z ∈ rest, z ∈ ws
def spJ (K : PySem.W.Frag) (S : List Str → Fm → List Str → List Str → Prop) (o : Op) (fR : Addr) : Sp := fun vs H Q _ => ∃ (a b : Addr) (ws ps rest : List Str) (f : Fm), vs = [.ref a, .ref b, .str o.s, .ref fR] ∧ SqL K H a (ws.map V.str) ∧ SqL K H b (ps.map V.str) ∧ (∀ z ∈ ws, okW z) ∧ JS S o ps f ws rest ∧
  ∀ v H', Same H H' → Res K H' v f rest → Q v H'
abbrev sJoinedIn : Stmt := top 26
abbrev nJoinedIn : List Str := ["words", "paths", "between", "reader", "found", "parts", "left"]
theorem op_ok (o : Op) : okW o.s := by
  unfold okW
  cases o <;> decide +kernel
theorem ref_non {a : Addr} : decide (V.ref a = V.non) = false := decide_eq_false (fun z => by cases z)
theorem ne_strs {a : Addr} {xs : List V} {zs : List Str} : V.ref a :: xs ≠ zs.map V.str := fun z => by
  cases zs with
  | nil => cases z
  | cons y ys => cases z
section
variable {P : Program} {w : World} {K : PySem.W.Frag} {mg : Str → Option Value} {base : Heap}
theorem scJoinedIn : FnScope nJoinedIn ["words", "paths", "between", "reader"] (defScope sJoinedIn) := ⟨rfl, rfl, rfl, by decide +kernel, rfl, by decide +kernel, by decide +kernel⟩
theorem ok_joined {S : List Str → Fm → List Str → List Str → Prop} {o : Op} {fR : Addr} {n : Nat} (hS : Left S) (B : Free mg) (D : DefOf K mg "joined_in" sJoinedIn ["words", "paths", "between", "reader"]) (R : C8.CalAt P w K mg base n fR (spS K S)) : C8.Cal P w K mg base (n + 1) "joined_in" (spJ K S o fR) [] := by
  refine D.cal scJoinedIn (fun vs H Q E h => ?_) (fun f cdv A outer s H vs Q E hr h => ?_)
  · obtain ⟨a, b, ws, ps, rest, f, rfl, _⟩ := h
    rfl
  obtain ⟨a, b, ws, ps, rest, F, rfl, ha, hb, hw, hJ, k⟩ := h
  obtain ⟨fdR, psR, Freader, kreader, breader⟩ := R.ex
  have hu : (A.deeper (envOfC "joined_in" (defScope sJoinedIn) s.heap.objs.size f cdv)).units + 64 < cLine := by have := hr.un; omega
  refine ⟨_, (pss_cons (ps_set (i := 4) scJoinedIn.nd rfl (Or.inl rfl) (pe_callL (i := 3) Freader hr rfl (Or.inl rfl) kreader breader .nil pass0 (pa_cons (pv 0) (pa_cons (pv 1) pa_nil))))
      (pss_cons (ps_if (pt_cmpR op_isN (pv 4) pe_non (nomark _))
      (pss_one (ps_ret pe_non))
      pss_nil)
      (pss_cons (ps_par (i := 5) (j := 6) rfl scJoinedIn.nd rfl rfl (by decide) rfl rfl (pa_cons (pe_lst (pa_cons (pe_ix ix_tup (pv 4) pe_int (fun _ _ => rfl)) pa_nil)) (pa_cons (pe_ix ix_tup (pv 4) pe_int (fun _ _ => rfl)) pa_nil)) (by rfl))
      (pss_cons (ps_while PassesOwn.never (pt_cmpR (op_eqW hu) (pe_slice sl_list (pv 6) po_none (po_some pe_int)) (pe_lst (pa_cons (pv 2) pa_nil)) (nomark _))
      (pss_cons (ps_set (i := 4) scJoinedIn.nd rfl (Or.inl rfl) (pe_callL (i := 3) Freader hr rfl (Or.inl rfl) kreader breader .nil pass0 (pa_cons (pe_slice sl_list (pv 6) (po_some pe_int) po_none) (pa_cons (pv 1) pa_nil))))
      (pss_cons (ps_if (pt_cmpR op_isN (pv 4) pe_non (nomark _))
      (pss_one (ps_ret pe_non))
      pss_nil)
      (pss_cons (ps_expr (pe_bm PySem.F.plainAttrs_list PySem.F.slot_list_append PySem.F.type_list_append mt_append (pv 5) (pa_cons (pe_ix ix_tup (pv 4) pe_int (fun _ _ => rfl)) pa_nil)))
      (pss_one (ps_set (i := 6) scJoinedIn.nd rfl (Or.inl rfl) (pe_ix ix_tup (pv 4) pe_int (fun _ _ => rfl))))))))
      (pss_one (ps_ret (pe_tup (pa_cons (pe_ifExp (pt_cmpR op_eq (pe_callB call_len_seq (by rfl) B.len PySem.boot_len (pa_cons (pv 5) pa_nil)) pe_int (nomark _)) (pe_ix ix_list (pv 5) pe_int (fun _ _ => rfl)) (pe_tup (pa_cons (pv 2) (StX.pa_star (pv 5) pa_nil)))) (pa_cons (pv 6) pa_nil))))))))), ?_⟩
  -- the first part and what is left behind it
  obtain ⟨f1, L1, h1, hL⟩ : ∃ f1 L1, S ps f1 ws L1 ∧ ((F = f1 ∧ L1 = rest ∧ hdNe o rest) ∨ ∃ g ws2, F = .bin o f1 g ∧ L1 = o.s :: ws2 ∧ S ps g ws2 rest ∧ hdNe o rest) := by
    rcases hJ with ⟨h1, h2⟩ | ⟨f1, g, ws2, rfl, h1, h2, h3⟩
    · exact ⟨F, rest, h1, .inl ⟨rfl, rfl, h2⟩⟩
    · exact ⟨f1, _, h1, .inr ⟨g, ws2, rfl, rfl, h2, h3⟩⟩
  have okL : ∀ z ∈ L1, okW z := fun z hz => hw z (hS _ _ _ _ h1 z hz)
  refine ⟨rfl, _, rfl, _, rfl, a, b, ws, ps, L1, f1, rfl, ha, hb, hw, h1, fun v H1 s1 r1 => ?_⟩
  obtain ⟨t1, x1, l1, rfl, q1, q2, q3⟩ := r1
  refine ⟨_, rfl, rfl, _, rfl, ?_⟩
  refine iteN ref_non ?_
  refine ⟨_, rfl, t1, _, _, _, rfl, rfl, q1, at0, sz1, fun pp np => ?_⟩
  have s2 : Same H1 (upd H1 pp (.lst [x1])) := new_same np
  refine ⟨_, rfl, t1, _, _, _, rfl, rfl, sqT_same s2 q1, at1, _, _, rfl, ?_⟩
  have sH : Same H (upd H1 pp (.lst [x1])) := same_tr s1 s2
  have nH : H pp = none := s1.free np
  refine ⟨fun m σ G => ∃ (fv : V) (l : Addr), σ = [some (.ref a), some (.ref b), some (.str o.s), some (.ref fR), some fv, some (.ref pp), some (.ref l)] ∧ Same H G ∧
    ((∃ g ws2, m = 1 ∧ F = .bin o f1 g ∧ S ps g ws2 rest ∧ hdNe o rest ∧ (∀ z ∈ ws2, okW z) ∧ G pp = some (.lst [x1]) ∧ FmAt K G f1 x1 ∧ SqL K G l ((o.s :: ws2).map V.str)) ∨
     (m = 0 ∧ hdNe o rest ∧ (∀ z ∈ rest, okW z) ∧ SqL K G l (rest.map V.str) ∧ ((G pp = some (.lst [x1]) ∧ F = f1 ∧ FmAt K G f1 x1) ∨ ∃ g y, F = .bin o f1 g ∧ G pp = some (.lst [x1, y]) ∧ FmAt K G f1 x1 ∧ FmAt K G g y))), ?_, ?_⟩
  · rcases hL with ⟨rfl, rfl, h2⟩ | ⟨g, ws2, rfl, rfl, h2, h3⟩
    · exact ⟨0, _, l1, rfl, sH, .inr ⟨rfl, h2, okL, s2.seq q3, .inl ⟨upd_same, rfl, FmAt.mono s2 q2⟩⟩⟩
    · exact ⟨1, _, l1, rfl, sH, .inl ⟨g, ws2, rfl, rfl, h2, h3, fun z hz => okL z (List.mem_cons_of_mem _ hz), upd_same, FmAt.mono s2 q2, s2.seq q3⟩⟩
  · rintro m σ G ⟨fv, l, rfl, sG, hW⟩
    rcases hW with ⟨g, ws2, rfl, rfl, hg, h3, ok2, gp, g1, gl⟩ | ⟨rfl, h3, ok2, gl, hfin⟩
    · -- a turn
      refine ⟨_, rfl, _, rfl, l, _, rfl, gl, fun l2 n2 => ?_⟩
      have e2 : cutV ((o.s :: ws2).map V.str) none (some 1) = ([o.s] : List Str).map V.str := by rw [cut_hd1]; rfl
      rw [e2]
      refine ⟨_, rfl, sz1, fun l3 n3 => ?_⟩
      refine ⟨l2, l3, [o.s], [o.s], rfl, rfl, SqL.of ((new_same n3) _ _ upd_same), SqL.of upd_same, fun z hz => by rw [List.mem_singleton.mp hz]; exact op_ok o, fun z hz => by rw [List.mem_singleton.mp hz]; exact op_ok o, _, rfl, ?_⟩
      refine iteY (decide_eq_true rfl) ?_
      have s3 : Same G (upd (upd G l2 (.lst (([o.s] : List Str).map V.str))) l3 (.lst [.str o.s])) := same_tr (new_same n2) (new_same n3)
      generalize upd (upd G l2 (.lst (([o.s] : List Str).map V.str))) l3 (.lst [.str o.s]) = G3 at s3
      refine ⟨_, fun σ' H' z => ⟨0, by decide, z⟩, ?_⟩
      refine ⟨rfl, _, rfl, _, rfl, l, _, rfl, s3.seq gl, fun l4 n4 => ?_⟩
      have e4 : cutV ((o.s :: ws2).map V.str) (some 1) none = ws2.map V.str := by rw [cut_tl1]; rfl
      rw [e4]
      have s4 : Same G (upd G3 l4 (.lst (ws2.map V.str))) := same_tr s3 (new_same n4)
      have g4 : (upd G3 l4 (.lst (ws2.map V.str))) l4 = some (.lst (ws2.map V.str)) := upd_same
      generalize upd G3 l4 (.lst (ws2.map V.str)) = G4 at s4 g4
      refine ⟨_, rfl, l4, b, ws2, ps, rest, g, rfl, SqL.of g4, (same_tr sG s4).seq hb, ok2, hg, fun v5 G5 s5 r5 => ?_⟩
      obtain ⟨t5, x5, l5, rfl, a1, a2, a3⟩ := r5
      have s45 : Same G G5 := same_tr s4 s5
      refine ⟨_, rfl, rfl, _, rfl, ?_⟩
      refine iteN ref_non ?_
      refine ⟨_, rfl, .inl ⟨rfl, _, SqL.of (s45 _ _ gp)⟩, _, rfl, t5, _, _, _, rfl, rfl, a1, at0, pp, _, _, rfl, rfl, s45 _ _ gp, by show 1 < sizeLine; decide, ?_⟩
      have gp5 := s45 _ _ gp
      obtain ⟨ax, ex⟩ := FmAt.ref g1
      refine ⟨_, rfl, t5, _, _, _, rfl, rfl, sqT_over gp5 a1, at1, ?_⟩
      refine ⟨_, l5, rfl, fun d u e => ?_, .inr ⟨rfl, h3, fun z hz => ok2 z (hS _ _ _ _ hg z hz), sqL_over gp5 (by rw [ex]; exact ne_strs) a3, .inr ⟨g, x5, rfl, upd_same, FmAt.over gp5 (FmAt.mono s45 g1), FmAt.over gp5 a2⟩⟩⟩
      rw [upd_ne (ne_of_none e nH)]
      exact s45 _ _ (sG _ _ e)
    · -- the end
      refine ⟨_, rfl, _, rfl, l, _, rfl, gl, fun l2 n2 => ?_⟩
      have e2 : cutV (rest.map V.str) none (some 1) = (rest.take 1).map V.str := by rw [cut_hd1, List.map_take]
      rw [e2]
      refine ⟨_, rfl, sz1, fun l3 n3 => ?_⟩
      refine ⟨l2, l3, rest.take 1, [o.s], rfl, rfl, SqL.of ((new_same n3) _ _ upd_same), SqL.of upd_same, fun z hz => ok2 z (List.mem_of_mem_take hz), fun z hz => by rw [List.mem_singleton.mp hz]; exact op_ok o, _, rfl, ?_⟩
      refine iteN (decide_eq_false h3) ?_
      have s3 : Same G (upd (upd G l2 (.lst ((rest.take 1).map V.str))) l3 (.lst [.str o.s])) := same_tr (new_same n2) (new_same n3)
      generalize upd (upd G l2 (.lst ((rest.take 1).map V.str))) l3 (.lst [.str o.s]) = G3 at s3
      have gl3 := s3.seq gl
      rcases hfin with ⟨gp, rfl, g1⟩ | ⟨g, y, rfl, gp, g1, g2⟩
      · refine ⟨_, rfl, pp, _, rfl, .inl (SqL.of (s3 _ _ gp)), rfl, _, rfl, ?_⟩
        refine iteY (by rfl) ?_
        refine ⟨_, rfl, pp, _, _, _, rfl, rfl, SqL.of (s3 _ _ gp), at0, _, rfl, sz2, fun u nu => ?_⟩
        exact k _ _ (same_tr (same_tr sG s3) (new_same nu)) ⟨u, _, l, rfl, SqT.of upd_same, FmAt.mono (same_tr s3 (new_same nu)) g1, (new_same nu).seq gl3⟩
      · refine ⟨_, rfl, pp, _, rfl, .inl (SqL.of (s3 _ _ gp)), rfl, _, rfl, ?_⟩
        refine iteN (by rfl) ?_
        refine ⟨_, rfl, _, rfl, pp, _, rfl, .inr (SqL.of (s3 _ _ gp)), sz3, fun u nu => ?_⟩
        refine ⟨_, rfl, sz2, fun u2 nu2 => ?_⟩
        have s5 := same_tr (new_same (o := .tup [.str o.s, x1, y]) nu) (new_same (o := .tup [.ref u, .ref l]) nu2)
        exact k _ _ (same_tr (same_tr sG s3) s5) ⟨u2, _, l, rfl, SqT.of upd_same, ⟨u, x1, y, rfl, SqT.of ((new_same nu2) _ _ upd_same), FmAt.mono (same_tr s3 s5) g1, FmAt.mono (same_tr s3 s5) g2⟩, s5.seq gl3⟩
end
end WK
end
section
set_option Elab.async false
set_option linter.all false
set_option maxRecDepth 100000
set_option maxHeartbeats 4000000
namespace WK
open PySem L2 PyProof.Rows
/-! ### readings -/
section
variable {K : PySem.W.Frag} {σ : L2.St} {H : Hp} {a : Addr} {ws : List Str} {z : Str}
theorem rd_hdEq {te : TE} {Q : Bool → Hp → Prop} (he : ∀ Q : VK, Q (.ref a) H → te σ H Q) (ha : SqL K H a (ws.map V.str)) (ok : ∀ z ∈ ws, okW z) (oz : okW z) (q : ∀ G, Same H G → Q (decide (ws.take 1 = [z])) G) :
    tTest (tOp (rEqW K) (tSl (rSlL K) te tNoPart (tPart (tC (.int 1)))) (tLst (tCons (tC (.str z)) tNil))) σ H Q := by
  refine he _ ⟨_, rfl, a, _, rfl, ha, fun l2 n2 => ?_⟩
  have e2 : cutV (ws.map V.str) none (some 1) = (ws.take 1).map V.str := by rw [cut_hd1, List.map_take]
  rw [e2]
  refine ⟨sz1, fun l3 n3 => ⟨l2, l3, ws.take 1, [z], rfl, rfl, SqL.of ((new_same n3) _ _ upd_same), SqL.of upd_same, fun z hz => ok z (List.mem_of_mem_take hz), fun y hy => by rw [List.mem_singleton.mp hy]; exact oz, _, rfl, ?_⟩⟩
  exact q _ (same_tr (new_same n2) (new_same n3))
theorem rd_hdNe {te : TE} {Q : Bool → Hp → Prop} (he : ∀ Q : VK, Q (.ref a) H → te σ H Q) (ha : SqL K H a (ws.map V.str)) (ok : ∀ z ∈ ws, okW z) (oz : okW z) (q : ∀ G, Same H G → Q (!decide (ws.take 1 = [z])) G) :
    tTest (tOp (rNeW K) (tSl (rSlL K) te tNoPart (tPart (tC (.int 1)))) (tLst (tCons (tC (.str z)) tNil))) σ H Q := by
  refine he _ ⟨_, rfl, a, _, rfl, ha, fun l2 n2 => ?_⟩
  have e2 : cutV (ws.map V.str) none (some 1) = (ws.take 1).map V.str := by rw [cut_hd1, List.map_take]
  rw [e2]
  refine ⟨sz1, fun l3 n3 => ⟨l2, l3, ws.take 1, [z], rfl, rfl, SqL.of ((new_same n3) _ _ upd_same), SqL.of upd_same, fun z hz => ok z (List.mem_of_mem_take hz), fun y hy => by rw [List.mem_singleton.mp hy]; exact oz, _, rfl, ?_⟩⟩
  exact q _ (same_tr (new_same n2) (new_same n3))
theorem rd_tl {te : TE} {Q : VK} (he : ∀ Q : VK, Q (.ref a) H → te σ H Q) (ha : SqL K H a (ws.map V.str)) (q : ∀ l G, Same H G → H l = none → SqL K G l ((ws.drop 1).map V.str) → Q (.ref l) G) :
    tSl (rSlL K) te (tPart (tC (.int 1))) tNoPart σ H Q := by
  refine he _ ⟨_, rfl, a, _, rfl, ha, fun l2 n2 => ?_⟩
  have e2 : cutV (ws.map V.str) (some 1) none = (ws.drop 1).map V.str := by rw [cut_tl1, List.map_drop]
  rw [e2]
  exact q l2 _ (new_same n2) n2 (SqL.of upd_same)
end
theorem ok_if : okW "if" := by unfold okW; decide +kernel
theorem ok_then : okW "then" := by unfold okW; decide +kernel
theorem ok_not : okW "not" := by unfold okW; decide +kernel
theorem ok_lp : okW "(" := by unfold okW; decide +kernel
theorem ok_rp : okW ")" := by unfold okW; decide +kernel
theorem at_strs {z : Str} {zs : List Str} : (z :: zs).take 1 = [z] := rfl
section
variable {P : Program} {w : World} {K : PySem.W.Frag} {mg : Str → Option Value} {base : Heap}
theorem cal_at {k : Nat} {x : Str} {sp : Sp} (O : C8.Cal P w K mg base k x sp []) : ∃ f, mg x = some (.ref f) ∧ C8.CalAt P w K mg base k f sp := by
  obtain ⟨f, fd, ps, ds, F, m, kp, b, d⟩ := O.ex
  cases d
  exact ⟨f, m, fd, ps, F, kp, b⟩
theorem cal_no {x : Str} {st : Stmt} {ps : List Str} (D : DefOf K mg x st ps) (k : Nat) : C8.Cal P w K mg base k x (fun _ _ _ _ => False) [] := by
  obtain ⟨f, fd, F, m, b⟩ := D.ex
  exact ⟨f, fd, ps, [], ⟨fun _ _ _ _ h => h.elim, fun _ _ _ _ _ _ _ _ _ _ _ _ _ h => h.elim⟩, m, F.kp, b, .nil⟩
theorem cal_imp {k : Nat} {x : Str} {sp sp' : Sp} (O : C8.Cal P w K mg base k x sp []) (h : ∀ vs H Q E, sp' vs H Q E → sp vs H Q E) : C8.Cal P w K mg base k x sp' [] := by
  obtain ⟨f, fd, ps, ds, F, m, kp, b, d⟩ := O.ex
  exact ⟨f, fd, ps, ds, F.imp h, m, kp, b, d⟩
theorem cal_mono {j k : Nat} {x : Str} {sp : Sp} (O : C8.Cal P w K mg base j x sp []) (h : j ≤ k) : C8.Cal P w K mg base k x sp [] := by
  obtain ⟨f, fd, ps, ds, F, m, kp, b, d⟩ := O.ex
  exact ⟨f, fd, ps, ds, F.mono h, m, kp, b, d⟩
theorem left_js {S : List Str → Fm → List Str → List Str → Prop} {o : Op} (h : Left S) : Left (JS S o) := by
  rintro ps f ws rest (⟨h1, _⟩ | ⟨f, g, ws2, rfl, h1, h2, _⟩) z hz
  · exact h _ _ _ _ h1 z hz
  · exact h _ _ _ _ h1 z (List.mem_cons_of_mem _ (h _ _ _ _ h2 z hz))
abbrev sAllIn : Stmt := top 25
abbrev sSideIn : Stmt := top 24
abbrev sOneIn : Stmt := top 27
abbrev sFormulaIn : Stmt := top 23
abbrev nSideIn : List Str := ["words", "paths"]
theorem scSideIn : FnScope nSideIn ["words", "paths"] (defScope sSideIn) := ⟨rfl, rfl, rfl, by decide +kernel, rfl, by decide +kernel, by decide +kernel⟩
abbrev nAllIn : List Str := ["words", "paths"]
theorem scAllIn : FnScope nAllIn ["words", "paths"] (defScope sAllIn) := ⟨rfl, rfl, rfl, by decide +kernel, rfl, by decide +kernel, by decide +kernel⟩
structure Parse (K : PySem.W.Frag) (mg : Str → Option Value) : Prop where
  formula : DefOf K mg "formula_in" sFormulaIn ["words", "paths"]
  side : DefOf K mg "side_in" sSideIn ["words", "paths"]
  all : DefOf K mg "all_in" sAllIn ["words", "paths"]
  joined : DefOf K mg "joined_in" sJoinedIn ["words", "paths", "between", "reader"]
  one : DefOf K mg "one_in" sOneIn ["words", "paths"]
  atom : DefOf K mg "atom_in" sAtomIn ["words", "paths"]
theorem ok_all {S : List Str → Fm → List Str → List Str → Prop} {n : Nat} (hS : Left S) (B : Free mg) (C : FConsts K mg) (D : Parse K mg) (O_one_in : C8.Cal P w K mg base n "one_in" (spS K S) []) : C8.Cal P w K mg base (n + 2) "all_in" (spS K (JS S .and)) [] := by
  obtain ⟨f_one_in, m_one_in, R⟩ := cal_at O_one_in
  have O_joined_in := ok_joined (o := .and) hS B D.joined R
  refine D.all.cal scAllIn spS_len (fun f cdv A outer s H vs Q E hr h => ?_)
  obtain ⟨a, b, ws, ps, rest, F, rfl, ha, hb, hw, hJ, k⟩ := h
  refine ⟨_, (pss_one (ps_ret (C8.pe_c O_joined_in hr (by omega) (by rfl) (pa_cons (pv 0) (pa_cons (pv 1) (pa_cons (C8.pe_gc (by rfl) C.AND) (pa_cons (pe_glob (by rfl) m_one_in (v := .ref f_one_in) rfl) pa_nil))))))), ?_⟩
  exact ⟨_, rfl, _, rfl, a, b, ws, ps, rest, F, rfl, ha, hb, hw, hJ, k⟩
theorem ok_side {S : List Str → Fm → List Str → List Str → Prop} {n : Nat} (hS : Left S) (B : Free mg) (C : FConsts K mg) (D : Parse K mg) (O_all_in : C8.Cal P w K mg base n "all_in" (spS K S) []) : C8.Cal P w K mg base (n + 2) "side_in" (spS K (JS S .or)) [] := by
  obtain ⟨f_all_in, m_all_in, R⟩ := cal_at O_all_in
  have O_joined_in := ok_joined (o := .or) hS B D.joined R
  refine D.side.cal scSideIn spS_len (fun f cdv A outer s H vs Q E hr h => ?_)
  obtain ⟨a, b, ws, ps, rest, F, rfl, ha, hb, hw, hJ, k⟩ := h
  refine ⟨_, (pss_one (ps_ret (C8.pe_c O_joined_in hr (by omega) (by rfl) (pa_cons (pv 0) (pa_cons (pv 1) (pa_cons (C8.pe_gc (by rfl) C.OR) (pa_cons (pe_glob (by rfl) m_all_in (v := .ref f_all_in) rfl) pa_nil))))))), ?_⟩
  exact ⟨_, rfl, _, rfl, a, b, ws, ps, rest, F, rfl, ha, hb, hw, hJ, k⟩
abbrev nFormulaIn : List Str := ["words", "paths", "found", "other"]
theorem scFormulaIn : FnScope nFormulaIn ["words", "paths"] (defScope sFormulaIn) := ⟨rfl, rfl, rfl, by decide +kernel, rfl, by decide +kernel, by decide +kernel⟩
/-- formula_in over side_in's promise SS -/
def FS (SS : List Str → Fm → List Str → List Str → Prop) : List Str → Fm → List Str → List Str → Prop := fun ps F ws rest =>
  (ws.take 1 ≠ [("if" : Str)] ∧ SS ps F ws rest) ∨ ∃ f g ws1 ws2, F = .bin .iff f g ∧ ws = ("if" : Str) :: ws1 ∧ SS ps f ws1 (("then" : Str) :: ws2) ∧ SS ps g ws2 rest
theorem ok_formula {SS : List Str → Fm → List Str → List Str → Prop} {n : Nat} (hS : Left SS) (C : FConsts K mg) (D : Parse K mg) (O_side_in : C8.Cal P w K mg base n "side_in" (spS K SS) []) : C8.Cal P w K mg base (n + 1) "formula_in" (spS K (FS SS)) [] := by
  refine D.formula.cal scFormulaIn spS_len (fun f cdv A outer s H vs Q E hr h => ?_)
  obtain ⟨a, b, ws, ps, rest, F, rfl, ha, hb, hw, hF, k⟩ := h
  have hu : (A.deeper (envOfC "formula_in" (defScope sFormulaIn) s.heap.objs.size f cdv)).units + 64 < cLine := by have := hr.un; omega
  refine ⟨_, (pss_cons (ps_if (pt_cmpR (op_neW hu) (pe_slice sl_list (pv 0) po_none (po_some pe_int)) (pe_lst (pa_cons (C8.pe_gc (by rfl) C.IF) pa_nil)) (nomark _))
      (pss_one (ps_ret (C8.pe_c O_side_in hr (by omega) (by rfl) (pa_cons (pv 0) (pa_cons (pv 1) pa_nil)))))
      pss_nil)
      (pss_cons (ps_set (i := 2) scFormulaIn.nd rfl (Or.inl rfl) (C8.pe_c O_side_in hr (by omega) (by rfl) (pa_cons (pe_slice sl_list (pv 0) (po_some pe_int) po_none) (pa_cons (pv 1) pa_nil))))
      (pss_cons (ps_if (pw_or (pt_cmpR op_isN (pv 2) pe_non (nomark _))
        (pw_or1 (pt_cmpR (op_neW hu) (pe_slice sl_list (pe_ix ix_tup (pv 2) pe_int (fun _ _ => rfl)) po_none (po_some pe_int)) (pe_lst (pa_cons (C8.pe_gc (by rfl) C.THEN) pa_nil)) (nomark _)))).pt
      (pss_one (ps_ret pe_non))
      pss_nil)
      (pss_cons (ps_set (i := 3) scFormulaIn.nd rfl (Or.inl rfl) (C8.pe_c O_side_in hr (by omega) (by rfl) (pa_cons (pe_slice sl_list (pe_ix ix_tup (pv 2) pe_int (fun _ _ => rfl)) (po_some pe_int) po_none) (pa_cons (pv 1) pa_nil))))
      (pss_one (ps_ret (pe_ifExp (pt_cmpR op_isN (pv 3) pe_non (nomark _)) pe_non (pe_tup (pa_cons (pe_tup (pa_cons (C8.pe_gc (by rfl) C.IF) (pa_cons (pe_ix ix_tup (pv 2) pe_int (fun _ _ => rfl)) (pa_cons (pe_ix ix_tup (pv 3) pe_int (fun _ _ => rfl)) pa_nil)))) (pa_cons (pe_ix ix_tup (pv 3) pe_int (fun _ _ => rfl)) pa_nil)))))))))), ?_⟩
  refine rd_hdNe (a := a) (ws := ws) (fun Q q => ⟨_, rfl, q⟩) ha hw ok_if fun G1 s1 => ?_
  rcases hF with ⟨h1, h2⟩ | ⟨f0, g0, ws1, ws2, rfl, rfl, h2, h3⟩
  · refine iteY (by rw [decide_eq_false h1]; rfl) ?_
    exact ⟨_, rfl, _, rfl, a, b, ws, ps, rest, F, rfl, s1.seq ha, s1.seq hb, hw, h2, fun v H' s2 r => k v H' (same_tr s1 s2) r⟩
  · refine iteN (by rw [decide_eq_true at_strs]; rfl) ?_
    have ok1 : ∀ z ∈ ws1, okW z := fun z hz => hw z (List.mem_cons_of_mem _ hz)
    have okt : ∀ z ∈ ("then" : Str) :: ws2, okW z := fun z hz => ok1 z (hS _ _ _ _ h2 z hz)
    have ok2 : ∀ z ∈ ws2, okW z := fun z hz => okt z (List.mem_cons_of_mem _ hz)
    refine ⟨_, rfl, _, rfl, a, _, rfl, s1.seq ha, fun l2 n2 => ?_⟩
    rw [cut_tl1]
    have s2 : Same G1 (upd G1 l2 (.lst (ws1.map V.str))) := new_same n2
    have q2 : SqL K (upd G1 l2 (.lst (ws1.map V.str))) l2 (ws1.map V.str) := SqL.of upd_same
    change tCons _ _ _ (upd G1 l2 (.lst (ws1.map V.str))) _
    generalize upd G1 l2 (.lst (ws1.map V.str)) = G2 at s2 q2
    refine ⟨_, rfl, l2, b, ws1, ps, _, f0, rfl, q2, (same_tr s1 s2).seq hb, ok1, h2, fun v G3 s3 r3 => ?_⟩
    obtain ⟨t3, x3, l3, rfl, a1, a2, a3⟩ := r3
    refine ⟨_, rfl, rfl, _, rfl, ?_⟩
    refine iteN ref_non ?_
    refine rd_hdNe (a := l3) (ws := ("then" : Str) :: ws2) (fun Q q => ⟨_, rfl, t3, _, _, _, rfl, rfl, a1, at1, q⟩) a3 okt ok_then fun G4 s4 => ?_
    refine iteN (by rw [decide_eq_true at_strs]; rfl) ?_
    refine ⟨_, rfl, t3, _, _, _, rfl, rfl, sqT_same s4 a1, at1, _, rfl, l3, _, rfl, s4.seq a3, fun l5 n5 => ?_⟩
    rw [cut_tl1]
    have s5 : Same G4 (upd G4 l5 (.lst (ws2.map V.str))) := new_same n5
    have q5 : SqL K (upd G4 l5 (.lst (ws2.map V.str))) l5 (ws2.map V.str) := SqL.of upd_same
    change tCons _ _ _ (upd G4 l5 (.lst (ws2.map V.str))) _
    generalize upd G4 l5 (.lst (ws2.map V.str)) = G5 at s5 q5
    have sH5 : Same H G5 := same_tr (same_tr (same_tr s1 s2) s3) (same_tr s4 s5)
    refine ⟨_, rfl, l5, b, ws2, ps, _, g0, rfl, q5, sH5.seq hb, ok2, h3, fun v G6 s6 r6 => ?_⟩
    obtain ⟨t6, x6, l6, rfl, b1, b2, b3⟩ := r6
    have s36 : Same G3 G6 := same_tr (same_tr s4 s5) s6
    refine ⟨_, rfl, rfl, _, rfl, ?_⟩
    refine iteN ref_non ?_
    refine ⟨_, rfl, t3, _, _, _, rfl, rfl, sqT_same s36 a1, at0, _, rfl, t6, _, _, _, rfl, rfl, b1, at0, sz3, fun u nu => ?_⟩
    refine ⟨_, rfl, t6, _, _, _, rfl, rfl, sqT_same (new_same nu) b1, at1, sz2, fun u2 nu2 => ?_⟩
    have s7 := same_tr (new_same (o := .tup [.str "if", x3, x6]) nu) (new_same (o := .tup [.ref u, .ref l6]) nu2)
    exact k _ _ (same_tr (same_tr sH5 s6) s7) ⟨u2, _, l6, rfl, SqT.of upd_same, ⟨u, x3, x6, rfl, SqT.of ((new_same nu2) _ _ upd_same), FmAt.mono (same_tr s36 s7) a2, FmAt.mono s7 b2⟩, s7.seq b3⟩
end
end WK
end
section
set_option Elab.async false
set_option linter.all false
set_option maxRecDepth 100000
set_option maxHeartbeats 4000000
namespace WK
open PySem L2 PyProof.Rows
section
variable {P : Program} {w : World} {K : PySem.W.Frag} {mg : Str → Option Value} {base : Heap}
abbrev nOneIn : List Str := ["words", "paths", "found"]
theorem scOneIn : FnScope nOneIn ["words", "paths"] (defScope sOneIn) := ⟨rfl, rfl, rfl, by decide +kernel, rfl, by decide +kernel, by decide +kernel⟩
/-- one_in over its own promise S1 and formula_in's SF -/
def OS (S1 SF : List Str → Fm → List Str → List Str → Prop) : List Str → Fm → List Str → List Str → Prop := fun ps f ws rest =>
  (ws.take 1 ≠ [("not" : Str)] ∧ ws.take 1 ≠ [("(" : Str)] ∧ SAtom ps f ws rest) ∨ (∃ g ws1, f = .neg g ∧ ws = ("not" : Str) :: ws1 ∧ S1 ps g ws1 rest) ∨ ∃ ws1, ws = ("(" : Str) :: ws1 ∧ SF ps f ws1 ((")" : Str) :: rest)
theorem ok_one {S1 SF : List Str → Fm → List Str → List Str → Prop} {n : Nat} (hn : 2 ≤ n) (hF : Left SF) (C : FConsts K mg) (D : Parse K mg) (O_atom_in : C8.Cal P w K mg base 2 "atom_in" (spS K SAtom) []) (O_one_in : C8.Cal P w K mg base n "one_in" (spS K S1) []) (O_formula_in : C8.Cal P w K mg base n "formula_in" (spS K SF) []) :
    C8.Cal P w K mg base (n + 1) "one_in" (spS K (OS S1 SF)) [] := by
  refine D.one.cal scOneIn spS_len (fun f cdv A outer s H vs Q E hr h => ?_)
  obtain ⟨a, b, ws, ps, rest, F, rfl, ha, hb, hw, hO, k⟩ := h
  have hu : (A.deeper (envOfC "one_in" (defScope sOneIn) s.heap.objs.size f cdv)).units + 64 < cLine := by have := hr.un; omega
  refine ⟨_, (pss_cons (ps_if (pt_cmpR (op_eqW hu) (pe_slice sl_list (pv 0) po_none (po_some pe_int)) (pe_lst (pa_cons (C8.pe_gc (by rfl) C.NOT) pa_nil)) (nomark _))
      (pss_cons (ps_set (i := 2) scOneIn.nd rfl (Or.inl rfl) (C8.pe_c O_one_in hr (by omega) (by rfl) (pa_cons (pe_slice sl_list (pv 0) (po_some pe_int) po_none) (pa_cons (pv 1) pa_nil))))
      (pss_one (ps_ret (pe_ifExp (pt_cmpR op_isN (pv 2) pe_non (nomark _)) pe_non (pe_tup (pa_cons (pe_tup (pa_cons (C8.pe_gc (by rfl) C.NOT) (pa_cons (pe_ix ix_tup (pv 2) pe_int (fun _ _ => rfl)) pa_nil))) (pa_cons (pe_ix ix_tup (pv 2) pe_int (fun _ _ => rfl)) pa_nil)))))))
      pss_nil)
      (pss_cons (ps_if (pt_cmpR (op_eqW hu) (pe_slice sl_list (pv 0) po_none (po_some pe_int)) (pe_lst (pa_cons pe_str pa_nil)) (nomark _))
      (pss_cons (ps_set (i := 2) scOneIn.nd rfl (Or.inl rfl) (C8.pe_c O_formula_in hr (by omega) (by rfl) (pa_cons (pe_slice sl_list (pv 0) (po_some pe_int) po_none) (pa_cons (pv 1) pa_nil))))
      (pss_one (ps_ret (pe_ifExp (pw_or (pt_cmpR op_isN (pv 2) pe_non (nomark _))
        (pw_or1 (pt_cmpR (op_neW hu) (pe_slice sl_list (pe_ix ix_tup (pv 2) pe_int (fun _ _ => rfl)) po_none (po_some pe_int)) (pe_lst (pa_cons pe_str pa_nil)) (nomark _)))).pt pe_non (pe_tup (pa_cons (pe_ix ix_tup (pv 2) pe_int (fun _ _ => rfl)) (pa_cons (pe_slice sl_list (pe_ix ix_tup (pv 2) pe_int (fun _ _ => rfl)) (po_some pe_int) po_none) pa_nil)))))))
      pss_nil)
      (pss_one (ps_ret (C8.pe_c O_atom_in hr (by omega) (by rfl) (pa_cons (pv 0) (pa_cons (pv 1) pa_nil))))))), ?_⟩
  refine rd_hdEq (a := a) (ws := ws) (fun Q q => ⟨_, rfl, q⟩) ha hw ok_not fun G1 s1 => ?_
  rcases hO with ⟨h1, h2, h3⟩ | ⟨g, ws1, rfl, rfl, h1⟩ | ⟨ws1, rfl, h1⟩
  · refine iteN (decide_eq_false h1) ?_
    dsimp only [tNext]
    refine rd_hdEq (a := a) (ws := ws) (fun Q q => ⟨_, rfl, q⟩) (s1.seq ha) hw ok_lp fun G2 s2 => ?_
    refine iteN (decide_eq_false h2) ?_
    have s12 := same_tr s1 s2
    exact ⟨_, rfl, _, rfl, a, b, ws, ps, rest, F, rfl, s12.seq ha, s12.seq hb, hw, h3, fun v H' s3 r => k v H' (same_tr s12 s3) r⟩
  · refine iteY (decide_eq_true at_strs) ?_
    have ok1 : ∀ z ∈ ws1, okW z := fun z hz => hw z (List.mem_cons_of_mem _ hz)
    refine ⟨_, rfl, _, rfl, a, _, rfl, s1.seq ha, fun l2 n2 => ?_⟩
    rw [cut_tl1]
    have s2 : Same G1 (upd G1 l2 (.lst (ws1.map V.str))) := new_same n2
    have q2 : SqL K (upd G1 l2 (.lst (ws1.map V.str))) l2 (ws1.map V.str) := SqL.of upd_same
    change tCons _ _ _ (upd G1 l2 (.lst (ws1.map V.str))) _
    generalize upd G1 l2 (.lst (ws1.map V.str)) = G2 at s2 q2
    refine ⟨_, rfl, l2, b, ws1, ps, _, g, rfl, q2, (same_tr s1 s2).seq hb, ok1, h1, fun v G3 s3 r3 => ?_⟩
    obtain ⟨t3, x3, l3, rfl, a1, a2, a3⟩ := r3
    refine ⟨_, rfl, rfl, _, rfl, ?_⟩
    refine iteN ref_non ?_
    refine ⟨_, rfl, t3, _, _, _, rfl, rfl, a1, at0, sz2, fun u nu => ?_⟩
    refine ⟨_, rfl, t3, _, _, _, rfl, rfl, sqT_same (new_same nu) a1, at1, sz2, fun u2 nu2 => ?_⟩
    have s7 := same_tr (new_same (o := .tup [.str "not", x3]) nu) (new_same (o := .tup [.ref u, .ref l3]) nu2)
    exact k _ _ (same_tr (same_tr (same_tr s1 s2) s3) s7) ⟨u2, _, l3, rfl, SqT.of upd_same, ⟨u, x3, rfl, SqT.of ((new_same nu2) _ _ upd_same), FmAt.mono s7 a2⟩, s7.seq a3⟩
  · refine iteN (decide_eq_false (by intro z; cases z)) ?_
    dsimp only [tNext]
    refine rd_hdEq (a := a) (ws := ("(" : Str) :: ws1) (fun Q q => ⟨_, rfl, q⟩) (s1.seq ha) hw ok_lp fun G0 s0 => ?_
    refine iteY (decide_eq_true at_strs) ?_
    have ok1 : ∀ z ∈ ws1, okW z := fun z hz => hw z (List.mem_cons_of_mem _ hz)
    have okr : ∀ z ∈ (")" : Str) :: rest, okW z := fun z hz => ok1 z (hF _ _ _ _ h1 z hz)
    have s01 := same_tr s1 s0
    refine ⟨_, rfl, _, rfl, a, _, rfl, s01.seq ha, fun l2 n2 => ?_⟩
    rw [cut_tl1]
    have s2 : Same G0 (upd G0 l2 (.lst (ws1.map V.str))) := new_same n2
    have q2 : SqL K (upd G0 l2 (.lst (ws1.map V.str))) l2 (ws1.map V.str) := SqL.of upd_same
    change tCons _ _ _ (upd G0 l2 (.lst (ws1.map V.str))) _
    generalize upd G0 l2 (.lst (ws1.map V.str)) = G2 at s2 q2
    refine ⟨_, rfl, l2, b, ws1, ps, _, F, rfl, q2, (same_tr s01 s2).seq hb, ok1, h1, fun v G3 s3 r3 => ?_⟩
    obtain ⟨t3, x3, l3, rfl, a1, a2, a3⟩ := r3
    refine ⟨_, rfl, rfl, _, rfl, ?_⟩
    refine iteN ref_non ?_
    refine rd_hdNe (a := l3) (ws := (")" : Str) :: rest) (fun Q q => ⟨_, rfl, t3, _, _, _, rfl, rfl, a1, at1, q⟩) a3 okr ok_rp fun G4 s4 => ?_
    refine iteN (by rw [decide_eq_true at_strs]; rfl) ?_
    refine ⟨_, rfl, t3, _, _, _, rfl, rfl, sqT_same s4 a1, at0, _, rfl, t3, _, _, _, rfl, rfl, sqT_same s4 a1, at1, _, rfl, l3, _, rfl, s4.seq a3, fun l5 n5 => ?_⟩
    rw [cut_tl1]
    refine ⟨sz2, fun u nu => ?_⟩
    have s7 := same_tr (new_same (o := .lst (rest.map V.str)) n5) (new_same (o := .tup [x3, .ref l5]) nu)
    exact k _ _ (same_tr (same_tr (same_tr (same_tr s01 s2) s3) s4) s7) ⟨u, _, l5, rfl, SqT.of upd_same, FmAt.mono (same_tr s4 s7) a2, SqL.of ((new_same nu) _ _ upd_same)⟩
/-! ### by height -/
def SOne (m : Nat) : List Str → Fm → List Str → List Str → Prop := fun ps f ws rest => OkF ps f ∧ ht f ≤ m ∧ ws = ones f true ++ rest
abbrev SAll (m : Nat) := JS (SOne m) .and
abbrev SSide (m : Nat) := JS (SAll m) .or
abbrev SForm (m : Nat) := FS (SSide m)
theorem left_one (m : Nat) : Left (SOne m) := by
  rintro ps f ws rest ⟨_, _, rfl⟩ z hz
  exact List.mem_append_right _ hz
theorem left_fs {SS : List Str → Fm → List Str → List Str → Prop} (h : Left SS) : Left (FS SS) := by
  rintro ps f ws rest (⟨_, h1⟩ | ⟨f, g, ws1, ws2, rfl, rfl, h1, h2⟩) z hz
  · exact h _ _ _ _ h1 z hz
  · exact List.mem_cons_of_mem _ (h _ _ _ _ h1 z (List.mem_cons_of_mem _ (h _ _ _ _ h2 z hz)))
theorem path_ne {p z : Str} (h : PathW p) (hz : 46 ∉ z.cps.toList) : p ≠ z := fun e => hz (e ▸ h.pt)
/-- the first word of a formula in its own brackets -/
theorem first_word {ps : List Str} : ∀ {f : Fm}, OkF ps f → ∃ z r, ones f true = z :: r ∧ z ≠ "if" ∧ z ≠ "then" ∧ z ≠ "or" ∧ z ≠ "and" ∧ (atomic f → z ≠ "not" ∧ z ≠ "(")
  | .non p, h => ⟨p, _, rfl, path_ne h.2 (by decide +kernel), path_ne h.2 (by decide +kernel), path_ne h.2 (by decide +kernel), path_ne h.2 (by decide +kernel), fun _ => ⟨path_ne h.2 (by decide +kernel), path_ne h.2 (by decide +kernel)⟩⟩
  | .word p _, h => ⟨p, _, rfl, path_ne h.2.1 (by decide +kernel), path_ne h.2.1 (by decide +kernel), path_ne h.2.1 (by decide +kernel), path_ne h.2.1 (by decide +kernel), fun _ => ⟨path_ne h.2.1 (by decide +kernel), path_ne h.2.1 (by decide +kernel)⟩⟩
  | .like p _, h => ⟨p, _, rfl, path_ne h.2.1 (by decide +kernel), path_ne h.2.1 (by decide +kernel), path_ne h.2.1 (by decide +kernel), path_ne h.2.1 (by decide +kernel), fun _ => ⟨path_ne h.2.1 (by decide +kernel), path_ne h.2.1 (by decide +kernel)⟩⟩
  | .neg f, _ => ⟨"not", _, rfl, by decide +kernel, by decide +kernel, by decide +kernel, by decide +kernel, fun z => z.elim⟩
  | .bin _ _ _, _ => ⟨"(", _, rfl, by decide +kernel, by decide +kernel, by decide +kernel, by decide +kernel, fun z => z.elim⟩
theorem take_ne {ps : List Str} {f : Fm} (h : OkF ps f) (r : List Str) : (ones f true ++ r).take 1 ≠ [("if" : Str)] := by
  obtain ⟨z, r0, e, n, _⟩ := first_word h
  rw [e]
  intro q
  injection q with q
  exact n q
theorem one_all {m : Nat} {ps : List Str} {f : Fm} {ws rest : List Str} (h : SOne m ps f ws rest) (n : hdNe .and rest) : SAll m ps f ws rest := .inl ⟨h, n⟩
theorem one_side {m : Nat} {ps : List Str} {f : Fm} {ws rest : List Str} (h : SOne m ps f ws rest) (n : hdNe .and rest) (n2 : hdNe .or rest) : SSide m ps f ws rest := .inl ⟨.inl ⟨h, n⟩, n2⟩
/-- what formula_in reads: the parts of height m -/
def parts : Fm → Nat → Prop
  | .bin _ f g, m => ht f ≤ m ∧ ht g ≤ m
  | f, m => ht f ≤ m
theorem form_of {m : Nat} {ps : List Str} {F : Fm} {rest : List Str} (h : OkF ps F) (hm : parts F m) (n : hdNe .and rest) (n2 : hdNe .or rest) : SForm m ps F (ones F false ++ rest) rest := by
  have lone : ∀ f, OkF ps f → ht f ≤ m → (∀ b, ones f b = ones f true) → SForm m ps f (ones f false ++ rest) rest := fun f o l e => by
    rw [e false]
    exact .inl ⟨take_ne o rest, one_side ⟨o, l, rfl⟩ n n2⟩
  cases F with
  | non p => exact lone _ h hm fun b => rfl
  | word p z => exact lone _ h hm fun b => rfl
  | like p q => exact lone _ h hm fun b => rfl
  | neg f => exact lone _ h hm fun b => rfl
  | bin o f g =>
    obtain ⟨o1, o2⟩ := h
    obtain ⟨l1, l2⟩ := hm
    cases o with
    | iff =>
      refine .inr ⟨f, g, ones f true ++ (("then" : Str) :: (ones g true ++ rest)), ones g true ++ rest, rfl, ?_, ?_, ?_⟩
      · show ("if" : Str) :: (ones f true ++ ("then" : Str) :: ones g true) ++ rest = _
        simp
      · exact one_side ⟨o1, l1, rfl⟩ (by intro z; cases z) (by intro z; cases z)
      · exact one_side ⟨o2, l2, rfl⟩ n n2
    | and =>
      have e : ones (.bin .and f g) false ++ rest = ones f true ++ (Op.and.s :: (ones g true ++ rest)) := by
        show (ones f true ++ Op.and.s :: ones g true) ++ rest = _
        simp
      rw [e]
      refine .inl ⟨take_ne o1 _, .inl ⟨.inr ⟨f, g, ones g true ++ rest, rfl, ⟨o1, l1, rfl⟩, ⟨o2, l2, rfl⟩, n⟩, n2⟩⟩
    | or =>
      have e : ones (.bin .or f g) false ++ rest = ones f true ++ (Op.or.s :: (ones g true ++ rest)) := by
        show (ones f true ++ Op.or.s :: ones g true) ++ rest = _
        simp
      rw [e]
      refine .inl ⟨take_ne o1 _, .inr ⟨f, g, ones g true ++ rest, rfl, one_all ⟨o1, l1, rfl⟩ (by intro z; cases z), one_all ⟨o2, l2, rfl⟩ n, n2⟩⟩
theorem one_of {m : Nat} {ps : List Str} {f : Fm} {ws rest : List Str} (h : SOne (m + 1) ps f ws rest) : OS (SOne m) (SForm m) ps f ws rest := by
  obtain ⟨o, l, rfl⟩ := h
  have at_ : atomic f → OS (SOne m) (SForm m) ps f (ones f true ++ rest) rest := fun z => by
    obtain ⟨y, r, e, _, _, _, _, q⟩ := first_word o
    obtain ⟨q1, q2⟩ := q z
    refine .inl ⟨?_, ?_, z, o, rfl⟩
    · rw [e]; intro q; injection q with q; exact q1 q
    · rw [e]; intro q; injection q with q; exact q2 q
  cases f with
  | non p => exact at_ trivial
  | word p z => exact at_ trivial
  | like p q => exact at_ trivial
  | neg g => exact .inr (.inl ⟨g, _, rfl, rfl, o, by simpa [ht] using l, rfl⟩)
  | bin op f g =>
    refine .inr (.inr ⟨ones (.bin op f g) false ++ ((")" : Str) :: rest), ?_, form_of o ?_ (by intro z; cases z) (by intro z; cases z)⟩)
    · show ("(" : Str) :: (ones (.bin op f g) false ++ [(")" : Str)]) ++ rest = _
      simp
    · have : max (ht f) (ht g) + 1 ≤ m + 1 := l
      exact ⟨by omega, by omega⟩
theorem one_zero {ps : List Str} {f : Fm} {ws rest : List Str} (h : SOne 0 ps f ws rest) : OS (fun _ _ _ _ => False) (fun _ _ _ _ => False) ps f ws rest := by
  obtain ⟨o, l, rfl⟩ := h
  have at_ : atomic f → OS (fun _ _ _ _ => False) (fun _ _ _ _ => False) ps f (ones f true ++ rest) rest := fun z => by
    obtain ⟨y, r, e, _, _, _, _, q⟩ := first_word o
    obtain ⟨q1, q2⟩ := q z
    refine .inl ⟨?_, ?_, z, o, rfl⟩
    · rw [e]; intro q; injection q with q; exact q1 q
    · rw [e]; intro q; injection q with q; exact q2 q
  cases f with
  | non p => exact at_ trivial
  | word p z => exact at_ trivial
  | like p q => exact at_ trivial
  | neg g => exact absurd l (by simp [ht])
  | bin op f g => exact absurd l (by simp [ht])
theorem sp_imp {S S' : List Str → Fm → List Str → List Str → Prop} (h : ∀ ps f ws rest, S' ps f ws rest → S ps f ws rest) : ∀ vs H Q E, spS K S' vs H Q E → spS K S vs H Q E := by
  rintro vs H Q E ⟨a, b, ws, ps, rest, f, e, h1, h2, h3, h4, k⟩
  exact ⟨a, b, ws, ps, rest, f, e, h1, h2, h3, h _ _ _ _ h4, k⟩
def kOne (m : Nat) : Nat := 3 + 6 * m
theorem ok_oneM (B : Free mg) (C : FConsts K mg) (D : Parse K mg) (O_atom_in : C8.Cal P w K mg base 2 "atom_in" (spS K SAtom) []) : ∀ m, C8.Cal P w K mg base (kOne m) "one_in" (spS K (SOne m)) []
  | 0 => by
    have n1 := cal_no (P := P) (w := w) (base := base) D.one 2
    have n2 := cal_no (P := P) (w := w) (base := base) D.formula 2
    refine cal_imp (ok_one (S1 := fun _ _ _ _ => False) (SF := fun _ _ _ _ => False) (Nat.le_refl 2) (fun _ _ _ _ z => z.elim) C D O_atom_in (cal_imp n1 ?_) (cal_imp n2 ?_)) (sp_imp fun _ _ _ _ => one_zero)
    · rintro vs H Q E ⟨a, b, ws, ps, rest, f, e, h1, h2, h3, h4, k⟩
      exact h4
    · rintro vs H Q E ⟨a, b, ws, ps, rest, f, e, h1, h2, h3, h4, k⟩
      exact h4
  | m + 1 => by
    have h1 := ok_oneM B C D O_atom_in m
    have h2 := ok_all (left_one m) B C D h1
    have h3 := ok_side (left_js (left_one m)) B C D h2
    have h4 := ok_formula (left_js (left_js (left_one m))) C D h3
    have h5 := ok_one (n := kOne m + 5) (by unfold kOne; omega) (left_fs (left_js (left_js (left_one m)))) C D O_atom_in (cal_mono h1 (by omega)) h4
    exact cal_mono (cal_imp h5 (sp_imp fun _ _ _ _ => one_of)) (by unfold kOne; omega)
theorem ok_formulaM (B : Free mg) (C : FConsts K mg) (D : Parse K mg) (O_atom_in : C8.Cal P w K mg base 2 "atom_in" (spS K SAtom) []) (m : Nat) : C8.Cal P w K mg base (kOne m + 5) "formula_in" (spS K (SForm m)) [] :=
  ok_formula (left_js (left_js (left_one m))) C D (ok_side (left_js (left_one m)) B C D (ok_all (left_one m) B C D (ok_oneM B C D O_atom_in m)))
end
end WK
end
section
set_option Elab.async false
set_option linter.all false
set_option maxRecDepth 100000
set_option maxHeartbeats 4000000
namespace WK
open PySem PySem.Spec L2 PyProof.Rows LamX
/-! ### a lambda as a value -/
def LamO (f : Addr) (q : Str) (params : Arguments) (body : Expr) (scope : Scope) (c : Addr) : HO :=
  .ext fun h => ∃ pm ctv, h.get? f = some (PySem.W.kla_obj "<lambda>" q params body scope [] pm c ctv)
def tLamV (T : List (Addr × Str)) (P : Addr) (q : Str) (params : Arguments) (body : Expr) (scope : Scope) : TE := fun _ H Q =>
  Tabs T H ∧ ∀ f c H1, (∀ b o, b ≠ P → H b = some o → H1 b = some o) → Tabs T H1 → H1 f = none → H1 c = some (CodeO c q) → Q (.ref f) (upd H1 f (LamO f q params body scope c))
section
variable {X : Cx}
theorem lam_new {pins : List (Addr × Obj)} {σ : L2.St} {H : Hp} {s : Shared} {f c : Addr} {q : Str} {params : Arguments} {body : Expr} {scope : Scope} {pm ctv : Value} {tk : Nat} (I : Inv X pins σ H s) :
    Inv X pins σ (upd H s.heap.objs.size (LamO s.heap.objs.size q params body scope c)) { s with heap := s.heap.push (PySem.W.kla_obj "<lambda>" q params body scope [] pm c ctv), toks := tk } :=
  I.laid (fun _ _ e => Heap.get?_push_of_some _ e) (Nat.le_refl _) ⟨⟨pm, ctv, Heap.get?_push_size _ rfl⟩, ⟨_, Heap.get?_push_size _ rfl⟩, fun _ _ ⟨pm, ctv, e⟩ st => ⟨pm, ctv, st _ e⟩⟩
theorem pe_lam {T : List (Addr × Str)} {c P : Addr} {params : Arguments} {body : Expr} {scope : Scope} {pos : Pos} (TB : TabB X.base X.mg c P) (hcode : X.env.code = .ref c) (hm : (P, X.env.qual ++ "<lambda>") ∈ T) (hu : ∀ p ∈ T, p.1 = P → p.2 = X.env.qual ++ "<lambda>")
    (hfr : ∀ y ∈ scope.names, y.2 ≠ .free) (hdef : defaultsOf params X.env = ([], []) := by rfl) (hcl : cloFrom X.env.cells scope.names [] = [] := by rfl) : PE X (.Lambda params body scope pos) (tLamV T P (X.env.qual ++ "<lambda>") params body scope) := by
  refine ⟨fun pins s σ H Q I z => ?_⟩
  obtain ⟨hT, k⟩ := z
  obtain ⟨ts, hP, tr, am⟩ := hT _ hm
  have clo : closureFor scope X.env = pure [] := by
    rw [closure_ok (fun y hy e => absurd e (hfr y hy)), hcl]
  have hPh : s.heap.get? P = some { cls := .none, data := .fields ts } := I.hok P _ hP
  have bP : s.heap.BuiltinsAt X.mg P := TB.bm.keeps I.bk
  refine PySem.W.kla_eval hdef ?_
  cases hc : codeAmong pos ts.toList with
  | some cv =>
    obtain ⟨c1, rfl, hc1⟩ := am pos cv hc
    refine PySem.W.kla_makeFunctionHit (c := c) (ps := ts) clo I.ok.glob (I.mod.glob.keeps I.bk) hcode (TB.code.keeps I.bk) hPh tr hc bP fun ctv h1 tk kp _ => ?_
    have I1 : Inv X pins σ H { s with heap := h1, toks := tk } := I.kept kp
    exact ⟨.ref h1.objs.size, _, lam_new (f := h1.objs.size) I1, rfl, k h1.objs.size c1 H (fun _ _ _ e => e) hT I1.fresh hc1⟩
  | none =>
    refine PySem.W.kla_makeFunction (c := c) (ps := ts) clo I.ok.glob (I.mod.glob.keeps I.bk) hcode (TB.code.keeps I.bk) hPh tr hc TB.gP bP fun c1 ctv h1 tk kp hge hlt rec tab => ?_
    obtain ⟨c2, oc, fs, t, e2, g1, g2, g3⟩ := rec
    cases e2
    have fr1 : H c1 = none := I.hok.fresh hge
    have I1 := inv_table (t' := tk) (q := X.env.qual ++ "<lambda>") (more := #[rawInt pos.line, rawInt pos.col, .ref c1]) I hP kp tab hge ⟨oc, fs, t, g1, g2, g3⟩
    refine ⟨.ref h1.objs.size, _, lam_new (f := h1.objs.size) I1, rfl, k h1.objs.size c1 _ (fun b o b1 e => ?_) (fun p hp => ?_) I1.fresh upd_same⟩
    · rw [upd_ne (ne_of_none e fr1), upd_ne b1]
      exact e
    · have keepC : ∀ {b : Addr} {r : Str}, H b = some (CodeO b r) → (upd (upd H P (.tbl (ts ++ #[rawInt pos.line, rawInt pos.col, .ref c1]))) c1 (CodeO c1 (X.env.qual ++ "<lambda>"))) b = some (CodeO b r) := fun {b r} e => by
        have b1 : b ≠ P := fun y => by
          rw [y, hP] at e
          exact codeO_ne ts (Option.some.inj e).symm
        rw [upd_ne (ne_of_none e fr1), upd_ne b1]
        exact e
      by_cases hb : p.1 = P
      · rw [hu p hp hb, hb]
        have lst : (ts ++ #[rawInt pos.line, rawInt pos.col, .ref c1]).toList = ts.toList ++ [rawInt pos.line, rawInt pos.col, .ref c1] := by simp
        refine ⟨_, by rw [upd_ne (ne_of_none hP fr1), upd_same], by rw [lst]; exact PySem.TriplesOk_snoc _ _ _ _ tr, fun p1 cv hcv => ?_⟩
        rw [lst] at hcv
        rcases among_app _ tr hcv with y | y
        · obtain ⟨c0, e1, e2⟩ := am p1 cv y
          exact ⟨c0, e1, keepC e2⟩
        · exact ⟨c1, y, upd_same⟩
      · obtain ⟨us, u1, u2, u3⟩ := hT p hp
        refine ⟨us, by rw [upd_ne (ne_of_none u1 fr1), upd_ne hb]; exact u1, u2, fun p1 cv hcv => ?_⟩
        obtain ⟨c0, e1, e2⟩ := u3 p1 cv hcv
        exact ⟨c0, e1, keepC e2⟩
end
/-! ### a function value that takes one argument -/
structure AskOk (P : Program) (w : World) (K : PySem.W.Frag) (mg : Str → Option Value) (base : Heap) (k : Nat) (q : Addr) (here : Hp → Prop) (sp : V → Hp → VK → Prop) : Prop where
  fn : ∀ (s : Shared) (H : Hp), HOk P w H s.heap → here H → PySem.W.FnAt q s.heap
  run : ∀ (A : Around) (outer : List Env) (s : Shared) (H : Hp) (u : Value) (v : V) (Q : VK), Room k A → Env0 P w K mg base A outer s H → RelV v u → here H → sp v H Q →
    codeAny (model P w) A (.call (.ref q) ⟨[u], []⟩) (CR C8.CX0 outer P w H s Q C8.E0) s
section
variable {P : Program} {w : World} {K : PySem.W.Frag} {mg : Str → Option Value} {base : Heap}
theorem lam_ask {f c : Addr} {q x : Str} {params : Arguments} {body : Expr} {scope : Scope} {N : List Str} {k : Nat} {te : TE} (S : FnScope N [x] scope)
    (hbind : ∀ pm cv ctv u, bindArgs (PySem.W.kla_fn "<lambda>" q params body scope [] pm cv ctv) ⟨[u], []⟩ = pure [(x, u)])
    (hbody : ∀ (cdv : Value) (A : Around) (outer : List Env) (s : Shared) (H : Hp), Room k (A.deeper (envOfC q scope s.heap.objs.size f cdv)) → PE (cxOf C8.CX0 P w K mg base N q scope f cdv A outer s H C8.E0).nox body te) :
    AskOk P w K mg base (k + 1) f (fun H => H f = some (LamO f q params body scope c) ∧ H c = some (CodeO c q)) (fun v H Q => te (L2.start N [v]) H Q) := by
  refine ⟨fun s H hok ⟨h1, h2⟩ => ?_, fun A outer s H u v Q hr e0 r ⟨h1, h2⟩ h3 => ?_⟩
  · obtain ⟨⟨pm, ctv, hf⟩, _⟩ := hok f _ h1
    exact ⟨_, _, _, _, hf⟩
  · obtain ⟨⟨pm, ctv, hf⟩, _⟩ := e0.hok f _ h1
    obtain ⟨⟨oc, fs, t, g1, g2, g3⟩, _⟩ := e0.hok c _ h2
    have kinds : ∀ y ∈ [(x, u)], scope.names.lookup y.1 = some .local ∨ (scope.names.lookup y.1 = some .cell ∧ ((cellsFrom (s.heap.objs.size + 1) scope.names []).lookup y.1).isSome = true) := fun y hy => by
      rw [List.mem_singleton.mp hy]
      rcases S.par x (List.mem_singleton.mpr rfl) with z | z
      · exact .inl z
      · exact .inr ⟨z, PySem.W.cellsFrom_some _ _ _ (.inl z)⟩
    have bk : ∀ b o, base.get? b = some o → s.heap.get? b = some o := fun b o e => (e0.bs b o e).1
    refine PySem.W.kla_callFunE hr.depth hf rfl S.co S.gen rfl ⟨c, oc, fs, t, rfl, g1, g2, g3⟩ ?_
    rw [hbind]
    refine wpAny_pure (wpAny_newFunctionEnv_cells S.kind kinds fun env he s1 ic => ?_)
    subst he
    refine ⟨(e0.mod.nolimit.keeps bk).keeps ic.toInCall.keep, PySem.W.kla_codeExpr ?_⟩
    have I0 : Inv (cxOf C8.CX0 P w K mg base N q scope f (.ref c) A outer s H C8.E0) [] (L2.start N [v]) H s1 := inv_start (ps := [x]) (us := [u]) S hr.hd e0 rfl (.cons r .nil) ic
    have bd := (hbody (.ref c) A outer s H (hr.deeper _)).nox
    refine wpAny_mono (bd.run [] s1 _ H Q I0 h3) (fun y s2 z => ?_) fun y s2 z => z
    obtain ⟨v2, H2, J, rv, qv⟩ := z
    exact ⟨v2, H2, J.os, J.bare, J.base, J.hok, rv, qv⟩
end
section
variable {X : Cx}
def tAsk (i : Nat) (q : Addr) (here : Hp → Prop) (sp : V → Hp → VK → Prop) (te : TE) : TE := fun σ H Q => σ[i]? = some (some (.ref q)) ∧ here H ∧ te σ H fun v H1 => here H1 ∧ sp v H1 Q
/-- x(e), the local x holds such a function -/
theorem pe_ask {k i : Nat} {q : Addr} {here : Hp → Prop} {sp : V → Hp → VK → Prop} {x : Str} {p pos : Pos} {e : Expr} {te : TE} (F : AskOk X.prog X.w X.K X.mg X.base k q here sp) (hr : Room k X.A) (hN : X.N[i]? = some x) (hv : Vis X.env.scope x) (he : PE X e te)
    (hdb : (x == ("__debug__" : Str)) = false := by decide) (hcd : (x == ("__classdict__" : Str)) = false := by decide) (hs : starEach [e] X.env = (false, eval e X.env) :: starEach [] X.env := by rfl) (hpl : (backTo pos (starEach [] X.env)).any (·.1) = false := by rfl) :
    PE X (.Call (.Name x p) [e] [] pos) (tAsk i q here sp te) := by
  refine ⟨fun pins s σ H Q I z => ?_⟩
  obtain ⟨hs0, h0, ht⟩ := z
  have nm := (pe_var (X := X) (pos := p) (i := i) hN hv hdb hcd).run pins s σ H (fun v H1 => v = .ref q ∧ H1 = H) I ⟨.ref q, hs0, rfl, rfl⟩
  refine wpAny_Call_Name_kw (thn nm fun u s1 ⟨v, H1, I1, r1, ev, eH⟩ => ?_)
  subst ev
  subst eH
  obtain rfl : u = Value.ref q := r1
  refine PySem.W.callWith_F (F.fn _ _ I1.hok h0) (thn ((pa_cons he pa_nil hs).run pos pins s1 σ _ (fun vs H2 => ∃ v, vs = [v] ∧ here H2 ∧ sp v H2 Q) I1 ?_) fun us s2 y => ?_) hs hpl
  · have e : (fun (v : V) (H2 : Hp) => ∃ v1, [v] = [v1] ∧ here H2 ∧ sp v1 H2 Q) = fun v H2 => here H2 ∧ sp v H2 Q := by
      funext v H2
      refine propext ⟨fun ⟨v1, e, z⟩ => ?_, fun z => ⟨v, rfl, z⟩⟩
      injection e with e
      rw [e]
      exact z
    show te σ H1 (fun (v : V) (H2 : Hp) => ∃ v1, [v] = [v1] ∧ here H2 ∧ sp v1 H2 Q)
    rw [e]
    exact ht
  · obtain ⟨vs, H2, I2, r2, v, rfl, q1, q2⟩ := y
    cases r2 with
    | cons rv rn =>
      cases rn
      refine ⟨F.fn _ _ I2.hok q1, ?_⟩
      refine wpAny_call (codeAny_mono (F.run X.A X.stack s2 H2 _ v Q hr I2.env0 rv q1 q2) fun rr s3 z => ?_)
      cases rr with
      | error er => exact z.elim
      | ok fl =>
        cases fl with
        | ret u => exact I2.after z
        | next => exact z.elim
        | brk => exact z.elim
        | cont => exact z.elim
end
end WK
end
section
set_option Elab.async false
set_option linter.all false
set_option maxRecDepth 100000
set_option maxHeartbeats 4000000
namespace WK
open PySem L2 PyProof.Rows
def tag : Fm → Str
  | .non _ => "none"
  | .word .. => "word"
  | .like .. => "like"
  | .neg _ => "not"
  | .bin o _ _ => o.s
def subs : Fm → List Fm
  | .neg f => [f]
  | .bin _ f g => [f, g]
  | _ => []
def atomB : Fm → Bool
  | .neg _ => false
  | .bin .. => false
  | _ => true
def nat : Fm → Nat
  | .neg f => nat f
  | .bin _ f g => nat f + nat g
  | _ => 1
theorem ia_non : inV (.str "none") [.str "none", .str "word", .str "like"] = true := by decide +kernel
theorem ia_word : inV (.str "word") [.str "none", .str "word", .str "like"] = true := by decide +kernel
theorem ia_like : inV (.str "like") [.str "none", .str "word", .str "like"] = true := by decide +kernel
theorem ia_not : inV (.str "not") [.str "none", .str "word", .str "like"] = false := by decide +kernel
theorem ia_and : inV (.str "and") [.str "none", .str "word", .str "like"] = false := by decide +kernel
theorem ia_or : inV (.str "or") [.str "none", .str "word", .str "like"] = false := by decide +kernel
theorem ia_if : inV (.str "if") [.str "none", .str "word", .str "like"] = false := by decide +kernel
theorem in_atoms (f : Fm) : inV (.str (tag f)) [.str "none", .str "word", .str "like"] = atomB f := by
  cases f with
  | bin o f g =>
    cases o with
    | and => exact ia_and
    | or => exact ia_or
    | iff => exact ia_if
  | non p => exact ia_non
  | word p z => exact ia_word
  | like p q => exact ia_like
  | neg f => exact ia_not
theorem FmAt.opened {K : PySem.W.Frag} {H : Hp} : ∀ {f : Fm} {v : V}, FmAt K H f v → ∃ a xs, v = .ref a ∧ SqT K H a (.str (tag f) :: xs) ∧ xs ≠ [] ∧ xs.length ≤ 2 ∧ (atomB f = false → Paired (FmAt K H) (subs f) xs)
  | .non _, _, ⟨a, h1, h2⟩ => ⟨a, _, h1, h2, by simp, by simp, fun z => by cases z⟩
  | .word _ _, _, ⟨a, h1, h2⟩ => ⟨a, _, h1, h2, by simp, by simp, fun z => by cases z⟩
  | .like _ _, _, ⟨a, h1, h2⟩ => ⟨a, _, h1, h2, by simp, by simp, fun z => by cases z⟩
  | .neg _, _, ⟨a, x, h1, h2, h3⟩ => ⟨a, _, h1, h2, by simp, by simp, fun _ => .cons h3 .nil⟩
  | .bin _ _ _, _, ⟨a, x, y, h1, h2, h3, h4⟩ => ⟨a, _, h1, h2, by simp, by simp, fun _ => .cons h3 (.cons h4 .nil)⟩
theorem pair_get {α β : Type} {R : α → β → Prop} : ∀ {xs : List α} {ys : List β} {i : Nat} {y : β}, Paired R xs ys → ys[i]? = some y → ∃ x, xs[i]? = some x ∧ R x y
  | _, _, _, _, .nil, e => by simp at e
  | _, _, 0, _, .cons a _, e => by simp at e; subst e; exact ⟨_, rfl, a⟩
  | _, _, i + 1, y, .cons _ t, e => by
    obtain ⟨x, h1, h2⟩ := pair_get (i := i) (y := y) t (by simpa using e)
    exact ⟨x, by simpa using h1, h2⟩
theorem subs_ht {f g : Fm} {m : Nat} (h : ht f ≤ m + 1) (hg : g ∈ subs f) : ht g ≤ m := by
  cases f with
  | neg f => simp [subs] at hg; subst hg; simp [ht] at h; exact h
  | bin o f1 f2 =>
    simp [ht] at h
    simp [subs] at hg
    rcases hg with rfl | rfl <;> omega
  | _ => simp [subs] at hg
theorem nat_subs {f : Fm} (h : atomB f = false) : nat f = ((subs f).map nat).sum := by
  cases f with
  | neg f => simp [nat, subs]
  | bin o f g => simp [nat, subs]
  | _ => cases h
theorem le_sum {α : Type} {f : α → Nat} {x : α} : ∀ {l : List α}, x ∈ l → f x ≤ (l.map f).sum
  | [], h => by cases h
  | y :: l, h => by
    rw [List.map_cons, List.sum_cons]
    rcases List.mem_cons.mp h with rfl | h
    · omega
    · have := le_sum (f := f) h
      omega
def spAtoms (K : PySem.W.Frag) (m : Nat) : Sp := fun vs H Q _ => ∃ v f, vs = [v] ∧ FmAt K H f v ∧ ht f ≤ m ∧ nat f ≤ 1000 ∧ ∀ L H' xs, Same H H' → H L = none → H' L = some (.lst xs) → xs.length = nat f → Q (.ref L) H'
abbrev sAtomsOf : Stmt := top 29
abbrev nAtomsOf : List Str := ["formula", "found", "part"]
theorem cut_tlT (x : V) (xs : List V) : cutV (x :: xs) (some 1) none = xs := by rw [cut_tl1]; rfl
theorem whole_no {x : V} {xs : List V} : ¬ (HT.sIx (x :: xs).length 0 (some 1) = 0 ∧ HT.sIx (x :: xs).length (x :: xs).length none = (x :: xs).length) := fun h => by
  have := h.1
  rw [show (1 : Int) = ((1 : Nat) : Int) from rfl, HT.sIx_nat] at this
  simp at this
section
variable {P : Program} {w : World} {K : PySem.W.Frag} {mg : Str → Option Value} {base : Heap}
theorem scAtomsOf : FnScope nAtomsOf ["formula"] (defScope sAtomsOf) := ⟨rfl, rfl, rfl, by decide +kernel, rfl, by decide +kernel, by decide +kernel⟩
theorem ok_atoms1 {n : Nat} {sp : Sp} (C : FConsts K mg) (D : DefOf K mg "atoms_of" sAtomsOf ["formula"]) (O_atoms_of : C8.Cal P w K mg base n "atoms_of" sp []) (m : Nat) (hsp : ∀ m', m = m' + 1 → ∀ vs H Q E, spAtoms K m' vs H Q E → sp vs H Q E) : C8.Cal P w K mg base (n + 1) "atoms_of" (spAtoms K m) [] := by
  refine D.cal scAtomsOf (fun vs H Q E h => ?_) (fun f cdv A outer s H vs Q E hr h => ?_)
  · obtain ⟨v, f, rfl, _⟩ := h
    rfl
  obtain ⟨v, fm, rfl, hf, hm, hn, k⟩ := h
  obtain ⟨aATOMS, mATOMS, qATOMS⟩ := C.ATOMS
  refine ⟨_, (pss_cons (ps_if (pt_cmpR op_in_seq (pe_ix ix_tup (pv 0) pe_int (fun _ _ => rfl)) (pe_glob (by rfl) mATOMS (v := .ref aATOMS) rfl) rfl)
      (pss_one (ps_ret (pe_lst (pa_cons (pv 0) pa_nil))))
      pss_nil)
      (pss_cons (ps_set (i := 1) scAtomsOf.nd rfl (Or.inl rfl) (pe_lst pa_nil))
      (pss_cons (ps_for PassesOwn.never rfl (pi_tup (pe_slice sl_tup (pv 0) (po_some pe_int) po_none)) (pg_name (i := 2) scAtomsOf.nd rfl (Or.inl rfl))
      (pss_one (ps_expr (pe_bm PySem.F.plainAttrs_list PySem.F.slot_list_extend PySem.F.type_list_extend mt_extend (pv 1) (pa_cons (C8.pe_c O_atoms_of hr (by omega) (by rfl) (pa_cons (pv 2) pa_nil)) pa_nil)))))
      (pss_one (ps_ret (pv 1)))))), ?_⟩
  obtain ⟨a, xs, rfl, ha, hne, hl2, hsub⟩ := FmAt.opened hf
  refine ⟨_, rfl, a, _, _, _, rfl, rfl, ha, at0, aATOMS, _, rfl, .inr (qATOMS _), rfl, by decide +kernel, _, rfl, ?_⟩
  change if inV (.str (tag fm)) _ = true then _ else _
  rw [in_atoms]
  refine ite2 (fun hA => ?_) (fun hA => ?_)
  · refine ⟨_, rfl, sz1, fun L nL => k L _ _ (new_same nL) nL upd_same ?_⟩
    cases fm with
    | neg f => cases hA
    | bin o f g => cases hA
    | _ => rfl
  · have hA' : atomB fm = false := Bool.eq_false_iff.mpr hA
    have hs := hsub hA'
    refine ⟨by decide, fun D nD => ?_⟩
    have s1 : Same H (upd H D (.lst [])) := new_same nD
    refine ⟨_, rfl, _, rfl, a, _, rfl, sqT_same s1 ha, whole_no, fun p np => ?_⟩
    rw [cut_tlT]
    have pD : p ≠ D := fun z => by rw [z, upd_same] at np; cases np
    have gD : (upd (upd H D (.lst [])) p (.tup xs)) D = some (.lst []) := by rw [upd_ne (Ne.symm pD), upd_same]
    have gp : (upd (upd H D (.lst [])) p (.tup xs)) p = some (.tup xs) := upd_same
    have s2 : Same H (upd (upd H D (.lst [])) p (.tup xs)) := same_tr s1 (new_same np)
    generalize upd (upd H D (.lst [])) p (.tup xs) = G0 at gD gp s2
    refine ⟨p, rfl, ⟨xs, SqT.of gp⟩, for_it (walk_tup (K := K) (a := p) (xs := xs)) (fun i σ G => ∃ t2, σ = [some (.ref a), some (.ref D), t2] ∧ Same H G ∧ G p = some (.tup xs) ∧ ∃ ys, G D = some (.lst ys) ∧ ys.length = (((subs fm).take i).map nat).sum) ?_ ?_ ?_ ?_⟩
    · exact ⟨none, rfl, s2, gp, [], gD, rfl⟩
    · rintro i σ G hi ⟨t2, rfl, sG, gp, _⟩
      exact SqT.of gp
    · rintro i x σ G G' hi ⟨t2, rfl, sG, gp, ys, gD, hy⟩ ⟨rfl, hx⟩
      obtain ⟨g, hg, hgx⟩ := pair_get hs hx
      have hmem : g ∈ subs fm := List.mem_of_getElem? hg
      have hle : nat g ≤ nat fm := by
        rw [nat_subs hA']
        exact le_sum hmem
      obtain ⟨m', rfl⟩ : ∃ m', m = m' + 1 := by
        cases m with
        | zero =>
          cases fm with
          | neg f => simp [ht] at hm
          | bin o f g => simp [ht] at hm
          | _ => cases hA'
        | succ m' => exact ⟨m', rfl⟩
      refine ⟨_, rfl, .inl ⟨rfl, _, SqL.of gD⟩, _, rfl, hsp m' rfl _ _ _ _ ⟨x, g, rfl, FmAt.mono sG hgx, subs_ht hm hmem, by omega, fun L G2 zs s3 nL gL hz => ?_⟩⟩
      have gD2 := s3 _ _ gD
      have hsum : ys.length + zs.length = (((subs fm).take (i + 1)).map nat).sum := by
        rw [List.take_succ, hg]
        simp [hy, hz]
      refine ⟨D, L, ys, zs, rfl, rfl, gD2, gL, ?_, ?_⟩
      · have h1 : (((subs fm).take (i + 1)).map nat).sum ≤ ((subs fm).map nat).sum := by
          conv => rhs; rw [← List.take_append_drop (i + 1) (subs fm), List.map_append, List.sum_append]
          exact Nat.le_add_right _ _
        rw [hsum]
        rw [← nat_subs hA'] at h1
        exact Nat.le_trans h1 (Nat.le_trans hn (by decide))
      · refine ⟨_, rfl, fun b o e => ?_, ?_, _, upd_same, by rw [List.length_append]; exact hsum⟩
        · rw [upd_ne (ne_of_none e nD)]
          exact s3 _ _ (sG _ _ e)
        · rw [upd_ne pD]
          exact s3 _ _ gp
    · rintro σ G ⟨t2, rfl, sG, gp, ys, gD, hy⟩
      refine ⟨_, rfl, k D G ys sG nD gD ?_⟩
      rw [hy, nat_subs hA', ← hs.length, List.take_length]
theorem ok_atoms (C : FConsts K mg) (D : DefOf K mg "atoms_of" sAtomsOf ["formula"]) : ∀ m, C8.Cal P w K mg base (m + 1) "atoms_of" (spAtoms K m) []
  | 0 => ok_atoms1 C D (cal_no D 0) 0 fun m' e => by cases e
  | m + 1 => ok_atoms1 C D (ok_atoms C D m) (m + 1) fun m' e vs H Q E z => by cases e; exact z
/-! ### worth -/
def opB : Op → Bool → Bool → Bool
  | .and, a, b => a && b
  | .or, a, b => a || b
  | .iff, a, b => !a || b
def tr (val : Fm → Bool) : Fm → Bool
  | .neg f => !tr val f
  | .bin o f g => opB o (tr val f) (tr val g)
  | f => val f
/-- what is asked of the function value: it tells val of an atom, and adds only -/
structure AskSp (K : PySem.W.Frag) (here : Hp → Prop) (sp : V → Hp → VK → Prop) (val : Fm → Bool) (ok : Fm → Prop) : Prop where
  mono : ∀ H H', Same H H' → here H → here H'
  sp : ∀ (v : V) (f : Fm) (H : Hp) (Q : VK), here H → atomB f = true → ok f → FmAt K H f v → (∀ H', Same H H' → Q (.bl (val f)) H') → sp v H Q
def okAll (ok : Fm → Prop) : Fm → Prop
  | .neg f => okAll ok f
  | .bin _ f g => okAll ok f ∧ okAll ok g
  | f => ok f
def spWorth (P : Program) (w : World) (K : PySem.W.Frag) (mg : Str → Option Value) (base : Heap) (j : Nat) (val : Fm → Bool) (ok : Fm → Prop) (m : Nat) : Sp := fun vs H Q _ => ∃ (q : Addr) (here : Hp → Prop) (spA : V → Hp → VK → Prop) (v : V) (f : Fm), AskOk P w K mg base j q here spA ∧ AskSp K here spA val ok ∧ vs = [v, .ref q] ∧ here H ∧ FmAt K H f v ∧ okAll ok f ∧ ht f ≤ m ∧ ∀ H', Same H H' → Q (.bl (tr val f)) H'
abbrev sWorth : Stmt := top 30
abbrev nWorth : List Str := ["formula", "ask", "worths", "part"]
theorem scWorth : FnScope nWorth ["formula", "ask"] (defScope sWorth) := ⟨rfl, rfl, rfl, by decide +kernel, rfl, by decide +kernel, by decide +kernel⟩
theorem in_bools (b : Bool) (bs : List Bool) : inV (.bl b) (bs.map V.bl) = bs.any (fun c => c == b) := by
  unfold inV
  rw [List.any_map]
  rfl
theorem in_nons (bs : List Bool) : inV .non (bs.map V.bl) = false := by
  unfold inV
  rw [List.any_map]
  induction bs with
  | nil => rfl
  | cons b bs ih => rw [List.any_cons, ih]; rfl
theorem flat_bools (bs : List Bool) : (bs.map V.bl).all flatV = true := by
  rw [List.all_eq_true]
  intro x hx
  obtain ⟨z, _, rfl⟩ := List.mem_map.mp hx
  rfl
theorem okAll_subs {ok : Fm → Prop} {f g : Fm} (h : okAll ok f) (hg : g ∈ subs f) : okAll ok g := by
  cases f with
  | neg f => simp [subs] at hg; subst hg; exact h
  | bin o f1 f2 =>
    simp [subs] at hg
    rcases hg with rfl | rfl
    · exact h.1
    · exact h.2
  | _ => simp [subs] at hg
theorem t_and_not : decide (V.str "and" = V.str "not") = false := by decide +kernel
theorem t_or_not : decide (V.str "or" = V.str "not") = false := by decide +kernel
theorem t_if_not : decide (V.str "if" = V.str "not") = false := by decide +kernel
theorem t_or_and : decide (V.str "or" = V.str "and") = false := by decide +kernel
theorem t_if_and : decide (V.str "if" = V.str "and") = false := by decide +kernel
theorem t_or_if : decide (V.str "or" = V.str "if") = false := by decide +kernel
theorem ok_worth1 {n j : Nat} {sp : Sp} {val : Fm → Bool} {ok : Fm → Prop} (C : FConsts K mg) (D : DefOf K mg "worth" sWorth ["formula", "ask"]) (hj : j ≤ n) (O_worth : C8.Cal P w K mg base n "worth" sp []) (m : Nat)
    (hsp : ∀ m', m = m' + 1 → ∀ vs H Q E, spWorth P w K mg base j val ok m' vs H Q E → sp vs H Q E) : C8.Cal P w K mg base (n + 1) "worth" (spWorth P w K mg base j val ok m) [] := by
  refine D.cal scWorth (fun vs H Q E h => ?_) (fun f cdv A outer s H vs Q E hr h => ?_)
  · obtain ⟨q, here, spA, v, f, _, _, rfl, _⟩ := h
    rfl
  obtain ⟨q, here, spA, v, fm, F, S, rfl, hh, hf, hok, hm, k⟩ := h
  obtain ⟨aATOMS, mATOMS, qATOMS⟩ := C.ATOMS
  refine ⟨_, (pss_cons (ps_if (pt_cmpR op_in_seq (pe_ix ix_tup (pv 0) pe_int (fun _ _ => rfl)) (pe_glob (by rfl) mATOMS (v := .ref aATOMS) rfl) rfl)
      (pss_one (ps_ret (pe_ask (i := 1) F (hr.mono hj) rfl (Or.inr (Or.inl rfl)) (pv 0))))
      pss_nil)
      (pss_cons (ps_setLc (i := 2) (own := [("part", 3)]) (g := gName 3) (tt := tYes) rfl scWorth.nd rfl rfl (by rfl) (pi_tup (pe_slice sl_tup (pv 0) (po_some pe_int) po_none))
        (blkOk_by (N := nWorth) (sc := defScope sWorth) (by decide +kernel)) (fun _ _ _ _ _ => pg_name (i := 3) scWorth.nd rfl (Or.inl rfl)) (fun _ _ _ _ _ => pts_nil)
        (fun _ _ _ _ _ => (C8.pe_c O_worth hr (by omega) (by rfl) (pa_cons (pv 3) (pa_cons (pv 1) pa_nil)))))
      (pss_cons (ps_if (pt_cmpR op_eq (pe_ix ix_tup (pv 0) pe_int (fun _ _ => rfl)) (C8.pe_gc (by rfl) C.NOT) (nomark _))
      (pss_one (ps_ret (pe_ifExp (pt_cmpR op_isN (pe_ix ix_list (pv 2) pe_int (fun _ _ => rfl)) pe_non (nomark _)) pe_non (pe_not (pe_ix ix_list (pv 2) pe_int (fun _ _ => rfl))))))
      pss_nil)
      (pss_cons (ps_if (pt_cmpR op_eq (pe_ix ix_tup (pv 0) pe_int (fun _ _ => rfl)) (C8.pe_gc (by rfl) C.AND) (nomark _))
      (pss_one (ps_ret (pe_ifExp (pt_cmpR op_in_seq pe_bl (pv 2) rfl) pe_bl (pe_ifExp (pt_cmpR op_in_seq pe_non (pv 2) rfl) pe_non pe_bl))))
      pss_nil)
      (pss_cons (ps_if (pt_cmpR op_eq (pe_ix ix_tup (pv 0) pe_int (fun _ _ => rfl)) (C8.pe_gc (by rfl) C.IF) (nomark _))
      (pss_one (ps_asg (pe_ifExp (pt_cmpR op_isN (pe_ix ix_list (pv 2) pe_int (fun _ _ => rfl)) pe_non (nomark _)) pe_non (pe_not (pe_ix ix_list (pv 2) pe_int (fun _ _ => rfl)))) (pg_sub (pv 2) pe_int set_list)))
      pss_nil)
      (pss_one (ps_ret (pe_ifExp (pt_cmpR op_in_seq pe_bl (pv 2) rfl) pe_bl (pe_ifExp (pt_cmpR op_in_seq pe_non (pv 2) rfl) pe_non pe_bl))))))))), ?_⟩
  obtain ⟨a, xs, rfl, ha, hne, hl2, hsub⟩ := FmAt.opened hf
  refine ⟨_, rfl, a, _, _, _, rfl, rfl, ha, at0, aATOMS, _, rfl, .inr (qATOMS _), rfl, by decide +kernel, _, rfl, ?_⟩
  change if inV (.str (tag fm)) _ = true then _ else _
  rw [in_atoms]
  refine ite2 (fun hA => ?_) (fun hA => ?_)
  · refine ⟨rfl, hh, _, rfl, hh, S.sp _ fm H Q hh hA ?_ hf ?_⟩
    · cases fm with
      | neg f => cases hA
      | bin o f g => cases hA
      | _ => exact hok
    · cases fm with
      | neg f => cases hA
      | bin o f g => cases hA
      | _ => exact k
  · have hA' : atomB fm = false := Bool.eq_false_iff.mpr hA
    have hs := hsub hA'
    have hlen : xs.length = (subs fm).length := hs.length.symm
    obtain ⟨m', rfl⟩ : ∃ m', m = m' + 1 := by
      cases m with
      | zero =>
        cases fm with
        | neg f => simp [ht] at hm
        | bin o f g => simp [ht] at hm
        | _ => cases hA'
      | succ m' => exact ⟨m', rfl⟩
    refine ⟨_, rfl, _, rfl, a, _, rfl, ha, whole_no, fun p np => ?_⟩
    rw [cut_tlT]
    have s2 : Same H (upd H p (.tup xs)) := new_same np
    have gp : (upd H p (.tup xs)) p = some (.tup xs) := upd_same
    generalize upd H p (.tup xs) = G0 at gp s2
    refine ⟨p, rfl, ⟨xs, SqT.of gp⟩, fun D hD => lc_vals (walk_tup (K := K) (a := p) (xs := xs)) (((subs fm).map (tr val)).map V.bl) (by simp [hlen]) hD (Nat.le_trans hl2 (by decide)) (fun G1 s1 => SqT.of (s1 _ _ gp)) ?_ ?_⟩
    · rintro i x G1 G2 kk hi s1 ⟨rfl, hx⟩ qq
      obtain ⟨g, hg, hgx⟩ := pair_get hs hx
      have hmem : g ∈ subs fm := List.mem_of_getElem? hg
      have s12 := same_tr s2 s1
      refine ⟨rfl, _, rfl, _, rfl, hsp m' rfl _ _ _ _ ⟨q, here, spA, x, g, F, S, rfl, S.mono _ _ s12 hh, FmAt.mono s12 hgx, okAll_subs hok hmem, subs_ht hm hmem, fun G3 s3 => qq _ _ s3 ?_⟩⟩
      rw [List.getElem?_map, List.getElem?_map, hg]
      rfl
    · intro G1 s1 g1
      have s12 := same_tr s2 s1
      have ha1 := sqT_same s12 ha
      have gD : G1 D = some (.lst (((subs fm).map (tr val)).map V.bl)) := g1
      refine ⟨_, rfl, a, _, _, _, rfl, rfl, ha1, at0, rfl, _, rfl, ?_⟩
      cases fm with
      | neg f =>
        refine iteY (decide_eq_true rfl) ?_
        refine ⟨_, rfl, D, _, _, _, rfl, rfl, SqL.of gD, at0, rfl, _, rfl, ?_⟩
        refine iteN (by rfl) ?_
        refine ⟨_, rfl, D, _, _, _, rfl, rfl, SqL.of gD, at0, _, rfl, ?_⟩
        exact k _ s12
      | bin o f g =>
        cases o with
        | and =>
          refine iteN t_and_not ?_
          refine ⟨_, rfl, a, _, _, _, rfl, rfl, ha1, at0, rfl, _, rfl, ?_⟩
          refine iteY (decide_eq_true rfl) ?_
          refine ⟨_, rfl, D, _, rfl, .inl (SqL.of gD), rfl, flat_bools _, _, rfl, ?_⟩
          have k' := k _ s12
          change Q (.bl (tr val f && tr val g)) G1 at k'
          change if inV (.bl false) (([tr val f, tr val g] : List Bool).map V.bl) = true then _ else _
          rw [in_bools]
          cases h1 : tr val f <;> cases h2 : tr val g <;> rw [h1, h2] at k'
          · exact iteY rfl k'
          · exact iteY rfl k'
          · exact iteY rfl k'
          · refine iteN rfl ?_
            refine ⟨_, rfl, D, _, rfl, .inl (SqL.of gD), rfl, flat_bools _, _, rfl, ?_⟩
            exact iteN (in_nons _) k'
        | or =>
          refine iteN t_or_not ?_
          refine ⟨_, rfl, a, _, _, _, rfl, rfl, ha1, at0, rfl, _, rfl, ?_⟩
          refine iteN t_or_and ?_
          refine ⟨_, rfl, a, _, _, _, rfl, rfl, ha1, at0, rfl, _, rfl, ?_⟩
          refine iteN t_or_if ?_
          refine ⟨_, rfl, D, _, rfl, .inl (SqL.of gD), rfl, flat_bools _, _, rfl, ?_⟩
          have k' := k _ s12
          change Q (.bl (tr val f || tr val g)) G1 at k'
          change if inV (.bl true) (([tr val f, tr val g] : List Bool).map V.bl) = true then _ else _
          rw [in_bools]
          cases h1 : tr val f <;> cases h2 : tr val g <;> rw [h1, h2] at k'
          · refine iteN rfl ?_
            refine ⟨_, rfl, D, _, rfl, .inl (SqL.of gD), rfl, flat_bools _, _, rfl, ?_⟩
            exact iteN (in_nons _) k'
          · exact iteY rfl k'
          · exact iteY rfl k'
          · exact iteY rfl k'
        | iff =>
          refine iteN t_if_not ?_
          refine ⟨_, rfl, a, _, _, _, rfl, rfl, ha1, at0, rfl, _, rfl, ?_⟩
          refine iteN t_if_and ?_
          refine ⟨_, rfl, a, _, _, _, rfl, rfl, ha1, at0, rfl, _, rfl, ?_⟩
          refine iteY (decide_eq_true rfl) ?_
          refine ⟨_, rfl, D, _, _, _, rfl, rfl, SqL.of gD, at0, rfl, _, rfl, ?_⟩
          refine iteN (by rfl) ?_
          refine ⟨_, rfl, D, _, _, _, rfl, rfl, SqL.of gD, at0, _, rfl, ?_⟩
          refine ⟨_, rfl, D, _, _, _, rfl, rfl, gD, rfl, ?_⟩
          have e3 : (List.map V.bl (List.map (tr val) (subs (Fm.bin Op.iff f g)))).set (Int.toNat 0) (V.bl (!tr val f)) = ([!tr val f, tr val g] : List Bool).map V.bl := rfl
          rw [e3]
          have gD2 : (upd G1 D (.lst (([!tr val f, tr val g] : List Bool).map V.bl))) D = some (.lst (([!tr val f, tr val g] : List Bool).map V.bl)) := upd_same
          have k' : Q (.bl (!tr val f || tr val g)) (upd G1 D (.lst (([!tr val f, tr val g] : List Bool).map V.bl))) := k _ fun b o e => by
            rw [upd_ne (ne_of_none e (s2.free hD))]
            exact s12 _ _ e
          generalize upd G1 D (.lst (([!tr val f, tr val g] : List Bool).map V.bl)) = G3 at gD2 k' ⊢
          refine ⟨_, rfl, D, _, rfl, .inl (SqL.of gD2), rfl, flat_bools _, _, rfl, ?_⟩
          change if inV (.bl true) (([!tr val f, tr val g] : List Bool).map V.bl) = true then _ else _
          rw [in_bools]
          cases h1 : tr val f <;> cases h2 : tr val g <;> rw [h1, h2] at k' gD2
          · exact iteY rfl k'
          · exact iteY rfl k'
          · refine iteN rfl ?_
            refine ⟨_, rfl, D, _, rfl, .inl (SqL.of gD2), rfl, flat_bools _, _, rfl, ?_⟩
            exact iteN (in_nons _) k'
          · exact iteY rfl k'
      | _ => cases hA'
theorem ok_worth {j : Nat} {val : Fm → Bool} {ok : Fm → Prop} (C : FConsts K mg) (D : DefOf K mg "worth" sWorth ["formula", "ask"]) : ∀ m, C8.Cal P w K mg base (j + m + 1) "worth" (spWorth P w K mg base j val ok m) []
  | 0 => ok_worth1 C D (Nat.le_refl j) (cal_no D j) 0 fun m' e => by cases e
  | m + 1 => ok_worth1 C D (by omega) (ok_worth C D m) (m + 1) fun m' e vs H Q E z => by cases e; exact z
end
end WK
end
section
set_option Elab.async false
set_option linter.all false
set_option maxRecDepth 100000
set_option maxHeartbeats 4000000
namespace WK
open PySem L2 PyProof.Rows
/-! ### a list beside an empty list, a dict beside an empty dict -/
def rEqE (K : PySem.W.Frag) : R2 := fun x y H Q => ∃ (a b : Addr) (xs : List V), x = .ref a ∧ y = .ref b ∧ SqL K H a xs ∧ SqL K H b [] ∧ Q (.bl xs.isEmpty) H
def rNeE (K : PySem.W.Frag) : R2 := fun x y H Q => ∃ (a b : Addr) (xs : List V), x = .ref a ∧ y = .ref b ∧ SqL K H a xs ∧ SqL K H b [] ∧ Q (.bl (!xs.isEmpty)) H
def rEqDE : R2 := fun x y H Q => ∃ (a b : Addr) (kvs : List (Key × V)), x = .ref a ∧ y = .ref b ∧ H a = some (.dK kvs) ∧ H b = some (.dK []) ∧ Q (.bl kvs.isEmpty) H
def rNeDE : R2 := fun x y H Q => ∃ (a b : Addr) (kvs : List (Key × V)), x = .ref a ∧ y = .ref b ∧ H a = some (.dK kvs) ∧ H b = some (.dK []) ∧ Q (.bl (!kvs.isEmpty)) H
section
variable {X : Cx}
theorem op_eqE (hu : X.A.units + 64 < cLine) : OpR X (compareOp .Eq) (rEqE X.K) := by
  intro pins s σ H x y v u Q I rx ry h
  obtain ⟨a, b, xs, rfl, rfl, ha, hb, q⟩ := h
  obtain rfl : v = Value.ref a := rx
  obtain rfl : u = Value.ref b := ry
  obtain ⟨its, r1, p1, _⟩ := I.list ha
  obtain ⟨its2, r2, p2, _⟩ := I.list hb
  cases r2
  cases r1 with
  | nil => exact SeqAt.RcAt.lists (e := fun _ => true) p1.isList p2.isList rfl (by omega) (fun j h1 => absurd h1 (by simp)) _ _ _ _ ⟨.bl true, H, I, rfl, q⟩
  | cons rx rr => exact SeqAt.RcAt.lists_lengths p1.isList p2.isList (by simp) (by omega) _ _ _ _ ⟨.bl false, H, I, rfl, q⟩
theorem op_neE (hu : X.A.units + 64 < cLine) : OpR X (compareOp .NotEq) (rNeE X.K) := by
  intro pins s σ H x y v u Q I rx ry h
  obtain ⟨a, b, xs, rfl, rfl, ha, hb, q⟩ := h
  obtain rfl : v = Value.ref a := rx
  obtain rfl : u = Value.ref b := ry
  obtain ⟨its, r1, p1, _⟩ := I.list ha
  obtain ⟨its2, r2, p2, _⟩ := I.list hb
  cases r2
  cases r1 with
  | nil => exact SeqAt.RcNeAt.lists (e := fun _ => true) p1.isList p2.isList rfl (by omega) (fun j h1 => absurd h1 (by simp)) _ _ _ _ ⟨.bl false, H, I, rfl, q⟩
  | cons rx rr => exact SeqAt.RcNeAt.lists_lengths p1.isList p2.isList (by simp) (by omega) _ _ _ _ ⟨.bl true, H, I, rfl, q⟩
theorem op_eqDE (hu : X.A.units + 64 < cLine) : OpR X (compareOp .Eq) rEqDE := by
  intro pins s σ H x y v u Q I rx ry h
  obtain ⟨a, b, kvs, rfl, rfl, ea, eb, q⟩ := h
  obtain rfl : v = Value.ref a := rx
  obtain rfl : u = Value.ref b := ry
  obtain ⟨_, ya, va, ra, da⟩ := (show ObjOk X.prog X.w H s.heap a (.dK kvs) from I.hok a _ ea)
  obtain ⟨_, yb, vb, rb, db⟩ := (show ObjOk X.prog X.w H s.heap b (.dK []) from I.hok b _ eb)
  cases rb
  refine PySem.W.keq_eq (knd := mixKind X.prog X.w) (r := true) ya yb da db (by omega) (fun e => ?_) ?_
  · cases va with
    | nil => exact .nil
    | cons p r => simp at e
  · cases ra with
    | nil => exact ⟨.bl true, H, I, rfl, q⟩
    | cons rx rr => exact ⟨.bl false, H, I, rfl, q⟩
theorem op_neDE (hu : X.A.units + 64 < cLine) : OpR X (compareOp .NotEq) rNeDE := by
  intro pins s σ H x y v u Q I rx ry h
  obtain ⟨a, b, kvs, rfl, rfl, ea, eb, q⟩ := h
  obtain rfl : v = Value.ref a := rx
  obtain rfl : u = Value.ref b := ry
  obtain ⟨_, ya, va, ra, da⟩ := (show ObjOk X.prog X.w H s.heap a (.dK kvs) from I.hok a _ ea)
  obtain ⟨_, yb, vb, rb, db⟩ := (show ObjOk X.prog X.w H s.heap b (.dK []) from I.hok b _ eb)
  cases rb
  refine PySem.W.keq_ne (knd := mixKind X.prog X.w) (r := true) ya yb da db (by omega) (fun e => ?_) ?_
  · cases va with
    | nil => exact .nil
    | cons p r => simp at e
  · cases ra with
    | nil => exact ⟨.bl false, H, I, rfl, q⟩
    | cons rx rr => exact ⟨.bl true, H, I, rfl, q⟩
/-! ### pairs of texts in their order -/
def ltS (x y : Str) : Bool := decide (x.cps.toList < y.cps.toList)
def le2 (a b c d : Str) : Bool := if a = c then !ltS d b else !ltS c a
def rLe2 (K : PySem.W.Frag) : R2 := fun x y H Q => ∃ (p r : Addr) (a b c d : Str), x = .ref p ∧ y = .ref r ∧ SqT K H p [.str a, .str b] ∧ SqT K H r [.str c, .str d] ∧ Q (.bl (le2 a b c d)) H
theorem op_le2 (hu : X.A.units + 64 < cLine) : OpR X (compareOp .LtE) (rLe2 X.K) := by
  intro pins s σ H x y v u Q I rx ry h
  obtain ⟨p, r, a, b, c, d, rfl, rfl, hp, hr, q⟩ := h
  obtain rfl : v = Value.ref p := rx
  obtain rfl : u = Value.ref r := ry
  obtain ⟨its, r1, p1, _⟩ := I.tuple hp
  obtain ⟨its2, r2, p2, _⟩ := I.tuple hr
  cases r1 with
  | cons ra r1 => cases r1 with
    | cons rb r1 => cases r1; cases r2 with
      | cons rc r2 => cases r2 with
        | cons rd r2 =>
          cases r2
          obtain ⟨ta, rfl⟩ := ra
          obtain ⟨tb, rfl⟩ := rb
          obtain ⟨tc, rfl⟩ := rc
          obtain ⟨td, rfl⟩ := rd
          have R := Ob.RcOp.tuples_le (A := X.A) (s := s) (e := fun j => if j = 0 then decide (a = c) else decide (b = d)) (r := fun j => if j = 0 then !ltS c a else !ltS d b) p1 p2 (by omega) (fun j h1 h2 => ?_) (fun j h1 h2 _ => ?_)
          · have hq : X.prog = X.prog := rfl
            have e : Ob.lexAt (fun j => if j = 0 then decide (a = c) else decide (b = d)) (fun j => if j = 0 then !ltS c a else !ltS d b) (decide ((#[Value.str a ta, Value.str b tb] : Array Value).size ≤ (#[Value.str c tc, Value.str d td] : Array Value).size)) 0 (min (#[Value.str a ta, Value.str b tb] : Array Value).size (#[Value.str c tc, Value.str d td] : Array Value).size) = le2 a b c d := by
              show (if decide (a = c) = true then (if decide (b = d) = true then true else !ltS d b) else !ltS c a) = le2 a b c d
              unfold le2
              by_cases h : a = c
              · rw [if_pos (decide_eq_true h), if_pos h]
                by_cases h2 : b = d
                · rw [if_pos (decide_eq_true h2), h2]
                  have : ltS d d = false := decide_eq_false (List.lt_irrefl _)
                  rw [this]
                  rfl
                · rw [if_neg (by simpa using h2)]
              · rw [if_neg (by simpa using h), if_neg h]
            exact R _ _ _ _ ⟨.bl _, H, I, rfl, e ▸ q⟩
          · match j, h1, h2 with
            | 0, h1, h2 =>
              have z := SeqAt.EqAt.str_str (A := X.A.in1) (s := s) a ta c tc
              rw [show (a == c) = decide (a = c) from by rw [Bool.eq_iff_iff]; simp] at z
              exact z
            | 1, h1, h2 =>
              have z := SeqAt.EqAt.str_str (A := X.A.in1) (s := s) b tb d td
              rw [show (b == d) = decide (b = d) from by rw [Bool.eq_iff_iff]; simp] at z
              exact z
            | j + 2, h1, h2 => exact absurd h1 (by simp)
          · match j, h1, h2 with
            | 0, h1, h2 => exact fun prog w E Q hq => PySem.P.le_str (A := X.A.in1) (x := a) (y := c) (t := ta) (u := tc) hq
            | 1, h1, h2 => exact fun prog w E Q hq => PySem.P.le_str (A := X.A.in1) (x := b) (y := d) (t := tb) (u := td) hq
            | j + 2, h1, h2 => exact absurd h1 (by simp)
end
end WK
end
section
set_option Elab.async false
set_option linter.all false
set_option maxRecDepth 100000
set_option maxHeartbeats 4000000
namespace WK
open PySem PySem.Spec L2 PyProof.Rows
/-! ### max of a dict whose keys are texts that ascend -/
def asc (ks : List Str) : Prop := ∀ i x y, ks[i]? = some x → ks[i + 1]? = some y → ltS x y = true
def rMaxK : List V → Hp → VK → Prop := fun xs H Q => ∃ (a : Addr) (kvs : List (Key × V)) (ks : List Str) (z : Str), xs = [.ref a] ∧ H a = some (.dK kvs) ∧ kvs.map (·.1) = ks.map Sum.inr ∧ asc ks ∧ ks.getLast? = some z ∧ Q (.str z) H
theorem best_last {bt : Nat → Nat → Bool} {n : Nat} (h : ∀ k, k + 1 < n → bt (k + 1) k = true) : ∀ k, k < n → argBest bt k = k
  | 0, _ => rfl
  | k + 1, hk => by
    rw [argBest, best_last h k (by omega), if_pos (h k hk)]
theorem cr_maxK {X : Cx} (hc : X.calm = true) : CallR X (.builtin "max") rMaxK := by
  intro pins s σ H xs us Q I rx h
  obtain ⟨a, kvs, ks, z, rfl, ha, hks, hasc, hz, q⟩ := h
  rw [Vals.ref1 rx]
  obtain ⟨_, lo, vs, rel, dd⟩ := dk_rd I.hok (.inl ha)
  obtain ⟨ep, hat⟩ := dd.dictAt
  have hkeys : vs.map (·.1) = ks.map Sum.inr := rel.keys.symm.trans hks
  have hl : vs.length = ks.length := by
    have e := congrArg List.length hkeys
    rw [List.length_map, List.length_map] at e
    exact e
  have hne : ks ≠ [] := fun e => by rw [e] at hz; cases hz
  have hpos : 0 < ks.length := List.length_pos_iff.mpr hne
  have key : ∀ (i : Nat) (v : Value), (∃ k x, vs[i]? = some (k, x) ∧ (mixKind X.prog X.w).is k v = true) → ∃ (y : Str) (t : Tok), ks[i]? = some y ∧ v = .str y t := by
    rintro i v ⟨k, x, e1, e2⟩
    have e3 : (vs.map (·.1))[i]? = some k := by rw [List.getElem?_map, e1]; rfl
    rw [hkeys, List.getElem?_map] at e3
    cases e4 : ks[i]? with
    | none => rw [e4] at e3; cases e3
    | some y =>
      rw [e4] at e3
      cases e3
      have z : keyIs (.inr y) v = true := e2
      rcases keyIs_shape z with ⟨j, t, hk, e⟩ | ⟨x', t, hk, e⟩
      · cases hk
      · cases hk
        exact ⟨y, t, rfl, e⟩
  have Kd := PySem.W.kdl_dict (prog := X.prog) (w := X.w) (knd := mixKind X.prog X.w) (kvs := vs) (ep := ep) lo
  refine call_max_walk ?_
  obtain ⟨oI, St, hit, W, st⟩ := Kd.iter X.A.in1 s (I.ok.hd hc) hat
  refine hit _ _ ⟨s.heap.objs.size, _, _, vs.length, _, St, fun i j => ltS (ks.getD j "") (ks.getD i ""), rfl, W, st, fun b hb => ?_, by omega, ?_, fun v h' tk hP hk => ?_⟩
  · show b < (s.heap.push oI).objs.size
    rw [size_push']
    rcases List.mem_cons.mp hb with e | e
    · rw [e]; exact Nat.lt_succ_self _
    · rw [List.mem_singleton.mp e]; exact Nat.lt_succ_of_lt (Kd.there _ hat).2
  · intro i j vi vj s1 Q1 E1 hi hj hq
    obtain ⟨y1, t1, e1, rfl⟩ := key i vi hi
    obtain ⟨y2, t2, e2, rfl⟩ := key j vj hj
    have g1 : ks.getD i "" = y1 := by rw [List.getD_eq_getElem?_getD, e1]; rfl
    have g2 : ks.getD j "" = y2 := by rw [List.getD_eq_getElem?_getD, e2]; rfl
    dsimp only at hq
    rw [g1, g2] at hq
    exact PySem.P.gt_str (x := y1) (y := y2) (t := t1) (u := t2) hq
  · have hb : argBest (fun i j => ltS (ks.getD j "") (ks.getD i "")) (vs.length - 1) = vs.length - 1 := by
      refine best_last (n := vs.length) (fun k hk => ?_) _ (by omega)
      have h1 : k < ks.length := by omega
      have h2 : k + 1 < ks.length := by omega
      have a1 : ks[k]? = some ks[k] := List.getElem?_eq_getElem h1
      have a2 : ks[k + 1]? = some ks[k + 1] := List.getElem?_eq_getElem h2
      rw [List.getD_eq_getElem?_getD, List.getD_eq_getElem?_getD, a1, a2]
      exact hasc k _ _ a1 a2
    rw [hb] at hP
    obtain ⟨y, t, e, rfl⟩ := key _ v hP
    rw [hl, ← List.getLast?_eq_getElem?, hz] at e
    cases e
    have hk' : ∀ b o, s.heap.get? b = some o → h'.get? b = some o := fun b o e => hk b o (fun hI => absurd (Heap.lt_size e) (by rw [List.mem_singleton.mp hI]; exact Nat.lt_irrefl _)) (Heap.get?_push_of_some _ e)
    exact ⟨.str z, H, I.kept (t' := tk) hk', ⟨t, rfl⟩, q⟩
end WK
end
section
set_option Elab.async false
set_option linter.all false
set_option maxRecDepth 100000
set_option maxHeartbeats 4000000
namespace WK
open PySem L2 PyProof.Rows LamX
/-! ### methods of a class of the text -/
structure MethOf (K : PySem.W.Frag) (C : Addr) (m qual : Str) (st : Stmt) (ps : List Str) : Prop where
  ex : ∃ (f : Addr) (fd : FuncData), Cls K C ∧ Meth K C m f ∧ Fun K m qual st f fd ∧ Binds K fd ps []
theorem MethOf.met {P : Program} {w : World} {K : PySem.W.Frag} {mg : Str → Option Value} {base : Heap} {C : Addr} {m qual : Str} {st : Stmt} {N ps : List Str} {k : Nat} {sp : Sp} (D : MethOf K C m qual st ps) (S : FnScope N ps (defScope st)) (len : ∀ vs H Q E, sp vs H Q E → vs.length = ps.length)
    (hbody : ∀ (f : Addr) (cdv : Value) (A : Around) (outer : List Env) (s : Shared) (H : Hp) (vs : List V) (Q : VK) (E : XK), Room k (A.deeper (envOfC qual (defScope st) s.heap.objs.size f cdv)) → sp vs H Q E →
      ∃ t, PSs (cxOf CX0 P w K mg base N qual (defScope st) f cdv A outer s H E).nox (defBody st) t ∧ t { nx := fun _ H' => Q .non H', rt := Q } (start N vs) H) : C8.Met P w K mg base (k + 1) C m sp [] := by
  obtain ⟨f, fd, c, me, F, b⟩ := D.ex
  exact ⟨f, fd, ps, [], c, me, F.ok S len (fun cdv A outer s H vs Q E hr h => hbody f cdv A outer s H vs Q E hr h), b, .nil⟩
/-! ### the state of a reading of lines -/
structure LS where
  rest : List (List Str)
  persons : List Str
  kinds : List (Str × Str)
  rights : List (Str × Str)
  forms : List Fm
structure Adr where
  L : Addr
  dx : Addr
  aP : Addr
  aK : Addr
  aT : Addr
  aF : Addr
  tab : Addr
/-- what may change in a reading -/
def Adr.own (A : Adr) : List Addr := [A.L, A.dx, A.aP, A.aK, A.aT, A.aF, A.tab]
def bare (own : List Addr) (H : Hp) : Hp := fun b => if b ∈ own then none else H b
theorem bare_sub {own : List Addr} {H : Hp} : Same (bare own H) H := fun b o e => by
  unfold bare at e
  split at e
  · cases e
  · exact e
theorem bare_ne {own : List Addr} {H : Hp} {b : Addr} (h : b ∉ own) : bare own H b = H b := if_neg h
theorem bare_in {own : List Addr} {H : Hp} {b : Addr} (h : b ∈ own) : bare own H b = none := if_pos h
theorem bare_same {own : List Addr} {H G : Hp} (s : Same H G) : Same (bare own H) (bare own G) := fun b o e => by
  by_cases h : b ∈ own
  · rw [bare_in h] at e; cases e
  · rw [bare_ne h] at e ⊢; exact s b o e
theorem bare_upd {own : List Addr} {H : Hp} {b : Addr} {o : HO} (h : b ∈ own) : bare own (upd H b o) = bare own H := by
  funext c
  by_cases hc : c ∈ own
  · rw [bare_in hc, bare_in hc]
  · rw [bare_ne hc, bare_ne hc, upd_ne (fun z => hc (by rw [z]; exact h))]
def WordsAt (K : PySem.W.Frag) (H : Hp) (ws : List Str) (v : V) : Prop := ∃ l, v = .ref l ∧ SqL K H l (ws.map V.str)
def PairAt (K : PySem.W.Frag) (H : Hp) (p : Str × Str) (v : V) : Prop := ∃ a, v = .ref a ∧ SqT K H a [.str p.1, .str p.2]
theorem Paired.imp {α β : Type} {R S : α → β → Prop} (h : ∀ a b, R a b → S a b) : ∀ {xs : List α} {ys : List β}, Paired R xs ys → Paired S xs ys
  | _, _, .nil => .nil
  | _, _, .cons a t => .cons (h _ _ a) (Paired.imp h t)
theorem Paired.snoc {α β : Type} {R : α → β → Prop} {x : α} {y : β} (h : R x y) : ∀ {xs : List α} {ys : List β}, Paired R xs ys → Paired R (xs ++ [x]) (ys ++ [y])
  | _, _, .nil => .cons h .nil
  | _, _, .cons a t => .cons a (Paired.snoc h t)
theorem WordsAt.mono {K : PySem.W.Frag} {H G : Hp} (s : Same H G) {ws : List Str} {v : V} (h : WordsAt K H ws v) : WordsAt K G ws v := by
  obtain ⟨l, e, q⟩ := h
  exact ⟨l, e, s.seq q⟩
theorem PairAt.mono {K : PySem.W.Frag} {H G : Hp} (s : Same H G) {p : Str × Str} {v : V} (h : PairAt K H p v) : PairAt K G p v := by
  obtain ⟨l, e, q⟩ := h
  exact ⟨l, e, sqT_same s q⟩
def kvOf (kinds : List (Str × Str)) : List (Key × V) := kinds.map fun p => (Sum.inr p.1, V.str p.2)
def flds (aR : Addr) (many : Int) (A : Adr) : List (Str × V) := [("rest_lines", .ref aR), ("many_lines", .int many), ("held_persons", .ref A.aP), ("held_kinds", .ref A.aK), ("held_rights", .ref A.aT), ("held_formulas", .ref A.aF)]
structure LinesAt (K : PySem.W.Frag) (C : Addr) (T : List (Addr × Str)) (H : Hp) (A : Adr) (st : LS) : Prop where
  obj : ∃ aR many refs, H A.L = some (.ins C A.dx (flds aR many A)) ∧ aR ∉ A.own ∧ SqL K (bare A.own H) aR refs ∧ Paired (WordsAt K (bare A.own H)) st.rest refs
  ps : H A.aP = some (.lst (st.persons.map V.str))
  ks : H A.aK = some (.dK (kvOf st.kinds))
  ts : ∃ ts, H A.aT = some (.lst ts) ∧ Paired (PairAt K (bare A.own H)) st.rights ts
  fs : ∃ fs, H A.aF = some (.lst fs) ∧ Paired (FmAt K (bare A.own H)) st.forms fs
  nd : A.own.Nodup
  live : ∀ x ∈ A.own, H x ≠ none
  tb : Tabs T H
  dxo : H A.dx = some (.own A.L)
theorem upd_live {H : Hp} {b x : Addr} {o : HO} (h : H x ≠ none) : upd H b o x ≠ none := by
  by_cases e : x = b
  · rw [e, upd_same]; simp
  · rw [upd_ne e]; exact h
/-- the class Lines in the head -/
structure LinesC (K : PySem.W.Frag) (C : Addr) : Prop where
  cls : Cls K C
  n1 : NoAttr K C "rest_lines"
  n2 : NoAttr K C "many_lines"
  n3 : NoAttr K C "held_persons"
  n4 : NoAttr K C "held_kinds"
  n5 : NoAttr K C "held_rights"
  n6 : NoAttr K C "held_formulas"
structure WConsts (K : PySem.W.Frag) (mg : Str → Option Value) : Prop extends FConsts K mg where
  FEED : Cst mg "FEED" (.str "\n")
  BLANK : Cst mg "BLANK" (.str " ")
  HOUSE : Cst mg "HOUSE" (.str "house")
  PERSON : Cst mg "PERSON" (.str "person")
  PATH : Cst mg "PATH" (.str "path")
  RIGHT : Cst mg "RIGHT" (.str "right")
  RULE : Cst mg "RULE" (.str "rule")
  COUNT : Cst mg "COUNT" (.str "count")
  KINDS : CstT K mg "KINDS" [.str "word", .str "firm", .str "ours", .str "count"]
  MOST_PERSONS : Cst mg "MOST_PERSONS" (.int 3)
  MOST_PATHS : Cst mg "MOST_PATHS" (.int 6)
  MOST_RULES : Cst mg "MOST_RULES" (.int 3)
  MOST_ATOMS : Cst mg "MOST_ATOMS" (.int 4)
  MOST_WORDS : Cst mg "MOST_WORDS" (.int 40)
section
variable {K : PySem.W.Frag} {C : Addr} {T : List (Addr × Str)} {H G : Hp} {A : Adr} {st : LS}
theorem Adr.ne {A : Adr} (h : A.own.Nodup) {i j : Nat} {x y : Addr} (hi : A.own[i]? = some x) (hj : A.own[j]? = some y) (hij : i ≠ j) : x ≠ y := fun e => by
  subst e
  have li : i < A.own.length := (List.getElem?_eq_some_iff.mp hi).1
  have lj : j < A.own.length := (List.getElem?_eq_some_iff.mp hj).1
  have e1 := (List.getElem?_eq_some_iff.mp hi).2
  have e2 := (List.getElem?_eq_some_iff.mp hj).2
  have hp := List.pairwise_iff_getElem.mp h
  rcases Nat.lt_or_gt_of_ne hij with l | l
  · exact hp i j li lj l (e1.trans e2.symm)
  · exact hp j i lj li l (e2.trans e1.symm)
theorem LinesAt.mono (L : LinesAt K C T H A st) (s : Same H G) : LinesAt K C T G A st := by
  obtain ⟨aR, many, refs, h1, h0, h2, h3⟩ := L.obj
  obtain ⟨ts, h4, h5⟩ := L.ts
  obtain ⟨fs, h6, h7⟩ := L.fs
  have sb := bare_same (own := A.own) s
  exact ⟨⟨aR, many, refs, s _ _ h1, h0, sb.seq h2, Paired.imp (fun _ _ => WordsAt.mono sb) h3⟩, s _ _ L.ps, s _ _ L.ks, ⟨ts, s _ _ h4, Paired.imp (fun _ _ => PairAt.mono sb) h5⟩, ⟨fs, s _ _ h6, Paired.imp (fun _ _ => FmAt.mono sb) h7⟩, L.nd, fun x hx e => L.live x hx (s.free e), Tabs.ext L.tb s, s _ _ L.dxo⟩
/-- tables, where another thing is written -/
theorem tabs_over {pp : Addr} {o o' : HO} (h : H pp = some o) (n1 : ∀ ps, o ≠ .tbl ps) (n2 : ∀ c q, o ≠ CodeO c q) (t : Tabs T H) : Tabs T (upd H pp o') := fun p hp => by
  obtain ⟨ps, a1, a2, a3⟩ := t p hp
  refine ⟨ps, ?_, a2, fun pos cv hc => ?_⟩
  · rw [upd_ne (fun z => n1 ps (by rw [z] at a1; exact Option.some.inj (h.symm.trans a1)))]
    exact a1
  · obtain ⟨c, e, q⟩ := a3 pos cv hc
    refine ⟨c, e, ?_⟩
    rw [upd_ne (fun z => n2 c p.2 (by rw [z] at q ⊢; exact Option.some.inj (h.symm.trans q)))]
    exact q
theorem lst_code {xs : List V} {c : Addr} {q : Str} : HO.lst xs ≠ CodeO c q := fun z => by
  unfold CodeO at z
  cases z
theorem dk_code {xs : List (Key × V)} {c : Addr} {q : Str} : HO.dK xs ≠ CodeO c q := fun z => by
  unfold CodeO at z
  cases z
theorem ins_code {C dx : Addr} {fs : List (Str × V)} {c : Addr} {q : Str} : HO.ins C dx fs ≠ CodeO c q := fun z => by
  unfold CodeO at z
  cases z
end
end WK
end
section
set_option Elab.async false
set_option linter.all false
set_option maxRecDepth 100000
set_option maxHeartbeats 4000000
namespace WK
open PySem L2 PyProof.Rows LamX
def Frm (A : Adr) (H H' : Hp) : Prop := Same (bare A.own H) (bare A.own H')
theorem sz0 : ([] : List V).length ≤ sizeLine := by decide
abbrev mSt (j : Nat) : Stmt := inClass (top 46) j
section
variable {K : PySem.W.Frag} {C : Addr} {T : List (Addr × Str)} {H G : Hp} {A : Adr} {st : LS}
theorem own_aP : A.aP ∈ A.own := by simp [Adr.own]
theorem own_aK : A.aK ∈ A.own := by simp [Adr.own]
theorem own_aT : A.aT ∈ A.own := by simp [Adr.own]
theorem own_aF : A.aF ∈ A.own := by simp [Adr.own]
theorem own_L : A.L ∈ A.own := by simp [Adr.own]
/-- another person is held -/
theorem LinesAt.person (L : LinesAt K C T H A st) (p : Str) : LinesAt K C T (upd H A.aP (.lst ((st.persons ++ [p]).map V.str))) A { st with persons := st.persons ++ [p] } := by
  obtain ⟨aR, many, refs, h1, h0, h2, h3⟩ := L.obj
  obtain ⟨ts, h4, h5⟩ := L.ts
  obtain ⟨fs, h6, h7⟩ := L.fs
  have e := bare_upd (H := H) (o := .lst ((st.persons ++ [p]).map V.str)) (own_aP (A := A))
  refine ⟨⟨aR, many, refs, ?_, h0, by rw [e]; exact h2, by rw [e]; exact h3⟩, upd_same, ?_, ⟨ts, ?_, by rw [e]; exact h5⟩, ⟨fs, ?_, by rw [e]; exact h7⟩, L.nd, fun x hx => upd_live (L.live x hx), tabs_over L.ps (fun _ z => by cases z) (fun _ _ => lst_code) L.tb, by rw [upd_ne (Adr.ne L.nd (i := 1) (j := 2) rfl rfl (by decide))]; exact L.dxo⟩
  · rw [upd_ne (Adr.ne L.nd (i := 0) (j := 2) rfl rfl (by decide))]; exact h1
  · rw [upd_ne (Adr.ne L.nd (i := 3) (j := 2) rfl rfl (by decide))]; exact L.ks
  · rw [upd_ne (Adr.ne L.nd (i := 4) (j := 2) rfl rfl (by decide))]; exact h4
  · rw [upd_ne (Adr.ne L.nd (i := 5) (j := 2) rfl rfl (by decide))]; exact h6
end
def spPerson (K : PySem.W.Frag) (C : Addr) (T : List (Addr × Str)) : Sp := fun vs H Q _ => ∃ (A : Adr) (st : LS) (l : Addr) (ws : List Str), vs = [.ref A.L, .ref l] ∧ LinesAt K C T H A st ∧ SqL K (bare A.own H) l (ws.map V.str) ∧
  ((ws.length ≠ 2 ∧ Q (.bl false) H) ∨ ∃ p : Str, ws = [("person" : Str), p] ∧ isName p = true ∧ p ≠ "house" ∧ st.persons.length < 3 ∧ (∀ z, st.persons.getLast? = some z → ltS z p = true) ∧
    ∀ H', LinesAt K C T H' A { st with persons := st.persons ++ [p] } → Frm A H H' → Q (.bl true) H')
section
variable {P : Program} {w : World} {K : PySem.W.Frag} {mg : Str → Option Value} {base : Heap} {CL : Addr} {T : List (Addr × Str)}
abbrev nTakesPerson : List Str := ["self", "words"]
abbrev sTakesPerson : Stmt := mSt 4
theorem scTakesPerson : FnScope nTakesPerson ["self", "words"] (defScope sTakesPerson) := ⟨rfl, rfl, rfl, by decide +kernel, rfl, by decide +kernel, by decide +kernel⟩
theorem ok_person (B : Free mg) (C : WConsts K mg) (LC : LinesC K CL) (D : MethOf K CL "takes_person" "Lines.takes_person" sTakesPerson ["self", "words"]) (O_is_name : C8.Cal P w K mg base 1 "is_name" spName []) : C8.Met P w K mg base 2 CL "takes_person" (spPerson K CL T) [] := by
  refine D.met scTakesPerson (fun vs H Q E h => ?_) (fun f cdv A outer s H vs Q E hr h => ?_)
  · obtain ⟨A, st, l, ws, rfl, _⟩ := h
    rfl
  obtain ⟨AD, st, l, ws, rfl, hL, hl0, hcase⟩ := h
  have hu : (A.deeper (envOfC "Lines.takes_person" (defScope sTakesPerson) s.heap.objs.size f cdv)).units + 64 < cLine := by have := hr.un; omega
  refine ⟨_, (pss_cons (ps_if (pw_or (pt_cmpR op_ne (pe_callB call_len_seq (by rfl) B.len PySem.boot_len (pa_cons (pv 1) pa_nil)) pe_int (nomark _))
        (pw_or (pt_cmpR op_ne (pe_ix ix_list (pv 1) pe_int (fun _ _ => rfl)) (C8.pe_gc (by rfl) C.PERSON) (nomark _))
        (pw_or (pt_not (pt_val (C8.pe_c O_is_name hr (by omega) (by rfl) (pa_cons (pe_ix ix_list (pv 1) pe_int (fun _ _ => rfl)) pa_nil))))
        (pw_or1 (pt_cmpR op_eq (pe_ix ix_list (pv 1) pe_int (fun _ _ => rfl)) (C8.pe_gc (by rfl) C.HOUSE) (nomark _)))))).pt
      (pss_one (ps_ret pe_bl))
      pss_nil)
      (pss_cons (ps_if (pw_or (pt_cmpR op_eq (pe_callB call_len_seq (by rfl) B.len PySem.boot_len (pa_cons (pe_fld (pv 0) (by rfl)) pa_nil)) (C8.pe_gc (by rfl) C.MOST_PERSONS) (nomark _))
        (pw_or1 (pw_and (pt_cmpR (op_neE hu) (pe_fld (pv 0) (by rfl)) (pe_lst pa_nil) (nomark _))
        (pw_and1 (pt_cmpR op_le_str (pe_ix ix_list (pv 1) pe_int (fun _ _ => rfl)) (pe_ix ix_list (pe_fld (pv 0) (by rfl)) (pe_un un_neg pe_int) (fun _ _ => rfl)) (nomark _)))).pt)).pt
      (pss_one (ps_ret pe_bl))
      pss_nil)
      (pss_cons (ps_expr (pe_bm PySem.F.plainAttrs_list PySem.F.slot_list_append PySem.F.type_list_append mt_append (pe_fld (pv 0) (by rfl)) (pa_cons (pe_ix ix_list (pv 1) pe_int (fun _ _ => rfl)) pa_nil)))
      (pss_one (ps_ret pe_bl))))), ?_⟩
  have hl := bare_sub.seq hl0
  rcases hcase with ⟨hn, k⟩ | ⟨p, rfl, hp, hh, h3, hlast, k⟩
  · refine ⟨_, rfl, l, _, rfl, .inl hl, rfl, _, rfl, ?_⟩
    refine iteY (by rw [List.length_map]; rw [decide_eq_false (fun z => hn (by injection z with z; omega))]; rfl) ?_
    exact iteY rfl k
  · refine ⟨_, rfl, l, _, rfl, .inl hl, rfl, _, rfl, ?_⟩
    refine iteN rfl ?_
    refine ⟨_, rfl, l, _, _, _, rfl, rfl, hl, at0, rfl, _, rfl, ?_⟩
    refine iteN rfl ?_
    refine ⟨_, rfl, l, _, _, _, rfl, rfl, hl, at1, p, rfl, name_le hp, fun G1 s1 => ⟨_, rfl, ?_⟩⟩
    refine iteN (by rw [hp]; rfl) ?_
    refine ⟨_, rfl, l, _, _, _, rfl, rfl, s1.seq hl, at1, rfl, _, rfl, ?_⟩
    refine iteN (decide_eq_false (fun z => hh (by injection z))) ?_
    have hL1 := hL.mono s1
    obtain ⟨aR, many, refs, h1, _, _, _⟩ := hL1.obj
    refine ⟨_, rfl, AD.L, CL, AD.dx, _, _, rfl, h1, LC.cls, LC.n3, rfl, AD.aP, _, rfl, .inl (SqL.of hL1.ps), rfl, _, rfl, ?_⟩
    refine iteN (by rw [List.length_map]; exact decide_eq_false (fun z => by injection z with z; omega)) ?_
    refine ⟨_, rfl, AD.L, CL, AD.dx, _, _, rfl, h1, LC.cls, LC.n3, rfl, sz0, fun e ne => ⟨AD.aP, e, _, rfl, rfl, SqL.of ((new_same ne) _ _ hL1.ps), SqL.of upd_same, _, rfl, ?_⟩⟩
    have hL2 := hL1.mono (new_same (o := .lst []) ne)
    have s2 : Same H (upd G1 e (.lst [])) := same_tr s1 (new_same ne)
    generalize upd G1 e (.lst []) = G2 at hL2 s2
    obtain ⟨aR2, many2, refs2, h12, _, _, _⟩ := hL2.obj
    have hps := hL2.ps
    have fr : Frm AD H (upd G2 AD.aP (.lst ((st.persons ++ [p]).map V.str))) := by
      unfold Frm
      rw [bare_upd own_aP]
      exact bare_same s2
    have kk := k _ (hL2.person p) fr
    rw [List.map_append] at kk
    have hz : (st.persons.map V.str).length < sizeLine := by rw [List.length_map]; exact Nat.lt_of_lt_of_le h3 (by decide)
    cases hg : st.persons.getLast? with
    | none =>
      have e0 : st.persons = [] := List.getLast?_eq_none_iff.mp hg
      refine iteN (by rw [e0]; rfl) ?_
      refine iteN rfl ?_
      refine ⟨_, rfl, AD.L, CL, AD.dx, _, _, rfl, h12, LC.cls, LC.n3, rfl, .inl ⟨rfl, _, SqL.of hps⟩, _, rfl, l, _, _, _, rfl, rfl, s2.seq hl, at1, AD.aP, _, _, rfl, rfl, hps, hz, ?_⟩
      exact kk
    | some z =>
      have ne0 : st.persons ≠ [] := fun e => by rw [e] at hg; cases hg
      refine iteY (by cases h : st.persons with | nil => exact absurd h ne0 | cons a b => rfl) ?_
      have hg' : (st.persons.map V.str).getLast? = some (.str z) := by rw [List.getLast?_map, hg]; rfl
      refine ⟨_, rfl, l, _, _, _, rfl, rfl, s2.seq hl, at1, _, rfl, AD.L, CL, AD.dx, _, _, rfl, h12, LC.cls, LC.n3, rfl, _, rfl, AD.aP, _, _, _, rfl, rfl, SqL.of hps, at_last hg', p, z, rfl, rfl, _, rfl, ?_⟩
      refine iteN (by have := hlast z hg; unfold ltS at this; rw [this]; rfl) ?_
      refine ⟨_, rfl, AD.L, CL, AD.dx, _, _, rfl, h12, LC.cls, LC.n3, rfl, .inl ⟨rfl, _, SqL.of hps⟩, _, rfl, l, _, _, _, rfl, rfl, s2.seq hl, at1, AD.aP, _, _, rfl, rfl, hps, hz, ?_⟩
      exact kk
end
end WK
end
section
set_option Elab.async false
set_option linter.all false
set_option maxRecDepth 100000
set_option maxHeartbeats 4000000
namespace WK
open PySem L2 PyProof.Rows LamX
section
variable {K : PySem.W.Frag} {C : Addr} {T : List (Addr × Str)} {H G : Hp} {A : Adr} {st : LS}
/-- another path is held -/
theorem LinesAt.path (L : LinesAt K C T H A st) (p : Str × Str) : LinesAt K C T (upd H A.aK (.dK (kvOf (st.kinds ++ [p])))) A { st with kinds := st.kinds ++ [p] } := by
  obtain ⟨aR, many, refs, h1, h0, h2, h3⟩ := L.obj
  obtain ⟨ts, h4, h5⟩ := L.ts
  obtain ⟨fs, h6, h7⟩ := L.fs
  have e := bare_upd (H := H) (o := .dK (kvOf (st.kinds ++ [p]))) (own_aK (A := A))
  refine ⟨⟨aR, many, refs, ?_, h0, by rw [e]; exact h2, by rw [e]; exact h3⟩, ?_, upd_same, ⟨ts, ?_, by rw [e]; exact h5⟩, ⟨fs, ?_, by rw [e]; exact h7⟩, L.nd, fun x hx => upd_live (L.live x hx), tabs_over L.ks (fun _ z => by cases z) (fun _ _ => dk_code) L.tb, by rw [upd_ne (Adr.ne L.nd (i := 1) (j := 3) rfl rfl (by decide))]; exact L.dxo⟩
  · rw [upd_ne (Adr.ne L.nd (i := 0) (j := 3) rfl rfl (by decide))]; exact h1
  · rw [upd_ne (Adr.ne L.nd (i := 2) (j := 3) rfl rfl (by decide))]; exact L.ps
  · rw [upd_ne (Adr.ne L.nd (i := 4) (j := 3) rfl rfl (by decide))]; exact h4
  · rw [upd_ne (Adr.ne L.nd (i := 5) (j := 3) rfl rfl (by decide))]; exact h6
/-- another right is held -/
theorem LinesAt.right (L : LinesAt K C T H A st) (p : Str × Str) {ts : List V} {v : V} (ht : H A.aT = some (.lst ts)) (hp : Paired (PairAt K (bare A.own H)) st.rights ts) (hv : PairAt K (bare A.own H) p v) : LinesAt K C T (upd H A.aT (.lst (ts ++ [v]))) A { st with rights := st.rights ++ [p] } := by
  obtain ⟨aR, many, refs, h1, h0, h2, h3⟩ := L.obj
  obtain ⟨fs, h6, h7⟩ := L.fs
  have e := bare_upd (H := H) (o := .lst (ts ++ [v])) (own_aT (A := A))
  refine ⟨⟨aR, many, refs, ?_, h0, by rw [e]; exact h2, by rw [e]; exact h3⟩, ?_, ?_, ⟨_, upd_same, by rw [e]; exact Paired.snoc hv hp⟩, ⟨fs, ?_, by rw [e]; exact h7⟩, L.nd, fun x hx => upd_live (L.live x hx), tabs_over ht (fun _ z => by cases z) (fun _ _ => lst_code) L.tb, by rw [upd_ne (Adr.ne L.nd (i := 1) (j := 4) rfl rfl (by decide))]; exact L.dxo⟩
  · rw [upd_ne (Adr.ne L.nd (i := 0) (j := 4) rfl rfl (by decide))]; exact h1
  · rw [upd_ne (Adr.ne L.nd (i := 2) (j := 4) rfl rfl (by decide))]; exact L.ps
  · rw [upd_ne (Adr.ne L.nd (i := 3) (j := 4) rfl rfl (by decide))]; exact L.ks
  · rw [upd_ne (Adr.ne L.nd (i := 5) (j := 4) rfl rfl (by decide))]; exact h6
theorem kv_put {ks : List (Str × Str)} {p k : Str} (h : p ∉ ks.map (·.1)) : putK (kvOf ks) (Sum.inr p) (.str k) = kvOf (ks ++ [(p, k)]) := by
  unfold putK
  rw [if_neg]
  · unfold kvOf
    rw [List.map_append]
    rfl
  · intro z
    rw [List.any_eq_true] at z
    obtain ⟨q, hq, e⟩ := z
    obtain ⟨r, hr, rfl⟩ := List.mem_map.mp hq
    have e' : (Sum.inr r.1 : Key) = Sum.inr p := of_decide_eq_true e
    injection e' with e'
    exact h (List.mem_map.mpr ⟨r, hr, e'⟩)
end
def kinds4 : List Str := ["word", "firm", "ours", "count"]
def spPath' (K : PySem.W.Frag) (C : Addr) (T : List (Addr × Str)) : Sp := fun vs H Q _ => ∃ (A : Adr) (st : LS) (l : Addr) (ws : List Str), vs = [.ref A.L, .ref l] ∧ LinesAt K C T H A st ∧ SqL K (bare A.own H) l (ws.map V.str) ∧
  (((ws.length ≠ 3 ∨ ∃ a b c : Str, ws = [a, b, c] ∧ a ≠ "path") ∧ Q (.bl false) H) ∨ ∃ p k : Str, ws = [("path" : Str), p, k] ∧ isPath p = true ∧ p.length + 2 ≤ sizeLine ∧ k ∈ kinds4 ∧ st.kinds.length < 6 ∧ p ∉ st.kinds.map (·.1) ∧ asc (st.kinds.map (·.1)) ∧
    (∀ z, (st.kinds.map (·.1)).getLast? = some z → ltS z p = true) ∧ ∀ H', LinesAt K C T H' A { st with kinds := st.kinds ++ [(p, k)] } → Frm A H H' → Q (.bl true) H')
theorem in_kinds (k : Str) : inV (.str k) [.str "word", .str "firm", .str "ours", .str "count"] = decide (k ∈ kinds4) := in_strs k kinds4
section
variable {P : Program} {w : World} {K : PySem.W.Frag} {mg : Str → Option Value} {base : Heap} {CL : Addr} {T : List (Addr × Str)}
abbrev nTakesPath : List Str := ["self", "words"]
abbrev sTakesPath : Stmt := mSt 5
theorem scTakesPath : FnScope nTakesPath ["self", "words"] (defScope sTakesPath) := ⟨rfl, rfl, rfl, by decide +kernel, rfl, by decide +kernel, by decide +kernel⟩
theorem ok_tpath (B : Free mg) (C : WConsts K mg) (LC : LinesC K CL) (D : MethOf K CL "takes_path" "Lines.takes_path" sTakesPath ["self", "words"]) (O_is_path : C8.Cal P w K mg base 2 "is_path" spPath []) : C8.Met P w K mg base 3 CL "takes_path" (spPath' K CL T) [] := by
  refine D.met scTakesPath (fun vs H Q E h => ?_) (fun f cdv A outer s H vs Q E hr h => ?_)
  · obtain ⟨A, st, l, ws, rfl, _⟩ := h
    rfl
  obtain ⟨AD, st, l, ws, rfl, hL, hl0, hcase⟩ := h
  obtain ⟨aKINDS, mKINDS, qKINDS⟩ := C.KINDS
  have hu : (A.deeper (envOfC "Lines.takes_path" (defScope sTakesPath) s.heap.objs.size f cdv)).units + 64 < cLine := by have := hr.un; omega
  have hu1 : (A.deeper (envOfC "Lines.takes_path" (defScope sTakesPath) s.heap.objs.size f cdv)).units + 1 < cLine := by omega
  refine ⟨_, (pss_cons (ps_if (pw_or (pt_cmpR op_ne (pe_callB call_len_seq (by rfl) B.len PySem.boot_len (pa_cons (pv 1) pa_nil)) pe_int (nomark _))
        (pw_or (pt_cmpR op_ne (pe_ix ix_list (pv 1) pe_int (fun _ _ => rfl)) (C8.pe_gc (by rfl) C.PATH) (nomark _))
        (pw_or (pt_not (pt_val (C8.pe_c O_is_path hr (by omega) (by rfl) (pa_cons (pe_ix ix_list (pv 1) pe_int (fun _ _ => rfl)) pa_nil))))
        (pw_or1 (pt_cmpR op_notIn_seq (pe_ix ix_list (pv 1) pe_int (fun _ _ => rfl)) (pe_glob (by rfl) mKINDS (v := .ref aKINDS) rfl) rfl))))).pt
      (pss_one (ps_ret pe_bl))
      pss_nil)
      (pss_cons (ps_if (pw_or (pt_cmpR op_eq (pe_callB call_lenD (by rfl) B.len PySem.boot_len (pa_cons (pe_fld (pv 0) (by rfl)) pa_nil)) (C8.pe_gc (by rfl) C.MOST_PATHS) (nomark _))
        (pw_or1 (pw_and (pt_cmpR (op_neDE hu) (pe_fld (pv 0) (by rfl)) pe_dnewK (nomark _))
        (pw_and1 (pt_cmpR op_le_str (pe_ix ix_list (pv 1) pe_int (fun _ _ => rfl)) (pe_callB (cr_maxK rfl) (by rfl) B.max boot_max (pa_cons (pe_fld (pv 0) (by rfl)) pa_nil)) (nomark _)))).pt)).pt
      (pss_one (ps_ret pe_bl))
      pss_nil)
      (pss_cons (ps_dput hu1 (pe_fld (pv 0) (by rfl)) (pe_ix ix_list (pv 1) pe_int (fun _ _ => rfl)) (pe_ix ix_list (pv 1) pe_int (fun _ _ => rfl)) (by rfl))
      (pss_one (ps_ret pe_bl))))), ?_⟩
  have hl := bare_sub.seq hl0
  rcases hcase with ⟨hn, k⟩ | ⟨p, kd, rfl, hp, hpl, hk4, h6, hnew, hasc, hlast, k⟩
  · refine ⟨_, rfl, l, _, rfl, .inl hl, rfl, _, rfl, ?_⟩
    rcases hn with hn | ⟨x, y, z, rfl, hn⟩
    · refine iteY (by rw [List.length_map]; rw [decide_eq_false (fun z => hn (by injection z with z; omega))]; rfl) ?_
      exact iteY rfl k
    · refine iteN rfl ?_
      refine ⟨_, rfl, l, _, _, _, rfl, rfl, hl, at0, rfl, _, rfl, ?_⟩
      refine iteY (by rw [decide_eq_false (fun z => hn (by injection z))]; rfl) ?_
      exact iteY rfl k
  · refine ⟨_, rfl, l, _, rfl, .inl hl, rfl, _, rfl, ?_⟩
    refine iteN rfl ?_
    refine ⟨_, rfl, l, _, _, _, rfl, rfl, hl, at0, rfl, _, rfl, ?_⟩
    refine iteN rfl ?_
    refine ⟨_, rfl, l, _, _, _, rfl, rfl, hl, at1, p, rfl, hpl, fun G1 s1 => ⟨_, rfl, ?_⟩⟩
    refine iteN (by rw [hp]; rfl) ?_
    refine ⟨_, rfl, l, _, _, _, rfl, rfl, s1.seq hl, at2, aKINDS, _, rfl, .inr (qKINDS _), rfl, by decide +kernel, _, rfl, ?_⟩
    refine iteN (by rw [in_kinds, decide_eq_true hk4]; rfl) ?_
    have hL1 := hL.mono s1
    obtain ⟨aR, many, refs, h1, _, _, _⟩ := hL1.obj
    refine ⟨_, rfl, AD.L, CL, AD.dx, _, _, rfl, h1, LC.cls, LC.n4, rfl, AD.aK, _, rfl, hL1.ks, rfl, _, rfl, ?_⟩
    refine iteN (by unfold kvOf; rw [List.length_map]; exact decide_eq_false (fun z => by injection z with z; omega)) ?_
    refine ⟨_, rfl, AD.L, CL, AD.dx, _, _, rfl, h1, LC.cls, LC.n4, rfl, fun e ne => ⟨AD.aK, e, _, rfl, rfl, (new_same ne) _ _ hL1.ks, upd_same, _, rfl, ?_⟩⟩
    have hL2 := hL1.mono (new_same (o := .dK []) ne)
    have s2 : Same H (upd G1 e (.dK [])) := same_tr s1 (new_same ne)
    generalize upd G1 e (.dK []) = G2 at hL2 s2
    obtain ⟨aR2, many2, refs2, h12, _, _, _⟩ := hL2.obj
    have hks := hL2.ks
    have fr : Frm AD H (upd G2 AD.aK (.dK (kvOf (st.kinds ++ [(p, kd)])))) := by
      unfold Frm
      rw [bare_upd own_aK]
      exact bare_same s2
    have kk := k _ (hL2.path (p, kd)) fr
    rw [← kv_put hnew] at kk
    have hz : (kvOf st.kinds).length < sizeLine := by unfold kvOf; rw [List.length_map]; exact Nat.lt_of_lt_of_le h6 (by decide)
    cases hg : (st.kinds.map (·.1)).getLast? with
    | none =>
      have e0 : st.kinds = [] := List.map_eq_nil_iff.mp (List.getLast?_eq_none_iff.mp hg)
      refine iteN (by rw [e0]; rfl) ?_
      refine iteN rfl ?_
      refine ⟨_, rfl, l, _, _, _, rfl, rfl, s2.seq hl, at2, _, rfl, AD.L, CL, AD.dx, _, _, rfl, h12, LC.cls, LC.n4, rfl, _, rfl, l, _, _, _, rfl, rfl, s2.seq hl, at1, AD.aK, _, rfl, DPut.k (k := Sum.inr p) hks hz, ?_⟩
      exact kk
    | some z =>
      have ne0 : st.kinds ≠ [] := fun e => by rw [e] at hg; cases hg
      refine iteY (by cases h : st.kinds with | nil => exact absurd h ne0 | cons a b => rfl) ?_
      refine ⟨_, rfl, l, _, _, _, rfl, rfl, s2.seq hl, at1, _, rfl, AD.L, CL, AD.dx, _, _, rfl, h12, LC.cls, LC.n4, rfl, AD.aK, _, st.kinds.map (·.1), z, rfl, hks, ?_, hasc, hg, p, z, rfl, rfl, _, rfl, ?_⟩
      · unfold kvOf
        rw [List.map_map, List.map_map]
        rfl
      refine iteN (by have := hlast z hg; unfold ltS at this; rw [this]; rfl) ?_
      refine ⟨_, rfl, l, _, _, _, rfl, rfl, s2.seq hl, at2, _, rfl, AD.L, CL, AD.dx, _, _, rfl, h12, LC.cls, LC.n4, rfl, _, rfl, l, _, _, _, rfl, rfl, s2.seq hl, at1, AD.aK, _, rfl, DPut.k (k := Sum.inr p) hks hz, ?_⟩
      exact kk
end
end WK
end
section
set_option Elab.async false
set_option linter.all false
set_option maxRecDepth 100000
set_option maxHeartbeats 4000000
namespace WK
open PySem L2 PyProof.Rows LamX
def spRightL (K : PySem.W.Frag) (C : Addr) (T : List (Addr × Str)) : Sp := fun vs H Q _ => ∃ (A : Adr) (st : LS) (l : Addr) (ws : List Str), vs = [.ref A.L, .ref l] ∧ LinesAt K C T H A st ∧ SqL K (bare A.own H) l (ws.map V.str) ∧
  (((ws.length ≠ 3 ∨ ∃ a b c : Str, ws = [a, b, c] ∧ a ≠ "right") ∧ Q (.bl false) H) ∨ ∃ n t : Str, ws = [("right" : Str), n, t] ∧ n ∈ st.persons ∧ isPattern t = true ∧ t.length + 2 ≤ sizeLine ∧ st.rights.length < 1000 ∧
    (∀ z, st.rights.getLast? = some z → le2 n t z.1 z.2 = false) ∧ ∀ H', LinesAt K C T H' A { st with rights := st.rights ++ [(n, t)] } → Frm A H H' → Q (.bl true) H')
theorem pair_last {α β : Type} {R : α → β → Prop} : ∀ {xs : List α} {ys : List β} {x : α}, Paired R xs ys → xs.getLast? = some x → ∃ y, ys.getLast? = some y ∧ R x y
  | _, _, _, .nil, e => by cases e
  | _, _, _, @Paired.cons _ _ _ a b as bs h t, e => by
    cases t with
    | nil => simp at e; subst e; exact ⟨b, rfl, h⟩
    | cons h2 t2 =>
      rw [List.getLast?_cons_cons] at e
      obtain ⟨y, e2, r⟩ := pair_last (.cons h2 t2) e
      exact ⟨y, by rw [List.getLast?_cons_cons]; exact e2, r⟩
section
variable {P : Program} {w : World} {K : PySem.W.Frag} {mg : Str → Option Value} {base : Heap} {CL : Addr} {T : List (Addr × Str)}
abbrev nTakesRight : List Str := ["self", "words"]
abbrev sTakesRight : Stmt := mSt 6
theorem scTakesRight : FnScope nTakesRight ["self", "words"] (defScope sTakesRight) := ⟨rfl, rfl, rfl, by decide +kernel, rfl, by decide +kernel, by decide +kernel⟩
theorem ok_tright (B : Free mg) (C : WConsts K mg) (LC : LinesC K CL) (D : MethOf K CL "takes_right" "Lines.takes_right" sTakesRight ["self", "words"]) (O_is_pattern : C8.Cal P w K mg base 3 "is_pattern" spPattern []) : C8.Met P w K mg base 4 CL "takes_right" (spRightL K CL T) [] := by
  refine D.met scTakesRight (fun vs H Q E h => ?_) (fun f cdv A outer s H vs Q E hr h => ?_)
  · obtain ⟨A, st, l, ws, rfl, _⟩ := h
    rfl
  obtain ⟨AD, st, l, ws, rfl, hL, hl0, hcase⟩ := h
  have hu : (A.deeper (envOfC "Lines.takes_right" (defScope sTakesRight) s.heap.objs.size f cdv)).units + 64 < cLine := by have := hr.un; omega
  refine ⟨_, (pss_cons (ps_if (pw_or (pt_cmpR op_ne (pe_callB call_len_seq (by rfl) B.len PySem.boot_len (pa_cons (pv 1) pa_nil)) pe_int (nomark _))
        (pw_or (pt_cmpR op_ne (pe_ix ix_list (pv 1) pe_int (fun _ _ => rfl)) (C8.pe_gc (by rfl) C.RIGHT) (nomark _))
        (pw_or (pt_cmpR op_notIn_seq (pe_ix ix_list (pv 1) pe_int (fun _ _ => rfl)) (pe_fld (pv 0) (by rfl)) rfl)
        (pw_or1 (pt_not (pt_val (C8.pe_c O_is_pattern hr (by omega) (by rfl) (pa_cons (pe_ix ix_list (pv 1) pe_int (fun _ _ => rfl)) pa_nil)))))))).pt
      (pss_one (ps_ret pe_bl))
      pss_nil)
      (pss_cons (ps_if (pw_and (pt_cmpR (op_neE hu) (pe_fld (pv 0) (by rfl)) (pe_lst pa_nil) (nomark _))
        (pw_and1 (pt_cmpR (op_le2 hu) (pe_tup (pa_cons (pe_ix ix_list (pv 1) pe_int (fun _ _ => rfl)) (pa_cons (pe_ix ix_list (pv 1) pe_int (fun _ _ => rfl)) pa_nil))) (pe_ix ix_list (pe_fld (pv 0) (by rfl)) (pe_un un_neg pe_int) (fun _ _ => rfl)) (nomark _)))).pt
      (pss_one (ps_ret pe_bl))
      pss_nil)
      (pss_cons (ps_expr (pe_bm PySem.F.plainAttrs_list PySem.F.slot_list_append PySem.F.type_list_append mt_append (pe_fld (pv 0) (by rfl)) (pa_cons (pe_tup (pa_cons (pe_ix ix_list (pv 1) pe_int (fun _ _ => rfl)) (pa_cons (pe_ix ix_list (pv 1) pe_int (fun _ _ => rfl)) pa_nil))) pa_nil)))
      (pss_one (ps_ret pe_bl))))), ?_⟩
  have hl := bare_sub.seq hl0
  rcases hcase with ⟨hn, k⟩ | ⟨n, t, rfl, hn, hp, htl, h6, hlast, k⟩
  · refine ⟨_, rfl, l, _, rfl, .inl hl, rfl, _, rfl, ?_⟩
    rcases hn with hn | ⟨x, y, z, rfl, hn⟩
    · refine iteY (by rw [List.length_map]; rw [decide_eq_false (fun z => hn (by injection z with z; omega))]; rfl) ?_
      exact iteY rfl k
    · refine iteN rfl ?_
      refine ⟨_, rfl, l, _, _, _, rfl, rfl, hl, at0, rfl, _, rfl, ?_⟩
      refine iteY (by rw [decide_eq_false (fun z => hn (by injection z))]; rfl) ?_
      exact iteY rfl k
  · obtain ⟨aR0, many0, refs0, h10, _, _, _⟩ := hL.obj
    refine ⟨_, rfl, l, _, rfl, .inl hl, rfl, _, rfl, ?_⟩
    refine iteN rfl ?_
    refine ⟨_, rfl, l, _, _, _, rfl, rfl, hl, at0, rfl, _, rfl, ?_⟩
    refine iteN rfl ?_
    refine ⟨_, rfl, l, _, _, _, rfl, rfl, hl, at1, _, rfl, AD.L, CL, AD.dx, _, _, rfl, h10, LC.cls, LC.n3, rfl, AD.aP, _, rfl, .inl (SqL.of hL.ps), rfl, flat_strs _, _, rfl, ?_⟩
    refine iteN (by rw [in_strs, decide_eq_true hn]; rfl) ?_
    refine ⟨_, rfl, l, _, _, _, rfl, rfl, hl, at2, t, rfl, htl, fun G1 s1 => ⟨_, rfl, ?_⟩⟩
    refine iteN (by rw [hp]; rfl) ?_
    have hL1 := hL.mono s1
    obtain ⟨aR, many, refs, h1, _, _, _⟩ := hL1.obj
    obtain ⟨ts1, ht1, hp1⟩ := hL1.ts
    refine ⟨_, rfl, AD.L, CL, AD.dx, _, _, rfl, h1, LC.cls, LC.n5, rfl, sz0, fun e ne => ⟨AD.aT, e, _, rfl, rfl, SqL.of ((new_same ne) _ _ ht1), SqL.of upd_same, _, rfl, ?_⟩⟩
    have hL2 := hL1.mono (new_same (o := .lst []) ne)
    have s2 : Same H (upd G1 e (.lst [])) := same_tr s1 (new_same ne)
    have ht2 := (new_same (o := .lst []) ne) _ _ ht1
    have s12 : Same G1 (upd G1 e (.lst [])) := new_same ne
    generalize upd G1 e (.lst []) = G2 at hL2 s2 ht2 s12
    have fin : ∀ G3, Same G2 G3 → Same H G3 → ∃ ts, G3 AD.aT = some (.lst ts) ∧ ts.length < sizeLine ∧ ∀ q, G3 q = none → Q (.bl true) (upd (upd G3 q (.tup [.str n, .str t])) AD.aT (.lst (ts ++ [.ref q]))) := fun G3 s3 sH => by
      have hL3 := hL2.mono s3
      obtain ⟨ts, ht, _⟩ := hL3.ts
      refine ⟨ts, ht, ?_, fun q nq => ?_⟩
      · obtain ⟨ts', ht', hp'⟩ := hL3.ts
        rw [ht] at ht'
        cases ht'
        rw [← hp'.length]
        exact Nat.lt_of_lt_of_le h6 (by decide)
      · have hL4 := hL3.mono (new_same (o := .tup [.str n, .str t]) nq)
        obtain ⟨ts', ht', hp'⟩ := hL4.ts
        have ht4 := (new_same (o := .tup [.str n, .str t]) nq) _ _ ht
        rw [ht4] at ht'
        cases ht'
        have hq : q ∉ AD.own := fun z => by
          exact hL3.live q z nq
        have pa : PairAt K (bare AD.own (upd G3 q (.tup [.str n, .str t]))) (n, t) (.ref q) := ⟨q, rfl, SqT.of (by rw [bare_ne hq]; exact upd_same)⟩
        refine k _ (hL4.right (n, t) ht4 hp' pa) ?_
        unfold Frm
        rw [bare_upd own_aT]
        exact bare_same (same_tr sH (new_same nq))
    obtain ⟨aR2, many2, refs2, h12, _, _, _⟩ := hL2.obj
    cases hg : st.rights.getLast? with
    | none =>
      have e0 : st.rights = [] := List.getLast?_eq_none_iff.mp hg
      have e1 : ts1 = [] := by
        rw [e0] at hp1
        cases hp1
        rfl
      refine iteN (by rw [e1]; rfl) ?_
      obtain ⟨ts, ht, hz, kk⟩ := fin G2 same_rf s2
      refine ⟨_, rfl, AD.L, CL, AD.dx, _, _, rfl, h12, LC.cls, LC.n5, rfl, .inl ⟨rfl, _, SqL.of ht⟩, _, rfl, l, _, _, _, rfl, rfl, s2.seq hl, at1, _, rfl, l, _, _, _, rfl, rfl, s2.seq hl, at2, sz2, fun q nq => ?_⟩
      exact ⟨AD.aT, ts, _, rfl, rfl, (new_same nq) _ _ ht, hz, kk q nq⟩
    | some z =>
      obtain ⟨v, hv, a, rfl, hq⟩ := pair_last hp1 hg
      refine iteY (by cases h : ts1 with | nil => rw [h] at hv; cases hv | cons a b => rfl) ?_
      have hqs : SqT K G2 a [.str z.1, .str z.2] := sqT_same (same_tr bare_sub s12) hq
      refine ⟨_, rfl, l, _, _, _, rfl, rfl, s2.seq hl, at1, _, rfl, l, _, _, _, rfl, rfl, s2.seq hl, at2, sz2, fun q nq => ?_⟩
      have s3 := new_same (H := G2) (o := .tup [.str n, .str t]) nq
      obtain ⟨ts, ht, hz, kk⟩ := fin _ s3 (same_tr s2 s3)
      have ets : ts = ts1 := by
        have := s3 _ _ ht2
        rw [ht] at this
        cases this
        rfl
      subst ets
      refine ⟨_, rfl, AD.L, CL, AD.dx, _, _, rfl, s3 _ _ h12, LC.cls, LC.n5, rfl, _, rfl, AD.aT, _, _, _, rfl, rfl, SqL.of ht, at_last hv, q, a, n, t, z.1, z.2, rfl, rfl, SqT.of upd_same, sqT_same s3 hqs, _, rfl, ?_⟩
      refine iteN (hlast z hg) ?_
      generalize upd G2 q (.tup [.str n, .str t]) = G3 at *
      refine ⟨_, rfl, AD.L, CL, AD.dx, _, _, rfl, s3 _ _ h12, LC.cls, LC.n5, rfl, .inl ⟨rfl, _, SqL.of ht⟩, _, rfl, l, _, _, _, rfl, rfl, (same_tr s2 s3).seq hl, at1, _, rfl, l, _, _, _, rfl, rfl, (same_tr s2 s3).seq hl, at2, sz2, fun q2 nq2 => ?_⟩
      exact ⟨AD.aT, ts, _, rfl, rfl, (new_same nq2) _ _ ht, hz, kk q2 nq2⟩
end
end WK
end
section
set_option Elab.async false
set_option linter.all false
set_option maxRecDepth 100000
set_option maxHeartbeats 4000000
namespace WK
open PySem L2 PyProof.Rows LamX
section
variable {J : It} {n : Nat} {G : Hp → Prop} {Y : Nat → Hp → V → Hp → Prop}
/-- a comprehension with a condition; f tells the plain value of turn i, or that there is none -/
theorem lc_sel (w : Walk J n G Y) {g : TG} {tt : TT} {te : TE} {vs : List Nat} {σ : L2.St} {H1 : Hp} {D : Addr} {Qd : Hp → Prop} (f : Nat → Option V) (hD : H1 D = none) (hn : n ≤ sizeLine) (hG : ∀ G1, Same H1 G1 → G G1)
    (hs : ∀ i x G1 G2 (k : VK) (kn : Hp → Prop), i < n → Same H1 G1 → Y i G1 x G2 → (∀ y H4, Same G1 H4 → f i = some y → k y H4) → (∀ H4, Same G1 H4 → f i = none → kn H4) →
      g x (wipe σ vs) G2 fun σ2 H2 => wipe σ2 vs = wipe σ vs ∧ tt σ2 H2 fun b H3 => if b = true then te σ2 H3 k else kn H3)
    (hd : ∀ G1, Same H1 G1 → G1 D = some (.lst ((List.range n).filterMap f)) → Qd G1) :
    ∃ W : Nat → Nat → Hp → Prop, (∃ m, W 0 m (upd H1 D (.lst []))) ∧ ∀ i m H, W i m H →
      (J.stop i H ∧ Qd H) ∨ (J.go i H ∧ ∃ Nx : Hp → Prop, (∀ H', Nx H' → ∃ m', m' < m ∧ W (i + 1) m' H') ∧ ∀ x H', J.yld i H x H' → g x (wipe σ vs) H' fun σ2 H2 => wipe σ2 vs = wipe σ vs ∧ tt σ2 H2 fun b H3 =>
        if b = true then te σ2 H3 fun y H4 => ∃ acc, H4 D = some (.lst acc) ∧ acc.length < sizeLine ∧ Nx (upd H4 D (.lst (acc ++ [y]))) else Nx H3) := by
  refine lc_it w (fun i K1 => Same H1 K1 ∧ K1 D = some (.lst ((List.range i).filterMap f))) ⟨new_same hD, upd_same⟩ (fun i K1 _ q => hG K1 q.1) (fun i x K1 K2 hi q y => ?_) fun K1 q => hd K1 q.1 q.2
  obtain ⟨s, h1⟩ := q
  refine hs i x K1 K2 _ _ hi s y (fun v H4 s4 e => ?_) fun H4 s4 e => ?_
  · refine ⟨_, s4 _ _ h1, ?_, fun b o z => ?_, ?_⟩
    · have : ((List.range i).filterMap f).length ≤ i := by
        have := List.length_filterMap_le f (List.range i)
        rwa [List.length_range] at this
      omega
    · rw [upd_ne (ne_of_none z hD)]
      exact s4 _ _ (s _ _ z)
    · rw [upd_same, List.range_succ, List.filterMap_append]
      simp [e]
  · refine ⟨same_tr s s4, ?_⟩
    rw [s4 _ _ h1, List.range_succ, List.filterMap_append]
    simp [e]
end
theorem range_sel {α : Type} (p : α → Option V) : ∀ (xs : List α), (List.range xs.length).filterMap (fun i => xs[i]?.bind p) = xs.filterMap p := by
  intro xs
  induction xs with
  | nil => rfl
  | cons x xs ih =>
    rw [List.length_cons, List.range_succ_eq_map, List.filterMap_cons, List.filterMap_map, List.filterMap_cons]
    have e : ((fun i => (x :: xs)[i]?.bind p) ∘ Nat.succ) = fun i => xs[i]?.bind p := by
      funext i
      simp
    rw [e, ih]
    simp
end WK
end
section
set_option Elab.async false
set_option linter.all false
set_option maxRecDepth 100000
set_option maxHeartbeats 4000000
namespace WK
open PySem L2 PyProof.Rows LamX
/-! ### a method whose code object is known -/
structure MethTab (K : PySem.W.Frag) (C : Addr) (m qual : Str) (st : Stmt) (ps : List Str) (c : Addr) : Prop where
  ex : ∃ (f : Addr) (fd : FuncData), Cls K C ∧ Meth K C m f ∧ Fun K m qual st f fd ∧ Binds K fd ps [] ∧ fd.code = .ref c
theorem MethTab.met {P : Program} {w : World} {K : PySem.W.Frag} {mg : Str → Option Value} {base : Heap} {C c : Addr} {m qual : Str} {st : Stmt} {N ps : List Str} {k : Nat} {sp : Sp} (D : MethTab K C m qual st ps c) (S : FnScope N ps (defScope st)) (len : ∀ vs H Q E, sp vs H Q E → vs.length = ps.length)
    (hbody : ∀ (f : Addr) (A : Around) (outer : List Env) (s : Shared) (H : Hp) (vs : List V) (Q : VK) (E : XK), Room k (A.deeper (envOfC qual (defScope st) s.heap.objs.size f (.ref c))) → sp vs H Q E →
      ∃ t, PSs (cxOf CX0 P w K mg base N qual (defScope st) f (.ref c) A outer s H E).nox (defBody st) t ∧ t { nx := fun _ H' => Q .non H', rt := Q } (start N vs) H) : C8.Met P w K mg base (k + 1) C m sp [] := by
  obtain ⟨f, fd, cl, me, F, b, hc⟩ := D.ex
  obtain ⟨oc, od, kV, doc, pm, an, cdv, ct, osl, rfl, lk, hcd⟩ := F.ex
  have e : cdv = .ref c := hc
  subst e
  refine ⟨f, _, ps, [], cl, me, fn_of lk hcd S len fun A outer s H vs Q E hr h => ?_, b, .nil⟩
  obtain ⟨t, ht, q⟩ := hbody f A outer s H vs Q E hr h
  exact ⟨t, ht.nox, q⟩
def rLenK (K : PySem.W.Frag) : List V → Hp → VK → Prop := fun xs H Q => ∃ p ys, xs = [V.ref p] ∧ (SqL K H p ys ∨ SqT K H p ys) ∧ Q (.int ys.length) H
theorem call_lenK {X : Cx} {K : PySem.W.Frag} (h : X.K = K) : CallR X (.builtin "len") (rLenK K) := by
  subst h
  exact call_len_seq
theorem clo_none {cells : List (Str × Addr)} : ∀ {names : List (Str × NameKind)} {acc : List (Str × Addr)}, (∀ y ∈ names, y.2 ≠ .free) → cloFrom cells names acc = acc
  | [], _, _ => rfl
  | (n, k) :: r, acc, h => by
    unfold cloFrom
    rw [if_neg (fun e => h (n, k) List.mem_cons_self (by simpa using e))]
    exact clo_none fun y hy => h y (List.mem_cons_of_mem _ hy)
theorem dflt {po ar ko : List Arg} {va kw : Option Arg} {env : Env} : defaultsOf ⟨po, ar, va, ko, [], kw, []⟩ env = ([], []) := by
  simp only [defaultsOf, evalEach, evalEachOpt]
theorem pe_lamN {X : Cx} {q0 : Str} {c P : Addr} {po ar ko : List Arg} {va kw : Option Arg} {body : Expr} {scope : Scope} {pos : Pos} (hq : X.env.qual = q0) (TB : TabB X.base X.mg c P) (hcode : X.env.code = .ref c)
    (hfr : ∀ y ∈ scope.names, y.2 ≠ .free) : PE X (.Lambda ⟨po, ar, va, ko, [], kw, []⟩ body scope pos) (tLamV [(P, q0 ++ "<lambda>")] P (q0 ++ "<lambda>") ⟨po, ar, va, ko, [], kw, []⟩ body scope) := by
  subst hq
  exact pe_lam TB hcode (List.mem_singleton.mpr rfl) (fun p hp _ => by rw [List.mem_singleton.mp hp]) hfr dflt (clo_none hfr)
theorem paired_len {α β : Type} {R : α → β → Prop} : ∀ {xs : List α} {ys : List β}, Paired R xs ys → ys.length = xs.length
  | _, _, .nil => rfl
  | _, _, .cons _ t => congrArg (· + 1) (paired_len t)
def calm (kinds : List (Str × Str)) : List Str := (kinds.filter fun p => !decide (p.2 = ("count" : Str))).map (·.1)
section
variable {K : PySem.W.Frag} {C : Addr} {T : List (Addr × Str)} {H G : Hp} {A : Adr} {st : LS}
/-- where no own place holds a tuple, tuples are to be read without them -/
theorem sqT_bare {own : List Addr} {a : Addr} {xs : List V} (hn : ∀ x ∈ own, ∀ ys, H x ≠ some (.tup ys) ∧ ∀ ob, H x ≠ some (.frz ob (.tup ys))) (q : SqT K H a xs) : SqT K (bare own H) a xs := by
  rcases q with (q | ⟨ob, q⟩) | q
  · exact .inl (.inl (by rw [bare_ne (fun m => (hn a m xs).1 q)]; exact q))
  · exact .inl (.inr ⟨ob, by rw [bare_ne (fun m => (hn a m xs).2 ob q)]; exact q⟩)
  · exact .inr q
theorem FmAt.bare {own : List Addr} (hn : ∀ x ∈ own, ∀ ys, H x ≠ some (.tup ys) ∧ ∀ ob, H x ≠ some (.frz ob (.tup ys))) : ∀ {f : Fm} {v : V}, FmAt K H f v → FmAt K (bare own H) f v
  | .non _, _, ⟨a, h1, h2⟩ => ⟨a, h1, sqT_bare hn h2⟩
  | .word _ _, _, ⟨a, h1, h2⟩ => ⟨a, h1, sqT_bare hn h2⟩
  | .like _ _, _, ⟨a, h1, h2⟩ => ⟨a, h1, sqT_bare hn h2⟩
  | .neg _, _, ⟨a, x, h1, h2, h3⟩ => ⟨a, x, h1, sqT_bare hn h2, FmAt.bare hn h3⟩
  | .bin _ _ _, _, ⟨a, x, y, h1, h2, h3, h4⟩ => ⟨a, x, y, h1, sqT_bare hn h2, FmAt.bare hn h3, FmAt.bare hn h4⟩
theorem LinesAt.untup (L : LinesAt K C T H A st) {q : Str} (hT : (A.tab, q) ∈ T) : ∀ x ∈ A.own, ∀ ys, H x ≠ some (.tup ys) ∧ ∀ ob, H x ≠ some (.frz ob (.tup ys)) := fun x hx ys => by
  obtain ⟨aR, many, refs, h1, h0, h2, h3⟩ := L.obj
  obtain ⟨ts, h4, h5⟩ := L.ts
  obtain ⟨fs, h6, h7⟩ := L.fs
  obtain ⟨ps, p1, p2, p3⟩ := L.tb _ hT
  unfold Adr.own at hx
  simp only [List.mem_cons, List.not_mem_nil, or_false] at hx
  rcases hx with rfl | rfl | rfl | rfl | rfl | rfl | rfl
  · rw [h1]; exact ⟨by simp, fun ob => by simp⟩
  · rw [L.dxo]; exact ⟨by simp, fun ob => by simp⟩
  · rw [L.ps]; exact ⟨by simp, fun ob => by simp⟩
  · rw [L.ks]; exact ⟨by simp, fun ob => by simp⟩
  · rw [h4]; exact ⟨by simp, fun ob => by simp⟩
  · rw [h6]; exact ⟨by simp, fun ob => by simp⟩
  · rw [p1]; exact ⟨by simp, fun ob => by simp⟩
/-- the table has grown -/
theorem LinesAt.tabbed (L : LinesAt K C T H A st) {q : Str} (hT : (A.tab, q) ∈ T) (s : ∀ b o, b ≠ A.tab → H b = some o → G b = some o) (t : Tabs T G) : LinesAt K C T G A st ∧ Frm A H G := by
  obtain ⟨aR, many, refs, h1, h0, h2, h3⟩ := L.obj
  obtain ⟨ts, h4, h5⟩ := L.ts
  obtain ⟨fs, h6, h7⟩ := L.fs
  have own_tab : A.tab ∈ A.own := by simp [Adr.own]
  have sb : Same (WK.bare A.own H) (WK.bare A.own G) := fun b o e => by
    by_cases hb : b ∈ A.own
    · rw [bare_in hb] at e; cases e
    · rw [bare_ne hb] at e ⊢
      exact s b o (fun z => hb (by rw [z]; exact own_tab)) e
  have ne : ∀ i x, A.own[i]? = some x → i ≠ 6 → x ≠ A.tab := fun i x hi h6 => Adr.ne L.nd hi (j := 6) rfl h6
  refine ⟨⟨⟨aR, many, refs, s _ _ (ne 0 _ rfl (by decide)) h1, h0, sb.seq h2, Paired.imp (fun _ _ => WordsAt.mono sb) h3⟩, s _ _ (ne 2 _ rfl (by decide)) L.ps, s _ _ (ne 3 _ rfl (by decide)) L.ks, ⟨ts, s _ _ (ne 4 _ rfl (by decide)) h4, Paired.imp (fun _ _ => PairAt.mono sb) h5⟩, ⟨fs, s _ _ (ne 5 _ rfl (by decide)) h6, Paired.imp (fun _ _ => FmAt.mono sb) h7⟩, L.nd, fun x hx e => ?_, t, s _ _ (ne 1 _ rfl (by decide)) L.dxo⟩, sb⟩
  by_cases hx6 : x = A.tab
  · obtain ⟨ps, p1, _⟩ := t _ hT
    rw [hx6, p1] at e
    cases e
  · cases hh : H x with
    | none => exact L.live x hx hh
    | some o => rw [s x o hx6 hh] at e; cases e
/-- another formula is held -/
theorem LinesAt.form (L : LinesAt K C T H A st) (f : Fm) {fs : List V} {v : V} (hf : H A.aF = some (.lst fs)) (hp : Paired (FmAt K (WK.bare A.own H)) st.forms fs) (hv : FmAt K (WK.bare A.own H) f v) : LinesAt K C T (upd H A.aF (.lst (fs ++ [v]))) A { st with forms := st.forms ++ [f] } := by
  obtain ⟨aR, many, refs, h1, h0, h2, h3⟩ := L.obj
  obtain ⟨ts, h4, h5⟩ := L.ts
  have e := bare_upd (H := H) (o := .lst (fs ++ [v])) (own_aF (A := A))
  refine ⟨⟨aR, many, refs, ?_, h0, by rw [e]; exact h2, by rw [e]; exact h3⟩, ?_, ?_, ⟨ts, ?_, by rw [e]; exact h5⟩, ⟨_, upd_same, by rw [e]; exact Paired.snoc hv hp⟩, L.nd, fun x hx => upd_live (L.live x hx), tabs_over hf (fun _ z => by cases z) (fun _ _ => lst_code) L.tb, by rw [upd_ne (Adr.ne L.nd (i := 1) (j := 5) rfl rfl (by decide))]; exact L.dxo⟩
  · rw [upd_ne (Adr.ne L.nd (i := 0) (j := 5) rfl rfl (by decide))]; exact h1
  · rw [upd_ne (Adr.ne L.nd (i := 2) (j := 5) rfl rfl (by decide))]; exact L.ps
  · rw [upd_ne (Adr.ne L.nd (i := 3) (j := 5) rfl rfl (by decide))]; exact L.ks
  · rw [upd_ne (Adr.ne L.nd (i := 4) (j := 5) rfl rfl (by decide))]; exact h4
end
theorem calm_sel (kinds : List (Str × Str)) : (kvOf kinds).filterMap (fun kv => if (!decide (kv.2 = V.str "count")) = true then some (kV kv.1) else none) = (calm kinds).map V.str := by
  unfold kvOf calm
  induction kinds with
  | nil => rfl
  | cons p r ih =>
    rw [List.map_cons, List.filterMap_cons, List.filter_cons]
    by_cases h : p.2 = ("count" : Str)
    · simp [h] at ih ⊢
      exact ih
    · simp [h] at ih ⊢
      exact ⟨rfl, ih⟩
/-- the worth of an atom where nothing stands -/
def val0 : Fm → Bool
  | .non _ => true
  | .like _ _ => true
  | _ => false
def lamQ0 : Str := ("Lines.takes_rule" : Str) ++ (".<locals>." : Str)
abbrev lamQ : Str := lamQ0 ++ ("<lambda>" : Str)
abbrev nTakesRule : List Str := ["self", "words", "found", "path", "kind", "many", "formula"]
abbrev sTakesRule : Stmt := mSt 7
section
variable {P : Program} {w : World} {K : PySem.W.Frag} {mg : Str → Option Value} {base : Heap} {CL : Addr} {c tab : Addr}
theorem scTakesRule : FnScope nTakesRule ["self", "words"] (defScope sTakesRule) := ⟨rfl, rfl, rfl, by decide +kernel, rfl, by decide +kernel, by decide +kernel⟩
def spRule (K : PySem.W.Frag) (C tab : Addr) (m : Nat) : Sp := fun vs H Q _ => ∃ (A : Adr) (st : LS) (l : Addr) (ws : List Str) (F : Fm), vs = [.ref A.L, .ref l] ∧ A.tab = tab ∧ LinesAt K C [(tab, lamQ)] H A st ∧ SqL K (bare A.own H) l (ws.map V.str) ∧
  ws = ("rule" : Str) :: ones F false ∧ ws.length ≤ 41 ∧ (∀ z ∈ ws, okW z) ∧ OkF (calm st.kinds) F ∧ parts F m ∧ ht F ≤ m + 1 ∧ st.kinds.length ≤ 6 ∧ st.forms.length < 3 ∧ (∀ f ∈ st.forms, ht f ≤ m + 1) ∧ (st.forms.map nat).sum + nat F ≤ 4 ∧ tr val0 F = true ∧
  ∀ H', LinesAt K C [(tab, lamQ)] H' A { st with forms := st.forms ++ [F] } → Frm A H H' → Q (.bl true) H'
def lamParts : Arguments × Expr × Scope := match (defBody sTakesRule).getD 4 (.Pass ⟨0, 0, 0, 0⟩) with
  | .If (.BoolOp _ [_, .UnaryOp _ (.Call _ [_, .Lambda p b s _] _ _) _] _) _ _ _ => (p, b, s)
  | _ => (⟨[], [], none, [], [], none, []⟩, .Constant .none 0 ⟨0, 0, 0, 0⟩, ⟨.function, [], false, false, []⟩)
theorem scLam : FnScope ["atom"] ["atom"] lamParts.2.2 := ⟨rfl, rfl, rfl, by decide +kernel, rfl, by decide +kernel, by decide +kernel⟩
theorem ix_tupK {X : Cx} {K : PySem.W.Frag} (h : X.K = K) : IxR X (rIxT K) := by
  subst h
  exact ix_tup
theorem op_in_seqK {X : Cx} {K : PySem.W.Frag} (h : X.K = K) : OpR X (compareOp .In) (rIn K false) := by
  subst h
  exact op_in_seq
theorem lam_ok (C : WConsts K mg) {f c1 : Addr} : ∃ spA, AskOk P w K mg base 1 f (fun H => H f = some (LamO f lamQ lamParts.1 lamParts.2.1 lamParts.2.2 c1) ∧ H c1 = some (CodeO c1 lamQ)) spA ∧
    AskSp K (fun H => H f = some (LamO f lamQ lamParts.1 lamParts.2.1 lamParts.2.2 c1) ∧ H c1 = some (CodeO c1 lamQ)) spA val0 (fun _ => True) := by
  refine ⟨_, lam_ask (k := 0) scLam (fun pm cv ctv u => by rfl) (fun cdv A outer s H hr => pe_cmpR (op_in_seqK (K := K) rfl) (pe_ix (ix_tupK (K := K) rfl) (pv 0) pe_int (fun _ _ => rfl)) (pe_tup (pa_cons (C8.pe_gc (by rfl) C.NONE) (pa_cons (C8.pe_gc (by rfl) C.LIKE) pa_nil))) rfl), ?_, ?_⟩
  · exact fun H H' s h => ⟨s _ _ h.1, s _ _ h.2⟩
  · intro v fm H Q hh hA _ hf k
    cases fm with
    | neg f => cases hA
    | bin o f g => cases hA
    | non p =>
      obtain ⟨a, rfl, q⟩ := hf
      refine ⟨_, rfl, a, _, _, _, rfl, rfl, q, at0, sz2, fun u nu => ⟨u, _, rfl, .inr (SqT.of upd_same), rfl, rfl, ?_⟩⟩
      exact k _ (new_same nu)
    | word p z =>
      obtain ⟨a, rfl, q⟩ := hf
      refine ⟨_, rfl, a, _, _, _, rfl, rfl, q, at0, sz2, fun u nu => ⟨u, _, rfl, .inr (SqT.of upd_same), rfl, rfl, ?_⟩⟩
      exact k _ (new_same nu)
    | like p z =>
      obtain ⟨a, rfl, q⟩ := hf
      refine ⟨_, rfl, a, _, _, _, rfl, rfl, q, at0, sz2, fun u nu => ⟨u, _, rfl, .inr (SqT.of upd_same), rfl, rfl, ?_⟩⟩
      exact k _ (new_same nu)
theorem sum_nat (fs : List Fm) : (fs.map fun f => (nat f : Int)).sum = ((fs.map nat).sum : Nat) := by
  induction fs with
  | nil => rfl
  | cons f r ih => rw [List.map_cons, List.sum_cons, ih, List.map_cons, List.sum_cons]; omega
theorem okAll_true : ∀ f : Fm, okAll (fun _ => True) f
  | .neg f => okAll_true f
  | .bin _ f g => ⟨okAll_true f, okAll_true g⟩
  | .non _ => trivial
  | .word _ _ => trivial
  | .like _ _ => trivial
theorem ok_rule {m j : Nat} (B : Free mg) (C : WConsts K mg) (LC : LinesC K CL) (TB : TabB base mg c tab) (D : MethTab K CL "takes_rule" "Lines.takes_rule" sTakesRule ["self", "words"] c) (hj : j = 1)
    (O_formula_in : C8.Cal P w K mg base (kOne m + 5) "formula_in" (spS K (SForm m)) []) (O_atoms_of : C8.Cal P w K mg base (m + 2) "atoms_of" (spAtoms K (m + 1)) []) (O_worth : C8.Cal P w K mg base (j + (m + 1) + 1) "worth" (spWorth P w K mg base j val0 (fun _ => True) (m + 1)) []) :
    C8.Met P w K mg base (kOne m + 6) CL "takes_rule" (spRule K CL tab m) [] := by
  have hk1 : m + 2 ≤ kOne m + 5 := by unfold kOne; omega
  have hk2 : j + (m + 1) + 1 ≤ kOne m + 5 := by unfold kOne; omega
  refine D.met scTakesRule (fun vs H Q E h => ?_) (fun f A outer s H vs Q E hr h => ?_)
  · obtain ⟨A, st, l, ws, F, rfl, _⟩ := h
    rfl
  obtain ⟨AD, st, l, ws, F, rfl, htab, hL, hl0, hws, hlen, hok, hF, hparts, hht, h6, h3, hhts, hsum, htr, k⟩ := h
  have hu : (A.deeper (envOfC "Lines.takes_rule" (defScope sTakesRule) s.heap.objs.size f (.ref c))).units + 64 < cLine := by have := hr.un; omega
  refine ⟨_, (pss_cons (ps_if (pw_or (pt_cmpR op_gt (pe_op op_sub (pe_callB call_len_seq (by rfl) B.len PySem.boot_len (pa_cons (pv 1) pa_nil)) pe_int) (C8.pe_gc (by rfl) C.MOST_WORDS) (nomark _))
        (pw_or (pt_cmpR op_ne (pe_ix ix_list (pv 1) pe_int (fun _ _ => rfl)) (C8.pe_gc (by rfl) C.RULE) (nomark _))
        (pw_or1 (pt_cmpR op_eq (pe_callB call_len_seq (by rfl) B.len PySem.boot_len (pa_cons (pe_fld (pv 0) (by rfl)) pa_nil)) (C8.pe_gc (by rfl) C.MOST_RULES) (nomark _))))).pt
      (pss_one (ps_ret pe_bl))
      pss_nil)
      (pss_cons (ps_set (i := 2) scTakesRule.nd rfl (Or.inl rfl) (C8.pe_c O_formula_in hr (by omega) (by rfl) (pa_cons (pe_slice sl_list (pv 1) (po_some pe_int) po_none) (pa_cons (pe_lock (pe_lc (own := [("path", 3), ("kind", 4)]) (g := gTup K 2 (gCons (gName 3) (gCons (gName 4) gNil))) rfl scTakesRule.nd (pi_items (pe_fld (pv 0) (by rfl)))
        (blkOk_by (N := nTakesRule) (sc := defScope sTakesRule) (by decide +kernel)) (fun _ _ _ _ _ => pg_tup rfl (pgs_cons (pg_name (i := 3) scTakesRule.nd rfl (Or.inl rfl)) (pgs_cons (pg_name (i := 4) scTakesRule.nd rfl (Or.inl rfl)) pgs_nil))) (fun _ _ _ _ _ => (pts_one (pt_cmpR op_ne (pv 4) (C8.pe_gc (by rfl) C.COUNT) (nomark _))))
        (fun _ _ _ _ _ => (pv 3)))) pa_nil))))
      (pss_cons (ps_if (pw_or (pt_cmpR op_isN (pv 2) pe_non (nomark _))
        (pw_or1 (pt_cmpR (op_neE hu) (pe_ix ix_tup (pv 2) pe_int (fun _ _ => rfl)) (pe_lst pa_nil) (nomark _)))).pt
      (pss_one (ps_ret pe_bl))
      pss_nil)
      (pss_cons (ps_set (i := 5) scTakesRule.nd rfl (Or.inl rfl) (pe_op op_add (pe_callB (cr_sum rfl) (by rfl) B.sum (by decide +kernel) (pa_cons (pe_lc (own := [("formula", 6)]) (g := gName 6) (tt := tYes) rfl scTakesRule.nd (pi_list (pe_fld (pv 0) (by rfl)))
        (blkOk_by (N := nTakesRule) (sc := defScope sTakesRule) (by decide +kernel)) (fun _ _ _ _ _ => pg_name (i := 6) scTakesRule.nd rfl (Or.inl rfl)) (fun _ _ _ _ _ => pts_nil)
        (fun _ _ _ _ _ => (pe_callB (call_lenK (K := K) rfl) (by rfl) B.len PySem.boot_len (pa_cons (C8.pe_c O_atoms_of hr hk1 (by rfl) (pa_cons (pv 6) pa_nil)) pa_nil)))) pa_nil)) (pe_callB call_len_seq (by rfl) B.len PySem.boot_len (pa_cons (C8.pe_c O_atoms_of hr hk1 (by rfl) (pa_cons (pe_ix ix_tup (pv 2) pe_int (fun _ _ => rfl)) pa_nil)) pa_nil))))
      (pss_cons (ps_if (pw_or (pt_cmpR op_gt (pv 5) (C8.pe_gc (by rfl) C.MOST_ATOMS) (nomark _))
        (pw_or1 (pt_not (pt_val (C8.pe_c O_worth hr hk2 (by rfl) (pa_cons (pe_ix ix_tup (pv 2) pe_int (fun _ _ => rfl)) (pa_cons (pe_lamN (q0 := lamQ0) rfl TB rfl (by decide +kernel)) pa_nil))))))).pt
      (pss_one (ps_ret pe_bl))
      pss_nil)
      (pss_cons (ps_expr (pe_bm PySem.F.plainAttrs_list PySem.F.slot_list_append PySem.F.type_list_append mt_append (pe_fld (pv 0) (by rfl)) (pa_cons (pe_ix ix_tup (pv 2) pe_int (fun _ _ => rfl)) pa_nil)))
      (pss_one (ps_ret pe_bl)))))))), ?_⟩
  subst hws
  have hl := bare_sub.seq hl0
  obtain ⟨aR, many, refs, h1, _, _, _⟩ := hL.obj
  obtain ⟨fs, hf1, hf2⟩ := hL.fs
  have hfl : fs.length = st.forms.length := paired_len hf2
  have hTin : (AD.tab, lamQ) ∈ [(tab, lamQ)] := by rw [htab]; exact List.mem_singleton.mpr rfl
  refine ⟨_, rfl, l, _, rfl, .inl hl, _, _, rfl, rfl, _, _, rfl, rfl, _, rfl, ?_⟩
  refine iteN (decide_eq_false (by rw [List.length_map]; omega)) ?_
  refine ⟨_, rfl, l, _, _, _, rfl, rfl, hl, at0, rfl, _, rfl, ?_⟩
  refine iteN rfl ?_
  refine ⟨_, rfl, AD.L, CL, AD.dx, _, _, rfl, h1, LC.cls, LC.n6, rfl, AD.aF, _, rfl, .inl (SqL.of hf1), rfl, _, rfl, ?_⟩
  refine iteN (by rw [hfl]; exact decide_eq_false (fun z => by injection z with z; omega)) ?_
  refine ⟨_, rfl, _, rfl, l, _, rfl, hl, fun l2 n2 => ?_⟩
  rw [cut_tl1]
  have s2 : Same H (upd H l2 (.lst ((ones F false).map V.str))) := new_same n2
  have q2 : SqL K (upd H l2 (.lst ((ones F false).map V.str))) l2 ((ones F false).map V.str) := SqL.of upd_same
  change tCons _ _ _ (upd H l2 (.lst ((ones F false).map V.str))) _
  generalize upd H l2 (.lst ((ones F false).map V.str)) = G2 at s2 q2
  have hL2 := hL.mono s2
  refine ⟨AD.aK, _, hL2.ks, trivial, fun od => ?_⟩
  have h1' : (upd G2 AD.aK (.frz od (.dK (kvOf st.kinds)))) AD.L = some (.ins CL AD.dx (flds aR many AD)) := by
    rw [upd_ne (Adr.ne hL.nd (i := 0) (j := 3) rfl rfl (by decide))]
    exact s2 _ _ h1
  refine ⟨_, rfl, AD.L, CL, AD.dx, _, _, rfl, h1', LC.cls, LC.n4, rfl, AD.aK, od, kvOf st.kinds, rfl, upd_same, fun D hD => lc_sel walk_items (fun i => (kvOf st.kinds)[i]?.bind fun kv => if (!decide (kv.2 = V.str "count")) = true then some (kV kv.1) else none) hD ?_ (fun G1 s1 => s1 _ _ upd_same) ?_ ?_⟩
  · unfold kvOf
    rw [List.length_map]
    exact Nat.le_trans h6 (by decide)
  · rintro i x G1 G2 kk kn hi s1 ⟨T, x', y', rfl, hT, rfl, hx, hy⟩ ky kN
    have eg : (kvOf st.kinds)[i]? = st.kinds[i]?.map fun p => (Sum.inr p.1, V.str p.2) := by unfold kvOf; rw [List.getElem?_map]
    change (kvOf st.kinds)[i]?.map _ = _ at hx
    change (kvOf st.kinds)[i]?.map _ = _ at hy
    rw [eg] at hx hy
    cases e : st.kinds[i]? with
    | none => rw [e] at hx; cases hx
    | some pk =>
      rw [e] at hx hy
      cases hx
      cases hy
      have ef : ((kvOf st.kinds)[i]?.bind fun kv => if (!decide (kv.2 = V.str "count")) = true then some (kV kv.1) else none) = if (!decide (V.str pk.2 = V.str "count")) = true then some (V.str pk.1) else none := by
        rw [eg, e]
        rfl
      rw [ef] at ky kN
      refine ⟨T, _, rfl, SqT.of upd_same, rfl, _, _, rfl, _, _, rfl, rfl, rfl, _, rfl, rfl, _, rfl, ?_⟩
      refine ite2 (fun h => ?_) (fun h => ?_)
      · refine ⟨_, rfl, ky _ _ (new_same hT) ?_⟩
        rw [if_pos h]
        rfl
      · refine kN _ (new_same hT) ?_
        rw [if_neg h]
  · intro G3 s3 g3
    rw [range_sel, calm_sel] at g3
    refine ⟨s3 _ _ upd_same, ?_⟩
    have nD : D ≠ AD.aK := fun z => by
      rw [z, upd_same] at hD
      cases hD
    have s4 : Same G2 (upd G3 AD.aK (.dK (kvOf st.kinds))) := fun b o e => by
      by_cases hb : b = AD.aK
      · rw [hb, upd_same, ← e, hb]
        exact hL2.ks.symm
      · rw [upd_ne hb]
        exact s3 _ _ (by rw [upd_ne hb]; exact e)
    have g4 : (upd G3 AD.aK (.dK (kvOf st.kinds))) D = some (.lst ((calm st.kinds).map V.str)) := by rw [upd_ne nD]; exact g3
    generalize upd G3 AD.aK (.dK (kvOf st.kinds)) = G4 at s4 g4
    have ok1 : ∀ z ∈ ones F false, okW z := fun z hz => hok z (List.mem_cons_of_mem _ hz)
    have hform := form_of (m := m) (rest := []) hF hparts (by intro z; cases z) (by intro z; cases z)
    rw [List.append_nil] at hform
    refine ⟨l2, D, ones F false, calm st.kinds, [], F, rfl, s4.seq q2, SqL.of g4, ok1, hform, fun v G5 s5 r5 => ?_⟩
    obtain ⟨t5, x5, l5, rfl, a1, a2, a3⟩ := r5
    have sH5 : Same H G5 := same_tr (same_tr s2 s4) s5
    refine ⟨_, rfl, rfl, _, rfl, ?_⟩
    refine iteN ref_non ?_
    refine ⟨_, rfl, t5, _, _, _, rfl, rfl, a1, at1, sz0, fun e ne => ⟨l5, e, _, rfl, rfl, (new_same ne).seq a3, SqL.of upd_same, _, rfl, ?_⟩⟩
    refine iteN rfl ?_
    have s6 : Same G5 (upd G5 e (.lst [])) := new_same ne
    generalize upd G5 e (.lst []) = G6 at s6
    have sH6 := same_tr sH5 s6
    refine ⟨_, rfl, AD.L, CL, AD.dx, _, _, rfl, sH6 _ _ h1, LC.cls, LC.n6, rfl, AD.aF, rfl, ⟨_, SqL.of (sH6 _ _ hf1)⟩, fun D2 hD2 => lc_vals (walk_list (K := K) (a := AD.aF) (xs := fs)) ((st.forms.map fun f => (nat f : Int)).map V.int) (by simp [hfl]) hD2 ?_ (fun G1 s1 => SqL.of (s1 _ _ (sH6 _ _ hf1))) ?_ ?_⟩
    · rw [hfl]
      exact Nat.le_trans (Nat.le_of_lt h3) (by decide)
    · rintro i x G7 G8 kk hi s7 ⟨rfl, hx⟩ q
      obtain ⟨fm, e1, e2⟩ := pair_get hf2 hx
      have hm : fm ∈ st.forms := List.mem_of_getElem? e1
      refine ⟨rfl, _, rfl, x, fm, rfl, FmAt.mono (same_tr bare_sub (same_tr sH6 s7)) e2, hhts _ hm, ?_, fun L H' xs s8 n8 g8 l8 => ⟨L, _, rfl, .inl (SqL.of g8), q _ _ s8 ?_⟩⟩
      · have := le_sum (f := nat) hm
        omega
      · rw [l8, List.getElem?_map, List.getElem?_map, e1]
        rfl
    · intro G7 s7 g7
      have sH7 := same_tr sH6 s7
      have s57 := same_tr s6 s7
      refine ⟨D2, _, rfl, SqL.of g7, ?_⟩
      refine ⟨_, rfl, t5, _, _, _, rfl, rfl, sqT_same s57 a1, at0, x5, F, rfl, FmAt.mono s57 a2, hht, by omega, fun L G8 xs s8 n8 g8 l8 => ⟨L, _, rfl, .inl (SqL.of g8), _, _, rfl, rfl, ?_⟩⟩
      have sH8 := same_tr sH7 s8
      have s58 := same_tr s57 s8
      refine ⟨_, rfl, _, _, rfl, rfl, _, rfl, ?_⟩
      refine iteN (decide_eq_false ?_) ?_
      · rw [l8, sum_nat]
        omega
      have hL8 := hL.mono sH8
      refine ⟨_, rfl, t5, _, _, _, rfl, rfl, sqT_same s58 a1, at0, hL8.tb, fun f0 c0 G9 s9 t9 n9 g9 => ?_⟩
      obtain ⟨hL9, fr9⟩ := hL8.tabbed hTin (fun b o hb e => s9 b o (by rw [← htab]; exact hb) e) t9
      obtain ⟨spA, ask1, ask2⟩ := lam_ok (P := P) (w := w) (K := K) (mg := mg) (base := base) C (f := f0) (c1 := c0)
      have hx8 : FmAt K (WK.bare AD.own G8) F x5 := FmAt.bare (hL8.untup hTin) (FmAt.mono s58 a2)
      have hq9 : SqT K (WK.bare AD.own G9) t5 [x5, .ref l5] := sqT_same fr9 (sqT_bare (hL8.untup hTin) (sqT_same s58 a1))
      have hx9 : FmAt K (WK.bare AD.own G9) F x5 := FmAt.mono fr9 hx8
      have s10 : Same G9 (upd G9 f0 (LamO f0 lamQ lamParts.1 lamParts.2.1 lamParts.2.2 c0)) := new_same n9
      subst hj
      refine ⟨f0, _, spA, x5, F, ask1, ask2, rfl, ⟨upd_same, s10 _ _ g9⟩, FmAt.mono (same_tr bare_sub s10) hx9, okAll_true F, hht, fun G11 s11 => ?_⟩
      have s911 := same_tr s10 s11
      rw [htr]
      refine ⟨_, rfl, ?_⟩
      refine iteN rfl ?_
      have hL11 := hL9.mono s911
      have fr11 : Frm AD H G11 := same_tr (same_tr (bare_same sH8) fr9) (bare_same s911)
      obtain ⟨aR2, many2, refs2, h12, _, _, _⟩ := hL11.obj
      obtain ⟨fs2, hg1, hg2⟩ := hL11.fs
      have hx11 : FmAt K (WK.bare AD.own G11) F x5 := FmAt.mono (bare_same s911) hx9
      have hfl2 : fs2.length = st.forms.length := paired_len hg2
      have fr12 : Frm AD H (upd G11 AD.aF (.lst (fs2 ++ [x5]))) := by
        unfold Frm
        rw [bare_upd own_aF]
        exact fr11
      refine ⟨_, rfl, AD.L, CL, AD.dx, _, _, rfl, h12, LC.cls, LC.n6, rfl, .inl ⟨rfl, _, SqL.of hg1⟩, _, rfl, t5, _, _, _, rfl, rfl, sqT_same (same_tr bare_sub s911) hq9, at0, AD.aF, _, _, rfl, rfl, hg1, ?_, ?_⟩
      · rw [hfl2]
        exact Nat.lt_of_lt_of_le h3 (by decide)
      · exact k _ (hL11.form F hg1 hg2 hx11) fr12
end
end WK
end
section
set_option Elab.async false
set_option linter.all false
set_option maxRecDepth 100000
set_option maxHeartbeats 4000000
namespace WK
open PySem L2 PyProof.Rows LamX
/-! ### takes -/
inductive Srt where
  | person | path | right | rule
def Srt.s : Srt → Str
  | .person => "person"
  | .path => "path"
  | .right => "right"
  | .rule => "rule"
/-- a line of some words is refused (none) or taken -/
def Step (m : Nat) : Srt → LS → List Str → Option LS → Prop
  | .person, st, ws, none => ws.length ≠ 2
  | .person, st, ws, some st' => ∃ p : Str, ws = [("person" : Str), p] ∧ isName p = true ∧ p ≠ "house" ∧ st.persons.length < 3 ∧ (∀ z, st.persons.getLast? = some z → ltS z p = true) ∧ st' = { st with persons := st.persons ++ [p] }
  | .path, st, ws, none => ws.length ≠ 3 ∨ ∃ a b c : Str, ws = [a, b, c] ∧ a ≠ "path"
  | .path, st, ws, some st' => ∃ p k : Str, ws = [("path" : Str), p, k] ∧ isPath p = true ∧ p.length + 2 ≤ sizeLine ∧ k ∈ kinds4 ∧ st.kinds.length < 6 ∧ p ∉ st.kinds.map (·.1) ∧ asc (st.kinds.map (·.1)) ∧
      (∀ z, (st.kinds.map (·.1)).getLast? = some z → ltS z p = true) ∧ st' = { st with kinds := st.kinds ++ [(p, k)] }
  | .right, st, ws, none => ws.length ≠ 3 ∨ ∃ a b c : Str, ws = [a, b, c] ∧ a ≠ "right"
  | .right, st, ws, some st' => ∃ n t : Str, ws = [("right" : Str), n, t] ∧ n ∈ st.persons ∧ isPattern t = true ∧ t.length + 2 ≤ sizeLine ∧ st.rights.length < 1000 ∧
      (∀ z, st.rights.getLast? = some z → le2 n t z.1 z.2 = false) ∧ st' = { st with rights := st.rights ++ [(n, t)] }
  | .rule, st, ws, none => False
  | .rule, st, ws, some st' => ∃ F : Fm, ws = ("rule" : Str) :: ones F false ∧ ws.length ≤ 41 ∧ (∀ z ∈ ws, okW z) ∧ OkF (calm st.kinds) F ∧ parts F m ∧ ht F ≤ m + 1 ∧ st.kinds.length ≤ 6 ∧ st.forms.length < 3 ∧ (∀ f ∈ st.forms, ht f ≤ m + 1) ∧ (st.forms.map nat).sum + nat F ≤ 4 ∧ tr val0 F = true ∧
      st' = { st with forms := st.forms ++ [F] }
theorem Step.rest {m : Nat} {s : Srt} {st st' : LS} {ws : List Str} (h : Step m s st ws (some st')) : st'.rest = st.rest := by
  cases s with
  | person => obtain ⟨p, _, _, _, _, _, rfl⟩ := h; rfl
  | path => obtain ⟨p, k, _, _, _, _, _, _, _, _, rfl⟩ := h; rfl
  | right => obtain ⟨p, k, _, _, _, _, _, _, rfl⟩ := h; rfl
  | rule => obtain ⟨F, _, _, _, _, _, _, _, _, _, _, _, rfl⟩ := h; rfl
def spTakes (K : PySem.W.Frag) (C tab : Addr) (m : Nat) : Sp := fun vs H Q _ => ∃ (A : Adr) (st : LS) (l : Addr) (ws : List Str) (so : Srt) (r : Option LS), vs = [.ref A.L, .str so.s, .ref l] ∧ A.tab = tab ∧ LinesAt K C [(tab, lamQ)] H A st ∧ SqL K (bare A.own H) l (ws.map V.str) ∧ Step m so st ws r ∧
  match r with
  | none => Q (.bl false) H
  | some st' => ∀ H', LinesAt K C [(tab, lamQ)] H' A st' → Frm A H H' → Q (.bl true) H'
abbrev nTakes : List Str := ["self", "sort", "words"]
abbrev sTakes : Stmt := mSt 3
section
variable {P : Program} {w : World} {K : PySem.W.Frag} {mg : Str → Option Value} {base : Heap} {CL : Addr} {tab : Addr}
theorem scTakes : FnScope nTakes ["self", "sort", "words"] (defScope sTakes) := ⟨rfl, rfl, rfl, by decide +kernel, rfl, by decide +kernel, by decide +kernel⟩
theorem ok_takes {m : Nat} (C : WConsts K mg) (D : MethOf K CL "takes" "Lines.takes" sTakes ["self", "sort", "words"]) (O_takes_person : C8.Met P w K mg base 2 CL "takes_person" (spPerson K CL [(tab, lamQ)]) []) (O_takes_path : C8.Met P w K mg base 3 CL "takes_path" (spPath' K CL [(tab, lamQ)]) []) (O_takes_right : C8.Met P w K mg base 4 CL "takes_right" (spRightL K CL [(tab, lamQ)]) [])
    (O_takes_rule : C8.Met P w K mg base (kOne m + 6) CL "takes_rule" (spRule K CL tab m) []) : C8.Met P w K mg base (kOne m + 7) CL "takes" (spTakes K CL tab m) [] := by
  refine D.met scTakes (fun vs H Q E h => ?_) (fun f cdv A outer s H vs Q E hr h => ?_)
  · obtain ⟨A, st, l, ws, so, r, rfl, _⟩ := h
    rfl
  obtain ⟨AD, st, l, ws, so, r, rfl, htab, hL, hl0, hstep, k⟩ := h
  refine ⟨_, (pss_cons (ps_if (pt_cmpR op_eq (pv 1) (C8.pe_gc (by rfl) C.PERSON) (nomark _))
      (pss_one (ps_ret (C8.pe_mt O_takes_person hr (by omega) (pv 0) (pa_cons (pv 2) pa_nil))))
      pss_nil)
      (pss_cons (ps_if (pt_cmpR op_eq (pv 1) (C8.pe_gc (by rfl) C.PATH) (nomark _))
      (pss_one (ps_ret (C8.pe_mt O_takes_path hr (by omega) (pv 0) (pa_cons (pv 2) pa_nil))))
      pss_nil)
      (pss_one (ps_ret (pe_ifExp (pt_cmpR op_eq (pv 1) (C8.pe_gc (by rfl) C.RIGHT) (nomark _)) (C8.pe_mt O_takes_right hr (by omega) (pv 0) (pa_cons (pv 2) pa_nil)) (C8.pe_mt O_takes_rule hr (by omega) (pv 0) (pa_cons (pv 2) pa_nil))))))), ?_⟩
  obtain ⟨aR, many, refs, h1, _, _, _⟩ := hL.obj
  refine ⟨_, rfl, rfl, _, rfl, ?_⟩
  cases so with
  | person =>
    refine iteY (by decide +kernel) ?_
    refine ⟨_, rfl, AD.L, AD.dx, _, rfl, h1, by rfl, _, rfl, AD, st, l, ws, rfl, hL, hl0, ?_⟩
    cases r with
    | none => exact .inl ⟨hstep, k⟩
    | some st' =>
      obtain ⟨p, e1, e2, e3, e4, e5, rfl⟩ := hstep
      exact .inr ⟨p, e1, e2, e3, e4, e5, k⟩
  | path =>
    refine iteN (by decide +kernel) ?_
    refine ⟨_, rfl, rfl, _, rfl, ?_⟩
    refine iteY (by decide +kernel) ?_
    refine ⟨_, rfl, AD.L, AD.dx, _, rfl, h1, by rfl, _, rfl, AD, st, l, ws, rfl, hL, hl0, ?_⟩
    cases r with
    | none => exact .inl ⟨hstep, k⟩
    | some st' =>
      obtain ⟨p, kd, e1, e2, e3, e4, e5, e6, e7, e8, rfl⟩ := hstep
      exact .inr ⟨p, kd, e1, e2, e3, e4, e5, e6, e7, e8, k⟩
  | right =>
    refine iteN (by decide +kernel) ?_
    refine ⟨_, rfl, rfl, _, rfl, ?_⟩
    refine iteN (by decide +kernel) ?_
    refine ⟨_, rfl, rfl, _, rfl, ?_⟩
    refine iteY (by decide +kernel) ?_
    refine ⟨_, rfl, AD.L, AD.dx, _, rfl, h1, by rfl, _, rfl, AD, st, l, ws, rfl, hL, hl0, ?_⟩
    cases r with
    | none => exact .inl ⟨hstep, k⟩
    | some st' =>
      obtain ⟨p, kd, e1, e2, e3, e4, e5, e6, rfl⟩ := hstep
      exact .inr ⟨p, kd, e1, e2, e3, e4, e5, e6, k⟩
  | rule =>
    refine iteN (by decide +kernel) ?_
    refine ⟨_, rfl, rfl, _, rfl, ?_⟩
    refine iteN (by decide +kernel) ?_
    refine ⟨_, rfl, rfl, _, rfl, ?_⟩
    refine iteN (by decide +kernel) ?_
    cases r with
    | none => exact hstep.elim
    | some st' =>
      obtain ⟨F, e1, e2, e3, e4, e5, e6, e7, e8, e9, e10, e11, rfl⟩ := hstep
      exact ⟨_, rfl, AD.L, AD.dx, _, rfl, h1, by rfl, _, rfl, AD, st, l, ws, F, rfl, htab, hL, hl0, e1, e2, e3, e4, e5, e6, e7, e8, e9, e10, e11, k⟩
/-! ### take_all -/
inductive Run (m : Nat) (so : Srt) : LS → LS → Prop
  | nil {st : LS} : st.rest = [] → Run m so st st
  | stop {st : LS} {ws : List Str} {r : List (List Str)} : st.rest = ws :: r → Step m so st ws none → Run m so st st
  | go {st st1 st2 : LS} {ws : List Str} {r : List (List Str)} : st.rest = ws :: r → Step m so st ws (some st1) → Run m so { st1 with rest := r } st2 → Run m so st st2
def spAll (K : PySem.W.Frag) (C tab : Addr) (m : Nat) : Sp := fun vs H Q _ => ∃ (A : Adr) (st st' : LS) (so : Srt), vs = [.ref A.L, .str so.s] ∧ A.tab = tab ∧ LinesAt K C [(tab, lamQ)] H A st ∧ Run m so st st' ∧
  ∀ H', LinesAt K C [(tab, lamQ)] H' A st' → Frm A H H' → Q .non H'
abbrev nTakeAll : List Str := ["self", "sort"]
abbrev sTakeAll : Stmt := mSt 2
theorem scTakeAll : FnScope nTakeAll ["self", "sort"] (defScope sTakeAll) := ⟨rfl, rfl, rfl, by decide +kernel, rfl, by decide +kernel, by decide +kernel⟩
theorem LinesAt.shorter {T : List (Addr × Str)} {H : Hp} {A : Adr} {st : LS} {r : List (List Str)} {aR q : Addr} {many : Int} {refs : List V} (L : LinesAt K CL T H A st) (h1 : H A.L = some (.ins CL A.dx (flds aR many A))) (hr : Paired (WordsAt K (bare A.own H)) r refs) (hq : H q = none) :
    LinesAt K CL T (upd (upd H q (.lst refs)) A.L (.ins CL A.dx (flds q many A))) A { st with rest := r } ∧ Frm A H (upd (upd H q (.lst refs)) A.L (.ins CL A.dx (flds q many A))) := by
  have L1 := L.mono (new_same (o := .lst refs) hq)
  have hqo : q ∉ A.own := fun m => L.live q m hq
  have e : bare A.own (upd (upd H q (.lst refs)) A.L (.ins CL A.dx (flds q many A))) = bare A.own (upd H q (.lst refs)) := bare_upd own_L
  obtain ⟨ts, h4, h5⟩ := L1.ts
  obtain ⟨fs, h6, h7⟩ := L1.fs
  have sb : Same (bare A.own H) (bare A.own (upd H q (.lst refs))) := bare_same (new_same hq)
  have h1' := (new_same (o := .lst refs) hq) _ _ h1
  refine ⟨⟨⟨q, many, refs, upd_same, hqo, ?_, by rw [e]; exact Paired.imp (fun _ _ => WordsAt.mono sb) hr⟩, ?_, ?_, ⟨ts, ?_, by rw [e]; exact h5⟩, ⟨fs, ?_, by rw [e]; exact h7⟩, L.nd, fun x hx => upd_live (L1.live x hx), tabs_over h1' (fun _ z => by cases z) (fun _ _ => ins_code) L1.tb, by rw [upd_ne (Adr.ne L.nd (i := 1) (j := 0) rfl rfl (by decide))]; exact L1.dxo⟩, ?_⟩
  · rw [e]
    refine SqL.of ?_
    rw [bare_ne hqo]
    exact upd_same
  · rw [upd_ne (Adr.ne L.nd (i := 2) (j := 0) rfl rfl (by decide))]; exact L1.ps
  · rw [upd_ne (Adr.ne L.nd (i := 3) (j := 0) rfl rfl (by decide))]; exact L1.ks
  · rw [upd_ne (Adr.ne L.nd (i := 4) (j := 0) rfl rfl (by decide))]; exact h4
  · rw [upd_ne (Adr.ne L.nd (i := 5) (j := 0) rfl rfl (by decide))]; exact h6
  · unfold Frm
    rw [e]
    exact sb
theorem ok_takeall {m : Nat} (LC : LinesC K CL) (D : MethOf K CL "take_all" "Lines.take_all" sTakeAll ["self", "sort"]) (O_takes : C8.Met P w K mg base (kOne m + 7) CL "takes" (spTakes K CL tab m) []) : C8.Met P w K mg base (kOne m + 8) CL "take_all" (spAll K CL tab m) [] := by
  refine D.met scTakeAll (fun vs H Q E h => ?_) (fun f cdv A outer s H vs Q E hr h => ?_)
  · obtain ⟨A, st, st', so, rfl, _⟩ := h
    rfl
  obtain ⟨AD, st, st', so, rfl, htab, hL, hrun, k⟩ := h
  have hu : (A.deeper (envOfC "Lines.take_all" (defScope sTakeAll) s.heap.objs.size f cdv)).units + 64 < cLine := by have := hr.un; omega
  refine ⟨_, (pss_one (ps_while PassesOwn.never (pw_and (pt_cmpR (op_neE hu) (pe_fld (pv 0) (by rfl)) (pe_lst pa_nil) (nomark _))
        (pw_and1 (pt_val (C8.pe_mt O_takes hr (by omega) (pv 0) (pa_cons (pv 1) (pa_cons (pe_ix ix_list (pe_fld (pv 0) (by rfl)) pe_int (fun _ _ => rfl)) pa_nil)))))).pt
      (pss_one (ps_fld (pv 0) (pe_slice sl_list (pe_fld (pv 0) (by rfl)) (po_some pe_int) po_none) (by rfl))))), ?_⟩
  refine ⟨fun n σ G => σ = [some (.ref AD.L), some (.str so.s)] ∧ ∃ st1 : LS, st1.rest.length = n ∧ LinesAt K CL [(tab, lamQ)] G AD st1 ∧ Frm AD H G ∧ Run m so st1 st', ⟨_, rfl, st, rfl, hL, same_rf, hrun⟩, ?_⟩
  rintro n σ G ⟨rfl, st1, rfl, hL1, fr1, run1⟩
  obtain ⟨aR, many, refs, h1, _, h3, h4⟩ := hL1.obj
  refine ⟨_, rfl, AD.L, CL, AD.dx, _, _, rfl, h1, LC.cls, LC.n1, rfl, sz0, fun e ne => ⟨aR, e, _, rfl, rfl, (new_same ne).seq (bare_sub.seq h3), SqL.of upd_same, _, rfl, ?_⟩⟩
  have s2 : Same G (upd G e (.lst [])) := new_same ne
  generalize upd G e (.lst []) = G2 at s2
  have hL2 := hL1.mono s2
  have fr2 : Frm AD H G2 := same_tr fr1 (bare_same s2)
  have hnil : st1.rest = [] → refs.isEmpty = true := fun z => by
    have := paired_len h4
    rw [z] at this
    cases refs with
    | nil => rfl
    | cons a b => cases this
  have hcons : ∀ ws r, st1.rest = ws :: r → ∃ l rs, refs = .ref l :: rs ∧ SqL K (bare AD.own G) l (ws.map V.str) := fun ws r z => by
    rw [z] at h4
    cases h4 with
    | cons a t =>
      obtain ⟨l, rfl, q⟩ := a
      exact ⟨l, _, rfl, q⟩
  have sb : Same (bare AD.own G) (bare AD.own G2) := bare_same s2
  cases run1 with
  | nil h =>
    refine iteN (by rw [hnil h]; rfl) ?_
    refine iteN rfl ?_
    exact k _ hL2 fr2
  | stop h hs =>
    obtain ⟨l, rs, rfl, hq⟩ := hcons _ _ h
    refine iteY rfl ?_
    refine ⟨_, rfl, AD.L, AD.dx, _, rfl, s2 _ _ h1, by rfl, _, rfl, _, rfl, AD.L, CL, AD.dx, _, _, rfl, s2 _ _ h1, LC.cls, LC.n1, rfl, aR, _, _, _, rfl, rfl, s2.seq (bare_sub.seq h3), at0, AD, st', l, _, so, none, rfl, htab, hL2, sb.seq hq, hs, ?_⟩
    refine ⟨_, rfl, ?_⟩
    refine iteN rfl ?_
    exact k _ hL2 fr2
  | @go _ st3 _ ws r h hs hrest =>
    obtain ⟨l, rs, rfl, hq⟩ := hcons _ _ h
    refine iteY rfl ?_
    refine ⟨_, rfl, AD.L, AD.dx, _, rfl, s2 _ _ h1, by rfl, _, rfl, _, rfl, AD.L, CL, AD.dx, _, _, rfl, s2 _ _ h1, LC.cls, LC.n1, rfl, aR, _, _, _, rfl, rfl, s2.seq (bare_sub.seq h3), at0, AD, st1, l, ws, so, some st3, rfl, htab, hL2, sb.seq hq, hs, fun G3 hL3 fr3 => ?_⟩
    refine ⟨_, rfl, ?_⟩
    refine iteY rfl ?_
    refine ⟨fun σ' H' => σ' = [some (.ref AD.L), some (.str so.s)] ∧ LinesAt K CL [(tab, lamQ)] H' AD { st3 with rest := r } ∧ Frm AD H H', fun σ' H' z => ⟨r.length, by rw [h]; exact Nat.lt_succ_self _, z.1, _, rfl, z.2.1, z.2.2, hrest⟩, ?_⟩
    obtain ⟨aR3, many3, refs3, h13, _, h33, h43⟩ := hL3.obj
    rw [hs.rest, h] at h43
    refine ⟨_, rfl, AD.L, CL, AD.dx, _, _, rfl, h13, LC.cls, LC.n1, rfl, _, rfl, aR3, _, rfl, bare_sub.seq h33, fun q nq => ?_⟩
    rw [cut_tl1]
    cases h43 with
    | cons a43 t43 =>
      obtain ⟨hLn, frn⟩ := hL3.shorter h13 t43 nq
      exact ⟨_, rfl, AD.L, CL, AD.dx, _, rfl, (new_same nq) _ _ h13, LC.cls, LC.n1, by show 6 < 1000; decide, rfl, hLn, same_tr (same_tr fr2 fr3) frn⟩
end
end WK
end
section
set_option Elab.async false
set_option linter.all false
set_option maxRecDepth 100000
set_option maxHeartbeats 4000000
namespace WK
open PySem L2 PyProof.Rows LamX
/-! ### making an object of a class of the text -/
structure MakOf (K : PySem.W.Frag) (mg : Str → Option Value) (x : Str) (C : Addr) (qual : Str) (st : Stmt) (ps : List Str) : Prop where
  ex : ∃ (f : Addr) (fd : FuncData), Mk K C f ∧ mg x = some (.ref C) ∧ Fun K "__init__" qual st f fd ∧ Binds K fd ps []
theorem MakOf.mak {P : Program} {w : World} {K : PySem.W.Frag} {mg : Str → Option Value} {base : Heap} {C : Addr} {x qual : Str} {st : Stmt} {N ps : List Str} {k : Nat} {sp : Sp} (D : MakOf K mg x C qual st ps) (S : FnScope N ps (defScope st)) (len : ∀ vs H Q E, sp vs H Q E → vs.length = ps.length)
    (hbody : ∀ (f : Addr) (cdv : Value) (A : Around) (outer : List Env) (s : Shared) (H : Hp) (vs : List V) (Q : VK) (E : XK), Room k (A.deeper (envOfC qual (defScope st) s.heap.objs.size f cdv)) → sp vs H Q E →
      ∃ t, PSs (cxOf CX0 P w K mg base N qual (defScope st) f cdv A outer s H E).nox (defBody st) t ∧ t { nx := fun _ H' => Q .non H', rt := Q } (start N vs) H) : C8.Mak P w K mg base (k + 1) x C sp [] := by
  obtain ⟨f, fd, M, hm, F, b⟩ := D.ex
  exact ⟨f, fd, ps, [], M, F.ok S len (fun cdv A outer s H vs Q E hr h => hbody f cdv A outer s H vs Q E hr h), hm, b, .nil⟩
/-! ### the words of a page -/
def wordsOf (text : Str) : List (List Str) := (Txt.split text "\n").map fun z => Txt.split z " "
/-- all but what stands at x stays -/
def Keeps (x : Addr) (H G : Hp) : Prop := ∀ b o, b ≠ x → H b = some o → G b = some o
theorem Keeps.tr {x : Addr} {H G L : Hp} (a : Keeps x H G) (b : Keeps x G L) : Keeps x H L := fun c o n e => b c o n (a c o n e)
theorem Keeps.put {x q : Addr} {H : Hp} {o u : HO} (h : H q = none) : Keeps x H (upd (upd H q o) x u) := fun c v n e => by
  rw [upd_ne n, upd_ne (ne_of_none e h)]
  exact e
theorem Keeps.at {x : Addr} {H : Hp} {u : HO} : Keeps x H (upd H x u) := fun c v n e => by
  rw [upd_ne n]
  exact e
def spLines (K : PySem.W.Frag) (C tab : Addr) : Sp := fun vs H Q _ => ∃ (x dx : Addr) (text : Str), vs = [.ref x, .str text] ∧ H x = some (.ins C dx []) ∧ H dx = some (.own x) ∧ Tabs [(tab, lamQ)] H ∧ text.length + 2 ≤ sizeLine ∧
  ∀ (A : Adr) (H' : Hp), A.L = x → A.dx = dx → A.tab = tab → LinesAt K C [(tab, lamQ)] H' A ⟨wordsOf text, [], [], [], []⟩ → Keeps x H H' → (∀ b ∈ [A.aP, A.aK, A.aT, A.aF], H b = none) → Q .non H'
abbrev nInitL : List Str := ["self", "text", "line"]
abbrev sInitL : Stmt := mSt 0
section
variable {P : Program} {w : World} {K : PySem.W.Frag} {mg : Str → Option Value} {base : Heap} {CL : Addr} {tab : Addr}
theorem scInitL : FnScope nInitL ["self", "text"] (defScope sInitL) := ⟨rfl, rfl, rfl, by decide +kernel, rfl, by decide +kernel, by decide +kernel⟩
theorem paired_of {α β : Type} {R : α → β → Prop} : ∀ {xs : List α} {ys : List β}, ys.length = xs.length → (∀ (i : Nat) y, ys[i]? = some y → ∃ x, xs[i]? = some x ∧ R x y) → Paired R xs ys
  | [], [], _, _ => .nil
  | [], _ :: _, h, _ => by cases h
  | _ :: _, [], h, _ => by cases h
  | x :: xs, y :: ys, h, k => by
    obtain ⟨x', e, r⟩ := k 0 y rfl
    cases e
    exact .cons r (paired_of (by simpa using h) fun i y e => by
      obtain ⟨x', e', r'⟩ := k (i + 1) y (by simpa using e)
      exact ⟨x', by simpa using e', r'⟩)
theorem words_bare {own : List Addr} {x R : Addr} {G L : Hp} {ws : List Str} {v : V} (hx : x ∈ own) (hk : Keeps x G L) (hn : ∀ b ∈ own, ∀ xs, G b ≠ some (.lst xs) ∧ ∀ ob, G b ≠ some (.frz ob (.lst xs))) (h : WordsAt K (del G R) ws v) : WordsAt K (bare own L) ws v := by
  obtain ⟨l, rfl, q⟩ := h
  refine ⟨l, rfl, ?_⟩
  have q' := del_sub.seq q
  rcases q' with (q' | ⟨ob, q'⟩) | q'
  · have hl : l ∉ own := fun m => (hn l m _).1 q'
    exact .inl (.inl (by rw [bare_ne hl]; exact hk _ _ (fun z => hl (by rw [z]; exact hx)) q'))
  · have hl : l ∉ own := fun m => (hn l m _).2 ob q'
    exact .inl (.inr ⟨ob, by rw [bare_ne hl]; exact hk _ _ (fun z => hl (by rw [z]; exact hx)) q'⟩)
  · exact .inr q'
theorem tabs_keeps {T : List (Addr × Str)} {x dx : Addr} {H G : Hp} {fs : List (Str × V)} {C : Addr} (h : H x = some (.ins C dx fs)) (k : Keeps x H G) (t : Tabs T H) : Tabs T G := fun p hp => by
  obtain ⟨ps, a1, a2, a3⟩ := t p hp
  refine ⟨ps, k _ _ (fun z => ?_) a1, a2, fun pos cv hc => ?_⟩
  · rw [z, h] at a1
    cases a1
  · obtain ⟨c, e, q⟩ := a3 pos cv hc
    refine ⟨c, e, k _ _ (fun z => ?_) q⟩
    rw [z] at q
    exact ins_code (Option.some.inj (h.symm.trans q))
theorem ok_lines (B : Free mg) (C : WConsts K mg) (LC : LinesC K CL) (D : MakOf K mg "Lines" CL "Lines.__init__" sInitL ["self", "text"]) : C8.Mak P w K mg base 1 "Lines" CL (spLines K CL tab) [] := by
  refine D.mak scInitL (fun vs H Q E h => ?_) (fun f cdv A outer s H vs Q E hr h => ?_)
  · obtain ⟨x, dx, text, rfl, _⟩ := h
    rfl
  obtain ⟨x, dx, text, rfl, hx, hdx, htb, hz, k⟩ := h
  refine ⟨_, (pss_cons (ps_fld (pv 0) (pe_lc (own := [("line", 2)]) (g := gName 2) (tt := tYes) rfl scInitL.nd (pi_list (pe_split (pv 1) (C8.pe_gc (by rfl) C.FEED)))
        (blkOk_by (N := nInitL) (sc := defScope sInitL) (by decide +kernel)) (fun _ _ _ _ _ => pg_name (i := 2) scInitL.nd rfl (Or.inl rfl)) (fun _ _ _ _ _ => pts_nil)
        (fun _ _ _ _ _ => (pe_split (pv 2) (C8.pe_gc (by rfl) C.BLANK)))) (by rfl))
      (pss_cons (ps_fld (pv 0) (pe_callB call_len_seq (by rfl) B.len PySem.boot_len (pa_cons (pe_fld (pv 0) (by rfl)) pa_nil)) (by rfl))
      (pss_cons (ps_fld (pv 0) (pe_lst pa_nil) (by rfl))
      (pss_cons (ps_fld (pv 0) pe_dnewK (by rfl))
      (pss_cons (ps_fld (pv 0) (pe_lst pa_nil) (by rfl))
      (pss_one (ps_fld (pv 0) (pe_lst pa_nil) (by rfl)))))))), ?_⟩
  refine ⟨_, rfl, ⟨text, rfl⟩, text, _, rfl, rfl, by rfl, hz, fun p hp => ?_⟩
  have s1 : Same H (upd H p (.lst ((Txt.split text "\n").map V.str))) := new_same hp
  have g1 : (upd H p (.lst ((Txt.split text "\n").map V.str))) p = some (.lst ((Txt.split text "\n").map V.str)) := upd_same
  generalize upd H p (.lst ((Txt.split text "\n").map V.str)) = G1 at s1 g1
  refine ⟨p, rfl, ⟨_, SqL.of g1⟩, fun R hR => lc_map (walk_list (K := K) (a := p) (xs := (Txt.split text "\n").map V.str)) (fun i y G => ∃ z, (Txt.split text "\n")[i]? = some z ∧ WordsAt K G (Txt.split z " ") y) hR ?_ (fun G2 s2 => SqL.of (s2 _ _ g1)) (fun i y G2 G3 s3 ⟨z, e, q⟩ => ⟨z, e, q.mono s3⟩) ?_ ?_⟩
  · rw [List.length_map]
    exact Nat.le_trans (PyProof.Rows.split_le text "\n") hz
  · rintro i y G2 G3 kk hi s2 hR2 ⟨rfl, hy⟩ q
    rw [List.getElem?_map] at hy
    cases e : (Txt.split text "\n")[i]? with
    | none => rw [e] at hy; cases hy
    | some z =>
      rw [e] at hy
      cases hy
      have hl := split_le (List.mem_of_getElem? e)
      refine ⟨rfl, _, rfl, ⟨z, rfl⟩, z, _, rfl, rfl, by rfl, by omega, fun p2 hp2 => q _ _ (new_same hp2) ⟨z, e, p2, rfl, SqL.of ?_⟩⟩
      rw [del_ne (fun z2 => hR2 (by rw [← z2]; exact hp2))]
      exact upd_same
  · intro G2 refs s2 g2 hlen hrefs
    have nRx : R ≠ x := fun z => by rw [z, s1 _ _ hx] at hR; cases hR
    have hwords : Paired (WordsAt K (del G2 R)) (wordsOf text) refs := by
      refine paired_of (by unfold wordsOf; rw [List.length_map, hlen, List.length_map]) fun i y e => ?_
      obtain ⟨z, e1, e2⟩ := hrefs i y e
      refine ⟨_, ?_, e2⟩
      unfold wordsOf
      rw [List.getElem?_map, e1]
      rfl
    have sH2 : Same H G2 := same_tr s1 s2
    have hx2 := sH2 _ _ hx
    refine ⟨_, rfl, x, CL, dx, [], rfl, hx2, LC.cls, LC.n1, by show 0 < 1000; decide, ?_⟩
    -- many_lines
    have hx3 : (upd G2 x (.ins CL dx (putF "rest_lines" (.ref R) []))) x = some (.ins CL dx [("rest_lines", .ref R)]) := upd_same
    have k3 : Keeps x G2 (upd G2 x (.ins CL dx (putF "rest_lines" (.ref R) []))) := Keeps.at
    generalize upd G2 x (.ins CL dx (putF "rest_lines" (.ref R) [])) = G3 at hx3 k3
    have g3 := k3 _ _ nRx g2
    refine ⟨_, rfl, x, CL, dx, _, _, rfl, hx3, LC.cls, LC.n1, rfl, R, _, rfl, .inl (SqL.of g3), _, rfl, x, CL, dx, _, rfl, hx3, LC.cls, LC.n2, by show 1 < 1000; decide, ?_⟩
    have hx4 : (upd G3 x (.ins CL dx (putF "many_lines" (.int refs.length) [("rest_lines", .ref R)]))) x = some (.ins CL dx [("rest_lines", .ref R), ("many_lines", .int refs.length)]) := upd_same
    have k4 : Keeps x G3 (upd G3 x (.ins CL dx (putF "many_lines" (.int refs.length) [("rest_lines", .ref R)]))) := Keeps.at
    generalize upd G3 x (.ins CL dx (putF "many_lines" (.int refs.length) [("rest_lines", .ref R)])) = G4 at hx4 k4
    -- held_persons
    refine ⟨sz0, fun aP nP => ?_⟩
    have nPx : aP ≠ x := fun z => by rw [z, hx4] at nP; cases nP
    refine ⟨_, rfl, x, CL, dx, _, rfl, (new_same nP) _ _ hx4, LC.cls, LC.n3, by show 2 < 1000; decide, ?_⟩
    have hx5 : (upd (upd G4 aP (.lst [])) x (.ins CL dx (putF "held_persons" (.ref aP) [("rest_lines", .ref R), ("many_lines", .int refs.length)]))) x = some (.ins CL dx [("rest_lines", .ref R), ("many_lines", .int refs.length), ("held_persons", .ref aP)]) := upd_same
    have k5 : Keeps x G4 (upd (upd G4 aP (.lst [])) x (.ins CL dx (putF "held_persons" (.ref aP) [("rest_lines", .ref R), ("many_lines", .int refs.length)]))) := Keeps.put nP
    have gaP : (upd (upd G4 aP (.lst [])) x (.ins CL dx (putF "held_persons" (.ref aP) [("rest_lines", .ref R), ("many_lines", .int refs.length)]))) aP = some (.lst []) := by rw [upd_ne nPx, upd_same]
    generalize upd (upd G4 aP (.lst [])) x (.ins CL dx (putF "held_persons" (.ref aP) [("rest_lines", .ref R), ("many_lines", .int refs.length)])) = G5 at hx5 k5 gaP
    intro aK nK
    have nKx : aK ≠ x := fun z => by rw [z, hx5] at nK; cases nK
    refine ⟨_, rfl, x, CL, dx, _, rfl, (new_same nK) _ _ hx5, LC.cls, LC.n4, by show 3 < 1000; decide, ?_⟩
    have hx6 : (upd (upd G5 aK (.dK [])) x (.ins CL dx (putF "held_kinds" (.ref aK) [("rest_lines", .ref R), ("many_lines", .int refs.length), ("held_persons", .ref aP)]))) x = some (.ins CL dx [("rest_lines", .ref R), ("many_lines", .int refs.length), ("held_persons", .ref aP), ("held_kinds", .ref aK)]) := upd_same
    have k6 : Keeps x G5 (upd (upd G5 aK (.dK [])) x (.ins CL dx (putF "held_kinds" (.ref aK) [("rest_lines", .ref R), ("many_lines", .int refs.length), ("held_persons", .ref aP)]))) := Keeps.put nK
    have gaK : (upd (upd G5 aK (.dK [])) x (.ins CL dx (putF "held_kinds" (.ref aK) [("rest_lines", .ref R), ("many_lines", .int refs.length), ("held_persons", .ref aP)]))) aK = some (.dK []) := by rw [upd_ne nKx, upd_same]
    generalize upd (upd G5 aK (.dK [])) x (.ins CL dx (putF "held_kinds" (.ref aK) [("rest_lines", .ref R), ("many_lines", .int refs.length), ("held_persons", .ref aP)])) = G6 at hx6 k6 gaK
    refine ⟨sz0, fun aT nT => ?_⟩
    have nTx : aT ≠ x := fun z => by rw [z, hx6] at nT; cases nT
    refine ⟨_, rfl, x, CL, dx, _, rfl, (new_same nT) _ _ hx6, LC.cls, LC.n5, by show 4 < 1000; decide, ?_⟩
    have hx7 : (upd (upd G6 aT (.lst [])) x (.ins CL dx (putF "held_rights" (.ref aT) [("rest_lines", .ref R), ("many_lines", .int refs.length), ("held_persons", .ref aP), ("held_kinds", .ref aK)]))) x = some (.ins CL dx [("rest_lines", .ref R), ("many_lines", .int refs.length), ("held_persons", .ref aP), ("held_kinds", .ref aK), ("held_rights", .ref aT)]) := upd_same
    have k7 : Keeps x G6 (upd (upd G6 aT (.lst [])) x (.ins CL dx (putF "held_rights" (.ref aT) [("rest_lines", .ref R), ("many_lines", .int refs.length), ("held_persons", .ref aP), ("held_kinds", .ref aK)]))) := Keeps.put nT
    have gaT : (upd (upd G6 aT (.lst [])) x (.ins CL dx (putF "held_rights" (.ref aT) [("rest_lines", .ref R), ("many_lines", .int refs.length), ("held_persons", .ref aP), ("held_kinds", .ref aK)]))) aT = some (.lst []) := by rw [upd_ne nTx, upd_same]
    generalize upd (upd G6 aT (.lst [])) x (.ins CL dx (putF "held_rights" (.ref aT) [("rest_lines", .ref R), ("many_lines", .int refs.length), ("held_persons", .ref aP), ("held_kinds", .ref aK)])) = G7 at hx7 k7 gaT
    refine ⟨sz0, fun aF nF => ?_⟩
    have nFx : aF ≠ x := fun z => by rw [z, hx7] at nF; cases nF
    refine ⟨_, rfl, x, CL, dx, _, rfl, (new_same nF) _ _ hx7, LC.cls, LC.n6, by show 5 < 1000; decide, ?_⟩
    have hx8 : (upd (upd G7 aF (.lst [])) x (.ins CL dx (putF "held_formulas" (.ref aF) [("rest_lines", .ref R), ("many_lines", .int refs.length), ("held_persons", .ref aP), ("held_kinds", .ref aK), ("held_rights", .ref aT)]))) x = some (.ins CL dx [("rest_lines", .ref R), ("many_lines", .int refs.length), ("held_persons", .ref aP), ("held_kinds", .ref aK), ("held_rights", .ref aT), ("held_formulas", .ref aF)]) := upd_same
    have k8 : Keeps x G7 (upd (upd G7 aF (.lst [])) x (.ins CL dx (putF "held_formulas" (.ref aF) [("rest_lines", .ref R), ("many_lines", .int refs.length), ("held_persons", .ref aP), ("held_kinds", .ref aK), ("held_rights", .ref aT)]))) := Keeps.put nF
    have gaF : (upd (upd G7 aF (.lst [])) x (.ins CL dx (putF "held_formulas" (.ref aF) [("rest_lines", .ref R), ("many_lines", .int refs.length), ("held_persons", .ref aP), ("held_kinds", .ref aK), ("held_rights", .ref aT)]))) aF = some (.lst []) := by rw [upd_ne nFx, upd_same]
    generalize upd (upd G7 aF (.lst [])) x (.ins CL dx (putF "held_formulas" (.ref aF) [("rest_lines", .ref R), ("many_lines", .int refs.length), ("held_persons", .ref aP), ("held_kinds", .ref aK), ("held_rights", .ref aT)])) = G8 at hx8 k8 gaF
    have k28 : Keeps x G2 G8 := (k3.tr k4).tr (((k5.tr k6).tr k7).tr k8)
    have kH8 : Keeps x H G8 := fun b o n e => k28 b o n (sH2 b o e)
    have k24 : Keeps x G2 G4 := k3.tr k4
    have k25 : Keeps x G2 G5 := k24.tr k5
    have k26 : Keeps x G2 G6 := k25.tr k6
    have k27 : Keeps x G2 G7 := k26.tr k7
    have fr : ∀ {b : Addr} {G : Hp}, Keeps x G2 G → b ≠ x → G b = none → G2 b = none := fun {b G} kk n e => by
      cases h : G2 b with
      | none => rfl
      | some o => rw [kk b o n h] at e; cases e
    have pP := fr k24 nPx nP
    have pK := fr k25 nKx nK
    have pT := fr k26 nTx nT
    have pF := fr k27 nFx nF
    obtain ⟨ts, t1, t2, t3⟩ := htb _ (List.mem_singleton.mpr rfl)
    have dx2 := sH2 _ _ hdx
    have tb2 : G2 tab = some (.tbl ts) := sH2 _ _ t1
    have ne1 : dx ≠ x := fun z => by rw [z, hx] at hdx; cases hdx
    have ne2 : tab ≠ x := fun z => by rw [z, hx2] at tb2; cases tb2
    have ne3 : tab ≠ dx := fun z => by rw [z, dx2] at tb2; cases tb2
    have gP8 := k8 _ _ nPx (k7 _ _ nPx (k6 _ _ nPx gaP))
    have gK8 := k8 _ _ nKx (k7 _ _ nKx gaK)
    have gT8 := k8 _ _ nTx gaT
    have PK : aP ≠ aK := ne_of_none gaP nK
    have PT : aP ≠ aT := ne_of_none (k6 _ _ nPx gaP) nT
    have PF : aP ≠ aF := ne_of_none (k7 _ _ nPx (k6 _ _ nPx gaP)) nF
    have KT : aK ≠ aT := ne_of_none gaK nT
    have KF : aK ≠ aF := ne_of_none (k7 _ _ nKx gaK) nF
    have TF : aT ≠ aF := ne_of_none gaT nF
    have dP : dx ≠ aP := ne_of_none dx2 pP
    have dK : dx ≠ aK := ne_of_none dx2 pK
    have dT : dx ≠ aT := ne_of_none dx2 pT
    have dF : dx ≠ aF := ne_of_none dx2 pF
    have tP : tab ≠ aP := ne_of_none tb2 pP
    have tK : tab ≠ aK := ne_of_none tb2 pK
    have tT : tab ≠ aT := ne_of_none tb2 pT
    have tF : tab ≠ aF := ne_of_none tb2 pF
    have Rd : R ≠ dx := fun z => by rw [z, dx2] at g2; cases g2
    have Rt : R ≠ tab := fun z => by rw [z, tb2] at g2; cases g2
    have RP : R ≠ aP := ne_of_none g2 pP
    have RK : R ≠ aK := ne_of_none g2 pK
    have RT : R ≠ aT := ne_of_none g2 pT
    have RF : R ≠ aF := ne_of_none g2 pF
    have hRo : R ∉ (⟨x, dx, aP, aK, aT, aF, tab⟩ : Adr).own := by simp [Adr.own, nRx, Rd, Rt, RP, RK, RT, RF]
    refine k ⟨x, dx, aP, aK, aT, aF, tab⟩ G8 rfl rfl rfl ⟨⟨R, refs.length, refs, hx8, hRo, SqL.of (by rw [bare_ne hRo]; exact k28 _ _ nRx g2), ?_⟩, gP8, gK8, ⟨[], gT8, .nil⟩, ⟨[], gaF, .nil⟩, ?_, ?_, ?_, ?_⟩ kH8 ?_
    · refine Paired.imp (fun ws v h => words_bare (own_L (A := ⟨x, dx, aP, aK, aT, aF, tab⟩)) k28 ?_ h) hwords
      intro b hb xs
      unfold Adr.own at hb
      simp only [List.mem_cons, List.not_mem_nil, or_false] at hb
      rcases hb with rfl | rfl | rfl | rfl | rfl | rfl | rfl
      · rw [hx2]; exact ⟨by simp, fun ob => by simp⟩
      · rw [dx2]; exact ⟨by simp, fun ob => by simp⟩
      · rw [pP]; exact ⟨by simp, fun ob => by simp⟩
      · rw [pK]; exact ⟨by simp, fun ob => by simp⟩
      · rw [pT]; exact ⟨by simp, fun ob => by simp⟩
      · rw [pF]; exact ⟨by simp, fun ob => by simp⟩
      · rw [tb2]; exact ⟨by simp, fun ob => by simp⟩
    · simp [Adr.own, ne1, ne1.symm, ne2.symm, ne3.symm, PK, PT, PF, KT, KF, TF, dP, dK, dT, dF, tP.symm, tK.symm, tT.symm, tF.symm, nPx.symm, nKx.symm, nTx.symm, nFx.symm]
    · intro y hy
      unfold Adr.own at hy
      simp only [List.mem_cons, List.not_mem_nil, or_false] at hy
      rcases hy with rfl | rfl | rfl | rfl | rfl | rfl | rfl
      · rw [hx8]; simp
      · rw [k28 _ _ ne1 dx2]; simp
      · rw [gP8]; simp
      · rw [gK8]; simp
      · rw [gT8]; simp
      · rw [gaF]; simp
      · rw [k28 _ _ ne2 tb2]; simp
    · exact tabs_keeps hx kH8 htb
    · exact k28 _ _ ne1 dx2
    · intro b hb
      have hn : G2 b = none := by
        simp only [List.mem_cons, List.not_mem_nil, or_false] at hb
        rcases hb with rfl | rfl | rfl | rfl
        · exact pP
        · exact pK
        · exact pT
        · exact pF
      exact sH2.free hn
end
end WK
end
section
set_option Elab.async false
set_option linter.all false
set_option maxRecDepth 100000
set_option maxHeartbeats 4000000
namespace WK
open PySem L2 PyProof.Rows LamX
/-- the lines of a text are read to the end -/
structure Reads (m : Nat) (text : Str) (st4 : LS) : Prop where
  len : text.length + 2 ≤ sizeLine
  ex : ∃ st1 st2 st3 : LS, Run m .person ⟨wordsOf text, [], [], [], []⟩ st1 ∧ st1.persons ≠ [] ∧ Run m .path st1 st2 ∧ st2.kinds ≠ [] ∧ Run m .right st2 st3 ∧ Run m .rule st3 st4
  nil : st4.rest = []
def Adr.fresh (A : Adr) : List Addr := [A.L, A.dx, A.aP, A.aK, A.aT, A.aF]
def spRead (K : PySem.W.Frag) (C tab : Addr) (m : Nat) : Sp := fun vs H Q _ => ∃ (text : Str) (st4 : LS), vs = [.str text] ∧ Tabs [(tab, lamQ)] H ∧ Reads m text st4 ∧
  ∀ (A : Adr) (H' : Hp), A.tab = tab → LinesAt K C [(tab, lamQ)] H' A st4 → Keeps tab H H' → (∀ b ∈ A.fresh, H b = none) → Q (.ref A.L) H'
abbrev nReadLines : List Str := ["text", "lines"]
abbrev sReadLines : Stmt := top 47
section
variable {P : Program} {w : World} {K : PySem.W.Frag} {mg : Str → Option Value} {base : Heap} {CL : Addr} {tab : Addr}
theorem scReadLines : FnScope nReadLines ["text"] (defScope sReadLines) := ⟨rfl, rfl, rfl, by decide +kernel, rfl, by decide +kernel, by decide +kernel⟩
theorem frm_keeps {A : Adr} {H H1 H2 : Hp} (k : Keeps A.tab H H1) (f : Frm A H1 H2) (hn : ∀ b ∈ A.fresh, H b = none) : Keeps A.tab H H2 := fun b o n e => by
  have hb : b ∉ A.own := fun m => by
    unfold Adr.own at m
    simp only [List.mem_cons, List.not_mem_nil, or_false] at m
    have : b ∈ A.fresh := by
      unfold Adr.fresh
      simp only [List.mem_cons, List.not_mem_nil, or_false]
      rcases m with z | z | z | z | z | z | z
      · exact .inl z
      · exact .inr (.inl z)
      · exact .inr (.inr (.inl z))
      · exact .inr (.inr (.inr (.inl z)))
      · exact .inr (.inr (.inr (.inr (.inl z))))
      · exact .inr (.inr (.inr (.inr (.inr z))))
      · exact absurd z n
    rw [hn b this] at e
    cases e
  have := f b o (by rw [bare_ne hb]; exact k b o n e)
  rwa [bare_ne hb] at this
theorem ok_read {m : Nat} (B : Free mg) (C : WConsts K mg) (LC : LinesC K CL) (D : DefOf K mg "read_lines" sReadLines ["text"]) (O_Lines : C8.Mak P w K mg base 1 "Lines" CL (spLines K CL tab) []) (O_take_all : C8.Met P w K mg base (kOne m + 8) CL "take_all" (spAll K CL tab m) []) : C8.Cal P w K mg base (kOne m + 9) "read_lines" (spRead K CL tab m) [] := by
  refine D.cal scReadLines (fun vs H Q E h => ?_) (fun f cdv A outer s H vs Q E hr h => ?_)
  · obtain ⟨text, st4, rfl, _⟩ := h
    rfl
  obtain ⟨text, st4, rfl, htb, hrd, k⟩ := h
  have hu : (A.deeper (envOfC "read_lines" (defScope sReadLines) s.heap.objs.size f cdv)).units + 64 < cLine := by have := hr.un; omega
  refine ⟨_, (pss_cons (ps_if (pt_not (pt_val (pe_callB call_isi (by rfl) B.isi boot_isinstance (pa_cons (pv 0) (pa_cons (pe_bltn (by rfl) B.str (v := .ty "str") (by decide +kernel) rfl) pa_nil)))))
      (pss_one ps_never)
      pss_nil)
      (pss_cons (ps_set (i := 1) scReadLines.nd rfl (Or.inl rfl) (C8.pe_mk O_Lines hr (by omega) (by rfl) (pa_cons (pv 0) pa_nil)))
      (pss_cons (ps_expr (C8.pe_mt O_take_all hr (by omega) (pv 1) (pa_cons (C8.pe_gc (by rfl) C.PERSON) pa_nil)))
      (pss_cons (ps_if (pt_cmpR (op_eqE hu) (pe_fld (pv 1) (by rfl)) (pe_lst pa_nil) (nomark _))
      (pss_one ps_never)
      pss_nil)
      (pss_cons (ps_expr (C8.pe_mt O_take_all hr (by omega) (pv 1) (pa_cons (C8.pe_gc (by rfl) C.PATH) pa_nil)))
      (pss_cons (ps_if (pt_cmpR (op_eqDE hu) (pe_fld (pv 1) (by rfl)) pe_dnewK (nomark _))
      (pss_one ps_never)
      pss_nil)
      (pss_cons (ps_expr (C8.pe_mt O_take_all hr (by omega) (pv 1) (pa_cons (C8.pe_gc (by rfl) C.RIGHT) pa_nil)))
      (pss_cons (ps_expr (C8.pe_mt O_take_all hr (by omega) (pv 1) (pa_cons (C8.pe_gc (by rfl) C.RULE) pa_nil)))
      (pss_cons (ps_if (pt_cmpR (op_neE hu) (pe_fld (pv 1) (by rfl)) (pe_lst pa_nil) (nomark _))
      (pss_one ps_never)
      pss_nil)
      (pss_one (ps_ret (pv 1)))))))))))), ?_⟩
  obtain ⟨st1, st2, st3, r1, n1, r2, n2, r3, r4⟩ := hrd.ex
  refine ⟨_, rfl, _, _, _, _, true, rfl, .ty _, .base (.str _), by rfl, _, rfl, ?_⟩
  refine iteN rfl ?_
  refine ⟨_, rfl, fun x dx nx ndx nex => ?_⟩
  have s0 : Same H (upd (upd H dx (.own x)) x (.ins CL dx [])) := same_tr (new_same ndx) (new_same (by rw [upd_ne (Ne.symm nex)]; exact nx))
  refine ⟨x, dx, text, rfl, upd_same, by rw [upd_ne nex, upd_same], Tabs.ext htb s0, hrd.len, fun AD G1 e1 e2 e3 hL1 kp1 hf1 => ⟨rfl, ?_⟩⟩
  have hfresh : ∀ b ∈ AD.fresh, H b = none := fun b hb => by
    unfold Adr.fresh at hb
    rw [List.mem_cons, List.mem_cons] at hb
    rcases hb with z | z | z
    · rw [z, e1]; exact nx
    · rw [z, e2]; exact ndx
    · exact s0.free (hf1 b z)
  have kp : Keeps AD.tab H G1 := fun b o n e => kp1 b o (fun z => by rw [z, nx] at e; cases e) (s0 b o e)
  subst e1
  -- persons
  obtain ⟨aR, many, refs, h1, _, _, _⟩ := hL1.obj
  refine ⟨_, rfl, AD.L, AD.dx, _, rfl, h1, by rfl, AD, _, st1, .person, rfl, e3, hL1, r1, fun G2 hL2 fr2 => ?_⟩
  obtain ⟨aR, many, refs, h1, _, _, _⟩ := hL2.obj
  refine ⟨_, rfl, AD.L, CL, AD.dx, _, _, rfl, h1, LC.cls, LC.n3, rfl, sz0, fun e ne => ⟨AD.aP, e, _, rfl, rfl, SqL.of ((new_same ne) _ _ hL2.ps), SqL.of upd_same, _, rfl, ?_⟩⟩
  refine iteN (by cases hh : st1.persons with | nil => exact absurd hh n1 | cons a b => rfl) ?_
  have s3 : Same G2 (upd G2 e (.lst [])) := new_same ne
  generalize upd G2 e (.lst []) = G3 at s3
  have hL3 := hL2.mono s3
  have fr3 : Frm AD G1 G3 := same_tr fr2 (bare_same s3)
  -- paths
  obtain ⟨aR, many, refs, h1, _, _, _⟩ := hL3.obj
  refine ⟨_, rfl, AD.L, AD.dx, _, rfl, h1, by rfl, AD, _, st2, .path, rfl, e3, hL3, r2, fun G4 hL4 fr4 => ?_⟩
  obtain ⟨aR, many, refs, h1, _, _, _⟩ := hL4.obj
  refine ⟨_, rfl, AD.L, CL, AD.dx, _, _, rfl, h1, LC.cls, LC.n4, rfl, fun e ne => ⟨AD.aK, e, _, rfl, rfl, (new_same ne) _ _ hL4.ks, upd_same, _, rfl, ?_⟩⟩
  refine iteN (by unfold kvOf; cases hh : st2.kinds with | nil => exact absurd hh n2 | cons a b => rfl) ?_
  have s5 : Same G4 (upd G4 e (.dK [])) := new_same ne
  generalize upd G4 e (.dK []) = G5 at s5
  have hL5 := hL4.mono s5
  have fr5 : Frm AD G1 G5 := same_tr (same_tr fr3 fr4) (bare_same s5)
  obtain ⟨aR, many, refs, h1, _, _, _⟩ := hL5.obj
  refine ⟨_, rfl, AD.L, AD.dx, _, rfl, h1, by rfl, AD, _, st3, .right, rfl, e3, hL5, r3, fun G6 hL6 fr6 => ?_⟩
  obtain ⟨aR, many, refs, h1, _, _, _⟩ := hL6.obj
  refine ⟨_, rfl, AD.L, AD.dx, _, rfl, h1, by rfl, AD, _, st4, .rule, rfl, e3, hL6, r4, fun G7 hL7 fr7 => ?_⟩
  obtain ⟨aR, many, refs, h1, _, h3, h4⟩ := hL7.obj
  rw [hrd.nil] at h4
  cases h4
  refine ⟨_, rfl, AD.L, CL, AD.dx, _, _, rfl, h1, LC.cls, LC.n1, rfl, sz0, fun e ne => ⟨aR, e, _, rfl, rfl, (new_same ne).seq (bare_sub.seq h3), SqL.of upd_same, _, rfl, ?_⟩⟩
  refine iteN rfl ?_
  refine ⟨_, rfl, ?_⟩
  exact k AD _ e3 (hL7.mono (new_same ne)) (by rw [← e3]; exact frm_keeps kp (same_tr (same_tr (same_tr fr5 fr6) fr7) (bare_same (new_same ne))) hfresh) hfresh
end
end WK
end
section
set_option Elab.async false
set_option linter.all false
set_option maxRecDepth 100000
set_option maxHeartbeats 4000000
namespace WK
open PySem L2 PyProof.Rows LamX
structure WorksC (K : PySem.W.Frag) (C : Addr) : Prop where
  cls : Cls K C
  n1 : NoAttr K C "own_text"
  n2 : NoAttr K C "own_persons"
  n3 : NoAttr K C "own_kinds"
  n4 : NoAttr K C "own_rights"
  n5 : NoAttr K C "own_formulas"
def wflds (text : Str) (t1 aK aT t2 : Addr) : List (Str × V) := [("own_text", .str text), ("own_persons", .ref t1), ("own_kinds", .ref aK), ("own_rights", .ref aT), ("own_formulas", .ref t2)]
/-- a sorted arrangement -/
def SortOf (xs ys : List Str) : Prop := ys.Perm xs ∧ sortedS ys = true
/-- works in the heap -/
structure WorksAt (K : PySem.W.Frag) (C : Addr) (H : Hp) (a : Addr) (text : Str) (st : LS) : Prop where
  ex : ∃ (dx t1 aK aT t2 : Addr) (ys : List Str) (fs ts : List V), H a = some (.ins C dx (wflds text t1 aK aT t2)) ∧ SortOf (st.persons ++ [("house" : Str)]) ys ∧ SqT K H t1 (ys.map V.str) ∧ H aK = some (.dK (kvOf st.kinds)) ∧ H aT = some (.lst ts) ∧ Paired (PairAt K H) st.rights ts ∧
    SqT K H t2 fs ∧ Paired (FmAt K H) st.forms fs
theorem WorksAt.mono {K : PySem.W.Frag} {C a : Addr} {H G : Hp} {text : Str} {st : LS} (h : WorksAt K C H a text st) (s : Same H G) : WorksAt K C G a text st := by
  obtain ⟨dx, t1, aK, aT, t2, ys, fs, ts, h1, h2, h3, h4, h5, h6, h7, h8⟩ := h.ex
  exact ⟨dx, t1, aK, aT, t2, ys, fs, ts, s _ _ h1, h2, sqT_same s h3, s _ _ h4, s _ _ h5, Paired.imp (fun _ _ => PairAt.mono s) h6, sqT_same s h7, Paired.imp (fun _ _ => FmAt.mono s) h8⟩
def Keeps2 (x y : Addr) (H G : Hp) : Prop := ∀ b o, b ≠ x → b ≠ y → H b = some o → G b = some o
def spWInit (K : PySem.W.Frag) (CW tab : Addr) (m : Nat) : Sp := fun vs H Q _ => ∃ (x dx : Addr) (text : Str) (st : LS), vs = [.ref x, .str text] ∧ H x = some (.ins CW dx []) ∧ Tabs [(tab, lamQ)] H ∧ Reads m text st ∧ st.persons.length ≤ 3 ∧ st.forms.length ≤ 3 ∧
  ∀ (H' : Hp), WorksAt K CW H' x text st → Keeps2 x tab H H' → Tabs [(tab, lamQ)] H' → (∀ dx t1 aK aT t2, H' x = some (.ins CW dx (wflds text t1 aK aT t2)) → H aK = none ∧ H aT = none) → Q .non H'
abbrev wSt (j : Nat) : Stmt := inClass (top 48) j
abbrev nInitW : List Str := ["self", "text", "lines"]
abbrev sInitW : Stmt := wSt 0
section
variable {P : Program} {w : World} {K : PySem.W.Frag} {mg : Str → Option Value} {base : Heap} {CL CW : Addr} {tab : Addr}
theorem scInitW : FnScope nInitW ["self", "text"] (defScope sInitW) := ⟨rfl, rfl, rfl, by decide +kernel, rfl, by decide +kernel, by decide +kernel⟩
theorem sqT_keeps {x dx C a : Addr} {fs : List (Str × V)} {G G' : Hp} {xs : List V} (h : G x = some (.ins C dx fs)) (k : Keeps x G G') (q : SqT K G a xs) : SqT K G' a xs := by
  rcases q with (q | ⟨ob, q⟩) | q
  · exact .inl (.inl (k _ _ (fun z => by rw [z, h] at q; cases q) q))
  · exact .inl (.inr ⟨ob, k _ _ (fun z => by rw [z, h] at q; cases q) q⟩)
  · exact .inr q
theorem FmAt.keeps {x dx C : Addr} {fs : List (Str × V)} {G G' : Hp} (h : G x = some (.ins C dx fs)) (k : Keeps x G G') : ∀ {f : Fm} {v : V}, FmAt K G f v → FmAt K G' f v
  | .non _, _, ⟨a, h1, h2⟩ => ⟨a, h1, sqT_keeps h k h2⟩
  | .word _ _, _, ⟨a, h1, h2⟩ => ⟨a, h1, sqT_keeps h k h2⟩
  | .like _ _, _, ⟨a, h1, h2⟩ => ⟨a, h1, sqT_keeps h k h2⟩
  | .neg _, _, ⟨a, x, h1, h2, h3⟩ => ⟨a, x, h1, sqT_keeps h k h2, FmAt.keeps h k h3⟩
  | .bin _ _ _, _, ⟨a, x, y, h1, h2, h3, h4⟩ => ⟨a, x, y, h1, sqT_keeps h k h2, FmAt.keeps h k h3, FmAt.keeps h k h4⟩
theorem Keeps.same {x : Addr} {H G : Hp} (s : Same H G) : Keeps x H G := fun b o _ e => s b o e
/-- making an object of a class of the text, its def told -/
structure Mak2 (P : Program) (w : World) (K : PySem.W.Frag) (mg : Str → Option Value) (base : Heap) (k : Nat) (x : Str) (C : Addr) (qual : Str) (st : Stmt) (ps : List Str) (sp : Sp) : Prop where
  ex : ∃ (f : Addr) (fd : FuncData), Mk K C f ∧ FnOk P w K mg base CX0 k f fd ps sp ∧ mg x = some (.ref C) ∧ Fun K "__init__" qual st f fd ∧ Binds K fd ps []
theorem Mak2.mak {C : Addr} {x qual : Str} {st : Stmt} {ps : List Str} {k : Nat} {sp : Sp} (M : Mak2 P w K mg base k x C qual st ps sp) : C8.Mak P w K mg base k x C sp [] := by
  obtain ⟨f, fd, a, b, c, _, d⟩ := M.ex
  exact ⟨f, fd, ps, [], a, b, c, d, .nil⟩
theorem MakOf.mak2 {C : Addr} {x qual : Str} {st : Stmt} {N ps : List Str} {k : Nat} {sp : Sp} (D : MakOf K mg x C qual st ps) (S : FnScope N ps (defScope st)) (len : ∀ vs H Q E, sp vs H Q E → vs.length = ps.length)
    (hbody : ∀ (f : Addr) (cdv : Value) (A : Around) (outer : List Env) (s : Shared) (H : Hp) (vs : List V) (Q : VK) (E : XK), Room k (A.deeper (envOfC qual (defScope st) s.heap.objs.size f cdv)) → sp vs H Q E →
      ∃ t, PSs (cxOf CX0 P w K mg base N qual (defScope st) f cdv A outer s H E).nox (defBody st) t ∧ t { nx := fun _ H' => Q .non H', rt := Q } (start N vs) H) : Mak2 P w K mg base (k + 1) x C qual st ps sp := by
  obtain ⟨f, fd, M, hm, F, b⟩ := D.ex
  exact ⟨f, fd, M, F.ok S len (fun cdv A outer s H vs Q E hr h => hbody f cdv A outer s H vs Q E hr h), hm, F, b⟩
theorem ok_winit {m : Nat} (B : Free mg) (C : WConsts K mg) (LC : LinesC K CL) (WC : WorksC K CW) (D : MakOf K mg "Works" CW "Works.__init__" sInitW ["self", "text"]) (O_read_lines : C8.Cal P w K mg base (kOne m + 9) "read_lines" (spRead K CL tab m) []) : Mak2 P w K mg base (kOne m + 10) "Works" CW "Works.__init__" sInitW ["self", "text"] (spWInit K CW tab m) := by
  refine D.mak2 scInitW (fun vs H Q E h => ?_) (fun f cdv A outer s H vs Q E hr h => ?_)
  · obtain ⟨x, dx, text, st, rfl, _⟩ := h
    rfl
  obtain ⟨x, dx, text, st, rfl, hx, htb, hrd, hp3, hf3, k⟩ := h
  refine ⟨_, (pss_cons (ps_set (i := 2) scInitW.nd rfl (Or.inl rfl) (C8.pe_c O_read_lines hr (by omega) (by rfl) (pa_cons (pv 1) pa_nil)))
      (pss_cons (ps_fld (pv 0) (pv 1) (by rfl))
      (pss_cons (ps_fld (pv 0) (pe_callTy call_tuple_of (by rfl) B.tuple boot_tuple (pa_cons (pe_callB cr_sortedS (by rfl) B.sorted (by decide +kernel) (pa_cons (pe_lst (StX.pa_star (pe_fld (pv 2) (by rfl)) (pa_cons (C8.pe_gc (by rfl) C.HOUSE) pa_nil))) pa_nil)) pa_nil)) (by rfl))
      (pss_cons (ps_fld (pv 0) (pe_fld (pv 2) (by rfl)) (by rfl))
      (pss_cons (ps_fld (pv 0) (pe_fld (pv 2) (by rfl)) (by rfl))
      (pss_one (ps_fld (pv 0) (pe_callTy call_tuple_of (by rfl) B.tuple boot_tuple (pa_cons (pe_fld (pv 2) (by rfl)) pa_nil)) (by rfl)))))))), ?_⟩
  refine ⟨_, rfl, text, st, rfl, htb, hrd, fun AD G1 htab hL1 kp1 hfr => ?_⟩
  obtain ⟨ps0, t1, t2, t3⟩ := htb _ (List.mem_singleton.mpr rfl)
  have xtab : x ≠ tab := fun z => by rw [z, t1] at hx; cases hx
  have nfr : ∀ b ∈ AD.fresh, b ≠ x := fun b hb z => by
    have := hfr b hb
    rw [z, hx] at this
    cases this
  have nL : AD.L ≠ x := nfr _ (by simp [Adr.fresh])
  have nP : AD.aP ≠ x := nfr _ (by simp [Adr.fresh])
  have nK : AD.aK ≠ x := nfr _ (by simp [Adr.fresh])
  have nT : AD.aT ≠ x := nfr _ (by simp [Adr.fresh])
  have nF : AD.aF ≠ x := nfr _ (by simp [Adr.fresh])
  have hx1 := kp1 _ _ xtab hx
  obtain ⟨aR, many, refs, h1, _, _, _⟩ := hL1.obj
  obtain ⟨ts, hts1, hts2⟩ := hL1.ts
  obtain ⟨fs, hfs1, hfs2⟩ := hL1.fs
  have hfl : fs.length = st.forms.length := paired_len hfs2
  -- own_text
  refine ⟨_, rfl, _, rfl, x, CW, dx, [], rfl, hx1, WC.cls, WC.n1, by show 0 < 1000; decide, ?_⟩
  have hx2 : (upd G1 x (.ins CW dx (putF "own_text" (.str text) []))) x = some (.ins CW dx [("own_text", .str text)]) := upd_same
  have k2 : Keeps x G1 (upd G1 x (.ins CW dx (putF "own_text" (.str text) []))) := Keeps.at
  generalize upd G1 x (.ins CW dx (putF "own_text" (.str text) [])) = G2 at hx2 k2
  -- own_persons
  refine ⟨_, rfl, AD.L, CL, AD.dx, _, _, rfl, k2 _ _ nL h1, LC.cls, LC.n3, rfl, AD.aP, _, rfl, .inr (SqL.of (k2 _ _ nP hL1.ps)), ?_, fun l nl => ?_⟩
  · rw [List.length_append, List.length_map]
    exact Nat.le_trans (show st.persons.length + 1 ≤ 4 by omega) (by decide)
  have eP : st.persons.map V.str ++ [V.str "house"] = (st.persons ++ [("house" : Str)]).map V.str := by rw [List.map_append]; rfl
  refine ⟨l, st.persons ++ [("house" : Str)], rfl, SqL.of (by rw [← eP]; exact upd_same), by rw [List.length_append]; show st.persons.length + 1 < 64; omega, fun ys p hp1 hp2 np => ?_⟩
  refine ⟨p, _, rfl, .inl ⟨SqL.of upd_same, fun t nt => ?_⟩⟩
  have s3 := same_tr (same_tr (new_same (o := .lst (st.persons.map V.str ++ [V.str "house"])) nl) (new_same (o := .lst (ys.map V.str)) np)) (new_same (o := .tup (ys.map V.str)) nt)
  have g3 : (upd (upd (upd G2 l (.lst (st.persons.map V.str ++ [V.str "house"]))) p (.lst (ys.map V.str))) t (.tup (ys.map V.str))) t = some (.tup (ys.map V.str)) := upd_same
  generalize upd (upd (upd G2 l (.lst (st.persons.map V.str ++ [V.str "house"]))) p (.lst (ys.map V.str))) t (.tup (ys.map V.str)) = G3 at s3 g3
  have hx3 := s3 _ _ hx2
  have nt : t ≠ x := fun z => by rw [z, hx3] at g3; cases g3
  have k13 : Keeps x G1 G3 := k2.tr (Keeps.same s3)
  refine ⟨_, rfl, x, CW, dx, _, rfl, hx3, WC.cls, WC.n2, by show 1 < 1000; decide, ?_⟩
  have hx4 : (upd G3 x (.ins CW dx (putF "own_persons" (.ref t) [("own_text", .str text)]))) x = some (.ins CW dx [("own_text", .str text), ("own_persons", .ref t)]) := upd_same
  have k4 : Keeps x G3 (upd G3 x (.ins CW dx (putF "own_persons" (.ref t) [("own_text", .str text)]))) := Keeps.at
  generalize upd G3 x (.ins CW dx (putF "own_persons" (.ref t) [("own_text", .str text)])) = G4 at hx4 k4
  have k14 := k13.tr k4
  -- own_kinds
  refine ⟨_, rfl, AD.L, CL, AD.dx, _, _, rfl, k14 _ _ nL h1, LC.cls, LC.n4, rfl, _, rfl, x, CW, dx, _, rfl, hx4, WC.cls, WC.n3, by show 2 < 1000; decide, ?_⟩
  have hx5 : (upd G4 x (.ins CW dx (putF "own_kinds" (.ref AD.aK) [("own_text", .str text), ("own_persons", .ref t)]))) x = some (.ins CW dx [("own_text", .str text), ("own_persons", .ref t), ("own_kinds", .ref AD.aK)]) := upd_same
  have k5 : Keeps x G4 (upd G4 x (.ins CW dx (putF "own_kinds" (.ref AD.aK) [("own_text", .str text), ("own_persons", .ref t)]))) := Keeps.at
  generalize upd G4 x (.ins CW dx (putF "own_kinds" (.ref AD.aK) [("own_text", .str text), ("own_persons", .ref t)])) = G5 at hx5 k5
  have k15 := k14.tr k5
  -- own_rights
  refine ⟨_, rfl, AD.L, CL, AD.dx, _, _, rfl, k15 _ _ nL h1, LC.cls, LC.n5, rfl, _, rfl, x, CW, dx, _, rfl, hx5, WC.cls, WC.n4, by show 3 < 1000; decide, ?_⟩
  have hx6 : (upd G5 x (.ins CW dx (putF "own_rights" (.ref AD.aT) [("own_text", .str text), ("own_persons", .ref t), ("own_kinds", .ref AD.aK)]))) x = some (.ins CW dx [("own_text", .str text), ("own_persons", .ref t), ("own_kinds", .ref AD.aK), ("own_rights", .ref AD.aT)]) := upd_same
  have k6 : Keeps x G5 (upd G5 x (.ins CW dx (putF "own_rights" (.ref AD.aT) [("own_text", .str text), ("own_persons", .ref t), ("own_kinds", .ref AD.aK)]))) := Keeps.at
  generalize upd G5 x (.ins CW dx (putF "own_rights" (.ref AD.aT) [("own_text", .str text), ("own_persons", .ref t), ("own_kinds", .ref AD.aK)])) = G6 at hx6 k6
  have k16 := k15.tr k6
  -- own_formulas
  refine ⟨_, rfl, AD.L, CL, AD.dx, _, _, rfl, k16 _ _ nL h1, LC.cls, LC.n6, rfl, AD.aF, _, rfl, .inl ⟨SqL.of (k16 _ _ nF hfs1), fun t2 nt2 => ?_⟩⟩
  have nt2x : t2 ≠ x := fun z => by rw [z, hx6] at nt2; cases nt2
  refine ⟨_, rfl, x, CW, dx, _, rfl, (new_same nt2) _ _ hx6, WC.cls, WC.n5, by show 4 < 1000; decide, ?_⟩
  have k7 : Keeps x G6 (upd (upd G6 t2 (.tup fs)) x (.ins CW dx (putF "own_formulas" (.ref t2) [("own_text", .str text), ("own_persons", .ref t), ("own_kinds", .ref AD.aK), ("own_rights", .ref AD.aT)]))) := Keeps.put nt2
  have hx7 : (upd (upd G6 t2 (.tup fs)) x (.ins CW dx (putF "own_formulas" (.ref t2) [("own_text", .str text), ("own_persons", .ref t), ("own_kinds", .ref AD.aK), ("own_rights", .ref AD.aT)]))) x = some (.ins CW dx (wflds text t AD.aK AD.aT t2)) := upd_same
  have gt2 : (upd (upd G6 t2 (.tup fs)) x (.ins CW dx (putF "own_formulas" (.ref t2) [("own_text", .str text), ("own_persons", .ref t), ("own_kinds", .ref AD.aK), ("own_rights", .ref AD.aT)]))) t2 = some (.tup fs) := by rw [upd_ne nt2x, upd_same]
  generalize upd (upd G6 t2 (.tup fs)) x (.ins CW dx (putF "own_formulas" (.ref t2) [("own_text", .str text), ("own_persons", .ref t), ("own_kinds", .ref AD.aK), ("own_rights", .ref AD.aT)])) = G7 at k7 hx7 gt2
  have k17 := k16.tr k7
  have g7 : G7 t = some (.tup (ys.map V.str)) := (((k4.tr k5).tr k6).tr k7) _ _ nt g3
  refine k G7 ⟨dx, t, AD.aK, AD.aT, t2, ys, fs, ts, hx7, ⟨hp1, hp2⟩, SqT.of g7, k17 _ _ nK hL1.ks, k17 _ _ nT hts1, ?_, SqT.of gt2, ?_⟩ (fun b o n1 n2 e => k17 _ _ n1 (kp1 _ _ n2 e)) (tabs_keeps hx1 k17 hL1.tb) (fun dx' t1 aK aT t2' e => by
    rw [hx7] at e
    simp only [wflds, Option.some.injEq, HO.ins.injEq, List.cons.injEq, Prod.mk.injEq, V.ref.injEq, true_and, and_true] at e
    obtain ⟨_, _, e1, e2, _⟩ := e
    rw [← e1, ← e2]
    exact ⟨hfr _ (by simp [Adr.fresh]), hfr _ (by simp [Adr.fresh])⟩)
  · refine Paired.imp (fun p v h => ?_) hts2
    obtain ⟨a, rfl, q⟩ := h
    exact ⟨a, rfl, sqT_keeps hx1 k17 (sqT_same bare_sub q)⟩
  · exact Paired.imp (fun f v h => FmAt.keeps hx1 k17 (FmAt.mono bare_sub h)) hfs2
end
end WK
end
section
set_option Elab.async false
set_option linter.all false
set_option maxRecDepth 100000
set_option maxHeartbeats 4000000
/-! a layer of plain data over HandS: values are trees, lists and dicts of a def's own are told by their contents -/
namespace DL
open PySem L2 PyProof.Rows
/-- what any def may change: the pot, the tables of code objects -/
structure Gp where
  p : Addr
  tb : List (Addr × Str)
def Gp.gl (q : Gp) : List Addr := q.p :: q.tb.map (·.1)
theorem Gp.mem (q : Gp) : q.p ∈ q.gl := List.mem_cons_self ..
abbrev Bs := Gp → List Addr → Hp → Prop
def ZT : Bs := fun _ _ _ => True
variable {Z : Bs}
inductive D where
  | non | bl (b : Bool) | int (i : Int) | str (z : Str)
  | lst (xs : List D) | tup (xs : List D)
  | dk (kvs : List (Key × D)) | dt (kvs : List (List Key × D))
  | obj (C : Addr) (fs : List (Str × D))
  | fn (a : Addr) | ty (n : String) | pot
/-- what a slot holds: plain data, or a thing of the def's own that may change -/
inductive T where
  | dead | d (x : D) | l (xs : List D) | k (kvs : List (Key × D)) | t (kvs : List (List Key × D)) | o (C : Addr) (fs : List (Str × D))
def T.owned : T → Bool
  | .dead => false
  | .d _ => false
  | _ => true
def T.frz : T → D
  | .dead => .non
  | .d x => x
  | .l xs => .lst xs
  | .k kvs => .dk kvs
  | .t kvs => .dt kvs
  | .o C fs => .obj C fs
/-! ### heaps -/
def bare (own : List Addr) (H : Hp) : Hp := fun b => if b ∈ own then none else H b
theorem bare_sub {own : List Addr} {H : Hp} : Same (bare own H) H := fun b o e => by
  unfold bare at e
  split at e
  · cases e
  · exact e
theorem bare_ne {own : List Addr} {H : Hp} {b : Addr} (h : b ∉ own) : bare own H b = H b := if_neg h
theorem bare_in {own : List Addr} {H : Hp} {b : Addr} (h : b ∈ own) : bare own H b = none := if_pos h
theorem bare_same {own : List Addr} {H G : Hp} (s : Same H G) : Same (bare own H) (bare own G) := fun b o e => by
  by_cases h : b ∈ own
  · rw [bare_in h] at e; cases e
  · rw [bare_ne h] at e ⊢; exact s b o e
theorem bare_upd {own : List Addr} {H : Hp} {b : Addr} {o : HO} (h : b ∈ own) : bare own (upd H b o) = bare own H := by
  funext c
  by_cases hc : c ∈ own
  · rw [bare_in hc, bare_in hc]
  · rw [bare_ne hc, bare_ne hc, upd_ne (fun z => hc (by rw [z]; exact h))]
theorem bare_less {own own' : List Addr} {H : Hp} (h : ∀ a ∈ own', a ∈ own) : Same (bare own H) (bare own' H) := fun b o e => by
  by_cases hb : b ∈ own
  · rw [bare_in hb] at e; cases e
  · rw [bare_ne hb] at e
    rw [bare_ne (fun z => hb (h b z))]
    exact e
/-- a new thing that is owned -/
theorem bare_new {own : List Addr} {H : Hp} {a : Addr} {o : HO} (h : H a = none) : Same (bare own H) (bare (a :: own) (upd H a o)) := fun b u e => by
  by_cases hb : b ∈ own
  · rw [bare_in hb] at e; cases e
  · rw [bare_ne hb] at e
    have hba : b ≠ a := ne_of_none e h
    rw [bare_ne (by simp [hba, hb]), upd_ne hba]
    exact e
theorem new_same {H : Hp} {q : Addr} {o : HO} (h : H q = none) : Same H (upd H q o) := fun b u e => by rw [upd_ne (ne_of_none e h)]; exact e
theorem same_rf {H : Hp} : Same H H := fun _ _ z => z
theorem same_tr {H H1 H2 : Hp} (a : Same H H1) (b : Same H1 H2) : Same H H2 := fun x o e => b x o (a x o e)
theorem sqT_same {K : PySem.W.Frag} {H H' : Hp} {a : Addr} {xs : List V} (e : Same H H') (h : SqT K H a xs) : SqT K H' a xs := by
  rcases h with (h | ⟨o, h⟩) | h
  · exact .inl (.inl (e _ _ h))
  · exact .inl (.inr ⟨o, e _ _ h⟩)
  · exact .inr h
/-! ### data in the heap; dicts that don't change any more are locked -/
mutual
inductive Rep (K : PySem.W.Frag) (p : Addr) (H : Hp) : D → V → Prop
  | non : Rep K p H .non .non
  | bl (b : Bool) : Rep K p H (.bl b) (.bl b)
  | int (i : Int) : Rep K p H (.int i) (.int i)
  | str (z : Str) : Rep K p H (.str z) (.str z)
  | lst {a : Addr} {ds : List D} {vs : List V} : H a = some (.lst vs) → Reps K p H ds vs → Rep K p H (.lst ds) (.ref a)
  | tup {a : Addr} {ds : List D} {vs : List V} : SqT K H a vs → Reps K p H ds vs → Rep K p H (.tup ds) (.ref a)
  | dk {a : Addr} {o : Obj} {kds : List (Key × D)} {kvs : List (Key × V)} : H a = some (.frz o (.dK kvs)) → kvs.map (·.1) = kds.map (·.1) → Reps K p H (kds.map (·.2)) (kvs.map (·.2)) → Rep K p H (.dk kds) (.ref a)
  | dt {a : Addr} {o : Obj} {kds : List (List Key × D)} {kvs : List (List Key × V)} : H a = some (.frz o (.dT kvs)) → kvs.map (·.1) = kds.map (·.1) → Reps K p H (kds.map (·.2)) (kvs.map (·.2)) → Rep K p H (.dt kds) (.ref a)
  | obj {a C dx : Addr} {fds : List (Str × D)} {fs : List (Str × V)} : H a = some (.ins C dx fs) → fs.map (·.1) = fds.map (·.1) → Reps K p H (fds.map (·.2)) (fs.map (·.2)) → Rep K p H (.obj C fds) (.ref a)
  | fn (a : Addr) : Rep K p H (.fn a) (.ref a)
  | ty (n : String) : Rep K p H (.ty n) (.ty n)
  | pot : Rep K p H .pot (.ref p)
inductive Reps (K : PySem.W.Frag) (p : Addr) (H : Hp) : List D → List V → Prop
  | nil : Reps K p H [] []
  | cons {d : D} {ds : List D} {v : V} {vs : List V} : Rep K p H d v → Reps K p H ds vs → Reps K p H (d :: ds) (v :: vs)
end
mutual
theorem Rep.mono {K : PySem.W.Frag} {p : Addr} {H H' : Hp} (e : Same H H') : ∀ {d : D} {v : V}, Rep K p H d v → Rep K p H' d v
  | _, _, .non => .non
  | _, _, .bl b => .bl b
  | _, _, .int i => .int i
  | _, _, .str z => .str z
  | _, _, .lst h1 h2 => .lst (e _ _ h1) (Reps.mono e h2)
  | _, _, .tup h1 h2 => .tup (sqT_same e h1) (Reps.mono e h2)
  | _, _, .dk h1 h2 h3 => .dk (e _ _ h1) h2 (Reps.mono e h3)
  | _, _, .dt h1 h2 h3 => .dt (e _ _ h1) h2 (Reps.mono e h3)
  | _, _, .obj h1 h2 h3 => .obj (e _ _ h1) h2 (Reps.mono e h3)
  | _, _, .fn a => .fn a
  | _, _, .ty n => .ty n
  | _, _, .pot => .pot
theorem Reps.mono {K : PySem.W.Frag} {p : Addr} {H H' : Hp} (e : Same H H') : ∀ {ds : List D} {vs : List V}, Reps K p H ds vs → Reps K p H' ds vs
  | _, _, .nil => .nil
  | _, _, .cons h1 h2 => .cons (Rep.mono e h1) (Reps.mono e h2)
end
section
variable {K : PySem.W.Frag} {p : Addr} {H B : Hp}
theorem Reps.len : ∀ {ds : List D} {vs : List V}, Reps K p H ds vs → ds.length = vs.length
  | _, _, .nil => rfl
  | _, _, .cons _ h => congrArg (· + 1) h.len
theorem Reps.append : ∀ {ds es : List D} {vs ws : List V}, Reps K p H ds vs → Reps K p H es ws → Reps K p H (ds ++ es) (vs ++ ws)
  | _, _, _, _, .nil, h => h
  | _, _, _, _, .cons a t, h => .cons a (t.append h)
theorem Reps.get : ∀ {ds : List D} {vs : List V} {i : Nat} {d : D}, Reps K p H ds vs → ds[i]? = some d → ∃ v, vs[i]? = some v ∧ Rep K p H d v
  | _, _, _, _, .nil, e => by simp at e
  | _, _, 0, _, .cons a t, e => by simp at e; subst e; exact ⟨_, rfl, a⟩
  | _, _, i + 1, _, .cons a t, e => by
    obtain ⟨v, h1, h2⟩ := t.get (i := i) (by simpa using e)
    exact ⟨v, by simpa using h1, h2⟩
theorem Reps.getV : ∀ {ds : List D} {vs : List V} {i : Nat} {v : V}, Reps K p H ds vs → vs[i]? = some v → ∃ d, ds[i]? = some d ∧ Rep K p H d v
  | _, _, _, _, .nil, e => by simp at e
  | _, _, 0, _, .cons a t, e => by simp at e; subst e; exact ⟨_, rfl, a⟩
  | _, _, i + 1, _, .cons a t, e => by
    obtain ⟨v, h1, h2⟩ := t.getV (i := i) (by simpa using e)
    exact ⟨v, by simpa using h1, h2⟩
theorem Reps.take (n : Nat) : ∀ {ds : List D} {vs : List V}, Reps K p H ds vs → Reps K p H (ds.take n) (vs.take n) := by
  induction n with
  | zero => intro ds vs _; rw [List.take_zero, List.take_zero]; exact .nil
  | succ n ih =>
    intro ds vs h
    cases h with
    | nil => exact .nil
    | cons a t => exact .cons a (ih t)
theorem Reps.drop (n : Nat) : ∀ {ds : List D} {vs : List V}, Reps K p H ds vs → Reps K p H (ds.drop n) (vs.drop n) := by
  induction n with
  | zero => intro ds vs h; exact h
  | succ n ih =>
    intro ds vs h
    cases h with
    | nil => exact .nil
    | cons a t => exact ih t
theorem Reps.set (n : Nat) {d : D} {v : V} (r : Rep K p H d v) : ∀ {ds : List D} {vs : List V}, Reps K p H ds vs → Reps K p H (ds.set n d) (vs.set n v) := by
  induction n with
  | zero =>
    intro ds vs h
    cases h with
    | nil => exact .nil
    | cons a t => exact .cons r t
  | succ n ih =>
    intro ds vs h
    cases h with
    | nil => exact .nil
    | cons a t => exact .cons a (ih t)
theorem Reps.eraseIdx (n : Nat) : ∀ {ds : List D} {vs : List V}, Reps K p H ds vs → Reps K p H (ds.eraseIdx n) (vs.eraseIdx n) := by
  induction n with
  | zero =>
    intro ds vs h
    cases h with
    | nil => exact .nil
    | cons a t => exact t
  | succ n ih =>
    intro ds vs h
    cases h with
    | nil => exact .nil
    | cons a t => exact .cons a (ih t)
theorem Reps.rev : ∀ {ds : List D} {vs : List V}, Reps K p H ds vs → Reps K p H ds.reverse vs.reverse
  | _, _, .nil => .nil
  | _, _, .cons a t => by
    rw [List.reverse_cons, List.reverse_cons]
    exact t.rev.append (.cons a .nil)
end
/-- the outermost thing stands in H, what it holds in B -/
inductive Rep1 (K : PySem.W.Frag) (p : Addr) (B H : Hp) : D → V → Prop
  | non : Rep1 K p B H .non .non
  | bl (b : Bool) : Rep1 K p B H (.bl b) (.bl b)
  | int (i : Int) : Rep1 K p B H (.int i) (.int i)
  | str (z : Str) : Rep1 K p B H (.str z) (.str z)
  | lst {a : Addr} {ds : List D} {vs : List V} : H a = some (.lst vs) → Reps K p B ds vs → Rep1 K p B H (.lst ds) (.ref a)
  | tup {a : Addr} {ds : List D} {vs : List V} : SqT K B a vs → Reps K p B ds vs → Rep1 K p B H (.tup ds) (.ref a)
  | dk {a : Addr} {kds : List (Key × D)} {kvs : List (Key × V)} : Rd H a (.dK kvs) → kvs.map (·.1) = kds.map (·.1) → Reps K p B (kds.map (·.2)) (kvs.map (·.2)) → Rep1 K p B H (.dk kds) (.ref a)
  | dt {a : Addr} {kds : List (List Key × D)} {kvs : List (List Key × V)} : Rd H a (.dT kvs) → kvs.map (·.1) = kds.map (·.1) → Reps K p B (kds.map (·.2)) (kvs.map (·.2)) → Rep1 K p B H (.dt kds) (.ref a)
  | obj {a C dx : Addr} {fds : List (Str × D)} {fs : List (Str × V)} : H a = some (.ins C dx fs) → fs.map (·.1) = fds.map (·.1) → Reps K p B (fds.map (·.2)) (fs.map (·.2)) → Rep1 K p B H (.obj C fds) (.ref a)
  | fn (a : Addr) : Rep1 K p B H (.fn a) (.ref a)
  | ty (n : String) : Rep1 K p B H (.ty n) (.ty n)
  | pot : Rep1 K p B H .pot (.ref p)
theorem Rep.top {K : PySem.W.Frag} {p : Addr} {B H : Hp} (s : Same B H) {d : D} {v : V} (h : Rep K p B d v) : Rep1 K p B H d v := by
  cases h with
  | non => exact .non
  | bl b => exact .bl b
  | int b => exact .int b
  | str b => exact .str b
  | lst h1 h2 => exact .lst (s _ _ h1) h2
  | tup h1 h2 => exact .tup h1 h2
  | dk h1 h2 h3 => exact .dk (.inr ⟨_, s _ _ h1⟩) h2 h3
  | dt h1 h2 h3 => exact .dt (.inr ⟨_, s _ _ h1⟩) h2 h3
  | obj h1 h2 h3 => exact .obj (s _ _ h1) h2 h3
  | fn a => exact .fn a
  | ty n => exact .ty n
  | pot => exact .pot
/-! ### the state of a def's body -/
structure Gh where
  own : List Addr
  prot : List Addr
  q : Gp
  own0 : List Addr
  H0 : Hp
abbrev Gh.p (g : Gh) : Addr := g.q.p
structure Sx where
  ρ : List T
  n : Nat
abbrev Sx.at (S : Sx) (i : Nat) : Option T := S.ρ[i]?
abbrev Sx.put (S : Sx) (i : Nat) (t : T) : Sx := ⟨S.ρ.set i t, S.n⟩
/-- a draw's pot: three ints, at least n draws are left -/
def PotB (H : Hp) (p : Addr) (n : Nat) : Prop := ∃ a b c : Int, H p = some (.lst [.int a, .int b, .int c]) ∧ 0 ≤ b ∧ b < 2 ^ 62 ∧ 0 ≤ c ∧ c + n ≤ 1000000
def isTupO : HO → Bool
  | .tup _ => true
  | .frz _ u => isTupO u
  | _ => false
/-- something stands there, and it is no tuple -/
def Lv (H : Hp) (a : Addr) : Prop := ∃ o, H a = some o ∧ isTupO o = false
theorem Lv.ne {H : Hp} {a : Addr} (h : Lv H a) : H a ≠ none := by
  obtain ⟨o, e, _⟩ := h
  rw [e]
  simp
theorem Lv.same {H H1 : Hp} {a : Addr} (h : Lv H a) (s : Same H H1) : Lv H1 a := by
  obtain ⟨o, e, t⟩ := h
  exact ⟨o, s _ _ e, t⟩
theorem Lv.upd {H : Hp} {a b : Addr} {o : HO} (h : Lv H a) (t : isTupO o = false) : Lv (upd H b o) a := by
  by_cases z : a = b
  · exact ⟨o, by rw [z, upd_same], t⟩
  · obtain ⟨u, e, t⟩ := h
    exact ⟨u, by rw [upd_ne z]; exact e, t⟩
structure GOk (g : Gh) (H : Hp) (n : Nat) : Prop where
  sub : ∀ a ∈ g.prot, a ∈ g.own
  pin : ∀ a ∈ g.q.gl, a ∈ g.own
  pnp : ∀ a ∈ g.q.gl, a ∉ g.prot
  lv : ∀ a ∈ g.own, Lv H a
  pot : PotB H g.p n
  tabs : LamX.Tabs g.q.tb H
  b0 : ∀ a ∈ g.own0, a ∈ g.own
  b1 : Same (bare g.own0 g.H0) (bare g.own H)
  b2 : ∀ a ∈ g.prot, H a = g.H0 a
  b3 : ∀ a ∈ g.own0, a ∈ g.q.gl ∨ a ∈ g.prot
theorem GOk.live {g : Gh} {H : Hp} {n : Nat} (h : GOk g H n) : ∀ a ∈ g.own, H a ≠ none := fun a ha => (h.lv a ha).ne
/-- the thing o is what t tells -/
def OwnO (K : PySem.W.Frag) (p : Addr) (B : Hp) : T → HO → Prop
  | .l ds, o => ∃ vs, o = .lst vs ∧ Reps K p B ds vs
  | .k kds, o => ∃ kvs, o = .dK kvs ∧ kvs.map (·.1) = kds.map (·.1) ∧ Reps K p B (kds.map (·.2)) (kvs.map (·.2))
  | .t kds, o => ∃ kvs, o = .dT kvs ∧ kvs.map (·.1) = kds.map (·.1) ∧ Reps K p B (kds.map (·.2)) (kvs.map (·.2))
  | .o C fds, o => ∃ dx fs, o = .ins C dx fs ∧ fs.map (·.1) = fds.map (·.1) ∧ Reps K p B (fds.map (·.2)) (fs.map (·.2))
  | _, _ => False
theorem OwnO.mono {K : PySem.W.Frag} {p : Addr} {B B' : Hp} (s : Same B B') {t : T} {o : HO} (h : OwnO K p B t o) : OwnO K p B' t o := by
  cases t with
  | dead => exact h
  | d x => exact h
  | l ds => obtain ⟨vs, e, r⟩ := h; exact ⟨vs, e, r.mono s⟩
  | k ds => obtain ⟨vs, e, k, r⟩ := h; exact ⟨vs, e, k, r.mono s⟩
  | t ds => obtain ⟨vs, e, k, r⟩ := h; exact ⟨vs, e, k, r.mono s⟩
  | o C ds => obtain ⟨dx, vs, e, k, r⟩ := h; exact ⟨dx, vs, e, k, r.mono s⟩
theorem OwnO.owned {K : PySem.W.Frag} {p : Addr} {B : Hp} {t : T} {o : HO} (h : OwnO K p B t o) : t.owned = true := by
  cases t with
  | dead => exact h.elim
  | d x => exact h.elim
  | _ => rfl
theorem OwnO.top {K : PySem.W.Frag} {p : Addr} {B H : Hp} {t : T} {o : HO} {a : Addr} (h : OwnO K p B t o) (e : H a = some o) : Rep1 K p B H t.frz (.ref a) := by
  cases t with
  | dead => exact h.elim
  | d x => exact h.elim
  | l ds => obtain ⟨vs, rfl, r⟩ := h; exact .lst e r
  | k ds => obtain ⟨vs, rfl, k, r⟩ := h; exact .dk (.inl e) k r
  | t ds => obtain ⟨vs, rfl, k, r⟩ := h; exact .dt (.inl e) k r
  | o C ds => obtain ⟨dx, vs, rfl, k, r⟩ := h; exact .obj e k r
/-- an owned thing at a -/
structure OwnA (K : PySem.W.Frag) (g : Gh) (H : Hp) (t : T) (a : Addr) : Prop where
  own : a ∈ g.own
  np : a ∉ g.prot
  nq : a ∉ g.q.gl
  n0 : a ∉ g.own0
  obj : ∃ o, H a = some o ∧ OwnO K g.p (bare g.own H) t o
def Slot (K : PySem.W.Frag) (g : Gh) (H : Hp) (t : T) (u : Option V) : Prop := match t with
  | .dead => True
  | .d x => ∃ v, u = some v ∧ Rep K g.p (bare g.own H) x v
  | t => ∃ a, u = some (.ref a) ∧ OwnA K g H t a
structure EnvOk (K : PySem.W.Frag) (Z : Bs) (g : Gh) (H : Hp) (S : Sx) (σ : L2.St) : Prop where
  gok : GOk g H S.n
  hb : Z g.q g.own0 g.H0
  len : σ.length = S.ρ.length
  slot : ∀ (i : Nat) (t : T), S.ρ[i]? = some t → ∃ u, σ[i]? = some u ∧ Slot K g H t u
  dist : ∀ (i j : Nat) (ti tj : T) (a : Addr), S.ρ[i]? = some ti → S.ρ[j]? = some tj → ti.owned = true → tj.owned = true → σ[i]? = some (some (.ref a)) → σ[j]? = some (some (.ref a)) → i = j
structure Step (g : Gh) (H : Hp) (g' : Gh) (H' : Hp) : Prop where
  q : g'.q = g.q
  prot : g'.prot = g.prot
  own0 : g'.own0 = g.own0
  H0 : g'.H0 = g.H0
  same : Same (bare g.own H) (bare g'.own H')
  keep : ∀ a ∈ g.prot, H' a = H a
theorem Step.p {g g' : Gh} {H H' : Hp} (s : Step g H g' H') : g'.p = g.p := congrArg Gp.p s.q
theorem Step.rf {g : Gh} {H : Hp} : Step g H g H := ⟨rfl, rfl, rfl, rfl, same_rf, fun _ _ => rfl⟩
theorem Step.tr {g g1 g2 : Gh} {H H1 H2 : Hp} (a : Step g H g1 H1) (b : Step g1 H1 g2 H2) : Step g H g2 H2 :=
  ⟨b.q.trans a.q, b.prot.trans a.prot, b.own0.trans a.own0, b.H0.trans a.H0, same_tr a.same b.same, fun x hx => (b.keep x (by rw [a.prot]; exact hx)).trans (a.keep x hx)⟩
/-- a value: plain data; the thing of a slot; a new thing -/
inductive Vl where
  | v (d : D) | s (i : Nat) | n (t : T)
def RepV (K : PySem.W.Frag) (g : Gh) (H : Hp) (S : Sx) (σ : L2.St) : Vl → V → Prop
  | .v d, v => Rep K g.p (bare g.own H) d v
  | .s i, v => σ[i]? = some (some v)
  | .n t, v => ∃ a, v = .ref a ∧ OwnA K g H t a ∧ ∀ (i : Nat) (ti : T), S.ρ[i]? = some ti → ti.owned = true → σ[i]? ≠ some (some (V.ref a))
/-- what it is as data, as it stands -/
def deref (S : Sx) : Vl → Option D
  | .v d => some d
  | .s i => match S.ρ[i]? with
    | some .dead => none
    | some t => some t.frz
    | none => none
  | .n t => some t.frz
/-- .. from now on -/
def frzE (S : Sx) : Vl → Option (D × Sx)
  | .v d => some (d, S)
  | .s i => match S.ρ[i]? with
    | some .dead => none
    | some t => some (t.frz, S.put i (.d t.frz))
    | none => none
  | .n t => some (t.frz, S)
section
variable {K : PySem.W.Frag} {g : Gh} {H H1 : Hp} {S : Sx} {σ : L2.St}
/-- tables, where another thing is written -/
theorem tabs_over {T : List (Addr × Str)} {pp : Addr} {o o' : HO} (h : H pp = some o) (n1 : ∀ ps, o ≠ .tbl ps) (n2 : ∀ c q, o ≠ LamX.CodeO c q) (t : LamX.Tabs T H) : LamX.Tabs T (upd H pp o') := fun p hp => by
  obtain ⟨ps, a1, a2, a3⟩ := t p hp
  refine ⟨ps, ?_, a2, fun pos cv hc => ?_⟩
  · rw [upd_ne (fun z => n1 ps (by rw [z] at a1; exact Option.some.inj (h.symm.trans a1)))]
    exact a1
  · obtain ⟨c, e, q⟩ := a3 pos cv hc
    refine ⟨c, e, ?_⟩
    rw [upd_ne (fun z => n2 c p.2 (by rw [z] at q ⊢; exact Option.some.inj (h.symm.trans q)))]
    exact q
theorem OwnO.plain {p : Addr} {B : Hp} {t : T} {o : HO} (h : OwnO K p B t o) : (∀ ps, o ≠ .tbl ps) ∧ ∀ c q, o ≠ LamX.CodeO c q := by
  cases t with
  | dead => exact h.elim
  | d x => exact h.elim
  | l ds => obtain ⟨vs, rfl, _⟩ := h; exact ⟨(fun _ z => by cases z), fun c q z => by unfold LamX.CodeO at z; cases z⟩
  | k ds => obtain ⟨vs, rfl, _⟩ := h; exact ⟨(fun _ z => by cases z), fun c q z => by unfold LamX.CodeO at z; cases z⟩
  | t ds => obtain ⟨vs, rfl, _⟩ := h; exact ⟨(fun _ z => by cases z), fun c q z => by unfold LamX.CodeO at z; cases z⟩
  | o C ds => obtain ⟨dx, vs, rfl, _⟩ := h; exact ⟨(fun _ z => by cases z), fun c q z => by unfold LamX.CodeO at z; cases z⟩
theorem GOk.keep {n : Nat} (h : GOk g H n) (s : Same H H1) : ∀ a ∈ g.prot, H1 a = H a := fun a ha => by
  cases e : H a with
  | none => exact absurd e (h.live a (h.sub a ha))
  | some o => exact s _ _ e
theorem GOk.same {n : Nat} (h : GOk g H n) (s : Same H H1) : GOk g H1 n := by
  refine ⟨h.sub, h.pin, h.pnp, fun a ha => (h.lv a ha).same s, ?_, h.tabs.ext s, h.b0, same_tr h.b1 (bare_same s), fun a ha => (h.keep s a ha).trans (h.b2 a ha), h.b3⟩
  obtain ⟨a, b, c, e, r⟩ := h.pot
  exact ⟨a, b, c, s _ _ e, r⟩
theorem OwnA.same {t : T} {a : Addr} (h : OwnA K g H t a) (s : Same H H1) : OwnA K g H1 t a := by
  obtain ⟨o, e, q⟩ := h.obj
  exact ⟨h.own, h.np, h.nq, h.n0, o, s _ _ e, q.mono (bare_same s)⟩
theorem Slot.same {t : T} {u : Option V} (h : Slot K g H t u) (s : Same H H1) : Slot K g H1 t u := by
  cases t with
  | dead => exact h
  | d x => obtain ⟨v, e, r⟩ := h; exact ⟨v, e, r.mono (bare_same s)⟩
  | l _ => obtain ⟨a, e, r⟩ := h; exact ⟨a, e, r.same s⟩
  | k _ => obtain ⟨a, e, r⟩ := h; exact ⟨a, e, r.same s⟩
  | t _ => obtain ⟨a, e, r⟩ := h; exact ⟨a, e, r.same s⟩
  | o _ _ => obtain ⟨a, e, r⟩ := h; exact ⟨a, e, r.same s⟩
/-- the heap only grows -/
theorem EnvOk.same (h : EnvOk K Z g H S σ) (s : Same H H1) : EnvOk K Z g H1 S σ :=
  ⟨h.gok.same s, h.hb, h.len, fun i t e => by obtain ⟨u, e1, e2⟩ := h.slot i t e; exact ⟨u, e1, e2.same s⟩, h.dist⟩
theorem Step.grow {n : Nat} (h : GOk g H n) (s : Same H H1) : Step g H g H1 := ⟨rfl, rfl, rfl, rfl, bare_same s, h.keep s⟩
theorem Slot.owned {t : T} {u : Option V} (h : Slot K g H t u) (o : t.owned = true) : ∃ a, u = some (.ref a) ∧ OwnA K g H t a := by
  cases t with
  | dead => cases o
  | d x => cases o
  | _ => exact h
theorem slot_of {t : T} {a : Addr} (h : OwnA K g H t a) : Slot K g H t (some (.ref a)) := by
  obtain ⟨o, e, q⟩ := h.obj
  cases t with
  | dead => exact trivial
  | d x => exact q.elim
  | _ => exact ⟨a, rfl, h⟩
/-- .. and a new thing stands in it that is one's own -/
theorem OwnO.notup {p : Addr} {B : Hp} {t : T} {o : HO} (h : OwnO K p B t o) : isTupO o = false := by
  cases t with
  | dead => exact h.elim
  | d x => exact h.elim
  | l ds => obtain ⟨vs, rfl, _⟩ := h; rfl
  | k ds => obtain ⟨vs, rfl, _⟩ := h; rfl
  | t ds => obtain ⟨vs, rfl, _⟩ := h; rfl
  | o C ds => obtain ⟨dx, vs, rfl, _⟩ := h; rfl
theorem GOk.new {n : Nat} (h : GOk g H n) {a : Addr} {o : HO} (hn : H a = none) (ht : isTupO o = false) : GOk { g with own := a :: g.own } (upd H a o) n := by
  refine ⟨fun b hb => List.mem_cons_of_mem _ (h.sub b hb), fun b hb => List.mem_cons_of_mem _ (h.pin b hb), h.pnp, fun b hb => ?_, ?_, h.tabs.ext (new_same hn), fun b hb => List.mem_cons_of_mem _ (h.b0 b hb), same_tr h.b1 (bare_new hn), fun b hb => ?_, h.b3⟩
  · rcases List.mem_cons.mp hb with q | q
    · exact ⟨o, by rw [q, upd_same], ht⟩
    · exact (h.lv b q).upd ht
  · obtain ⟨x, b, c, e, r⟩ := h.pot
    exact ⟨x, b, c, new_same hn _ _ e, r⟩
  · rw [upd_ne (fun z => h.live b (h.sub b hb) (by rw [z]; exact hn))]
    exact h.b2 b hb
theorem not_own {n : Nat} (h : GOk g H n) {a : Addr} (hn : H a = none) : a ∉ g.own := fun z => h.live a z hn
theorem OwnA.new {t : T} {b : Addr} (h : OwnA K g H t b) {a : Addr} {o : HO} (hn : H a = none) : OwnA K { g with own := a :: g.own } (upd H a o) t b := by
  obtain ⟨u, e, q⟩ := h.obj
  exact ⟨List.mem_cons_of_mem _ h.own, h.np, h.nq, h.n0, u, new_same hn _ _ e, q.mono (bare_new hn)⟩
theorem Slot.new {t : T} {u : Option V} (h : Slot K g H t u) {a : Addr} {o : HO} (hn : H a = none) : Slot K { g with own := a :: g.own } (upd H a o) t u := by
  cases t with
  | dead => exact h
  | d x => obtain ⟨v, e, r⟩ := h; exact ⟨v, e, r.mono (bare_new hn)⟩
  | l _ => obtain ⟨b, e, r⟩ := h; exact ⟨b, e, r.new hn⟩
  | k _ => obtain ⟨b, e, r⟩ := h; exact ⟨b, e, r.new hn⟩
  | t _ => obtain ⟨b, e, r⟩ := h; exact ⟨b, e, r.new hn⟩
  | o _ _ => obtain ⟨b, e, r⟩ := h; exact ⟨b, e, r.new hn⟩
theorem EnvOk.new (h : EnvOk K Z g H S σ) {a : Addr} {o : HO} (hn : H a = none) {t : T} (ho : OwnO K g.p (bare g.own H) t o) :
    EnvOk K Z { g with own := a :: g.own } (upd H a o) S σ ∧ RepV K { g with own := a :: g.own } (upd H a o) S σ (.n t) (.ref a) ∧ Step g H { g with own := a :: g.own } (upd H a o) := by
  refine ⟨⟨h.gok.new hn ho.notup, h.hb, h.len, fun i t e => by obtain ⟨u, e1, e2⟩ := h.slot i t e; exact ⟨u, e1, e2.new hn⟩, h.dist⟩, ⟨a, rfl, ⟨List.mem_cons_self .., fun z => not_own h.gok hn (h.gok.sub a z), fun z => not_own h.gok hn (h.gok.pin a z), fun z => not_own h.gok hn (h.gok.b0 a z), o, upd_same, ho.mono (bare_new hn)⟩, fun i ti e oi q => ?_⟩, ⟨rfl, rfl, rfl, rfl, bare_new hn, fun b hb => ?_⟩⟩
  · obtain ⟨u, e1, e2⟩ := h.slot i ti e
    obtain ⟨b, e3, q2⟩ := e2.owned oi
    rw [q] at e1
    cases e1
    cases e3
    obtain ⟨_, e4, _⟩ := q2.obj
    rw [hn] at e4
    cases e4
  · exact upd_ne fun z => not_own h.gok hn (by rw [← z]; exact h.gok.sub b hb)
/-! ### borrowing -/
theorem slot_top {t : T} {u : Option V} (h : Slot K g H t u) (nd : t ≠ .dead) : ∃ v, u = some v ∧ Rep1 K g.p (bare g.own H) H t.frz v := by
  cases t with
  | dead => exact absurd rfl nd
  | d x => obtain ⟨v, e, r⟩ := h; exact ⟨v, e, r.top bare_sub⟩
  | l _ => obtain ⟨a, e, r⟩ := h; obtain ⟨o, e1, e2⟩ := r.obj; exact ⟨_, e, e2.top e1⟩
  | k _ => obtain ⟨a, e, r⟩ := h; obtain ⟨o, e1, e2⟩ := r.obj; exact ⟨_, e, e2.top e1⟩
  | t _ => obtain ⟨a, e, r⟩ := h; obtain ⟨o, e1, e2⟩ := r.obj; exact ⟨_, e, e2.top e1⟩
  | o _ _ => obtain ⟨a, e, r⟩ := h; obtain ⟨o, e1, e2⟩ := r.obj; exact ⟨_, e, e2.top e1⟩
theorem deref_rep (h : EnvOk K Z g H S σ) {r : Vl} {v : V} (hr : RepV K g H S σ r v) {d : D} (e : deref S r = some d) : Rep1 K g.p (bare g.own H) H d v := by
  cases r with
  | v x => cases e; exact Rep.top bare_sub hr
  | s i =>
    unfold deref at e
    dsimp only at e
    cases q : S.ρ[i]? with
    | none => rw [q] at e; cases e
    | some t =>
      rw [q] at e
      obtain ⟨u, e1, e2⟩ := h.slot i t q
      have hr' : σ[i]? = some (some v) := hr
      rw [hr'] at e1
      cases e1
      have nd : t ≠ .dead := fun z => by subst z; cases e
      obtain ⟨v', e3, r'⟩ := slot_top e2 nd
      cases e3
      have : d = t.frz := by cases t with | dead => exact absurd rfl nd | _ => cases e; rfl
      rw [this]
      exact r'
  | n t =>
    cases e
    obtain ⟨a, rfl, o, _⟩ := hr
    obtain ⟨u, e1, e2⟩ := o.obj
    exact e2.top e1
end
/-! ### locking -/
inductive LockC (Q : Hp → Prop) : Hp → Prop
  | now {H : Hp} : Q H → LockC Q H
  | lock {H : Hp} (d : Addr) (u : HO) : H d = some u → Mut (some u) → (∀ od, LockC Q (upd H d (.frz od u))) → LockC Q H
theorem LockC.inv {X : Cx} {pins : List (Addr × Obj)} {σ : L2.St} {s : Shared} {Q : Hp → Prop} {H : Hp} (h : LockC Q H) : Inv X pins σ H s → ∃ H', Inv X pins σ H' s ∧ Q H' := by
  induction h with
  | now q => exact fun I => ⟨_, I, q⟩
  | lock d u e m _ ih =>
    intro I
    obtain ⟨od, I'⟩ := I.lock e m
    exact ih od I'
theorem LockC.mono {Q Q' : Hp → Prop} (k : ∀ H, Q H → Q' H) {H : Hp} (h : LockC Q H) : LockC Q' H := by
  induction h with
  | now q => exact .now (k _ q)
  | lock d u e m _ ih => exact .lock d u e m ih
section
variable {X : Cx}
theorem PE.imp {e : Expr} {t t' : TE} (h : PE X e t) (i : ∀ σ H Q, t' σ H Q → t σ H fun v H' => LockC (Q v) H') : PE X e t' :=
  ⟨fun pins s σ H Q I q => thn (h.run pins s σ H _ I (i σ H Q q)) fun u s1 ⟨v, H1, I1, r, c⟩ => by
    obtain ⟨H2, I2, q2⟩ := c.inv I1
    exact ⟨v, H2, I2, r, q2⟩⟩
theorem PT.imp {e : Expr} {t t' : TT} (h : PT X e t) (i : ∀ σ H Q, t' σ H Q → t σ H fun v H' => LockC (Q v) H') : PT X e t' :=
  ⟨fun pins s σ H Q I q => thn (h.run pins s σ H _ I (i σ H Q q)) fun u s1 ⟨H1, I1, c⟩ => by
    obtain ⟨H2, I2, q2⟩ := c.inv I1
    exact ⟨H2, I2, q2⟩⟩
theorem PA.imp {es : List Expr} {t t' : TA} (h : PA X es t) (i : ∀ σ H Q, t' σ H Q → t σ H fun v H' => LockC (Q v) H') : PA X es t' :=
  ⟨fun pos pins s σ H Q I q => thn (h.run pos pins s σ H _ I (i σ H Q q)) fun u s1 ⟨v, H1, I1, r, c⟩ => by
    obtain ⟨H2, I2, q2⟩ := c.inv I1
    exact ⟨v, H2, I2, r, q2⟩⟩
theorem PS.imp {st : Stmt} {t t' : TS} (h : PS X st t) (i : ∀ D σ H, t' D σ H → t D σ H) : PS X st t' :=
  ⟨fun pins s σ H D I q => h.run pins s σ H D I (i D σ H q)⟩
theorem PSs.imp {st : List Stmt} {t t' : TS} (h : PSs X st t) (i : ∀ D σ H, t' D σ H → t D σ H) : PSs X st t' :=
  ⟨fun pins s σ H D I q => h.run pins s σ H D I (i D σ H q)⟩
/-- locks at the ends of a statement -/
def EndsL (E : Ends) : Ends := ⟨fun σ H => LockC (E.nx σ) H, fun v H => LockC (E.rt v) H, fun σ H => LockC (E.bk σ) H, fun σ H => LockC (E.ct σ) H⟩
theorem PS.impL {st : Stmt} {t t' : TS} (h : PS X st t) (i : ∀ D σ H, t' D σ H → t (EndsL D) σ H) : PS X st t' :=
  ⟨fun pins s σ H D I q => thn (h.run pins s σ H (EndsL D) I (i D σ H q)) fun f s1 z => by
    cases f with
    | next => obtain ⟨σ', H1, I1, c⟩ := z; obtain ⟨H2, I2, q2⟩ := LockC.inv c I1; exact ⟨σ', H2, I2, q2⟩
    | brk => obtain ⟨σ', H1, I1, c⟩ := z; obtain ⟨H2, I2, q2⟩ := LockC.inv c I1; exact ⟨σ', H2, I2, q2⟩
    | cont => obtain ⟨σ', H1, I1, c⟩ := z; obtain ⟨H2, I2, q2⟩ := LockC.inv c I1; exact ⟨σ', H2, I2, q2⟩
    | ret u => obtain ⟨v, σ', H1, I1, r, c⟩ := z; obtain ⟨H2, I2, q2⟩ := LockC.inv c I1; exact ⟨v, σ', H2, I2, r, q2⟩⟩
end
/-! ### freezing -/
section
variable {K : PySem.W.Frag} {g : Gh} {H : Hp} {S : Sx} {σ : L2.St}
def Gh.less (g : Gh) (a : Addr) : Gh := { g with own := g.own.filter (· ≠ a) }
theorem less_mem {a b : Addr} : b ∈ (g.less a).own ↔ b ∈ g.own ∧ b ≠ a := by simp [Gh.less]
theorem less_same {a : Addr} {H1 : Hp} (hs : ∀ b, b ≠ a → H1 b = H b) : a ∈ g.own → Same (bare g.own H) (bare (g.less a).own H1) := fun ha b o e => by
  by_cases hb : b ∈ g.own
  · rw [bare_in hb] at e; cases e
  · rw [bare_ne hb] at e
    have hba : b ≠ a := fun z => hb (by rw [z]; exact ha)
    rw [bare_ne (fun z => hb (less_mem.mp z).1), hs b hba]
    exact e
/-- the thing at a is data from now on (H1 is H, the thing at a perhaps locked) -/
theorem thaw {t : T} {a : Addr} (h : EnvOk K Z g H S σ) (o : OwnA K g H t a) : LockC (fun H1 => (∀ b, b ≠ a → H1 b = H b) ∧ LamX.Tabs g.q.tb H1 ∧ Rep K g.p (bare (g.less a).own H1) t.frz (.ref a)) H := by
  obtain ⟨u, e, q⟩ := o.obj
  have tb : ∀ o', LamX.Tabs g.q.tb (upd H a o') := fun o' => tabs_over e q.plain.1 q.plain.2 h.gok.tabs
  have na : a ∉ (g.less a).own := fun z => (less_mem.mp z).2 rfl
  cases t with
  | dead => exact q.elim
  | d x => exact q.elim
  | l ds =>
    obtain ⟨vs, rfl, r⟩ := q
    exact .now ⟨fun _ _ => rfl, h.gok.tabs, .lst (by rw [bare_ne na]; exact e) (r.mono (less_same (fun _ _ => rfl) o.own))⟩
  | k ds =>
    obtain ⟨vs, rfl, k, r⟩ := q
    refine .lock a _ e trivial fun od => .now ⟨fun b hb => upd_ne hb, tb _, .dk (o := od) (by rw [bare_ne na]; exact upd_same) k (r.mono (less_same (fun b hb => upd_ne hb) o.own))⟩
  | t ds =>
    obtain ⟨vs, rfl, k, r⟩ := q
    refine .lock a _ e trivial fun od => .now ⟨fun b hb => upd_ne hb, tb _, .dt (o := od) (by rw [bare_ne na]; exact upd_same) k (r.mono (less_same (fun b hb => upd_ne hb) o.own))⟩
  | o C ds =>
    obtain ⟨dx, vs, rfl, k, r⟩ := q
    exact .now ⟨fun _ _ => rfl, h.gok.tabs, .obj (by rw [bare_ne na]; exact e) k (r.mono (less_same (fun _ _ => rfl) o.own))⟩
theorem GOk.less {n : Nat} (h : GOk g H n) {a : Addr} {H1 : Hp} (hs : ∀ b, b ≠ a → H1 b = H b) (tb : LamX.Tabs g.q.tb H1) (ha : a ∈ g.own) (np : a ∉ g.prot) (nq : a ∉ g.q.gl) (n0 : a ∉ g.own0) : GOk (g.less a) H1 n := by
  refine ⟨fun b hb => less_mem.mpr ⟨h.sub b hb, fun z => np (by rw [← z]; exact hb)⟩, fun b hb => less_mem.mpr ⟨h.pin b hb, fun z => nq (by rw [← z]; exact hb)⟩, h.pnp, fun b hb => ?_, ?_, tb, fun b hb => less_mem.mpr ⟨h.b0 b hb, fun z => n0 (by rw [← z]; exact hb)⟩, same_tr h.b1 (less_same hs ha), fun b hb => (hs b (fun z => np (by rw [← z]; exact hb))).trans (h.b2 b hb), h.b3⟩
  · obtain ⟨h1, h2⟩ := less_mem.mp hb
    obtain ⟨o, e, t⟩ := h.lv b h1
    exact ⟨o, by rw [hs b h2]; exact e, t⟩
  · obtain ⟨x, y, c, e, r⟩ := h.pot
    exact ⟨x, y, c, by show H1 g.p = _; rw [hs _ (fun z => nq (by rw [← z]; exact g.q.mem))]; exact e, r⟩
theorem OwnA.less {t : T} {a b : Addr} {H1 : Hp} (h : OwnA K g H t b) (hs : ∀ b, b ≠ a → H1 b = H b) (ha : a ∈ g.own) (hab : b ≠ a) : OwnA K (g.less a) H1 t b := by
  obtain ⟨u, e, q⟩ := h.obj
  exact ⟨less_mem.mpr ⟨h.own, hab⟩, h.np, h.nq, h.n0, u, by rw [hs b hab]; exact e, q.mono (less_same hs ha)⟩
theorem Slot.less {t : T} {u : Option V} {a : Addr} {H1 : Hp} (h : Slot K g H t u) (hs : ∀ b, b ≠ a → H1 b = H b) (ha : a ∈ g.own) (hab : t.owned = true → u ≠ some (.ref a)) : Slot K (g.less a) H1 t u := by
  cases t with
  | dead => exact h
  | d x => obtain ⟨v, e, r⟩ := h; exact ⟨v, e, r.mono (less_same hs ha)⟩
  | l _ => obtain ⟨b, e, r⟩ := h; exact ⟨b, e, r.less hs ha (fun z => hab rfl (by rw [e, z]))⟩
  | k _ => obtain ⟨b, e, r⟩ := h; exact ⟨b, e, r.less hs ha (fun z => hab rfl (by rw [e, z]))⟩
  | t _ => obtain ⟨b, e, r⟩ := h; exact ⟨b, e, r.less hs ha (fun z => hab rfl (by rw [e, z]))⟩
  | o _ _ => obtain ⟨b, e, r⟩ := h; exact ⟨b, e, r.less hs ha (fun z => hab rfl (by rw [e, z]))⟩
theorem Step.less {a : Addr} {H1 : Hp} (hs : ∀ b, b ≠ a → H1 b = H b) (ha : a ∈ g.own) (np : a ∉ g.prot) : Step g H (g.less a) H1 :=
  ⟨rfl, rfl, rfl, rfl, less_same hs ha, fun b hb => hs b fun z => np (by rw [← z]; exact hb)⟩
/-- a value is data from now on -/
theorem freeze {n : Vl} {v : V} (h : EnvOk K Z g H S σ) (hr : RepV K g H S σ n v) {d : D} {S' : Sx} (e : frzE S n = some (d, S')) :
    LockC (fun H1 => ∃ g', EnvOk K Z g' H1 S' σ ∧ Rep K g'.p (bare g'.own H1) d v ∧ Step g H g' H1) H := by
  cases n with
  | v x =>
    cases e
    exact .now ⟨g, h, hr, Step.rf⟩
  | n t =>
    cases e
    obtain ⟨a, rfl, o, ns⟩ := hr
    refine (thaw h o).mono fun H1 ⟨hs, tb, r⟩ => ⟨g.less a, ⟨h.gok.less hs tb o.own o.np o.nq o.n0, h.hb, h.len, fun i ti q => ?_, h.dist⟩, r, Step.less hs o.own o.np⟩
    obtain ⟨u, e1, e2⟩ := h.slot i ti q
    exact ⟨u, e1, e2.less hs o.own fun z y => ns i ti q z (by rw [e1, y])⟩
  | s i =>
    unfold frzE at e
    dsimp only at e
    cases q : S.ρ[i]? with
    | none => rw [q] at e; cases e
    | some t =>
      rw [q] at e
      have hr' : σ[i]? = some (some v) := hr
      obtain ⟨u, e1, e2⟩ := h.slot i t q
      rw [hr'] at e1
      cases e1
      have nd : t ≠ .dead := fun z => by subst z; cases e
      have hE : d = t.frz ∧ S' = S.put i (.d t.frz) := by cases t with | dead => exact absurd rfl nd | _ => cases e; exact ⟨rfl, rfl⟩
      obtain ⟨rfl, rfl⟩ := hE
      have hi : i < S.ρ.length := (List.getElem?_eq_some_iff.mp q).1
      have set_at : ∀ (j : Nat) (tj : T), (S.ρ.set i (.d t.frz))[j]? = some tj → (j = i ∧ tj = .d t.frz) ∨ (j ≠ i ∧ S.ρ[j]? = some tj) := fun j tj z => by
        by_cases hj : j = i
        · subst hj
          rw [List.getElem?_set_self hi] at z
          exact .inl ⟨rfl, (Option.some.inj z).symm⟩
        · rw [List.getElem?_set_ne (Ne.symm hj)] at z
          exact .inr ⟨hj, z⟩
      have fin : ∀ {g' : Gh} {H1 : Hp}, Z g'.q g'.own0 g'.H0 → GOk g' H1 S.n → (∀ (j : Nat) (tj : T), j ≠ i → S.ρ[j]? = some tj → ∃ u, σ[j]? = some u ∧ Slot K g' H1 tj u) → Rep K g'.p (bare g'.own H1) t.frz v → EnvOk K Z g' H1 (S.put i (.d t.frz)) σ := fun hz gk sl r => by
        refine ⟨gk, hz, by show σ.length = (S.ρ.set i _).length; rw [List.length_set]; exact h.len, fun j tj z => ?_, fun j k tj tk a z1 z2 o1 o2 => ?_⟩
        · rcases set_at j tj z with ⟨rfl, rfl⟩ | ⟨hj, z⟩
          · exact ⟨_, hr', v, rfl, r⟩
          · exact sl j tj hj z
        · rcases set_at j tj z1 with ⟨rfl, rfl⟩ | ⟨hj, z1⟩
          · cases o1
          · rcases set_at k tk z2 with ⟨rfl, rfl⟩ | ⟨hk, z2⟩
            · cases o2
            · exact h.dist j k tj tk a z1 z2 o1 o2
      cases ho : t.owned with
      | false =>
        cases t with
        | dead => exact absurd rfl nd
        | d x =>
          obtain ⟨v', e3, r⟩ := e2
          cases e3
          exact .now ⟨g, fin h.hb h.gok (fun j tj _ z => h.slot j tj z) r, r, Step.rf⟩
        | _ => cases ho
      | true =>
        obtain ⟨a, e3, o⟩ := e2.owned ho
        cases e3
        refine (thaw h o).mono fun H1 ⟨hs, tb, r⟩ => ⟨g.less a, fin h.hb (h.gok.less hs tb o.own o.np o.nq o.n0) (fun j tj hj z => ?_) r, r, Step.less hs o.own o.np⟩
        obtain ⟨u, f1, f2⟩ := h.slot j tj z
        exact ⟨u, f1, f2.less hs o.own fun oj y => hj (h.dist j i tj t a z q oj ho (by rw [f1, y]) hr')⟩
end
end DL
end
section
set_option Elab.async false
set_option linter.all false
set_option maxRecDepth 100000
set_option maxHeartbeats 4000000
namespace DL
open PySem L2 PyProof.Rows
variable {Z : Bs}
abbrev KE := Vl → Sx → Prop
abbrev WE := Sx → KE → Prop
abbrev WT := Sx → (Bool → Sx → Prop) → Prop
abbrev WA := Sx → (List Vl → Sx → Prop) → Prop
def MonoE (w : WE) : Prop := ∀ S (Q Q' : KE), (∀ r S', Q r S' → Q' r S') → w S Q → w S Q'
def MonoT (w : WT) : Prop := ∀ S (Q Q' : Bool → Sx → Prop), (∀ r S', Q r S' → Q' r S') → w S Q → w S Q'
def MonoA (w : WA) : Prop := ∀ S (Q Q' : List Vl → Sx → Prop), (∀ r S', Q r S' → Q' r S') → w S Q → w S Q'
/-- plain values of a list -/
def RepVs (K : PySem.W.Frag) (g : Gh) (H : Hp) (S : Sx) (σ : L2.St) (rs : List Vl) (vs : List V) : Prop := Paired (fun r v => RepV K g H S σ r v ∧ ∀ t, r ≠ .n t) rs vs
def liftE (K : PySem.W.Frag) (Z : Bs) (w : WE) : TE := fun σ H R => ∃ g S, EnvOk K Z g H S σ ∧ w S fun r S' => ∀ g' v H', EnvOk K Z g' H' S' σ → RepV K g' H' S' σ r v → Step g H g' H' → R v H'
def liftT (K : PySem.W.Frag) (Z : Bs) (w : WT) : TT := fun σ H R => ∃ g S, EnvOk K Z g H S σ ∧ w S fun b S' => ∀ g' H', EnvOk K Z g' H' S' σ → Step g H g' H' → R b H'
def liftA (K : PySem.W.Frag) (Z : Bs) (w : WA) : TA := fun σ H R => ∃ g S, EnvOk K Z g H S σ ∧ w S fun rs S' => ∀ g' vs H', EnvOk K Z g' H' S' σ → RepVs K g' H' S' σ rs vs → Step g H g' H' → R vs H'
structure DE (X : Cx) (Z : Bs) (e : Expr) (w : WE) : Prop where
  pe : PE X e (liftE X.K Z w)
  mono : MonoE w
structure DT (X : Cx) (Z : Bs) (e : Expr) (w : WT) : Prop where
  pt : PT X e (liftT X.K Z w)
  mono : MonoT w
structure DW (X : Cx) (Z : Bs) (e : Expr) (w : WT) : Prop where
  pw : PW X e (liftT X.K Z w)
  mono : MonoT w
structure DA (X : Cx) (Z : Bs) (es : List Expr) (w : WA) : Prop where
  pa : PA X es (liftA X.K Z w)
  mono : MonoA w
theorem DW.dt {X : Cx} {e : Expr} {w : WT} (h : DW X Z e w) : DT X Z e w := ⟨h.pw.pt, h.mono⟩
theorem PW.imp {X : Cx} {e : Expr} {t t' : TT} (h : PW X e t) (i : ∀ σ H Q, t' σ H Q → t σ H fun v H' => LockC (Q v) H') : PW X e t' :=
  ⟨fun wh pins s σ H Q I q => thn (h.run wh pins s σ H _ I (i σ H Q q)) fun u s1 ⟨H1, I1, c⟩ => by
    obtain ⟨H2, I2, q2⟩ := c.inv I1
    exact ⟨H2, I2, q2⟩⟩
section
variable {K : PySem.W.Frag} {g g1 : Gh} {H H1 : Hp} {S S1 : Sx} {σ : L2.St}
/-- held values stay what they are -/
theorem RepV.step {r : Vl} {v : V} (h : RepV K g H S σ r v) (nn : ∀ t, r ≠ .n t) (st : Step g H g1 H1) : RepV K g1 H1 S1 σ r v := by
  cases r with
  | v d =>
    show Rep K g1.p (bare g1.own H1) d v
    rw [st.p]
    exact Rep.mono st.same h
  | s i => exact h
  | n t => exact absurd rfl (nn t)
theorem RepVs.step {rs : List Vl} {vs : List V} (h : RepVs K g H S σ rs vs) (st : Step g H g1 H1) : RepVs K g1 H1 S1 σ rs vs :=
  Paired.mapP h fun _ _ z => ⟨z.1.step z.2 st, z.2⟩
end
/-! ### from the left -/
def hold : Vl → Vl
  | .n t => .v t.frz
  | r => r
theorem hold_nn (r : Vl) : ∀ t, hold r ≠ .n t := by
  intro t
  cases r <;> intro h <;> cases h
def wHold (w : WE) : WE := fun S Q => w S fun r S' => Q (hold r) S'
theorem hold_mono {w : WE} (h : MonoE w) : MonoE (wHold w) := fun S Q Q' k => h S _ _ fun r S' => k (hold r) S'
theorem de_hold {X : Cx} {e : Expr} {w : WE} (h : DE X Z e w) : DE X Z e (wHold w) := by
  refine ⟨PE.imp h.pe fun σ H Q ⟨g, S, ok, q⟩ => ⟨g, S, ok, h.mono S _ _ (fun r S' k g' v H' ok' rv st => ?_) q⟩, hold_mono h.mono⟩
  cases r with
  | v d => exact .now (k g' v H' ok' rv st)
  | s i => exact .now (k g' v H' ok' rv st)
  | n t => exact (freeze ok' rv (d := t.frz) (S' := S') rfl).mono fun H2 ⟨g2, ok2, r2, st2⟩ => k g2 v H2 ok2 r2 (st.tr st2)
section
variable {X : Cx}
/-! ### names, constants -/
def wVar (i : Nat) : WE := fun S Q => match S.ρ[i]? with
  | some (.d x) => Q (.v x) S
  | some .dead => False
  | some _ => Q (.s i) S
  | none => False
theorem wVar_mono (i : Nat) : MonoE (wVar i) := fun S Q Q' k h => by
  unfold wVar at h ⊢
  split <;> simp_all
theorem de_var {i : Nat} {x : Str} {pos : Pos} (hN : X.N[i]? = some x := by rfl) (hv : Vis X.env.scope x := by first | exact Or.inl rfl | exact Or.inr (Or.inl rfl) | exact Or.inr (Or.inr rfl)) (hd : (x == ("__debug__" : Str)) = false := by decide)
    (hcd : (x == ("__classdict__" : Str)) = false := by decide) : DE X Z (.Name x pos) (wVar i) := by
  refine ⟨PE.imp (pe_var hN hv hd hcd) fun σ H Q ⟨g, S, ok, q⟩ => ?_, wVar_mono i⟩
  unfold wVar at q
  cases e : S.ρ[i]? with
  | none => rw [e] at q; exact q.elim
  | some t =>
    obtain ⟨u, e1, sl⟩ := ok.slot i t e
    rw [e] at q
    cases t with
    | dead => exact q.elim
    | d x =>
      obtain ⟨v, rfl, r⟩ := sl
      exact ⟨v, e1, .now (q g v H ok r Step.rf)⟩
    | l _ => obtain ⟨a, rfl, r⟩ := sl; exact ⟨_, e1, .now (q g _ H ok e1 Step.rf)⟩
    | k _ => obtain ⟨a, rfl, r⟩ := sl; exact ⟨_, e1, .now (q g _ H ok e1 Step.rf)⟩
    | t _ => obtain ⟨a, rfl, r⟩ := sl; exact ⟨_, e1, .now (q g _ H ok e1 Step.rf)⟩
    | o _ _ => obtain ⟨a, rfl, r⟩ := sl; exact ⟨_, e1, .now (q g _ H ok e1 Step.rf)⟩
def wC (d : D) : WE := fun S Q => Q (.v d) S
theorem wC_mono (d : D) : MonoE (wC d) := fun S Q Q' k h => k _ _ h
/-- what is the same everywhere -/
theorem de_c {e : Expr} {d : D} {v : V} (h : PE X e (tC v)) (r : ∀ p H, Rep X.K p H d v) : DE X Z e (wC d) :=
  ⟨PE.imp h fun σ H Q ⟨g, S, ok, q⟩ => .now (q g v H ok (r _ _) Step.rf), wC_mono d⟩
theorem de_int {i j pos} : DE X Z (.Constant (.int i) j pos) (wC (.int i)) := de_c pe_int fun _ _ => .int i
theorem de_bl {b j pos} : DE X Z (.Constant (.bool b) j pos) (wC (.bl b)) := de_c pe_bl fun _ _ => .bl b
theorem de_non {j pos} : DE X Z (.Constant .none j pos) (wC .non) := de_c pe_non fun _ _ => .non
theorem de_str {x j pos} : DE X Z (.Constant (.str x) j pos) (wC (.str x)) := de_c pe_str fun _ _ => .str x
theorem de_glob {x : Str} {v : V} {u : Value} {d : D} {pos : Pos} (hg : Gl X x) (hm : X.mg x = some u) (r : RelV v u) (rp : ∀ p H, Rep X.K p H d v) (hd : (x == ("__debug__" : Str)) = false := by decide) : DE X Z (.Name x pos) (wC d) := de_c (pe_glob hg hm r hd) rp
/-! ### argument lists -/
def wNil : WA := fun S Q => Q [] S
def wCons (w : WE) (wr : WA) : WA := fun S Q => w S fun r S1 => wr S1 fun rs S2 => Q (hold r :: rs) S2
theorem da_nil : DA X Z [] wNil := ⟨PA.imp pa_nil fun σ H Q ⟨g, S, ok, q⟩ => .now (q g [] H ok .nil Step.rf), fun S Q Q' k h => k _ _ h⟩
theorem da_cons {e : Expr} {es : List Expr} {w : WE} {wr : WA} (h : DE X Z e w) (hr : DA X Z es wr) (hs : starEach (e :: es) X.env = (false, eval e X.env) :: starEach es X.env := by rfl) : DA X Z (e :: es) (wCons w wr) := by
  refine ⟨PA.imp (pa_cons (de_hold h).pe hr.pa hs) fun σ H Q ⟨g, S, ok, q⟩ => ⟨g, S, ok, h.mono S _ _ (fun r S' k g' v H' ok' rv st => ⟨g', S', ok', hr.mono S' _ _ (fun rs S2 k2 g2 vs H2 ok2 rv2 st2 => ?_) k⟩) q⟩, fun S Q Q' k => h.mono S _ _ fun r S1 => hr.mono S1 _ _ fun rs S2 => k _ _⟩
  exact .now (k2 g2 (v :: vs) H2 ok2 (.cons ⟨rv.step (hold_nn r) st2, hold_nn r⟩ rv2) (st.tr st2))
/-! ### operations on data -/
def PostR (K : PySem.W.Frag) (p : Addr) (own : List Addr) (H : Hp) (Q : VK) : Vl → Prop
  | .v d => ∀ v H1, Same H H1 → Rep K p (bare own H1) d v → Q v H1
  | .n t => ∀ a o H1, Same H H1 → H1 a = none → OwnO K p (bare own H1) t o → Q (.ref a) (upd H1 a o)
  | .s _ => True
abbrev O1 := D → (Vl → Prop) → Prop
abbrev O2 := D → D → (Vl → Prop) → Prop
abbrev OL := List D → (Vl → Prop) → Prop
/-- behind an operation -/
theorem post_of {K : PySem.W.Frag} {g g0 : Gh} {H H0 : Hp} {S : Sx} {σ : L2.St} {Q : VK} (ok : EnvOk K Z g H S σ) (st : Step g0 H0 g H) {k : Vl → Prop} (h : ∀ z, k z → ∀ g' v H', EnvOk K Z g' H' S σ → RepV K g' H' S σ z v → Step g0 H0 g' H' → Q v H') :
    ∀ z, k z → PostR K g.p g.own H Q z := fun z hz => by
  cases z with
  | v d => exact fun v H1 s r => h _ hz g v H1 (ok.same s) r (st.tr (Step.grow ok.gok s))
  | s i => exact trivial
  | n t =>
    intro a o H1 s hn ho
    obtain ⟨e1, e2, e3⟩ := (ok.same s).new hn ho
    exact h _ hz _ _ _ e1 e2 (st.tr ((Step.grow ok.gok s).tr e3))
structure OpD (X : Cx) (f : Value → Value → Sem Value) (o : O2) : Prop where
  run : OpR X f fun x y H Q => ∃ p own dx dy k, (∀ a ∈ own, H a ≠ none) ∧ Rep1 X.K p (bare own H) H dx x ∧ Rep1 X.K p (bare own H) H dy y ∧ o dx dy k ∧ ∀ z, k z → PostR X.K p own H Q z
  mono : ∀ x y (k k' : Vl → Prop), (∀ z, k z → k' z) → o x y k → o x y k'
structure UnD (X : Cx) (f : Value → Sem Value) (o : O1) : Prop where
  run : UnR X f fun x H Q => ∃ p own dx k, (∀ a ∈ own, H a ≠ none) ∧ Rep1 X.K p (bare own H) H dx x ∧ o dx k ∧ ∀ z, k z → PostR X.K p own H Q z
  mono : ∀ x (k k' : Vl → Prop), (∀ z, k z → k' z) → o x k → o x k'
structure IxD (X : Cx) (o : O2) : Prop where
  run : IxR X fun x y H Q => ∃ p own dx dy k, (∀ a ∈ own, H a ≠ none) ∧ Rep1 X.K p (bare own H) H dx x ∧ Rep1 X.K p (bare own H) H dy y ∧ o dx dy k ∧ ∀ z, k z → PostR X.K p own H Q z
  mono : ∀ x y (k k' : Vl → Prop), (∀ z, k z → k' z) → o x y k → o x y k'
structure CallD (X : Cx) (f : Value) (o : OL) : Prop where
  run : CallR X f fun xs H Q => ∃ p own ds k, (∀ a ∈ own, H a ≠ none) ∧ Paired (Rep1 X.K p (bare own H) H) ds xs ∧ o ds k ∧ ∀ z, k z → PostR X.K p own H Q z
  mono : ∀ x (k k' : Vl → Prop), (∀ z, k z → k' z) → o x k → o x k'
def derefs (S : Sx) : List Vl → Option (List D)
  | [] => some []
  | r :: rs => match deref S r, derefs S rs with
    | some d, some ds => some (d :: ds)
    | _, _ => none
theorem derefs_rep {K : PySem.W.Frag} {g : Gh} {H : Hp} {S : Sx} {σ : L2.St} (ok : EnvOk K Z g H S σ) : ∀ {rs : List Vl} {vs : List V} {ds : List D}, RepVs K g H S σ rs vs → derefs S rs = some ds → Paired (Rep1 K g.p (bare g.own H) H) ds vs
  | _, _, _, .nil, e => by cases e; exact .nil
  | _, _, _, .cons (a := r) (l₁ := rs) h t, e => by
    unfold derefs at e
    cases e1 : deref S r with
    | none => rw [e1] at e; cases e
    | some d =>
      cases e2 : derefs S rs with
      | none => rw [e1, e2] at e; cases e
      | some ds =>
        rw [e1, e2] at e
        cases e
        exact .cons (deref_rep ok h.1 e1) (derefs_rep ok t e2)
/-- a value as data, as it stands -/
def use (S : Sx) (r : Vl) (k : D → Prop) : Prop := match deref S r with
  | some d => k d
  | none => False
theorem use_mono {S : Sx} {r : Vl} {k k' : D → Prop} (h : ∀ d, k d → k' d) (u : use S r k) : use S r k' := by
  unfold use at u ⊢
  cases e : deref S r with
  | none => rw [e] at u; exact u
  | some d => rw [e] at u; exact h d u
theorem use_of {S : Sx} {r : Vl} {k : D → Prop} (u : use S r k) : ∃ d, deref S r = some d ∧ k d := by
  unfold use at u
  cases e : deref S r with
  | none => rw [e] at u; exact u.elim
  | some d => rw [e] at u; exact ⟨d, rfl, u⟩
def uses (S : Sx) (rs : List Vl) (k : List D → Prop) : Prop := match derefs S rs with
  | some ds => k ds
  | none => False
theorem uses_mono {S : Sx} {r : List Vl} {k k' : List D → Prop} (h : ∀ d, k d → k' d) (u : uses S r k) : uses S r k' := by
  unfold uses at u ⊢
  cases e : derefs S r with
  | none => rw [e] at u; exact u
  | some d => rw [e] at u; exact h d u
theorem uses_of {S : Sx} {r : List Vl} {k : List D → Prop} (u : uses S r k) : ∃ d, derefs S r = some d ∧ k d := by
  unfold uses at u
  cases e : derefs S r with
  | none => rw [e] at u; exact u.elim
  | some d => rw [e] at u; exact ⟨d, rfl, u⟩
def wOp (o : O2) (wa wb : WE) : WE := fun S Q => wa S fun x S1 => wb S1 fun y S2 => use S2 (hold x) fun dx => use S2 y fun dy => o dx dy fun z => Q z S2
theorem wOp_mono {o : O2} {wa wb : WE} (ho : ∀ x y (k k' : Vl → Prop), (∀ z, k z → k' z) → o x y k → o x y k') (ha : MonoE wa) (hb : MonoE wb) : MonoE (wOp o wa wb) := fun S Q Q' k =>
  ha S _ _ fun x S1 => hb S1 _ _ fun y S2 => use_mono fun dx => use_mono fun dy => ho dx dy _ _ fun z => k z S2
/-- both operands told -/
theorem op_core {o : O2} {wa wb : WE} (ha : MonoE wa) (hb : MonoE wb) {σ : L2.St} {H : Hp} {Q : VK} (q : liftE X.K Z (wOp o wa wb) σ H Q) :
    liftE X.K Z (wHold wa) σ H fun x H1 => liftE X.K Z wb σ H1 fun y H2 => ∃ p own dx dy k, (∀ a ∈ own, H2 a ≠ none) ∧ Rep1 X.K p (bare own H2) H2 dx x ∧ Rep1 X.K p (bare own H2) H2 dy y ∧ o dx dy k ∧ ∀ z, k z → PostR X.K p own H2 Q z := by
  obtain ⟨g, S, ok, q⟩ := q
  refine ⟨g, S, ok, ha S _ _ (fun x S1 q1 g1 v H1 ok1 rv1 st1 => ⟨g1, S1, ok1, hb S1 _ _ (fun y S2 q2 g2 u H2 ok2 rv2 st2 => ?_) q1⟩) q⟩
  obtain ⟨dx, e1, q2⟩ := use_of q2
  obtain ⟨dy, e2, q2⟩ := use_of q2
  exact ⟨g2.p, g2.own, dx, dy, _, ok2.gok.live, deref_rep ok2 (rv1.step (S1 := S2) (hold_nn x) st2) e1, deref_rep ok2 rv2 e2, q2, post_of ok2 (st1.tr st2) fun z h => h⟩
theorem de_op {op : Operator} {o : O2} {a b : Expr} {wa wb : WE} {pos : Pos} (ho : OpD X (binaryOp op) o) (ha : DE X Z a wa) (hb : DE X Z b wb) : DE X Z (.BinOp a op b pos) (wOp o wa wb) :=
  ⟨⟨fun pins s σ H Q I q => (pe_op ho.run (de_hold ha).pe hb.pe).run pins s σ H Q I (op_core ha.mono hb.mono q)⟩, wOp_mono ho.mono ha.mono hb.mono⟩
theorem de_cmp {op : CmpOp} {o : O2} {a b : Expr} {wa wb : WE} {pos : Pos} (ho : OpD X (compareOp op) o) (ha : DE X Z a wa) (hb : DE X Z b wb) (hm : behindInMarks op b = false) : DE X Z (.Compare a [op] [b] pos) (wOp o wa wb) :=
  ⟨⟨fun pins s σ H Q I q => (pe_cmpR ho.run (de_hold ha).pe hb.pe hm).run pins s σ H Q I (op_core ha.mono hb.mono q)⟩, wOp_mono ho.mono ha.mono hb.mono⟩
theorem de_ix {o : O2} {a b : Expr} {wa wb : WE} {pos : Pos} (ho : IxD X o) (ha : DE X Z a wa) (hb : DE X Z b wb) (hs : PlainIx b) : DE X Z (.Subscript a b pos) (wOp o wa wb) :=
  ⟨⟨fun pins s σ H Q I q => (pe_ix ho.run (de_hold ha).pe hb.pe hs).run pins s σ H Q I (op_core ha.mono hb.mono q)⟩, wOp_mono ho.mono ha.mono hb.mono⟩
/-- a comparison as a test: its answer is a bool -/
def isBl (k : Bool → Prop) : Vl → Prop
  | .v (.bl b) => k b
  | _ => False
def wCmp (o : O2) (wa wb : WE) : WT := fun S Q => wa S fun x S1 => wb S1 fun y S2 => use S2 (hold x) fun dx => use S2 y fun dy => o dx dy fun z => isBl (fun b => Q b S2) z
theorem isBl_mono {k k' : Bool → Prop} (h : ∀ b, k b → k' b) : ∀ z, isBl k z → isBl k' z := fun z hz => by
  unfold isBl at hz ⊢
  split
  · exact h _ hz
  · split at hz <;> first | exact hz | simp_all
theorem wCmp_mono {o : O2} {wa wb : WE} (ho : ∀ x y (k k' : Vl → Prop), (∀ z, k z → k' z) → o x y k → o x y k') (ha : MonoE wa) (hb : MonoE wb) : MonoT (wCmp o wa wb) := fun S Q Q' k =>
  ha S _ _ fun x S1 => hb S1 _ _ fun y S2 => use_mono fun dx => use_mono fun dy => ho dx dy _ _ (isBl_mono fun b => k b S2)
theorem dt_cmp {op : CmpOp} {o : O2} {a b : Expr} {wa wb : WE} {pos : Pos} (ho : OpD X (compareOp op) o) (ha : DE X Z a wa) (hb : DE X Z b wb) (hm : behindInMarks op b = false) : DT X Z (.Compare a [op] [b] pos) (wCmp o wa wb) := by
  refine ⟨⟨fun pins s σ H Q I q => (pt_cmpR ho.run (de_hold ha).pe hb.pe hm).run pins s σ H Q I ?_⟩, wCmp_mono ho.mono ha.mono hb.mono⟩
  obtain ⟨g, S, ok, q⟩ := q
  refine op_core (X := X) (o := o) ha.mono hb.mono ⟨g, S, ok, wOp_mono ho.mono ha.mono hb.mono S (fun z S' => isBl (fun b => ∀ g' H', EnvOk X.K Z g' H' S' σ → Step g H g' H' → Q b H') z) _ (fun r S' h g' v H' ok' rv st => ?_) q⟩
  cases r with
  | v d =>
    cases d with
    | bl b => cases rv; exact ⟨b, rfl, h g' H' ok' st⟩
    | _ => exact h.elim
  | _ => exact h.elim
def wUn (o : O1) (wa : WE) : WE := fun S Q => wa S fun x S1 => use S1 x fun dx => o dx fun z => Q z S1
theorem wUn_mono {o : O1} {wa : WE} (ho : ∀ x (k k' : Vl → Prop), (∀ z, k z → k' z) → o x k → o x k') (ha : MonoE wa) : MonoE (wUn o wa) := fun S Q Q' k => ha S _ _ fun x S1 => use_mono fun dx => ho dx _ _ fun z => k z S1
theorem de_un {op : UnaryOp} {o : O1} {a : Expr} {wa : WE} {pos : Pos} (ho : UnD X (unaryOp op) o) (ha : DE X Z a wa) : DE X Z (.UnaryOp op a pos) (wUn o wa) := by
  refine ⟨⟨fun pins s σ H Q I q => (pe_un ho.run ha.pe).run pins s σ H Q I ?_⟩, wUn_mono ho.mono ha.mono⟩
  obtain ⟨g, S, ok, q⟩ := q
  refine ⟨g, S, ok, ha.mono S _ _ (fun x S1 q1 g1 v H1 ok1 rv1 st1 => ?_) q⟩
  obtain ⟨dx, e1, q1⟩ := use_of q1
  exact ⟨g1.p, g1.own, dx, _, ok1.gok.live, deref_rep ok1 rv1 e1, q1, post_of ok1 st1 fun z h => h⟩
/-- a call of a builtin, of a type -/
def wCB (o : OL) (wa : WA) : WE := fun S Q => wa S fun rs S1 => uses S1 rs fun ds => o ds fun z => Q z S1
theorem wCB_mono {o : OL} {wa : WA} (ho : ∀ x (k k' : Vl → Prop), (∀ z, k z → k' z) → o x k → o x k') (ha : MonoA wa) : MonoE (wCB o wa) := fun S Q Q' k => ha S _ _ fun x S1 => uses_mono fun dx => ho dx _ _ fun z => k z S1
theorem cb_core {o : OL} {wa : WA} (ha : MonoA wa) {σ : L2.St} {H : Hp} {Q : VK} (q : liftE X.K Z (wCB o wa) σ H Q) :
    liftA X.K Z wa σ H fun xs H1 => ∃ p own ds k, (∀ a ∈ own, H1 a ≠ none) ∧ Paired (Rep1 X.K p (bare own H1) H1) ds xs ∧ o ds k ∧ ∀ z, k z → PostR X.K p own H1 Q z := by
  obtain ⟨g, S, ok, q⟩ := q
  refine ⟨g, S, ok, ha S _ _ (fun rs S1 q1 g1 vs H1 ok1 rv1 st1 => ?_) q⟩
  obtain ⟨ds, e1, q1⟩ := uses_of q1
  exact ⟨g1.p, g1.own, ds, _, ok1.gok.live, derefs_rep ok1 rv1 e1, q1, post_of ok1 st1 fun z h => h⟩
theorem de_callB {id : String} {x : Str} {o : OL} {wa : WA} {e : Expr} {es : List Expr} {p pos : Pos} (hc : CallD X (.builtin id) o) (hg : Gl X x) (hm : X.mg x = none) (hv : bootBuiltins x = some (.builtin id)) (ha : DA X Z (e :: es) wa) (hn : x ≠ "__name__" := by decide) (hdb : (x == ("__debug__" : Str)) = false := by decide)
    (hs : starEach (e :: es) X.env = (false, eval e X.env) :: starEach es X.env := by rfl) (hpl : (backTo pos (starEach es X.env)).any (·.1) = false := by rfl) : DE X Z (.Call (.Name x p) (e :: es) [] pos) (wCB o wa) :=
  ⟨⟨fun pins s σ H Q I q => (pe_callB hc.run hg hm hv ha.pa hn hdb hs hpl).run pins s σ H Q I (cb_core ha.mono q)⟩, wCB_mono hc.mono ha.mono⟩
theorem de_callTy {T : String} {x : Str} {o : OL} {wa : WA} {e : Expr} {es : List Expr} {p pos : Pos} (hc : CallD X (.type T) o) (hg : Gl X x) (hm : X.mg x = none) (hv : bootBuiltins x = some (.type T)) (ha : DA X Z (e :: es) wa) (hn : x ≠ "__name__" := by decide) (hdb : (x == ("__debug__" : Str)) = false := by decide)
    (hs : starEach (e :: es) X.env = (false, eval e X.env) :: starEach es X.env := by rfl) (hpl : (backTo pos (starEach es X.env)).any (·.1) = false := by rfl) : DE X Z (.Call (.Name x p) (e :: es) [] pos) (wCB o wa) :=
  ⟨⟨fun pins s σ H Q I q => (pe_callTy hc.run hg hm hv ha.pa hn hdb hs hpl).run pins s σ H Q I (cb_core ha.mono q)⟩, wCB_mono hc.mono ha.mono⟩
/-! ### values that are handed on: data from now on -/
def frzs (S : Sx) : List Vl → Option (List D × Sx)
  | [] => some ([], S)
  | r :: rs => match frzE S r with
    | some (d, S1) => match frzs S1 rs with
      | some (ds, S2) => some (d :: ds, S2)
      | none => none
    | none => none
theorem freezes {K : PySem.W.Frag} {σ : L2.St} : ∀ {rs : List Vl} {vs : List V} {ds : List D} {g : Gh} {H : Hp} {S S' : Sx}, EnvOk K Z g H S σ → RepVs K g H S σ rs vs → frzs S rs = some (ds, S') →
    LockC (fun H1 => ∃ g', EnvOk K Z g' H1 S' σ ∧ Reps K g'.p (bare g'.own H1) ds vs ∧ Step g H g' H1) H
  | _, _, _, g, H, _, _, ok, .nil, e => by cases e; exact .now ⟨g, ok, .nil, Step.rf⟩
  | _, _, _, g, H, S, S', ok, .cons (a := r) (l₁ := rs) h t, e => by
    unfold frzs at e
    cases e1 : frzE S r with
    | none => rw [e1] at e; cases e
    | some x =>
      obtain ⟨d, S1⟩ := x
      rw [e1] at e
      dsimp only at e
      cases e2 : frzs S1 rs with
      | none => rw [e2] at e; cases e
      | some y =>
        obtain ⟨ds, S2⟩ := y
        rw [e2] at e
        cases e
        have tr : ∀ {Q : Hp → Prop} {G : Hp}, LockC (fun G' => LockC Q G') G → LockC Q G := fun c => by
          induction c with
          | now q => exact q
          | lock d u e m _ ih => exact .lock d u e m ih
        refine tr ((freeze ok h.1 e1).mono fun H1 ⟨g1, ok1, r1, st1⟩ => ?_)
        refine (freezes ok1 (RepVs.step t st1) e2).mono fun H2 ⟨g2, ok2, r2, st2⟩ => ⟨g2, ok2, .cons ?_ r2, st1.tr st2⟩
        rw [st2.p]
        exact Rep.mono st2.same r1
def gives (S : Sx) (rs : List Vl) (k : List D → Sx → Prop) : Prop := match frzs S rs with
  | some (ds, S') => k ds S'
  | none => False
theorem gives_mono {S : Sx} {r : List Vl} {k k' : List D → Sx → Prop} (h : ∀ d S', k d S' → k' d S') (u : gives S r k) : gives S r k' := by
  unfold gives at u ⊢
  cases e : frzs S r with
  | none => rw [e] at u; exact u
  | some d => rw [e] at u; exact h _ _ u
theorem gives_of {S : Sx} {r : List Vl} {k : List D → Sx → Prop} (u : gives S r k) : ∃ d S', frzs S r = some (d, S') ∧ k d S' := by
  unfold gives at u
  cases e : frzs S r with
  | none => rw [e] at u; exact u.elim
  | some d => rw [e] at u; exact ⟨d.1, d.2, rfl, u⟩
def give (S : Sx) (r : Vl) (k : D → Sx → Prop) : Prop := match frzE S r with
  | some (d, S') => k d S'
  | none => False
theorem give_mono {S : Sx} {r : Vl} {k k' : D → Sx → Prop} (h : ∀ d S', k d S' → k' d S') (u : give S r k) : give S r k' := by
  unfold give at u ⊢
  cases e : frzE S r with
  | none => rw [e] at u; exact u
  | some d => rw [e] at u; exact h _ _ u
theorem give_of {S : Sx} {r : Vl} {k : D → Sx → Prop} (u : give S r k) : ∃ d S', frzE S r = some (d, S') ∧ k d S' := by
  unfold give at u
  cases e : frzE S r with
  | none => rw [e] at u; exact u.elim
  | some d => rw [e] at u; exact ⟨d.1, d.2, rfl, u⟩
/-- arguments, all of them data -/
abbrev WD := Sx → (List D → Sx → Prop) → Prop
def liftD (K : PySem.W.Frag) (Z : Bs) (w : WD) : TA := fun σ H R => ∃ g S, EnvOk K Z g H S σ ∧ w S fun ds S' => ∀ g' vs H', EnvOk K Z g' H' S' σ → Reps K g'.p (bare g'.own H') ds vs → Step g H g' H' → R vs H'
def wGive (w : WA) : WD := fun S Q => w S fun rs S1 => gives S1 rs Q
theorem wGive_mono {w : WA} (h : MonoA w) : ∀ S (Q Q' : List D → Sx → Prop), (∀ r S', Q r S' → Q' r S') → wGive w S Q → wGive w S Q' := fun S Q Q' k => h S _ _ fun rs S1 => gives_mono k
theorem pa_give {es : List Expr} {w : WA} (h : DA X Z es w) : PA X es (liftD X.K Z (wGive w)) := PA.imp h.pa fun σ H Q ⟨g, S, ok, q⟩ => ⟨g, S, ok, h.mono S _ _ (fun rs S1 q1 g1 vs H1 ok1 rv1 st1 => by
  obtain ⟨ds, S2, e, q2⟩ := gives_of q1
  exact (freezes ok1 rv1 e).mono fun H2 ⟨g2, ok2, r2, st2⟩ => q2 g2 vs H2 ok2 r2 (st1.tr st2)) q⟩
/-! ### displays -/
def wTup (w : WA) : WE := fun S Q => w S fun rs S1 => gives S1 rs fun ds S2 => ds.length ≤ sizeLine ∧ Q (.v (.tup ds)) S2
def wLst (w : WA) : WE := fun S Q => w S fun rs S1 => gives S1 rs fun ds S2 => ds.length ≤ sizeLine ∧ Q (.n (.l ds)) S2
theorem de_tup {es : List Expr} {w : WA} {x1 : Nat} {pos : Pos} (h : DA X Z es w) : DE X Z (.Tuple es x1 pos) (wTup w) := by
  refine ⟨⟨fun pins s σ H Q I q => (pe_tup (pa_give h)).run pins s σ H Q I ?_⟩, fun S Q Q' k => h.mono S _ _ fun rs S1 => gives_mono fun ds S2 z => ⟨z.1, k _ _ z.2⟩⟩
  obtain ⟨g, S, ok, q⟩ := q
  refine ⟨g, S, ok, wGive_mono h.mono S _ _ (fun ds S2 z g2 vs H2 ok2 r2 st2 => ⟨by rw [← r2.len]; exact z.1, fun p hp => ?_⟩) q⟩
  have s := new_same (o := .tup vs) hp
  refine z.2 g2 _ _ (ok2.same s) (.tup (SqT.of ?_) (r2.mono (bare_same s))) (st2.tr (Step.grow ok2.gok s))
  rw [bare_ne (not_own ok2.gok hp)]
  exact upd_same
theorem de_lst {es : List Expr} {w : WA} {pos : Pos} (h : DA X Z es w) : DE X Z (.List es pos) (wLst w) := by
  refine ⟨⟨fun pins s σ H Q I q => (pe_lst (pa_give h)).run pins s σ H Q I ?_⟩, fun S Q Q' k => h.mono S _ _ fun rs S1 => gives_mono fun ds S2 z => ⟨z.1, k _ _ z.2⟩⟩
  obtain ⟨g, S, ok, q⟩ := q
  refine ⟨g, S, ok, wGive_mono h.mono S _ _ (fun ds S2 z g2 vs H2 ok2 r2 st2 => ⟨by rw [← r2.len]; exact z.1, fun p hp => ?_⟩) q⟩
  obtain ⟨e1, e2, e3⟩ := ok2.new (t := .l ds) hp ⟨vs, rfl, r2⟩
  exact z.2 _ _ _ e1 e2 (st2.tr e3)
/-! ### tests -/
def truD : D → Option Bool
  | .non => some false
  | .bl b => some b
  | .int i => some (i != 0)
  | .str z => if z.length ≤ sizeLine then some ((z.length : Int) != 0) else none
  | .lst xs => some (!xs.isEmpty)
  | .tup xs => some (!xs.isEmpty)
  | _ => none
theorem tru_rep {p : Addr} {B H : Hp} {d : D} {v : V} (sb : Same B H) (h : Rep1 X.K p B H d v) {b : Bool} (e : truD d = some b) : TruV X.K v H b := by
  cases h with
  | non => cases e; rfl
  | bl b => cases e; rfl
  | int i => cases e; rfl
  | str z =>
    unfold truD at e
    dsimp only at e
    split at e
    · next hz => exact ⟨hz, (Option.some.inj e).symm⟩
    · cases e
  | lst h1 h2 =>
    cases e
    refine .inl ⟨_, SqL.of h1, ?_⟩
    have := h2.len
    cases h2 <;> rfl
  | tup h1 h2 =>
    cases e
    refine .inr (.inl ⟨_, sqT_same sb h1, ?_⟩)
    cases h2 <;> rfl
  | _ => cases e
def wTru (w : WE) : WT := fun S Q => w S fun r S1 => use S1 r fun d => ∃ b, truD d = some b ∧ Q b S1
theorem wTru_mono {w : WE} (h : MonoE w) : MonoT (wTru w) := fun S Q Q' k => h S _ _ fun r S1 => use_mono fun d ⟨b, e, z⟩ => ⟨b, e, k _ _ z⟩
theorem dt_val {a : Expr} {w : WE} (h : DE X Z a w) (he : ∀ whole, isTrue a X.env whole = (do let v ← whole; standAt a.pos; holding [v] (truthy v)) := by intro _; rfl) : DT X Z a (wTru w) := by
  refine ⟨⟨fun pins s σ H Q I q => (pt_truth h.pe he).run pins s σ H Q I ?_⟩, wTru_mono h.mono⟩
  obtain ⟨g, S, ok, q⟩ := q
  refine ⟨g, S, ok, h.mono S _ _ (fun r S1 z g1 v H1 ok1 rv1 st1 => ?_) q⟩
  obtain ⟨d, e1, b, e2, z⟩ := use_of z
  exact ⟨b, tru_rep bare_sub (deref_rep ok1 rv1 e1) e2, z g1 H1 ok1 st1⟩
def wAnd (a b : WT) : WT := fun S Q => a S fun c S1 => if c = true then b S1 Q else Q false S1
def wOr (a b : WT) : WT := fun S Q => a S fun c S1 => if c = true then Q true S1 else b S1 Q
def wNot (a : WT) : WT := fun S Q => a S fun c S1 => Q (!c) S1
theorem ite_mono {c : Prop} [Decidable c] {A B A' B' : Prop} (h1 : A → A') (h2 : B → B') : (if c then A else B) → if c then A' else B' := fun h => by
  by_cases e : c
  · rw [if_pos e] at h ⊢; exact h1 h
  · rw [if_neg e] at h ⊢; exact h2 h
theorem wAnd_mono {a b : WT} (ha : MonoT a) (hb : MonoT b) : MonoT (wAnd a b) := fun S Q Q' k => ha S _ _ fun c S1 => ite_mono (hb S1 _ _ k) (k _ _)
theorem wOr_mono {a b : WT} (ha : MonoT a) (hb : MonoT b) : MonoT (wOr a b) := fun S Q Q' k => ha S _ _ fun c S1 => ite_mono (k _ _) (hb S1 _ _ k)
theorem wNot_mono {a : WT} (ha : MonoT a) : MonoT (wNot a) := fun S Q Q' k => ha S _ _ fun c S1 => k _ _
theorem and_core {a b : WT} (ha : MonoT a) (hb : MonoT b) {σ : L2.St} {H : Hp} {Q : Bool → Hp → Prop} (q : liftT X.K Z (wAnd a b) σ H Q) : tAnd (liftT X.K Z a) (liftT X.K Z b) σ H Q := by
  obtain ⟨g, S, ok, q⟩ := q
  refine ⟨g, S, ok, ha S _ _ (fun c S1 z g1 H1 ok1 st1 => ?_) q⟩
  cases c with
  | true => exact ⟨g1, S1, ok1, hb S1 _ _ (fun b S2 z g2 H2 ok2 st2 => z g2 H2 ok2 (st1.tr st2)) z⟩
  | false => exact z g1 H1 ok1 st1
theorem or_core {a b : WT} (ha : MonoT a) (hb : MonoT b) {σ : L2.St} {H : Hp} {Q : Bool → Hp → Prop} (q : liftT X.K Z (wOr a b) σ H Q) : tOr (liftT X.K Z a) (liftT X.K Z b) σ H Q := by
  obtain ⟨g, S, ok, q⟩ := q
  refine ⟨g, S, ok, ha S _ _ (fun c S1 z g1 H1 ok1 st1 => ?_) q⟩
  cases c with
  | false => exact ⟨g1, S1, ok1, hb S1 _ _ (fun b S2 z g2 H2 ok2 st2 => z g2 H2 ok2 (st1.tr st2)) z⟩
  | true => exact z g1 H1 ok1 st1
variable {a b c : Expr} {rest : List Expr} {pos : Pos} {wa wb : WT} {we wf : WE}
theorem dw_and1 (h : DT X Z a wa) : DW X Z (.BoolOp .And [a] pos) wa := ⟨pw_and1 h.pt, h.mono⟩
theorem dw_or1 (h : DT X Z a wa) : DW X Z (.BoolOp .Or [a] pos) wa := ⟨pw_or1 h.pt, h.mono⟩
theorem dw_and (h : DT X Z a wa) (hr : DW X Z (.BoolOp .And (b :: rest) pos) wb) : DW X Z (.BoolOp .And (a :: b :: rest) pos) (wAnd wa wb) :=
  ⟨⟨fun wh pins s σ H Q I q => (pw_and h.pt hr.pw).run wh pins s σ H Q I (and_core h.mono hr.mono q)⟩, wAnd_mono h.mono hr.mono⟩
theorem dw_or (h : DT X Z a wa) (hr : DW X Z (.BoolOp .Or (b :: rest) pos) wb) : DW X Z (.BoolOp .Or (a :: b :: rest) pos) (wOr wa wb) :=
  ⟨⟨fun wh pins s σ H Q I q => (pw_or h.pt hr.pw).run wh pins s σ H Q I (or_core h.mono hr.mono q)⟩, wOr_mono h.mono hr.mono⟩
theorem dt_not (h : DT X Z a wa) : DT X Z (.UnaryOp .Not a pos) (wNot wa) := by
  refine ⟨⟨fun pins s σ H Q I q => (pt_not h.pt).run pins s σ H Q I ?_⟩, wNot_mono h.mono⟩
  obtain ⟨g, S, ok, q⟩ := q
  exact ⟨g, S, ok, q⟩
def wIf (t : WT) (x y : WE) : WE := fun S Q => t S fun c S1 => if c = true then x S1 Q else y S1 Q
theorem de_if (h : DT X Z c wa) (ha : DE X Z a we) (hb : DE X Z b wf) : DE X Z (.IfExp c a b pos) (wIf wa we wf) := by
  refine ⟨⟨fun pins s σ H Q I q => (pe_ifExp h.pt ha.pe hb.pe).run pins s σ H Q I ?_⟩, fun S Q Q' k => h.mono S _ _ fun c S1 => ite_mono (ha.mono S1 _ _ k) (hb.mono S1 _ _ k)⟩
  obtain ⟨g, S, ok, q⟩ := q
  refine ⟨g, S, ok, h.mono S _ _ (fun c S1 z g1 H1 ok1 st1 => ?_) q⟩
  cases c with
  | true => exact ⟨g1, S1, ok1, ha.mono S1 _ _ (fun b S2 z g2 v H2 ok2 rv st2 => z g2 v H2 ok2 rv (st1.tr st2)) z⟩
  | false => exact ⟨g1, S1, ok1, hb.mono S1 _ _ (fun b S2 z g2 v H2 ok2 rv st2 => z g2 v H2 ok2 rv (st1.tr st2)) z⟩
/-- and, or, not as values, by truth -/
def wAndV (x y : WE) : WE := fun S Q => x S fun r S1 => use S1 r fun d => ∃ b, truD d = some b ∧ if b = true then y S1 Q else Q r S1
def wOrV (x y : WE) : WE := fun S Q => x S fun r S1 => use S1 r fun d => ∃ b, truD d = some b ∧ if b = true then Q r S1 else y S1 Q
def wNotV (x : WE) : WE := fun S Q => x S fun r S1 => use S1 r fun d => ∃ b, truD d = some b ∧ Q (.v (.bl (!b))) S1
theorem de_one {op} (h : DE X Z a we) : DE X Z (.BoolOp op [a] pos) we := ⟨pe_one h.pe, h.mono⟩
theorem de_and (h : DE X Z a we) (hr : DE X Z (.BoolOp .And (b :: rest) pos) wf) : DE X Z (.BoolOp .And (a :: b :: rest) pos) (wAndV we wf) := by
  refine ⟨⟨fun pins s σ H Q I q => (pe_andT h.pe hr.pe).run pins s σ H Q I ?_⟩, fun S Q Q' k => h.mono S _ _ fun r S1 => use_mono fun d ⟨b, e, z⟩ => ⟨b, e, ite_mono (hr.mono S1 _ _ k) (k _ _) z⟩⟩
  obtain ⟨g, S, ok, q⟩ := q
  refine ⟨g, S, ok, h.mono S _ _ (fun r S1 z g1 v H1 ok1 rv1 st1 => ?_) q⟩
  obtain ⟨d, e1, b, e2, z⟩ := use_of z
  refine ⟨b, tru_rep bare_sub (deref_rep ok1 rv1 e1) e2, ?_⟩
  cases b with
  | true => exact ⟨g1, S1, ok1, hr.mono S1 _ _ (fun b S2 z g2 v H2 ok2 rv st2 => z g2 v H2 ok2 rv (st1.tr st2)) z⟩
  | false => exact z g1 v H1 ok1 rv1 st1
theorem de_or (h : DE X Z a we) (hr : DE X Z (.BoolOp .Or (b :: rest) pos) wf) : DE X Z (.BoolOp .Or (a :: b :: rest) pos) (wOrV we wf) := by
  refine ⟨⟨fun pins s σ H Q I q => (pe_orT h.pe hr.pe).run pins s σ H Q I ?_⟩, fun S Q Q' k => h.mono S _ _ fun r S1 => use_mono fun d ⟨b, e, z⟩ => ⟨b, e, ite_mono (k _ _) (hr.mono S1 _ _ k) z⟩⟩
  obtain ⟨g, S, ok, q⟩ := q
  refine ⟨g, S, ok, h.mono S _ _ (fun r S1 z g1 v H1 ok1 rv1 st1 => ?_) q⟩
  obtain ⟨d, e1, b, e2, z⟩ := use_of z
  refine ⟨b, tru_rep bare_sub (deref_rep ok1 rv1 e1) e2, ?_⟩
  cases b with
  | false => exact ⟨g1, S1, ok1, hr.mono S1 _ _ (fun b S2 z g2 v H2 ok2 rv st2 => z g2 v H2 ok2 rv (st1.tr st2)) z⟩
  | true => exact z g1 v H1 ok1 rv1 st1
theorem de_not (h : DE X Z a we) : DE X Z (.UnaryOp .Not a pos) (wNotV we) := by
  refine ⟨⟨fun pins s σ H Q I q => (pe_notT h.pe).run pins s σ H Q I ?_⟩, fun S Q Q' k => h.mono S _ _ fun r S1 => use_mono fun d ⟨b, e, z⟩ => ⟨b, e, k _ _ z⟩⟩
  obtain ⟨g, S, ok, q⟩ := q
  refine ⟨g, S, ok, h.mono S _ _ (fun r S1 z g1 v H1 ok1 rv1 st1 => ?_) q⟩
  obtain ⟨d, e1, b, e2, z⟩ := use_of z
  exact ⟨b, tru_rep bare_sub (deref_rep ok1 rv1 e1) e2, z g1 _ H1 ok1 (.bl _) st1⟩
end
end DL
end
section
set_option Elab.async false
set_option linter.all false
set_option maxRecDepth 100000
set_option maxHeartbeats 4000000
namespace DL
open PySem L2 PyProof.Rows
variable {Z : Bs}
/-! ### statements -/
structure WEnds where
  nx : Sx → Prop
  rt : D → Nat → Prop
  bk : Sx → Prop
  ct : Sx → Prop
abbrev WS := Sx → WEnds → Prop
structure WLe (W W' : WEnds) : Prop where
  nx : ∀ S, W.nx S → W'.nx S
  rt : ∀ d n, W.rt d n → W'.rt d n
  bk : ∀ S, W.bk S → W'.bk S
  ct : ∀ S, W.ct S → W'.ct S
theorem WLe.rf {W : WEnds} : WLe W W := ⟨fun _ h => h, fun _ _ h => h, fun _ h => h, fun _ h => h⟩
def MonoS (w : WS) : Prop := ∀ S W W', WLe W W' → w S W → w S W'
structure EndsOk (K : PySem.W.Frag) (Z : Bs) (g : Gh) (H : Hp) (W : WEnds) (E : Ends) : Prop where
  nx : ∀ S' g' σ' H', W.nx S' → EnvOk K Z g' H' S' σ' → Step g H g' H' → E.nx σ' H'
  rt : ∀ d n g' v H', W.rt d n → GOk g' H' n → Rep K g'.p (bare g'.own H') d v → Step g H g' H' → E.rt v H'
  bk : ∀ S' g' σ' H', W.bk S' → EnvOk K Z g' H' S' σ' → Step g H g' H' → E.bk σ' H'
  ct : ∀ S' g' σ' H', W.ct S' → EnvOk K Z g' H' S' σ' → Step g H g' H' → E.ct σ' H'
theorem EndsOk.step {K : PySem.W.Frag} {g g1 : Gh} {H H1 : Hp} {W : WEnds} {E : Ends} (h : EndsOk K Z g H W E) (st : Step g H g1 H1) : EndsOk K Z g1 H1 W E :=
  ⟨fun S' g' σ' H' a b c => h.nx S' g' σ' H' a b (st.tr c), fun d n g' v H' a b r c => h.rt d n g' v H' a b r (st.tr c), fun S' g' σ' H' a b c => h.bk S' g' σ' H' a b (st.tr c), fun S' g' σ' H' a b c => h.ct S' g' σ' H' a b (st.tr c)⟩
def liftS (K : PySem.W.Frag) (Z : Bs) (w : WS) : TS := fun E σ H => ∃ g S W, EnvOk K Z g H S σ ∧ w S W ∧ EndsOk K Z g H W E
structure DS (X : Cx) (Z : Bs) (st : Stmt) (w : WS) : Prop where
  ps : PS X st (liftS X.K Z w)
  mono : MonoS w
structure DSs (X : Cx) (Z : Bs) (st : List Stmt) (w : WS) : Prop where
  ps : PSs X st (liftS X.K Z w)
  mono : MonoS w
section
variable {X : Cx} {st : Stmt} {rest : List Stmt} {a b : WS} {e : Expr} {w : WE} {pos : Pos}
def wNext : WS := fun S W => W.nx S
def wSeq (a b : WS) : WS := fun S W => a S { W with nx := fun S1 => b S1 W }
theorem wSeq_mono (ha : MonoS a) (hb : MonoS b) : MonoS (wSeq a b) := fun S W W' k => ha S _ _ ⟨fun S1 => hb S1 _ _ k, k.rt, k.bk, k.ct⟩
theorem dss_nil : DSs X Z [] wNext := ⟨PSs.imp pss_nil fun E σ H ⟨g, S, W, ok, q, eo⟩ => eo.nx S g σ H q ok Step.rf, fun S W W' k => k.nx S⟩
theorem seq_core (ha : MonoS a) (hb : MonoS b) {E : Ends} {σ : L2.St} {H : Hp} (q : liftS X.K Z (wSeq a b) E σ H) : tSeq (liftS X.K Z a) (liftS X.K Z b) E σ H := by
  obtain ⟨g, S, W, ok, q, eo⟩ := q
  refine ⟨g, S, _, ok, q, ⟨fun S1 g1 σ1 H1 z ok1 st1 => ⟨g1, S1, W, ok1, z, eo.step st1⟩, eo.rt, eo.bk, eo.ct⟩⟩
theorem dss_cons (h1 : DS X Z st a) (h2 : DSs X Z rest b) : DSs X Z (st :: rest) (wSeq a b) :=
  ⟨PSs.imp (pss_cons h1.ps h2.ps) fun E σ H q => seq_core h1.mono h2.mono q, wSeq_mono h1.mono h2.mono⟩
theorem dss_one (h1 : DS X Z st a) : DSs X Z [st] a := ⟨pss_one h1.ps, h1.mono⟩
theorem ds_pass : DS X Z (.Pass pos) wNext := ⟨PS.imp ps_pass fun E σ H ⟨g, S, W, ok, q, eo⟩ => eo.nx S g σ H q ok Step.rf, fun S W W' k => k.nx S⟩
def wBreak : WS := fun S W => W.bk S
def wCont : WS := fun S W => W.ct S
theorem ds_break : DS X Z (.Break pos) wBreak := ⟨PS.imp ps_break fun E σ H ⟨g, S, W, ok, q, eo⟩ => eo.bk S g σ H q ok Step.rf, fun S W W' k => k.bk S⟩
theorem ds_continue : DS X Z (.Continue pos) wCont := ⟨PS.imp ps_continue fun E σ H ⟨g, S, W, ok, q, eo⟩ => eo.ct S g σ H q ok Step.rf, fun S W W' k => k.ct S⟩
theorem ds_doc {x j pos pos'} : DS X Z (.Expr (.Constant (.str x) j pos) pos') wNext := ⟨PS.imp ps_doc fun E σ H ⟨g, S, W, ok, q, eo⟩ => eo.nx S g σ H q ok Step.rf, fun S W W' k => k.nx S⟩
def wDrop (w : WE) : WS := fun S W => w S fun _ S1 => W.nx S1
theorem ds_expr (h : DE X Z e w) (hs : swapsWith e none pos.line X.env = pure false := by rfl) : DS X Z (.Expr e pos) (wDrop w) :=
  ⟨PS.imp (ps_expr h.pe hs) fun E σ H ⟨g, S, W, ok, q, eo⟩ => ⟨g, S, ok, h.mono S _ _ (fun r S1 z g1 v H1 ok1 rv st1 => eo.nx S1 g1 σ H1 z ok1 st1) q⟩, fun S W W' k => h.mono S _ _ fun r S1 => k.nx S1⟩
def wRet (w : WE) : WS := fun S W => w S fun r S1 => give S1 r fun d S2 => W.rt d S2.n
theorem ds_ret (h : DE X Z e w) : DS X Z (.Return (some e) pos) (wRet w) := by
  refine ⟨PS.impL (ps_ret h.pe) fun E σ H ⟨g, S, W, ok, q, eo⟩ => ⟨g, S, ok, h.mono S _ _ (fun r S1 z g1 v H1 ok1 rv st1 => ?_) q⟩, fun S W W' k => h.mono S _ _ fun r S1 => give_mono fun d S2 => k.rt d S2.n⟩
  obtain ⟨d, S2, e1, z⟩ := give_of z
  exact (freeze ok1 rv e1).mono fun H2 ⟨g2, ok2, r2, st2⟩ => eo.rt d _ g2 v H2 z ok2.gok r2 (st1.tr st2)
def wRetN : WS := fun S W => W.rt .non S.n
theorem ds_retN : DS X Z (.Return none pos) wRetN := ⟨PS.imp ps_retN fun E σ H ⟨g, S, W, ok, q, eo⟩ => eo.rt _ _ g _ H q ok.gok .non Step.rf, fun S W W' k => k.rt _ _⟩
def wIfS (t : WT) (a b : WS) : WS := fun S W => t S fun c S1 => if c = true then a S1 W else b S1 W
theorem ds_if {c : Expr} {x y : List Stmt} {t : WT} (hc : DT X Z c t) (ha : DSs X Z x a) (hb : DSs X Z y b) : DS X Z (.If c x y pos) (wIfS t a b) := by
  refine ⟨PS.imp (ps_if hc.pt ha.ps hb.ps) fun E σ H ⟨g, S, W, ok, q, eo⟩ => ⟨g, S, ok, hc.mono S _ _ (fun c S1 z g1 H1 ok1 st1 => ?_) q⟩, fun S W W' k => hc.mono S _ _ fun c S1 => ite_mono (ha.mono S1 _ _ k) (hb.mono S1 _ _ k)⟩
  cases c with
  | true => exact ⟨g1, S1, W, ok1, z, eo.step st1⟩
  | false => exact ⟨g1, S1, W, ok1, z, eo.step st1⟩
def wNever : WS := fun _ _ => False
theorem ds_never : DS X Z st wNever := ⟨PS.imp ps_never fun E σ H ⟨g, S, W, ok, q, eo⟩ => q, fun S W W' k h => h⟩
theorem dss_never {sts : List Stmt} : DSs X Z sts wNever := ⟨PSs.imp pss_never fun E σ H ⟨g, S, W, ok, q, eo⟩ => q, fun S W W' k h => h⟩
end
/-! ### stores -/
section
variable {K : PySem.W.Frag} {g : Gh} {H : Hp} {S : Sx} {σ : L2.St}
theorem EnvOk.put (h : EnvOk K Z g H S σ) {i : Nat} {t : T} {v : V} (s : Slot K g H t (some v)) (hd : t.owned = true → ∀ (j : Nat) (tj : T), S.ρ[j]? = some tj → tj.owned = true → σ[j]? ≠ some (some v)) : EnvOk K Z g H (S.put i t) (σ.set i (some v)) := by
  have at_ : ∀ (j : Nat) (tj : T), (S.ρ.set i t)[j]? = some tj → (j = i ∧ tj = t ∧ j < S.ρ.length) ∨ (j ≠ i ∧ S.ρ[j]? = some tj) := fun j tj z => by
    by_cases hj : j = i
    · subst hj
      have hl : j < S.ρ.length := by have := (List.getElem?_eq_some_iff.mp z).1; rwa [List.length_set] at this
      rw [List.getElem?_set_self hl] at z
      exact .inl ⟨rfl, (Option.some.inj z).symm, hl⟩
    · rw [List.getElem?_set_ne (Ne.symm hj)] at z
      exact .inr ⟨hj, z⟩
  refine ⟨h.gok, h.hb, by show (σ.set i _).length = (S.ρ.set i _).length; rw [List.length_set, List.length_set]; exact h.len, fun j tj z => ?_, fun j k tj tk a z1 z2 o1 o2 s1 s2 => ?_⟩
  · rcases at_ j tj z with ⟨rfl, rfl, hl⟩ | ⟨hj, z⟩
    · exact ⟨_, by rw [List.getElem?_set_self (by rw [h.len]; exact hl)], s⟩
    · rw [List.getElem?_set_ne (Ne.symm hj)]
      exact h.slot j tj z
  · rcases at_ j tj z1 with ⟨ej, et, hl⟩ | ⟨hj, y1⟩
    · rcases at_ k tk z2 with ⟨ek, et2, _⟩ | ⟨hk, y2⟩
      · rw [ej, ek]
      · rw [ej, List.getElem?_set_self (by rw [h.len, ← ej]; exact hl)] at s1
        rw [List.getElem?_set_ne (Ne.symm hk)] at s2
        cases s1
        exact absurd s2 (hd (by rw [← et]; exact o1) k tk y2 o2)
    · rw [List.getElem?_set_ne (Ne.symm hj)] at s1
      rcases at_ k tk z2 with ⟨ek, et, hl⟩ | ⟨hk, y2⟩
      · rw [ek, List.getElem?_set_self (by rw [h.len, ← ek]; exact hl)] at s2
        cases s2
        exact absurd s1 (hd (by rw [← et]; exact o2) j tj y1 o1)
      · rw [List.getElem?_set_ne (Ne.symm hk)] at s2
        exact h.dist j k tj tk a y1 y2 o1 o2 s1 s2
theorem EnvOk.putD (h : EnvOk K Z g H S σ) {i : Nat} {d : D} {v : V} (r : Rep K g.p (bare g.own H) d v) : EnvOk K Z g H (S.put i (.d d)) (σ.set i (some v)) := h.put ⟨v, rfl, r⟩ (fun z => by cases z)
def store (S : Sx) (i : Nat) (r : Vl) (k : Sx → Prop) : Prop := match r with
  | .n t => k (S.put i t)
  | r => give S r fun d S' => k (S'.put i (.d d))
theorem store_mono {i : Nat} {r : Vl} {k k' : Sx → Prop} (h : ∀ S', k S' → k' S') (u : store S i r k) : store S i r k' := by
  cases r with
  | n t => exact h _ u
  | v d => exact give_mono (S := S) (r := .v d) (k := fun d S' => k (S'.put i (.d d))) (k' := fun d S' => k' (S'.put i (.d d))) (fun d S' => h _) u
  | s j => exact give_mono (S := S) (r := .s j) (k := fun d S' => k (S'.put i (.d d))) (k' := fun d S' => k' (S'.put i (.d d))) (fun d S' => h _) u
theorem store_ok {i : Nat} {r : Vl} {v : V} {k : Sx → Prop} (h : EnvOk K Z g H S σ) (rv : RepV K g H S σ r v) (u : store S i r k) :
    LockC (fun H1 => ∃ g' S', k S' ∧ EnvOk K Z g' H1 S' (σ.set i (some v)) ∧ Step g H g' H1) H := by
  cases r with
  | n t =>
    obtain ⟨a, rfl, o, nd⟩ := rv
    exact .now ⟨g, _, u, h.put (slot_of o) (fun _ j tj z oj => nd j tj z oj), Step.rf⟩
  | v d =>
    obtain ⟨d, S1, e, u⟩ := give_of (S := S) (r := .v d) (k := fun d S' => k (S'.put i (.d d))) u
    exact (freeze h rv e).mono fun H1 ⟨g1, ok1, r1, st1⟩ => ⟨g1, _, u, ok1.putD r1, st1⟩
  | s j =>
    obtain ⟨d, S1, e, u⟩ := give_of (S := S) (r := .s j) (k := fun d S' => k (S'.put i (.d d))) u
    exact (freeze h rv e).mono fun H1 ⟨g1, ok1, r1, st1⟩ => ⟨g1, _, u, ok1.putD r1, st1⟩
end
section
variable {X : Cx} {st : Stmt} {a b : WS} {e tg : Expr} {w : WE} {pos : Pos}
def wSet (i : Nat) (w : WE) : WS := fun S W => w S fun r S1 => store S1 i r W.nx
theorem wSet_mono {i : Nat} (h : MonoE w) : MonoS (wSet i w) := fun S W W' k => h S _ _ fun r S1 => store_mono k.nx
/-- name = e, by any rule whose reading is told -/
theorem ds_set_core {i : Nat} {t : TE} (h : PS X st (tAsg t (gName i))) (hm : MonoE w) (hi : ∀ σ H Q, liftE X.K Z w σ H Q → t σ H Q) : DS X Z st (wSet i w) := by
  refine ⟨PS.impL h fun E σ H ⟨g, S, W, ok, q, eo⟩ => hi σ H _ ⟨g, S, ok, hm S _ _ (fun r S1 z g1 v H1 ok1 rv st1 => ?_) q⟩, wSet_mono hm⟩
  exact (store_ok ok1 rv z).mono fun H2 ⟨g2, S2, z2, ok2, st2⟩ => eo.nx S2 g2 _ H2 z2 ok2 (st1.tr st2)
theorem ds_set {i : Nat} {x : Str} {pos' : Pos} (h : DE X Z e w) (hN : X.N.Nodup) (hi : X.N[i]? = some x := by rfl) (hx : Loc X.env.scope x := by first | exact Or.inl rfl | exact Or.inr rfl) (hs : swapsWith e (some (.Name x pos')) pos.line X.env = pure false := by rfl) (hf : X.fn x = true ∨ X.env.scope.names.lookup x = some .local := by first | exact .inl rfl | exact .inr rfl | assumption) :
    DS X Z (.Assign [.Name x pos'] e pos) (wSet i w) := ds_set_core (ps_set hN hi hx h.pe hs hf) h.mono fun _ _ _ q => q
/-- a value that is data from now on -/
abbrev WD1 := Sx → (D → Sx → Prop) → Prop
def wGive1 (w : WE) : WD1 := fun S Q => w S fun r S1 => give S1 r Q
theorem wGive1_mono (h : MonoE w) : ∀ S (Q Q' : D → Sx → Prop), (∀ r S', Q r S' → Q' r S') → wGive1 w S Q → wGive1 w S Q' := fun S Q Q' k => h S _ _ fun rs S1 => give_mono k
def liftE1 (K : PySem.W.Frag) (Z : Bs) (w : WD1) : TE := fun σ H R => ∃ g S, EnvOk K Z g H S σ ∧ w S fun d S' => ∀ g' v H', EnvOk K Z g' H' S' σ → Rep K g'.p (bare g'.own H') d v → Step g H g' H' → R v H'
theorem pe_give (h : DE X Z e w) : PE X e (liftE1 X.K Z (wGive1 w)) := PE.imp h.pe fun σ H Q ⟨g, S, ok, q⟩ => ⟨g, S, ok, h.mono S _ _ (fun rs S1 q1 g1 vs H1 ok1 rv1 st1 => by
  obtain ⟨ds, S2, e, q2⟩ := give_of q1
  exact (freeze ok1 rv1 e).mono fun H2 ⟨g2, ok2, r2, st2⟩ => q2 g2 vs H2 ok2 r2 (st1.tr st2)) q⟩
/-! ### targets -/
abbrev WG := D → Sx → (Sx → Prop) → Prop
abbrev WGs := List D → Sx → (Sx → Prop) → Prop
/-- all but some slots are as they were -/
def Kept (ws : List Nat) (σ σ' : L2.St) : Prop := σ'.length = σ.length ∧ ∀ i : Nat, i ∉ ws → σ'[i]? = σ[i]?
theorem Kept.rf {ws : List Nat} {σ : L2.St} : Kept ws σ σ := ⟨rfl, fun _ _ => rfl⟩
theorem Kept.tr {ws us : List Nat} {σ σ1 σ2 : L2.St} (a : Kept ws σ σ1) (b : Kept us σ1 σ2) : Kept (ws ++ us) σ σ2 :=
  ⟨b.1.trans a.1, fun i hi => by
    simp only [List.mem_append, not_or] at hi
    exact (b.2 i hi.2).trans (a.2 i hi.1)⟩
def liftG (K : PySem.W.Frag) (Z : Bs) (w : WG) (ws : List Nat) : TG := fun v σ H Q => ∃ g S d, EnvOk K Z g H S σ ∧ Rep K g.p (bare g.own H) d v ∧ w d S fun S' => ∀ g' σ' H', EnvOk K Z g' H' S' σ' → Kept ws σ σ' → Step g H g' H' → Q σ' H'
def liftGs (K : PySem.W.Frag) (Z : Bs) (w : WGs) (ws : List Nat) : TGs := fun vs σ H Q => ∃ g S ds, EnvOk K Z g H S σ ∧ Reps K g.p (bare g.own H) ds vs ∧ w ds S fun S' => ∀ g' σ' H', EnvOk K Z g' H' S' σ' → Kept ws σ σ' → Step g H g' H' → Q σ' H'
structure DG (X : Cx) (Z : Bs) (tg : Expr) (w : WG) (ws : List Nat) : Prop where
  pg : PG X tg (liftG X.K Z w ws)
  mono : ∀ d S (Q Q' : Sx → Prop), (∀ S, Q S → Q' S) → w d S Q → w d S Q'
structure DGs (X : Cx) (Z : Bs) (tg : List Expr) (w : WGs) (ws : List Nat) : Prop where
  pg : PGs X tg (liftGs X.K Z w ws)
  mono : ∀ d S (Q Q' : Sx → Prop), (∀ S, Q S → Q' S) → w d S Q → w d S Q'
theorem PG.imp {t t' : TG} (h : PG X tg t) (i : ∀ v σ H Q, t' v σ H Q → t v σ H Q) : PG X tg t' := ⟨fun pins s σ H v u Q I r q => h.run pins s σ H v u Q I r (i v σ H Q q)⟩
theorem PGs.imp {tgs : List Expr} {t t' : TGs} (h : PGs X tgs t) (i : ∀ v σ H Q, t' v σ H Q → t v σ H Q) : PGs X tgs t' := ⟨fun pins s σ H v u Q I r q => h.run pins s σ H v u Q I r (i v σ H Q q)⟩
theorem PG.or {t t' : TG} (h : PG X tg t) (h' : PG X tg t') : PG X tg (fun v σ H Q => t v σ H Q ∨ t' v σ H Q) := ⟨fun pins s σ H v u Q I r q => q.elim (h.run pins s σ H v u Q I r) (h'.run pins s σ H v u Q I r)⟩
def gPut (i : Nat) : WG := fun d S k => k (S.put i (.d d))
theorem dg_name {i : Nat} {x : Str} (hN : X.N.Nodup) (hi : X.N[i]? = some x := by rfl) (hx : Loc X.env.scope x := by first | exact Or.inl rfl | exact Or.inr rfl) (hf : X.fn x = true ∨ X.env.scope.names.lookup x = some .local := by first | exact .inl rfl | exact .inr rfl | assumption) : DG X Z (.Name x pos) (gPut i) [i] :=
  ⟨PG.imp (pg_name hN hi hx hf) fun v σ H Q ⟨g, S, d, ok, r, q⟩ => q g _ H (ok.putD r) ⟨List.length_set, fun j hj => by
    rw [List.getElem?_set_ne (fun z => hj (by rw [z]; exact List.mem_singleton.mpr rfl))]⟩ Step.rf, fun d S Q Q' k => k _⟩
def gsNil : WGs := fun ds S k => ds = [] ∧ k S
def gsCons (a : WG) (b : WGs) : WGs := fun ds S k => match ds with
  | d :: ds => a d S fun S1 => b ds S1 k
  | [] => False
theorem dgs_nil : DGs X Z [] gsNil [] := ⟨PGs.imp pgs_nil fun vs σ H Q ⟨g, S, ds, ok, r, e, q⟩ => by
  subst e
  cases r
  exact ⟨rfl, q g σ H ok Kept.rf Step.rf⟩, fun d S Q Q' k h => ⟨h.1, k _ h.2⟩⟩
theorem dgs_cons {es : List Expr} {wa : WG} {wb : WGs} {us ws : List Nat} (h1 : DG X Z e wa us) (h2 : DGs X Z es wb ws) (hs : (assignEach (e :: es) X.env).map (·.2) = assign e X.env :: (assignEach es X.env).map (·.2) := by rfl) : DGs X Z (e :: es) (gsCons wa wb) (us ++ ws) := by
  refine ⟨PGs.imp (pgs_cons h1.pg h2.pg hs) fun vs σ H Q ⟨g, S, ds, ok, r, q⟩ => ?_, fun ds S Q Q' k h => ?_⟩
  · cases r with
    | nil => exact q.elim
    | cons r rs => exact ⟨_, _, rfl, g, S, _, ok, r, h1.mono _ S _ _ (fun S1 z g1 σ1 H1 ok1 kp1 st1 => ⟨g1, S1, _, ok1, by rw [st1.p]; exact rs.mono st1.same, h2.mono _ S1 _ _ (fun S2 z g2 σ2 H2 ok2 kp2 st2 => z g2 σ2 H2 ok2 (kp1.tr kp2) (st1.tr st2)) z⟩) q⟩
  · cases ds with
    | nil => exact h
    | cons d ds => exact h1.mono _ S _ _ (fun S1 => h2.mono _ S1 _ _ k) h
/-- a tuple or a list is told apart -/
def gUnp (n : Nat) (w : WGs) : WG := fun d S k => match d with
  | .tup ds => ds.length = n ∧ w ds S k
  | .lst ds => ds.length = n ∧ w ds S k
  | _ => False
theorem dg_unp {es : List Expr} {k n : Nat} {w : WGs} {ws : List Nat} (hc : X.calm = true) (h : DGs X Z es w ws) (hn : (assignEach es X.env).length = n := by rfl) (hst : (assignEach es X.env).findIdx? (·.1) = none := by rfl) : DG X Z (.Tuple es k pos) (gUnp n w) ws := by
  refine ⟨PG.imp (PG.or (pg_tup hc h.pg hn hst) (pg_unl hc h.pg hn hst)) fun v σ H Q ⟨g, S, d, ok, r, q⟩ => ?_, fun d S Q Q' k z => ?_⟩
  · cases r with
    | tup h1 h2 => exact .inl ⟨_, _, rfl, sqT_same bare_sub h1, by rw [← h2.len]; exact q.1, g, S, _, ok, h2, q.2⟩
    | lst h1 h2 => exact .inr ⟨_, _, rfl, SqL.of (bare_sub _ _ h1), by rw [← h2.len]; exact q.1, g, S, _, ok, h2, q.2⟩
    | _ => exact q.elim
  · cases d with
    | tup ds => exact ⟨z.1, h.mono _ _ _ _ k z.2⟩
    | lst ds => exact ⟨z.1, h.mono _ _ _ _ k z.2⟩
    | _ => exact z
def wAsg (w : WE) (g : WG) : WS := fun S W => w S fun r S1 => give S1 r fun d S2 => g d S2 W.nx
theorem ds_asg {wg : WG} {ws : List Nat} (h : DE X Z e w) (hg : DG X Z tg wg ws) (hs : swapsWithSole [tg] e pos.line X.env = pure false := by rfl) (hw : swappedStores [tg] e X.env = pure none := by rfl)
    (h1 : (assignEach [tg] X.env).map (·.2) = [assign tg X.env] := by rfl) : DS X Z (.Assign [tg] e pos) (wAsg w wg) := by
  refine ⟨PS.imp (ps_asg (pe_give h) hg.pg hs hw h1) fun E σ H ⟨g, S, W, ok, q, eo⟩ => ⟨g, S, ok, wGive1_mono h.mono S _ _ (fun d S1 z g1 v H1 ok1 r1 st1 => ⟨g1, S1, d, ok1, r1, hg.mono _ S1 _ _ (fun S2 z g2 σ2 H2 ok2 kp2 st2 => eo.nx S2 g2 σ2 H2 z ok2 (st1.tr st2)) z⟩) q⟩, fun S W W' k => h.mono S _ _ fun r S1 => give_mono fun d S2 => hg.mono _ _ _ _ k.nx⟩
/-! ### while -/
def wWhileN (t : WT) (b : WS) : Nat → WS
  | 0 => fun _ _ => False
  | m + 1 => fun S W => t S fun c S1 => if c = true then b S1 { W with nx := fun S2 => wWhileN t b m S2 W, ct := fun S2 => wWhileN t b m S2 W, bk := W.nx } else W.nx S1
def wWhile (t : WT) (b : WS) : WS := fun S W => ∃ m, wWhileN t b m S W
theorem wWhileN_mono {t : WT} {b : WS} (ht : MonoT t) (hb : MonoS b) : ∀ m, MonoS (wWhileN t b m)
  | 0 => fun S W W' k h => h
  | m + 1 => fun S W W' k => ht S _ _ fun c S1 => ite_mono (hb S1 _ _ ⟨fun S2 => wWhileN_mono ht hb m S2 _ _ k, k.rt, k.nx, fun S2 => wWhileN_mono ht hb m S2 _ _ k⟩) (k.nx S1)
theorem ds_while {c : Expr} {body : List Stmt} {t : WT} {b : WS} (hc : DT X Z c t) (hb : DSs X Z body b) (hp : PassesOwn (model X.prog X.w) X.A X.env X.xe) : DS X Z (.While c body [] pos) (wWhile t b) := by
  refine ⟨PS.imp (ps_while hp hc.pt hb.ps) fun E σ H ⟨g, S, W, ok, ⟨m, q⟩, eo⟩ => ?_, fun S W W' k ⟨m, h⟩ => ⟨m, wWhileN_mono hc.mono hb.mono m S W W' k h⟩⟩
  refine ⟨fun m σ1 H1 => ∃ g1 S1, EnvOk X.K Z g1 H1 S1 σ1 ∧ wWhileN t b m S1 W ∧ Step g H g1 H1, ⟨m, g, S, ok, q, Step.rf⟩, fun m σ1 H1 ⟨g1, S1, ok1, q1, st1⟩ => ?_⟩
  cases m with
  | zero => exact q1.elim
  | succ m =>
    refine ⟨g1, S1, ok1, hc.mono S1 _ _ (fun c S2 z g2 H2 ok2 st2 => ?_) q1⟩
    cases c with
    | false => exact eo.nx S2 g2 σ1 H2 z ok2 (st1.tr st2)
    | true =>
      refine ⟨fun σ3 H3 => ∃ g3 S3, EnvOk X.K Z g3 H3 S3 σ3 ∧ wWhileN t b m S3 W ∧ Step g H g3 H3, fun σ3 H3 z => ⟨m, Nat.lt_succ_self m, z⟩, ?_⟩
      have st12 := st1.tr st2
      exact ⟨g2, S2, _, ok2, z, ⟨fun S3 g3 σ3 H3 z ok3 st3 => ⟨g3, S3, ok3, z, st12.tr st3⟩, fun d n g3 v H3 z gk r st3 => eo.rt d n g3 v H3 z gk r (st12.tr st3), fun S3 g3 σ3 H3 z ok3 st3 => eo.nx S3 g3 σ3 H3 z ok3 (st12.tr st3), fun S3 g3 σ3 H3 z ok3 st3 => ⟨g3, S3, ok3, z, st12.tr st3⟩⟩⟩
end
end DL
end
section
set_option Elab.async false
set_option linter.all false
set_option maxRecDepth 100000
set_option maxHeartbeats 4000000
namespace DL
open PySem L2 PyProof.Rows
variable {Z : Bs}
def kD : Key → D
  | .inl i => .int i
  | .inr z => .str z
theorem kD_rep {K : PySem.W.Frag} {p : Addr} {H : Hp} (k : Key) : Rep K p H (kD k) (kV k) := by
  cases k with
  | inl i => exact .int i
  | inr z => exact .str z
theorem kDs_rep {K : PySem.W.Frag} {p : Addr} {H : Hp} : ∀ ks : List Key, Reps K p H (ks.map kD) (ks.map kV)
  | [] => .nil
  | k :: ks => .cons (kD_rep k) (kDs_rep ks)
/-- what is given at a turn -/
def YD (K : PySem.W.Frag) (p : Addr) (B : Hp) (d : D) (x : V) (H H' : Hp) : Prop :=
  (H' = H ∧ Rep K p B d x) ∨ ∃ t vs es, x = .ref t ∧ H t = none ∧ H' = upd H t (.tup vs) ∧ d = .tup es ∧ Reps K p B es vs
structure WalkD (K : PySem.W.Frag) (p : Addr) (B : Hp) (J : It) (ds : List D) : Prop where
  goes : ∀ i H, i < ds.length → Same B H → J.go i H
  stops : ∀ H, Same B H → J.stop ds.length H
  yields : ∀ i H x H', i < ds.length → Same B H → J.yld i H x H' → ∃ d, ds[i]? = some d ∧ YD K p B d x H H'
theorem YD.rep {K : PySem.W.Frag} {g : Gh} {H H' B : Hp} {S : Sx} {σ : L2.St} {d : D} {x : V} (y : YD K g.p B d x H H') (ok : EnvOk K Z g H S σ) (s : Same B (bare g.own H)) :
    EnvOk K Z g H' S σ ∧ Rep K g.p (bare g.own H') d x ∧ Step g H g H' := by
  rcases y with ⟨rfl, r⟩ | ⟨t, vs, es, rfl, ht, rfl, rfl, r⟩
  · exact ⟨ok, r.mono s, Step.rf⟩
  · have s1 := new_same (o := .tup vs) ht
    refine ⟨ok.same s1, .tup (SqT.of ?_) (r.mono (same_tr s (bare_same s1))), Step.grow ok.gok s1⟩
    rw [bare_ne (not_own ok.gok ht)]
    exact upd_same
abbrev WI := Sx → (List D → Sx → Prop) → Prop
def MonoI (w : WI) : Prop := ∀ S (Q Q' : List D → Sx → Prop), (∀ r S', Q r S' → Q' r S') → w S Q → w S Q'
def liftI (K : PySem.W.Frag) (Z : Bs) (w : WI) : TI := fun σ H R => ∃ g S, EnvOk K Z g H S σ ∧ w S fun ds S' => ∀ g' J H', EnvOk K Z g' H' S' σ → WalkD K g'.p (bare g'.own H') J ds → Step g H g' H' → R J H'
structure DI (X : Cx) (Z : Bs) (tg e : Expr) (w : WI) : Prop where
  pi : PI X tg e (liftI X.K Z w)
  mono : MonoI w
/-- the items of data -/
def iterD : D → Option (List D)
  | .lst xs => some xs
  | .tup xs => some xs
  | .str z => some (z.cps.toList.map fun c => .str ⟨#[c]⟩)
  | .dk kvs => some (kvs.map fun kv => kD kv.1)
  | .dt kvs => some (kvs.map fun kv => .tup (kv.1.map kD))
  | _ => none
section
variable {X : Cx} {tg e : Expr}
theorem pi_any {te : TE} (he : PE X e te) : PI X tg e (fun σ H R => te σ H fun x H1 => (∃ a xs, x = .ref a ∧ SqL X.K H1 a xs ∧ R (Itl X.K a) H1) ∨ (∃ a xs, x = .ref a ∧ SqT X.K H1 a xs ∧ R (Itt X.K a) H1) ∨ (∃ z, x = .str z ∧ R (Its z) H1) ∨
    (∃ d o kvs, x = .ref d ∧ H1 d = some (.frz o (.dK kvs)) ∧ R (Itk d o kvs) H1) ∨ (∃ d o kvs, x = .ref d ∧ H1 d = some (.frz o (.dT kvs)) ∧ R (Itkt d o kvs) H1)) := by
  refine ⟨fun pins s σ H R I h => ?_⟩
  refine thn (he.run pins s σ H _ I h) fun v s1 ⟨x, H1, I1, r1, q1⟩ => ?_
  rcases q1 with ⟨a, xs, rfl, hq, q⟩ | ⟨a, xs, rfl, hq, q⟩ | ⟨z, rfl, q⟩ | ⟨d, o, kvs, rfl, hd, q⟩ | ⟨d, o, kvs, rfl, hd, q⟩
  · cases r1
    obtain ⟨its, rv, p, hz⟩ := I1.list hq
    exact wpAny_pyIter_list p.isList (pi_one (tk := s1.toks) I1 _ (turn_list a _) ⟨_, Heap.get?_push_size _ rfl, rfl, rfl⟩ q)
  · cases r1
    obtain ⟨its, rv, p, hz⟩ := I1.tuple hq
    exact wpAny_pyIter_tuple (show s1.heap.IsTuple a its.toArray from p) (pi_one (tk := s1.toks) I1 _ (turn_tuple a _) ⟨_, Heap.get?_push_size _ rfl, rfl, rfl⟩ q)
  · obtain ⟨t, rfl⟩ := r1
    cases ha : z.cps.all (· < 128)
    · exact wpAny_pyIter_wide ha (pi_one (tk := s1.toks) I1 _ (turn_str _ z t "str_iterator" (.inr rfl)) ⟨_, Heap.get?_push_size _ rfl, rfl, rfl⟩ q)
    · exact wpAny_pyIter_ascii ha (pi_one (tk := s1.toks) I1 _ (turn_str _ z t "str_ascii_iterator" (.inl rfl)) ⟨_, Heap.get?_push_size _ rfl, rfl, rfl⟩ q)
  · obtain rfl : v = Value.ref d := r1
    obtain ⟨hs, hgd, hx, es, ep, vs, hdt, hsz, kv, hm⟩ := I1.frzK hd
    refine iter_keys hs hgd hx hdt (pi_one (tk := s1.toks) I1 _ (turn_keys _ hdt) ⟨_, Heap.get?_push_size _ rfl, rfl, ?_⟩ q)
    rw [hsz] <;> rfl
  · obtain rfl : v = Value.ref d := r1
    obtain ⟨hs, hgd, hx, es, ep, hdt, hsz, ent⟩ := I1.frzT hd
    refine iter_keys hs hgd hx hdt (pi_one (tk := s1.toks) I1 _ (turn_keysT _ hdt) ⟨_, Heap.get?_push_size _ rfl, rfl, ?_⟩ q)
    rw [hsz] <;> rfl
theorem walkD_list {K : PySem.W.Frag} {p a : Addr} {B : Hp} {ds : List D} {vs : List V} (h : B a = some (.lst vs)) (r : Reps K p B ds vs) : WalkD K p B (Itl K a) ds := by
  have w := walk_list (K := K) (a := a) (xs := vs)
  rw [← r.len] at w
  refine ⟨fun i H hi s => w.goes i H hi (SqL.of (s _ _ h)), fun H s => w.stops H (SqL.of (s _ _ h)), fun i H x H' hi s y => ?_⟩
  obtain ⟨e1, e2⟩ := w.yields i H x H' hi (SqL.of (s _ _ h)) y
  obtain ⟨d, e3, q⟩ := r.getV e2
  exact ⟨d, e3, .inl ⟨e1, q⟩⟩
theorem walkD_tup {K : PySem.W.Frag} {p a : Addr} {B : Hp} {ds : List D} {vs : List V} (h : SqT K B a vs) (r : Reps K p B ds vs) : WalkD K p B (Itt K a) ds := by
  have w := walk_tup (K := K) (a := a) (xs := vs)
  rw [← r.len] at w
  refine ⟨fun i H hi s => w.goes i H hi (sqT_same s h), fun H s => w.stops H (sqT_same s h), fun i H x H' hi s y => ?_⟩
  obtain ⟨e1, e2⟩ := w.yields i H x H' hi (sqT_same s h) y
  obtain ⟨d, e3, q⟩ := r.getV e2
  exact ⟨d, e3, .inl ⟨e1, q⟩⟩
theorem walkD_str {K : PySem.W.Frag} {p : Addr} {B : Hp} {z : Str} : WalkD K p B (Its z) (z.cps.toList.map fun c => .str ⟨#[c]⟩) := by
  have w := walk_str (z := z)
  have e : z.cps.size = (z.cps.toList.map fun c => D.str ⟨#[c]⟩).length := by simp
  rw [e] at w
  refine ⟨fun i H hi s => w.goes i H hi trivial, fun H s => w.stops H trivial, fun i H x H' hi s y => ?_⟩
  obtain ⟨e1, c, e2, rfl⟩ := w.yields i H x H' hi trivial y
  exact ⟨.str ⟨#[c]⟩, by simp [e2], .inl ⟨e1, .str _⟩⟩
theorem walkD_keys {K : PySem.W.Frag} {p a : Addr} {o : Obj} {B : Hp} {kds : List (Key × D)} {kvs : List (Key × V)} (h : B a = some (.frz o (.dK kvs))) (hk : kvs.map (·.1) = kds.map (·.1)) : WalkD K p B (Itk a o kvs) (kds.map fun kv => kD kv.1) := by
  have w := walk_keys (d := a) (o := o) (kvs := kvs)
  have hl : kvs.length = kds.length := by have := congrArg List.length hk; simpa using this
  have e : kvs.length = (kds.map fun kv => kD kv.1).length := by simp [hl]
  rw [e] at w
  refine ⟨fun i H hi s => w.goes i H hi (s _ _ h), fun H s => w.stops H (s _ _ h), fun i H x H' hi s y => ?_⟩
  obtain ⟨e1, k, v, e2, rfl⟩ := w.yields i H x H' hi (s _ _ h) y
  refine ⟨kD k, ?_, .inl ⟨e1, kD_rep k⟩⟩
  have e3 : (kvs.map (·.1))[i]? = some k := by simp [e2]
  rw [hk] at e3
  rw [List.getElem?_map] at e3 ⊢
  cases q : kds[i]? with
  | none => rw [q] at e3; cases e3
  | some kv => rw [q] at e3; cases e3; rfl
theorem walkD_keysT {K : PySem.W.Frag} {p a : Addr} {o : Obj} {own : List Addr} {H0 : Hp} {kds : List (List Key × D)} {kvs : List (List Key × V)} (h : (bare own H0) a = some (.frz o (.dT kvs))) (hk : kvs.map (·.1) = kds.map (·.1)) (ht : ∀ H q ks, Same (bare own H0) H → ks ∈ kvs.map (·.1) → H q = some (.tup (ks.map kV)) → (bare own H0) q = some (.tup (ks.map kV))) :
    WalkD K p (bare own H0) (Itkt a o kvs) (kds.map fun kv => .tup (kv.1.map kD)) := by
  have w := walk_keysT (d := a) (o := o) (kvs := kvs)
  have hl : kvs.length = kds.length := by have := congrArg List.length hk; simpa using this
  have e : kvs.length = (kds.map fun kv => D.tup (kv.1.map kD)).length := by simp [hl]
  rw [e] at w
  refine ⟨fun i H hi s => w.goes i H hi (s _ _ h), fun H s => w.stops H (s _ _ h), fun i H x H' hi s y => ?_⟩
  obtain ⟨e1, k, v, q, e2, rfl, hq⟩ := w.yields i H x H' hi (s _ _ h) y
  have e3 : (kvs.map (·.1))[i]? = some k := by simp [e2]
  refine ⟨.tup (k.map kD), ?_, .inl ⟨e1, .tup (SqT.of (ht H q k s (List.mem_of_getElem? e3) hq)) (kDs_rep k)⟩⟩
  rw [hk] at e3
  rw [List.getElem?_map] at e3 ⊢
  cases q : kds[i]? with
  | none => rw [q] at e3; cases e3
  | some kv => rw [q] at e3; cases e3; rfl
/-- what is walked is data from now on; dicts by tuples not yet -/
def iterK : D → Option (List D)
  | .dt _ => none
  | d => iterD d
def wIter (w : WE) : WI := fun S Q => w S fun r S1 => give S1 r fun d S2 => match iterK d with
  | some ds => Q ds S2
  | none => False
theorem wIter_mono {w : WE} (h : MonoE w) : MonoI (wIter w) := fun S Q Q' k => h S _ _ fun r S1 => give_mono fun d S2 z => by
  cases e : iterK d with
  | none => rw [e] at z; exact z
  | some ds => rw [e] at z; exact k _ _ z
theorem walkD_of {K : PySem.W.Frag} {p : Addr} {B H : Hp} {d : D} {v : V} {ds : List D} (r : Rep K p B d v) (s : Same B H) (e : iterK d = some ds) (R : It → Hp → Prop) (k : ∀ J, WalkD K p B J ds → R J H) :
    (∃ a xs, v = .ref a ∧ SqL K H a xs ∧ R (Itl K a) H) ∨ (∃ a xs, v = .ref a ∧ SqT K H a xs ∧ R (Itt K a) H) ∨ (∃ z, v = .str z ∧ R (Its z) H) ∨
    (∃ d o kvs, v = .ref d ∧ H d = some (.frz o (.dK kvs)) ∧ R (Itk d o kvs) H) ∨ (∃ d o kvs, v = .ref d ∧ H d = some (.frz o (.dT kvs)) ∧ R (Itkt d o kvs) H) := by
  cases r with
  | lst h1 h2 => cases e; exact .inl ⟨_, _, rfl, SqL.of (s _ _ h1), k _ (walkD_list h1 h2)⟩
  | tup h1 h2 => cases e; exact .inr (.inl ⟨_, _, rfl, sqT_same s h1, k _ (walkD_tup h1 h2)⟩)
  | str z => cases e; exact .inr (.inr (.inl ⟨z, rfl, k _ walkD_str⟩))
  | dk h1 h2 h3 => cases e; exact .inr (.inr (.inr (.inl ⟨_, _, _, rfl, s _ _ h1, k _ (walkD_keys h1 h2)⟩)))
  | _ => cases e
theorem di_val {w : WE} (h : DE X Z e w) : DI X Z tg e (wIter w) := by
  refine ⟨⟨fun pins s σ H R I q => (pi_any (pe_give h)).run pins s σ H R I ?_⟩, wIter_mono h.mono⟩
  obtain ⟨g, S, ok, q⟩ := q
  refine ⟨g, S, ok, wGive1_mono h.mono S _ _ (fun d S1 z g1 v H1 ok1 r1 st1 => ?_) q⟩
  cases e1 : iterK d with
  | none => rw [e1] at z; exact z.elim
  | some ds =>
    rw [e1] at z
    exact walkD_of r1 bare_sub e1 R fun J wk => z g1 J H1 ok1 wk st1
/-- range(n), range(a, b) -/
def upto (lo hi : Int) : List D := (List.range (hi - lo).toNat).map fun i => .int (lo + (i : Nat))
theorem walkD_range {K : PySem.W.Frag} {p : Addr} {B : Hp} {lo : Int} {n : Nat} : WalkD K p B (Itr lo n) ((List.range n).map fun i => .int (lo + (i : Nat))) := by
  have w := walk_range (lo := lo) (n := n)
  have e : n = ((List.range n).map fun i => D.int (lo + (i : Nat))).length := by simp
  refine ⟨fun i H hi s => w.goes i H (by rw [e]; exact hi) trivial, fun H s => by rw [← e]; exact w.stops H trivial, fun i H x H' hi s y => ?_⟩
  have hi' : i < n := by rw [e]; exact hi
  obtain ⟨e1, rfl⟩ := w.yields i H x H' hi' trivial y
  exact ⟨.int (lo + (i : Nat)), by simp [hi'], .inl ⟨e1, .int _⟩⟩
def oRange1 : List D → Option (List D)
  | [.int j] => if -(2 ^ 62) ≤ j ∧ j < 2 ^ 62 then some (upto 0 j) else none
  | _ => none
def oRange2 : List D → Option (List D)
  | [.int i, .int j] => if -(2 ^ 62) ≤ i ∧ i < 2 ^ 62 ∧ -(2 ^ 62) ≤ j ∧ j < 2 ^ 62 then some (upto i j) else none
  | _ => none
def wRange (o : List D → Option (List D)) (w : WA) : WI := fun S Q => w S fun rs S1 => uses S1 rs fun ds => match o ds with
  | some xs => Q xs S1
  | none => False
theorem wRange_mono {o : List D → Option (List D)} {w : WA} (h : MonoA w) : MonoI (wRange o w) := fun S Q Q' k => h S _ _ fun r S1 => uses_mono fun d z => by
  cases e : o d with
  | none => rw [e] at z; exact z
  | some ds => rw [e] at z; exact k _ _ z
theorem oRange1_of {ds xs : List D} (h : oRange1 ds = some xs) : ∃ j, ds = [.int j] ∧ -(2 ^ 62) ≤ j ∧ j < 2 ^ 62 ∧ xs = upto 0 j := by
  unfold oRange1 at h
  split at h
  · split at h
    · next hb => cases h; exact ⟨_, rfl, hb.1, hb.2, rfl⟩
    · cases h
  · cases h
theorem oRange2_of {ds xs : List D} (h : oRange2 ds = some xs) : ∃ i j, ds = [.int i, .int j] ∧ (-(2 ^ 62) ≤ i ∧ i < 2 ^ 62 ∧ -(2 ^ 62) ≤ j ∧ j < 2 ^ 62) ∧ xs = upto i j := by
  unfold oRange2 at h
  split at h
  · split at h
    · next hb => cases h; exact ⟨_, _, rfl, hb, rfl⟩
    · cases h
  · cases h
theorem di_range1 {a : Expr} {w : WA} {p pos : Pos} (hg : Gl X "range") (hm : X.mg "range" = none) (ha : DA X Z [a] w) (hs : starEach [a] X.env = [(false, eval a X.env)] := by rfl) : DI X Z tg (.Call (.Name "range" p) [a] [] pos) (wRange oRange1 w) := by
  refine ⟨⟨fun pins s σ H R I q => (pi_range1 hg hm ha.pa hs).run pins s σ H R I ?_⟩, wRange_mono ha.mono⟩
  obtain ⟨g, S, ok, q⟩ := q
  refine ⟨g, S, ok, ha.mono S _ _ (fun rs S1 z g1 vs H1 ok1 rv1 st1 => ?_) q⟩
  obtain ⟨ds, e1, z⟩ := uses_of z
  have pr := derefs_rep ok1 rv1 e1
  cases e2 : oRange1 ds with
  | none => rw [e2] at z; exact z.elim
  | some xs =>
    rw [e2] at z
    obtain ⟨j, rfl, h1, h2, rfl⟩ := oRange1_of e2
    cases pr with
    | cons r1 rr =>
      cases rr
      cases r1
      refine ⟨j, rfl, h1, h2, z g1 _ H1 ok1 ?_ st1⟩
      unfold upto
      rw [Int.sub_zero]
      exact walkD_range
theorem di_range2 {a b : Expr} {w : WA} {p pos : Pos} (hg : Gl X "range") (hm : X.mg "range" = none) (ha : DA X Z [a, b] w) (hs : starEach [a, b] X.env = [(false, eval a X.env), (false, eval b X.env)] := by rfl) (hs2 : starEach [b] X.env = [(false, eval b X.env)] := by rfl) : DI X Z tg (.Call (.Name "range" p) [a, b] [] pos) (wRange oRange2 w) := by
  refine ⟨⟨fun pins s σ H R I q => (pi_range2 hg hm ha.pa hs hs2).run pins s σ H R I ?_⟩, wRange_mono ha.mono⟩
  obtain ⟨g, S, ok, q⟩ := q
  refine ⟨g, S, ok, ha.mono S _ _ (fun rs S1 z g1 vs H1 ok1 rv1 st1 => ?_) q⟩
  obtain ⟨ds, e1, z⟩ := uses_of z
  have pr := derefs_rep ok1 rv1 e1
  cases e2 : oRange2 ds with
  | none => rw [e2] at z; exact z.elim
  | some xs =>
    rw [e2] at z
    obtain ⟨i, j, rfl, h1, rfl⟩ := oRange2_of e2
    cases pr with
    | cons r1 rr =>
      cases rr with
      | cons r2 rr =>
        cases rr
        cases r1
        cases r2
        exact ⟨i, j, rfl, h1, z g1 _ H1 ok1 walkD_range st1⟩
/-! ### for -/
def wForGo (wg : WG) (b : WS) : List D → WS
  | [] => fun S W => W.nx S
  | d :: ds => fun S W => wg d S fun S1 => b S1 { W with nx := fun S2 => wForGo wg b ds S2 W, ct := fun S2 => wForGo wg b ds S2 W, bk := W.nx }
def wFor (wi : WI) (wg : WG) (b : WS) : WS := fun S W => wi S fun ds S1 => wForGo wg b ds S1 W
theorem wForGo_mono {wg : WG} {b : WS} (hg : ∀ d S (Q Q' : Sx → Prop), (∀ S, Q S → Q' S) → wg d S Q → wg d S Q') (hb : MonoS b) : ∀ ds, MonoS (wForGo wg b ds)
  | [] => fun S W W' k => k.nx S
  | d :: ds => fun S W W' k => hg d S _ _ fun S1 => hb S1 _ _ ⟨fun S2 => wForGo_mono hg hb ds S2 _ _ k, k.rt, k.nx, fun S2 => wForGo_mono hg hb ds S2 _ _ k⟩
theorem ds_for {iter : Expr} {body : List Stmt} {wi : WI} {wg : WG} {ws : List Nat} {b : WS} {pos : Pos} (hi : DI X Z tg iter wi) (hg : DG X Z tg wg ws) (hb : DSs X Z body b) (hp : PassesOwn (model X.prog X.w) X.A X.env X.xe) (hc : X.calm = true) (hs : ∀ x, foldedSetIterable iter X.env x = pure x := by intro _; rfl) :
    DS X Z (.For tg iter body [] pos) (wFor wi wg b) := by
  refine ⟨PS.imp (ps_for hp hc hi.pi hg.pg hb.ps hs) fun E σ H ⟨g, S, W, ok, q, eo⟩ => ⟨g, S, ok, hi.mono S _ _ (fun ds S1 z g1 J H1 ok1 wk st1 => ?_) q⟩, fun S W W' k => hi.mono S _ _ fun ds S1 => wForGo_mono hg.mono hb.mono ds S1 _ _ k⟩
  refine ⟨fun i m σ2 H2 => m = ds.length - i ∧ i ≤ ds.length ∧ ∃ g2 S2, EnvOk X.K Z g2 H2 S2 σ2 ∧ wForGo wg b (ds.drop i) S2 W ∧ Step g1 H1 g2 H2, ⟨_, rfl, Nat.zero_le _, g1, S1, ok1, z, Step.rf⟩, ?_⟩
  rintro i m σ2 H2 ⟨rfl, hil, g2, S2, ok2, z2, st2⟩
  have sB : Same (bare g1.own H1) H2 := same_tr st2.same bare_sub
  by_cases hlt : i < ds.length
  · refine .inr ⟨wk.goes i H2 hlt sB, fun σ3 H3 => ∃ g3 S3, EnvOk X.K Z g3 H3 S3 σ3 ∧ wForGo wg b (ds.drop (i + 1)) S3 W ∧ Step g1 H1 g3 H3, fun σ3 H3 w => ⟨_, by omega, rfl, hlt, w⟩, fun x H3 y => ?_⟩
    obtain ⟨d, e, yd⟩ := wk.yields i H2 x H3 hlt sB y
    have ed : ds.drop i = d :: ds.drop (i + 1) := by
      rw [List.drop_eq_getElem_cons hlt]
      congr 1
      exact Option.some.inj ((List.getElem?_eq_getElem hlt).symm.trans e)
    rw [ed] at z2
    rw [← st2.p] at yd
    obtain ⟨ok3, r3, st3⟩ := yd.rep ok2 st2.same
    refine ⟨g2, S2, d, ok3, r3, hg.mono d S2 _ _ (fun S4 z4 g4 σ4 H4 ok4 kp4 st4 => ?_) z2⟩
    have st14 := st2.tr (st3.tr st4)
    have e4 := eo.step (st1.tr st14)
    exact ⟨g4, S4, _, ok4, z4, ⟨fun S5 g5 σ5 H5 z5 ok5 st5 => ⟨g5, S5, ok5, z5, st14.tr st5⟩, e4.rt, e4.nx, fun S5 g5 σ5 H5 z5 ok5 st5 => ⟨g5, S5, ok5, z5, st14.tr st5⟩⟩⟩
  · have e : i = ds.length := by omega
    subst e
    rw [List.drop_length] at z2
    exact .inl ⟨wk.stops H2 sB, eo.nx S2 g2 σ2 H2 z2 ok2 (st1.tr st2)⟩
end
end DL
end
section
set_option Elab.async false
set_option linter.all false
set_option maxRecDepth 100000
set_option maxHeartbeats 4000000
namespace DL
open PySem L2 PyProof.Rows
variable {Z : Bs}
/-! ### comprehensions: the new list stands apart while it is filled -/
def Gh.enter (g : Gh) (a : Addr) (o : HO) : Gh := { g with own := a :: g.own, prot := a :: g.prot, own0 := a :: g.own0, H0 := upd g.H0 a o }
structure Out (g : Gh) (a : Addr) : Prop where
  np : a ∉ g.prot
  n0 : a ∉ g.own0
  nq : a ∉ g.q.gl
  hn : g.H0 a = none
structure In (g : Gh) (a : Addr) (o : HO) (g1 : Gh) : Prop where
  q : g1.q = g.q
  prot : g1.prot = a :: g.prot
  own0 : g1.own0 = a :: g.own0
  H0 : g1.H0 = upd g.H0 a o
theorem In.p {g g1 : Gh} {a : Addr} {o : HO} (i : In g a o g1) : g1.p = g.p := congrArg Gp.p i.q
section
variable {K : PySem.W.Frag} {g g1 : Gh} {H H1 : Hp} {S S1 : Sx} {σ : L2.St} {a : Addr} {o o' : HO}
theorem out_of {n : Nat} (h : GOk g H n) (hn : H a = none) : Out g a := by
  have no := not_own h hn
  refine ⟨fun z => no (h.sub a z), fun z => no (h.b0 a z), fun z => no (h.pin a z), ?_⟩
  cases e : g.H0 a with
  | none => rfl
  | some u =>
    have := h.b1 a u (by rw [bare_ne (fun z => no (h.b0 a z))]; exact e)
    rw [bare_ne no, hn] at this
    cases this
theorem EnvOk.enter (h : EnvOk K Z g H S σ) (hn : H a = none) (ht : isTupO o = false) : EnvOk K ZT (g.enter a o) (upd H a o) S σ := by
  have no := not_own h.gok hn
  have hne : ∀ b, H b ≠ none → b ≠ a := fun b e z => e (by rw [z]; exact hn)
  have sb : Same (bare g.own H) (bare (g.enter a o).own (upd H a o)) := bare_new hn
  refine ⟨⟨fun b hb => ?_, fun b hb => List.mem_cons_of_mem _ (h.gok.pin b hb), fun c hc z => ?_, fun b hb => ?_, ?_, h.gok.tabs.ext (new_same hn), fun b hb => ?_, fun b u e => ?_, fun b hb => ?_, fun b hb => ?_⟩, trivial, h.len, fun i t e => ?_, h.dist⟩
  · rcases List.mem_cons.mp hb with z | z
    · rw [z]; exact List.mem_cons_self ..
    · exact List.mem_cons_of_mem _ (h.gok.sub b z)
  · rcases List.mem_cons.mp z with y | y
    · exact no (by rw [← y]; exact h.gok.pin c hc)
    · exact h.gok.pnp c hc y
  · rcases List.mem_cons.mp hb with y | y
    · exact ⟨o, by rw [y, upd_same], ht⟩
    · exact (h.gok.lv b y).upd ht
  · obtain ⟨x, y, c, e, r⟩ := h.gok.pot
    exact ⟨x, y, c, new_same hn _ _ e, r⟩
  · rcases List.mem_cons.mp hb with z | z
    · rw [z]; exact List.mem_cons_self ..
    · exact List.mem_cons_of_mem _ (h.gok.b0 b z)
  · by_cases hb : b ∈ (g.enter a o).own0
    · rw [bare_in hb] at e; cases e
    · rw [bare_ne hb] at e
      have h1 : b ≠ a := fun z => hb (by rw [z]; exact List.mem_cons_self ..)
      have h2 : b ∉ g.own0 := fun z => hb (List.mem_cons_of_mem _ z)
      have e' : g.H0 b = some u := by
        have e2 : upd g.H0 a o b = some u := e
        rwa [upd_ne h1] at e2
      exact sb b u (h.gok.b1 b u (by rw [bare_ne h2]; exact e'))
  · by_cases z : b = a
    · rw [z, upd_same]; exact upd_same.symm
    · rw [upd_ne z]
      have hb' : b ∈ g.prot := by
        rcases List.mem_cons.mp hb with y | y
        · exact absurd y z
        · exact y
      show H b = upd g.H0 a o b
      rw [upd_ne z]
      exact h.gok.b2 b hb'
  · rcases List.mem_cons.mp hb with z | z
    · rw [z]; exact .inr (List.mem_cons_self ..)
    · exact (h.gok.b3 b z).imp id (List.mem_cons_of_mem _)
  · obtain ⟨u, e1, sl⟩ := h.slot i t e
    refine ⟨u, e1, ?_⟩
    have ow : ∀ {b : Addr}, OwnA K g H t b → OwnA K (g.enter a o) (upd H a o) t b := fun {b} q => by
      obtain ⟨w, e2, e3⟩ := q.obj
      have hb : b ≠ a := hne b (by rw [e2]; simp)
      refine ⟨List.mem_cons_of_mem _ q.own, fun z => ?_, q.nq, fun z => ?_, w, by rw [upd_ne hb]; exact e2, e3.mono sb⟩
      · rcases List.mem_cons.mp z with y | y
        · exact hb y
        · exact q.np y
      · rcases List.mem_cons.mp z with y | y
        · exact hb y
        · exact q.n0 y
    cases t with
    | dead => exact trivial
    | d x => obtain ⟨v, e2, r⟩ := sl; exact ⟨v, e2, r.mono sb⟩
    | l _ => obtain ⟨b, e2, r⟩ := sl; exact ⟨b, e2, ow r⟩
    | k _ => obtain ⟨b, e2, r⟩ := sl; exact ⟨b, e2, ow r⟩
    | t _ => obtain ⟨b, e2, r⟩ := sl; exact ⟨b, e2, ow r⟩
    | o _ _ => obtain ⟨b, e2, r⟩ := sl; exact ⟨b, e2, ow r⟩
/-- the list at a grows -/
theorem EnvOk.again {xs : List V} (h : EnvOk K ZT g1 H1 S1 σ) (i : In g a o g1) (hl : H1 a = some (.lst xs)) (ht : isTupO o' = false) : EnvOk K ZT { g1 with H0 := upd g.H0 a o' } (upd H1 a o') S1 σ ∧ In g a o' { g1 with H0 := upd g.H0 a o' } := by
  have hp : a ∈ g1.prot := by rw [i.prot]; exact List.mem_cons_self ..
  have ho : a ∈ g1.own := h.gok.sub a hp
  have eb : bare g1.own (upd H1 a o') = bare g1.own H1 := bare_upd ho
  refine ⟨⟨⟨h.gok.sub, h.gok.pin, h.gok.pnp, fun b hb => ?_, ?_, tabs_over hl (fun _ z => by cases z) (fun c q z => by unfold LamX.CodeO at z; cases z) h.gok.tabs, h.gok.b0, fun b u e => ?_, fun b hb => ?_, h.gok.b3⟩, trivial, h.len, fun i t e => ?_, h.dist⟩, i.q, i.prot, i.own0, rfl⟩
  · exact (h.gok.lv b hb).upd ht
  · obtain ⟨x, y, c, e, r⟩ := h.gok.pot
    exact ⟨x, y, c, by rw [upd_ne (fun z => h.gok.pnp _ g1.q.mem ((show g1.q.p = a from z) ▸ hp))]; exact e, r⟩
  · show bare g1.own (upd H1 a o') b = some u
    rw [eb]
    refine h.gok.b1 b u ?_
    have ha0 : a ∈ g1.own0 := by rw [i.own0]; exact List.mem_cons_self ..
    rw [i.H0, bare_upd ha0]
    have e2 : bare g1.own0 (upd g.H0 a o') b = some u := e
    rwa [bare_upd ha0] at e2
  · show upd H1 a o' b = upd g.H0 a o' b
    by_cases z : b = a
    · rw [z, upd_same, upd_same]
    · rw [upd_ne z, upd_ne z]
      have := h.gok.b2 b hb
      rw [i.H0, upd_ne z] at this
      exact this
  · obtain ⟨u, e1, sl⟩ := h.slot i t e
    refine ⟨u, e1, ?_⟩
    have ow : ∀ {b : Addr}, OwnA K g1 H1 t b → OwnA K { g1 with H0 := upd g.H0 a o' } (upd H1 a o') t b := fun {b} q => by
      obtain ⟨w, e2, e3⟩ := q.obj
      exact ⟨q.own, q.np, q.nq, q.n0, w, by rw [upd_ne (fun z => q.np (by rw [z]; exact hp))]; exact e2, by show OwnO K g1.p (bare g1.own (upd H1 a o')) t w; rw [eb]; exact e3⟩
    cases t with
    | dead => exact trivial
    | d x => obtain ⟨v, e2, r⟩ := sl; exact ⟨v, e2, by show Rep K g1.p (bare g1.own (upd H1 a o')) x v; rw [eb]; exact r⟩
    | l _ => obtain ⟨b, e2, r⟩ := sl; exact ⟨b, e2, ow r⟩
    | k _ => obtain ⟨b, e2, r⟩ := sl; exact ⟨b, e2, ow r⟩
    | t _ => obtain ⟨b, e2, r⟩ := sl; exact ⟨b, e2, ow r⟩
    | o _ _ => obtain ⟨b, e2, r⟩ := sl; exact ⟨b, e2, ow r⟩
def Gh.leave (g g1 : Gh) : Gh := { g1 with prot := g.prot, own0 := g.own0, H0 := g.H0 }
theorem EnvOk.leave {Z' : Bs} {t : T} (hz : Z g.q g.own0 g.H0) (b3 : ∀ a ∈ g.own0, a ∈ g.q.gl ∨ a ∈ g.prot) (h : EnvOk K Z' g1 H1 S1 σ) (i : In g a o g1) (ou : Out g a) (e : H1 a = some o) (ot : OwnO K g1.p (bare g1.own H1) t o) :
    EnvOk K Z (g.leave g1) H1 S1 σ ∧ RepV K (g.leave g1) H1 S1 σ (.n t) (.ref a) := by
  have hp : a ∈ g1.prot := by rw [i.prot]; exact List.mem_cons_self ..
  have ho : a ∈ g1.own := h.gok.sub a hp
  have pr : ∀ b ∈ g.prot, b ∈ g1.prot := fun b hb => by rw [i.prot]; exact List.mem_cons_of_mem _ hb
  have p0 : ∀ b ∈ g.own0, b ∈ g1.own0 := fun b hb => by rw [i.own0]; exact List.mem_cons_of_mem _ hb
  have ow : ∀ {t : T} {b : Addr}, OwnA K g1 H1 t b → OwnA K (g.leave g1) H1 t b := fun {t b} q => ⟨q.own, fun z => q.np (pr b z), q.nq, fun z => q.n0 (p0 b z), q.obj⟩
  refine ⟨⟨⟨fun b hb => h.gok.sub b (pr b hb), h.gok.pin, fun c hc z => h.gok.pnp c hc (pr _ z), h.gok.lv, h.gok.pot, h.gok.tabs, fun b hb => h.gok.b0 b (p0 b hb), fun b u e => ?_, fun b hb => ?_, fun b hb => by rw [show (g.leave g1).q = g.q from i.q]; exact b3 b hb⟩, by show Z g1.q g.own0 g.H0; rw [i.q]; exact hz, h.len, fun i t e => ?_, h.dist⟩, a, rfl, ⟨ho, ou.np, by show a ∉ g1.q.gl; rw [i.q]; exact ou.nq, ou.n0, o, e, ot⟩, fun j tj z oj q => ?_⟩
  · have e1 : bare g.own0 g.H0 b = some u := e
    have hb0 : b ∉ g.own0 := fun z => by rw [bare_in z] at e1; cases e1
    rw [bare_ne hb0] at e1
    have hba : b ≠ a := ne_of_none e1 ou.hn
    refine h.gok.b1 b u ?_
    rw [i.H0, bare_ne (by rw [i.own0]; simp [hba, hb0]), upd_ne hba]
    exact e1
  · have := h.gok.b2 b (pr b hb)
    have hba : b ≠ a := fun z => ou.np (by rw [← z]; exact hb)
    rw [i.H0, upd_ne hba] at this
    exact this
  · obtain ⟨u, e1, sl⟩ := h.slot i t e
    refine ⟨u, e1, ?_⟩
    cases t with
    | dead => exact trivial
    | d x => exact sl
    | l _ => obtain ⟨b, e2, r⟩ := sl; exact ⟨b, e2, ow r⟩
    | k _ => obtain ⟨b, e2, r⟩ := sl; exact ⟨b, e2, ow r⟩
    | t _ => obtain ⟨b, e2, r⟩ := sl; exact ⟨b, e2, ow r⟩
    | o _ _ => obtain ⟨b, e2, r⟩ := sl; exact ⟨b, e2, ow r⟩
  · obtain ⟨u, e1, sl⟩ := h.slot j tj z
    obtain ⟨b, e3, q2⟩ := sl.owned oj
    rw [q] at e1
    cases e1
    cases e3
    exact q2.np hp
end
/-! ### the block's own names -/
def wipeT (ρ : List T) : List Nat → List T
  | [] => ρ
  | v :: vs => (wipeT ρ vs).set v .dead
def keepT : Option T → T
  | some (.d x) => .d x
  | _ => .dead
def backT (ρ0 ρ1 : List T) : List Nat → List T
  | [] => ρ1
  | v :: vs => (backT ρ0 ρ1 vs).set v (keepT ρ0[v]?)
def Sx.wipe (S : Sx) (vs : List Nat) : Sx := ⟨wipeT S.ρ vs, S.n⟩
def Sx.back (S S1 : Sx) (vs : List Nat) : Sx := ⟨backT S.ρ S1.ρ vs, S1.n⟩
section
variable {K : PySem.W.Frag} {g g1 : Gh} {H H1 : Hp} {S S1 : Sx} {σ : L2.St}
theorem EnvOk.setDead (h : EnvOk K Z g H S σ) (i : Nat) : EnvOk K Z g H ⟨S.ρ.set i .dead, S.n⟩ (σ.set i none) := by
  have at_ : ∀ (j : Nat) (tj : T), (S.ρ.set i .dead)[j]? = some tj → (j = i ∧ tj = .dead ∧ j < S.ρ.length) ∨ (j ≠ i ∧ S.ρ[j]? = some tj) := fun j tj z => by
    by_cases hj : j = i
    · subst hj
      have hl : j < S.ρ.length := by have := (List.getElem?_eq_some_iff.mp z).1; rwa [List.length_set] at this
      rw [List.getElem?_set_self hl] at z
      exact .inl ⟨rfl, (Option.some.inj z).symm, hl⟩
    · rw [List.getElem?_set_ne (Ne.symm hj)] at z
      exact .inr ⟨hj, z⟩
  refine ⟨h.gok, h.hb, by rw [List.length_set, List.length_set]; exact h.len, fun j tj z => ?_, fun j k tj tk a z1 z2 o1 o2 s1 s2 => ?_⟩
  · rcases at_ j tj z with ⟨e1, e2, hl⟩ | ⟨hj, y⟩
    · rw [e2]
      exact ⟨none, by rw [e1, List.getElem?_set_self (by rw [h.len, ← e1]; exact hl)], trivial⟩
    · rw [List.getElem?_set_ne (Ne.symm hj)]
      exact h.slot j tj y
  · rcases at_ j tj z1 with ⟨e1, e2, hl⟩ | ⟨hj, y1⟩
    · rw [e2] at o1; cases o1
    · rcases at_ k tk z2 with ⟨e1, e2, hl⟩ | ⟨hk, y2⟩
      · rw [e2] at o2; cases o2
      · rw [List.getElem?_set_ne (Ne.symm hj)] at s1
        rw [List.getElem?_set_ne (Ne.symm hk)] at s2
        exact h.dist j k tj tk a y1 y2 o1 o2 s1 s2
theorem EnvOk.wipe (h : EnvOk K Z g H S σ) : ∀ vs : List Nat, EnvOk K Z g H (S.wipe vs) (L2.wipe σ vs)
  | [] => h
  | v :: vs => (h.wipe vs).setDead v
theorem wipe_get (σ : L2.St) (i : Nat) : ∀ vs : List Nat, (L2.wipe σ vs)[i]? = if i ∈ vs then (if i < σ.length then some none else none) else σ[i]?
  | [] => by simp [L2.wipe]
  | v :: vs => by
    unfold L2.wipe
    by_cases e : v = i
    · subst e
      rw [if_pos (List.mem_cons_self ..)]
      by_cases hl : v < σ.length
      · rw [List.getElem?_set_self (by rw [wipe_length]; exact hl), if_pos hl]
      · rw [List.getElem?_eq_none (by rw [List.length_set, wipe_length]; omega), if_neg hl]
    · rw [List.getElem?_set_ne e, wipe_get σ i vs]
      by_cases hm : i ∈ vs
      · rw [if_pos hm, if_pos (List.mem_cons_of_mem _ hm)]
      · rw [if_neg hm, if_neg (by simp [hm]; exact fun z => e z.symm)]
theorem wipe_kept {vs ws : List Nat} {σ σ' : L2.St} (k : Kept ws (L2.wipe σ vs) σ') (sub : ∀ i ∈ ws, i ∈ vs) : L2.wipe σ' vs = L2.wipe σ vs := by
  refine List.ext_getElem? fun i => ?_
  rw [wipe_get, wipe_get, k.1, wipe_length]
  by_cases hm : i ∈ vs
  · rw [if_pos hm, if_pos hm]
  · rw [if_neg hm, if_neg hm, k.2 i (fun z => hm (sub i z)), wipe_get, if_neg hm]
theorem backT_get (ρ0 ρ1 : List T) (i : Nat) : ∀ vs : List Nat, (backT ρ0 ρ1 vs)[i]? = if i ∈ vs then (if i < ρ1.length then some (keepT ρ0[i]?) else none) else ρ1[i]?
  | [] => by simp [backT]
  | v :: vs => by
    have hl : ∀ vs, (backT ρ0 ρ1 vs).length = ρ1.length := fun vs => by
      induction vs with
      | nil => rfl
      | cons v vs ih => unfold backT; rw [List.length_set, ih]
    unfold backT
    by_cases e : v = i
    · subst e
      rw [if_pos (List.mem_cons_self ..)]
      by_cases h : v < ρ1.length
      · rw [List.getElem?_set_self (by rw [hl]; exact h), if_pos h]
      · rw [List.getElem?_eq_none (by rw [List.length_set, hl]; omega), if_neg h]
    · rw [List.getElem?_set_ne e, backT_get ρ0 ρ1 i vs]
      by_cases hm : i ∈ vs
      · rw [if_pos hm, if_pos (List.mem_cons_of_mem _ hm)]
      · rw [if_neg hm, if_neg (by simp [hm]; exact fun z => e z.symm)]
theorem backT_len (ρ0 ρ1 : List T) : ∀ vs : List Nat, (backT ρ0 ρ1 vs).length = ρ1.length
  | [] => rfl
  | v :: vs => by unfold backT; rw [List.length_set, backT_len ρ0 ρ1 vs]
theorem EnvOk.back {vs : List Nat} (h : EnvOk K Z g H S σ) (h1 : EnvOk K Z g1 H1 S1 (L2.wipe σ vs)) (hp : g1.p = g.p) (sm : Same (bare g.own H) (bare g1.own H1)) : EnvOk K Z g1 H1 (S.back S1 vs) σ := by
  have hl : σ.length = S1.ρ.length := by rw [← wipe_length σ vs]; exact h1.len
  have old : ∀ (i : Nat) (t : T), (S.back S1 vs).ρ[i]? = some t → (i ∈ vs ∧ t = keepT S.ρ[i]?) ∨ (i ∉ vs ∧ S1.ρ[i]? = some t) := fun i t e => by
    have e' : (backT S.ρ S1.ρ vs)[i]? = some t := e
    rw [backT_get] at e'
    by_cases hm : i ∈ vs
    · rw [if_pos hm] at e'
      split at e'
      · exact .inl ⟨hm, (Option.some.inj e').symm⟩
      · cases e'
    · rw [if_neg hm] at e'
      exact .inr ⟨hm, e'⟩
  refine ⟨h1.gok, h1.hb, by show σ.length = (backT S.ρ S1.ρ vs).length; rw [backT_len]; exact hl, fun i t e => ?_, fun i j ti tj a z1 z2 o1 o2 s1 s2 => ?_⟩
  · have hi : i < σ.length := by
      have := (List.getElem?_eq_some_iff.mp e).1
      have e2 : i < (backT S.ρ S1.ρ vs).length := this
      rw [backT_len] at e2
      omega
    rcases old i t e with ⟨hm, rfl⟩ | ⟨hm, e1⟩
    · refine ⟨σ[i], List.getElem?_eq_getElem hi, ?_⟩
      cases q : S.ρ[i]? with
      | none => exact trivial
      | some t =>
        cases t with
        | d x =>
          obtain ⟨u, e2, v, e3, r⟩ := h.slot i _ q
          rw [List.getElem?_eq_getElem hi] at e2
          refine ⟨v, by rw [Option.some.inj e2]; exact e3, ?_⟩
          rw [hp]
          exact r.mono sm
        | _ => exact trivial
    · obtain ⟨u, e2, sl⟩ := h1.slot i t e1
      rw [wipe_get, if_neg hm] at e2
      exact ⟨u, e2, sl⟩
  · have no : ∀ {o : Option T}, (keepT o).owned = true → False := fun {o} z => by
      cases o with
      | none => cases z
      | some t => cases t <;> cases z
    rcases old i ti z1 with ⟨hm, rfl⟩ | ⟨hm, y1⟩
    · exact (no o1).elim
    · rcases old j tj z2 with ⟨hm2, rfl⟩ | ⟨hm2, y2⟩
      · exact (no o2).elim
      · exact h1.dist i j ti tj a y1 y2 o1 o2 (by rw [wipe_get, if_neg hm]; exact s1) (by rw [wipe_get, if_neg hm2]; exact s2)
end
/-! ### [e for target in iter if test] -/
def wYes : WT := fun S Q => Q true S
def wLcGo (wg : WG) (wt : WT) (we : WE) (vs : List Nat) : List D → List D → Sx → (List D → Sx → Prop) → Prop
  | [], acc, S, Q => Q acc S
  | d :: ds, acc, S, Q => wg d S fun S1 => wt S1 fun b S2 => if b = true then we S2 fun r S3 => give S3 r fun y S4 => acc.length < sizeLine ∧ wLcGo wg wt we vs ds (acc ++ [y]) (S4.wipe vs) Q else wLcGo wg wt we vs ds acc (S2.wipe vs) Q
def wLc (wi : WI) (wg : WG) (wt : WT) (we : WE) (vs : List Nat) : WE := fun S Q => wi S fun ds S1 => wLcGo wg wt we vs ds [] (S1.wipe vs) fun acc S2 => Q (.n (.l acc)) (S1.back S2 vs)
section
variable {X : Cx} {wi : WI} {wg : WG} {wt : WT} {we : WE} {vs ws : List Nat}
structure DTs (X : Cx) (Z : Bs) (es : List Expr) (w : WT) : Prop where
  pt : PTs X es (liftT X.K Z w)
  mono : MonoT w
theorem dts_nil : DTs X Z [] wYes := ⟨⟨fun pins s σ H Q I ⟨g, S, ok, q⟩ => pts_nil.run pins s σ H Q I (q g H ok Step.rf)⟩, fun S Q Q' k h => k _ _ h⟩
theorem dts_one {c : Expr} (h : DT X Z c wt) : DTs X Z [c] wt := ⟨pts_one h.pt, h.mono⟩
theorem wLcGo_mono (hg : ∀ d S (Q Q' : Sx → Prop), (∀ S, Q S → Q' S) → wg d S Q → wg d S Q') (ht : MonoT wt) (he : MonoE we) : ∀ (ds acc : List D) S (Q Q' : List D → Sx → Prop), (∀ r S', Q r S' → Q' r S') → wLcGo wg wt we vs ds acc S Q → wLcGo wg wt we vs ds acc S Q'
  | [], acc, S, Q, Q', k => k _ _
  | d :: ds, acc, S, Q, Q', k => hg d S _ _ fun S1 => ht S1 _ _ fun b S2 => ite_mono (he S2 _ _ fun r S3 => give_mono fun y S4 z => ⟨z.1, wLcGo_mono hg ht he ds _ _ _ _ k z.2⟩) (wLcGo_mono hg ht he ds _ _ _ _ k)
theorem wLc_mono (hi : MonoI wi) (hg : ∀ d S (Q Q' : Sx → Prop), (∀ S, Q S → Q' S) → wg d S Q → wg d S Q') (ht : MonoT wt) (he : MonoE we) : MonoE (wLc wi wg wt we vs) := fun S Q Q' k => hi S _ _ fun ds S1 => wLcGo_mono hg ht he ds [] _ _ _ fun acc S2 => k _ _
theorem lcD (hi : MonoI wi) (hg : ∀ d S (Q Q' : Sx → Prop), (∀ S, Q S → Q' S) → wg d S Q → wg d S Q') (ht : MonoT wt) (he : MonoE we) (sub : ∀ i ∈ ws, i ∈ vs) {K : PySem.W.Frag} {σ : L2.St} {H : Hp} {Q : VK} (q : liftE K Z (wLc wi wg wt we vs) σ H Q) :
    tLc (liftI K Z wi) (liftG K ZT wg ws) (liftT K ZT wt) (liftE1 K ZT (wGive1 we)) vs σ H Q := by
  obtain ⟨g, S, ok, q⟩ := q
  refine ⟨g, S, ok, hi S _ _ (fun ds S1 z g1 J H1 ok1 wk st1 => fun a ha => ?_) q⟩
  have ou := out_of ok1.gok ha
  refine ⟨fun i m H2 => m = ds.length - i ∧ i ≤ ds.length ∧ ∃ g2 S2 acc vs2, EnvOk K ZT g2 H2 S2 (L2.wipe σ vs) ∧ In g1 a (.lst vs2) g2 ∧ H2 a = some (.lst vs2) ∧ Reps K g2.p (bare g2.own H2) acc vs2 ∧ Same (bare g1.own H1) (bare g2.own H2) ∧ (∀ b ∈ g1.prot, H2 b = H1 b) ∧
      wLcGo wg wt we vs (ds.drop i) acc S2 fun acc S2 => ∀ g' v H', EnvOk K Z g' H' (S1.back S2 vs) σ → RepV K g' H' (S1.back S2 vs) σ (.n (.l acc)) v → Step g H g' H' → Q v H', ⟨_, rfl, Nat.zero_le _, g1.enter a (.lst []), _, [], [], (ok1.wipe vs).enter ha rfl, ⟨rfl, rfl, rfl, rfl⟩, upd_same, .nil, bare_new ha, fun b hb => upd_ne (fun y => ou.np (by rw [← y]; exact hb)), z⟩, ?_⟩
  rintro i m H2 ⟨rfl, hil, g2, S2, acc, vs2, ok2, in2, hd2, r2, sm2, kp2, z2⟩
  have sB : Same (bare g1.own H1) H2 := same_tr sm2 bare_sub
  by_cases hlt : i < ds.length
  · refine .inr ⟨wk.goes i H2 hlt sB, fun H3 => ∃ g2 S2 acc vs2, EnvOk K ZT g2 H3 S2 (L2.wipe σ vs) ∧ In g1 a (.lst vs2) g2 ∧ H3 a = some (.lst vs2) ∧ Reps K g2.p (bare g2.own H3) acc vs2 ∧ Same (bare g1.own H1) (bare g2.own H3) ∧ (∀ b ∈ g1.prot, H3 b = H1 b) ∧
      wLcGo wg wt we vs (ds.drop (i + 1)) acc S2 fun acc S2 => ∀ g' v H', EnvOk K Z g' H' (S1.back S2 vs) σ → RepV K g' H' (S1.back S2 vs) σ (.n (.l acc)) v → Step g H g' H' → Q v H', fun H3 w => ⟨_, by omega, rfl, hlt, w⟩, fun x H3 y => ?_⟩
    obtain ⟨d, e, yd⟩ := wk.yields i H2 x H3 hlt sB y
    have ed : ds.drop i = d :: ds.drop (i + 1) := by
      rw [List.drop_eq_getElem_cons hlt]
      congr 1
      exact Option.some.inj ((List.getElem?_eq_getElem hlt).symm.trans e)
    rw [ed] at z2
    rw [← in2.p] at yd
    obtain ⟨ok3, r3, st3⟩ := yd.rep ok2 sm2
    -- behind any steps the list is as it was
    have stay : ∀ {g5 : Gh} {H5 : Hp}, Step g2 H2 g5 H5 → In g1 a (.lst vs2) g5 ∧ H5 a = some (.lst vs2) ∧ Reps K g5.p (bare g5.own H5) acc vs2 ∧ Same (bare g1.own H1) (bare g5.own H5) ∧ ∀ b ∈ g1.prot, H5 b = H1 b := fun {g5 H5} st => by
      refine ⟨⟨st.q.trans in2.q, st.prot.trans in2.prot, st.own0.trans in2.own0, st.H0.trans in2.H0⟩, ?_, by rw [st.p]; exact r2.mono st.same, same_tr sm2 st.same, fun b hb => ?_⟩
      · rw [st.keep a (by rw [in2.prot]; exact List.mem_cons_self ..)]; exact hd2
      · rw [st.keep b (by rw [in2.prot]; exact List.mem_cons_of_mem _ hb)]; exact kp2 b hb
    refine ⟨g2, S2, d, ok3, r3, hg d S2 _ _ (fun S4 z4 g4 σ4 H4 ok4 kp4 st4 => ⟨wipe_kept kp4 sub, ⟨g4, S4, ok4, ht S4 _ _ (fun b S5 z5 g5 H5 ok5 st5 => ?_) z4⟩⟩) z2⟩
    have wk4 := wipe_kept kp4 sub
    cases b with
    | false =>
      obtain ⟨i5, h5, r5, s5, k5⟩ := stay ((st3.tr st4).tr st5)
      exact ⟨g5, _, acc, vs2, by rw [← wk4]; exact ok5.wipe vs, i5, h5, r5, s5, k5, z5⟩
    | true =>
      refine ⟨g5, S5, ok5, he S5 _ _ (fun r S6 z6 => give_mono (fun y S7 z7 g7 v H7 ok7 r7 st7 => ?_) z6) z5⟩
      obtain ⟨i7, h7, r77, s7, k7⟩ := stay (((st3.tr st4).tr st5).tr st7)
      refine ⟨vs2, h7, by rw [← r77.len]; exact z7.1, ?_⟩
      obtain ⟨ok8, i8⟩ := ok7.again (o' := .lst (vs2 ++ [v])) i7 h7 rfl
      have ha7 : a ∈ g7.own := ok7.gok.sub a (by rw [i7.prot]; exact List.mem_cons_self ..)
      refine ⟨_, _, acc ++ [y], vs2 ++ [v], by rw [← wk4]; exact ok8.wipe vs, i8, upd_same, ?_, ?_, fun b hb => ?_, z7.2⟩
      · show Reps K g7.p (bare g7.own (upd H7 a _)) _ _
        rw [bare_upd ha7]
        exact r77.append (.cons r7 .nil)
      · show Same _ (bare g7.own (upd H7 a _))
        rw [bare_upd ha7]
        exact s7
      · rw [upd_ne (fun y => ou.np (by rw [← y]; exact hb))]
        exact k7 b hb
  · have e : i = ds.length := by omega
    subst e
    rw [List.drop_length] at z2
    refine .inl ⟨wk.stops H2 sB, ?_⟩
    obtain ⟨okL, rvL⟩ := ok2.leave (t := .l acc) ok1.hb ok1.gok.b3 in2 ou hd2 ⟨vs2, rfl, r2⟩
    have okB := EnvOk.back (vs := vs) ok1 okL in2.p sm2
    refine z2 _ _ H2 okB ?_ (st1.tr ⟨in2.q, rfl, rfl, rfl, sm2, kp2⟩)
    obtain ⟨b, eb, ob, _⟩ := rvL
    cases eb
    refine ⟨a, rfl, ob, fun j tj z oj q => ?_⟩
    obtain ⟨u, e1, sl⟩ := okB.slot j tj z
    obtain ⟨b, e3, q2⟩ := sl.owned oj
    rw [q] at e1
    cases e1
    cases e3
    have e' : (backT S1.ρ S2.ρ vs)[j]? = some tj := z
    rw [backT_get] at e'
    by_cases hm : j ∈ vs
    · rw [if_pos hm] at e'
      split at e'
      · cases e'
        cases q5 : S1.ρ[j]? with
        | none => rw [q5] at oj; cases oj
        | some t5 => rw [q5] at oj; cases t5 <;> cases oj
      · cases e'
    · rw [if_neg hm] at e'
      obtain ⟨u, e5, sl5⟩ := ok2.slot j tj e'
      obtain ⟨b5, e6, q6⟩ := sl5.owned oj
      rw [wipe_get, if_neg hm, q] at e5
      cases e5
      cases e6
      exact q6.np (by rw [in2.prot]; exact List.mem_cons_self ..)
theorem de_lc {elt tg iter : Expr} {ifs : List Expr} {scope : Scope} {own : List (Str × Nat)} {pos : Pos} (hc : X.calm = true) (hN : X.N.Nodup) (hi : DI X Z tg iter wi) (ok : BlkOk X.N X.env.scope scope own)
    (hg : ∀ (s : Shared) (H : Hp) (C : Addr) (cl : List (Str × Addr)) (fp : List Addr), DG (X.blk s H scope (compEnvC scope cl C X.env) fp) ZT tg wg ws) (ht : ∀ (s : Shared) (H : Hp) (C : Addr) (cl : List (Str × Addr)) (fp : List Addr), DTs (X.blk s H scope (compEnvC scope cl C X.env) fp) ZT ifs wt)
    (he : ∀ (s : Shared) (H : Hp) (C : Addr) (cl : List (Str × Addr)) (fp : List Addr), DE (X.blk s H scope (compEnvC scope cl C X.env) fp) ZT elt we) (x0 : Inhabited Shared) (sub : ∀ i ∈ ws, i ∈ own.map (·.2) := by decide) (hs : ∀ x, foldedSetIterable iter X.env x = pure x := by intro _; rfl) :
    DE X Z (.ListComp elt [⟨tg, iter, ifs, 0⟩] scope pos) (wLc wi wg wt we (own.map (·.2))) := by
  have mg := (hg x0.default (fun _ => none) 0 [] []).mono
  have mt := (ht x0.default (fun _ => none) 0 [] []).mono
  have me := (he x0.default (fun _ => none) 0 [] []).mono
  refine ⟨⟨fun pins s σ H Q I q => (pe_lc (wi := liftI X.K Z wi) (g := liftG X.K ZT wg ws) (tt := liftT X.K ZT wt) (te := liftE1 X.K ZT (wGive1 we)) hc hN hi.pi ok (fun s H C cl fp => (hg s H C cl fp).pg) (fun s H C cl fp => (ht s H C cl fp).pt) (fun s H C cl fp => pe_give (he s H C cl fp)) hs).run pins s σ H Q I (lcD hi.mono mg mt me sub q)⟩, wLc_mono hi.mono mg mt me⟩
theorem ds_setLc {i : Nat} {y : Str} {py : Pos} {elt tg iter : Expr} {ifs : List Expr} {scope : Scope} {own : List (Str × Nat)} {pos spos : Pos} (hc : X.calm = true) (hN : X.N.Nodup) (hi : DI X Z tg iter wi) (ok : BlkOk X.N X.env.scope scope own)
    (hg : ∀ (s : Shared) (H : Hp) (C : Addr) (cl : List (Str × Addr)) (fp : List Addr), DG (X.blk s H scope (compEnvC scope cl C X.env) fp) ZT tg wg ws) (ht : ∀ (s : Shared) (H : Hp) (C : Addr) (cl : List (Str × Addr)) (fp : List Addr), DTs (X.blk s H scope (compEnvC scope cl C X.env) fp) ZT ifs wt)
    (he : ∀ (s : Shared) (H : Hp) (C : Addr) (cl : List (Str × Addr)) (fp : List Addr), DE (X.blk s H scope (compEnvC scope cl C X.env) fp) ZT elt we) (x0 : Inhabited Shared)
    (hsw : swapsWith (.ListComp elt [⟨tg, iter, ifs, 0⟩] scope pos) (some (.Name y py)) spos.line X.env = pure true) (hy : X.N[i]? = some y := by rfl) (hyl : X.env.scope.names.lookup y = some .local := by rfl) (sub : ∀ i ∈ ws, i ∈ own.map (·.2) := by decide) (hs : ∀ x, foldedSetIterable iter X.env x = pure x := by intro _; rfl) :
    DS X Z (.Assign [.Name y py] (.ListComp elt [⟨tg, iter, ifs, 0⟩] scope pos) spos) (wSet i (wLc wi wg wt we (own.map (·.2)))) := by
  have mg := (hg x0.default (fun _ => none) 0 [] []).mono
  have mt := (ht x0.default (fun _ => none) 0 [] []).mono
  have me := (he x0.default (fun _ => none) 0 [] []).mono
  exact ds_set_core (ps_setLc (wi := liftI X.K Z wi) (g := liftG X.K ZT wg ws) (tt := liftT X.K ZT wt) (te := liftE1 X.K ZT (wGive1 we)) hc hN hy hyl hsw hi.pi ok (fun s H C cl fp => (hg s H C cl fp).pg) (fun s H C cl fp => (ht s H C cl fp).pt) (fun s H C cl fp => pe_give (he s H C cl fp)) hs) (wLc_mono hi.mono mg mt me) fun σ H Q q => lcD hi.mono mg mt me sub q
end
end DL
end
section
set_option Elab.async false
set_option linter.all false
set_option maxRecDepth 100000
set_option maxHeartbeats 4000000
namespace DL
open PySem L2 PyProof.Rows
variable {Z : Bs}
/-! ### defs: no repr runs around them; they may raise -/
structure FnX (P : Program) (w : World) (K : PySem.W.Frag) (mg : Str → Option Value) (base : Heap) (k : Nat) (f : Addr) (fd : FuncData) (ps : List Str) (sp : Sp) : Prop where
  len : ∀ vs H Q E, sp vs H Q E → vs.length = ps.length
  go : ∀ (A : Around) (outer : List Env) (s : Shared) (H : Hp) (args : Args) (us : List Value) (vs : List V) (Q : VK) (E : XK), A.guards = some [] → Room k A → Env0 P w K mg base A outer s H → BindsTo s fd args (ps.zip us) → Vals vs us → sp vs H Q E →
    codeAny (model P w) A (.call (.ref f) args) (CR (L2.CX P w) outer P w H s Q E) s
section
variable {P : Program} {w : World} {K : PySem.W.Frag} {mg : Str → Option Value} {base : Heap}
theorem FnX.mono {j k : Nat} {f : Addr} {fd : FuncData} {ps : List Str} {sp : Sp} (F : FnX P w K mg base j f fd ps sp) (h : j ≤ k) : FnX P w K mg base k f fd ps sp := ⟨F.len, fun A outer s H args us vs Q E hg hr => F.go A outer s H args us vs Q E hg (hr.mono h)⟩
theorem FnX.imp {k : Nat} {f : Addr} {fd : FuncData} {ps : List Str} {sp sp' : Sp} (F : FnX P w K mg base k f fd ps sp) (h : ∀ vs H Q E, sp' vs H Q E → sp vs H Q E) : FnX P w K mg base k f fd ps sp' :=
  ⟨fun vs H Q E q => F.len vs H Q E (h _ _ _ _ q), fun A outer s H args us vs Q E hg hr he hb hv hs => F.go A outer s H args us vs Q E hg hr he hb hv (h _ _ _ _ hs)⟩
/-- a def proved without errors that leave it -/
theorem FnX.of_ok {k : Nat} {f : Addr} {fd : FuncData} {ps : List Str} {sp : Sp} (F : FnOk P w K mg base CX0 k f fd ps sp) : FnX P w K mg base k f fd ps sp :=
  ⟨F.len, fun A outer s H args us vs Q E _ hr he hb hv hs => codeAny_mono (F.run A outer s H args us vs Q E hr he hb hv hs) fun r s' z => by
    cases r with
    | error e => exact z.elim
    | ok fl => cases fl <;> exact z⟩
theorem fun_okX {x qual : Str} {st : Stmt} {f : Addr} {fd : FuncData} {N ps : List Str} {k : Nat} {sp : Sp} (F : Fun K x qual st f fd) (S : FnScope N ps (defScope st)) (len : ∀ vs H Q E, sp vs H Q E → vs.length = ps.length)
    (hbody : ∀ (cdv : Value) (A : Around) (outer : List Env) (s : Shared) (H : Hp) (vs : List V) (Q : VK) (E : XK), A.guards = some [] → Room k (A.deeper (envOfC qual (defScope st) s.heap.objs.size f cdv)) → sp vs H Q E →
      ∃ t, PSs (cxOf (L2.CX P w) P w K mg base N qual (defScope st) f cdv A outer s H E) (defBody st) t ∧ t { nx := fun _ H' => Q .non H', rt := Q } (start N vs) H) : FnX P w K mg base (k + 1) f fd ps sp := by
  obtain ⟨oc, od, kV, doc, pm, an, cdv, ct, osl, rfl, lk, hcd⟩ := F.ex
  refine ⟨len, fun A outer s H args us vs Q E hg hr e0 hb r hsp => ?_⟩
  have hn := len _ _ _ _ hsp
  have bk : ∀ b o, base.get? b = some o → s.heap.get? b = some o := fun b o e => (e0.bs b o e).1
  have KI : K.In s.heap := e0.mod.kin.keeps bk
  have kinds : ∀ y ∈ ps.zip us, (defScope st).names.lookup y.1 = some .local ∨ ((defScope st).names.lookup y.1 = some .cell ∧ ((cellsFrom (s.heap.objs.size + 1) (defScope st).names []).lookup y.1).isSome = true) := by
    rintro ⟨n, v⟩ hy
    rcases S.par n (List.of_mem_zip hy).1 with q | q
    · exact .inl q
    · exact .inr ⟨q, PySem.W.cellsFrom_some _ _ _ (.inl q)⟩
  refine codeAny_call_function hr.depth (KI _ _ lk) rfl S.co S.gen rfl (PySem.W.codeRec_of KI hcd) (hb _ _ _ _ ?_)
  refine wpAny_newFunctionEnv_cells S.kind kinds fun env he s1 ic => ?_
  subst he
  refine ⟨(e0.mod.nolimit.keeps bk).keeps ic.toInCall.keep, codeAny_func ?_⟩
  obtain ⟨t, ht, hq⟩ := hbody cdv A outer s H vs Q E hg (hr.deeper _) hsp
  have I0 := inv_start (CX := L2.CX P w) (E := E) S hr.hd e0 hn r ic
  refine wpAny_mono (ht.run [] s1 (start N vs) H _ I0 hq) (fun fl s' z => ?_) fun e s' z => z
  have fin : ∀ {σ' : L2.St} {H' : Hp} {v : V} {u : Value}, Inv (cxOf (L2.CX P w) P w K mg base N qual (defScope st) f cdv A outer s H E) [] σ' H' s' → RelV v u → Q v H' → CE outer P w H s Q u s' :=
    fun {_ H' v u} J rv q => ⟨v, H', J.os, J.bare, J.base, J.hok, rv, q⟩
  cases fl with
  | ret u =>
    obtain ⟨v, σ', H', J, rv, q⟩ := z
    exact fin J rv q
  | next =>
    obtain ⟨σ', H', J, q⟩ := z
    exact fin (v := .non) (u := .none) J rfl q
  | brk => obtain ⟨_, _, _, q⟩ := z; exact False.elim q
  | cont => obtain ⟨_, _, _, q⟩ := z; exact False.elim q
end
/-! ### contracts over data -/
abbrev KX := Addr → D → Nat → Prop
abbrev WF := List D → Nat → (D → Nat → Prop) → KX → Prop
structure After (own : List Addr) (q : Gp) (H H' : Hp) (n : Nat) : Prop where
  same : Same (bare own H) (bare own H')
  keep : ∀ a ∈ own, a ∉ q.gl → H' a = H a
  pot : PotB H' q.p n
  tabs : LamX.Tabs q.tb H'
def ErrAt (H : Hp) (d : Addr) (v : V) : Prop := H d = some (.xd [("value", v)])
def spD (K : PySem.W.Frag) (m : Nat) (wF : WF) : Sp := fun vs H Q E => ∃ (own : List Addr) (q : Gp) (n : Nat) (ds : List D), ds.length = m ∧ (∀ a ∈ q.gl, a ∈ own) ∧ (∀ a ∈ own, Lv H a) ∧ PotB H q.p n ∧ LamX.Tabs q.tb H ∧ Reps K q.p (bare own H) ds vs ∧
  wF ds n (fun d n' => ∀ v H', Rep K q.p (bare own H') d v → After own q H H' n' → Q v H') fun C d n' => ∀ v dx H', ErrAt H' dx v → Rep K q.p (bare own H') d v → After own q H H' n' → E (.ref C) (some dx) H'
/-- what is wanted of an error that leaves the def -/
def ExZ (K : PySem.W.Frag) (ex : KX) (E : XK) : Bs := fun q own H => ∀ C d n, ex C d n → ∀ v dx H', ErrAt H' dx v → Rep K q.p (bare own H') d v → After own q H H' n → E (.ref C) (some dx) H'
def wFn (N : Nat) (wB : KX → WS) : WF := fun ds n Q ex => wB ex ⟨ds.map T.d ++ List.replicate (N - ds.length) .dead, n⟩ ⟨fun S => Q .non S.n, Q, fun _ => False, fun _ => False⟩
theorem PotB.live {H : Hp} {p : Addr} {n : Nat} (h : PotB H p n) : H p ≠ none := by
  obtain ⟨a, b, c, e, _⟩ := h
  rw [e]
  simp
theorem start_env {K : PySem.W.Frag} {p : Addr} {B : Hp} : ∀ {ds : List D} {vs : List V}, Reps K p B ds vs → ∀ (i : Nat) (t : T) (m : Nat), (ds.map T.d ++ List.replicate m .dead)[i]? = some t → ∃ u, (vs.map some ++ List.replicate m none)[i]? = some u ∧ (t = .dead ∨ ∃ d v, t = .d d ∧ u = some v ∧ Rep K p B d v)
  | _, _, .nil, i, t, m, e => by
    rw [List.map_nil, List.nil_append, List.getElem?_replicate] at e
    split at e
    · next h => exact ⟨none, by rw [List.map_nil, List.nil_append, List.getElem?_replicate, if_pos h], .inl (Option.some.inj e).symm⟩
    · cases e
  | _, _, .cons (d := d) (v := v) r rs, 0, t, m, e => ⟨some v, rfl, .inr ⟨d, v, by simpa using e.symm, rfl, r⟩⟩
  | _, _, .cons r rs, i + 1, t, m, e => by
    obtain ⟨u, h1, h2⟩ := start_env rs i t m (by simpa using e)
    exact ⟨u, by simpa using h1, h2⟩
theorem env_start {K : PySem.W.Frag} {own : List Addr} {q : Gp} {H : Hp} {n : Nat} {ds : List D} {vs : List V} {N : List Str} (hz : Z q own H) (hp : ∀ a ∈ q.gl, a ∈ own) (hl : ∀ a ∈ own, Lv H a) (hpot : PotB H q.p n) (htb : LamX.Tabs q.tb H) (r : Reps K q.p (bare own H) ds vs) :
    EnvOk K Z ⟨own, own.filter (· ∉ q.gl), q, own, H⟩ H ⟨ds.map T.d ++ List.replicate (N.length - ds.length) .dead, n⟩ (L2.start N vs) := by
  refine ⟨⟨fun a ha => (List.mem_filter.mp ha).1, hp, fun a ha z => by simpa [ha] using (List.mem_filter.mp z).2, hl, hpot, htb, fun a ha => ha, same_rf, fun a _ => rfl, fun a ha => ?_⟩, hz, ?_, fun i t e => ?_, fun i j ti tj a z1 z2 o1 => ?_⟩
  · by_cases h : a ∈ q.gl
    · exact .inl h
    · exact .inr (List.mem_filter.mpr ⟨ha, by simpa using h⟩)
  · unfold L2.start
    simp [r.len]
  · unfold L2.start
    rw [← r.len]
    obtain ⟨u, h1, h2⟩ := start_env r i t _ e
    refine ⟨u, h1, ?_⟩
    rcases h2 with rfl | ⟨d, v, rfl, rfl, q⟩
    · exact trivial
    · exact ⟨v, rfl, q⟩
  · obtain ⟨u, h1, h2⟩ := start_env r i ti _ z1
    rcases h2 with rfl | ⟨d, v, rfl, rfl, q⟩
    · cases o1
    · cases o1
theorem after_of {K : PySem.W.Frag} {g g' : Gh} {own : List Addr} {q : Gp} {H H' : Hp} {n : Nat} (e : g = ⟨own, own.filter (· ∉ q.gl), q, own, H⟩) (gk : GOk g' H' n) (st : Step g H g' H') : After own q H H' n ∧ Same (bare g'.own H') (bare own H') := by
  subst e
  have hp : g'.q = q := st.q
  have h0 : g'.own0 = own := st.own0
  have hs : Same (bare g'.own H') (bare own H') := bare_less (fun a ha => gk.b0 a (by rw [h0]; exact ha))
  refine ⟨⟨same_tr st.same hs, fun a ha hne => st.keep a (List.mem_filter.mpr ⟨ha, by simpa using hne⟩), by rw [← hp]; exact gk.pot, by rw [← hp]; exact gk.tabs⟩, hs⟩
section
variable {P : Program} {w : World} {K : PySem.W.Frag} {mg : Str → Option Value} {base : Heap}
/-- the rule for a def -/
theorem def_ok {x qual : Str} {st : Stmt} {f : Addr} {fd : FuncData} {N ps : List Str} {k : Nat} {wB : KX → WS} (F : Fun K x qual st f fd) (S : FnScope N ps (defScope st))
    (hbody : ∀ (cdv : Value) (A : Around) (outer : List Env) (s : Shared) (H : Hp) (E : XK) (ex : KX), A.guards = some [] → Room k (A.deeper (envOfC qual (defScope st) s.heap.objs.size f cdv)) →
      DSs (cxOf (L2.CX P w) P w K mg base N qual (defScope st) f cdv A outer s H E) (ExZ K ex E) (defBody st) (wB ex)) : FnX P w K mg base (k + 1) f fd ps (spD K ps.length (wFn N.length wB)) := by
  refine fun_okX F S (fun vs H Q E h => ?_) (fun cdv A outer s H vs Q E hg hr h => ?_)
  · obtain ⟨own, q, n, ds, hl, _, _, _, _, r, _⟩ := h
    rw [← r.len, hl]
  · obtain ⟨own, q, n, ds, hl, hp, hlv, hpot, htb, r, h⟩ := h
    refine ⟨_, (hbody cdv A outer s H E (fun C d n' => ∀ v dx H', ErrAt H' dx v → Rep K q.p (bare own H') d v → After own q H H' n' → E (.ref C) (some dx) H') hg hr).ps, ?_⟩
    have ok := env_start (Z := ExZ K (fun C d n' => ∀ v dx H', ErrAt H' dx v → Rep K q.p (bare own H') d v → After own q H H' n' → E (.ref C) (some dx) H') E) (N := N) (fun C d n hx v dx H' e1 e2 e3 => hx v dx H' e1 e2 e3) hp hlv hpot htb r
    refine ⟨_, _, _, ok, h, ⟨fun S' g' σ' H' z ok' st => ?_, fun d n' g' v H' z gk rv st => ?_, fun _ _ _ _ z => z.elim, fun _ _ _ _ z => z.elim⟩⟩
    · exact z .non H' .non (after_of (K := K) rfl ok'.gok st).1
    · obtain ⟨a1, a2⟩ := after_of (K := K) rfl gk st
      exact z v H' (by have hp' : g'.p = q.p := st.p; rw [hp'] at rv; exact rv.mono a2) a1
/-- a def of the module with its contract -/
structure Def (P : Program) (w : World) (K : PySem.W.Frag) (mg : Str → Option Value) (base : Heap) (k : Nat) (x : Str) (m : Nat) (wF : WF) : Prop where
  ex : ∃ (f : Addr) (fd : FuncData) (ps : List Str), FnX P w K mg base k f fd ps (spD K m wF) ∧ mg x = some (.ref f) ∧ PySem.W.keepIn K (.ref f) = true ∧ Binds K fd ps []
theorem Def.mono {j k m : Nat} {x : Str} {wF : WF} (h : Def P w K mg base j x m wF) (l : j ≤ k) : Def P w K mg base k x m wF := by
  obtain ⟨f, fd, ps, F, a, b, c⟩ := h.ex
  exact ⟨f, fd, ps, F.mono l, a, b, c⟩
theorem Def.imp {k m : Nat} {x : Str} {wF wF' : WF} (h : Def P w K mg base k x m wF) (i : ∀ ds n Q ex, ds.length = m → wF' ds n Q ex → wF ds n Q ex) : Def P w K mg base k x m wF' := by
  obtain ⟨f, fd, ps, F, a, b, c⟩ := h.ex
  exact ⟨f, fd, ps, F.imp fun vs H Q E ⟨own, q, n, ds, h1, h2, h3, h4, h45, h5, h6⟩ => ⟨own, q, n, ds, h1, h2, h3, h4, h45, h5, i _ _ _ _ h1 h6⟩, a, b, c⟩
/-- a def of the text -/
structure DefOf (K : PySem.W.Frag) (mg : Str → Option Value) (x : Str) (st : Stmt) (ps : List Str) : Prop where
  ex : ∃ (f : Addr) (fd : FuncData), Fun K x x st f fd ∧ mg x = some (.ref f) ∧ Binds K fd ps []
theorem DefOf.ok {x : Str} {st : Stmt} {N ps : List Str} {k : Nat} {wB : KX → WS} (D : DefOf K mg x st ps) (S : FnScope N ps (defScope st))
    (hbody : ∀ (f : Addr) (cdv : Value) (A : Around) (outer : List Env) (s : Shared) (H : Hp) (E : XK) (ex : KX), A.guards = some [] → Room k (A.deeper (envOfC x (defScope st) s.heap.objs.size f cdv)) →
      DSs (cxOf (L2.CX P w) P w K mg base N x (defScope st) f cdv A outer s H E) (ExZ K ex E) (defBody st) (wB ex)) : Def P w K mg base (k + 1) x ps.length (wFn N.length wB) := by
  obtain ⟨f, fd, F, hm, hb⟩ := D.ex
  exact ⟨f, fd, ps, def_ok F S (hbody f), hm, F.kp, hb⟩
/-- a contract that is never asked for -/
theorem DefOf.never {x : Str} {st : Stmt} {ps : List Str} {k m : Nat} (D : DefOf K mg x st ps) : Def P w K mg base k x m fun _ _ _ _ => False := by
  obtain ⟨f, fd, F, hm, hb⟩ := D.ex
  exact ⟨f, fd, ps, ⟨fun vs H Q E ⟨_, _, _, _, _, _, _, _, _, _, z⟩ => z.elim, fun A outer s H args us vs Q E _ _ _ _ _ ⟨_, _, _, _, _, _, _, _, _, _, z⟩ => z.elim⟩, hm, F.kp, hb⟩
/-- a def proved over the heap (no error leaves it) -/
theorem Def.of_heap {x : Str} {k m : Nat} {sp : Sp} {wF : WF} (h : C8.Cal P w K mg base k x sp []) (i : ∀ vs H Q E, spD K m wF vs H Q E → sp vs H Q E) : Def P w K mg base k x m wF := by
  obtain ⟨f, fd, ps, ds, F, hm, hk, hb, hv⟩ := h.ex
  cases hv
  exact ⟨f, fd, ps, (FnX.of_ok F).imp i, hm, hk, hb⟩
end
/-! ### calls -/
abbrev KXs := Addr → D → Sx → Prop
/-- what is wanted of an error that a callee lets out -/
def CallE (K : PySem.W.Frag) (Z : Bs) (g : Gh) (H : Hp) (σ : L2.St) (ex : KXs) : XK := fun cls dd H' => ∃ C dx v d S' g', cls = .ref C ∧ dd = some dx ∧ ErrAt H' dx v ∧ Rep K g'.p (bare g'.own H') d v ∧ EnvOk K Z g' H' S' σ ∧ Step g H g' H' ∧ ex C d S'
structure Exs (X : Cx) (Z : Bs) (ex : KXs) : Prop where
  run : ∀ pins σ H s g, Inv X pins σ H s → ∀ e s', L2.CX X.prog X.w X.stack H s (CallE X.K Z g H σ ex) e s' → X.xe e s'
theorem exs_none {X : Cx} : Exs X Z fun _ _ _ => False := ⟨fun pins σ H s g I e s' c => by
  obtain ⟨_, _, _, _, _, _, _, _, _, _, _, _, z⟩ := c
  obtain ⟨_, _, _, _, _, _, _, _, _, _, _, _, q⟩ := z
  exact q.elim⟩
theorem exs_fn {P : Program} {w : World} {K : PySem.W.Frag} {mg : Str → Option Value} {base : Heap} {N : List Str} {qual : Str} {sc : Scope} {f : Addr} {cdv : Value} {A : Around} {outer : List Env} {s : Shared} {H : Hp} {E : XK} {ex : KX} :
    Exs (cxOf (L2.CX P w) P w K mg base N qual sc f cdv A outer s H E) (ExZ K ex E) fun C d S => ex C d S.n := by
  refine ⟨fun pins σ H1 s1 g I e s' c => ?_⟩
  have tk : Takes (cxOf (L2.CX P w) P w K mg base N qual sc f cdv A outer s H E) (fun cls d _ H => E cls d H) := takes_of rfl rfl rfl rfl
  refine tk e s' (XE.of_call I (fun cls d H' z => ?_) c)
  obtain ⟨C, dx, v, d, S', g', rfl, rfl, he, r, ok, st, hx⟩ := z
  have hs : Same (bare g'.own H') (bare g'.own0 H') := bare_less (fun a ha => ok.gok.b0 a ha)
  refine ok.hb C d S'.n hx v dx H' he (r.mono hs) ⟨same_tr ok.gok.b1 hs, fun a ha hne => ?_, ok.gok.pot, ok.gok.tabs⟩
  rcases ok.gok.b3 a ha with z | z
  · exact absurd z hne
  · exact ok.gok.b2 a z
theorem EnvOk.after {K : PySem.W.Frag} {g : Gh} {H H' : Hp} {S : Sx} {σ : L2.St} {n : Nat} (h : EnvOk K Z g H S σ) (a : After g.own g.q H H' n) : EnvOk K Z g H' ⟨S.ρ, n⟩ σ ∧ Step g H g H' := by
  have kp : ∀ b ∈ g.prot, H' b = H b := fun b hb => a.keep b (h.gok.sub b hb) (fun z => h.gok.pnp b z hb)
  refine ⟨⟨⟨h.gok.sub, h.gok.pin, h.gok.pnp, fun b hb => ?_, a.pot, a.tabs, h.gok.b0, same_tr h.gok.b1 a.same, fun b hb => (kp b hb).trans (h.gok.b2 b hb), h.gok.b3⟩, h.hb, h.len, fun i t e => ?_, h.dist⟩, ⟨rfl, rfl, rfl, rfl, a.same, kp⟩⟩
  · by_cases z : b ∈ g.q.gl
    · rcases List.mem_cons.mp z with y | y
      · obtain ⟨x1, x2, x3, e, _⟩ := a.pot
        exact ⟨_, by rw [y]; exact e, rfl⟩
      · obtain ⟨x, hx, rfl⟩ := List.mem_map.mp y
        obtain ⟨ps, e, _⟩ := a.tabs x hx
        exact ⟨_, e, rfl⟩
    · obtain ⟨o, e, t⟩ := h.gok.lv b hb
      exact ⟨o, by rw [a.keep b hb z]; exact e, t⟩
  · obtain ⟨u, e1, sl⟩ := h.slot i t e
    refine ⟨u, e1, ?_⟩
    have ow : ∀ {b : Addr}, OwnA K g H t b → OwnA K g H' t b := fun {b} q => by
      obtain ⟨o, e2, e3⟩ := q.obj
      exact ⟨q.own, q.np, q.nq, q.n0, o, by rw [a.keep b q.own q.nq]; exact e2, e3.mono a.same⟩
    cases t with
    | dead => exact trivial
    | d x => obtain ⟨v, e2, r⟩ := sl; exact ⟨v, e2, r.mono a.same⟩
    | l _ => obtain ⟨b, e2, r⟩ := sl; exact ⟨b, e2, ow r⟩
    | k _ => obtain ⟨b, e2, r⟩ := sl; exact ⟨b, e2, ow r⟩
    | t _ => obtain ⟨b, e2, r⟩ := sl; exact ⟨b, e2, ow r⟩
    | o _ _ => obtain ⟨b, e2, r⟩ := sl; exact ⟨b, e2, ow r⟩
def wCall (m : Nat) (wF : WF) (ex : KXs) (wa : WA) : WE := fun S Q => wa S fun rs S1 => gives S1 rs fun ds S2 => ds.length = m ∧ wF ds S2.n (fun d n => Q (.v d) ⟨S2.ρ, n⟩) fun C d n => ex C d ⟨S2.ρ, n⟩
def MonoF (wF : WF) : Prop := ∀ ds n (Q Q' : D → Nat → Prop) (ex ex' : KX), (∀ d n, Q d n → Q' d n) → (∀ C d n, ex C d n → ex' C d n) → wF ds n Q ex → wF ds n Q' ex'
theorem wCall_mono {m : Nat} {wF : WF} {ex : KXs} {wa : WA} (hF : MonoF wF) (ha : MonoA wa) : MonoE (wCall m wF ex wa) := fun S Q Q' k => ha S _ _ fun rs S1 => gives_mono fun ds S2 z => ⟨z.1, hF ds S2.n _ _ _ _ (fun d n => k _ _) (fun _ _ _ z => z) z.2⟩
section
variable {X : Cx} {k m : Nat} {x : Str} {wF : WF} {ex : KXs} {wa : WA} {p pos : Pos} {e : Expr} {es : List Expr}
theorem call_run {f : Addr} {fd : FuncData} {ps : List Str} (F : FnX X.prog X.w X.K X.mg X.base k f fd ps (spD X.K m wF)) (hg : X.A.guards = some []) (hr : Room k X.A) (hb : Binds X.K fd ps []) (hF : MonoF wF) (hx : Exs X Z ex)
    {pins : List (Addr × Obj)} {σ : L2.St} {H : Hp} {s : Shared} {vs : List V} {us : List Value} {Q : VK} (I : Inv X pins σ H s) (r : Vals vs us) {g : Gh} {S : Sx} {ds : List D} (ok : EnvOk X.K Z g H S σ) (rp : Reps X.K g.p (bare g.own H) ds vs) (hm : ds.length = m)
    (q : wF ds S.n (fun d n => ∀ g' v H', EnvOk X.K Z g' H' ⟨S.ρ, n⟩ σ → Rep X.K g'.p (bare g'.own H') d v → Step g H g' H' → Q v H') fun C d n => ex C d ⟨S.ρ, n⟩) : wpAny (model X.prog X.w) X.A (call (.ref f) us) (EP X pins σ Q) X.xe s := by
  have hsp : spD X.K m wF vs H Q (CallE X.K Z g H σ ex) := ⟨g.own, g.q, S.n, ds, hm, ok.gok.pin, ok.gok.lv, ok.gok.pot, ok.gok.tabs, rp, hF ds S.n _ _ _ _ (fun d n z v H' rv af => z g v H' (ok.after af).1 rv (ok.after af).2) (fun C d n z v dx H' he rv af => ⟨C, dx, v, d, _, g, rfl, rfl, he, rv, (ok.after af).1, (ok.after af).2, z⟩) q⟩
  have hl : us.length = ps.length := by rw [← r.length]; exact F.len _ _ _ _ hsp
  have hb1 := hb s us I.kIn (by rw [List.append_nil]; exact hl)
  rw [List.append_nil] at hb1
  refine wpAny_call (codeAny_mono (F.go X.A X.stack s H ⟨us, []⟩ us vs Q _ hg hr I.env0 hb1 r hsp) fun rr s' z => ?_)
  cases rr with
  | error er => exact hx.run pins σ H s g I er s' z
  | ok fl =>
    cases fl with
    | ret u => exact I.after z
    | next => exact z.elim
    | brk => exact z.elim
    | cont => exact z.elim
theorem de_call (F : Def X.prog X.w X.K X.mg X.base k x m wF) (hF : MonoF wF) (hx : Exs X Z ex) (hg : X.A.guards = some []) {kr : Nat} (hr : Room kr X.A) (hk : k ≤ kr) (hgl : Gl X x) (ha : DA X Z (e :: es) wa)
    (hdb : (x == ("__debug__" : Str)) = false := by decide) (hs : starEach (e :: es) X.env = (false, eval e X.env) :: starEach es X.env := by rfl) (hpl : (backTo pos (starEach es X.env)).any (·.1) = false := by rfl) :
    DE X Z (.Call (.Name x p) (e :: es) [] pos) (wCall m wF ex wa) := by
  obtain ⟨f, fd, ps, F, hmg, hkp, hb⟩ := F.ex
  refine ⟨⟨fun pins s σ H Q I q => ?_⟩, wCall_mono hF ha.mono⟩
  refine wpAny_Call_Name_kw (ld_glob I hgl hmg ?_ hdb)
  obtain ⟨g, S, ok, q⟩ := q
  have q' : liftD X.K Z (wGive wa) σ H fun vs H1 => ∃ g1 S1 ds, EnvOk X.K Z g1 H1 S1 σ ∧ Reps X.K g1.p (bare g1.own H1) ds vs ∧ ds.length = m ∧ wF ds S1.n (fun d n => ∀ g' v H', EnvOk X.K Z g' H' ⟨S1.ρ, n⟩ σ → Rep X.K g'.p (bare g'.own H') d v → Step g1 H1 g' H' → Q v H') fun C d n => ex C d ⟨S1.ρ, n⟩ := by
    refine ⟨g, S, ok, wGive_mono ha.mono S _ _ (fun ds S1 z g1 vs H1 ok1 r1 st1 => ?_) q⟩
    exact ⟨g1, S1, ds, ok1, r1, z.1, hF _ _ _ _ _ _ (fun d n z g' v H' ok' rv st' => z g' v H' ok' rv (st1.tr st')) (fun _ _ _ z => z) z.2⟩
  refine PySem.W.callWith_K (h₀ := X.base) I.ok.mod.kin hkp (thn ((pa_give ha).run pos pins s σ H _ I q') fun us s1 ⟨vs, H1, I1, r, g1, S1, ds, ok1, rp1, hm1, q1⟩ => ⟨I1.kIn, ?_⟩) hs hpl
  exact call_run F hg (hr.mono hk) hb hF hx I1 r ok1 rp1 hm1 q1
end
end DL
end
section
set_option Elab.async false
set_option linter.all false
set_option maxRecDepth 100000
set_option maxHeartbeats 4000000
namespace DL
open PySem L2 PyProof.Rows
variable {Z : Bs}
section
variable {K : PySem.W.Frag} {p : Addr} {own : List Addr} {H : Hp} {Q : VK} {k : Vl → Prop}
theorem post_v (hp : ∀ z, k z → PostR K p own H Q z) {d : D} {v : V} (hk : k (.v d)) (r : Rep K p (bare own H) d v) : Q v H := hp _ hk v H same_rf r
theorem post_l (hp : ∀ z, k z → PostR K p own H Q z) {ds : List D} {vs : List V} (hk : k (.n (.l ds))) (r : Reps K p (bare own H) ds vs) : ∀ a, H a = none → Q (.ref a) (upd H a (.lst vs)) := fun a hn => hp _ hk a _ H same_rf hn ⟨vs, rfl, r⟩
theorem post_t (hl : ∀ a ∈ own, H a ≠ none) (hp : ∀ z, k z → PostR K p own H Q z) {ds : List D} {vs : List V} (hk : k (.v (.tup ds))) (r : Reps K p (bare own H) ds vs) : ∀ a, H a = none → Q (.ref a) (upd H a (.tup vs)) := fun a hn => by
  have s := new_same (o := .tup vs) hn
  refine hp _ hk (.ref a) _ s (.tup (SqT.of ?_) (r.mono (bare_same s)))
  rw [bare_ne (fun z => hl a z hn)]
  exact upd_same
end
/-! ### arithmetic -/
def oAdd : O2
  | .int i, .int j, k => k (.v (.int (i + j)))
  | .str a, .str b, k => a.length + b.length ≤ sizeLine ∧ k (.v (.str (a ++ b)))
  | .lst xs, .lst ys, k => xs.length + ys.length ≤ sizeLine ∧ k (.n (.l (xs ++ ys)))
  | .tup xs, .tup ys, k => xs.length + ys.length ≤ sizeLine ∧ k (.v (.tup (xs ++ ys)))
  | _, _, _ => False
def oSub : O2
  | .int i, .int j, k => k (.v (.int (i - j)))
  | _, _, _ => False
def oMul : O2
  | .int i, .int j, k => CMul i j ∧ k (.v (.int (i * j)))
  | .lst xs, .int j, k => (-(2 ^ 63) ≤ j ∧ j < 2 ^ 63) ∧ xs.length * j.toNat ≤ sizeLine ∧ k (.n (.l (List.replicate j.toNat xs).flatten))
  | _, _, _ => False
def oFdiv : O2
  | .int i, .int j, k => CDiv i j ∧ k (.v (.int (i / j)))
  | _, _, _ => False
def oMod : O2
  | .int i, .int j, k => 0 < j ∧ k (.v (.int (i % j)))
  | _, _, _ => False
def oPow : O2
  | .int i, .int j, k => CPow i j ∧ k (.v (.int (i ^ j.toNat)))
  | _, _, _ => False
section
variable {X : Cx}
theorem Reps.rep {K : PySem.W.Frag} {p : Addr} {B : Hp} {ds : List D} {vs : List V} (h : Reps K p B ds vs) : ∀ n : Nat, Reps K p B (List.replicate n ds).flatten (List.replicate n vs).flatten
  | 0 => .nil
  | n + 1 => by
    rw [List.replicate_succ, List.replicate_succ, List.flatten_cons, List.flatten_cons]
    exact h.append (h.rep n)
theorem d_add : OpD X (binaryOp .Add) oAdd := by
  refine ⟨fun pins s σ H x y v u Q I rx ry ⟨p, own, dx, dy, k, hl, r1, r2, ho, hp⟩ => ?_, fun x y k k' h => by cases x <;> cases y <;> first | exact h _ | exact id | exact fun z => ⟨z.1, h _ z.2⟩⟩
  cases r1 with
  | int i => cases r2 with
    | int j => exact op_add pins s σ H _ _ v u Q I rx ry ⟨i, j, rfl, rfl, post_v hp ho (.int _)⟩
    | _ => exact ho.elim
  | str i => cases r2 with
    | str j => exact op_add_str pins s σ H _ _ v u Q I rx ry ⟨i, j, rfl, rfl, ho.1, post_v hp ho.2 (.str _)⟩
    | _ => exact ho.elim
  | lst h1 q1 => cases r2 with
    | lst h2 q2 => exact op_cat pins s σ H _ _ v u Q I rx ry ⟨_, _, _, _, rfl, rfl, h1, h2, by rw [← q1.len, ← q2.len]; exact ho.1, post_l hp ho.2 (q1.append q2)⟩
    | _ => exact ho.elim
  | tup h1 q1 => cases r2 with
    | tup h2 q2 =>
      refine op_catA pins s σ H _ _ v u Q I rx ry ⟨_, _, _, _, rfl, rfl, sqT_same bare_sub h1, sqT_same bare_sub h2, by rw [← q1.len, ← q2.len]; exact ho.1, fun e => ?_, fun _ e => ?_, fun _ _ => post_t hl hp ho.2 (q1.append q2)⟩
      · subst e
        cases q1
        exact hp _ ho.2 _ H same_rf (.tup h2 q2)
      · subst e
        cases q2
        exact hp _ ho.2 _ H same_rf (by rw [List.append_nil]; exact .tup h1 q1)
    | _ => exact ho.elim
  | _ => exact ho.elim
theorem d_sub : OpD X (binaryOp .Sub) oSub := by
  refine ⟨fun pins s σ H x y v u Q I rx ry ⟨p, own, dx, dy, k, hl, r1, r2, ho, hp⟩ => ?_, fun x y k k' h => by cases x <;> cases y <;> first | exact h _ | exact id⟩
  cases r1 with
  | int i => cases r2 with
    | int j => exact op_sub pins s σ H _ _ v u Q I rx ry ⟨i, j, rfl, rfl, post_v hp ho (.int _)⟩
    | _ => exact ho.elim
  | _ => exact ho.elim
theorem d_mul : OpD X (binaryOp .Mult) oMul := by
  refine ⟨fun pins s σ H x y v u Q I rx ry ⟨p, own, dx, dy, k, hl, r1, r2, ho, hp⟩ => ?_, fun x y k k' h => by cases x <;> cases y <;> first | exact id | exact fun z => ⟨z.1, h _ z.2⟩ | exact fun z => ⟨z.1, z.2.1, h _ z.2.2⟩⟩
  cases r1 with
  | int i => cases r2 with
    | int j => exact op_mul pins s σ H _ _ v u Q I rx ry ⟨i, j, rfl, rfl, ho.1, post_v hp ho.2 (.int _)⟩
    | _ => exact ho.elim
  | lst h1 q1 => cases r2 with
    | int j => exact op_rep pins s σ H _ _ v u Q I rx ry ⟨_, j, _, rfl, rfl, h1, ho.1.1, ho.1.2, by rw [← q1.len]; exact ho.2.1, post_l hp ho.2.2 (q1.rep _)⟩
    | _ => exact ho.elim
  | _ => exact ho.elim
theorem d_fdiv : OpD X (binaryOp .FloorDiv) oFdiv := by
  refine ⟨fun pins s σ H x y v u Q I rx ry ⟨p, own, dx, dy, k, hl, r1, r2, ho, hp⟩ => ?_, fun x y k k' h => by cases x <;> cases y <;> first | exact id | exact fun z => ⟨z.1, h _ z.2⟩⟩
  cases r1 with
  | int i => cases r2 with
    | int j => exact op_fdiv pins s σ H _ _ v u Q I rx ry ⟨i, j, rfl, rfl, ho.1, post_v hp ho.2 (.int _)⟩
    | _ => exact ho.elim
  | _ => exact ho.elim
theorem d_mod : OpD X (binaryOp .Mod) oMod := by
  refine ⟨fun pins s σ H x y v u Q I rx ry ⟨p, own, dx, dy, k, hl, r1, r2, ho, hp⟩ => ?_, fun x y k k' h => by cases x <;> cases y <;> first | exact id | exact fun z => ⟨z.1, h _ z.2⟩⟩
  cases r1 with
  | int i => cases r2 with
    | int j => exact op_mod pins s σ H _ _ v u Q I rx ry ⟨i, j, rfl, rfl, ho.1, post_v hp ho.2 (.int _)⟩
    | _ => exact ho.elim
  | _ => exact ho.elim
theorem d_pow : OpD X (binaryOp .Pow) oPow := by
  refine ⟨fun pins s σ H x y v u Q I rx ry ⟨p, own, dx, dy, k, hl, r1, r2, ho, hp⟩ => ?_, fun x y k k' h => by cases x <;> cases y <;> first | exact id | exact fun z => ⟨z.1, h _ z.2⟩⟩
  cases r1 with
  | int i => cases r2 with
    | int j => exact op_pow pins s σ H _ _ v u Q I rx ry ⟨i, j, rfl, rfl, ho.1, post_v hp ho.2 (.int _)⟩
    | _ => exact ho.elim
  | _ => exact ho.elim
def oNeg : O1
  | .int i, k => k (.v (.int (-i)))
  | _, _ => False
theorem d_neg : UnD X (unaryOp .USub) oNeg := by
  refine ⟨fun pins s σ H x v Q I rx ⟨p, own, dx, k, hl, r1, ho, hp⟩ => ?_, fun x k k' h => by cases x <;> first | exact id | exact h _⟩
  cases r1 with
  | int i => exact un_neg pins s σ H _ v Q I rx ⟨i, rfl, post_v hp ho (.int _)⟩
  | _ => exact ho.elim
/-! ### == -/
mutual
def toP : D → Option PyData
  | .non => some .none
  | .bl b => some (.bool b)
  | .int i => some (.int i)
  | .str z => some (.str z)
  | .lst xs => (toPs xs).map .list
  | .tup xs => (toPs xs).map .tuple
  | _ => none
def toPs : List D → Option (List PyData)
  | [] => some []
  | d :: ds => match toP d, toPs ds with
    | some e, some es => some (e :: es)
    | _, _ => none
end
/-- flat values -/
def flatD : D → Option V
  | .non => some .non
  | .bl b => some (.bl b)
  | .int i => some (.int i)
  | .str z => some (.str z)
  | _ => none
def eqD (x y : D) : Option Bool := match flatD x, flatD y with
  | some a, some b => some (eqV a b)
  | _, _ => match toP x, toP y with
    | some a, some b => if SeqAt.shaped a = true ∧ SeqAt.shaped b = true then some (PyData.eqv a b) else none
    | _, _ => none
def oEq : O2 := fun x y k => match eqD x y with
  | some b => k (.v (.bl b))
  | none => False
def oNe : O2 := fun x y k => match eqD x y with
  | some b => k (.v (.bl (!b)))
  | none => False
mutual
theorem dp_of {K : PySem.W.Frag} {p : Addr} {H : Hp} : ∀ {d : D} {v : V} {e : PyData}, Rep K p H d v → toP d = some e → Dp K H v e
  | _, _, _, .non, h => by simp only [toP] at h; cases h; exact .non
  | _, _, _, .bl b, h => by simp only [toP] at h; cases h; exact .bl b
  | _, _, _, .int i, h => by simp only [toP] at h; cases h; exact .int i
  | _, _, _, .str z, h => by simp only [toP] at h; cases h; exact .str z
  | _, _, _, .lst h1 h2, h => by
    simp only [toP] at h
    obtain ⟨es, e1, e2⟩ := Option.map_eq_some_iff.mp h
    subst e2
    exact .lst (SqL.of h1) (dps_of h2 e1)
  | _, _, _, .tup h1 h2, h => by
    simp only [toP] at h
    obtain ⟨es, e1, e2⟩ := Option.map_eq_some_iff.mp h
    subst e2
    exact .tup h1 (dps_of h2 e1)
  | _, _, _, .dk _ _ _, h => by simp only [toP] at h; cases h
  | _, _, _, .dt _ _ _, h => by simp only [toP] at h; cases h
  | _, _, _, .obj _ _ _, h => by simp only [toP] at h; cases h
  | _, _, _, .fn _, h => by simp only [toP] at h; cases h
  | _, _, _, .ty _, h => by simp only [toP] at h; cases h
  | _, _, _, .pot, h => by simp only [toP] at h; cases h
theorem dps_of {K : PySem.W.Frag} {p : Addr} {H : Hp} : ∀ {ds : List D} {vs : List V} {es : List PyData}, Reps K p H ds vs → toPs ds = some es → DpAll K H vs es
  | _, _, _, .nil, h => by simp only [toPs] at h; cases h; exact .nil
  | _, _, _, .cons (d := d) (ds := ds) h1 h2, h => by
    simp only [toPs] at h
    cases e1 : toP d with
    | none => rw [e1] at h; cases h
    | some e =>
      cases e2 : toPs ds with
      | none => rw [e1, e2] at h; cases h
      | some es =>
        rw [e1, e2] at h
        cases h
        exact .cons (dp_of h1 e1) (dps_of h2 e2)
end
theorem Rep1.whole {K : PySem.W.Frag} {p : Addr} {B H : Hp} (s : Same B H) {d : D} {v : V} {e : PyData} (h : Rep1 K p B H d v) (he : toP d = some e) : Dp K H v e := by
  cases h with
  | non => exact dp_of (p := p) .non he
  | bl b => exact dp_of (p := p) (.bl b) he
  | int b => exact dp_of (p := p) (.int b) he
  | str b => exact dp_of (p := p) (.str b) he
  | lst h1 h2 => exact dp_of (p := p) (.lst h1 (h2.mono s)) he
  | tup h1 h2 => exact dp_of (p := p) (.tup (sqT_same s h1) (h2.mono s)) he
  | _ => simp only [toP] at he; cases he
theorem flat_rep {K : PySem.W.Frag} {p : Addr} {B H : Hp} {d : D} {v w : V} (h : Rep1 K p B H d v) (e : flatD d = some w) : v = w ∧ flatV v = true := by
  cases h <;> cases e <;> exact ⟨rfl, rfl⟩
theorem eqV_scal {x y : V} (h : scal x y = true) (f1 : flatV x = true) (f2 : flatV y = true) : eqV x y = decide (x = y) := by
  cases x <;> cases y <;> first | exact absurd f1 Bool.false_ne_true | exact absurd f2 Bool.false_ne_true | exact absurd h Bool.false_ne_true | rfl | (simp [eqV]; done) | (unfold eqV; rw [Bool.eq_iff_iff]; simp)
theorem op_eqF (hu : X.A.units + 64 < cLine) : OpR X (compareOp .Eq) (fun x y H Q => flatV x = true ∧ flatV y = true ∧ Q (.bl (eqV x y)) H) := by
  intro pins s σ H x y v u Q I rx ry ⟨f1, f2, q⟩
  cases hs : scal x y with
  | true => exact op_eq pins s σ H x y v u Q I rx ry ⟨hs, by rw [← eqV_scal hs f1 f2]; exact q⟩
  | false =>
    cases x <;> cases y <;> first | exact absurd f1 Bool.false_ne_true | exact absurd f2 Bool.false_ne_true | exact absurd hs.symm Bool.false_ne_true | skip
    · exact op_eqD hu pins s σ H _ _ v u Q I rx ry ⟨_, _, .bl _, .int _, by simp [SeqAt.shaped, PyData.canLay0, PyData.depth], by simp [SeqAt.shaped, PyData.canLay0, PyData.depth], q⟩
    · exact op_eqD hu pins s σ H _ _ v u Q I rx ry ⟨_, _, .int _, .bl _, by simp [SeqAt.shaped, PyData.canLay0, PyData.depth], by simp [SeqAt.shaped, PyData.canLay0, PyData.depth], q⟩
theorem op_neF (hu : X.A.units + 64 < cLine) : OpR X (compareOp .NotEq) (fun x y H Q => flatV x = true ∧ flatV y = true ∧ Q (.bl (!eqV x y)) H) := by
  intro pins s σ H x y v u Q I rx ry ⟨f1, f2, q⟩
  cases hs : scal x y with
  | true => exact op_ne pins s σ H x y v u Q I rx ry ⟨hs, by rw [← eqV_scal hs f1 f2]; exact q⟩
  | false =>
    cases x <;> cases y <;> first | exact absurd f1 Bool.false_ne_true | exact absurd f2 Bool.false_ne_true | exact absurd hs.symm Bool.false_ne_true | skip
    · exact op_neD hu pins s σ H _ _ v u Q I rx ry ⟨_, _, .bl _, .int _, by simp [SeqAt.shaped, PyData.canLay0, PyData.depth], by simp [SeqAt.shaped, PyData.canLay0, PyData.depth], q⟩
    · exact op_neD hu pins s σ H _ _ v u Q I rx ry ⟨_, _, .int _, .bl _, by simp [SeqAt.shaped, PyData.canLay0, PyData.depth], by simp [SeqAt.shaped, PyData.canLay0, PyData.depth], q⟩
theorem eqD_cases {x y : D} {b : Bool} (h : eqD x y = some b) : (∃ a c, flatD x = some a ∧ flatD y = some c ∧ b = eqV a c) ∨ ∃ a c, toP x = some a ∧ toP y = some c ∧ SeqAt.shaped a = true ∧ SeqAt.shaped c = true ∧ b = PyData.eqv a c := by
  unfold eqD at h
  split at h
  · next a c e1 e2 => exact .inl ⟨a, c, e1, e2, (Option.some.inj h).symm⟩
  · split at h
    · next a c e1 e2 =>
      split at h
      · next hs => exact .inr ⟨a, c, e1, e2, hs.1, hs.2, (Option.some.inj h).symm⟩
      · cases h
    · cases h
theorem d_eq (hu : X.A.units + 64 < cLine) : OpD X (compareOp .Eq) oEq := by
  refine ⟨fun pins s σ H x y v u Q I rx ry ⟨p, own, dx, dy, k, hl, r1, r2, ho, hp⟩ => ?_, fun x y k k' h z => ?_⟩
  · unfold oEq at ho
    cases e : eqD dx dy with
    | none => rw [e] at ho; exact ho.elim
    | some b =>
      rw [e] at ho
      rcases eqD_cases e with ⟨a, c, e1, e2, rfl⟩ | ⟨a, c, e1, e2, s1, s2, rfl⟩
      · obtain ⟨rfl, f1⟩ := flat_rep r1 e1
        obtain ⟨rfl, f2⟩ := flat_rep r2 e2
        exact op_eqF hu pins s σ H _ _ v u Q I rx ry ⟨f1, f2, post_v hp ho (.bl _)⟩
      · exact op_eqD hu pins s σ H _ _ v u Q I rx ry ⟨a, c, r1.whole bare_sub e1, r2.whole bare_sub e2, s1, s2, post_v hp ho (.bl _)⟩
  · unfold oEq at z ⊢
    cases e : eqD x y with
    | none => rw [e] at z; exact z
    | some b => rw [e] at z; exact h _ z
theorem d_ne (hu : X.A.units + 64 < cLine) : OpD X (compareOp .NotEq) oNe := by
  refine ⟨fun pins s σ H x y v u Q I rx ry ⟨p, own, dx, dy, k, hl, r1, r2, ho, hp⟩ => ?_, fun x y k k' h z => ?_⟩
  · unfold oNe at ho
    cases e : eqD dx dy with
    | none => rw [e] at ho; exact ho.elim
    | some b =>
      rw [e] at ho
      rcases eqD_cases e with ⟨a, c, e1, e2, rfl⟩ | ⟨a, c, e1, e2, s1, s2, rfl⟩
      · obtain ⟨rfl, f1⟩ := flat_rep r1 e1
        obtain ⟨rfl, f2⟩ := flat_rep r2 e2
        exact op_neF hu pins s σ H _ _ v u Q I rx ry ⟨f1, f2, post_v hp ho (.bl _)⟩
      · exact op_neD hu pins s σ H _ _ v u Q I rx ry ⟨a, c, r1.whole bare_sub e1, r2.whole bare_sub e2, s1, s2, post_v hp ho (.bl _)⟩
  · unfold oNe at z ⊢
    cases e : eqD x y with
    | none => rw [e] at z; exact z
    | some b => rw [e] at z; exact h _ z
/-! ### order -/
def ltS (a b : Str) : Bool := decide (a.cps.toList < b.cps.toList)
def oLt : O2
  | .int i, .int j, k => k (.v (.bl (decide (i < j))))
  | .str a, .str b, k => k (.v (.bl (ltS a b)))
  | _, _, _ => False
def oLe : O2
  | .int i, .int j, k => k (.v (.bl (decide (i ≤ j))))
  | .str a, .str b, k => k (.v (.bl (!ltS b a)))
  | _, _, _ => False
def oGt : O2
  | .int i, .int j, k => k (.v (.bl (decide (j < i))))
  | .str a, .str b, k => k (.v (.bl (ltS b a)))
  | _, _, _ => False
def oGe : O2
  | .int i, .int j, k => k (.v (.bl (decide (j ≤ i))))
  | .str a, .str b, k => k (.v (.bl (!ltS a b)))
  | _, _, _ => False
theorem d_lt : OpD X (compareOp .Lt) oLt := by
  refine ⟨fun pins s σ H x y v u Q I rx ry ⟨p, own, dx, dy, k, hl, r1, r2, ho, hp⟩ => ?_, fun x y k k' h => by cases x <;> cases y <;> first | exact h _ | exact id⟩
  cases r1 with
  | int i => cases r2 with
    | int j => exact op_lt pins s σ H _ _ v u Q I rx ry ⟨i, j, rfl, rfl, post_v hp ho (.bl _)⟩
    | _ => exact ho.elim
  | str i => cases r2 with
    | str j => exact op_lt_str pins s σ H _ _ v u Q I rx ry ⟨i, j, rfl, rfl, post_v hp ho (.bl _)⟩
    | _ => exact ho.elim
  | _ => exact ho.elim
theorem d_le : OpD X (compareOp .LtE) oLe := by
  refine ⟨fun pins s σ H x y v u Q I rx ry ⟨p, own, dx, dy, k, hl, r1, r2, ho, hp⟩ => ?_, fun x y k k' h => by cases x <;> cases y <;> first | exact h _ | exact id⟩
  cases r1 with
  | int i => cases r2 with
    | int j => exact op_le pins s σ H _ _ v u Q I rx ry ⟨i, j, rfl, rfl, post_v hp ho (.bl _)⟩
    | _ => exact ho.elim
  | str i => cases r2 with
    | str j => exact op_le_str pins s σ H _ _ v u Q I rx ry ⟨i, j, rfl, rfl, post_v hp ho (.bl _)⟩
    | _ => exact ho.elim
  | _ => exact ho.elim
theorem d_gt : OpD X (compareOp .Gt) oGt := by
  refine ⟨fun pins s σ H x y v u Q I rx ry ⟨p, own, dx, dy, k, hl, r1, r2, ho, hp⟩ => ?_, fun x y k k' h => by cases x <;> cases y <;> first | exact h _ | exact id⟩
  cases r1 with
  | int i => cases r2 with
    | int j => exact op_gt pins s σ H _ _ v u Q I rx ry ⟨i, j, rfl, rfl, post_v hp ho (.bl _)⟩
    | _ => exact ho.elim
  | str i => cases r2 with
    | str j => exact op_gt_str pins s σ H _ _ v u Q I rx ry ⟨i, j, rfl, rfl, post_v hp ho (.bl _)⟩
    | _ => exact ho.elim
  | _ => exact ho.elim
theorem d_ge : OpD X (compareOp .GtE) oGe := by
  refine ⟨fun pins s σ H x y v u Q I rx ry ⟨p, own, dx, dy, k, hl, r1, r2, ho, hp⟩ => ?_, fun x y k k' h => by cases x <;> cases y <;> first | exact h _ | exact id⟩
  cases r1 with
  | int i => cases r2 with
    | int j => exact op_ge pins s σ H _ _ v u Q I rx ry ⟨i, j, rfl, rfl, post_v hp ho (.bl _)⟩
    | _ => exact ho.elim
  | str i => cases r2 with
    | str j => exact op_ge_str pins s σ H _ _ v u Q I rx ry ⟨i, j, rfl, rfl, post_v hp ho (.bl _)⟩
    | _ => exact ho.elim
  | _ => exact ho.elim
/-! ### is None; in -/
def isNon : D → Bool
  | .non => true
  | _ => false
def oIs : O2
  | x, .non, k => k (.v (.bl (isNon x)))
  | _, _, _ => False
def oIsNot : O2
  | x, .non, k => k (.v (.bl (!isNon x)))
  | _, _, _ => False
theorem isNon_rep {K : PySem.W.Frag} {p : Addr} {B H : Hp} {d : D} {v : V} (h : Rep1 K p B H d v) : decide (v = .non) = isNon d := by
  cases h <;> rfl
theorem d_is : OpD X (compareOp .Is) oIs := by
  refine ⟨fun pins s σ H x y v u Q I rx ry ⟨p, own, dx, dy, k, hl, r1, r2, ho, hp⟩ => ?_, fun x y k k' h => by cases y <;> first | exact h _ | exact id⟩
  cases r2 with
  | non => exact op_isN pins s σ H _ _ v u Q I rx ry ⟨rfl, by rw [isNon_rep r1]; exact post_v hp ho (.bl _)⟩
  | _ => exact ho.elim
theorem d_isNot : OpD X (compareOp .IsNot) oIsNot := by
  refine ⟨fun pins s σ H x y v u Q I rx ry ⟨p, own, dx, dy, k, hl, r1, r2, ho, hp⟩ => ?_, fun x y k k' h => by cases y <;> first | exact h _ | exact id⟩
  cases r2 with
  | non => exact op_notN pins s σ H _ _ v u Q I rx ry ⟨rfl, by rw [isNon_rep r1]; exact post_v hp ho (.bl _)⟩
  | _ => exact ho.elim
/-- flat values of a list -/
def flatsD : List D → Option (List V)
  | [] => some []
  | d :: ds => match flatD d, flatsD ds with
    | some v, some vs => some (v :: vs)
    | _, _ => none
theorem flats_rep {K : PySem.W.Frag} {p : Addr} {B : Hp} : ∀ {ds : List D} {vs ws : List V}, Reps K p B ds vs → flatsD ds = some ws → vs = ws ∧ ws.all flatV = true
  | _, _, _, .nil, e => by cases e; exact ⟨rfl, rfl⟩
  | _, _, _, .cons (d := d) (ds := ds) h1 h2, e => by
    unfold flatsD at e
    cases e1 : flatD d with
    | none => rw [e1] at e; cases e
    | some v =>
      cases e2 : flatsD ds with
      | none => rw [e1, e2] at e; cases e
      | some vs =>
        rw [e1, e2] at e
        cases e
        obtain ⟨rfl, f⟩ := flats_rep h2 e2
        obtain ⟨rfl, f1⟩ := flat_rep (h1.top same_rf) e1
        exact ⟨rfl, by rw [List.all_cons, f1, f]; rfl⟩
def inStr (a z : Str) : Bool := match a.cps.toList with
  | [c] => decide (c ∈ z.cps.toList)
  | _ => !(Builtin.Str.occurrences z a 0 z.length 1).isEmpty
def keyOf : D → Option Key
  | .int i => some (.inl i)
  | .str z => some (.inr z)
  | _ => none
def keysOf : List D → Option (List Key)
  | [] => some []
  | d :: ds => match keyOf d, keysOf ds with
    | some k, some ks => some (k :: ks)
    | _, _ => none
def getK {κ : Type} [DecidableEq κ] (kvs : List (κ × D)) (k : κ) : Option D := (kvs.find? fun kv => decide (kv.1 = k)).map (·.2)
/-- x in y; a value that a dict cannot have is not told -/
def inD (x : D) : D → Option Bool
  | .lst ys => match flatD x, flatsD ys with
    | some a, some bs => some (inV a bs)
    | _, _ => none
  | .tup ys => match flatD x, flatsD ys with
    | some a, some bs => some (inV a bs)
    | _, _ => none
  | .str z => match x with
    | .str a => some (inStr a z)
    | _ => none
  | .dk kvs => match keyOf x with
    | some k => some (getK kvs k).isSome
    | none => none
  | .dt kvs => match x with
    | .tup ks => match keysOf ks with
      | some k => some (getK kvs k).isSome
      | none => none
    | _ => none
  | _ => none
def oIn : O2 := fun x y k => match inD x y with
  | some b => k (.v (.bl b))
  | none => False
def oNotIn : O2 := fun x y k => match inD x y with
  | some b => k (.v (.bl (!b)))
  | none => False
theorem key_rep {K : PySem.W.Frag} {p : Addr} {B H : Hp} {d : D} {v : V} {k : Key} (h : Rep1 K p B H d v) (e : keyOf d = some k) : v = kV k := by
  cases h <;> cases e <;> rfl
theorem keys_rep {K : PySem.W.Frag} {p : Addr} {B : Hp} : ∀ {ds : List D} {vs : List V} {ks : List Key}, Reps K p B ds vs → keysOf ds = some ks → vs = ks.map kV
  | _, _, _, .nil, e => by cases e; rfl
  | _, _, _, .cons (d := d) (ds := ds) h1 h2, e => by
    unfold keysOf at e
    cases e1 : keyOf d with
    | none => rw [e1] at e; cases e
    | some v =>
      cases e2 : keysOf ds with
      | none => rw [e1, e2] at e; cases e
      | some vs =>
        rw [e1, e2] at e
        cases e
        rw [keys_rep h2 e2, key_rep (h1.top same_rf) e1]
        rfl
theorem getK_rep {κ : Type} [DecidableEq κ] {K : PySem.W.Frag} {p : Addr} {B : Hp} {k : κ} : ∀ {kds : List (κ × D)} {kvs : List (κ × V)}, kvs.map (·.1) = kds.map (·.1) → Reps K p B (kds.map (·.2)) (kvs.map (·.2)) → (getK kds k = none ∧ valV kvs k = none) ∨ ∃ d v, getK kds k = some d ∧ valV kvs k = some v ∧ Rep K p B d v
  | [], [], _, _ => .inl ⟨rfl, rfl⟩
  | [], _ :: _, e, _ => by cases e
  | _ :: _, [], e, _ => by cases e
  | (k1, d1) :: kds, (k2, v2) :: kvs, e, r => by
    simp only [List.map_cons, List.cons.injEq] at e
    obtain ⟨e1, e2⟩ := e
    have e1' : k2 = k1 := e1
    subst e1'
    cases r with
    | cons r1 rs =>
      by_cases hk : k2 = k
      · refine .inr ⟨d1, v2, ?_, ?_, r1⟩
        · unfold getK; simp [List.find?_cons, hk]
        · exact valV_pos hk
      · have h1 : getK ((k2, d1) :: kds) k = getK kds k := by unfold getK; simp [List.find?_cons, hk]
        rw [h1, valV_neg hk]
        exact getK_rep e2 rs
theorem rd_dk {H : Hp} {a : Addr} {kvs : List (Key × V)} (h : Rd H a (.dK kvs)) (k : Key) : DGet H a (kV k) (valV kvs k) := .inl ⟨kvs, k, h, rfl, rfl⟩
theorem in_dict (hu : X.A.units + 1 < cLine) : OpR X (compareOp .In) (fun y x H Q => ∃ a o, x = .ref a ∧ DGet H a y o ∧ Q (.bl o.isSome) H) := by
  intro pins s σ H y x v u Q I ry rx ⟨a, o, ex, g, q⟩
  subst ex
  cases rx
  exact d_in hu I g ry fun s' I' => ⟨.bl _, H, I', rfl, q⟩
theorem notIn_dict (hu : X.A.units + 1 < cLine) : OpR X (compareOp .NotIn) (fun y x H Q => ∃ a o, x = .ref a ∧ DGet H a y o ∧ Q (.bl (!o.isSome)) H) := by
  intro pins s σ H y x v u Q I ry rx ⟨a, o, ex, g, q⟩
  subst ex
  cases rx
  exact d_notIn hu I g ry fun s' I' => ⟨.bl _, H, I', rfl, q⟩
end
end DL
end
section
set_option Elab.async false
set_option linter.all false
set_option maxRecDepth 100000
set_option maxHeartbeats 4000000
namespace DL
open PySem L2 PyProof.Rows
variable {Z : Bs}
section
variable {X : Cx}
theorem isSome_get {κ : Type} [DecidableEq κ] {K : PySem.W.Frag} {p : Addr} {B : Hp} {k : κ} {kds : List (κ × D)} {kvs : List (κ × V)} (e : kvs.map (·.1) = kds.map (·.1)) (r : Reps K p B (kds.map (·.2)) (kvs.map (·.2))) : (valV kvs k).isSome = (getK kds k).isSome := by
  rcases getK_rep (k := k) e r with ⟨h1, h2⟩ | ⟨d, v, h1, h2, _⟩ <;> rw [h1, h2] <;> rfl
/-- tuples are always tracked where their items are keys -/
def TupIn (K : PySem.W.Frag) (H : Hp) (a : Addr) (ks : List Key) : Prop := H a = some (.tup (ks.map kV))
theorem in_str : OpR X (compareOp .In) (fun x y H Q => ∃ a z, x = .str a ∧ y = .str z ∧ Q (.bl (inStr a z)) H) := by
  intro pins s σ H x y v u Q I rx ry ⟨a, z, e1, e2, q⟩
  subst e1 e2
  unfold inStr at q
  split at q
  · next c hc =>
    have ea : a = ⟨#[c]⟩ := by
      cases a with
      | mk cps => cases cps with | mk l => simp at hc; rw [hc]
    exact op_in_sign pins s σ H _ _ v u Q I rx ry ⟨c, z, by rw [ea], rfl, q⟩
  · exact op_in_str pins s σ H _ _ v u Q I rx ry ⟨a, z, rfl, rfl, q⟩
theorem notIn_str : OpR X (compareOp .NotIn) (fun x y H Q => ∃ a z, x = .str a ∧ y = .str z ∧ Q (.bl (!inStr a z)) H) := by
  intro pins s σ H x y v u Q I rx ry ⟨a, z, e1, e2, q⟩
  subst e1 e2
  unfold inStr at q
  split at q
  · next c hc =>
    have ea : a = ⟨#[c]⟩ := by
      cases a with
      | mk cps => cases cps with | mk l => simp at hc; rw [hc]
    exact op_notIn_sign pins s σ H _ _ v u Q I rx ry ⟨c, z, by rw [ea], rfl, q⟩
  · exact op_notin_str pins s σ H _ _ v u Q I rx ry ⟨a, z, rfl, rfl, q⟩
/-- dicts by tuples are asked elsewhere -/
def inD' (x y : D) : Option Bool := match y with
  | .dt _ => none
  | y => inD x y
def oIn' : O2 := fun x y k => match inD' x y with
  | some b => k (.v (.bl b))
  | none => False
def oNotIn' : O2 := fun x y k => match inD' x y with
  | some b => k (.v (.bl (!b)))
  | none => False
theorem d_in (hu : X.A.units + 1 < cLine) : OpD X (compareOp .In) oIn' := by
  refine ⟨fun pins s σ H x y v u Q I rx ry ⟨p, own, dx, dy, k, hl, r1, r2, ho, hp⟩ => ?_, fun x y k k' h z => ?_⟩
  · unfold oIn' at ho
    cases e : inD' dx dy with
    | none => rw [e] at ho; exact ho.elim
    | some b =>
      rw [e] at ho
      cases r2 with
      | lst h1 h2 =>
        simp only [inD', inD] at e
        split at e
        · next a bs e1 e2 =>
          cases e
          obtain ⟨rfl, f⟩ := flat_rep r1 e1
          obtain ⟨rfl, fs⟩ := flats_rep h2 e2
          exact op_in_seq pins s σ H _ _ v u Q I rx ry ⟨_, _, rfl, .inl (SqL.of h1), f, fs, post_v hp ho (.bl _)⟩
        · cases e
      | tup h1 h2 =>
        simp only [inD', inD] at e
        split at e
        · next a bs e1 e2 =>
          cases e
          obtain ⟨rfl, f⟩ := flat_rep r1 e1
          obtain ⟨rfl, fs⟩ := flats_rep h2 e2
          exact op_in_seq pins s σ H _ _ v u Q I rx ry ⟨_, _, rfl, .inr (sqT_same bare_sub h1), f, fs, post_v hp ho (.bl _)⟩
        · cases e
      | str z =>
        simp only [inD', inD] at e
        cases r1 with
        | str a => cases e; exact in_str pins s σ H _ _ v u Q I rx ry ⟨a, z, rfl, rfl, post_v hp ho (.bl _)⟩
        | _ => cases e
      | dk h1 h2 h3 =>
        simp only [inD', inD] at e
        split at e
        · next kk e1 =>
          cases e
          have := key_rep r1 e1
          subst this
          exact in_dict hu pins s σ H _ _ v u Q I rx ry ⟨_, _, rfl, rd_dk h1 kk, by rw [isSome_get h2 h3]; exact post_v hp ho (.bl _)⟩
        · cases e
      | _ => simp only [inD', inD] at e; cases e
  · unfold oIn' at z ⊢
    cases e : inD' x y with
    | none => rw [e] at z; exact z
    | some b => rw [e] at z; exact h _ z
theorem d_notIn (hu : X.A.units + 1 < cLine) : OpD X (compareOp .NotIn) oNotIn' := by
  refine ⟨fun pins s σ H x y v u Q I rx ry ⟨p, own, dx, dy, k, hl, r1, r2, ho, hp⟩ => ?_, fun x y k k' h z => ?_⟩
  · unfold oNotIn' at ho
    cases e : inD' dx dy with
    | none => rw [e] at ho; exact ho.elim
    | some b =>
      rw [e] at ho
      cases r2 with
      | lst h1 h2 =>
        simp only [inD', inD] at e
        split at e
        · next a bs e1 e2 =>
          cases e
          obtain ⟨rfl, f⟩ := flat_rep r1 e1
          obtain ⟨rfl, fs⟩ := flats_rep h2 e2
          exact op_notIn_seq pins s σ H _ _ v u Q I rx ry ⟨_, _, rfl, .inl (SqL.of h1), f, fs, post_v hp ho (.bl _)⟩
        · cases e
      | tup h1 h2 =>
        simp only [inD', inD] at e
        split at e
        · next a bs e1 e2 =>
          cases e
          obtain ⟨rfl, f⟩ := flat_rep r1 e1
          obtain ⟨rfl, fs⟩ := flats_rep h2 e2
          exact op_notIn_seq pins s σ H _ _ v u Q I rx ry ⟨_, _, rfl, .inr (sqT_same bare_sub h1), f, fs, post_v hp ho (.bl _)⟩
        · cases e
      | str z =>
        simp only [inD', inD] at e
        cases r1 with
        | str a => cases e; exact notIn_str pins s σ H _ _ v u Q I rx ry ⟨a, z, rfl, rfl, post_v hp ho (.bl _)⟩
        | _ => cases e
      | dk h1 h2 h3 =>
        simp only [inD', inD] at e
        split at e
        · next kk e1 =>
          cases e
          have := key_rep r1 e1
          subst this
          exact notIn_dict hu pins s σ H _ _ v u Q I rx ry ⟨_, _, rfl, rd_dk h1 kk, by rw [isSome_get h2 h3]; exact post_v hp ho (.bl _)⟩
        · cases e
      | _ => simp only [inD', inD] at e; cases e
  · unfold oNotIn' at z ⊢
    cases e : inD' x y with
    | none => rw [e] at z; exact z
    | some b => rw [e] at z; exact h _ z
/-! ### subscripts -/
def ixD : D → D → Option D
  | .lst xs, .int i => atI xs i
  | .tup xs, .int i => atI xs i
  | .str z, .int i => if z.length ≤ sizeLine then (atI z.cps.toList i).map fun c => .str ⟨#[c]⟩ else none
  | .dk kvs, x => match keyOf x with
    | some k => getK kvs k
    | none => none
  | _, _ => none
def oIx : O2 := fun x y k => match ixD x y with
  | some d => k (.v d)
  | none => False
theorem atI_rep {K : PySem.W.Frag} {p : Addr} {B : Hp} {ds : List D} {vs : List V} (r : Reps K p B ds vs) {i : Int} {d : D} (e : atI ds i = some d) : ∃ v, atI vs i = some v ∧ Rep K p B d v := by
  unfold atI at e ⊢
  rw [← r.len]
  cases h : ixN ds.length i with
  | none => rw [h] at e; cases e
  | some j =>
    rw [h] at e
    exact r.get e
theorem ix_dict (hu : X.A.units + 1 < cLine) : IxR X (fun x y H Q => ∃ a v, x = .ref a ∧ DGet H a y (some v) ∧ Q v H) := by
  intro value slice pins s σ H x y v u Q I rx ry ⟨a, w, ex, g, q⟩ hs
  subst ex
  cases rx
  have hT := dict_typeIs I g
  unfold subscriptTail
  refine wpAny_bind ?_
  rw [getitemInPython_of_ne hT.not_modules]
  refine wpAny_bind (wpAny_specialOf hT PySem.F.slot_dict_getitem.lookup ?_)
  have h₂ : wpAny (model X.prog X.w) X.A (getItem (.ref a) u) (EP X pins σ Q) X.xe s := d_getItem hu I g ry fun w' s' I' r' => ⟨w, H, I', r', q⟩
  have fin : wpAny (model X.prog X.w) X.A (subscripted slice false (.ref a) u) (fun r s₃ => wpAny (model X.prog X.w) X.A (letTemporaryGo value (.ref a) r >>= fun _ => pure r) (EP X pins σ Q) X.xe s₃) X.xe s := by
    rw [hs]
    exact wpAny_operating (wpAny_mono h₂ (fun r s₃ h₃ => wpAny_bind (wpAny_letTemporaryGo (wpAny_pure h₃))) fun _ _ x => x)
  first
    | exact wpAny_pure (wpAny_bind fin)
    | exact wpAny_bind (wpAny_pure (wpAny_bind fin))
    | exact wpAny_bind fin
theorem d_ix (hu : X.A.units + 1 < cLine) : IxD X oIx := by
  refine ⟨fun value slice pins s σ H x y v u Q I rx ry ⟨p, own, dx, dy, k, hl, r1, r2, ho, hp⟩ hs => ?_, fun x y k k' h z => ?_⟩
  · unfold oIx at ho
    cases e : ixD dx dy with
    | none => rw [e] at ho; exact ho.elim
    | some d =>
      rw [e] at ho
      cases r1 with
      | lst h1 h2 =>
        cases r2 with
        | int i =>
          obtain ⟨w, e1, rw1⟩ := atI_rep h2 e
          exact ix_list value slice pins s σ H _ _ v u Q I rx ry ⟨_, _, i, w, rfl, rfl, SqL.of h1, e1, post_v hp ho rw1⟩ hs
        | _ => cases e
      | tup h1 h2 =>
        cases r2 with
        | int i =>
          obtain ⟨w, e1, rw1⟩ := atI_rep h2 e
          exact ix_tup value slice pins s σ H _ _ v u Q I rx ry ⟨_, _, i, w, rfl, rfl, sqT_same bare_sub h1, e1, post_v hp ho rw1⟩ hs
        | _ => cases e
      | str z =>
        cases r2 with
        | int i =>
          simp only [ixD] at e
          split at e
          · next hz =>
            obtain ⟨c, e1, e2⟩ := Option.map_eq_some_iff.mp e
            subst e2
            exact ix_str value slice pins s σ H _ _ v u Q I rx ry ⟨z, i, c, rfl, rfl, hz, e1, post_v hp ho (.str _)⟩ hs
          · cases e
        | _ => cases e
      | dk h1 h2 h3 =>
        simp only [ixD] at e
        split at e
        · next kk e1 =>
          have := key_rep r2 e1
          subst this
          rcases getK_rep (k := kk) h2 h3 with ⟨z1, z2⟩ | ⟨d', w, z1, z2, rr⟩
          · rw [z1] at e; cases e
          · rw [z1] at e
            cases e
            exact ix_dict hu value slice pins s σ H _ _ v u Q I rx ry ⟨_, w, rfl, by rw [← z2]; exact rd_dk h1 kk, post_v hp ho rr⟩ hs
        · cases e
      | _ => simp only [ixD] at e; cases e
  · unfold oIx at z ⊢
    cases e : ixD x y with
    | none => rw [e] at z; exact z
    | some b => rw [e] at z; exact h _ z
/-! ### slices -/
abbrev WO := Sx → (Option Int → Sx → Prop) → Prop
def MonoO (w : WO) : Prop := ∀ S (Q Q' : Option Int → Sx → Prop), (∀ r S', Q r S' → Q' r S') → w S Q → w S Q'
def liftO (K : PySem.W.Frag) (Z : Bs) (w : WO) : TO := fun σ H R => ∃ g S, EnvOk K Z g H S σ ∧ w S fun o S' => ∀ g' H', EnvOk K Z g' H' S' σ → Step g H g' H' → R o H'
structure DO (X : Cx) (Z : Bs) (e : Option Expr) (w : WO) : Prop where
  po : PO X e (liftO X.K Z w)
  mono : MonoO w
theorem PO.imp {e : Option Expr} {t t' : TO} (h : PO X e t) (i : ∀ σ H Q, t' σ H Q → t σ H Q) : PO X e t' := ⟨fun pins s σ H Q I q => h.run pins s σ H Q I (i σ H Q q)⟩
def wONone : WO := fun S Q => Q none S
theorem do_none : DO X Z none wONone := ⟨PO.imp po_none fun σ H Q ⟨g, S, ok, q⟩ => q g H ok Step.rf, fun S Q Q' k h => k _ _ h⟩
def wOSome (w : WE) : WO := fun S Q => w S fun r S1 => use S1 r fun d => match d with
  | .int i => Q (some i) S1
  | _ => False
theorem do_some {e : Expr} {w : WE} (h : DE X Z e w) : DO X Z (some e) (wOSome w) := by
  refine ⟨PO.imp (po_some h.pe) fun σ H Q ⟨g, S, ok, q⟩ => ⟨g, S, ok, h.mono S _ _ (fun r S1 z g1 v H1 ok1 rv st1 => ?_) q⟩, fun S Q Q' k => h.mono S _ _ fun r S1 => use_mono fun d z => by cases d <;> first | exact z | exact k _ _ z⟩
  obtain ⟨d, e1, z⟩ := use_of z
  have r1 := deref_rep ok1 rv e1
  cases r1 with
  | int i => exact ⟨i, rfl, z g1 H1 ok1 st1⟩
  | _ => exact z.elim
def cutD (xs : List D) (lo hi : Option Int) : List D := (xs.drop (HT.sIx xs.length 0 lo)).take (HT.sIx xs.length xs.length hi - HT.sIx xs.length 0 lo)
def slD (d : D) (lo hi : Option Int) (k : Vl → Prop) : Prop := match d with
  | .lst xs => k (.n (.l (cutD xs lo hi)))
  | .tup xs => k (.v (.tup (cutD xs lo hi)))
  | .str z => z.length ≤ sizeLine ∧ k (.v (.str (cutS z lo hi)))
  | _ => False
def wSl (we : WE) (wl wh : WO) : WE := fun S Q => we S fun r S1 => wl S1 fun lo S2 => wh S2 fun hi S3 => use S3 (hold r) fun d => slD d lo hi fun z => Q z S3
theorem cut_rep {K : PySem.W.Frag} {p : Addr} {B : Hp} {ds : List D} {vs : List V} (r : Reps K p B ds vs) (lo hi : Option Int) : Reps K p B (cutD ds lo hi) (cutV vs lo hi) := by
  unfold cutD cutV
  rw [r.len]
  exact (r.drop _).take _
theorem sl_any : SlR X (fun x lo hi H Q => rSlL X.K x lo hi H Q ∨ rSlA X.K x lo hi H Q ∨ rSlS x lo hi H Q) := sl_list.or (sl_tupA.or sl_str)
theorem slD_mono {d : D} {lo hi : Option Int} {k k' : Vl → Prop} (h : ∀ z, k z → k' z) (z : slD d lo hi k) : slD d lo hi k' := by
  cases d with
  | lst xs => exact h _ z
  | tup xs => exact h _ z
  | str s => exact ⟨z.1, h _ z.2⟩
  | _ => exact z
theorem de_slice {e : Expr} {lo hi : Option Expr} {we : WE} {wl wh : WO} {p2 pos : Pos} (he : DE X Z e we) (hl : DO X Z lo wl) (hh : DO X Z hi wh) : DE X Z (.Subscript e (.Slice lo hi none p2) pos) (wSl we wl wh) := by
  refine ⟨⟨fun pins s σ H Q I q => (pe_slice sl_any (de_hold he).pe hl.po hh.po).run pins s σ H Q I ?_⟩, fun S Q Q' k => he.mono S _ _ fun r S1 => hl.mono S1 _ _ fun l S2 => hh.mono S2 _ _ fun u S3 => use_mono fun d => slD_mono fun z => k z S3⟩
  obtain ⟨g, S, ok, q⟩ := q
  refine ⟨g, S, ok, he.mono S _ _ (fun r S1 q1 g1 v H1 ok1 rv1 st1 => ⟨g1, S1, ok1, hl.mono S1 _ _ (fun lo S2 q2 g2 H2 ok2 st2 => ⟨g2, S2, ok2, hh.mono S2 _ _ (fun hi S3 q3 g3 H3 ok3 st3 => ?_) q2⟩) q1⟩) q⟩
  obtain ⟨d, e1, q3⟩ := use_of q3
  have r1 := deref_rep ok3 (rv1.step (S1 := S3) (hold_nn r) (st2.tr st3)) e1
  have hp := post_of (Q := Q) ok3 ((st1.tr st2).tr st3) (k := fun z => ∀ g' v H', EnvOk X.K Z g' H' S3 σ → RepV X.K g' H' S3 σ z v → Step g H g' H' → Q v H') fun z h => h
  cases r1 with
  | lst h1 h2 => exact .inl ⟨_, _, rfl, SqL.of h1, post_l hp q3 (cut_rep h2 lo hi)⟩
  | tup h1 h2 =>
    refine .inr (.inl ⟨_, _, rfl, sqT_same bare_sub h1, fun hw => ?_, fun _ => post_t ok3.gok.live hp q3 (cut_rep h2 lo hi)⟩)
    refine hp _ q3 _ H3 same_rf (.tup h1 ?_)
    have e := cut_rep h2 lo hi
    unfold cutV at e
    rw [hw.1, hw.2, List.drop_zero, Nat.sub_zero, List.take_length] at e
    exact e
  | str z => exact .inr (.inr ⟨z, rfl, q3.1, post_v hp q3.2 (.str _)⟩)
  | _ => exact q3.elim
end
end DL
end
section
set_option Elab.async false
set_option linter.all false
set_option maxRecDepth 100000
set_option maxHeartbeats 400000
namespace DL
open PySem L2 PyProof.Rows
variable {Z : Bs}
section
variable {X : Cx}
/-! ### built-in functions -/
def lenD : D → Option Nat
  | .str z => if z.length ≤ sizeLine then some z.length else none
  | .lst xs => some xs.length
  | .tup xs => some xs.length
  | .dk kvs => some kvs.length
  | _ => none
def oLen : OL
  | [d], k => match lenD d with
    | some n => k (.v (.int n))
    | none => False
  | _, _ => False
theorem len_dict : CallR X (.builtin "len") (fun xs H Q => ∃ a kvs, xs = [V.ref a] ∧ Rd H a (.dK kvs) ∧ Q (.int kvs.length) H) := by
  intro pins s σ H xs us Q I r h
  obtain ⟨a, kvs, rfl, ha, q⟩ := h
  obtain ⟨u, rfl, ru⟩ := vals1 r
  cases ru
  exact d_len I ha fun t s' I' => ⟨.int kvs.length, H, I', ⟨t, rfl⟩, q⟩
theorem d_len' : CallD X (.builtin "len") oLen := by
  refine ⟨fun pins s σ H xs us Q I r ⟨p, own, ds, k, hl, rp, ho, hp⟩ => ?_, fun ds k k' h z => ?_⟩
  · unfold oLen at ho
    split at ho
    · next d kk =>
      cases rp with
      | cons r1 rp =>
        cases rp
        split at ho
        · next n e =>
          cases r1 with
          | str z =>
            simp only [lenD] at e
            split at e
            · next hz => cases e; exact call_len pins s σ H _ us Q I r ⟨_, _, rfl, ⟨hz, rfl⟩, post_v hp ho (.int _)⟩
            · cases e
          | lst h1 h2 => cases e; exact call_len pins s σ H _ us Q I r ⟨_, _, rfl, .inl ⟨_, SqL.of h1, h2.len⟩, post_v hp ho (.int _)⟩
          | tup h1 h2 => cases e; exact call_len pins s σ H _ us Q I r ⟨_, _, rfl, .inr ⟨_, sqT_same bare_sub h1, h2.len⟩, post_v hp ho (.int _)⟩
          | dk h1 h2 h3 =>
            cases e
            refine len_dict pins s σ H _ us Q I r ⟨_, _, rfl, h1, ?_⟩
            have := congrArg List.length h2
            rw [List.length_map, List.length_map] at this
            rw [this]
            exact post_v hp ho (.int _)
          | _ => cases e
        · exact ho.elim
    · exact ho.elim
  · unfold oLen at z ⊢
    split
    · split <;> simp_all
    · split at z <;> simp_all
def oInt : OL
  | [.int i], k => k (.v (.int i))
  | [.bl b], k => k (.v (.int (if b then 1 else 0)))
  | _, _ => False
theorem d_int : CallD X (.type "int") oInt := by
  refine ⟨fun pins s σ H xs us Q I r ⟨p, own, ds, k, hl, rp, ho, hp⟩ => ?_, fun ds k k' h z => ?_⟩
  · unfold oInt at ho
    split at ho
    · cases rp with
      | cons r1 rp =>
        cases rp
        cases r1
        exact call_int1 pins s σ H _ us Q I r (.inl ⟨_, rfl, post_v hp ho (.int _)⟩)
    · cases rp with
      | cons r1 rp =>
        cases rp
        cases r1
        exact call_int1 pins s σ H _ us Q I r (.inr ⟨_, rfl, post_v hp ho (.int _)⟩)
    · exact ho.elim
  · unfold oInt at z ⊢
    split <;> simp_all
def oAbs : OL
  | [.int i], k => k (.v (.int (if i < 0 then -i else i)))
  | _, _ => False
theorem d_abs : CallD X (.builtin "abs") oAbs := by
  refine ⟨fun pins s σ H xs us Q I r ⟨p, own, ds, k, hl, rp, ho, hp⟩ => ?_, fun ds k k' h z => ?_⟩
  · unfold oAbs at ho
    split at ho
    · cases rp with
      | cons r1 rp =>
        cases rp
        cases r1
        exact call_abs pins s σ H _ us Q I r ⟨_, rfl, post_v hp ho (.int _)⟩
    · exact ho.elim
  · unfold oAbs at z ⊢
    split <;> simp_all
def oMin2 : OL
  | [.int i, .int j], k => k (.v (.int (if j < i then j else i)))
  | _, _ => False
def oMax2 : OL
  | [.int i, .int j], k => k (.v (.int (if j > i then j else i)))
  | _, _ => False
theorem d_min2 (hc : X.calm = true) : CallD X (.builtin "min") oMin2 := by
  refine ⟨fun pins s σ H xs us Q I r ⟨p, own, ds, k, hl, rp, ho, hp⟩ => ?_, fun ds k k' h z => ?_⟩
  · unfold oMin2 at ho
    split at ho
    · cases rp with
      | cons r1 rp => cases rp with
        | cons r2 rp =>
          cases rp
          cases r1
          cases r2
          exact call_min2 hc pins s σ H _ us Q I r ⟨_, _, rfl, post_v hp ho (.int _)⟩
    · exact ho.elim
  · unfold oMin2 at z ⊢
    split <;> simp_all
theorem d_max2 (hc : X.calm = true) : CallD X (.builtin "max") oMax2 := by
  refine ⟨fun pins s σ H xs us Q I r ⟨p, own, ds, k, hl, rp, ho, hp⟩ => ?_, fun ds k k' h z => ?_⟩
  · unfold oMax2 at ho
    split at ho
    · cases rp with
      | cons r1 rp => cases rp with
        | cons r2 rp =>
          cases rp
          cases r1
          cases r2
          exact call_max2 hc pins s σ H _ us Q I r ⟨_, _, rfl, post_v hp ho (.int _)⟩
    · exact ho.elim
  · unfold oMax2 at z ⊢
    split <;> simp_all
/-- a list of bools, of ints, of texts -/
def blsD : List D → Option (List Bool)
  | [] => some []
  | .bl b :: ds => (blsD ds).map (b :: ·)
  | _ :: _ => none
def intsD : List D → Option (List Int)
  | [] => some []
  | .int b :: ds => (intsD ds).map (b :: ·)
  | _ :: _ => none
def strsD : List D → Option (List Str)
  | [] => some []
  | .str b :: ds => (strsD ds).map (b :: ·)
  | _ :: _ => none
theorem bls_rep {K : PySem.W.Frag} {p : Addr} {B : Hp} : ∀ {ds : List D} {vs : List V} {bs : List Bool}, Reps K p B ds vs → blsD ds = some bs → vs = bs.map V.bl
  | _, _, _, .nil, e => by cases e; rfl
  | _, _, _, .cons (ds := ds) h1 h2, e => by
    cases h1 with
    | bl b =>
      simp only [blsD] at e
      obtain ⟨cs, e1, rfl⟩ := Option.map_eq_some_iff.mp e
      rw [bls_rep h2 e1]
      rfl
    | _ => cases e
theorem ints_rep {K : PySem.W.Frag} {p : Addr} {B : Hp} : ∀ {ds : List D} {vs : List V} {bs : List Int}, Reps K p B ds vs → intsD ds = some bs → vs = bs.map V.int
  | _, _, _, .nil, e => by cases e; rfl
  | _, _, _, .cons (ds := ds) h1 h2, e => by
    cases h1 with
    | int b =>
      simp only [intsD] at e
      obtain ⟨cs, e1, rfl⟩ := Option.map_eq_some_iff.mp e
      rw [ints_rep h2 e1]
      rfl
    | _ => cases e
theorem strs_rep {K : PySem.W.Frag} {p : Addr} {B : Hp} : ∀ {ds : List D} {vs : List V} {bs : List Str}, Reps K p B ds vs → strsD ds = some bs → vs = bs.map V.str
  | _, _, _, .nil, e => by cases e; rfl
  | _, _, _, .cons (ds := ds) h1 h2, e => by
    cases h1 with
    | str b =>
      simp only [strsD] at e
      obtain ⟨cs, e1, rfl⟩ := Option.map_eq_some_iff.mp e
      rw [strs_rep h2 e1]
      rfl
    | _ => cases e
theorem rep_strs {K : PySem.W.Frag} {p : Addr} {B : Hp} : ∀ zs : List Str, Reps K p B (zs.map D.str) (zs.map V.str)
  | [] => .nil
  | z :: zs => .cons (.str z) (rep_strs zs)
theorem rep_ints {K : PySem.W.Frag} {p : Addr} {B : Hp} : ∀ zs : List Int, Reps K p B (zs.map D.int) (zs.map V.int)
  | [] => .nil
  | z :: zs => .cons (.int z) (rep_ints zs)
theorem strsD_map : ∀ zs : List Str, strsD (zs.map D.str) = some zs
  | [] => rfl
  | z :: zs => by rw [List.map_cons]; simp only [strsD, strsD_map zs, Option.map_some]
theorem intsD_map : ∀ zs : List Int, intsD (zs.map D.int) = some zs
  | [] => rfl
  | z :: zs => by rw [List.map_cons]; simp only [intsD, intsD_map zs, Option.map_some]
theorem blsD_map : ∀ zs : List Bool, blsD (zs.map D.bl) = some zs
  | [] => rfl
  | z :: zs => by rw [List.map_cons]; simp only [blsD, blsD_map zs, Option.map_some]
def oAll : OL
  | [.lst xs], k => match blsD xs with
    | some bs => k (.v (.bl (bs.all id)))
    | none => False
  | _, _ => False
def oAny : OL
  | [.lst xs], k => match blsD xs with
    | some bs => k (.v (.bl (bs.any id)))
    | none => False
  | _, _ => False
def oSum : OL
  | [.lst xs], k => match intsD xs with
    | some bs => k (.v (.int bs.sum))
    | none => False
  | _, _ => False
theorem d_all (hc : X.calm = true) : CallD X (.builtin "all") oAll := by
  refine ⟨fun pins s σ H xs us Q I r ⟨p, own, ds, k, hl, rp, ho, hp⟩ => ?_, fun ds k k' h z => ?_⟩
  · unfold oAll at ho
    split at ho
    · split at ho
      · next bs e =>
        cases rp with
        | cons r1 rp =>
          cases rp
          cases r1 with
          | lst h1 h2 => exact cr_all hc pins s σ H _ us Q I r ⟨_, bs, rfl, SqL.of (by rw [← bls_rep h2 e]; exact h1), post_v hp ho (.bl _)⟩
      · exact ho.elim
    · exact ho.elim
  · unfold oAll at z ⊢
    split
    · split <;> simp_all
    · split at z <;> simp_all
theorem d_any (hc : X.calm = true) : CallD X (.builtin "any") oAny := by
  refine ⟨fun pins s σ H xs us Q I r ⟨p, own, ds, k, hl, rp, ho, hp⟩ => ?_, fun ds k k' h z => ?_⟩
  · unfold oAny at ho
    split at ho
    · split at ho
      · next bs e =>
        cases rp with
        | cons r1 rp =>
          cases rp
          cases r1 with
          | lst h1 h2 => exact cr_any hc pins s σ H _ us Q I r ⟨_, bs, rfl, SqL.of (by rw [← bls_rep h2 e]; exact h1), post_v hp ho (.bl _)⟩
      · exact ho.elim
    · exact ho.elim
  · unfold oAny at z ⊢
    split
    · split <;> simp_all
    · split at z <;> simp_all
theorem d_sum (hc : X.calm = true) : CallD X (.builtin "sum") oSum := by
  refine ⟨fun pins s σ H xs us Q I r ⟨p, own, ds, k, hl, rp, ho, hp⟩ => ?_, fun ds k k' h z => ?_⟩
  · unfold oSum at ho
    split at ho
    · split at ho
      · next bs e =>
        cases rp with
        | cons r1 rp =>
          cases rp
          cases r1 with
          | lst h1 h2 => exact cr_sum hc pins s σ H _ us Q I r ⟨_, bs, rfl, SqL.of (by rw [← ints_rep h2 e]; exact h1), post_v hp ho (.int _)⟩
      · exact ho.elim
    · exact ho.elim
  · unfold oSum at z ⊢
    split
    · split <;> simp_all
    · split at z <;> simp_all
def oList : OL
  | [.lst xs], k => k (.n (.l xs))
  | [.tup xs], k => k (.n (.l xs))
  | _, _ => False
def oTuple : OL
  | [.lst xs], k => k (.v (.tup xs))
  | [.tup xs], k => k (.v (.tup xs))
  | _, _ => False
theorem d_list : CallD X (.type "list") oList := by
  refine ⟨fun pins s σ H xs us Q I r ⟨p, own, ds, k, hl, rp, ho, hp⟩ => ?_, fun ds k k' h z => ?_⟩
  · unfold oList at ho
    split at ho
    · cases rp with
      | cons r1 rp =>
        cases rp
        cases r1 with
        | lst h1 h2 => exact call_list_of pins s σ H _ us Q I r ⟨_, _, rfl, .inl (SqL.of h1), post_l hp ho h2⟩
    · cases rp with
      | cons r1 rp =>
        cases rp
        cases r1 with
        | tup h1 h2 => exact call_list_of pins s σ H _ us Q I r ⟨_, _, rfl, .inr (sqT_same bare_sub h1), post_l hp ho h2⟩
    · exact ho.elim
  · unfold oList at z ⊢
    split <;> simp_all
theorem d_tuple : CallD X (.type "tuple") oTuple := by
  refine ⟨fun pins s σ H xs us Q I r ⟨p, own, ds, k, hl, rp, ho, hp⟩ => ?_, fun ds k k' h z => ?_⟩
  · unfold oTuple at ho
    split at ho
    · cases rp with
      | cons r1 rp =>
        cases rp
        cases r1 with
        | lst h1 h2 => exact call_tuple_of pins s σ H _ us Q I r ⟨_, _, rfl, .inl ⟨SqL.of h1, post_t hl hp ho h2⟩⟩
    · cases rp with
      | cons r1 rp =>
        cases rp
        cases r1 with
        | tup h1 h2 => exact call_tuple_of pins s σ H _ us Q I r ⟨_, _, rfl, .inr ⟨sqT_same bare_sub h1, hp _ ho _ H same_rf (.tup h1 h2)⟩⟩
    · exact ho.elim
  · unfold oTuple at z ⊢
    split <;> simp_all
/-- sorted of ints, of texts: the arrangement -/
def oSorted : OL
  | [.lst xs], k => xs.length < 64 ∧ match intsD xs with
    | some ns => ∀ ms : List Int, ms.Perm ns → ms.Pairwise (· ≤ ·) → k (.n (.l (ms.map .int)))
    | none => match strsD xs with
      | some zs => ∀ ys : List Str, ys.Perm zs → sortedS ys = true → k (.n (.l (ys.map .str)))
      | none => False
  | _, _ => False
theorem intsD_len : ∀ {ds : List D} {ns : List Int}, intsD ds = some ns → ns.length = ds.length
  | [], _, e => by cases e; rfl
  | .int b :: ds, _, e => by
    simp only [intsD] at e
    obtain ⟨cs, e1, rfl⟩ := Option.map_eq_some_iff.mp e
    simp [intsD_len e1]
theorem strsD_len : ∀ {ds : List D} {ns : List Str}, strsD ds = some ns → ns.length = ds.length
  | [], _, e => by cases e; rfl
  | .str b :: ds, _, e => by
    simp only [strsD] at e
    obtain ⟨cs, e1, rfl⟩ := Option.map_eq_some_iff.mp e
    simp [strsD_len e1]
theorem d_sorted : CallD X (.builtin "sorted") oSorted := by
  refine ⟨fun pins s σ H xs us Q I r ⟨p, own, ds, k, hl, rp, ho, hp⟩ => ?_, fun ds k k' h z => ?_⟩
  · unfold oSorted at ho
    split at ho
    · obtain ⟨h64, ho⟩ := ho
      cases rp with
      | cons r1 rp =>
        cases rp
        cases r1 with
        | lst h1 h2 =>
          split at ho
          · next ns e => exact cr_sorted pins s σ H _ us Q I r ⟨_, ns, rfl, SqL.of (by rw [← ints_rep h2 e]; exact h1), by rw [intsD_len e]; exact h64, fun ms a h3 h4 hn => post_l hp (ho ms h3 h4) (rep_ints ms) a hn⟩
          · split at ho
            · next zs e => exact cr_sortedS pins s σ H _ us Q I r ⟨_, zs, rfl, SqL.of (by rw [← strs_rep h2 e]; exact h1), by rw [strsD_len e]; exact h64, fun ms a h3 h4 hn => post_l hp (ho ms h3 h4) (rep_strs ms) a hn⟩
            · exact ho.elim
    · exact ho.elim
  · unfold oSorted at z ⊢
    split
    · refine ⟨z.1, ?_⟩
      have z2 := z.2
      split
      · next e => rw [e] at z2; exact fun ms a b => h _ (z2 ms a b)
      · next e =>
        rw [e] at z2
        dsimp only at z2
        split
        · next e2 => rw [e2] at z2; exact fun ms a b => h _ (z2 ms a b)
        · next e2 => rw [e2] at z2; exact z2
    · split at z <;> simp_all
/-! ### isinstance of built-in types -/
def tyD : D → Option String
  | .non => some "NoneType"
  | .bl _ => some "bool"
  | .int _ => some "int"
  | .str _ => some "str"
  | .lst _ => some "list"
  | .tup _ => some "tuple"
  | .dk _ => some "dict"
  | _ => none
def isiD (t n : String) : Option Bool := if n = "str" ∨ n = "int" ∨ n = "bool" ∨ n = "tuple" ∨ n = "list" ∨ n = "dict" then some (decide (t = n) || (decide (t = "bool") && decide (n = "int"))) else none
def oIsi : OL
  | [d, .ty n], k => match tyD d with
    | some t => match isiD t n with
      | some b => k (.v (.bl b))
      | none => False
    | none => False
  | _, _ => False
end
end DL
end
section
set_option Elab.async false
set_option linter.all false
set_option maxRecDepth 100000
set_option maxHeartbeats 400000
namespace DL
open PySem L2 PyProof.Rows
variable {Z : Bs}
section
variable {X : Cx}
/-! ### isinstance -/
theorem ty_rep {p : Addr} {own : List Addr} {H : Hp} {d : D} {v : V} {t : String} (h : Rep1 X.K p (bare own H) H d v) (e : tyD d = some t) : TyX X.K H v (.type t) := by
  cases h with
  | non => cases e; exact .base .non
  | bl b => cases e; exact .base (.bl b)
  | int b => cases e; exact .base (.int b)
  | str b => cases e; exact .base (.str b)
  | lst h1 h2 => cases e; exact .base (.lst h1)
  | tup h1 h2 =>
    cases e
    rcases sqT_same bare_sub h1 with (q | ⟨o, q⟩) | ⟨o, its, n, q1, q2, _⟩
    · exact .base (.tup q)
    · exact .fTuple q
    · exact .kTuple q1 q2
  | dk h1 h2 h3 =>
    cases e
    rcases h1 with q | ⟨o, q⟩
    · exact .base (.dK q)
    · exact .fDict q
  | _ => cases e
theorem isi_kit {K : PySem.W.Frag} {d : D} {t n : String} {b : Bool} (ht : tyD d = some t) (h : isiD t n = some b) : PySem.W.kitOne K (.type t) (.type n) = some b := by
  unfold isiD at h
  split at h
  · next hn =>
    cases h
    rcases hn with rfl | rfl | rfl | rfl | rfl | rfl <;> cases d <;> cases ht <;> rfl
  · cases h
theorem d_isi : CallD X (.builtin "isinstance") oIsi := by
  refine ⟨fun pins s σ H xs us Q I r ⟨p, own, ds, k, hl, rp, ho, hp⟩ => ?_, fun ds k k' h z => ?_⟩
  · unfold oIsi at ho
    split at ho
    · cases rp with
      | cons r1 rp => cases rp with
        | cons r2 rp =>
          cases rp
          cases r2
          split at ho
          · next t e1 =>
            split at ho
            · next b e2 => exact call_isi pins s σ H _ us Q I r ⟨_, _, _, _, b, rfl, .ty _, ty_rep r1 e1, isi_kit e1 e2, post_v hp ho (.bl _)⟩
            · exact ho.elim
          · exact ho.elim
    · exact ho.elim
  · unfold oIsi at z ⊢
    split
    · split
      · split <;> simp_all
      · simp_all
    · split at z <;> simp_all
/-! ### methods of texts -/
abbrev OM := D → List D → (Vl → Prop) → Prop
structure MtD (X : Cx) (id : String) (o : OM) : Prop where
  run : MtR X id fun x xs H Q => ∃ p own dx ds k, (∀ a ∈ own, H a ≠ none) ∧ Rep1 X.K p (bare own H) H dx x ∧ Paired (Rep1 X.K p (bare own H) H) ds xs ∧ o dx ds k ∧ ∀ z, k z → PostR X.K p own H Q z
  mono : ∀ x ds (k k' : Vl → Prop), (∀ z, k z → k' z) → o x ds k → o x ds k'
def isStr : D → Prop
  | .str _ => True
  | _ => False
def wSM (o : OM) (wr : WE) (wa : WA) : WE := fun S Q => wr S fun r S1 => use S1 r isStr ∧ wa S1 fun rs S2 => use S2 (hold r) fun d => uses S2 rs fun ds => o d ds fun z => Q z S2
theorem de_sm {o e : Expr} {es : List Expr} {name : Str} {apos cpos : Pos} {id : String} {om : OM} {wr : WE} {wa : WA} (slot : PySem.Slot "str" name id) (hty : typeOf (.builtin id) = pure (.type "method_descriptor")) (hm : MtD X id om) (ho : DE X Z o wr) (ha : DA X Z (e :: es) wa)
    (hbase : attributeBase o name X.env (eval o X.env) = eval o X.env := by rfl)
    (hfew : ((backTo cpos (starEach (e :: es) X.env)).all (fun x => !x.1) && (backToKw cpos (keywordEach [] X.env)).all (fun x => x.1.isSome)
      && decide ((e :: es).length + ([] : List Keyword).length + (if ([] : List Keyword).isEmpty then 0 else 1) < 30)) = true := by rfl)
    (hline : (apos.endLine == cpos.line) = true := by rfl) (hs : starEach (e :: es) X.env = (false, eval e X.env) :: starEach es X.env := by rfl) (hplain : (backTo cpos (starEach es X.env)).any (·.1) = false := by rfl) :
    DE X Z (.Call (.Attribute o name apos) (e :: es) [] cpos) (wSM om wr wa) := by
  refine ⟨⟨fun pins s σ H Q I q => (pe_bm PySem.F.plainAttrs_str slot hty hm.run (de_hold ho).pe ha.pa hbase hfew hline hs hplain).run pins s σ H Q I ?_⟩, fun S Q Q' k => ho.mono S _ _ fun r S1 z => ⟨z.1, ha.mono S1 _ _ (fun rs S2 => use_mono fun d => uses_mono fun ds => hm.mono d ds _ _ fun z => k z S2) z.2⟩⟩
  obtain ⟨g, S, ok, q⟩ := q
  refine ⟨g, S, ok, ho.mono S _ _ (fun r S1 z g1 v H1 ok1 rv1 st1 => ?_) q⟩
  obtain ⟨d0, e0, z0⟩ := use_of z.1
  have r0 : Rep1 X.K g1.p (bare g1.own H1) H1 d0 v := by
    refine deref_rep ok1 rv1 ?_
    cases r with
    | v d => exact e0
    | s i => exact e0
    | n t => exact e0
  have hty : tyV X.K "str" v H1 := by
    cases r0 with
    | str z => rfl
    | _ => exact z0.elim
  refine ⟨hty, g1, S1, ok1, ha.mono S1 _ _ (fun rs S2 z2 g2 vs H2 ok2 rv2 st2 => ?_) z.2⟩
  obtain ⟨dx, e1, z2⟩ := use_of z2
  obtain ⟨ds, e2, z2⟩ := uses_of z2
  exact ⟨g2.p, g2.own, dx, ds, _, ok2.gok.live, deref_rep ok2 (rv1.step (S1 := S2) (hold_nn r) st2) e1, derefs_rep ok2 rv2 e2, z2, post_of ok2 (st1.tr st2) fun z h => h⟩
def omJoin : OM
  | .str a, [.lst xs], k => match strsD xs with
    | some ys => (ys.map (·.length)).sum + ys.length * a.length ≤ 16777216 ∧ k (.v (.str (Txt.join a ys)))
    | none => False
  | _, _, _ => False
def omSplit : OM
  | .str a, [.str b], k => (b.length == 0) = false ∧ a.length + 2 ≤ sizeLine ∧ k (.n (.l ((Txt.split a b).map .str)))
  | _, _, _ => False
def omStarts : OM
  | .str a, [.str b], k => k (.v (.bl (Txt.startswith a b)))
  | _, _, _ => False
def omEnds : OM
  | .str a, [.str b], k => k (.v (.bl (Txt.endswith a b)))
  | _, _, _ => False
theorem m_join : MtD X "str.join" omJoin := by
  refine ⟨fun pins s σ H x xs v us Q I rx rs ⟨p, own, dx, ds, k, hl, r1, rp, ho, hp⟩ => ?_, fun x ds k k' h z => ?_⟩
  · unfold omJoin at ho
    split at ho
    · cases rp with
      | cons r2 rp =>
        cases rp
        cases r1
        cases r2 with
        | lst h1 h2 =>
          split at ho
          · next ys e => exact mt_join pins s σ H _ _ v us Q I rx rs ⟨_, _, ys, rfl, rfl, .inl (SqL.of (by rw [← strs_rep h2 e]; exact h1)), ho.1, post_v hp ho.2 (.str _)⟩
          · exact ho.elim
    · exact ho.elim
  · unfold omJoin at z ⊢
    split
    · split <;> simp_all
    · split at z <;> simp_all
theorem m_split : MtD X "str.split" omSplit := by
  refine ⟨fun pins s σ H x xs v us Q I rx rs ⟨p, own, dx, ds, k, hl, r1, rp, ho, hp⟩ => ?_, fun x ds k k' h z => ?_⟩
  · unfold omSplit at ho
    split at ho
    · cases rp with
      | cons r2 rp =>
        cases rp
        cases r1
        cases r2
        exact mt_split pins s σ H _ _ v us Q I rx rs ⟨_, _, rfl, rfl, ho.1, ho.2.1, post_l hp ho.2.2 (rep_strs _)⟩
    · exact ho.elim
  · unfold omSplit at z ⊢
    split <;> simp_all
theorem m_starts : MtD X "str.startswith" omStarts := by
  refine ⟨fun pins s σ H x xs v us Q I rx rs ⟨p, own, dx, ds, k, hl, r1, rp, ho, hp⟩ => ?_, fun x ds k k' h z => ?_⟩
  · unfold omStarts at ho
    split at ho
    · cases rp with
      | cons r2 rp =>
        cases rp
        cases r1
        cases r2
        exact mt_startswith pins s σ H _ _ v us Q I rx rs ⟨_, _, rfl, rfl, post_v hp ho (.bl _)⟩
    · exact ho.elim
  · unfold omStarts at z ⊢
    split <;> simp_all
theorem m_ends : MtD X "str.endswith" omEnds := by
  refine ⟨fun pins s σ H x xs v us Q I rx rs ⟨p, own, dx, ds, k, hl, r1, rp, ho, hp⟩ => ?_, fun x ds k k' h z => ?_⟩
  · unfold omEnds at ho
    split at ho
    · cases rp with
      | cons r2 rp =>
        cases rp
        cases r1
        cases r2
        exact mt_endswith pins s σ H _ _ v us Q I rx rs ⟨_, _, rfl, rfl, post_v hp ho (.bl _)⟩
    · exact ho.elim
  · unfold omEnds at z ⊢
    split <;> simp_all
end
/-! ### things of one's own that change -/
section
variable {K : PySem.W.Frag} {g : Gh} {H : Hp} {S : Sx} {σ : L2.St}
theorem EnvOk.mut {i : Nat} {t t' : T} {a : Addr} {o' : HO} (h : EnvOk K Z g H S σ) (e : S.ρ[i]? = some t) (ot : t.owned = true) (es : σ[i]? = some (some (.ref a))) (o2 : OwnO K g.p (bare g.own H) t' o') :
    EnvOk K Z g (upd H a o') (S.put i t') σ ∧ Step g H g (upd H a o') := by
  obtain ⟨u, e1, sl⟩ := h.slot i t e
  obtain ⟨b, e2, oa⟩ := sl.owned ot
  rw [es] at e1
  cases e1
  cases e2
  have ob := oa.own
  obtain ⟨oo1, eo, oo⟩ := oa.obj
  have eb : bare g.own (upd H a o') = bare g.own H := bare_upd ob
  have hi : i < S.ρ.length := (List.getElem?_eq_some_iff.mp e).1
  have kp : ∀ b ∈ g.prot, upd H a o' b = H b := fun b hb => upd_ne (fun z => oa.np (by rw [← z]; exact hb))
  refine ⟨⟨⟨h.gok.sub, h.gok.pin, h.gok.pnp, fun b hb => ?_, ?_, tabs_over eo oo.plain.1 oo.plain.2 h.gok.tabs, h.gok.b0, by rw [eb]; exact h.gok.b1, fun b hb => (kp b hb).trans (h.gok.b2 b hb), h.gok.b3⟩, h.hb, by show σ.length = (S.ρ.set i t').length; rw [List.length_set]; exact h.len, fun j tj z => ?_, fun j k tj tk b z1 z2 o1 o3 s1 s2 => ?_⟩, ⟨rfl, rfl, rfl, rfl, by rw [eb]; exact same_rf, kp⟩⟩
  · exact (h.gok.lv b hb).upd o2.notup
  · obtain ⟨x, y, c, e, r⟩ := h.gok.pot
    exact ⟨x, y, c, by rw [upd_ne (fun z => oa.nq (by rw [← z]; exact g.q.mem))]; exact e, r⟩
  · by_cases hj : j = i
    · subst hj
      have z' : (S.ρ.set j t')[j]? = some tj := z
      rw [List.getElem?_set_self hi] at z'
      cases z'
      exact ⟨_, es, slot_of ⟨ob, oa.np, oa.nq, oa.n0, o', upd_same, by rw [eb]; exact o2⟩⟩
    · have z' : (S.ρ.set i t')[j]? = some tj := z
      rw [List.getElem?_set_ne (Ne.symm hj)] at z'
      obtain ⟨u, f1, f2⟩ := h.slot j tj z'
      refine ⟨u, f1, ?_⟩
      have ow : ∀ {b : Addr}, tj.owned = true → u = some (.ref b) → OwnA K g H tj b → OwnA K g (upd H a o') tj b := fun {b} oj hu q => by
        obtain ⟨w, e2, e3⟩ := q.obj
        have hb : b ≠ a := fun y => hj (h.dist j i tj t a z' e oj ot (by rw [f1, hu, y]) es)
        exact ⟨q.own, q.np, q.nq, q.n0, w, by rw [upd_ne hb]; exact e2, by rw [eb]; exact e3⟩
      cases tj with
      | dead => exact trivial
      | d x => obtain ⟨v, e2, r⟩ := f2; exact ⟨v, e2, by rw [eb]; exact r⟩
      | l _ => obtain ⟨b, e2, r⟩ := f2; exact ⟨b, e2, ow rfl e2 r⟩
      | k _ => obtain ⟨b, e2, r⟩ := f2; exact ⟨b, e2, ow rfl e2 r⟩
      | t _ => obtain ⟨b, e2, r⟩ := f2; exact ⟨b, e2, ow rfl e2 r⟩
      | o _ _ => obtain ⟨b, e2, r⟩ := f2; exact ⟨b, e2, ow rfl e2 r⟩
  · have at_ : ∀ (j : Nat) (tj : T), (S.ρ.set i t')[j]? = some tj → ∃ t0, S.ρ[j]? = some t0 ∧ (tj.owned = true → t0.owned = true) := fun j tj z => by
      by_cases hj : j = i
      · subst hj; exact ⟨t, e, fun _ => ot⟩
      · rw [List.getElem?_set_ne (Ne.symm hj)] at z; exact ⟨tj, z, id⟩
    obtain ⟨t1, y1, p1⟩ := at_ j tj z1
    obtain ⟨t2, y2, p2⟩ := at_ k tk z2
    exact h.dist j k t1 t2 b y1 y2 (p1 o1) (p2 o3) s1 s2
end
/-- a method that changes its list or dict: the value, and what it is behind it -/
abbrev OU := T → List D → (D → T → Prop) → Prop
structure MuD (X : Cx) (id : String) (o : OU) : Prop where
  run : MtR X id fun x xs H Q => ∃ p B a t ob ds k, x = .ref a ∧ H a = some ob ∧ Same B H ∧ OwnO X.K p B t ob ∧ Reps X.K p B ds xs ∧ o t ds k ∧ ∀ d t', k d t' → ∀ v o', OwnO X.K p B t' o' → Rep X.K p B d v → Q v (upd H a o')
  mono : ∀ t ds (k k' : D → T → Prop), (∀ d t', k d t' → k' d t') → o t ds k → o t ds k'
/-- the kind of thing in a slot -/
def isTy (T : String) : DL.T → Prop
  | .l _ => T = "list"
  | .k _ => T = "dict"
  | .t _ => T = "dict"
  | _ => False
def atOwn (S : Sx) (i : Nat) (k : T → Prop) : Prop := match S.ρ[i]? with
  | some t => t.owned = true ∧ k t
  | none => False
theorem atOwn_mono {S : Sx} {i : Nat} {k k' : T → Prop} (h : ∀ t, k t → k' t) (z : atOwn S i k) : atOwn S i k' := by
  unfold atOwn at z ⊢
  cases e : S.ρ[i]? with
  | none => rw [e] at z; exact z
  | some t => rw [e] at z; exact ⟨z.1, h t z.2⟩
theorem atOwn_of {S : Sx} {i : Nat} {k : T → Prop} (z : atOwn S i k) : ∃ t, S.ρ[i]? = some t ∧ t.owned = true ∧ k t := by
  unfold atOwn at z
  cases e : S.ρ[i]? with
  | none => rw [e] at z; exact z.elim
  | some t => rw [e] at z; exact ⟨t, rfl, z⟩
def wMu (T : String) (o : OU) (i : Nat) (wa : WA) : WE := fun S Q => atOwn S i (isTy T) ∧ wa S fun rs S1 => gives S1 rs fun ds S2 => atOwn S2 i fun t => o t ds fun d t' => Q (.v d) (S2.put i t')
def wMu0 (T : String) (o : OU) (i : Nat) : WE := fun S Q => atOwn S i fun t => isTy T t ∧ o t [] fun d t' => Q (.v d) (S.put i t')
section
variable {X : Cx} {x name : Str} {p apos cpos : Pos} {e : Expr} {es : List Expr} {T id : String} {o : OU} {i : Nat} {wa : WA}
theorem tyV_of {g : Gh} {H : Hp} {t : DL.T} {a : Addr} (oa : OwnA X.K g H t a) (ht : isTy T t) : tyV X.K T (.ref a) H := by
  obtain ⟨ob, e, q⟩ := oa.obj
  cases t with
  | l ds => obtain ⟨vs, rfl, r⟩ := q; cases (show T = "list" from ht); exact .inl ⟨rfl, _, SqL.of e⟩
  | k ds => obtain ⟨vs, rfl, r⟩ := q; cases (show T = "dict" from ht); exact .inr (.inr (.inl ⟨rfl, .inl ⟨_, e⟩⟩))
  | t ds => obtain ⟨vs, rfl, r⟩ := q; cases (show T = "dict" from ht); exact .inr (.inr (.inl ⟨rfl, .inr ⟨_, e⟩⟩))
  | _ => exact ht.elim
theorem de_mu (pa : PlainAttrs T) (slot : PySem.Slot T name id) (hty : typeOf (.builtin id) = pure (.type "method_descriptor")) (hm : MuD X id o) (ha : DA X Z (e :: es) wa)
    (hN : X.N[i]? = some x := by rfl) (hv : Vis X.env.scope x := by first | exact Or.inl rfl | exact Or.inr (Or.inl rfl) | exact Or.inr (Or.inr rfl)) (hd : (x == ("__debug__" : Str)) = false := by decide) (hcd : (x == ("__classdict__" : Str)) = false := by decide)
    (hbase : attributeBase (.Name x p) name X.env (eval (.Name x p) X.env) = eval (.Name x p) X.env := by rfl)
    (hfew : ((backTo cpos (starEach (e :: es) X.env)).all (fun x => !x.1) && (backToKw cpos (keywordEach [] X.env)).all (fun x => x.1.isSome)
      && decide ((e :: es).length + ([] : List Keyword).length + (if ([] : List Keyword).isEmpty then 0 else 1) < 30)) = true := by rfl)
    (hline : (apos.endLine == cpos.line) = true := by rfl) (hs : starEach (e :: es) X.env = (false, eval e X.env) :: starEach es X.env := by rfl) (hplain : (backTo cpos (starEach es X.env)).any (·.1) = false := by rfl) :
    DE X Z (.Call (.Attribute (.Name x p) name apos) (e :: es) [] cpos) (wMu T o i wa) := by
  refine ⟨⟨fun pins s σ H Q I q => (pe_bm pa slot hty hm.run (pe_var hN hv hd hcd) (pa_give ha) hbase hfew hline hs hplain).run pins s σ H Q I ?_⟩, fun S Q Q' k z => ⟨z.1, ha.mono S _ _ (fun rs S1 => gives_mono fun ds S2 => atOwn_mono fun t => hm.mono t ds _ _ fun d t' => k _ _) z.2⟩⟩
  obtain ⟨g, S, ok, z1, q⟩ := q
  obtain ⟨t, e1, o1, k1⟩ := atOwn_of z1
  obtain ⟨u, e2, sl⟩ := ok.slot i t e1
  obtain ⟨a, rfl, oa⟩ := sl.owned o1
  refine ⟨.ref a, e2, tyV_of oa k1, g, S, ok, wGive_mono ha.mono S _ _ (fun ds S2 z g2 vs H2 ok2 r2 st2 => ?_) q⟩
  obtain ⟨t2, e3, o2, z⟩ := atOwn_of z
  obtain ⟨u, e4, sl2⟩ := ok2.slot i t2 e3
  obtain ⟨b, rfl, oa2⟩ := sl2.owned o2
  rw [e2] at e4
  cases e4
  obtain ⟨ob, h1, h2⟩ := oa2.obj
  refine ⟨g2.p, bare g2.own H2, a, t2, ob, ds, _, rfl, h1, bare_sub, h2, r2, z, fun d t' hk v o' ho' rv => ?_⟩
  obtain ⟨ok3, st3⟩ := ok2.mut (t' := t') e3 o2 e2 ho'
  refine hk g2 v _ ok3 ?_ (st2.tr st3)
  show Rep X.K g2.p (bare g2.own (upd H2 a o')) d v
  rw [bare_upd oa2.own]
  exact rv
theorem de_mu0 (pa : PlainAttrs T) (slot : PySem.Slot T name id) (hty : typeOf (.builtin id) = pure (.type "method_descriptor")) (hm : MuD X id o)
    (hN : X.N[i]? = some x := by rfl) (hv : Vis X.env.scope x := by first | exact Or.inl rfl | exact Or.inr (Or.inl rfl) | exact Or.inr (Or.inr rfl)) (hd : (x == ("__debug__" : Str)) = false := by decide) (hcd : (x == ("__classdict__" : Str)) = false := by decide)
    (hbase : attributeBase (.Name x p) name X.env (eval (.Name x p) X.env) = eval (.Name x p) X.env := by rfl) (hline : (apos.endLine == cpos.line) = true := by rfl) :
    DE X Z (.Call (.Attribute (.Name x p) name apos) [] [] cpos) (wMu0 T o i) := by
  refine ⟨⟨fun pins s σ H Q I q => (pe_bm0 pa slot hty hm.run (pe_var hN hv hd hcd) hbase hline).run pins s σ H Q I ?_⟩, fun S Q Q' k => atOwn_mono fun t z => ⟨z.1, hm.mono t [] _ _ (fun d t' => k _ _) z.2⟩⟩
  obtain ⟨g, S, ok, z1⟩ := q
  obtain ⟨t, e1, o1, k1, z⟩ := atOwn_of z1
  obtain ⟨u, e2, sl⟩ := ok.slot i t e1
  obtain ⟨a, rfl, oa⟩ := sl.owned o1
  obtain ⟨ob, h1, h2⟩ := oa.obj
  refine ⟨.ref a, e2, tyV_of oa k1, g.p, bare g.own H, a, t, ob, [], _, rfl, h1, bare_sub, h2, .nil, z, fun d t' hk v o' ho' rv => ?_⟩
  obtain ⟨ok3, st3⟩ := ok.mut (t' := t') e1 o1 e2 ho'
  refine hk g v _ ok3 ?_ st3
  show Rep X.K g.p (bare g.own (upd H a o')) d v
  rw [bare_upd oa.own]
  exact rv
def ouAppend : OU
  | .l xs, [d], k => xs.length < sizeLine ∧ k .non (.l (xs ++ [d]))
  | _, _, _ => False
def ouExtend : OU
  | .l xs, [.lst ys], k => xs.length + ys.length ≤ sizeLine ∧ k .non (.l (xs ++ ys))
  | _, _, _ => False
def ouPopAt : OU
  | .l xs, [.int i], k => (-(2 ^ 63) ≤ i ∧ i < 2 ^ 63) ∧ match seqIndex? i xs.length with
    | some j => match xs[j]? with
      | some d => k d (.l (xs.eraseIdx j))
      | none => False
    | none => False
  | _, _, _ => False
def ouPop : OU
  | .l xs, [], k => match xs[xs.length - 1]? with
    | some d => k d (.l xs.dropLast)
    | none => False
  | _, _, _ => False
theorem u_append : MuD X "list.append" ouAppend := by
  refine ⟨fun pins s σ H x xs v us Q I rx rs ⟨p, B, a, t, ob, ds, k, ex, h1, sb, h2, r, ho, hp⟩ => ?_, fun x ds k k' h z => ?_⟩
  · unfold ouAppend at ho
    split at ho
    · cases r with
      | cons r1 r =>
        cases r
        obtain ⟨vs, rfl, q⟩ := h2
        exact mt_append pins s σ H _ _ v us Q I rx rs ⟨a, vs, _, ex, rfl, h1, by rw [← q.len]; exact ho.1, hp _ _ ho.2 _ _ ⟨_, rfl, q.append (.cons r1 .nil)⟩ .non⟩
    · exact ho.elim
  · unfold ouAppend at z ⊢
    split <;> simp_all
theorem u_extend : MuD X "list.extend" ouExtend := by
  refine ⟨fun pins s σ H x xs v us Q I rx rs ⟨p, B, a, t, ob, ds, k, ex, h1, sb, h2, r, ho, hp⟩ => ?_, fun x ds k k' h z => ?_⟩
  · unfold ouExtend at ho
    split at ho
    · cases r with
      | cons r1 r =>
        cases r
        cases r1 with
        | lst e1 e2 =>
          obtain ⟨vs, rfl, q⟩ := h2
          exact mt_extend pins s σ H _ _ v us Q I rx rs ⟨a, _, vs, _, ex, rfl, h1, sb _ _ e1, by rw [← q.len, ← e2.len]; exact ho.1, hp _ _ ho.2 _ _ ⟨_, rfl, q.append e2⟩ .non⟩
    · exact ho.elim
  · unfold ouExtend at z ⊢
    split <;> simp_all
theorem u_popAt : MuD X "list.pop" ouPopAt := by
  refine ⟨fun pins s σ H x xs v us Q I rx rs ⟨p, B, a, t, ob, ds, k, ex, h1, sb, h2, r, ho, hp⟩ => ?_, fun x ds k k' h z => ?_⟩
  · unfold ouPopAt at ho
    split at ho
    · obtain ⟨hb, ho⟩ := ho
      cases r with
      | cons r1 r =>
        cases r
        cases r1
        obtain ⟨vs, rfl, q⟩ := h2
        split at ho
        · next j e =>
          split at ho
          · next d e2 =>
            obtain ⟨w, e3, rw3⟩ := q.get e2
            exact mt_popAt pins s σ H _ _ v us Q I rx rs ⟨a, vs, _, j, w, ex, rfl, h1, hb.1, hb.2, by rw [← q.len]; exact e, e3, hp _ _ ho _ _ ⟨_, rfl, q.eraseIdx j⟩ rw3⟩
          · exact ho.elim
        · exact ho.elim
    · exact ho.elim
  · unfold ouPopAt at z ⊢
    split
    · refine ⟨z.1, ?_⟩
      have z2 := z.2
      split
      · next e =>
        rw [e] at z2
        dsimp only at z2
        split
        · next e2 => rw [e2] at z2; exact h _ _ z2
        · next e2 => rw [e2] at z2; exact z2
      · next e => rw [e] at z2; exact z2
    · split at z <;> simp_all
theorem Reps.dropLast {K : PySem.W.Frag} {p : Addr} {B : Hp} {ds : List D} {vs : List V} (r : Reps K p B ds vs) : Reps K p B ds.dropLast vs.dropLast := by
  rw [List.dropLast_eq_take, List.dropLast_eq_take, r.len]
  exact r.take _
theorem u_pop : MuD X "list.pop" ouPop := by
  refine ⟨fun pins s σ H x xs v us Q I rx rs ⟨p, B, a, t, ob, ds, k, ex, h1, sb, h2, r, ho, hp⟩ => ?_, fun x ds k k' h z => ?_⟩
  · unfold ouPop at ho
    split at ho
    · cases r
      obtain ⟨vs, rfl, q⟩ := h2
      split at ho
      · next d e2 =>
        obtain ⟨w, e3, rw3⟩ := q.get e2
        exact mt_pop pins s σ H _ _ v us Q I rx rs ⟨a, vs, w, ex, rfl, h1, by rw [← q.len]; exact e3, hp _ _ ho _ _ ⟨_, rfl, q.dropLast⟩ rw3⟩
      · exact ho.elim
    · exact ho.elim
  · unfold ouPop at z ⊢
    split
    · split <;> simp_all
    · split at z <;> simp_all
end
end DL
end
section
set_option Elab.async false
set_option linter.all false
set_option maxRecDepth 100000
set_option maxHeartbeats 400000
namespace DL
open PySem L2 PyProof.Rows
variable {Z : Bs}
/-! ### dicts -/
def putD {κ : Type} [DecidableEq κ] (kvs : List (κ × D)) (k : κ) (v : D) : List (κ × D) :=
  if (kvs.any fun kv => decide (kv.1 = k)) = true then kvs.map (fun kv => if kv.1 = k then (kv.1, v) else kv) else kvs ++ [(k, v)]
def mergeD (kvs more : List (Key × D)) : List (Key × D) := more.foldl (fun acc kv => putD acc kv.1 kv.2) kvs
section
variable {κ : Type} [DecidableEq κ] {K : PySem.W.Frag} {p : Addr} {B : Hp}
/-- the keys are the same, the values as told -/
def KReps (K : PySem.W.Frag) (p : Addr) (B : Hp) (kds : List (κ × D)) (kvs : List (κ × V)) : Prop := Paired (fun (x : κ × D) (y : κ × V) => x.1 = y.1 ∧ Rep K p B x.2 y.2) kds kvs
theorem kreps_of : ∀ {kds : List (κ × D)} {kvs : List (κ × V)}, kvs.map (·.1) = kds.map (·.1) → Reps K p B (kds.map (·.2)) (kvs.map (·.2)) → KReps K p B kds kvs
  | [], [], _, _ => .nil
  | [], _ :: _, e, _ => by cases e
  | _ :: _, [], e, _ => by cases e
  | x :: kds, y :: kvs, e, r => by
    simp only [List.map_cons, List.cons.injEq] at e
    cases r with
    | cons r1 rs => exact .cons ⟨e.1.symm, r1⟩ (kreps_of e.2 rs)
theorem KReps.keys : ∀ {kds : List (κ × D)} {kvs : List (κ × V)}, KReps K p B kds kvs → kvs.map (·.1) = kds.map (·.1)
  | _, _, .nil => rfl
  | _, _, .cons h t => by rw [List.map_cons, List.map_cons, h.1, KReps.keys t]
theorem KReps.vals : ∀ {kds : List (κ × D)} {kvs : List (κ × V)}, KReps K p B kds kvs → Reps K p B (kds.map (·.2)) (kvs.map (·.2))
  | _, _, .nil => .nil
  | _, _, .cons h t => .cons h.2 (KReps.vals t)
theorem KReps.any {k : κ} : ∀ {kds : List (κ × D)} {kvs : List (κ × V)}, KReps K p B kds kvs → (kds.any fun kv => decide (kv.1 = k)) = kvs.any fun kv => decide (kv.1 = k)
  | _, _, .nil => rfl
  | _, _, .cons h t => by rw [List.any_cons, List.any_cons, h.1, KReps.any t]
theorem KReps.repl {k : κ} {d : D} {v : V} (r : Rep K p B d v) : ∀ {kds : List (κ × D)} {kvs : List (κ × V)}, KReps K p B kds kvs → KReps K p B (kds.map fun kv => if kv.1 = k then (kv.1, d) else kv) (kvs.map fun kv => if kv.1 = k then (kv.1, v) else kv)
  | _, _, .nil => .nil
  | _, _, .cons (a := x) (b := y) h t => by
    refine .cons ?_ (KReps.repl r t)
    dsimp only
    by_cases e : x.1 = k
    · rw [if_pos e, if_pos (by rw [← h.1]; exact e)]
      exact ⟨h.1, r⟩
    · rw [if_neg e, if_neg (by rw [← h.1]; exact e)]
      exact h
theorem KReps.snoc {k : κ} {d : D} {v : V} (r : Rep K p B d v) : ∀ {kds : List (κ × D)} {kvs : List (κ × V)}, KReps K p B kds kvs → KReps K p B (kds ++ [(k, d)]) (kvs ++ [(k, v)])
  | _, _, .nil => .cons ⟨rfl, r⟩ .nil
  | _, _, .cons h t => .cons h (KReps.snoc r t)
theorem KReps.put {k : κ} {d : D} {v : V} (r : Rep K p B d v) {kds : List (κ × D)} {kvs : List (κ × V)} (h : KReps K p B kds kvs) : KReps K p B (putD kds k d) (putK kvs k v) := by
  unfold putD putK
  rw [h.any]
  by_cases e : (kvs.any fun kv => decide (kv.1 = k)) = true
  · rw [if_pos e, if_pos e]; exact h.repl r
  · rw [if_neg e, if_neg e]; exact h.snoc r
theorem KReps.len {kds : List (κ × D)} {kvs : List (κ × V)} (h : KReps K p B kds kvs) : kds.length = kvs.length := Paired.length h
end
theorem KReps.merge {K : PySem.W.Frag} {p : Addr} {B : Hp} : ∀ {more : List (Key × D)} {rs : List (Key × V)} {kds : List (Key × D)} {kvs : List (Key × V)}, KReps K p B more rs → KReps K p B kds kvs → KReps K p B (mergeD kds more) (mergeK kvs rs)
  | _, _, _, _, .nil, h => h
  | _, _, _, _, .cons (a := x) (b := y) h1 t, h => by
    show KReps K p B (mergeD (putD _ x.1 x.2) _) (mergeK (putK _ y.1 y.2) _)
    refine KReps.merge t ?_
    rw [← h1.1]
    exact h.put h1.2
section
variable {X : Cx}
/-- {} -/
def wDNew : WE := fun S Q => Q (.n (.k [])) S
theorem de_dnew {pos : Pos} : DE X Z (.Dict [] [] pos) wDNew := by
  refine ⟨⟨fun pins s σ H Q I q => pe_dnewK.run pins s σ H Q I ?_⟩, fun S Q Q' k => k _ _⟩
  obtain ⟨g, S, ok, q⟩ := q
  intro p hp
  obtain ⟨e1, e2, e3⟩ := ok.new (t := .k []) hp ⟨[], rfl, rfl, .nil⟩
  exact q _ _ _ e1 e2 e3
/-- dict(a list of pairs), dict(a dict) -/
def pairsD : List D → Option (List (Key × D))
  | [] => some []
  | .tup [k, v] :: ds => match keyOf k, pairsD ds with
    | some k, some r => some ((k, v) :: r)
    | _, _ => none
  | _ :: _ => none
def oDict : OL
  | [.lst xs], k => match pairsD xs with
    | some kvs => k (.n (.k (mergeD [] kvs)))
    | none => False
  | [.dk kvs], k => k (.n (.k kvs))
  | _, _ => False
theorem pairs_rep {K : PySem.W.Frag} {p : Addr} {B : Hp} : ∀ {ds : List D} {vs : List V} {kds : List (Key × D)}, Reps K p B ds vs → pairsD ds = some kds → ∃ (ps : List Addr) (kvs : List (Key × V)), vs = ps.map V.ref ∧ Paired (fun q kv => SqT K B q [kV kv.1, kv.2]) ps kvs ∧ KReps K p B kds kvs
  | _, _, _, .nil, e => by cases e; exact ⟨[], [], rfl, .nil, .nil⟩
  | _, _, _, .cons (d := d) (ds := ds) h1 h2, e => by
    unfold pairsD at e
    split at e
    · next heq => cases heq
    · next x y ds' heq =>
      cases heq
      cases e1 : keyOf x with
      | none => rw [e1] at e; cases e
      | some kk =>
        cases e2 : pairsD ds with
        | none => rw [e1, e2] at e; cases e
        | some r =>
          rw [e1, e2] at e
          cases e
          obtain ⟨ps, kvs, rfl, h3, h4⟩ := pairs_rep h2 e2
          cases h1 with
          | tup s1 s2 =>
            cases s2 with
            | cons a1 s2 => cases s2 with
              | cons a2 s2 =>
                cases s2
                have := key_rep (a1.top same_rf) e1
                subst this
                exact ⟨_ :: ps, (kk, _) :: kvs, rfl, .cons s1 h3, .cons ⟨rfl, a2⟩ h4⟩
    · cases e
theorem d_dict (hc : X.calm = true) : CallD X (.type "dict") oDict := by
  refine ⟨fun pins s σ H xs us Q I r ⟨p, own, ds, k, hl, rp, ho, hp⟩ => ?_, fun ds k k' h z => ?_⟩
  · unfold oDict at ho
    split at ho
    · cases rp with
      | cons r1 rp =>
        cases rp
        cases r1 with
        | lst h1 h2 =>
          split at ho
          · next kvs e =>
            obtain ⟨ps, kvV, rfl, h3, h4⟩ := pairs_rep h2 e
            have h5 := KReps.merge h4 (kds := []) (kvs := []) .nil
            exact call_dictP hc pins s σ H _ us Q I r ⟨_, ps, kvV, rfl, SqL.of h1, Paired.mapP h3 fun _ _ z => sqT_same bare_sub z, fun a hn => hp _ ho a _ H same_rf hn ⟨_, rfl, h5.keys, h5.vals⟩⟩
          · exact ho.elim
    · cases rp with
      | cons r1 rp =>
        cases rp
        cases r1 with
        | dk h1 h2 h3 =>
          obtain ⟨u, rfl, ru⟩ := vals1 r
          cases ru
          exact d_copyOf I h1 fun a s' hn I' => ⟨.ref a, _, I', rfl, hp _ ho a _ H same_rf hn ⟨_, rfl, h2, h3⟩⟩
    · exact ho.elim
  · unfold oDict at z ⊢
    split
    · split <;> simp_all
    · simp_all
    · split at z <;> simp_all
/-! ### d[k] = v, xs[i] = v, the thing in a slot -/
def stD (t : T) (i d : D) (k : T → Prop) : Prop := match t with
  | .l xs => match i with
    | .int n => match ixN xs.length n with
      | some j => k (.l (xs.set j d))
      | none => False
    | _ => False
  | .k kvs => match keyOf i with
    | some key => kvs.length < sizeLine ∧ k (.k (putD kvs key d))
    | none => False
  | _ => False
theorem stD_mono {t : T} {i d : D} {k k' : T → Prop} (h : ∀ t, k t → k' t) (z : stD t i d k) : stD t i d k' := by
  cases t with
  | l xs =>
    cases i with
    | int n =>
      unfold stD at z ⊢
      dsimp only at z ⊢
      cases e : ixN xs.length n with
      | none => rw [e] at z; exact z
      | some j => rw [e] at z; exact h _ z
    | _ => exact z
  | k kvs =>
    unfold stD at z ⊢
    dsimp only at z ⊢
    cases e : keyOf i with
    | none => rw [e] at z; exact z
    | some j => rw [e] at z; exact ⟨z.1, h _ z.2⟩
  | _ => exact z
theorem set_any (hu : X.A.units + 1 < cLine) : PSet X (fun o i v H Q => rSetL o i v H Q ∨ rSetD o i v H Q) := fun pins s σ H o i v ov iv u Q I r1 r2 r3 h => by
  rcases h with h | h
  · exact set_list pins s σ H o i v ov iv u Q I r1 r2 r3 h
  · exact set_dict hu pins s σ H o i v ov iv u Q I r1 r2 r3 h
/-- name[i] = .. -/
def gSubD (j : Nat) (wi : WE) : WG := fun d S k => atOwn S j (fun _ => True) ∧ wi S fun r S1 => use S1 r fun i => atOwn S1 j fun t => stD t i d fun t' => k (S1.put j t')
theorem dg_sub {i : Expr} {x : Str} {j : Nat} {wi : WE} {px pos : Pos} (hi : DE X Z i wi) (hu : X.A.units + 1 < cLine) (hN : X.N[j]? = some x := by rfl) (hv : Vis X.env.scope x := by first | exact Or.inl rfl | exact Or.inr (Or.inl rfl) | exact Or.inr (Or.inr rfl)) (hd : (x == ("__debug__" : Str)) = false := by decide) (hcd : (x == ("__classdict__" : Str)) = false := by decide)
    (ha : ∀ v, assign (.Subscript (.Name x px) i pos) X.env v = (do
      let ov ← holding [v] (eval (.Name x px) X.env)
      let iv ← holding [v, ov] (eval i X.env)
      standAt pos
      holding [v, ov, iv] (setItem ov iv v)
      release [v, ov, iv] []) := by intro _; rfl) : DG X Z (.Subscript (.Name x px) i pos) (gSubD j wi) [] := by
  refine ⟨PG.imp (pg_sub (pe_var hN hv hd hcd) hi.pe (set_any hu) ha) fun v σ H Q ⟨g, S, d, ok, r, q⟩ => ?_, fun d S Q Q' k z => ⟨z.1, hi.mono S _ _ (fun r S1 => use_mono fun i => atOwn_mono fun t => stD_mono fun t' => k _) z.2⟩⟩
  obtain ⟨t0, f1, f2, _⟩ := atOwn_of q.1
  obtain ⟨u, f3, sl0⟩ := ok.slot j t0 f1
  obtain ⟨a, rfl, _⟩ := sl0.owned f2
  refine ⟨.ref a, f3, g, S, ok, hi.mono S _ _ (fun rr S1 z g1 iv H1 ok1 rv1 st1 => ?_) q.2⟩
  obtain ⟨i, e1, z⟩ := use_of z
  obtain ⟨t, e2, o2, z⟩ := atOwn_of z
  obtain ⟨u, e3, sl⟩ := ok1.slot j t e2
  obtain ⟨b, rfl, oa⟩ := sl.owned o2
  rw [f3] at e3
  cases e3
  obtain ⟨ob, h1, h2⟩ := oa.obj
  have ri := deref_rep ok1 rv1 e1
  have rd : Rep X.K g1.p (bare g1.own H1) d v := by rw [st1.p]; exact r.mono st1.same
  cases t with
  | l xs =>
    obtain ⟨vs, rfl, qv⟩ := h2
    cases ri with
    | int n =>
      unfold stD at z
      dsimp only at z
      cases e5 : ixN xs.length n with
      | none => rw [e5] at z; exact z.elim
      | some jj =>
        rw [e5] at z
        obtain ⟨ok3, st3⟩ := ok1.mut (t' := .l (xs.set jj d)) e2 o2 f3 ⟨_, rfl, qv.set jj rd⟩
        exact .inl ⟨a, vs, n, jj, rfl, rfl, h1, by rw [← qv.len]; exact e5, z g1 σ _ ok3 Kept.rf (st1.tr st3)⟩
    | _ => exact z.elim
  | k kvs =>
    obtain ⟨kvV, rfl, k1, k2⟩ := h2
    unfold stD at z
    dsimp only at z
    cases e5 : keyOf i with
    | none => rw [e5] at z; exact z.elim
    | some key =>
      rw [e5] at z
      have := key_rep ri e5
      subst this
      have kr := (kreps_of k1 k2).put (k := key) rd
      obtain ⟨ok3, st3⟩ := ok1.mut (t' := .k (putD kvs key d)) e2 o2 f3 ⟨_, rfl, kr.keys, kr.vals⟩
      refine .inr ⟨a, _, rfl, DPut.k h1 ?_, z.2 g1 σ _ ok3 Kept.rf (st1.tr st3)⟩
      rw [← (kreps_of k1 k2).len]
      exact z.1
  | _ => exact z.elim
/-! ### d.update(a dict) -/
def ouUpdate : OU
  | .k kvs, [.dk more], k => kvs.length + more.length ≤ sizeLine ∧ k .non (.k (mergeD kvs more))
  | _, _, _ => False
theorem u_update : MuD X "dict.update" ouUpdate := by
  refine ⟨fun pins s σ H x xs v us Q I rx rs ⟨p, B, a, t, ob, ds, k, ex, h1, sb, h2, r, ho, hp⟩ => ?_, fun x ds k k' h z => ?_⟩
  · unfold ouUpdate at ho
    split at ho
    · cases r with
      | cons r1 r =>
        cases r
        cases r1 with
        | @dk _ _ _ kvR e1 e2 e3 =>
          obtain ⟨kvV, rfl, k1, k2⟩ := h2
          subst ex
          cases rx
          obtain ⟨u, rfl, ru⟩ := vals1 rs
          cases ru
          have hb := sb _ _ e1
          have hne : a ≠ _ := ne_of h1 hb (by intro z; cases z)
          obtain ⟨z1, hd1, vs1, r1, dd1⟩ := dk_of I.hok h1
          obtain ⟨z2, hd2, vs2, r2, dd2⟩ := dk_rd I.hok (.inr ⟨_, hb⟩)
          have kr := kreps_of k1 k2
          have kr2 := kreps_of e2 e3
          have km := KReps.merge kr2 kr
          refine call_meetsIn PySem.F.slot_dict_update dd1.typeIs PySem.F.entry_dict_update (PySem.F.args_dict_update_2 _ _) (meets_dict_update (mixKind X.prog X.w) a _ hne hd2) ⟨vs1, vs2, dd1, dd2, ?_, fun h' dm _ hs => ?_⟩
          · rw [← r1.length, ← r2.length, ← kr.len, ← kr2.len]
            exact ho.1
          · have hz : (mergeK kvV kvR).length ≤ sizeLine := Nat.le_trans (length_mergeK _ _) (by rw [← kr.len, ← kr2.len]; exact ho.1)
            refine ⟨.non, _, d_write (t' := s.toks) I (by rw [h1]; exact True.intro) hs ?_ (dk_new hz hd1 (r2.merge r1) dm), rfl, hp _ _ ho.2 _ _ ⟨_, rfl, km.keys, km.vals⟩ .non⟩
            exact let ⟨q, _, _, hq, _⟩ := dm; ⟨q, hq⟩
    · exact ho.elim
  · unfold ouUpdate at z ⊢
    split <;> simp_all
end
end DL
end
section
set_option Elab.async false
set_option linter.all false
set_option maxRecDepth 100000
set_option maxHeartbeats 400000
namespace DL
open PySem L2 PyProof.Rows
variable {Z : Bs}
/-! ### a new thing is kept apart while other things are made -/
def ZUp (Z : Bs) : Prop := ∀ q own H a o, Z q own H → H a = none → a ∉ own → a ∉ q.gl → Z q (a :: own) (upd H a o)
theorem zup_T : ZUp ZT := fun _ _ _ _ _ _ _ _ _ => trivial
theorem zup_ex {K : PySem.W.Frag} {ex : KX} {E : XK} : ZUp (ExZ K ex E) := fun p own H a o h hn ha hp C d n hx v dx H' he r af => by
  have s : Same (bare (a :: own) H') (bare own H') := bare_less fun b hb => List.mem_cons_of_mem _ hb
  refine h C d n hx v dx H' he (r.mono s) ⟨fun b u e => s b u (af.same b u ?_), fun b hb hne => ?_, af.pot, af.tabs⟩
  · have hb : b ∉ own := fun z => by rw [bare_in z] at e; cases e
    rw [bare_ne hb] at e
    have hba : b ≠ a := ne_of_none e hn
    rw [bare_ne (by simp [hba, hb]), upd_ne hba]
    exact e
  · rw [af.keep b (List.mem_cons_of_mem _ hb) hne, upd_ne (fun z => ha (by rw [← z]; exact hb))]
section
variable {K : PySem.W.Frag} {g g1 : Gh} {H H1 : Hp} {S S1 : Sx} {σ : L2.St} {a : Addr} {o : HO} {t : T}
def Gh.keepIt (g : Gh) (a : Addr) (o : HO) : Gh := { g with prot := a :: g.prot, own0 := a :: g.own0, H0 := upd g.H0 a o }
theorem out_own {n : Nat} (h : GOk g H n) (oa : OwnA K g H t a) : Out g a := by
  refine ⟨oa.np, oa.n0, oa.nq, ?_⟩
  cases e : g.H0 a with
  | none => rfl
  | some u =>
    have := h.b1 a u (by rw [bare_ne oa.n0]; exact e)
    rw [bare_in oa.own] at this
    cases this
theorem EnvOk.protect (hz : ZUp Z) (h : EnvOk K Z g H S σ) (oa : OwnA K g H t a) (ns : ∀ (i : Nat) (ti : T), S.ρ[i]? = some ti → ti.owned = true → σ[i]? ≠ some (some (V.ref a))) (e : H a = some o) : EnvOk K Z (g.keepIt a o) H S σ ∧ In g a o (g.keepIt a o) := by
  have ou := out_own h.gok oa
  refine ⟨⟨⟨fun b hb => ?_, h.gok.pin, fun c hc z => ?_, h.gok.lv, h.gok.pot, h.gok.tabs, fun b hb => ?_, fun b u e1 => ?_, fun b hb => ?_, fun b hb => ?_⟩, hz _ _ _ _ _ h.hb ou.hn ou.n0 ou.nq, h.len, fun i ti q => ?_, h.dist⟩, rfl, rfl, rfl, rfl⟩
  · rcases List.mem_cons.mp hb with z | z
    · rw [z]; exact oa.own
    · exact h.gok.sub b z
  · rcases List.mem_cons.mp z with y | y
    · exact oa.nq (by rw [← y]; exact hc)
    · exact h.gok.pnp c hc y
  · rcases List.mem_cons.mp hb with z | z
    · rw [z]; exact oa.own
    · exact h.gok.b0 b z
  · have hb : b ∉ (g.keepIt a o).own0 := fun z => by rw [bare_in z] at e1; cases e1
    rw [bare_ne hb] at e1
    have hba : b ≠ a := fun z => hb (by rw [z]; exact List.mem_cons_self ..)
    have hb0 : b ∉ g.own0 := fun z => hb (List.mem_cons_of_mem _ z)
    have e2 : upd g.H0 a o b = some u := e1
    rw [upd_ne hba] at e2
    exact h.gok.b1 b u (by rw [bare_ne hb0]; exact e2)
  · show H b = upd g.H0 a o b
    by_cases z : b = a
    · rw [z, upd_same]; exact e
    · rw [upd_ne z]
      rcases List.mem_cons.mp hb with y | y
      · exact absurd y z
      · exact h.gok.b2 b y
  · rcases List.mem_cons.mp hb with z | z
    · rw [z]; exact .inr (List.mem_cons_self ..)
    · exact (h.gok.b3 b z).imp id (List.mem_cons_of_mem _)
  · obtain ⟨u, e1, sl⟩ := h.slot i ti q
    refine ⟨u, e1, ?_⟩
    have ow : ∀ {b : Addr}, ti.owned = true → u = some (.ref b) → OwnA K g H ti b → OwnA K (g.keepIt a o) H ti b := fun {b} ot hu q2 => by
      have hb : b ≠ a := fun y => ns i ti q ot (by rw [e1, hu, y])
      refine ⟨q2.own, fun z => ?_, q2.nq, fun z => ?_, q2.obj⟩
      · rcases List.mem_cons.mp z with y | y
        · exact hb y
        · exact q2.np y
      · rcases List.mem_cons.mp z with y | y
        · exact hb y
        · exact q2.n0 y
    cases ti with
    | dead => exact trivial
    | d x => exact sl
    | l _ => obtain ⟨b, e2, r⟩ := sl; exact ⟨b, e2, ow rfl e2 r⟩
    | k _ => obtain ⟨b, e2, r⟩ := sl; exact ⟨b, e2, ow rfl e2 r⟩
    | t _ => obtain ⟨b, e2, r⟩ := sl; exact ⟨b, e2, ow rfl e2 r⟩
    | o _ _ => obtain ⟨b, e2, r⟩ := sl; exact ⟨b, e2, ow rfl e2 r⟩
/-- .. and is as it was behind them; what was made last may be new, too -/
theorem EnvOk.unprotect {g2 : Gh} {H2 : Hp} {S2 : Sx} {r2 : Vl} {v2 : V} (h : EnvOk K Z g H S σ) (oa : OwnA K g H t a) (e : H a = some o) (ot : OwnO K g.p (bare g.own H) t o) (st : Step (g.keepIt a o) H g2 H2) (h2 : EnvOk K Z g2 H2 S2 σ) (rv2 : RepV K g2 H2 S2 σ r2 v2) :
    EnvOk K Z (g.leave g2) H2 S2 σ ∧ RepV K (g.leave g2) H2 S2 σ (.n t) (.ref a) ∧ RepV K (g.leave g2) H2 S2 σ r2 v2 ∧ Step g H (g.leave g2) H2 ∧ (∀ t2, r2 = .n t2 → v2 ≠ .ref a) := by
  have ou := out_own h.gok oa
  have i2 : In g a o g2 := ⟨st.q, st.prot, st.own0, st.H0⟩
  have hp : a ∈ g2.prot := by rw [i2.prot]; exact List.mem_cons_self ..
  have e2 : H2 a = some o := (st.keep a (List.mem_cons_self ..)).trans e
  obtain ⟨ok, rv⟩ := EnvOk.leave (Z := Z) h.hb h.gok.b3 h2 i2 ou e2 (by rw [i2.p]; exact ot.mono st.same)
  refine ⟨ok, rv, ?_, ⟨i2.q, rfl, rfl, rfl, st.same, fun b hb => st.keep b (List.mem_cons_of_mem _ hb)⟩, fun t2 er ev => ?_⟩
  · cases r2 with
    | v d => exact rv2
    | s i => exact rv2
    | n t2 =>
      obtain ⟨b, rfl, oa2, ns2⟩ := rv2
      exact ⟨b, rfl, ⟨oa2.own, fun z => oa2.np (by rw [i2.prot]; exact List.mem_cons_of_mem _ z), oa2.nq, fun z => oa2.n0 (by rw [i2.own0]; exact List.mem_cons_of_mem _ z), oa2.obj⟩, ns2⟩
  · subst er
    obtain ⟨b, rfl, oa2, _⟩ := rv2
    cases ev
    exact oa2.np hp
end
/-! ### several names at once -/
def wFix (w : WE) : WE := fun S Q => w S fun r S1 => match r with
  | .s i => give S1 (.s i) fun d S2 => Q (.v d) S2
  | r => Q r S1
theorem wFix_mono {w : WE} (h : MonoE w) : MonoE (wFix w) := fun S Q Q' k => h S _ _ fun r S1 z => by
  cases r with
  | s i => exact give_mono (fun d S2 => k _ _) z
  | v d => exact k _ _ z
  | n t => exact k _ _ z
theorem wFix_ns {w : WE} (h : MonoE w) (S : Sx) (Q : KE) (z : wFix w S Q) : wFix w S fun r S' => (∀ i, r ≠ .s i) ∧ Q r S' := h S _ _ (fun r S1 z => by
  cases r with
  | s i => exact give_mono (fun d S2 q => ⟨(fun i e => nomatch e), q⟩) z
  | v d => exact ⟨(fun i e => nomatch e), z⟩
  | n t => exact ⟨(fun i e => nomatch e), z⟩) z
theorem de_fix {X : Cx} {e : Expr} {w : WE} (h : DE X Z e w) : DE X Z e (wFix w) := by
  refine ⟨PE.imp h.pe fun σ H Q ⟨g, S, ok, q⟩ => ⟨g, S, ok, h.mono S _ _ (fun r S' k g' v H' ok' rv st => ?_) q⟩, wFix_mono h.mono⟩
  cases r with
  | v d => exact .now (k g' v H' ok' rv st)
  | n t => exact .now (k g' v H' ok' rv st)
  | s i =>
    obtain ⟨d, S2, e1, k⟩ := give_of k
    exact (freeze ok' rv e1).mono fun H2 ⟨g2, ok2, r2, st2⟩ => k g2 v H2 ok2 r2 (st.tr st2)
section
variable {K : PySem.W.Frag} {g : Gh} {H : Hp} {S : Sx} {σ : L2.St}
/-- a store of what is no slot's -/
def stNow (S : Sx) (i : Nat) : Vl → Sx
  | .n t => S.put i t
  | .v d => S.put i (.d d)
  | .s _ => S
theorem stNow_ok {i : Nat} {r : Vl} {v : V} (h : EnvOk K Z g H S σ) (rv : RepV K g H S σ r v) (ns : ∀ j, r ≠ .s j) : EnvOk K Z g H (stNow S i r) (σ.set i (some v)) := by
  cases r with
  | n t =>
    obtain ⟨a, rfl, o, nd⟩ := rv
    exact h.put (slot_of o) (fun _ j tj z oj => nd j tj z oj)
  | v d => exact h.putD rv
  | s j => exact absurd rfl (ns j)
/-- .. another value stays what it is -/
theorem stNow_other {i : Nat} {r r2 : Vl} {v v2 : V} (h : EnvOk K Z g H S σ) (rv : RepV K g H S σ r v) (ns : ∀ j, r ≠ .s j) (rv2 : RepV K g H S σ r2 v2) (ns2 : ∀ j, r2 ≠ .s j) (ne : ∀ t2, r2 = .n t2 → v2 ≠ v ∨ ∀ t, r ≠ .n t) : RepV K g H (stNow S i r) (σ.set i (some v)) r2 v2 := by
  cases r2 with
  | v d => exact rv2
  | s j => exact absurd rfl (ns2 j)
  | n t2 =>
    obtain ⟨b, rfl, oa, nd⟩ := rv2
    refine ⟨b, rfl, oa, fun j tj z oj q => ?_⟩
    have key : ∀ t', stNow S i r = S.put i t' → (t'.owned = true → V.ref b ≠ v) → False := fun t' e hv => by
      rw [e] at z
      have z' : (S.ρ.set i t')[j]? = some tj := z
      by_cases hj : j = i
      · subst hj
        have hl : j < S.ρ.length := by have := (List.getElem?_eq_some_iff.mp z').1; rwa [List.length_set] at this
        rw [List.getElem?_set_self hl] at z'
        rw [List.getElem?_set_self (by rw [h.len]; exact hl)] at q
        cases z'
        exact hv oj (Option.some.inj (Option.some.inj q)).symm
      · rw [List.getElem?_set_ne (Ne.symm hj)] at z' q
        exact nd j tj z' oj q
    cases r with
    | n t =>
      refine key t rfl fun _ => ?_
      rcases ne t2 rfl with y | y
      · exact y
      · exact absurd rfl (y t)
    | v d => exact key (.d d) rfl (fun y => by cases y)
    | s j => exact ns j rfl
end
def wPar (i j : Nat) (wa wb : WE) : WS := fun S W => wFix wa S fun r S1 => wFix wb S1 fun r2 S2 => W.nx (stNow (stNow S2 i r) j r2)
section
variable {X : Cx}
/-- the first of two values is kept while the second one is made -/
theorem two_core {wa wb : WE} (hz : ZUp Z) (ha : MonoE wa) (hb : MonoE wb) {K : PySem.W.Frag} {σ : L2.St} {H : Hp} {g : Gh} {S : Sx} (ok : EnvOk K Z g H S σ) {Qd : Vl → Vl → Sx → Prop} (q : wFix wa S fun r S1 => wFix wb S1 fun r2 S2 => Qd r r2 S2) {R : V → V → Hp → Prop}
    (k : ∀ r r2 S2 g2 v v2 H2, Qd r r2 S2 → (∀ i, r ≠ .s i) → (∀ i, r2 ≠ .s i) → EnvOk K Z g2 H2 S2 σ → RepV K g2 H2 S2 σ r v → RepV K g2 H2 S2 σ r2 v2 → (∀ t2, r2 = .n t2 → v2 ≠ v ∨ ∀ t, r ≠ .n t) → Step g H g2 H2 → R v v2 H2) :
    liftE K Z (wFix wa) σ H fun v H1 => liftE K Z (wFix wb) σ H1 fun v2 H2 => R v v2 H2 := by
  refine ⟨g, S, ok, wFix_mono ha S _ _ (fun r S1 ⟨n1, z⟩ g1 v H1 ok1 rv1 st1 => ?_) (wFix_ns ha S _ q)⟩
  have z := wFix_ns hb S1 _ z
  cases r with
  | s i => exact absurd rfl (n1 i)
  | v d => exact ⟨g1, S1, ok1, wFix_mono hb S1 _ _ (fun r2 S2 ⟨n2, z⟩ g2 v2 H2 ok2 rv2 st2 => k _ r2 S2 g2 v v2 H2 z n1 n2 ok2 (rv1.step (S1 := S2) (fun t e => nomatch e) st2) rv2 (fun t2 e => .inr fun t e => nomatch e) (st1.tr st2)) z⟩
  | n t =>
    obtain ⟨a, rfl, oa, ns⟩ := rv1
    obtain ⟨o, e, ot⟩ := oa.obj
    obtain ⟨okp, inp⟩ := ok1.protect hz oa ns e
    refine ⟨g1.keepIt a o, S1, okp, wFix_mono hb S1 _ _ (fun r2 S2 ⟨n2, z⟩ g2 v2 H2 ok2 rv2 st2 => ?_) z⟩
    obtain ⟨u1, u2, u3, u4, u5⟩ := ok1.unprotect oa e ot st2 ok2 rv2
    exact k _ r2 S2 _ _ v2 H2 z n1 n2 u1 u2 u3 (fun t2 e => .inl (u5 t2 e)) (st1.tr u4)
theorem ds_par {i j : Nat} {x y : Str} {a b : Expr} {wa wb : WE} {px py pt pos : Pos} {kt k2 pt2} (ha : DE X Z a wa) (hb : DE X Z b wb) (hz : ZUp Z) (hc : X.calm = true) (hN : X.N.Nodup) 
    (hw : swappedStores [.Tuple [.Name x px, .Name y py] kt pt] (.Tuple [a, b] k2 pt2) X.env = pure (some [x, y])) (hi : X.N[i]? = some x := by rfl) (hj : X.N[j]? = some y := by rfl) (hij : i ≠ j := by decide)
    (hx : X.env.scope.names.lookup x = some .local := by rfl) (hy : X.env.scope.names.lookup y = some .local := by rfl) (hs : swapsWithSole [.Tuple [.Name x px, .Name y py] kt pt] (.Tuple [a, b] k2 pt2) pos.line X.env = pure false := by rfl)
    (s1 : starEach [a, b] X.env = (false, eval a X.env) :: starEach [b] X.env := by rfl) (s2 : starEach [b] X.env = (false, eval b X.env) :: starEach [] X.env := by rfl) :
    DS X Z (.Assign [.Tuple [.Name x px, .Name y py] kt pt] (.Tuple [a, b] k2 pt2) pos) (wPar i j wa wb) := by
  refine ⟨PS.imp (ps_par hc hN hi hj hij hx hy (pa_cons (de_fix ha).pe (pa_cons (de_fix hb).pe pa_nil s2) s1) hw hs) fun E σ H ⟨g, S, W, ok, q, eo⟩ => ?_, fun S W W' k => wFix_mono ha.mono S _ _ fun r S1 => wFix_mono hb.mono S1 _ _ fun r2 S2 => k.nx _⟩
  refine two_core (Qd := fun r r2 S2 => W.nx (stNow (stNow S2 i r) j r2)) hz ha.mono hb.mono ok q fun r r2 S2 g2 v v2 H2 z n1 n2 ok2 rv1 rv2 ne st => ?_
  exact ⟨v, v2, rfl, eo.nx _ g2 _ H2 z (stNow_ok (stNow_ok ok2 rv1 n1) (stNow_other ok2 rv1 n1 rv2 n2 ne) n2) st⟩
end
end DL
end
section
set_option Elab.async false
set_option linter.all false
set_option maxRecDepth 100000
set_option maxHeartbeats 400000
namespace DL
open PySem L2 PyProof.Rows
variable {Z : Bs}
/-- built-ins that the text does not hide -/
structure Free (mg : Str → Option Value) : Prop where
  isi : mg "isinstance" = none
  str : mg "str" = none
  len : mg "len" = none
  all : mg "all" = none
  any : mg "any" = none
  int : mg "int" = none
  bool : mg "bool" = none
  abs : mg "abs" = none
  range : mg "range" = none
  max : mg "max" = none
  min : mg "min" = none
  repr : mg "repr" = none
  tuple : mg "tuple" = none
  list : mg "list" = none
  dict : mg "dict" = none
  sorted : mg "sorted" = none
  sum : mg "sum" = none
  zip : mg "zip" = none
  enumerate : mg "enumerate" = none
  set : mg "set" = none
/-- a constant of the text -/
def Con (K : PySem.W.Frag) (mg : Str → Option Value) (x : Str) (d : D) : Prop := ∃ u v, mg x = some u ∧ RelV v u ∧ ∀ p H, Rep K p H d v
section
variable {X : Cx}
theorem de_gc {x : Str} {d : D} {pos : Pos} (c : Con X.K X.mg x d) (hg : Gl X x) (hd : (x == ("__debug__" : Str)) = false := by decide) : DE X Z (.Name x pos) (wC d) := by
  obtain ⟨u, v, hm, r, rp⟩ := c
  exact de_glob hg hm r rp hd
/-! ### a < b < c -/
def wChainT (o o' : O2) (wa wb wc : WE) (S : Sx) (Q : Bool → Sx → Prop) : Prop := wa S fun x S1 => wb S1 fun y S2 => use S2 (hold x) fun dx => use S2 (hold y) fun dy => o dx dy fun z => isBl (fun b => if b = true then wc S2 fun w S3 => use S3 (hold y) fun dy => use S3 w fun dw => o' dy dw fun z => isBl (fun b => Q b S3) z else Q false S2) z
def wChain (o o' : O2) (wa wb wc : WE) : WT := wChainT o o' wa wb wc
def wChainV (o o' : O2) (wa wb wc : WE) : WE := fun S Q => wChainT o o' wa wb wc S fun b S' => Q (.v (.bl b)) S'
theorem wChain_mono {o o' : O2} {wa wb wc : WE} (h1 : ∀ x y (k k' : Vl → Prop), (∀ z, k z → k' z) → o x y k → o x y k') (h2 : ∀ x y (k k' : Vl → Prop), (∀ z, k z → k' z) → o' x y k → o' x y k') (ha : MonoE wa) (hb : MonoE wb) (hc : MonoE wc) : MonoT (wChain o o' wa wb wc) := fun S Q Q' k =>
  ha S _ _ fun x S1 => hb S1 _ _ fun y S2 => use_mono fun dx => use_mono fun dy => h1 dx dy _ _ (isBl_mono fun b => ite_mono (hc S2 _ _ fun w S3 => use_mono fun dy => use_mono fun dw => h2 dy dw _ _ (isBl_mono fun b => k b S3)) (k _ _))
theorem wChainV_mono {o o' : O2} {wa wb wc : WE} (h1 : ∀ x y (k k' : Vl → Prop), (∀ z, k z → k' z) → o x y k → o x y k') (h2 : ∀ x y (k k' : Vl → Prop), (∀ z, k z → k' z) → o' x y k → o' x y k') (ha : MonoE wa) (hb : MonoE wb) (hc : MonoE wc) : MonoE (wChainV o o' wa wb wc) := fun S Q Q' k => wChain_mono h1 h2 ha hb hc S _ _ fun b S' => k _ _
def rOf (X : Cx) (o : O2) : R2 := fun x y H Q => ∃ p own dx dy k, (∀ a ∈ own, H a ≠ none) ∧ Rep1 X.K p (bare own H) H dx x ∧ Rep1 X.K p (bare own H) H dy y ∧ o dx dy k ∧ ∀ z, k z → PostR X.K p own H Q z
theorem chain_core {o o' : O2} {wa wb wc : WE} (ha : MonoE wa) (hb : MonoE wb) (hc : MonoE wc) {σ : L2.St} {H : Hp} {Q : VK} (q : liftE X.K Z (wChainV o o' wa wb wc) σ H Q) :
    tChain (rOf X o) (rOf X o') (liftE X.K Z (wHold wa)) (liftE X.K Z (wHold wb)) (liftE X.K Z wc) σ H Q := by
  obtain ⟨g, S, ok, q⟩ := q
  refine ⟨g, S, ok, ha S _ _ (fun x S1 q1 g1 v H1 ok1 rv1 st1 => ⟨g1, S1, ok1, hb S1 _ _ (fun y S2 q2 g2 u H2 ok2 rv2 st2 => ?_) q1⟩) q⟩
  obtain ⟨dx, e1, q2⟩ := use_of q2
  obtain ⟨dy, e2, q2⟩ := use_of q2
  refine ⟨g2.p, g2.own, dx, dy, _, ok2.gok.live, deref_rep ok2 (rv1.step (S1 := S2) (hold_nn x) st2) e1, deref_rep ok2 rv2 e2, q2, post_of ok2 Step.rf fun z h g3 w H3 ok3 rv3 st3 => ?_⟩
  have st13 := (st1.tr st2).tr st3
  cases z with
  | v d =>
    cases d with
    | bl b =>
      cases rv3
      refine ⟨b, rfl, ?_⟩
      cases b with
      | false => exact h g3 _ H3 ok3 (.bl _) st13
      | true =>
        refine ⟨g3, S2, ok3, hc S2 _ _ (fun ww S3 q3 g4 w H4 ok4 rv4 st4 => ?_) h⟩
        obtain ⟨dy2, e3, q3⟩ := use_of q3
        obtain ⟨dw, e4, q3⟩ := use_of q3
        refine ⟨g4.p, g4.own, dy2, dw, _, ok4.gok.live, deref_rep ok4 (rv2.step (S1 := S3) (hold_nn y) (st3.tr st4)) e3, deref_rep ok4 rv4 e4, q3, post_of ok4 Step.rf fun z h g5 w5 H5 ok5 rv5 st5 => ?_⟩
        cases z with
        | v d =>
          cases d with
          | bl b => exact h g5 w5 H5 ok5 rv5 ((st13.tr st4).tr st5)
          | _ => exact h.elim
        | _ => exact h.elim
    | _ => exact h.elim
  | _ => exact h.elim
theorem de_chain {op op' : CmpOp} {o o' : O2} {a b c : Expr} {wa wb wc : WE} {pos : Pos} (ho : OpD X (compareOp op) o) (ho' : OpD X (compareOp op') o') (ha : DE X Z a wa) (hb : DE X Z b wb) (hc : DE X Z c wc) (hm : lastMarks [op, op'] [b, c] = false := by with_unfolding_all rfl) :
    DE X Z (.Compare a [op, op'] [b, c] pos) (wChainV o o' wa wb wc) :=
  ⟨⟨fun pins s σ H Q I q => (pe_chain (r := rOf X o) (r' := rOf X o') ho.run ho'.run (de_hold ha).pe (de_hold hb).pe hc.pe hm).run pins s σ H Q I (chain_core ha.mono hb.mono hc.mono q)⟩, wChainV_mono ho.mono ho'.mono ha.mono hb.mono hc.mono⟩
theorem dt_chain {op op' : CmpOp} {o o' : O2} {a b c : Expr} {wa wb wc : WE} {pos : Pos} (ho : OpD X (compareOp op) o) (ho' : OpD X (compareOp op') o') (ha : DE X Z a wa) (hb : DE X Z b wb) (hc : DE X Z c wc) (hm : lastMarks [op, op'] [b, c] = false := by with_unfolding_all rfl) :
    DT X Z (.Compare a [op, op'] [b, c] pos) (wChain o o' wa wb wc) := by
  refine ⟨⟨fun pins s σ H Q I q => (pt_chain (r := rOf X o) (r' := rOf X o') ho.run ho'.run (de_hold ha).pe (de_hold hb).pe hc.pe hm).run pins s σ H Q I ?_⟩, wChain_mono ho.mono ho'.mono ha.mono hb.mono hc.mono⟩
  obtain ⟨g, S, ok, q⟩ := q
  refine chain_core ha.mono hb.mono hc.mono ⟨g, S, ok, wChain_mono ho.mono ho'.mono ha.mono hb.mono hc.mono S _ _ (fun b S' z g' v H' ok' rv st => ?_) q⟩
  cases rv
  exact ⟨b, rfl, z g' H' ok' st⟩
/-! ### stars in displays -/
def wStar (w : WE) (wr : WA) : WA := fun S Q => w S fun r S1 => give S1 r fun d S2 => match d with
  | .lst xs => wr S2 fun rs S3 => Q (xs.map .v ++ rs) S3
  | .tup xs => wr S2 fun rs S3 => Q (xs.map .v ++ rs) S3
  | _ => False
theorem RepVs.vs {K : PySem.W.Frag} {g : Gh} {H : Hp} {S : Sx} {σ : L2.St} : ∀ {ds : List D} {vs : List V}, Reps K g.p (bare g.own H) ds vs → RepVs K g H S σ (ds.map .v) vs
  | _, _, .nil => .nil
  | _, _, .cons h t => .cons ⟨h, fun t e => nomatch e⟩ (RepVs.vs t)
theorem RepVs.append {K : PySem.W.Frag} {g : Gh} {H : Hp} {S : Sx} {σ : L2.St} : ∀ {rs ss : List Vl} {vs ws : List V}, RepVs K g H S σ rs vs → RepVs K g H S σ ss ws → RepVs K g H S σ (rs ++ ss) (vs ++ ws)
  | _, _, _, _, .nil, h => h
  | _, _, _, _, .cons a t, h => .cons a (RepVs.append t h)
theorem da_star {e : Expr} {es : List Expr} {w : WE} {wr : WA} {p : Pos} (h : DE X Z e w) (hr : DA X Z es wr) (hs : starEach (.Starred e p :: es) X.env = (true, eval e X.env) :: starEach es X.env := by rfl) : DA X Z (.Starred e p :: es) (wStar w wr) := by
  refine ⟨⟨fun pos pins s σ H Q I q => (StX.pa_star (pe_give h) hr.pa hs).run pos pins s σ H Q I ?_⟩, fun S Q Q' k => h.mono S _ _ fun r S1 => give_mono fun d S2 z => ?_⟩
  · obtain ⟨g, S, ok, q⟩ := q
    refine ⟨g, S, ok, wGive1_mono h.mono S _ _ (fun d S1 z g1 v H1 ok1 r1 st1 => ?_) q⟩
    cases r1 with
    | lst h1 h2 => exact ⟨_, _, rfl, .inr (SqL.of (bare_sub _ _ h1)), g1, S1, ok1, hr.mono S1 _ _ (fun rs S2 z g2 vs H2 ok2 rv2 st2 => z g2 _ H2 ok2 (RepVs.append (RepVs.step (RepVs.vs (S := S1) (σ := σ) h2) st2) rv2) (st1.tr st2)) z⟩
    | tup h1 h2 => exact ⟨_, _, rfl, .inl (sqT_same bare_sub h1), g1, S1, ok1, hr.mono S1 _ _ (fun rs S2 z g2 vs H2 ok2 rv2 st2 => z g2 _ H2 ok2 (RepVs.append (RepVs.step (RepVs.vs (S := S1) (σ := σ) h2) st2) rv2) (st1.tr st2)) z⟩
    | _ => exact z.elim
  · cases d with
    | lst xs => exact hr.mono S2 _ _ (fun rs S3 => k _ _) z
    | tup xs => exact hr.mono S2 _ _ (fun rs S3 => k _ _) z
    | _ => exact z
/-! ### {k: v, ..} -/
def wPairs : List (WE × WE) → Sx → (List (D × D) → Sx → Prop) → Prop
  | [], S, Q => Q [] S
  | (wk, wv) :: r, S, Q => wk S fun a S1 => give S1 a fun x S2 => wv S2 fun b S3 => give S3 b fun y S4 => wPairs r S4 fun ps S5 => Q ((x, y) :: ps) S5
structure DPs (X : Cx) (Z : Bs) (pos : Pos) (keys : List (Option Expr)) (values : List Expr) (ws : List (WE × WE)) : Prop where
  pps : PPs X pos keys values (ws.map fun p => (liftE1 X.K Z (wGive1 p.1), liftE1 X.K Z (wGive1 p.2)))
  mono : ∀ p ∈ ws, MonoE p.1 ∧ MonoE p.2
theorem dps_nil {pos : Pos} : DPs X Z pos [] [] [] := ⟨pps_nil, fun _ h => by cases h⟩
theorem dps_cons {pos : Pos} {k v : Expr} {ks : List (Option Expr)} {vs : List Expr} {wk wv : WE} {ws : List (WE × WE)} (hk : DE X Z k wk) (hv : DE X Z v wv) (hr : DPs X Z pos ks vs ws) : DPs X Z pos (some k :: ks) (v :: vs) ((wk, wv) :: ws) :=
  ⟨pps_cons (pe_give hk) (pe_give hv) hr.pps, fun p hp => by
    rcases List.mem_cons.mp hp with rfl | hp
    · exact ⟨hk.mono, hv.mono⟩
    · exact hr.mono p hp⟩
theorem wPairs_mono : ∀ {ws : List (WE × WE)}, (∀ p ∈ ws, MonoE p.1 ∧ MonoE p.2) → ∀ S (Q Q' : List (D × D) → Sx → Prop), (∀ r S', Q r S' → Q' r S') → wPairs ws S Q → wPairs ws S Q'
  | [], _, S, Q, Q', k, h => k _ _ h
  | (wk, wv) :: r, hm, S, Q, Q', k, h => (hm _ (List.mem_cons_self ..)).1 S _ _ (fun a S1 => give_mono fun x S2 => (hm _ (List.mem_cons_self ..)).2 S2 _ _ fun b S3 => give_mono fun y S4 => wPairs_mono (fun p hp => hm p (List.mem_cons_of_mem _ hp)) S4 _ _ fun ps S5 => k _ _) h
/-- the pairs of a display -/
def keyPairs : List (D × D) → Option (List (Key × D))
  | [] => some []
  | (k, v) :: r => match keyOf k, keyPairs r with
    | some k, some r => some ((k, v) :: r)
    | _, _ => none
def wDisp (ws : List (WE × WE)) : WE := fun S Q => wPairs ws S fun ps S1 => match keyPairs ps with
  | some kvs => kvs.length ≤ 15 ∧ Q (.n (.k (mergeD [] kvs))) S1
  | none => False
def VVReps (K : PySem.W.Frag) (p : Addr) (B : Hp) (ds : List (D × D)) (vs : List (V × V)) : Prop := Paired (fun (x : D × D) (y : V × V) => Rep K p B x.1 y.1 ∧ Rep K p B x.2 y.2) ds vs
theorem VVReps.mono {K : PySem.W.Frag} {p : Addr} {B B' : Hp} (s : Same B B') {ds : List (D × D)} {vs : List (V × V)} (h : VVReps K p B ds vs) : VVReps K p B' ds vs := Paired.mapP h fun _ _ z => ⟨z.1.mono s, z.2.mono s⟩
theorem pairs_lift {K : PySem.W.Frag} {σ : L2.St} : ∀ {ws : List (WE × WE)}, (∀ p ∈ ws, MonoE p.1 ∧ MonoE p.2) → ∀ {g : Gh} {H : Hp} {S : Sx} {Q : List (V × V) → Hp → Prop}, EnvOk K Z g H S σ → (wPairs ws S fun ps S' => ∀ g' vs H', EnvOk K Z g' H' S' σ → VVReps K g'.p (bare g'.own H') ps vs → Step g H g' H' → Q vs H') →
    tPairs (ws.map fun p => (liftE1 K Z (wGive1 p.1), liftE1 K Z (wGive1 p.2))) σ H Q
  | [], _, g, H, S, Q, ok, q => q g [] H ok .nil Step.rf
  | (wk, wv) :: r, hm, g, H, S, Q, ok, q => by
    have m1 := (hm _ (List.mem_cons_self ..)).1
    have m2 := (hm _ (List.mem_cons_self ..)).2
    refine ⟨g, S, ok, wGive1_mono m1 S _ _ (fun x S1 z g1 v H1 ok1 r1 st1 => ⟨g1, S1, ok1, wGive1_mono m2 S1 _ _ (fun y S2 z g2 u H2 ok2 r2 st2 => ?_) z⟩) q⟩
    refine pairs_lift (fun p hp => hm p (List.mem_cons_of_mem _ hp)) ok2 (wPairs_mono (fun p hp => hm p (List.mem_cons_of_mem _ hp)) S2 _ _ (fun ps S3 z g3 vs H3 ok3 r3 st3 => ?_) z)
    refine z g3 ((v, u) :: vs) H3 ok3 (.cons ⟨?_, ?_⟩ r3) ((st1.tr st2).tr st3)
    · rw [st3.p, st2.p]; exact r1.mono (same_tr st2.same st3.same)
    · rw [st3.p]; exact r2.mono st3.same
theorem keyPairs_rep {K : PySem.W.Frag} {p : Addr} {B : Hp} : ∀ {ps : List (D × D)} {vs : List (V × V)} {kds : List (Key × D)}, VVReps K p B ps vs → keyPairs ps = some kds → ∃ kvs : List (Key × V), vs = kvs.map (fun kv => (kV kv.1, kv.2)) ∧ KReps K p B kds kvs
  | _, _, _, .nil, e => by cases e; exact ⟨[], rfl, .nil⟩
  | _, _, _, .cons (a := x) (b := y) (l₁ := ps) h t, e => by
    obtain ⟨x1, x2⟩ := x
    unfold keyPairs at e
    cases e1 : keyOf x1 with
    | none => rw [e1] at e; cases e
    | some kk =>
      cases e2 : keyPairs ps with
      | none => rw [e1, e2] at e; cases e
      | some r =>
        rw [e1, e2] at e
        cases e
        obtain ⟨kvs, rfl, h3⟩ := keyPairs_rep t e2
        have := key_rep (h.1.top same_rf) e1
        refine ⟨(kk, y.2) :: kvs, ?_, .cons ⟨rfl, h.2⟩ h3⟩
        rw [List.map_cons, ← this]
theorem de_disp {pos : Pos} {keys : List (Option Expr)} {values : List Expr} {ws : List (WE × WE)} (h : DPs X Z pos keys values ws) (hz : ZUp Z) (hall : keys.all (·.isSome) = true) (hl : keys.length = values.length) (h0 : keys ≠ []) (h15 : keys.length ≤ 15) : DE X Z (.Dict keys values pos) (wDisp ws) := by
  refine ⟨⟨fun pins s σ H Q I q => (pe_disp h.pps hall hl h0 h15).run pins s σ H Q I ?_⟩, fun S Q Q' k => wPairs_mono h.mono S _ _ fun ps S1 z => ?_⟩
  · obtain ⟨g, S, ok, q⟩ := q
    intro a ha
    obtain ⟨e1, e2, e3⟩ := ok.new (t := .k []) ha ⟨[], rfl, rfl, .nil⟩
    obtain ⟨b, eb, oa, ns⟩ := e2
    cases eb
    obtain ⟨okp, inp⟩ := e1.protect (o := .dK []) hz oa ns upd_same
    refine pairs_lift h.mono okp (wPairs_mono h.mono S _ _ (fun ps S2 z g2 vs H2 ok2 r2 st2 => ?_) q)
    obtain ⟨u1, u2, u3, u4, u5⟩ := e1.unprotect (r2 := .v .non) (v2 := .non) oa upd_same ⟨[], rfl, rfl, .nil⟩ st2 ok2 .non
    obtain ⟨b, eb, oa2, ns2⟩ := u2
    cases eb
    cases e5 : keyPairs ps with
    | none => rw [e5] at z; exact z.elim
    | some kds =>
      rw [e5] at z
      obtain ⟨kvs, rfl, kr⟩ := keyPairs_rep r2 e5
      have hH2 : H2 a = some (.dK []) := (st2.keep a (List.mem_cons_self ..)).trans upd_same
      refine ⟨hH2, kvs, rfl, by rw [← kr.len]; exact z.1, ?_⟩
      have km := KReps.merge kr (kds := []) (kvs := []) .nil
      -- the dict is filled: as if it were made now
      have eb : bare (Gh.leave { g with own := a :: g.own } g2).own (upd H2 a (.dK (mergeK [] kvs))) = bare g2.own H2 := bare_upd oa2.own
      have okE : EnvOk X.K Z (Gh.leave { g with own := a :: g.own } g2) (upd H2 a (.dK (mergeK [] kvs))) S2 σ ∧ Step (Gh.leave { g with own := a :: g.own } g2) H2 (Gh.leave { g with own := a :: g.own } g2) (upd H2 a (.dK (mergeK [] kvs))) := by
        have kp : ∀ b ∈ g.prot, upd H2 a (.dK (mergeK [] kvs)) b = H2 b := fun b hb => upd_ne (fun z => oa2.np (by rw [← z]; exact hb))
        refine ⟨⟨⟨u1.gok.sub, u1.gok.pin, u1.gok.pnp, fun b hb => ?_, ?_, tabs_over hH2 (fun _ z => by cases z) (fun c q z => by unfold LamX.CodeO at z; cases z) u1.gok.tabs, u1.gok.b0, by rw [eb]; exact u1.gok.b1, fun b hb => (kp b hb).trans (u1.gok.b2 b hb), u1.gok.b3⟩, u1.hb, u1.len, fun i t e => ?_, u1.dist⟩, ⟨rfl, rfl, rfl, rfl, by rw [eb]; exact same_rf, kp⟩⟩
        · exact (u1.gok.lv b hb).upd rfl
        · obtain ⟨x, y, c, e, r⟩ := u1.gok.pot
          exact ⟨x, y, c, by rw [upd_ne (fun z => oa2.nq (by rw [← z]; exact Gp.mem _))]; exact e, r⟩
        · obtain ⟨u, f1, f2⟩ := u1.slot i t e
          refine ⟨u, f1, ?_⟩
          have ow : ∀ {b : Addr}, t.owned = true → u = some (.ref b) → OwnA X.K (Gh.leave { g with own := a :: g.own } g2) H2 t b → OwnA X.K (Gh.leave { g with own := a :: g.own } g2) (upd H2 a (.dK (mergeK [] kvs))) t b := fun {b} ot hu q => by
            obtain ⟨w, e2, e3⟩ := q.obj
            have hb : b ≠ a := fun y => ns2 i t e ot (by rw [f1, hu, y])
            exact ⟨q.own, q.np, q.nq, q.n0, w, by rw [upd_ne hb]; exact e2, by rw [eb]; exact e3⟩
          cases t with
          | dead => exact trivial
          | d x => obtain ⟨v, e2, r⟩ := f2; exact ⟨v, e2, by rw [eb]; exact r⟩
          | l _ => obtain ⟨b, e2, r⟩ := f2; exact ⟨b, e2, ow rfl e2 r⟩
          | k _ => obtain ⟨b, e2, r⟩ := f2; exact ⟨b, e2, ow rfl e2 r⟩
          | t _ => obtain ⟨b, e2, r⟩ := f2; exact ⟨b, e2, ow rfl e2 r⟩
          | o _ _ => obtain ⟨b, e2, r⟩ := f2; exact ⟨b, e2, ow rfl e2 r⟩
      refine z.2 _ _ _ okE.1 ⟨a, rfl, ⟨oa2.own, oa2.np, oa2.nq, oa2.n0, _, upd_same, _, rfl, km.keys, ?_⟩, ns2⟩ ((e3.tr u4).tr okE.2)
      rw [eb]
      exact km.vals
  · cases e : keyPairs ps with
    | none => rw [e] at z; exact z
    | some kvs => rw [e] at z; exact ⟨z.1, k _ _ z.2⟩
end
end DL
end
section
set_option Elab.async false
set_option linter.all false
set_option maxRecDepth 100000
set_option maxHeartbeats 400000
/-! sorted of pairs of texts -/
namespace DL
open PySem L2 PyProof.Rows Srt SrtO
theorem str_ext {a b : Str} (h : a.cps.toList = b.cps.toList) : a = b := by
  cases a with
  | mk x => cases b with
    | mk y => cases x; cases y; simp at h; rw [h]
theorem ltS_irr (a : Str) : ltS a a = false := decide_eq_false (List.lt_irrefl _)
theorem ltS_asym {a b : Str} (h : ltS a b = true) : ltS b a = false := decide_eq_false (List.lt_asymm (of_decide_eq_true h))
theorem ltS_tr {a b c : Str} (h1 : ltS a b = true) (h2 : ltS b c = true) : ltS a c = true := decide_eq_true (List.lt_trans (of_decide_eq_true h1) (of_decide_eq_true h2))
theorem ltS_tri (a b : Str) : ltS a b = true ∨ a = b ∨ ltS b a = true := by
  by_cases h1 : a.cps.toList < b.cps.toList
  · exact .inl (decide_eq_true h1)
  · by_cases h2 : b.cps.toList < a.cps.toList
    · exact .inr (.inr (decide_eq_true h2))
    · exact .inr (.inl (str_ext (List.le_antisymm (List.not_lt.mp h2) (List.not_lt.mp h1))))
def lexS (p q : Str × Str) : Bool := if p.1 = q.1 then ltS p.2 q.2 else ltS p.1 q.1
theorem lexS_iff {p q : Str × Str} : lexS p q = true ↔ ltS p.1 q.1 = true ∨ (p.1 = q.1 ∧ ltS p.2 q.2 = true) := by
  unfold lexS
  by_cases e : p.1 = q.1
  · rw [if_pos e, e, ltS_irr]; simp
  · rw [if_neg e]; simp [e]
theorem lexS_irr (p : Str × Str) : lexS p p = false := by unfold lexS; rw [if_pos rfl, ltS_irr]
theorem lexS_tr {p q r : Str × Str} (h1 : lexS p q = true) (h2 : lexS q r = true) : lexS p r = true := by
  rw [lexS_iff] at *
  rcases h1 with h1 | ⟨e1, h1⟩ <;> rcases h2 with h2 | ⟨e2, h2⟩
  · exact .inl (ltS_tr h1 h2)
  · exact .inl (e2 ▸ h1)
  · exact .inl (e1 ▸ h2)
  · exact .inr ⟨e1.trans e2, ltS_tr h1 h2⟩
theorem lexS_tri (p q : Str × Str) : lexS p q = true ∨ p = q ∨ lexS q p = true := by
  rcases ltS_tri p.1 q.1 with h | h | h
  · exact .inl (lexS_iff.mpr (.inl h))
  · rcases ltS_tri p.2 q.2 with g | g | g
    · exact .inl (lexS_iff.mpr (.inr ⟨h, g⟩))
    · exact .inr (.inl (Prod.ext h g))
    · exact .inr (.inr (lexS_iff.mpr (.inr ⟨h.symm, g⟩)))
  · exact .inr (.inr (lexS_iff.mpr (.inl h)))
theorem lexS_asym {p q : Str × Str} (h : lexS p q = true) : lexS q p = false := by
  cases e : lexS q p with
  | false => rfl
  | true => have := lexS_tr h e; rw [lexS_irr] at this; cases this
theorem swo_lexS {α : Type} (k : α → Str × Str) : Swo fun v u => lexS (k v) (k u) := by
  refine ⟨fun x y h => lexS_asym h, fun x y z h1 h2 => ?_⟩
  rcases lexS_tri (k x) (k y) with h | h | h
  · rcases lexS_tri (k y) (k z) with g | g | g
    · exact lexS_asym (lexS_tr h g)
    · show lexS (k z) (k x) = false; rw [← g]; exact lexS_asym h
    · have h2 : lexS (k z) (k y) = false := h2; rw [h2] at g; cases g
  · show lexS (k z) (k x) = false; rw [h]; exact h2
  · have h1 : lexS (k y) (k x) = false := h1; rw [h1] at h; cases h
section
variable {prog : Program} {w : World} {A : Around} {s : Shared} {E : Value → Shared → Prop}
def IsPairS (h : Heap) (v : Value) (x y : Str) : Prop := ∃ a o t u n, v = .ref a ∧ h.get? a = some o ∧ o.cls = .type "tuple" ∧ o.data = .seq #[.str x t, .str y u] n
theorem IsPairS.keeps {h h' : Heap} {v : Value} {x y : Str} (p : IsPairS h v x y) (k : ∀ b o, h.get? b = some o → o.cls = .type "tuple" → h'.get? b = some o) : IsPairS h' v x y := by
  obtain ⟨a, o, t, u, n, e, ho, hc, hd⟩ := p
  exact ⟨a, o, t, u, n, e, k _ _ ho hc, hc, hd⟩
theorem firsts_ofS {h : Heap} : ∀ {vs : List Value}, (∀ v ∈ vs, ∃ x y, IsPairS h v x y) → ∃ fs : List Value, PySem.W.KatTups h vs fs ∧ fs.length = vs.length ∧ ∀ f ∈ fs, ∃ x t, f = Value.str x t
  | [], _ => ⟨[], PySem.W.KatTups.nil, rfl, fun _ hm => by simp at hm⟩
  | v :: vs, hp => by
    obtain ⟨fs, h1, h2, h3⟩ := firsts_ofS (vs := vs) fun v' hm => hp v' (List.mem_cons_of_mem _ hm)
    obtain ⟨x, y, a, o, t, u, n, e, ho, hc, hd⟩ := hp v (List.mem_cons_self ..)
    subst e
    refine ⟨.str x t :: fs, PySem.W.KatTups.cons ho hc hd rfl h1, by rw [List.length_cons, List.length_cons, h2], fun f hm => ?_⟩
    rcases List.mem_cons.mp hm with rfl | hm
    · exact ⟨x, t, rfl⟩
    · exact h3 f hm
theorem pair_cmpS {vs : List Value} {k : Value → Str × Str} (hp : ∀ v ∈ vs, IsPairS s.heap v (k v).1 (k v).2) : Cmp prog w A s (tuples' true) (fun p => p.1 ∈ vs) (lt2 fun v u => lexS (k v) (k u)) := by
  intro p q hm hm'
  have h1 := hp _ hm
  have h2 := hp _ hm'
  show wpAny (model prog w) A (keyLt' (tuples' true) p.1 q.1) (fun r s' => s' = s ∧ r = lexS (k p.1) (k q.1)) (fun _ _ => False) s
  unfold lexS
  generalize (k p.1).1 = x at h1 ⊢
  generalize (k p.1).2 = y at h1 ⊢
  generalize (k q.1).1 = x' at h2 ⊢
  generalize (k q.1).2 = y' at h2 ⊢
  obtain ⟨a, o, t, u, n, e, ho, hc, hd⟩ := h1
  obtain ⟨a', o', t', u', n', e', ho', hc', hd'⟩ := h2
  rw [e, e']
  refine PySem.W.kat_lt ho hd ho' hd' ?_
  show PySem.W.KatLex prog w A true (decide (2 < 2)) _ [(.str x t, .str x' t'), (.str y u, .str y' u')] 0 s
  refine PySem.W.kat_cons (SeqAt.EqAt.str_str x t x' t' prog w _ _ ?_)
  refine PySem.W.kat_go (fun e1 => ?_) (fun e1 => ?_)
  · have ex : x = x' := by simpa using e1
    refine PySem.W.kat_yes (PySem.W.kat_cons (SeqAt.EqAt.str_str y u y' u' prog w _ _ ?_))
    refine PySem.W.kat_go (fun e2 => ?_) (fun e2 => ?_)
    · have ey : y = y' := by simpa using e2
      have e3 : (if x = x' then ltS y y' else ltS x x') = false := by
        rw [if_pos ex, ey]
        exact ltS_irr _
      exact PySem.W.kat_yes (PySem.W.kat_nil ⟨rfl, e3.symm⟩)
    · have e3 : (if x = x' then ltS y y' else ltS x x') = ltS y y' := if_pos ex
      refine PySem.W.kat_no (PySem.W.kat_one _ _ (PyProof.Rows.lt_str ?_))
      exact (show s = s ∧ ltS y y' = (if x = x' then ltS y y' else ltS x x') from ⟨rfl, e3.symm⟩)
  · have ex : ¬ x = x' := by simpa using e1
    have e3 : (if x = x' then ltS y y' else ltS x x') = ltS x x' := if_neg ex
    exact PySem.W.kat_no (oneLt_str ⟨rfl, e3.symm⟩)
theorem pairs_sortableS {a : Addr} {vs : List Value} {k : Value → Str × Str} (h0 : 0 < vs.length) (hp : ∀ v ∈ vs, IsPairS s.heap v (k v).1 (k v).2) (ha : ∀ o, s.heap.get? a = some o → o.cls ≠ .type "tuple") : SortableO prog w A s a vs fun v u => lexS (k v) (k u) := by
  intro h' keep
  have hp' : ∀ v ∈ vs, IsPairS h' v (k v).1 (k v).2 := fun v hm => (hp v hm).keeps fun b o e c => keep b o (fun z => by subst z; exact ha o e c) e
  obtain ⟨fs, h1, h2, h3⟩ := firsts_ofS fun v hm => ⟨_, _, hp' v hm⟩
  refine ⟨tuples' true, fun Q E hq => ?_, pair_cmpS hp'⟩
  refine PySem.W.kat_kind (T := .type "str") h1 (by omega) (fun f hm => ?_) (by rfl) ?_
  · obtain ⟨x, t, rfl⟩ := h3 f hm
    exact PySem.W.Looks.now
  · have e : (Value.type "str" != Value.type "tuple") = true := by first | decide +kernel | rfl | decide
    rw [e]
    exact hq
theorem sorted_pairsS {l : Addr} {vs : List Value} {k : Value → Str × Str} {Q : Value → Shared → Prop} (hl : s.heap.IsList l vs.toArray) (hz : vs.length ≤ sizeLine) (hp : ∀ v ∈ vs, IsPairS s.heap v (k v).1 (k v).2)
    (h : ∀ (h' : Heap) (d : Addr) (out : List Value), Srtd (fun v u => lexS (k v) (k u)) out → Stb (fun v u => lexS (k v) (k u)) out vs → (∀ b o, s.heap.get? b = some o → h'.get? b = some o) → s.heap.objs.size ≤ d → (∃ n, h'.get? d = some (seqObj "list" out.toArray n)) → Q (.ref d) { s with heap := h' }) :
    wpAny (model prog w) A (call (.builtin "sorted") [.ref l]) Q E s := by
  refine sorted_ord (swo_lexS k) hl hz (fun h2 h₁ a ha kk => ?_) fun out hs hb => ?_
  · refine pairs_sortableS (s := { s with heap := h₁ }) (by omega) (fun v hm => (hp v hm).keeps fun b o e _ => (kk b o e).2) fun o e => ?_
    have e' : some o = some (seqObj "list" vs.toArray 0) := e.symm.trans ha
    cases e'
    intro c
    exact absurd (Value.type.inj c) (by decide)
  · exact h _ _ out hs hb (fun b o e => sortedAll_old e) (Nat.le_succ _) (sortedAll_at s.heap vs out.toArray)
end
def rSortedPS (K : PySem.W.Frag) : List V → Hp → VK → Prop := fun vs H Q => ∃ (a : Addr) (xs : List V) (k : V → Str × Str), vs = [V.ref a] ∧ SqL K H a xs ∧ (∀ x ∈ xs, ∃ t, x = V.ref t ∧ SqT K H t [.str (k x).1, .str (k x).2]) ∧
  ∀ ys p, Srtd (fun v u => lexS (k v) (k u)) ys → ys.Perm xs → H p = none → Q (.ref p) (upd H p (.lst ys))
section
variable {X : Cx}
theorem cr_sortedPS : CallR X (.builtin "sorted") (rSortedPS X.K) := by
  intro pins s σ H vs us Q I r h
  obtain ⟨a, xs, k, rfl, hs, hx, q⟩ := h
  obtain ⟨its, rv, hl, hz⟩ := I.list hs
  obtain ⟨u, rfl, ru⟩ := vals1 r
  obtain rfl : u = Value.ref a := ru
  obtain ⟨e1, e2⟩ := refs_back rv fun x m => by
    obtain ⟨t, e, _⟩ := hx x m
    exact ⟨t, e⟩
  refine sorted_pairsS (k := fun u => k (backV u)) hl.isList (by rw [← rv.length]; exact hz) (fun v hv => ?_) fun h' d out h1 h2 kp hd hn => ?_
  · obtain ⟨t, rfl⟩ := e2 v hv
    have hm : V.ref t ∈ xs := by rw [e1]; exact List.mem_map.mpr ⟨_, hv, rfl⟩
    obtain ⟨t', e, ht⟩ := hx _ hm
    cases e
    obtain ⟨its2, r2, ⟨o, ho, hc, n, hd⟩, _⟩ := I.tuple ht
    obtain ⟨u1, u2, rfl, ri, rj⟩ := vals2 r2
    obtain ⟨t1, rfl⟩ := ri
    obtain ⟨t2, rfl⟩ := rj
    exact ⟨t, o, t1, t2, n, rfl, ho, hc, hd⟩
  · have h3 : ∀ u ∈ out, ∃ a, u = Value.ref a := fun u hu => e2 u (h2.perm.mem_iff.mp hu)
    obtain ⟨n, hn⟩ := hn
    have hb : (out.map backV).Perm xs := by
      rw [e1]
      exact h2.perm.map _
    refine ⟨.ref d, upd H d (.lst (out.map backV)), I.laid (t' := s.toks) kp hd ⟨?_, out, n, vals_back h3, hn⟩, rfl, q _ d (List.pairwise_map.mpr h1) hb (I.hok.fresh hd)⟩
    rw [hb.length_eq]
    exact hz
def pairsS : List D → Option (List (PySem.Str × PySem.Str))
  | [] => some []
  | .tup [.str a, .str b] :: ds => (pairsS ds).map ((a, b) :: ·)
  | _ :: _ => none
def pD (p : PySem.Str × PySem.Str) : D := .tup [.str p.1, .str p.2]
theorem pairsS_map : ∀ ps : List (PySem.Str × PySem.Str), pairsS (ps.map pD) = some ps
  | [] => rfl
  | p :: ps => by simp only [List.map_cons, pD, pairsS]; rw [pairsS_map ps]; rfl
/-- sorted of pairs of texts, too -/
def oSortedX : OL
  | [.lst xs], k => match pairsS xs with
    | some (p :: ps) => ∀ ys : List (PySem.Str × PySem.Str), ys.Perm (p :: ps) → Srtd lexS ys → k (.n (.l (ys.map pD)))
    | _ => oSorted [.lst xs] k
  | _, _ => False
noncomputable def kPair (K : PySem.W.Frag) (H : Hp) (v : V) : PySem.Str × PySem.Str := open Classical in if h : ∃ q : PySem.Str × PySem.Str, ∃ t, v = .ref t ∧ SqT K H t [.str q.1, .str q.2] then Classical.choose h else ("", "")
theorem kPair_at {K : PySem.W.Frag} {H : Hp} {v : V} (h : ∃ q : PySem.Str × PySem.Str, ∃ t, v = .ref t ∧ SqT K H t [.str q.1, .str q.2]) : ∃ t, v = .ref t ∧ SqT K H t [.str (kPair K H v).1, .str (kPair K H v).2] := by
  unfold kPair
  rw [dif_pos h]
  exact Classical.choose_spec h
theorem pairs_repS {K : PySem.W.Frag} {p : Addr} {B H : Hp} (sb : Same B H) (uq : ∀ a xs ys, SqT K H a xs → SqT K H a ys → xs = ys) : ∀ {ds : List D} {vs : List V} {ps : List (PySem.Str × PySem.Str)}, Reps K p B ds vs → pairsS ds = some ps → vs.map (kPair K H) = ps ∧ ∀ v ∈ vs, (∃ t, v = .ref t ∧ SqT K H t [.str (kPair K H v).1, .str (kPair K H v).2]) ∧ Rep K p B (pD (kPair K H v)) v
  | _, _, _, .nil, e => by cases e; exact ⟨rfl, fun _ z => by cases z⟩
  | _, _, _, .cons (d := d) (ds := ds) h1 h2, e => by
    unfold pairsS at e
    split at e
    · next heq => cases heq
    · next a b ds' heq =>
      cases heq
      obtain ⟨ps', e1, rfl⟩ := Option.map_eq_some_iff.mp e
      obtain ⟨g1, g2⟩ := pairs_repS sb uq h2 e1
      cases h1 with
      | tup t1 t2 =>
        cases t2 with
        | cons r1 t2 => cases t2 with
          | cons r2 t2 =>
            cases t2
            cases r1
            cases r2
            have t1' := sqT_same sb t1
            obtain ⟨t, et, k2⟩ := kPair_at (K := K) (H := H) ⟨(a, b), _, rfl, t1'⟩
            cases et
            have ek := uq _ _ _ k2 t1'
            simp only [List.cons.injEq, V.str.injEq, and_true] at ek
            have ek : kPair K H (.ref _) = (a, b) := Prod.ext ek.1 ek.2
            refine ⟨by rw [List.map_cons, ek, g1], fun v hv => ?_⟩
            rcases List.mem_cons.mp hv with rfl | hv
            · refine ⟨⟨_, rfl, k2⟩, ?_⟩
              rw [ek]
              exact .tup t1 (.cons (.str _) (.cons (.str _) .nil))
            · exact g2 v hv
    · cases e
theorem reps_of {K : PySem.W.Frag} {p : Addr} {B : Hp} {f : V → D} : ∀ {vs : List V}, (∀ v ∈ vs, Rep K p B (f v) v) → Reps K p B (vs.map f) vs
  | [], _ => .nil
  | v :: vs, h => .cons (h v (List.mem_cons_self ..)) (reps_of fun u hu => h u (List.mem_cons_of_mem _ hu))
theorem d_sortedX : CallD X (.builtin "sorted") oSortedX := by
  refine ⟨fun pins s σ H xs us Q I r ⟨p, own, ds, k, hl, rp, ho, hp⟩ => ?_, fun ds k k' h z => ?_⟩
  · unfold oSortedX at ho
    split at ho
    · split at ho
      · next p0 ps e =>
        cases rp with
        | cons r1 rp =>
          cases rp
          cases r1 with
          | lst h1 h2 =>
            obtain ⟨g1, g2⟩ := pairs_repS (K := X.K) bare_sub (fun a xs ys q1 q2 => I.tuple_inj q1 q2) h2 e
            refine cr_sortedPS pins s σ H _ us Q I r ⟨_, _, kPair X.K H, rfl, SqL.of h1, fun x hx => (g2 x hx).1, fun ys a h3 h4 hn => ?_⟩
            have h5 : (ys.map (kPair X.K H)).Perm (p0 :: ps) := by rw [← g1]; exact h4.map _
            have h6 := ho (ys.map (kPair X.K H)) h5 (List.pairwise_map.mpr h3)
            rw [List.map_map] at h6
            exact post_l hp h6 (reps_of fun v hv => (g2 v (h4.mem_iff.mp hv)).2) a hn
      · exact d_sorted.run pins s σ H xs us Q I r ⟨p, own, _, k, hl, rp, ho, hp⟩
    · exact ho.elim
  · cases ds with
    | nil => exact z
    | cons d ds => cases ds with
      | cons d2 ds => cases d <;> exact z
      | nil => cases d with
        | lst xs =>
          simp only [oSortedX] at z ⊢
          cases e : pairsS xs with
          | none => rw [e] at z; exact (d_sorted (X := X)).mono _ _ _ h z
          | some ps => cases ps with
            | nil => rw [e] at z; exact (d_sorted (X := X)).mono _ _ _ h z
            | cons p ps => rw [e] at z; exact fun ys a b => h _ (z ys a b)
        | _ => exact z
end
end DL
end
section
set_option Elab.async false
set_option linter.all false
set_option maxRecDepth 100000
set_option maxHeartbeats 400000
/-! repr of texts, ints and tuples of them -/
namespace DL
open PySem PySem.W PySem.Calls L2 PyProof.Rows
mutual
def rP : D → Option PyData
  | .non => some .none
  | .bl b => some (.bool b)
  | .int i => some (.int i)
  | .str z => some (.str z)
  | .tup xs => (rPs xs).map .tuple
  | _ => none
def rPs : List D → Option (List PyData)
  | [] => some []
  | d :: ds => match rP d, rPs ds with
    | some e, some es => some (e :: es)
    | _, _ => none
end
section
variable {X : Cx} {pins : List (Addr × Obj)} {σ : L2.St} {H B : Hp} {s : Shared} {p : Addr}
mutual
theorem rep_reads (I : Inv X pins σ H s) (sb : Same B H) : ∀ {d : D} {v : V} {e : PyData}, Rep X.K p B d v → rP d = some e → ∀ u : Value, RelV v u → ∃ as, Reads s.heap u e as ∧ sysModules ∉ as
  | _, _, _, .non, h, u, r => by simp only [rP] at h; cases h; cases r; exact ⟨_, .none, by simp⟩
  | _, _, _, .bl b, h, u, r => by simp only [rP] at h; cases h; cases r; exact ⟨_, .bool b, by simp⟩
  | _, _, _, .int i, h, u, r => by simp only [rP] at h; cases h; obtain ⟨t, rfl⟩ := r; exact ⟨_, .int i t, by simp⟩
  | _, _, _, .str z, h, u, r => by simp only [rP] at h; cases h; obtain ⟨t, rfl⟩ := r; exact ⟨_, .str z t, by simp⟩
  | _, _, _, .tup h1 h2, h, u, r => by
    simp only [rP] at h
    obtain ⟨es, e1, rfl⟩ := Option.map_eq_some_iff.mp h
    cases r
    obtain ⟨its, rv, ⟨o, ho, hc, n, hd⟩, _⟩ := I.tuple (sqT_same sb h1)
    obtain ⟨as, hr, hn⟩ := reps_reads I sb h2 e1 _ rv
    exact ⟨_, .tuple ho hc hd hr, hn⟩
  | _, _, _, .lst _ _, h, _, _ => by simp only [rP] at h; cases h
  | _, _, _, .dk _ _ _, h, _, _ => by simp only [rP] at h; cases h
  | _, _, _, .dt _ _ _, h, _, _ => by simp only [rP] at h; cases h
  | _, _, _, .obj _ _ _, h, _, _ => by simp only [rP] at h; cases h
  | _, _, _, .fn _, h, _, _ => by simp only [rP] at h; cases h
  | _, _, _, .ty _, h, _, _ => by simp only [rP] at h; cases h
  | _, _, _, .pot, h, _, _ => by simp only [rP] at h; cases h
theorem reps_reads (I : Inv X pins σ H s) (sb : Same B H) : ∀ {ds : List D} {vs : List V} {es : List PyData}, Reps X.K p B ds vs → rPs ds = some es → ∀ us : List Value, Vals vs us → ∃ as, ReadsAll s.heap us es as ∧ sysModules ∉ as
  | _, _, _, .nil, h, us, r => by simp only [rPs] at h; cases h; cases r; exact ⟨_, .nil, by simp⟩
  | _, _, _, .cons (d := d) (ds := ds) h1 h2, h, us, r => by
    simp only [rPs] at h
    cases e1 : rP d with
    | none => rw [e1] at h; cases h
    | some e =>
      cases e2 : rPs ds with
      | none => rw [e1, e2] at h; cases h
      | some es =>
        rw [e1, e2] at h
        cases h
        cases r with
        | cons r1 r2 =>
          obtain ⟨as, a1, a2⟩ := rep_reads I sb h1 e1 _ r1
          obtain ⟨bs, b1, b2⟩ := reps_reads I sb h2 e2 _ r2
          refine ⟨_, .cons a1 b1, fun z => ?_⟩
          rcases List.mem_append.mp z with z | z
          · exact a2 z
          · exact b2 z
end
end
theorem rep1_rP {K : PySem.W.Frag} {p : Addr} {B H : Hp} {d : D} {v : V} {e : PyData} (r1 : Rep1 K p B H d v) (ed : rP d = some e) : Rep K p B d v := by
  cases r1 with
  | non => exact .non
  | bl b => exact .bl b
  | int i => exact .int i
  | str z => exact .str z
  | tup h1 h2 => exact .tup h1 h2
  | _ => simp only [rP] at ed; cases ed
def oRepr : OL
  | [d], k => match rP d with
    | some e => e.showable = true ∧ e.depth ≤ 100 ∧ e.shown.length ≤ sizeLine ∧ k (.v (.str e.shown))
    | none => False
  | _, _ => False
theorem d_repr {X : Cx} (hg : X.A.guards = some []) (hu : X.A.units + 200 < cLine) : CallD X (.builtin "repr") oRepr := by
  refine ⟨fun pins s σ H xs us Q I r ⟨p, own, ds, k, hl, rp, ho, hp⟩ => ?_, fun ds k k' h z => ?_⟩
  · unfold oRepr at ho
    split at ho
    · split at ho
      · next e ed =>
        obtain ⟨hs, hdp, hsz, ho⟩ := ho
        cases rp with
        | cons r1 rp =>
          cases rp
          cases r with
          | cons rx rr =>
            cases rr
            have rd := rep1_rP r1 ed
            obtain ⟨as, hr, hn⟩ := rep_reads I bare_sub rd ed _ rx
            have q := post_v hp ho (.str e.shown)
            have fin : ∀ (h' : Heap) (t : Tok) (tk : Nat), (∀ b o, s.heap.get? b = some o → h'.get? b = some o) → EP X pins σ Q (.str e.shown t) { s with heap := h', toks := tk } := fun h' t tk k => ⟨.str e.shown, H, I.kept (t' := tk) k, ⟨t, rfl⟩, q⟩
            cases hr with
            | none => exact PySem.P.repr_of_none (fin s.heap _ _ fun _ _ z => z)
            | bool b => exact PySem.P.repr_of_bool (fin s.heap _ _ fun _ _ z => z)
            | int i t => exact PySem.P.repr_of_int (by simpa [PyData.showable] using hs) (fin s.heap _ _ fun _ _ z => z)
            | str z t => exact PySem.P.repr_of_str (fin s.heap _ _ fun _ _ z => z) hsz
            | list a b c e => exact repr_of_reads' (Reads.list a b c e) hs (fun _ => hn) hg (by omega) (fun _ _ z => z) (fun h' u tk k => fin h' u tk k) hsz
            | tuple a b c e => exact repr_of_reads' (Reads.tuple a b c e) hs (fun _ => hn) hg (by omega) (fun _ _ z => z) (fun h' u tk k => fin h' u tk k) hsz
            | dict a b c e f => exact repr_of_reads' (Reads.dict a b c e f) hs (fun _ => hn) hg (by omega) (fun _ _ z => z) (fun h' u tk k => fin h' u tk k) hsz
      · exact ho.elim
    · exact ho.elim
  · unfold oRepr at z ⊢
    split
    · split <;> simp_all
    · split at z <;> simp_all
end DL
end
section
set_option Elab.async false
set_option linter.all false
set_option maxRecDepth 100000
set_option maxHeartbeats 400000
/-! tuple(d.items()) -/
namespace DL
open PySem PySem.W PySem.Calls L2 PyProof.Rows
open L2.DX (itemsO itemsO_ok)
section
variable {prog : Program} {w : World} {K : Type} [DecidableEq K] {knd : KeyKind prog w K} {A : Around} {E : Value → Shared → Prop} {s : Shared} {r d : Addr} {kvs : List (K × Value)} {ep : Nat}
theorem code_tuple_new_items {Q₁ : Value → Shared → Prop} (hh : A.handled = none) (hv : s.heap.IsItemsView r d) (hm : s.heap.DictAt knd d kvs ep) (hn : kvs.length ≤ sizeLine)
    (h : ∀ (h' : Heap) (tk : Nat) (as : List Addr), (∀ b o, s.heap.get? b = some o → h'.get? b = some o) → as.length = kvs.length → KdxG knd kvs s.heap.objs.size h' as →
      Q₁ (.ref h'.objs.size) { s with heap := h'.push { cls := .type "tuple", data := .seq (as.map Value.ref).toArray }, toks := tk }) :
    codeAny (model prog w) A (.call (.builtin "tuple.__new__") ⟨[.type "tuple", .ref r], []⟩) (wants Q₁ E) s := by
  refine codeAny_of_tree ?_
  show wpAny _ A.in1 (do checkBuiltinCall "tuple.__new__" ⟨[.type "tuple", .ref r], []⟩; again (.builtin "tuple.__new__" ⟨[.type "tuple", .ref r], []⟩)) _ _ s
  refine wpAny_bind (wpAny_of_eq (F.newCall_tuple_1 _) (wpAny_pure ⟨plainId_quiet F.plain_tuple_new _, codeAny_builtin F.entry_tuple_new ?_⟩))
  rw [Around.under_plainId F.plain_tuple_new _]
  have hsub := sub_tuple_self
  have hinit := init_tuple_lookup
  have hmh := madeHere_tuple
  have hTI : s.TypeIs (.ref r) "dict_items" := hv.typeIs
  have hh1 : A.in1.handled = none := hh
  wp_walk using wpAny_typeOf hTI, kdx_collect (A := A.in1) (knd := knd) (kvs := kvs) (ep := ep) hh1 hv hm hn
  intro h' tk as hk hl hG
  show wpAny _ _ (Builtin.Tuple.tupleExact (as.map Value.ref).toArray >>= fun v => ret v) _ _ _
  unfold Builtin.Tuple.tupleExact
  refine wpAny_bind (wpAny_newObj_type ?_ (by show (as.map Value.ref).toArray.size ≤ sizeLine; simp only [List.size_toArray, List.length_map]; rw [hl]; exact hn))
  exact wpAny_pure (h h' tk as hk hl hG)
theorem call_tuple_items {Q : Value → Shared → Prop} (hh : A.handled = none) (hv : s.heap.IsItemsView r d) (hm : s.heap.DictAt knd d kvs ep) (hn : kvs.length ≤ sizeLine)
    (hQ : ∀ (h' : Heap) (tk : Nat) (as : List Addr), (∀ b o, s.heap.get? b = some o → h'.get? b = some o) → as.length = kvs.length → KdxG knd kvs s.heap.objs.size h' as →
      Q (.ref h'.objs.size) { s with heap := h'.push { cls := .type "tuple", data := .seq (as.map Value.ref).toArray }, toks := tk }) :
    wpAny (model prog w) A (call (.type "tuple") [.ref r]) Q E s := by
  refine callType_codes (Q₁ := fun obj s₁ => s₁.TypeIs obj "tuple" ∧ Q obj s₁) F.called_tuple (F.typeCall_tuple_1 _) F.entry_object_init
    (code_tuple_new_items (A := A.in1) hh hv hm hn fun h' tk as hk hl hG => ⟨⟨_, Heap.get?_push_size _ rfl, rfl⟩, hQ h' tk as hk hl hG⟩) fun obj s₁ h₁ => ?_
  exact ⟨h₁.1, F.args_object_init_2 obj _, object_init_meets F.called_tuple.init.lookup F.called_tuple.made (by decide) prog w A.in1 _ s₁ ⟨h₁.1, rfl, h₁.2⟩⟩
end
/-! ### many new things at once -/
section
variable {fs ex : List Addr} {H H' : Hp} {h h' : Heap}
theorem un_many (k : ∀ b u, h.get? b = some u → h'.get? b = some u) (sm : Same H H') (nw : ∀ b, H b = none → H' b ≠ none → h.get? b = none) : Un fs ex H H' h h' where
  keep := fun b u q _ _ _ => k b u q
  slot := fun b u q _ _ _ => ⟨u.slots, k b u q⟩
  free := fun b u q n _ => by
    cases e : H' b with
    | none => rfl
    | some o => rw [nw b n (by rw [e]; simp)] at q; cases q
  there := fun b u q _ => ⟨u, k b u q⟩
  tups := fun b xs q => sm b _ q
  frzs := fun b u xs q => sm b _ q
  tbls := fun b ps q => ⟨#[], by rw [sm b _ q]; simp⟩
theorem hok_many {P : Program} {w : World} (x : HOk P w H h) (k : ∀ b u, h.get? b = some u → h'.get? b = some u) (sm : Same H H') (new : ∀ b o, H b = none → H' b = some o → ObjOk P w H' h' b o) : HOk P w H' h' := fun b u e => by
  cases q : H b with
  | none => exact new b u q e
  | some o =>
    have e2 := sm b o q
    rw [e2] at e
    have e3 : o = u := Option.some.inj e
    subst e3
    exact (x b o q).stay (fun c v _ q => k c v q) (fun c q => sm c _ q) fun c xs q => sm c _ q
end
theorem Inv.many {X : Cx} {pins : List (Addr × Obj)} {σ : L2.St} {H H' : Hp} {s : Shared} {h' : Heap} {t' : Nat} (I : L2.Inv X pins σ H s) (k : ∀ b u, s.heap.get? b = some u → h'.get? b = some u) (sm : Same H H') (nw : ∀ b, H b = none → H' b ≠ none → s.heap.get? b = none) (new : ∀ b o, H b = none → H' b = some o → ObjOk X.prog X.w H' h' b o) :
    L2.Inv X pins σ H' { s with heap := h', toks := t' } := I.un (un_many k sm nw) (hok_many I.hok k sm new)
/-! ### d.items(), tuple of it -/
section
variable {X : Cx}
def tItemsK (to : TE) : TE := fun σ H Q => to σ H fun x H1 => ∃ d kvs, x = .ref d ∧ Rd H1 d (.dK kvs) ∧ ∀ p, H1 p = none → Q (.ref p) (upd H1 p (itemsO p d))
theorem pe_itemsK {o : Expr} {to : TE} {apos cpos : Pos} (ho : PE X o to)
    (hbase : attributeBase o "items" X.env (eval o X.env) = eval o X.env := by rfl) (hline : (apos.endLine == cpos.line) = true := by rfl) : PE X (.Call (.Attribute o "items" apos) [] [] cpos) (tItemsK to) := by
  refine ⟨fun pins s σ H Q I h => ?_⟩
  refine wpAny_Call_method0_late hbase hline (thn (ho.run pins s σ H _ I h) fun v s1 ⟨x, H1, I1, r1, d, kvs, ex, rd, q⟩ => ?_)
  subst ex
  cases r1
  obtain ⟨hz, hs, vs, rel, o, es, ep, ho, hx, hd, hk, hp, hnd⟩ := (show ObjOk X.prog X.w H1 s1.heap d (.dK kvs) from rd.ok I1.hok)
  refine ⟨"dict", "dict.items", PySem.F.plainAttrs_dict, PySem.F.slot_dict_items, PySem.F.type_dict_items, ⟨o, ho, hx.1⟩, fun a e => by cases e; exact ⟨o, ho, hx.2.1⟩, Calls.callWith_builtin rfl (PySem.evalArgs_none ?_)⟩
  refine DT.callItems (es := es) (ep := ep) hs ⟨o, ho, hx, hd⟩ ?_
  have hf : H1 s1.heap.objs.size = none := I1.hok.fresh (Nat.le_refl _)
  exact ⟨.ref s1.heap.objs.size, upd H1 s1.heap.objs.size (itemsO s1.heap.objs.size d), I1.laid (t' := s1.toks) (fun b u e => Heap.get?_push_of_some _ e) (Nat.le_refl _) (itemsO_ok (Heap.get?_push_size _ rfl)), rfl, q _ hf⟩
def pairO (kv : Key × V) : HO := .tup [kV kv.1, kv.2]
def rTupItems : List V → Hp → VK → Prop := fun xs H Q => ∃ p d kvs, xs = [.ref p] ∧ H p = some (itemsO p d) ∧ Rd H d (.dK kvs) ∧
  ∀ l H', Same H H' → (∃ as : List Addr, (∀ a ∈ as, H a = none) ∧ Paired (fun a kv => H' a = some (pairO kv)) as kvs ∧ H' l = some (.tup (as.map V.ref))) → H l = none → Q (.ref l) H'
def manyH (H : Hp) (l : Addr) (as : List Addr) (kvs : List (Key × V)) : Hp := fun b => if b = l then some (.tup (as.map V.ref)) else match (as.zip kvs).lookup b with
  | some kv => some (pairO kv)
  | none => H b
theorem paired_mem {α β : Type} {R S : α → β → Prop} : ∀ {xs : List α} {ys : List β}, Paired R xs ys → (∀ a b, a ∈ xs → R a b → S a b) → Paired S xs ys
  | _, _, .nil, _ => .nil
  | _, _, .cons h t, k => .cons (k _ _ (List.mem_cons_self ..) h) (paired_mem t fun a b m => k a b (List.mem_cons_of_mem _ m))
theorem lookup_zip {β : Type} : ∀ {as : List Addr} {ks : List β}, as.Nodup → as.length = ks.length → Paired (fun a k => (as.zip ks).lookup a = some k) as ks
  | [], [], _, _ => .nil
  | a :: as, k :: ks, nd, hl => by
    have nd' := List.nodup_cons.mp nd
    refine .cons (by simp [List.lookup]) (paired_mem (lookup_zip nd'.2 (by simpa using hl)) fun b y hb e => ?_)
    have hne : (b == a) = false := by
      simp only [beq_eq_false_iff_ne]
      intro z
      rw [z] at hb
      exact nd'.1 hb
    simp only [List.zip_cons_cons, List.lookup, hne]
    exact e
theorem lookup_ix {β : Type} : ∀ {as : List Addr} {ks : List β} {a : Addr} {k : β}, (as.zip ks).lookup a = some k → ∃ j : Nat, as[j]? = some a ∧ ks[j]? = some k
  | [], _, a, k, e => by simp at e
  | _ :: _, [], a, k, e => by simp at e
  | b :: as, y :: ks, a, k, e => by
    simp only [List.zip_cons_cons, List.lookup] at e
    split at e
    · next h => exact ⟨0, by simp at h; simp [h], by simpa using e⟩
    · obtain ⟨j, e1, e2⟩ := lookup_ix e
      exact ⟨j + 1, by simpa using e1, by simpa using e2⟩
theorem rel_at {κ : Type} : ∀ {kvs : List (κ × V)} {vs : List (κ × Value)}, Paired (fun a b => a.1 = b.1 ∧ RelV a.2 b.2) kvs vs → ∀ {j : Nat} {kv : κ × V} {k : κ} {x : Value}, kvs[j]? = some kv → vs[j]? = some (k, x) → kv.1 = k ∧ RelV kv.2 x
  | _, _, .nil, j, kv, k, x, e, _ => by simp at e
  | _, _, .cons h t, 0, kv, k, x, e1, e2 => by
    simp at e1 e2
    subst e1
    rw [e2] at h
    exact h
  | _, _, .cons h t, j + 1, kv, k, x, e1, e2 => rel_at t (by simpa using e1) (by simpa using e2)
theorem vals_refs : ∀ as : List Addr, Vals (as.map V.ref) (as.map Value.ref)
  | [] => .nil
  | a :: as => .cons rfl (vals_refs as)
theorem cr_tupItems (hc : X.calm = true) : CallR X (.type "tuple") rTupItems := by
  intro pins s σ H xs us Q I r h
  obtain ⟨p, d, kvs, rfl, hp, rd, q⟩ := h
  rw [Vals.ref1 r]
  obtain ⟨hz, lo, vs, rel, dd⟩ := dk_rd I.hok rd
  obtain ⟨ep, hat⟩ := dd.dictAt
  have hl : kvs.length = vs.length := Paired.length rel
  have hv : s.heap.IsItemsView p d := (I.hok p _ hp).1
  refine call_tuple_items (I.ok.hd hc) hv hat (by rw [← hl]; exact hz) fun h' tk as hk hal hG => ?_
  have nd : as.Nodup := hG.rise.imp (fun h => Nat.ne_of_lt h)
  have hal' : as.length = kvs.length := by rw [hal, hl]
  have lz := lookup_zip (ks := kvs) nd hal'
  have fresh : ∀ a ∈ as, H a = none ∧ s.heap.get? a = none ∧ a ≠ h'.objs.size := fun a ha => by
    have hb := hG.above a ha
    refine ⟨I.hok.fresh (Nat.le_of_lt hb), ?_, Nat.ne_of_lt (hG.there ha)⟩
    cases e : s.heap.get? a with
    | none => rfl
    | some o => exact absurd (Heap.lt_size e) (Nat.not_lt.mpr (Nat.le_of_lt hb))
  have I1 : L2.Inv X pins σ H { s with heap := h' } := I.kept (t' := s.toks) hk
  have hnl : H h'.objs.size = none := I1.hok.fresh (Nat.le_refl _)
  have hsl : s.heap.get? h'.objs.size = none := by
    cases e : s.heap.get? h'.objs.size with
    | none => rfl
    | some o => exact absurd (Heap.lt_size (hk _ _ e)) (Nat.lt_irrefl _)
  have sm : Same H (manyH H h'.objs.size as kvs) := fun b o e => by
    unfold manyH
    rw [if_neg (fun z => by rw [z, hnl] at e; cases e)]
    cases e2 : (as.zip kvs).lookup b with
    | none => exact e
    | some kv =>
      obtain ⟨j, e3, _⟩ := lookup_ix e2
      rw [(fresh b (List.mem_of_getElem? e3)).1] at e
      cases e
  have kp : ∀ b u, s.heap.get? b = some u → (h'.push { cls := .type "tuple", data := .seq (as.map Value.ref).toArray }).get? b = some u := fun b u e => Heap.get?_push_of_some _ (hk b u e)
  have atA : Paired (fun a kv => manyH H h'.objs.size as kvs a = some (pairO kv)) as kvs := paired_mem lz fun a kv ha e => by
    unfold manyH
    rw [if_neg (fresh a ha).2.2, e]
  have atL : manyH H h'.objs.size as kvs h'.objs.size = some (.tup (as.map V.ref)) := by unfold manyH; rw [if_pos rfl]
  refine ⟨.ref h'.objs.size, manyH H h'.objs.size as kvs, Inv.many (t' := tk) I kp sm (fun b h1 h2 => ?_) (fun b o h1 h2 => ?_), rfl, q _ _ sm ⟨as, fun a ha => (fresh a ha).1, atA, atL⟩ hnl⟩
  · unfold manyH at h2
    split at h2
    · next e => rw [e]; exact hsl
    · split at h2
      · next kv e =>
        obtain ⟨j, e3, _⟩ := lookup_ix e
        exact (fresh b (List.mem_of_getElem? e3)).2.1
      · exact absurd h1 h2
  · unfold manyH at h2
    split at h2
    · next e =>
      cases h2
      subst e
      refine ⟨by rw [List.length_map, hal']; exact hz, as.map Value.ref, vals_refs as, ⟨_, Heap.get?_push_size _ rfl, rfl, _, rfl⟩⟩
    · split at h2
      · next kv e =>
        cases h2
        obtain ⟨j, e3, e4⟩ := lookup_ix e
        obtain ⟨key, k, x, e5, e6, e7⟩ := hG.pairs j b e3
        obtain ⟨k1, k2⟩ := rel_at rel e4 e5
        have z : keyIs k key = true := e6
        have rk : RelV (kV kv.1) key := by
          rw [k1]
          rcases keyIs_shape z with ⟨i, t, rfl, e⟩ | ⟨x, t, rfl, e⟩
          · exact ⟨t, e⟩
          · exact ⟨t, e⟩
        exact ⟨by show 2 ≤ sizeLine; decide +kernel, [key, x], .cons rk (.cons k2 .nil), ⟨_, Heap.get?_push_of_some _ e7, rfl, _, rfl⟩⟩
      · rw [h1] at h2; cases h2
end
end DL
end
section
set_option Elab.async false
set_option linter.all false
set_option maxRecDepth 100000
set_option maxHeartbeats 400000
/-! objects: properties, making -/
namespace DL
open PySem L2 PyProof.Rows
variable {Z : Bs}
theorem lookup_rep {K : PySem.W.Frag} {p : Addr} {B : Hp} : ∀ {fs : List (Str × V)} {fds : List (Str × D)} {f : Str} {d : D}, fs.map (·.1) = fds.map (·.1) → Reps K p B (fds.map (·.2)) (fs.map (·.2)) → fds.lookup f = some d → ∃ v, fs.lookup f = some v ∧ Rep K p B d v
  | [], [], f, d, _, _, e => by cases e
  | [], _ :: _, _, _, e, _, _ => by cases e
  | _ :: _, [], _, _, e, _, _ => by cases e
  | (n, v) :: fs, (n', x) :: fds, f, d, e, r, h => by
    simp only [List.map_cons, List.cons.injEq] at e
    obtain ⟨e1, e2⟩ := e
    subst e1
    cases r with
    | cons r1 rs =>
      simp only [List.lookup] at h ⊢
      split at h
      · cases h; exact ⟨v, rfl, r1⟩
      · exact lookup_rep e2 rs h
/-! ### properties -/
structure GetD (X : Cx) (C : Addr) (sp : Sp) (o : O1) : Prop where
  run : ∀ (E : XK) (x : V) (H : Hp) (Q : VK) (p : Addr) (own : List Addr) (d : D) (k : Vl → Prop), (∀ b ∈ own, H b ≠ none) → Rep1 X.K p (bare own H) H d x → o d k → (∀ z, k z → PostR X.K p own H Q z) → ∃ a dx fs, x = .ref a ∧ H a = some (.ins C dx fs) ∧ sp [.ref a] H Q E
  mono : ∀ x (k k' : Vl → Prop), (∀ z, k z → k' z) → o x k → o x k'
theorem de_prop {X : Cx} {e : Expr} {w : WE} {C p g : Addr} {f : Str} {k : Nat} {fd : FuncData} {ps : List Str} {sp : Sp} {o : O1} {pos : Pos} (he : DE X Z e w) (c : Cls X.K C) (hp : PropOf X.K C f p g) (F : FnOk X.prog X.w X.K X.mg X.base CX0 k g fd ps sp) {j : Nat} (hr : Room j X.A) (hk : k + 1 ≤ j) (hb : Binds X.K fd ps []) (G : GetD X C sp o)
    (hab : attributeBase e f X.env (eval e X.env) = eval e X.env) : DE X Z (.Attribute e f pos) (wUn o w) := by
  refine ⟨⟨fun pins s σ H Q I q => (pe_prop (E := C8.E0) he.pe c hp F (hr.mono hk) hb .nil pass0 hab).run pins s σ H Q I ?_⟩, wUn_mono G.mono he.mono⟩
  obtain ⟨g, S, ok, q⟩ := q
  refine ⟨g, S, ok, he.mono S _ _ (fun x S1 q1 g1 v H1 ok1 rv1 st1 => ?_) q⟩
  obtain ⟨dx, e1, q1⟩ := use_of q1
  exact G.run _ v H1 Q g1.p g1.own dx _ ok1.gok.live (deref_rep ok1 rv1 e1) q1 (post_of ok1 st1 fun z h => h)
def fldD (C : Addr) (f : Str) : D → Option D
  | .obj C' fs => if C' = C then fs.lookup f else none
  | _ => none
theorem fld_rep {K : PySem.W.Frag} {p : Addr} {B H : Hp} {C : Addr} {f : Str} {d y : D} {x : V} (r : Rep1 K p B H d x) (e : fldD C f d = some y) : ∃ a dx fs v, x = .ref a ∧ H a = some (.ins C dx fs) ∧ fs.lookup f = some v ∧ Rep K p B y v := by
  cases r with
  | obj h1 h2 h3 =>
    simp only [fldD] at e
    split at e
    · next ec =>
      subst ec
      obtain ⟨v, e1, rv⟩ := lookup_rep h2 h3 e
      exact ⟨_, _, _, v, rfl, h1, e1, rv⟩
    · cases e
  | _ => simp only [fldD] at e; cases e
/-- a getter that gives a field -/
def oFld (C : Addr) (f : Str) : O1 := fun d k => match fldD C f d with
  | some y => k (.v y)
  | none => False
theorem g_fld {X : Cx} {C : Addr} {f : Str} : GetD X C (getSp C f) (oFld C f) := by
  refine ⟨fun E x H Q p own d k hl r ho hp => ?_, fun d k k' h z => ?_⟩
  · unfold oFld at ho
    split at ho
    · next y e =>
      obtain ⟨a, dx, fs, v, rfl, e1, e2, rv⟩ := fld_rep r e
      exact ⟨a, dx, fs, rfl, e1, a, dx, fs, v, rfl, e1, e2, hp _ ho v H same_rf rv⟩
    · exact ho.elim
  · unfold oFld at z ⊢
    split <;> simp_all
/-- tuple(self.f.items()) -/
def spItems (C : Addr) (f : Str) : Sp := fun vs H Q _ => ∃ a dx fs d kvs, vs = [.ref a] ∧ H a = some (.ins C dx fs) ∧ fs.lookup f = some (.ref d) ∧ Rd H d (.dK kvs) ∧
  ∀ l H', Same H H' → (∃ as : List Addr, (∀ a ∈ as, H a = none) ∧ Paired (fun a kv => H' a = some (pairO kv)) as kvs ∧ H' l = some (.tup (as.map V.ref))) → H l = none → Q (.ref l) H'
def oItems (C : Addr) (f : Str) : O1 := fun d k => match fldD C f d with
  | some (.dk kvs) => k (.v (.tup (kvs.map fun kv => .tup [kD kv.1, kv.2])))
  | _ => False
theorem pairs_back {K : PySem.W.Frag} {p : Addr} {B H' : Hp} {own : List Addr} (sb : Same B (bare own H')) : ∀ {as : List Addr} {kvs : List (Key × V)} {kds : List (Key × D)}, Paired (fun a kv => H' a = some (pairO kv)) as kvs → (∀ a ∈ as, a ∉ own) → kvs.map (·.1) = kds.map (·.1) → Reps K p B (kds.map (·.2)) (kvs.map (·.2)) → Reps K p (bare own H') (kds.map fun kv => .tup [kD kv.1, kv.2]) (as.map V.ref)
  | _, _, [], .nil, _, _, _ => .nil
  | _, _, _ :: _, .nil, _, e, _ => by cases e
  | _, _, [], .cons _ _, _, e, _ => by cases e
  | a :: as, kv :: kvs, kd :: kds, .cons h t, hn, e, r => by
    simp only [List.map_cons, List.cons.injEq] at e
    cases r with
    | cons r1 rs =>
      refine .cons (.tup (SqT.of (by rw [bare_ne (hn a (List.mem_cons_self ..))]; exact h)) (.cons ?_ (.cons (r1.mono sb) .nil))) (pairs_back sb t (fun b hb => hn b (List.mem_cons_of_mem _ hb)) e.2 rs)
      rw [← e.1]
      exact kD_rep _
theorem g_items {X : Cx} {C : Addr} {f : Str} : GetD X C (spItems C f) (oItems C f) := by
  refine ⟨fun E x H Q p own d k hl r ho hp => ?_, fun d k k' h z => ?_⟩
  · unfold oItems at ho
    split at ho
    · next kvs e =>
      obtain ⟨a, dx, fs, v, rfl, e1, e2, rv⟩ := fld_rep r e
      cases rv with
      | dk h1 h2 h3 =>
        refine ⟨a, dx, fs, rfl, e1, a, dx, fs, _, _, rfl, e1, e2, .inr ⟨_, bare_sub _ _ h1⟩, fun l H' sm ⟨as, fr, pa, hl'⟩ hnl => ?_⟩
        have sb : Same (bare own H) (bare own H') := bare_same sm
        have hno : ∀ b, H b = none → b ∉ own := fun b hb z => hl b z hb
        exact hp _ ho _ H' sm (.tup (SqT.of (by rw [bare_ne (hno l hnl)]; exact hl')) (pairs_back sb pa (fun b hb => hno b (fr b hb)) h2 h3))
    · exact ho.elim
  · unfold oItems at z ⊢
    split <;> simp_all
/-- len(self.f) -/
def spLen (K : PySem.W.Frag) (C : Addr) (f : Str) : Sp := fun vs H Q _ => ∃ a dx fs l ys, vs = [.ref a] ∧ H a = some (.ins C dx fs) ∧ fs.lookup f = some (.ref l) ∧ SqT K H l ys ∧ Q (.int ys.length) H
def oLenF (C : Addr) (f : Str) : O1 := fun d k => match fldD C f d with
  | some (.tup xs) => k (.v (.int xs.length))
  | _ => False
theorem g_len {X : Cx} {C : Addr} {f : Str} : GetD X C (spLen X.K C f) (oLenF C f) := by
  refine ⟨fun E x H Q p own d k hl r ho hp => ?_, fun d k k' h z => ?_⟩
  · unfold oLenF at ho
    split at ho
    · next xs e =>
      obtain ⟨a, dx, fs, v, rfl, e1, e2, rv⟩ := fld_rep r e
      cases rv with
      | tup h1 h2 => exact ⟨a, dx, fs, rfl, e1, a, dx, fs, _, _, rfl, e1, e2, sqT_same bare_sub h1, by rw [← h2.len]; exact hp _ ho (.int _) H same_rf (.int _)⟩
    · exact ho.elim
  · unfold oLenF at z ⊢
    split <;> simp_all
/-! ### tables that are known -/
def TZ (tb : List (Addr × Str)) (Z : Bs) : Bs := fun q own H => q.tb = tb ∧ Z q own H
theorem zup_TZ {tb : List (Addr × Str)} {Z : Bs} (h : ZUp Z) : ZUp (TZ tb Z) := fun q own H a o z h1 h2 h3 => ⟨z.1, h q own H a o z.2 h1 h2 h3⟩
theorem exs_fnT {tb : List (Addr × Str)} {P : Program} {w : World} {K : PySem.W.Frag} {mg : Str → Option Value} {base : Heap} {N : List Str} {qual : Str} {sc : Scope} {f : Addr} {cdv : Value} {A : Around} {outer : List Env} {s : Shared} {H : Hp} {E : XK} {ex : KX} :
    Exs (cxOf (L2.CX P w) P w K mg base N qual sc f cdv A outer s H E) (TZ tb (ExZ K ex E)) fun C d S => ex C d S.n := by
  refine ⟨fun pins σ H1 s1 g I e s' c => ?_⟩
  have tk : Takes (cxOf (L2.CX P w) P w K mg base N qual sc f cdv A outer s H E) (fun cls d _ H => E cls d H) := takes_of rfl rfl rfl rfl
  refine tk e s' (XE.of_call I (fun cls d H' z => ?_) c)
  obtain ⟨C, dx, v, d, S', g', rfl, rfl, he, r, ok, st, hx⟩ := z
  have hs : Same (bare g'.own H') (bare g'.own0 H') := bare_less (fun a ha => ok.gok.b0 a ha)
  refine ok.hb.2 C d S'.n hx v dx H' he (r.mono hs) ⟨same_tr ok.gok.b1 hs, fun a ha hne => ?_, ok.gok.pot, ok.gok.tabs⟩
  rcases ok.gok.b3 a ha with z | z
  · exact absurd z hne
  · exact ok.gok.b2 a z
def spDT (K : PySem.W.Frag) (tb : List (Addr × Str)) (m : Nat) (wF : WF) : Sp := fun vs H Q E => ∃ (own : List Addr) (q : Gp) (n : Nat) (ds : List D), q.tb = tb ∧ ds.length = m ∧ (∀ a ∈ q.gl, a ∈ own) ∧ (∀ a ∈ own, Lv H a) ∧ PotB H q.p n ∧ LamX.Tabs q.tb H ∧ Reps K q.p (bare own H) ds vs ∧
  wF ds n (fun d n' => ∀ v H', Rep K q.p (bare own H') d v → After own q H H' n' → Q v H') fun C d n' => ∀ v dx H', ErrAt H' dx v → Rep K q.p (bare own H') d v → After own q H H' n' → E (.ref C) (some dx) H'
section
variable {P : Program} {w : World} {K : PySem.W.Frag} {mg : Str → Option Value} {base : Heap} {tb : List (Addr × Str)}
theorem def_okT {x qual : Str} {st : Stmt} {f : Addr} {fd : FuncData} {N ps : List Str} {k : Nat} {wB : KX → WS} (F : Fun K x qual st f fd) (S : FnScope N ps (defScope st))
    (hbody : ∀ (cdv : Value) (A : Around) (outer : List Env) (s : Shared) (H : Hp) (E : XK) (ex : KX), A.guards = some [] → Room k (A.deeper (envOfC qual (defScope st) s.heap.objs.size f cdv)) →
      DSs (cxOf (L2.CX P w) P w K mg base N qual (defScope st) f cdv A outer s H E) (TZ tb (ExZ K ex E)) (defBody st) (wB ex)) : FnX P w K mg base (k + 1) f fd ps (spDT K tb ps.length (wFn N.length wB)) := by
  refine fun_okX F S (fun vs H Q E h => ?_) (fun cdv A outer s H vs Q E hg hr h => ?_)
  · obtain ⟨own, q, n, ds, _, hl, _, _, _, _, r, _⟩ := h
    rw [← r.len, hl]
  · obtain ⟨own, q, n, ds, etb, hl, hp, hlv, hpot, htb, r, h⟩ := h
    refine ⟨_, (hbody cdv A outer s H E (fun C d n' => ∀ v dx H', ErrAt H' dx v → Rep K q.p (bare own H') d v → After own q H H' n' → E (.ref C) (some dx) H') hg hr).ps, ?_⟩
    have ok := env_start (Z := TZ tb (ExZ K (fun C d n' => ∀ v dx H', ErrAt H' dx v → Rep K q.p (bare own H') d v → After own q H H' n' → E (.ref C) (some dx) H') E)) (N := N) ⟨etb, fun C d n hx v dx H' e1 e2 e3 => hx v dx H' e1 e2 e3⟩ hp hlv hpot htb r
    refine ⟨_, _, _, ok, h, ⟨fun S' g' σ' H' z ok' st => ?_, fun d n' g' v H' z gk rv st => ?_, fun _ _ _ _ z => z.elim, fun _ _ _ _ z => z.elim⟩⟩
    · exact z .non H' .non (after_of (K := K) rfl ok'.gok st).1
    · obtain ⟨a1, a2⟩ := after_of (K := K) rfl gk st
      exact z v H' (by have hp' : g'.p = q.p := st.p; rw [hp'] at rv; exact rv.mono a2) a1
structure DefT (P : Program) (w : World) (K : PySem.W.Frag) (mg : Str → Option Value) (base : Heap) (k : Nat) (x : Str) (tb : List (Addr × Str)) (m : Nat) (wF : WF) : Prop where
  ex : ∃ (f : Addr) (fd : FuncData) (ps : List Str), FnX P w K mg base k f fd ps (spDT K tb m wF) ∧ mg x = some (.ref f) ∧ PySem.W.keepIn K (.ref f) = true ∧ Binds K fd ps []
theorem DefOf.okT {x : Str} {st : Stmt} {N ps : List Str} {k : Nat} {wB : KX → WS} (D : DefOf K mg x st ps) (S : FnScope N ps (defScope st))
    (hbody : ∀ (f : Addr) (cdv : Value) (A : Around) (outer : List Env) (s : Shared) (H : Hp) (E : XK) (ex : KX), A.guards = some [] → Room k (A.deeper (envOfC x (defScope st) s.heap.objs.size f cdv)) →
      DSs (cxOf (L2.CX P w) P w K mg base N x (defScope st) f cdv A outer s H E) (TZ tb (ExZ K ex E)) (defBody st) (wB ex)) : DefT P w K mg base (k + 1) x tb ps.length (wFn N.length wB) := by
  obtain ⟨f, fd, F, hm, hb⟩ := D.ex
  exact ⟨f, fd, ps, def_okT F S (hbody f), hm, F.kp, hb⟩
end
/-! ### making objects -/
structure MkD (K : PySem.W.Frag) (C : Addr) (tb : List (Addr × Str)) (m : Nat) (sp : Sp) (wF : WF) : Prop where
  run : ∀ (E : XK) (own : List Addr) (q : Gp) (n : Nat) (ds : List D) (vs : List V) (H : Hp) (x dx : Addr) (Q : Hp → Prop), q.tb = tb → (∀ a ∈ q.gl, a ∈ own) → (∀ a ∈ own, Lv H a) → PotB H q.p n → LamX.Tabs q.tb H → Reps K q.p (bare own H) ds vs → H x = none → H dx = none → dx ≠ x → ds.length = m →
    wF ds n (fun d n' => ∀ H', Rep K q.p (bare own H') d (.ref x) → After own q H H' n' → Q H') (fun _ _ _ => False) → sp (.ref x :: vs) (upd (upd H dx (.own x)) x (.ins C dx [])) (fun v H' => v = .non ∧ LockC Q H') E
  mono : MonoF wF
section
variable {X : Cx} {k m : Nat} {x : Str} {C : Addr} {tb : List (Addr × Str)} {sp : Sp} {wF : WF} {wa : WA} {p pos : Pos} {e : Expr} {es : List Expr}
theorem de_mk (M : C8.Mak X.prog X.w X.K X.mg X.base k x C sp []) (R : MkD X.K C tb m sp wF) (hZ : ∀ q own H, Z q own H → q.tb = tb) {j : Nat} (hr : Room j X.A) (hk : k + 1 ≤ j) (hgl : Gl X x) (ha : DA X Z (e :: es) wa)
    (hdb : (x == ("__debug__" : Str)) = false := by decide) (hs : starEach (e :: es) X.env = (false, eval e X.env) :: starEach es X.env := by rfl) (hpl : (backTo pos (starEach es X.env)).any (·.1) = false := by rfl) :
    DE X Z (.Call (.Name x p) (e :: es) [] pos) (wCall m wF (fun _ _ _ => False) wa) := by
  refine ⟨PE.imp (C8.pe_mk M hr hk hgl (pa_give ha) hdb hs hpl) fun σ H Q ⟨g, S, ok, q⟩ => ?_, wCall_mono R.mono ha.mono⟩
  refine ⟨g, S, ok, wGive_mono ha.mono S _ _ (fun ds S1 z g1 vs H1 ok1 r1 st1 a dx n1 n2 n3 => ?_) q⟩
  rw [List.append_nil]
  exact R.run _ g1.own g1.q S1.n ds vs H1 a dx (Q (.ref a)) (hZ _ _ _ ok1.hb) ok1.gok.pin ok1.gok.lv ok1.gok.pot ok1.gok.tabs r1 n1 n2 n3 z.1 (R.mono _ _ _ _ _ _ (fun d n' z2 H' rv af => z2 g1 _ H' (ok1.after af).1 rv (st1.tr (ok1.after af).2)) (fun _ _ _ z => z) z.2)
end
end DL
end
section
set_option Elab.async false
set_option linter.all false
set_option maxRecDepth 100000
set_option maxHeartbeats 400000
/-! objects: making by a keyword, == by their own __eq__ -/
namespace DL
open PySem L2 PyProof.Rows
variable {Z : Bs}
structure MakK (P : Program) (w : World) (K : PySem.W.Frag) (mg : Str → Option Value) (base : Heap) (k : Nat) (x : Str) (C : Addr) (sp : Sp) (ks : List Str) : Prop where
  ex : ∃ (f : Addr) (fd : FuncData) (ps : List Str), Mk K C f ∧ FnOk P w K mg base CX0 k f fd ps sp ∧ mg x = some (.ref C) ∧ KBn K fd ps 1 ks (fun a b => a ++ b) (fun a b => a ++ b)
def wCallK (wF : WF) (w : WE) : WE := fun S Q => wGive1 w S fun d S1 => wF [d] S1.n (fun d n => Q (.v d) ⟨S1.ρ, n⟩) fun _ _ _ => False
theorem wCallK_mono {wF : WF} {w : WE} (hF : MonoF wF) (h : MonoE w) : MonoE (wCallK wF w) := fun S Q Q' k => wGive1_mono h S _ _ fun d S1 z => hF _ _ _ _ _ _ (fun d n => k _ _) (fun _ _ _ z => z) z
section
variable {X : Cx} {k : Nat} {x : Str} {C : Addr} {tb : List (Addr × Str)} {sp : Sp} {wF : WF} {w : WE} {p pos kpos : Pos} {e : Expr} {nm : Str}
theorem de_mkK (M : MakK X.prog X.w X.K X.mg X.base k x C sp [nm]) (R : MkD X.K C tb 1 sp wF) (hZ : ∀ q own H, Z q own H → q.tb = tb) {j : Nat} (hr : Room j X.A) (hk : k + 1 ≤ j) (hgl : Gl X x) (ha : DE X Z e w)
    (hall : (backToKw pos (keywordEach [⟨some nm, e, kpos⟩] X.env)).all (·.1.isSome) = true := by rfl) (hks : (backToKw pos (keywordEach [⟨some nm, e, kpos⟩] X.env)).filterMap (·.1) = [nm] := by rfl) (hdb : (x == ("__debug__" : Str)) = false := by decide)
    (hpl : ((backTo pos (starEach [] X.env)).any (·.1) || (backToKw pos (keywordEach [⟨some nm, e, kpos⟩] X.env)).any (·.1.isNone)) = false := by rfl) :
    DE X Z (.Call (.Name x p) [] [⟨some nm, e, kpos⟩] pos) (wCallK wF w) := by
  obtain ⟨f, fd, ps, Mk1, F, hm, hb⟩ := M.ex
  refine ⟨PE.imp (pe_makeK0 Mk1 F (hr.mono hk) hgl hm hb pass0 (pk_cons (pe_give ha) pk_nil) hall hks hdb hpl) fun σ H Q ⟨g, S, ok, q⟩ => ?_, wCallK_mono R.mono ha.mono⟩
  refine ⟨g, S, ok, wGive1_mono ha.mono S _ _ (fun d S1 z g1 v H1 ok1 r1 st1 => ⟨rfl, rfl, fun a dx n1 n2 n3 => ?_⟩) q⟩
  exact R.run _ g1.own g1.q S1.n [d] [v] H1 a dx (Q (.ref a)) (hZ _ _ _ ok1.hb) ok1.gok.pin ok1.gok.lv ok1.gok.pot ok1.gok.tabs (.cons r1 .nil) n1 n2 n3 rfl (R.mono _ _ _ _ _ _ (fun d n' z2 H' rv af => z2 g1 _ H' (ok1.after af).1 rv (st1.tr (ok1.after af).2)) (fun _ _ _ z => z) z)
end
/-! ### own == -/
def spEqO (C : Addr) (fl : Str) : Sp := fun vs H Q _ => ∃ a dx fs t, H a = some (.ins C dx fs) ∧ fs.lookup fl = some (.str t) ∧
  ((∃ z, vs = [.ref a, .str z] ∧ Q (.bl false) H) ∨ ∃ b dy gs u, vs = [.ref a, .ref b] ∧ H b = some (.ins C dy gs) ∧ gs.lookup fl = some (.str u) ∧ Q (.bl (decide (t = u))) H)
structure EqC (P : Program) (w : World) (K : PySem.W.Frag) (mg : Str → Option Value) (base : Heap) (k : Nat) (C : Addr) (fl : Str) : Prop where
  ex : ∃ (f : Addr) (fd : FuncData) (ps : List Str), FnOk P w K mg base CX0 k f fd ps (spEqO C fl) ∧ PySem.W.findIn K (.ref C) "__eq__" = some (some (.ref f)) ∧ PySem.W.isFn K (.ref f) = true ∧ Binds K fd ps [] ∧ PySem.W.notFirst K C (.type "str") = true
def eqOB (C : Addr) (fl : Str) (x y : D) : Option Bool := match fldD C fl x, y with
  | some (.str _), .str _ => some false
  | some (.str t), y => match fldD C fl y with
    | some (.str u) => some (decide (t = u))
    | _ => none
  | _, _ => none
def oEqO (C : Addr) (fl : Str) : O2 := fun x y k => match eqOB C fl x y with
  | some b => k (.v (.bl b))
  | none => False
section
variable {X : Cx} {k : Nat} {C : Addr} {fl : Str}
theorem eqO_run (c : EqC X.prog X.w X.K X.mg X.base k C fl) (hr : Room k X.A) {pins : List (Addr × Obj)} {s : Shared} {σ : L2.St} {H : Hp} {a : Addr} {y : V} {u : Value} {Q : VK} {b : Bool} (I : L2.Inv X pins σ H s) (ry : RelV y u)
    (hty : ∃ tb, PySem.W.Looks (model X.prog X.w) s.heap (typeOf u) tb ∧ PySem.W.notFirst X.K C tb = true) (ha : ∃ dx fs, H a = some (.ins C dx fs)) (hsp : ∀ Q' : VK, Q' (.bl b) H → spEqO C fl [.ref a, y] H Q' C8.E0) (q : Q (.bl b) H) :
    wpAny (model X.prog X.w) X.A (richCompare .Eq (.ref a) u) (EP X pins σ Q) X.xe s := by
  obtain ⟨f, fd, ps, F, hs, hf, hb, _⟩ := c.ex
  obtain ⟨dx, fs, ha⟩ := ha
  obtain ⟨tb, ht, hn⟩ := hty
  obtain ⟨mA, J, _⟩ := ins_get I.hok ha
  obtain ⟨od, J, _⟩ := J.look
  obtain ⟨m, hF⟩ := I.fr
  refine PySem.W.cmp_K (op := .Eq) (tb := tb) hr.units0 hF I.ok.mod.kin J ht hn hs hf ?_
  have hsp := hsp (fun v H' => v = .bl b ∧ Q v H') ⟨rfl, q⟩
  have hl := F.len _ _ _ _ hsp
  have r2 : Vals [V.ref a, y] [Value.ref a, u] := .cons rfl (.cons ry .nil)
  refine wpAny_call (codeAny_mono (F.run X.A X.stack s H ⟨[.ref a, u], []⟩ [.ref a, u] [.ref a, y] _ C8.E0 hr I.env0 (by
    have := hb s [.ref a, u] I.kIn (by simpa using hl)
    simpa using this) r2 hsp) fun r s' hq => ?_)
  cases r with
  | error e => exact hq.elim
  | ok fl =>
    cases fl with
    | ret w =>
      obtain ⟨z, H', I', rz, ez, q'⟩ := I.after hq
      subst ez
      cases rz
      exact ⟨.bl b, H', I', rfl, q'⟩
    | next => exact False.elim hq
    | brk => exact False.elim hq
    | cont => exact False.elim hq
theorem d_eqO (c : EqC X.prog X.w X.K X.mg X.base k C fl) {j : Nat} (hr : Room j X.A) (hk : k ≤ j) : OpD X (compareOp .Eq) (oEqO C fl) := by
  refine ⟨fun pins s σ H x y v u Q I rx ry ⟨p, own, dx, dy, k, hl, r1, r2, ho, hp⟩ => ?_, fun x y k k' h z => ?_⟩
  · show wpAny (model X.prog X.w) X.A (richCompare .Eq v u) (EP X pins σ Q) X.xe s
    unfold oEqO at ho
    split at ho
    · next bb eb =>
      have q := post_v hp ho (.bl bb)
      unfold eqOB at eb
      split at eb
      · next t z e =>
        cases eb
        obtain ⟨a, ax, fs, w1, rfl, e1, e2, rv⟩ := fld_rep r1 e
        cases rv
        cases r2
        cases rx
        obtain ⟨f, fd, ps, _, _, _, _, hn⟩ := c.ex
        obtain ⟨tk, rfl⟩ := ry
        exact eqO_run c (hr.mono hk) (y := .str z) I ⟨tk, rfl⟩ ⟨.type "str", PySem.W.Looks.now, hn⟩ ⟨ax, fs, e1⟩ (fun Q' q' => ⟨a, ax, fs, t, e1, e2, .inl ⟨z, rfl, q'⟩⟩) q
      · next y' t _ e _ =>
        split at eb
        · next u' e' =>
          cases eb
          obtain ⟨a, ax, fs, w1, rfl, e1, e2, rv⟩ := fld_rep r1 e
          obtain ⟨b, bx, gs, w2, rfl, g1, g2, rv2⟩ := fld_rep r2 e'
          cases rv
          cases rv2
          cases rx
          cases ry
          obtain ⟨mB, J', _⟩ := ins_get I.hok g1
          obtain ⟨od', J', _⟩ := J'.look
          exact eqO_run c (hr.mono hk) (y := .ref b) I rfl ⟨.ref C, J'.type, by simp [PySem.W.notFirst]⟩ ⟨ax, fs, e1⟩ (fun Q' q' => ⟨a, ax, fs, _, e1, e2, .inr ⟨b, bx, gs, u', rfl, g1, g2, q'⟩⟩) q
        · cases eb
      · cases eb
    · exact ho.elim
  · unfold oEqO at z ⊢
    cases e : eqOB C fl x y with
    | none => rw [e] at z; exact z
    | some b => rw [e] at z; exact h _ z
end
end DL
end
section
set_option Elab.async false
set_option linter.all false
set_option maxRecDepth 100000
set_option maxHeartbeats 400000
/-! a def that carries its guards, called over the heap; the law's own def -/
namespace DL
open PySem L2 PyProof.Rows
theorem cx_no {P : Program} {w : World} {outer : List Env} {H : Hp} {s s' : Shared} {e : Value} (c : L2.CX P w outer H s (fun _ _ _ => False) e s') : False := by
  obtain ⟨_, _, _, _, _, _, _, _, _, _, _, _, z⟩ := c
  exact z
section
variable {X : Cx} {k : Nat} {f : Addr} {fd : FuncData} {ps : List Str} {sp : Sp} {x : Str} {p pos : Pos} {e : Expr} {es : List Expr} {t : TA}
theorem pe_callX (F : FnX X.prog X.w X.K X.mg X.base k f fd ps sp) (hg : X.A.guards = some []) (hr : Room k X.A) (hgl : Gl X x) (hm : X.mg x = some (.ref f)) (hk : PySem.W.keepIn X.K (.ref f) = true) (hb : Binds X.K fd ps [])
    (ha : PA X (e :: es) t) (hdb : (x == ("__debug__" : Str)) = false := by decide) (hs : starEach (e :: es) X.env = (false, eval e X.env) :: starEach es X.env := by rfl) (hpl : (backTo pos (starEach es X.env)).any (·.1) = false := by rfl) :
    PE X (.Call (.Name x p) (e :: es) [] pos) (tCall sp [] (fun _ _ _ => False) t) := by
  refine ⟨fun pins s σ H Q I h => ?_⟩
  refine wpAny_Call_Name_kw (ld_glob I hgl hm ?_ hdb)
  refine PySem.W.callWith_K (h₀ := X.base) I.ok.mod.kin hk (thn (ha.run pos pins s σ H _ I h) fun us s1 z => ?_) hs hpl
  obtain ⟨vs, H1, I1, r, q⟩ := z
  refine ⟨I1.kIn, ?_⟩
  rw [List.append_nil] at q
  have hl : us.length = ps.length := by rw [← r.length]; exact F.len _ _ _ _ q
  have hb1 := hb s1 us I1.kIn (by rw [List.append_nil]; exact hl)
  rw [List.append_nil] at hb1
  refine wpAny_call (codeAny_mono (F.go X.A X.stack s1 H1 ⟨us, []⟩ us vs Q _ hg hr I1.env0 hb1 r q) fun rr s' z => ?_)
  cases rr with
  | error er => exact (cx_no z).elim
  | ok fl =>
    cases fl with
    | ret u => exact I1.after z
    | next => exact z.elim
    | brk => exact z.elim
    | cont => exact z.elim
end
end DL
end
section
set_option Elab.async false
set_option linter.all false
set_option maxRecDepth 100000
set_option maxHeartbeats 1000000
/-! the law's call with one table of code objects, for a def that carries its guards -/
namespace DL
open PySem PySem.Spec PyProof.Rows L2
abbrev noTab : Obj := { cls := .none, data := .fields #[] }
theorem law_callXT {P : Program} {w : World} {K : PySem.W.Frag} {mg mb : Str → Option Value} {k : Nat} {fa a c tab : Addr} {fd : FuncData} {x : Str} {sp : Sp} {s₁ : Shared} {vs : List Value} {ns : List Int}
    (KX : K.In s₁.heap) (g1 : s₁.heap.Ns mainGlobals mg) (g2 : s₁.heap.Ns builtinsNs mb) (g3 : ∀ x : Str, x ≠ "__name__" → mb x = bootBuiltins x) (g4 : s₁.heap.NoLimit) (g5 : s₁.gens = #[])
    (tT : s₁.heap.get? tab = some noTab) (nT : K.lookup tab = none) (CH : PySem.W.CodeHd s₁.heap c tab)
    (bmn : ∃ (bm : Addr) (ob : Obj), mg "__builtins__" = some (.ref bm) ∧ bm ≠ builtinsNs ∧ s₁.heap.get? bm = some ob ∧ ob.cls = .type "module" ∧ ob.dict = some builtinsNs ∧ ob.data = .plain)
    (la : s₁.heap.get? a = some { cls := .type "list", data := .seq vs.toArray }) (is : IntsAre vs ns) (ln : ns.length ≤ sizeLine) (rm : Room k callerA)
    (F : ∀ base : Heap, K.In base → base.Ns mainGlobals mg → LamX.TabB base mg c tab → FnX P w K mg base k fa fd [x] sp) (bind : ∀ (s : Shared) (u : Value), BindsTo s fd ⟨[u], []⟩ [(x, u)])
    (wish : ∀ H : Hp, H tab = some (.tbl #[]) → SqL K H a (ns.map V.int) → sp [.ref a] H (fun v _ => v = .bl true) fun _ _ _ => False) :
    codeAny (model P w) callerA (.call (.ref fa) ⟨[.ref a], []⟩) (fun r s' => r = .ok (.ret (.bool true)) ∧ OldK s₁.heap s'.heap ∧ s'.os = s₁.os ∧ AllBare s'.gens) s₁ := by
  have rvs := vals_ints is
  have nat : a ≠ tab := fun z => by
    rw [z, tT] at la
    have e : Data.fields #[] = Data.seq vs.toArray _ := congrArg Obj.data (Option.some.inj la)
    cases e
  have main : ∀ H : Hp, H tab = some (.tbl #[]) → (∀ b, H b = none ∨ b = tab ∨ ∃ o xs, H b = some (.frz o (.lst xs))) → SqL K H a (ns.map V.int) → HOk P w H s₁.heap → (∀ b, H b ≠ none → b = a ∨ b = tab) → (H a ≠ none → K.lookup a = none) →
      codeAny (model P w) callerA (.call (.ref fa) ⟨[.ref a], []⟩) (fun r s' => r = .ok (.ret (.bool true)) ∧ OldK s₁.heap s'.heap ∧ s'.os = s₁.os ∧ AllBare s'.gens) s₁ := by
    intro H h1 h2 h3 h4 h5 h6
    have out : ∀ {b : Addr} {o : Obj}, s₁.heap.get? b = some o → (∀ ws n, o.data ≠ .seq ws n) → o.data ≠ .fields #[] → H b = none := fun {b o} e n1 n2 => by
      cases q : H b with
      | none => rfl
      | some u =>
        rcases h5 b (by rw [q]; simp) with y | y
        · rw [y, la] at e
          cases e
          exact absurd rfl (n1 _ _)
        · rw [y, tT] at e
          cases e
          exact absurd rfl n2
    have nsp : ∀ {b : Addr} {m : Str → Option Value}, s₁.heap.Ns b m → (hidT s₁.heap H).Ns b m := by
      rintro b m ⟨o, es, ep, e, d, r⟩
      exact ⟨o, es, ep, hidT_get e (out e (fun ws n y => by rw [d] at y; cases y) (fun y => by rw [d] at y; cases y)), d, r⟩
    have kin : K.In (hidT s₁.heap H) := fun b o e => hidT_get (KX b o e) (by
      cases q : H b with
      | none => rfl
      | some u =>
        rcases h5 b (by rw [q]; simp) with y | y
        · rw [y] at e q
          rw [h6 (by rw [q]; simp)] at e
          cases e
        · rw [y, nT] at e
          cases e)
    obtain ⟨mc, l1, l2⟩ := g4
    have md : L2.Mod K mg (hidT s₁.heap H) := ⟨kin, nsp g1, ⟨mb, nsp g2, g3⟩, ⟨mc, nsp l1, l2⟩⟩
    have tabB : LamX.TabB (hidT s₁.heap H) mg c tab := by
      refine ⟨?_, ?_, fun y => ?_⟩
      · obtain ⟨o, us, file, tf, flags, tg, inF, text, tt, e1, r1, r2, r3, r4, r5, r6, r7, r8, ne⟩ := CH
        refine ⟨o, us, file, tf, flags, tg, inF, text, tt, hidT_get e1 (out e1 (fun ws n y => by rw [r2] at y; cases y) (fun y => ?_)), r1, r2, r3, r4, r5, r6, r7, r8, ne⟩
        rw [r2] at y
        cases y
        simp at r3
      · obtain ⟨bm, ob, b1, b2, b3, b4, b5, b6⟩ := bmn
        refine ⟨bm, ob, b1, b2, fun y => ?_, fun y => ?_, hidT_get b3 (out b3 (fun ws n y => by rw [b6] at y; cases y) (fun y => by rw [b6] at y; cases y)), b4, b5, b6⟩
        · obtain ⟨o, es, ep, e, d, _⟩ := g1
          rw [y, e] at b3
          cases b3
          rw [d] at b6
          cases b6
        · rw [y, tT] at b3
          cases b3
          cases b6
      · obtain ⟨o, es, ep, e, d, _⟩ := g1
        rw [y, tT] at e
        cases e
        cases d
    have env : Env0 P w K mg (hidT s₁.heap H) callerA [] s₁ H := ⟨rfl, md, fun b o e => of_hidT e, Nat.le_of_eq (hidT_size _ _), trivial, fun b y => absurd (show b ∈ ([] : List Addr) from y) (by simp), h4, .of_eq g5⟩
    refine codeAny_mono ((F _ kin (nsp g1) tabB).go callerA [] s₁ H ⟨[.ref a], []⟩ [.ref a] [.ref a] _ _ rfl rm env (bind s₁ (.ref a)) (.cons rfl .nil) (wish H h1 h3)) fun r s' q => ?_
    cases r with
    | error e => exact (cx_no q).elim
    | ok fl =>
      cases fl with
      | next => exact q.elim
      | brk => exact q.elim
      | cont => exact q.elim
      | ret u =>
        obtain ⟨v, H', o1, o2, un, h4', rv, qv⟩ := q
        obtain rfl : v = .bl true := qv
        obtain rfl : u = Value.bool true := rv
        have stays : ∀ b o, b ≠ tab → s₁.heap.get? b = some o → s'.heap.get? b = some o := fun b o nb e => by
          rcases h2 b with y | y | ⟨ob, xs, y⟩
          · exact un.keep b o e y (fun z => absurd (show b ∈ ([] : List Addr) from z) (by simp)) (by simp)
          · exact absurd y nb
          · obtain ⟨e1, _⟩ := h4 b _ y
            obtain ⟨e2, _⟩ := h4' b _ (un.frzs b ob _ y)
            rw [e] at e1
            cases e1
            exact e2
        obtain ⟨more, y⟩ := un.tbls tab #[] h1
        have grown : s'.heap.get? tab = some { cls := .none, data := .fields (#[] ++ more) } := h4' tab _ y
        refine ⟨rfl, ⟨fun b o e => ?_, fun b o e => ?_⟩, o1, o2⟩
        · by_cases hb : b = tab
          · rw [hb] at e ⊢
            rw [tT] at e
            cases e
            exact .inr (.inl ⟨(CH.tab tT).isCodeTable, rfl, #[], more, rfl, grown⟩)
          · exact .inl (stays b o hb e)
        · by_cases hb : b = tab
          · rw [hb]
            exact ⟨_, grown⟩
          · exact ⟨o, stays b o hb e⟩
  cases hk : K.lookup a with
  | some o =>
    have e := KX a o hk
    rw [la] at e
    cases e
    refine main (upd (fun _ => none) tab (.tbl #[])) upd_same (fun b => ?_) (.inr ⟨_, vs.toArray, _, hk, rfl, rfl, rfl, by rw [List.size_toArray, is.length]; exact ln, by simpa using rvs⟩) (fun b u z => ?_) (fun b z => ?_) (fun z => absurd (upd_ne nat) z)
    · by_cases hb : b = tab
      · exact .inr (.inl hb)
      · exact .inl (upd_ne hb)
    · by_cases hb : b = tab
      · rw [hb, upd_same] at z
        cases z
        rw [hb]
        exact tT
      · rw [upd_ne hb] at z
        cases z
    · by_cases hb : b = tab
      · exact .inr hb
      · exact absurd (upd_ne hb) z
  | none =>
    refine main (upd (upd (fun _ => none) a (.frz { cls := .type "list", data := .seq vs.toArray } (.lst (ns.map V.int)))) tab (.tbl #[])) upd_same (fun b => ?_) (.inl (.inr ⟨{ cls := .type "list", data := .seq vs.toArray }, by rw [upd_ne nat, upd_same]⟩)) (fun b u z => ?_) (fun b z => ?_) (fun _ => hk)
    · by_cases hb : b = tab
      · exact .inr (.inl hb)
      · rw [upd_ne hb]
        by_cases hb2 : b = a
        · exact .inr (.inr ⟨_, _, by rw [hb2]; exact upd_same⟩)
        · exact .inl (upd_ne hb2)
    · by_cases hb : b = tab
      · rw [hb, upd_same] at z
        cases z
        rw [hb]
        exact tT
      · rw [upd_ne hb] at z
        by_cases hb2 : b = a
        · rw [hb2, upd_same] at z
          cases z
          rw [hb2]
          exact ⟨la, by rw [List.length_map]; exact ln, vs, _, rvs, la⟩
        · rw [upd_ne hb2] at z
          cases z
    · by_cases hb : b = tab
      · exact .inr hb
      · rw [upd_ne hb] at z
        by_cases hb2 : b = a
        · exact .inl hb2
        · exact absurd (upd_ne hb2) z
theorem walk_ofX {l : PySem.W.OpenLaw} {n k : Nat} {q : Program} {loose : List Str} {XP : (Str → Option Value) → Heap → Prop} {YP : World → Heap → Prop} {d : DefRec} {x : Str}
    (hn : l.most = some n) (hn2 : n ≤ sizeLine) (hdf : d.params.defaults = []) (hr : Room k callerA)
    (F : ∀ (w : World) (mg : Str → Option Value) (fa : Addr) (h : Heap), YP w h → h.Ns mainGlobals mg → mg d.name = some (.ref fa) →
      ∃ (K : PySem.W.Frag) (fd : FuncData) (c tab : Addr) (sp : Sp), K.In h ∧ h.get? tab = some noTab ∧ K.lookup tab = none ∧ PySem.W.CodeHd h c tab ∧ (∀ (s : Shared) (u : Value), BindsTo s fd ⟨[u], []⟩ [(x, u)]) ∧
        (∀ (H : Hp) (a : Addr) (ns : List Int), ns.length ≤ n → H tab = some (.tbl #[]) → SqL K H a (ns.map V.int) → sp [.ref a] H (fun v _ => v = .bl true) fun _ _ _ => False) ∧
        ∀ base : Heap, K.In base → base.Ns mainGlobals mg → LamX.TabB base mg c tab → FnX l.prog w K mg base k fa fd [x] sp) :
    PySem.W.WalkO q loose XP YP l.row.toRowW d [] (fun f vs => PySem.call f vs) := by
  refine Att.attach_call hn hdf fun w s₀ s₁ mg mb fa o pm cd doc a vs ns G Y ho hd hcd hmg hobj hints hlen hg => ?_
  obtain ⟨K, fd, c, tab, sp, KX, tT, nT, CH, hb, hsp, hF⟩ := F w mg fa _ Y G.T.g hmg
  exact law_callXT KX G.T.g G.T.b G.T.builtins G.T.nolimit hg tT nT CH G.T.bmain hobj hints (Nat.le_trans hlen hn2) hr hF hb fun H z1 z2 => hsp H a ns hlen z1 z2
end DL
end
section
set_option Elab.async false
set_option linter.all false
set_option maxRecDepth 100000
set_option maxHeartbeats 1000000
namespace WL
open PySem L2 PyProof.Rows DL
abbrev top (i : Nat) : Stmt := WK.top i
section
variable {P : Program} {w : World} {K : PySem.W.Frag} {mg : Str → Option Value} {base : Heap}
/-! _law_of -/
abbrev sLOf : Stmt := top 52
abbrev nLOf : List Str := ["_law_pot", "_law_some"]
theorem scLOf : FnScope nLOf ["_law_pot", "_law_some"] (defScope sLOf) := ⟨rfl, rfl, rfl, by decide +kernel, rfl, by decide +kernel, by decide +kernel⟩
def bLOf (wf__law_take : WF)  (ex : KX) : WS :=
  (wRet (wOp oIx (wVar 1) (wCall 2 wf__law_take (fun C d S => ex C d S.n) (wCons (wVar 0) (wCons (wCB oLen (wCons (wVar 1) wNil)) wNil)))))
theorem dfLOf {k : Nat} {wf__law_take : WF}  (B : Free mg) (D : DefOf K mg "_law_of" sLOf ["_law_pot", "_law_some"]) (O__law_take : Def P w K mg base k "_law_take" 2 wf__law_take) (M__law_take : MonoF wf__law_take) : Def P w K mg base (k + 1) "_law_of" 2 (wFn 2 (bLOf wf__law_take )) := by
  refine D.ok scLOf (fun f cdv A outer s H E ex hg hr => ?_)
  have hu := hr.units
  have hu1 := hu_of hr
  have hur : (A.deeper (envOfC "_law_of" (defScope sLOf) s.heap.objs.size f cdv)).units + 200 < cLine := by have := hr.un; omega
  exact (dss_one (ds_ret (de_ix (d_ix hu1) (de_var (i := 1)) (de_call O__law_take M__law_take exs_fn hg hr (by omega) (by rfl) (da_cons (de_var (i := 0)) (da_cons (de_callB d_len' (by rfl) B.len PySem.boot_len (da_cons (de_var (i := 1)) da_nil)) da_nil))) (fun _ _ => rfl))))
/-! _law_atom -/
abbrev sLAtom : Stmt := top 53
abbrev nLAtom : List Str := ["_law_pot", "_law_paths", "_law_path", "_law_way"]
theorem scLAtom : FnScope nLAtom ["_law_pot", "_law_paths"] (defScope sLAtom) := ⟨rfl, rfl, rfl, by decide +kernel, rfl, by decide +kernel, by decide +kernel⟩
def bLAtom (wf__law_of : WF) (wf__law_take : WF)  (ex : KX) : WS :=
  (wSeq (wPar 2 3 (wCall 2 wf__law_of (fun C d S => ex C d S.n) (wCons (wVar 0) (wCons (wVar 1) wNil))) (wCall 2 wf__law_take (fun C d S => ex C d S.n) (wCons (wVar 0) (wCons (wC (.int 4)) wNil))))
  (wSeq (wIfS (wCmp oEq (wVar 3) (wC (.int 0))) (wRet (wTup (wCons (wC (.str "none")) (wCons (wVar 2) wNil)))) wNext)
  (wRet (wIf (wCmp oEq (wVar 3) (wC (.int 1))) (wTup (wCons (wC (.str "like")) (wCons (wVar 2) (wCons (wCall 2 wf__law_of (fun C d S => ex C d S.n) (wCons (wVar 0) (wCons (wVar 1) wNil))) wNil)))) (wTup (wCons (wC (.str "word")) (wCons (wVar 2) (wCons (wCall 2 wf__law_of (fun C d S => ex C d S.n) (wCons (wVar 0) (wCons (wLst (wCons (wC (.str "x")) (wCons (wC (.str "y")) (wCons (wC (.str "then")) (wCons (wC (.str "none")) wNil))))) wNil))) wNil))))))))
theorem dfLAtom {k : Nat} {wf__law_of : WF} {wf__law_take : WF}  (B : Free mg) (D : DefOf K mg "_law_atom" sLAtom ["_law_pot", "_law_paths"]) (O__law_of : Def P w K mg base k "_law_of" 2 wf__law_of) (M__law_of : MonoF wf__law_of) (O__law_take : Def P w K mg base k "_law_take" 2 wf__law_take) (M__law_take : MonoF wf__law_take) : Def P w K mg base (k + 1) "_law_atom" 2 (wFn 4 (bLAtom wf__law_of wf__law_take )) := by
  refine D.ok scLAtom (fun f cdv A outer s H E ex hg hr => ?_)
  have hu := hr.units
  have hu1 := hu_of hr
  have hur : (A.deeper (envOfC "_law_atom" (defScope sLAtom) s.heap.objs.size f cdv)).units + 200 < cLine := by have := hr.un; omega
  exact (dss_cons (ds_par (i := 2) (j := 3) (de_call O__law_of M__law_of exs_fn hg hr (by omega) (by rfl) (da_cons (de_var (i := 0)) (da_cons (de_var (i := 1)) da_nil))) (de_call O__law_take M__law_take exs_fn hg hr (by omega) (by rfl) (da_cons (de_var (i := 0)) (da_cons de_int da_nil))) zup_ex rfl scLAtom.nd (by rfl))
    (dss_cons (ds_if (dt_cmp (d_eq hu) (de_var (i := 3)) de_int (nomark _))
    (dss_one (ds_ret (de_tup (da_cons de_str (da_cons (de_var (i := 2)) da_nil)))))
    dss_nil)
    (dss_one (ds_ret (de_if (dt_cmp (d_eq hu) (de_var (i := 3)) de_int (nomark _)) (de_tup (da_cons de_str (da_cons (de_var (i := 2)) (da_cons (de_call O__law_of M__law_of exs_fn hg hr (by omega) (by rfl) (da_cons (de_var (i := 0)) (da_cons (de_var (i := 1)) da_nil))) da_nil)))) (de_tup (da_cons de_str (da_cons (de_var (i := 2)) (da_cons (de_call O__law_of M__law_of exs_fn hg hr (by omega) (by rfl) (da_cons (de_var (i := 0)) (da_cons (de_lst (da_cons de_str (da_cons de_str (da_cons de_str (da_cons de_str da_nil))))) da_nil))) da_nil)))))))))
/-! _law_drawn_formula -/
abbrev sLDrawnFormula : Stmt := top 54
abbrev nLDrawnFormula : List Str := ["_law_pot", "_law_paths", "_law_many", "_law_found", "_law_word"]
theorem scLDrawnFormula : FnScope nLDrawnFormula ["_law_pot", "_law_paths", "_law_many"] (defScope sLDrawnFormula) := ⟨rfl, rfl, rfl, by decide +kernel, rfl, by decide +kernel, by decide +kernel⟩
def bLDrawnFormula (wf__law_atom : WF) (wf__law_of : WF) (wf__law_drawn_formula : WF) (wf__law_take : WF)  (ex : KX) : WS :=
  (wSeq (wIfS (wCmp oEq (wVar 2) (wC (.int 1))) (wSet 3 (wCall 2 wf__law_atom (fun C d S => ex C d S.n) (wCons (wVar 0) (wCons (wVar 1) wNil)))) (wSeq (wSet 4 (wCall 2 wf__law_of (fun C d S => ex C d S.n) (wCons (wVar 0) (wCons (wLst (wCons (wC (.str "or")) (wCons (wC (.str "and")) (wCons (wC (.str "if")) (wCons (wC (.str "or")) wNil))))) wNil))))
  (wSet 3 (wTup (wCons (wVar 4) (wCons (wCall 3 wf__law_drawn_formula (fun C d S => ex C d S.n) (wCons (wVar 0) (wCons (wVar 1) (wCons (wC (.int 1)) wNil)))) (wCons (wCall 3 wf__law_drawn_formula (fun C d S => ex C d S.n) (wCons (wVar 0) (wCons (wVar 1) (wCons (wOp oSub (wVar 2) (wC (.int 1))) wNil)))) wNil)))))))
  (wRet (wIf (wCmp oEq (wCall 2 wf__law_take (fun C d S => ex C d S.n) (wCons (wVar 0) (wCons (wC (.int 4)) wNil))) (wC (.int 0))) (wTup (wCons (wC (.str "not")) (wCons (wVar 3) wNil))) (wVar 3))))
theorem dfLDrawnFormula {k : Nat} {wf__law_atom : WF} {wf__law_of : WF} {wf__law_drawn_formula : WF} {wf__law_take : WF}  (B : Free mg) (D : DefOf K mg "_law_drawn_formula" sLDrawnFormula ["_law_pot", "_law_paths", "_law_many"]) (O__law_atom : Def P w K mg base k "_law_atom" 2 wf__law_atom) (M__law_atom : MonoF wf__law_atom) (O__law_of : Def P w K mg base k "_law_of" 2 wf__law_of) (M__law_of : MonoF wf__law_of) (O__law_drawn_formula : Def P w K mg base k "_law_drawn_formula" 3 wf__law_drawn_formula) (M__law_drawn_formula : MonoF wf__law_drawn_formula) (O__law_take : Def P w K mg base k "_law_take" 2 wf__law_take) (M__law_take : MonoF wf__law_take) : Def P w K mg base (k + 1) "_law_drawn_formula" 3 (wFn 5 (bLDrawnFormula wf__law_atom wf__law_of wf__law_drawn_formula wf__law_take )) := by
  refine D.ok scLDrawnFormula (fun f cdv A outer s H E ex hg hr => ?_)
  have hu := hr.units
  have hu1 := hu_of hr
  have hur : (A.deeper (envOfC "_law_drawn_formula" (defScope sLDrawnFormula) s.heap.objs.size f cdv)).units + 200 < cLine := by have := hr.un; omega
  exact (dss_cons (ds_if (dt_cmp (d_eq hu) (de_var (i := 2)) de_int (nomark _))
    (dss_one (ds_set (i := 3) (de_call O__law_atom M__law_atom exs_fn hg hr (by omega) (by rfl) (da_cons (de_var (i := 0)) (da_cons (de_var (i := 1)) da_nil))) scLDrawnFormula.nd))
    (dss_cons (ds_set (i := 4) (de_call O__law_of M__law_of exs_fn hg hr (by omega) (by rfl) (da_cons (de_var (i := 0)) (da_cons (de_lst (da_cons de_str (da_cons de_str (da_cons de_str (da_cons de_str da_nil))))) da_nil))) scLDrawnFormula.nd)
    (dss_one (ds_set (i := 3) (de_tup (da_cons (de_var (i := 4)) (da_cons (de_call O__law_drawn_formula M__law_drawn_formula exs_fn hg hr (by omega) (by rfl) (da_cons (de_var (i := 0)) (da_cons (de_var (i := 1)) (da_cons de_int da_nil)))) (da_cons (de_call O__law_drawn_formula M__law_drawn_formula exs_fn hg hr (by omega) (by rfl) (da_cons (de_var (i := 0)) (da_cons (de_var (i := 1)) (da_cons (de_op d_sub (de_var (i := 2)) de_int) da_nil)))) da_nil)))) scLDrawnFormula.nd))))
    (dss_one (ds_ret (de_if (dt_cmp (d_eq hu) (de_call O__law_take M__law_take exs_fn hg hr (by omega) (by rfl) (da_cons (de_var (i := 0)) (da_cons de_int da_nil))) de_int (nomark _)) (de_tup (da_cons de_str (da_cons (de_var (i := 3)) da_nil))) (de_var (i := 3))))))
/-! _law_true -/
abbrev sLTrue : Stmt := top 55
abbrev nLTrue : List Str := ["_law_formula", "_law_held", "_law_worths", "_law_part"]
theorem scLTrue : FnScope nLTrue ["_law_formula", "_law_held"] (defScope sLTrue) := ⟨rfl, rfl, rfl, by decide +kernel, rfl, by decide +kernel, by decide +kernel⟩
def bLTrue (wf__law_true : WF)  (ex : KX) : WS :=
  (wSeq (wIfS (wCmp oEq (wOp oIx (wVar 0) (wC (.int 0))) (wC (.str "none"))) (wRet (wOp oIs (wOp oIx (wVar 1) (wOp oIx (wVar 0) (wC (.int 1)))) (wC .non))) wNext)
  (wSeq (wIfS (wCmp oEq (wOp oIx (wVar 0) (wC (.int 0))) (wC (.str "word"))) (wRet (wOp oEq (wOp oIx (wVar 1) (wOp oIx (wVar 0) (wC (.int 1)))) (wOp oIx (wVar 0) (wC (.int 2))))) wNext)
  (wSeq (wIfS (wCmp oEq (wOp oIx (wVar 0) (wC (.int 0))) (wC (.str "like"))) (wRet (wOp oEq (wOp oIx (wVar 1) (wOp oIx (wVar 0) (wC (.int 1)))) (wOp oIx (wVar 1) (wOp oIx (wVar 0) (wC (.int 2)))))) wNext)
  (wSeq (wSet 2 (wLc (wIter (wSl (wVar 0) (wOSome (wC (.int 1))) wONone)) (gPut 3) wYes (wCall 2 wf__law_true (fun _ _ _ => False) (wCons (wVar 3) (wCons (wVar 1) wNil))) [3]))
  (wSeq (wIfS (wCmp oEq (wOp oIx (wVar 0) (wC (.int 0))) (wC (.str "not"))) (wRet (wNotV (wOp oIx (wVar 2) (wC (.int 0))))) wNext)
  (wSeq (wIfS (wCmp oEq (wOp oIx (wVar 0) (wC (.int 0))) (wC (.str "and"))) (wRet (wCB oAll (wCons (wVar 2) wNil))) wNext)
  (wRet (wIf (wCmp oEq (wOp oIx (wVar 0) (wC (.int 0))) (wC (.str "if"))) (wOrV (wOp oIx (wVar 2) (wC (.int 1))) (wNotV (wOp oIx (wVar 2) (wC (.int 0))))) (wCB oAny (wCons (wVar 2) wNil))))))))))
theorem dfLTrue {k : Nat} {wf__law_true : WF}  (B : Free mg) (D : DefOf K mg "_law_true" sLTrue ["_law_formula", "_law_held"]) (O__law_true : Def P w K mg base k "_law_true" 2 wf__law_true) (M__law_true : MonoF wf__law_true) : Def P w K mg base (k + 1) "_law_true" 2 (wFn 4 (bLTrue wf__law_true )) := by
  refine D.ok scLTrue (fun f cdv A outer s H E ex hg hr => ?_)
  have hu := hr.units
  have hu1 := hu_of hr
  have hur : (A.deeper (envOfC "_law_true" (defScope sLTrue) s.heap.objs.size f cdv)).units + 200 < cLine := by have := hr.un; omega
  exact (dss_cons (ds_if (dt_cmp (d_eq hu) (de_ix (d_ix hu1) (de_var (i := 0)) de_int (fun _ _ => rfl)) de_str (nomark _))
    (dss_one (ds_ret (de_cmp d_is (de_ix (d_ix hu1) (de_var (i := 1)) (de_ix (d_ix hu1) (de_var (i := 0)) de_int (fun _ _ => rfl)) (fun _ _ => rfl)) de_non (nomark _))))
    dss_nil)
    (dss_cons (ds_if (dt_cmp (d_eq hu) (de_ix (d_ix hu1) (de_var (i := 0)) de_int (fun _ _ => rfl)) de_str (nomark _))
    (dss_one (ds_ret (de_cmp (d_eq hu) (de_ix (d_ix hu1) (de_var (i := 1)) (de_ix (d_ix hu1) (de_var (i := 0)) de_int (fun _ _ => rfl)) (fun _ _ => rfl)) (de_ix (d_ix hu1) (de_var (i := 0)) de_int (fun _ _ => rfl)) (nomark _))))
    dss_nil)
    (dss_cons (ds_if (dt_cmp (d_eq hu) (de_ix (d_ix hu1) (de_var (i := 0)) de_int (fun _ _ => rfl)) de_str (nomark _))
    (dss_one (ds_ret (de_cmp (d_eq hu) (de_ix (d_ix hu1) (de_var (i := 1)) (de_ix (d_ix hu1) (de_var (i := 0)) de_int (fun _ _ => rfl)) (fun _ _ => rfl)) (de_ix (d_ix hu1) (de_var (i := 1)) (de_ix (d_ix hu1) (de_var (i := 0)) de_int (fun _ _ => rfl)) (fun _ _ => rfl)) (nomark _))))
    dss_nil)
    (dss_cons (ds_setLc (i := 2) (own := [("_law_part", 3)]) rfl scLTrue.nd (di_val (de_slice (de_var (i := 0)) (do_some de_int) do_none)) (blkOk_by (N := nLTrue) (sc := defScope sLTrue) (by decide +kernel)) (fun _ _ _ _ _ => (dg_name (i := 3) scLTrue.nd)) (fun _ _ _ _ _ => dts_nil) (fun _ _ _ _ _ => (de_call O__law_true M__law_true exs_none hg hr (by omega) (by rfl) (da_cons (de_var (i := 3)) (da_cons (de_var (i := 1)) da_nil)))) ⟨s⟩ (sw_true rfl rfl rfl (by decide +kernel)))
    (dss_cons (ds_if (dt_cmp (d_eq hu) (de_ix (d_ix hu1) (de_var (i := 0)) de_int (fun _ _ => rfl)) de_str (nomark _))
    (dss_one (ds_ret (de_not (de_ix (d_ix hu1) (de_var (i := 2)) de_int (fun _ _ => rfl)))))
    dss_nil)
    (dss_cons (ds_if (dt_cmp (d_eq hu) (de_ix (d_ix hu1) (de_var (i := 0)) de_int (fun _ _ => rfl)) de_str (nomark _))
    (dss_one (ds_ret (de_callB (d_all rfl) (by rfl) B.all (by decide +kernel) (da_cons (de_var (i := 2)) da_nil))))
    dss_nil)
    (dss_one (ds_ret (de_if (dt_cmp (d_eq hu) (de_ix (d_ix hu1) (de_var (i := 0)) de_int (fun _ _ => rfl)) de_str (nomark _)) (de_or (de_ix (d_ix hu1) (de_var (i := 2)) de_int (fun _ _ => rfl)) (de_one (de_not (de_ix (d_ix hu1) (de_var (i := 2)) de_int (fun _ _ => rfl))))) (de_callB (d_any rfl) (by rfl) B.any (by decide +kernel) (da_cons (de_var (i := 2)) da_nil)))))))))))
/-! _law_rules -/
abbrev sLRules : Stmt := top 56
abbrev nLRules : List Str := ["_law_pot", "_law_paths", "_law_found", "_law_left", "_law_turn", "_law_many", "_law_formula", "_law_is_fit_here", "_law_path"]
theorem scLRules : FnScope nLRules ["_law_pot", "_law_paths"] (defScope sLRules) := ⟨rfl, rfl, rfl, by decide +kernel, rfl, by decide +kernel, by decide +kernel⟩
def bLRules (wf__law_take : WF) (wf__law_drawn_formula : WF) (wf__law_true : WF)  (ex : KX) : WS :=
  (wSeq (wPar 2 3 (wLst wNil) (wC (.int 4)))
  (wSeq (wFor (wRange oRange1 (wCons (wIf (wCmp oNe (wVar 1) (wLst wNil)) (wCall 2 wf__law_take (fun C d S => ex C d S.n) (wCons (wVar 0) (wCons (wC (.int 4)) wNil))) (wC (.int 0))) wNil)) (gPut 4) (wSeq (wSet 5 (wIf (wCmp oGt (wVar 3) (wC (.int 0))) (wOp oAdd (wC (.int 1)) (wCall 2 wf__law_take (fun C d S => ex C d S.n) (wCons (wVar 0) (wCons (wVar 3) wNil)))) (wC (.int 0))))
  (wIfS (wCmp oGt (wVar 5) (wC (.int 0))) (wSeq (wPar 6 3 (wCall 3 wf__law_drawn_formula (fun C d S => ex C d S.n) (wCons (wVar 0) (wCons (wVar 1) (wCons (wVar 5) wNil)))) (wOp oSub (wVar 3) (wVar 5)))
  (wSeq (wSet 7 (wCall 2 wf__law_true (fun C d S => ex C d S.n) (wCons (wVar 6) (wCons (wCB oDict (wCons (wLc (wIter (wVar 1)) (gPut 8) wYes (wTup (wCons (wVar 8) (wCons (wC .non) wNil))) [8]) wNil)) wNil))))
  (wDrop (wMu "list" ouAppend 2 (wCons (wIf (wTru (wVar 7)) (wVar 6) (wTup (wCons (wC (.str "not")) (wCons (wVar 6) wNil)))) wNil))))) wNext)))
  (wRet (wCB oTuple (wCons (wVar 2) wNil)))))
theorem dfLRules {k : Nat} {wf__law_take : WF} {wf__law_drawn_formula : WF} {wf__law_true : WF}  (B : Free mg) (D : DefOf K mg "_law_rules" sLRules ["_law_pot", "_law_paths"]) (O__law_take : Def P w K mg base k "_law_take" 2 wf__law_take) (M__law_take : MonoF wf__law_take) (O__law_drawn_formula : Def P w K mg base k "_law_drawn_formula" 3 wf__law_drawn_formula) (M__law_drawn_formula : MonoF wf__law_drawn_formula) (O__law_true : Def P w K mg base k "_law_true" 2 wf__law_true) (M__law_true : MonoF wf__law_true) : Def P w K mg base (k + 1) "_law_rules" 2 (wFn 9 (bLRules wf__law_take wf__law_drawn_formula wf__law_true )) := by
  refine D.ok scLRules (fun f cdv A outer s H E ex hg hr => ?_)
  have hu := hr.units
  have hu1 := hu_of hr
  have hur : (A.deeper (envOfC "_law_rules" (defScope sLRules) s.heap.objs.size f cdv)).units + 200 < cLine := by have := hr.un; omega
  exact (dss_cons (ds_par (i := 2) (j := 3) (de_lst da_nil) de_int zup_ex rfl scLRules.nd (by rfl))
    (dss_cons (ds_for (di_range1 rfl B.range (da_cons (de_if (dt_cmp (d_ne hu) (de_var (i := 1)) (de_lst da_nil) (nomark _)) (de_call O__law_take M__law_take exs_fn hg hr (by omega) (by rfl) (da_cons (de_var (i := 0)) (da_cons de_int da_nil))) de_int) da_nil)) (dg_name (i := 4) scLRules.nd)
    (dss_cons (ds_set (i := 5) (de_if (dt_cmp d_gt (de_var (i := 3)) de_int (nomark _)) (de_op d_add de_int (de_call O__law_take M__law_take exs_fn hg hr (by omega) (by rfl) (da_cons (de_var (i := 0)) (da_cons (de_var (i := 3)) da_nil)))) de_int) scLRules.nd)
    (dss_one (ds_if (dt_cmp d_gt (de_var (i := 5)) de_int (nomark _))
    (dss_cons (ds_par (i := 6) (j := 3) (de_call O__law_drawn_formula M__law_drawn_formula exs_fn hg hr (by omega) (by rfl) (da_cons (de_var (i := 0)) (da_cons (de_var (i := 1)) (da_cons (de_var (i := 5)) da_nil)))) (de_op d_sub (de_var (i := 3)) (de_var (i := 5))) zup_ex rfl scLRules.nd (by rfl))
    (dss_cons (ds_set (i := 7) (de_call O__law_true M__law_true exs_fn hg hr (by omega) (by rfl) (da_cons (de_var (i := 6)) (da_cons (de_callTy (d_dict rfl) (by rfl) B.dict boot_dict (da_cons (de_lc (own := [("_law_path", 8)]) rfl scLRules.nd (di_val (de_var (i := 1))) (blkOk_by (N := nLRules) (sc := defScope sLRules) (by decide +kernel)) (fun _ _ _ _ _ => (dg_name (i := 8) scLRules.nd)) (fun _ _ _ _ _ => dts_nil) (fun _ _ _ _ _ => (de_tup (da_cons (de_var (i := 8)) (da_cons de_non da_nil)))) ⟨s⟩) da_nil)) da_nil))) scLRules.nd)
    (dss_one (ds_expr (de_mu (i := 2) PySem.F.plainAttrs_list PySem.F.slot_list_append PySem.F.type_list_append u_append (da_cons (de_if (dt_val (de_var (i := 7))) (de_var (i := 6)) (de_tup (da_cons de_str (da_cons (de_var (i := 6)) da_nil)))) da_nil))))))
    dss_nil))) (passes_of rfl) rfl)
    (dss_one (ds_ret (de_callTy d_tuple (by rfl) B.tuple boot_tuple (da_cons (de_var (i := 2)) da_nil))))))
/-! _law_wide_lore -/
abbrev sLWideLore : Stmt := top 57
abbrev nLWideLore : List Str := ["_law_pot", "_law_names", "_law_pool", "_law_turn", "_law_paths", "_law_path", "_law_rights", "_law_some", "_law_name", "_law_pattern", "_law_calm", "_law_kind", "_law_lore"]
theorem scLWideLore : FnScope nLWideLore ["_law_pot"] (defScope sLWideLore) := ⟨rfl, rfl, rfl, by decide +kernel, rfl, by decide +kernel, by decide +kernel⟩
def bLWideLore (wf__law_take : WF) (wf__law_of : WF) (wf__law_rules : WF)  (ex : KX) : WS :=
  (wSeq (wPar 1 2 (wLst wNil) (wLst (wCons (wC (.str "a")) (wCons (wC (.str "ann")) (wCons (wC (.str "bob")) (wCons (wC (.str "cy")) (wCons (wC (.str "housea")) (wCons (wC (.str "person")) (wCons (wC (.str "rule")) wNil)))))))))
  (wSeq (wFor (wRange oRange1 (wCons (wOp oAdd (wC (.int 1)) (wCall 2 wf__law_take (fun C d S => ex C d S.n) (wCons (wVar 0) (wCons (wC (.int 3)) wNil)))) wNil)) (gPut 3) (wDrop (wMu "list" ouAppend 1 (wCons (wMu "list" ouPopAt 2 (wCons (wCall 2 wf__law_take (fun C d S => ex C d S.n) (wCons (wVar 0) (wCons (wCB oLen (wCons (wVar 2) wNil)) wNil))) wNil)) wNil))))
  (wSeq (wPar 4 2 (wLst wNil) (wLst (wCons (wC (.str "a.b")) (wCons (wC (.str "a.c")) (wCons (wC (.str "n.bugs")) (wCons (wC (.str "n.bugs.old")) (wCons (wC (.str "src.log")) (wCons (wC (.str "src.main")) (wCons (wC (.str "src.main.x")) (wCons (wC (.str "then.if")) wNil))))))))))
  (wSeq (wFor (wRange oRange1 (wCons (wOp oAdd (wC (.int 1)) (wCall 2 wf__law_take (fun C d S => ex C d S.n) (wCons (wVar 0) (wCons (wC (.int 6)) wNil)))) wNil)) (gPut 3) (wSeq (wSet 5 (wMu "list" ouPopAt 2 (wCons (wCall 2 wf__law_take (fun C d S => ex C d S.n) (wCons (wVar 0) (wCons (wCB oLen (wCons (wVar 2) wNil)) wNil))) wNil)))
  (wDrop (wMu "list" ouAppend 4 (wCons (wTup (wCons (wVar 5) (wCons (wCall 2 wf__law_of (fun C d S => ex C d S.n) (wCons (wVar 0) (wCons (wLst (wCons (wC (.str "word")) (wCons (wC (.str "firm")) (wCons (wC (.str "ours")) (wCons (wC (.str "count")) (wCons (wC (.str "word")) wNil)))))) wNil))) wNil))) wNil)))))
  (wSeq (wPar 6 7 (wLst wNil) (wLst (wCons (wC (.str "*")) (wCons (wC (.str "src.*")) (wCons (wC (.str "src.main.*")) (wCons (wC (.str "a.b")) (wCons (wC (.str "n.bugs")) (wCons (wC (.str "none.such")) (wCons (wC (.str "n.*")) wNil)))))))))
  (wSeq (wFor (wIter (wCB oSortedX (wCons (wVar 1) wNil))) (gPut 8) (wFor (wIter (wCB oSortedX (wCons (wVar 7) wNil))) (gPut 9) (wIfS (wCmp oEq (wCall 2 wf__law_take (fun C d S => ex C d S.n) (wCons (wVar 0) (wCons (wC (.int 3)) wNil))) (wC (.int 0))) (wDrop (wMu "list" ouAppend 6 (wCons (wTup (wCons (wVar 8) (wCons (wVar 9) wNil))) wNil))) wNext)))
  (wSeq (wSet 10 (wLc (wIter (wCB oSortedX (wCons (wVar 4) wNil))) (gUnp 2 (gsCons (gPut 5) (gsCons (gPut 11) gsNil))) (wCmp oNe (wVar 11) (wC (.str "count"))) (wVar 5) [5, 11]))
  (wSeq (wSet 12 (wDisp (((wC (.str "persons")), (wCB oTuple (wCons (wCB oSortedX (wCons (wVar 1) wNil)) wNil))) :: (((wC (.str "paths")), (wCB oTuple (wCons (wCB oSortedX (wCons (wVar 4) wNil)) wNil))) :: (((wC (.str "rights")), (wCB oTuple (wCons (wVar 6) wNil))) :: [])))))
  (wSeq (wDrop (wMu "dict" ouUpdate 12 (wCons (wDisp (((wC (.str "rules")), (wCall 2 wf__law_rules (fun C d S => ex C d S.n) (wCons (wVar 0) (wCons (wVar 10) wNil)))) :: [])) wNil)))
  (wRet (wVar 12)))))))))))
theorem dfLWideLore {k : Nat} {wf__law_take : WF} {wf__law_of : WF} {wf__law_rules : WF}  (B : Free mg) (D : DefOf K mg "_law_wide_lore" sLWideLore ["_law_pot"]) (O__law_take : Def P w K mg base k "_law_take" 2 wf__law_take) (M__law_take : MonoF wf__law_take) (O__law_of : Def P w K mg base k "_law_of" 2 wf__law_of) (M__law_of : MonoF wf__law_of) (O__law_rules : Def P w K mg base k "_law_rules" 2 wf__law_rules) (M__law_rules : MonoF wf__law_rules) : Def P w K mg base (k + 1) "_law_wide_lore" 1 (wFn 13 (bLWideLore wf__law_take wf__law_of wf__law_rules )) := by
  refine D.ok scLWideLore (fun f cdv A outer s H E ex hg hr => ?_)
  have hu := hr.units
  have hu1 := hu_of hr
  have hur : (A.deeper (envOfC "_law_wide_lore" (defScope sLWideLore) s.heap.objs.size f cdv)).units + 200 < cLine := by have := hr.un; omega
  exact (dss_cons (ds_par (i := 1) (j := 2) (de_lst da_nil) (de_lst (da_cons de_str (da_cons de_str (da_cons de_str (da_cons de_str (da_cons de_str (da_cons de_str (da_cons de_str da_nil)))))))) zup_ex rfl scLWideLore.nd (by rfl))
    (dss_cons (ds_for (di_range1 rfl B.range (da_cons (de_op d_add de_int (de_call O__law_take M__law_take exs_fn hg hr (by omega) (by rfl) (da_cons (de_var (i := 0)) (da_cons de_int da_nil)))) da_nil)) (dg_name (i := 3) scLWideLore.nd)
    (dss_one (ds_expr (de_mu (i := 1) PySem.F.plainAttrs_list PySem.F.slot_list_append PySem.F.type_list_append u_append (da_cons (de_mu (i := 2) PySem.F.plainAttrs_list PySem.F.slot_list_pop PySem.F.type_list_pop u_popAt (da_cons (de_call O__law_take M__law_take exs_fn hg hr (by omega) (by rfl) (da_cons (de_var (i := 0)) (da_cons (de_callB d_len' (by rfl) B.len PySem.boot_len (da_cons (de_var (i := 2)) da_nil)) da_nil))) da_nil)) da_nil)))) (passes_of rfl) rfl)
    (dss_cons (ds_par (i := 4) (j := 2) (de_lst da_nil) (de_lst (da_cons de_str (da_cons de_str (da_cons de_str (da_cons de_str (da_cons de_str (da_cons de_str (da_cons de_str (da_cons de_str da_nil))))))))) zup_ex rfl scLWideLore.nd (by rfl))
    (dss_cons (ds_for (di_range1 rfl B.range (da_cons (de_op d_add de_int (de_call O__law_take M__law_take exs_fn hg hr (by omega) (by rfl) (da_cons (de_var (i := 0)) (da_cons de_int da_nil)))) da_nil)) (dg_name (i := 3) scLWideLore.nd)
    (dss_cons (ds_set (i := 5) (de_mu (i := 2) PySem.F.plainAttrs_list PySem.F.slot_list_pop PySem.F.type_list_pop u_popAt (da_cons (de_call O__law_take M__law_take exs_fn hg hr (by omega) (by rfl) (da_cons (de_var (i := 0)) (da_cons (de_callB d_len' (by rfl) B.len PySem.boot_len (da_cons (de_var (i := 2)) da_nil)) da_nil))) da_nil)) scLWideLore.nd)
    (dss_one (ds_expr (de_mu (i := 4) PySem.F.plainAttrs_list PySem.F.slot_list_append PySem.F.type_list_append u_append (da_cons (de_tup (da_cons (de_var (i := 5)) (da_cons (de_call O__law_of M__law_of exs_fn hg hr (by omega) (by rfl) (da_cons (de_var (i := 0)) (da_cons (de_lst (da_cons de_str (da_cons de_str (da_cons de_str (da_cons de_str (da_cons de_str da_nil)))))) da_nil))) da_nil))) da_nil))))) (passes_of rfl) rfl)
    (dss_cons (ds_par (i := 6) (j := 7) (de_lst da_nil) (de_lst (da_cons de_str (da_cons de_str (da_cons de_str (da_cons de_str (da_cons de_str (da_cons de_str (da_cons de_str da_nil)))))))) zup_ex rfl scLWideLore.nd (by rfl))
    (dss_cons (ds_for (di_val (de_callB d_sortedX (by rfl) B.sorted (by decide +kernel) (da_cons (de_var (i := 1)) da_nil))) (dg_name (i := 8) scLWideLore.nd)
    (dss_one (ds_for (di_val (de_callB d_sortedX (by rfl) B.sorted (by decide +kernel) (da_cons (de_var (i := 7)) da_nil))) (dg_name (i := 9) scLWideLore.nd)
    (dss_one (ds_if (dt_cmp (d_eq hu) (de_call O__law_take M__law_take exs_fn hg hr (by omega) (by rfl) (da_cons (de_var (i := 0)) (da_cons de_int da_nil))) de_int (nomark _))
    (dss_one (ds_expr (de_mu (i := 6) PySem.F.plainAttrs_list PySem.F.slot_list_append PySem.F.type_list_append u_append (da_cons (de_tup (da_cons (de_var (i := 8)) (da_cons (de_var (i := 9)) da_nil))) da_nil))))
    dss_nil)) (passes_of rfl) rfl)) (passes_of rfl) rfl)
    (dss_cons (ds_setLc (i := 10) (own := [("_law_path", 5), ("_law_kind", 11)]) rfl scLWideLore.nd (di_val (de_callB d_sortedX (by rfl) B.sorted (by decide +kernel) (da_cons (de_var (i := 4)) da_nil))) (blkOk_by (N := nLWideLore) (sc := defScope sLWideLore) (by decide +kernel)) (fun _ _ _ _ _ => (dg_unp rfl (dgs_cons (dg_name (i := 5) scLWideLore.nd) (dgs_cons (dg_name (i := 11) scLWideLore.nd) dgs_nil)))) (fun _ _ _ _ _ => (dts_one (dt_cmp (d_ne hu) (de_var (i := 11)) de_str (nomark _)))) (fun _ _ _ _ _ => (de_var (i := 5))) ⟨s⟩ (sw_true rfl rfl rfl (by decide +kernel)))
    (dss_cons (ds_set (i := 12) (de_disp (dps_cons de_str (de_callTy d_tuple (by rfl) B.tuple boot_tuple (da_cons (de_callB d_sortedX (by rfl) B.sorted (by decide +kernel) (da_cons (de_var (i := 1)) da_nil)) da_nil)) (dps_cons de_str (de_callTy d_tuple (by rfl) B.tuple boot_tuple (da_cons (de_callB d_sortedX (by rfl) B.sorted (by decide +kernel) (da_cons (de_var (i := 4)) da_nil)) da_nil)) (dps_cons de_str (de_callTy d_tuple (by rfl) B.tuple boot_tuple (da_cons (de_var (i := 6)) da_nil)) dps_nil))) zup_ex (by rfl) (by rfl) (by simp) (by decide)) scLWideLore.nd)
    (dss_cons (ds_expr (de_mu (i := 12) PySem.F.plainAttrs_dict PySem.F.slot_dict_update PySem.F.type_dict_update u_update (da_cons (de_disp (dps_cons de_str (de_call O__law_rules M__law_rules exs_fn hg hr (by omega) (by rfl) (da_cons (de_var (i := 0)) (da_cons (de_var (i := 10)) da_nil))) dps_nil) zup_ex (by rfl) (by rfl) (by simp) (by decide)) da_nil)))
    (dss_one (ds_ret (de_var (i := 12)))))))))))))
/-! _law_ones -/
abbrev sLOnes : Stmt := top 58
abbrev nLOnes : List Str := ["_law_formula", "_law_outer", "_law_found", "_law_between", "_law_part"]
theorem scLOnes : FnScope nLOnes ["_law_formula", "_law_outer"] (defScope sLOnes) := ⟨rfl, rfl, rfl, by decide +kernel, rfl, by decide +kernel, by decide +kernel⟩
def bLOnes (wf__law_ones : WF)  (ex : KX) : WS :=
  (wSeq (wIfS (wCmp oEq (wOp oIx (wVar 0) (wC (.int 0))) (wC (.str "none"))) (wRet (wLst (wCons (wOp oIx (wVar 0) (wC (.int 1))) (wCons (wC (.str "is")) (wCons (wC (.str "none")) wNil))))) wNext)
  (wSeq (wIfS (wCmp oIn' (wOp oIx (wVar 0) (wC (.int 0))) (wTup (wCons (wC (.str "word")) (wCons (wC (.str "like")) wNil)))) (wRet (wLst (wCons (wOp oIx (wVar 0) (wC (.int 1))) (wCons (wC (.str "=")) (wCons (wOp oIx (wVar 0) (wC (.int 2))) wNil))))) wNext)
  (wSeq (wIfS (wCmp oEq (wOp oIx (wVar 0) (wC (.int 0))) (wC (.str "not"))) (wRet (wOp oAdd (wLst (wCons (wC (.str "not")) wNil)) (wCall 2 wf__law_ones (fun C d S => ex C d S.n) (wCons (wOp oIx (wVar 0) (wC (.int 1))) (wCons (wC (.bl true)) wNil))))) wNext)
  (wSeq (wPar 2 3 (wLst wNil) (wOp oIx (wVar 0) (wC (.int 0))))
  (wSeq (wIfS (wCmp oEq (wVar 3) (wC (.str "if"))) (wSet 2 (wOp oAdd (wOp oAdd (wOp oAdd (wLst (wCons (wC (.str "if")) wNil)) (wCall 2 wf__law_ones (fun C d S => ex C d S.n) (wCons (wOp oIx (wVar 0) (wC (.int 1))) (wCons (wC (.bl true)) wNil)))) (wLst (wCons (wC (.str "then")) wNil))) (wCall 2 wf__law_ones (fun C d S => ex C d S.n) (wCons (wOp oIx (wVar 0) (wC (.int 2))) (wCons (wC (.bl true)) wNil))))) (wFor (wIter (wSl (wVar 0) (wOSome (wC (.int 1))) wONone)) (gPut 4) (wSet 2 (wOp oAdd (wOp oAdd (wVar 2) (wOp oMul (wLst (wCons (wVar 3) wNil)) (wCB oMin2 (wCons (wC (.int 1)) (wCons (wCB oLen (wCons (wVar 2) wNil)) wNil))))) (wCall 2 wf__law_ones (fun C d S => ex C d S.n) (wCons (wVar 4) (wCons (wC (.bl true)) wNil)))))))
  (wRet (wIf (wTru (wVar 1)) (wOp oAdd (wOp oAdd (wLst (wCons (wC (.str "(")) wNil)) (wVar 2)) (wLst (wCons (wC (.str ")")) wNil))) (wVar 2))))))))
theorem dfLOnes {k : Nat} {wf__law_ones : WF}  (B : Free mg) (D : DefOf K mg "_law_ones" sLOnes ["_law_formula", "_law_outer"]) (O__law_ones : Def P w K mg base k "_law_ones" 2 wf__law_ones) (M__law_ones : MonoF wf__law_ones) : Def P w K mg base (k + 1) "_law_ones" 2 (wFn 5 (bLOnes wf__law_ones )) := by
  refine D.ok scLOnes (fun f cdv A outer s H E ex hg hr => ?_)
  have hu := hr.units
  have hu1 := hu_of hr
  have hur : (A.deeper (envOfC "_law_ones" (defScope sLOnes) s.heap.objs.size f cdv)).units + 200 < cLine := by have := hr.un; omega
  exact (dss_cons (ds_if (dt_cmp (d_eq hu) (de_ix (d_ix hu1) (de_var (i := 0)) de_int (fun _ _ => rfl)) de_str (nomark _))
    (dss_one (ds_ret (de_lst (da_cons (de_ix (d_ix hu1) (de_var (i := 0)) de_int (fun _ _ => rfl)) (da_cons de_str (da_cons de_str da_nil))))))
    dss_nil)
    (dss_cons (ds_if (dt_cmp (d_in hu1) (de_ix (d_ix hu1) (de_var (i := 0)) de_int (fun _ _ => rfl)) (de_tup (da_cons de_str (da_cons de_str da_nil))) rfl)
    (dss_one (ds_ret (de_lst (da_cons (de_ix (d_ix hu1) (de_var (i := 0)) de_int (fun _ _ => rfl)) (da_cons de_str (da_cons (de_ix (d_ix hu1) (de_var (i := 0)) de_int (fun _ _ => rfl)) da_nil))))))
    dss_nil)
    (dss_cons (ds_if (dt_cmp (d_eq hu) (de_ix (d_ix hu1) (de_var (i := 0)) de_int (fun _ _ => rfl)) de_str (nomark _))
    (dss_one (ds_ret (de_op d_add (de_lst (da_cons de_str da_nil)) (de_call O__law_ones M__law_ones exs_fn hg hr (by omega) (by rfl) (da_cons (de_ix (d_ix hu1) (de_var (i := 0)) de_int (fun _ _ => rfl)) (da_cons de_bl da_nil))))))
    dss_nil)
    (dss_cons (ds_par (i := 2) (j := 3) (de_lst da_nil) (de_ix (d_ix hu1) (de_var (i := 0)) de_int (fun _ _ => rfl)) zup_ex rfl scLOnes.nd (by rfl))
    (dss_cons (ds_if (dt_cmp (d_eq hu) (de_var (i := 3)) de_str (nomark _))
    (dss_one (ds_set (i := 2) (de_op d_add (de_op d_add (de_op d_add (de_lst (da_cons de_str da_nil)) (de_call O__law_ones M__law_ones exs_fn hg hr (by omega) (by rfl) (da_cons (de_ix (d_ix hu1) (de_var (i := 0)) de_int (fun _ _ => rfl)) (da_cons de_bl da_nil)))) (de_lst (da_cons de_str da_nil))) (de_call O__law_ones M__law_ones exs_fn hg hr (by omega) (by rfl) (da_cons (de_ix (d_ix hu1) (de_var (i := 0)) de_int (fun _ _ => rfl)) (da_cons de_bl da_nil)))) scLOnes.nd))
    (dss_one (ds_for (di_val (de_slice (de_var (i := 0)) (do_some de_int) do_none)) (dg_name (i := 4) scLOnes.nd)
    (dss_one (ds_set (i := 2) (de_op d_add (de_op d_add (de_var (i := 2)) (de_op d_mul (de_lst (da_cons (de_var (i := 3)) da_nil)) (de_callB (d_min2 rfl) (by rfl) B.min boot_min (da_cons de_int (da_cons (de_callB d_len' (by rfl) B.len PySem.boot_len (da_cons (de_var (i := 2)) da_nil)) da_nil))))) (de_call O__law_ones M__law_ones exs_fn hg hr (by omega) (by rfl) (da_cons (de_var (i := 4)) (da_cons de_bl da_nil)))) scLOnes.nd)) (passes_of rfl) rfl)))
    (dss_one (ds_ret (de_if (dt_val (de_var (i := 1))) (de_op d_add (de_op d_add (de_lst (da_cons de_str da_nil)) (de_var (i := 2))) (de_lst (da_cons de_str da_nil))) (de_var (i := 2))))))))))
/-! _law_page -/
abbrev sLPage : Stmt := top 59
abbrev nLPage : List Str := ["_law_lore", "_law_past_rows", "_law_name", "_law_path", "_law_kind", "_law_pattern", "_law_formula"]
theorem scLPage : FnScope nLPage ["_law_lore"] (defScope sLPage) := ⟨rfl, rfl, rfl, by decide +kernel, rfl, by decide +kernel, by decide +kernel⟩
def bLPage (wf__law_ones : WF)  (ex : KX) : WS :=
  (wSeq (wSet 1 (wLc (wIter (wOp oIx (wVar 0) (wC (.str "persons")))) (gPut 2) wYes (wOp oAdd (wC (.str "person ")) (wVar 2)) [2]))
  (wSeq (wSet 1 (wOp oAdd (wVar 1) (wLc (wIter (wOp oIx (wVar 0) (wC (.str "paths")))) (gUnp 2 (gsCons (gPut 3) (gsCons (gPut 4) gsNil))) wYes (wOp oAdd (wOp oAdd (wOp oAdd (wC (.str "path ")) (wVar 3)) (wC (.str " "))) (wVar 4)) [3, 4])))
  (wSeq (wSet 1 (wOp oAdd (wVar 1) (wLc (wIter (wOp oIx (wVar 0) (wC (.str "rights")))) (gUnp 2 (gsCons (gPut 2) (gsCons (gPut 5) gsNil))) wYes (wOp oAdd (wOp oAdd (wOp oAdd (wC (.str "right ")) (wVar 2)) (wC (.str " "))) (wVar 5)) [2, 5])))
  (wRet (wSM omJoin (wC (.str "\n")) (wCons (wOp oAdd (wVar 1) (wLc (wIter (wOp oIx (wVar 0) (wC (.str "rules")))) (gPut 6) wYes (wSM omJoin (wC (.str " ")) (wCons (wOp oAdd (wLst (wCons (wC (.str "rule")) wNil)) (wCall 2 wf__law_ones (fun _ _ _ => False) (wCons (wVar 6) (wCons (wC (.bl false)) wNil)))) wNil)) [6])) wNil))))))
theorem dfLPage {k : Nat} {wf__law_ones : WF}  (B : Free mg) (D : DefOf K mg "_law_page" sLPage ["_law_lore"]) (O__law_ones : Def P w K mg base k "_law_ones" 2 wf__law_ones) (M__law_ones : MonoF wf__law_ones) : Def P w K mg base (k + 1) "_law_page" 1 (wFn 7 (bLPage wf__law_ones )) := by
  refine D.ok scLPage (fun f cdv A outer s H E ex hg hr => ?_)
  have hu := hr.units
  have hu1 := hu_of hr
  have hur : (A.deeper (envOfC "_law_page" (defScope sLPage) s.heap.objs.size f cdv)).units + 200 < cLine := by have := hr.un; omega
  exact (dss_cons (ds_setLc (i := 1) (own := [("_law_name", 2)]) rfl scLPage.nd (di_val (de_ix (d_ix hu1) (de_var (i := 0)) de_str (fun _ _ => rfl))) (blkOk_by (N := nLPage) (sc := defScope sLPage) (by decide +kernel)) (fun _ _ _ _ _ => (dg_name (i := 2) scLPage.nd)) (fun _ _ _ _ _ => dts_nil) (fun _ _ _ _ _ => (de_op d_add de_str (de_var (i := 2)))) ⟨s⟩ (sw_true rfl rfl rfl (by decide +kernel)))
    (dss_cons (ds_set (i := 1) (de_op d_add (de_var (i := 1)) (de_lc (own := [("_law_path", 3), ("_law_kind", 4)]) rfl scLPage.nd (di_val (de_ix (d_ix hu1) (de_var (i := 0)) de_str (fun _ _ => rfl))) (blkOk_by (N := nLPage) (sc := defScope sLPage) (by decide +kernel)) (fun _ _ _ _ _ => (dg_unp rfl (dgs_cons (dg_name (i := 3) scLPage.nd) (dgs_cons (dg_name (i := 4) scLPage.nd) dgs_nil)))) (fun _ _ _ _ _ => dts_nil) (fun _ _ _ _ _ => (de_op d_add (de_op d_add (de_op d_add de_str (de_var (i := 3))) de_str) (de_var (i := 4)))) ⟨s⟩)) scLPage.nd)
    (dss_cons (ds_set (i := 1) (de_op d_add (de_var (i := 1)) (de_lc (own := [("_law_name", 2), ("_law_pattern", 5)]) rfl scLPage.nd (di_val (de_ix (d_ix hu1) (de_var (i := 0)) de_str (fun _ _ => rfl))) (blkOk_by (N := nLPage) (sc := defScope sLPage) (by decide +kernel)) (fun _ _ _ _ _ => (dg_unp rfl (dgs_cons (dg_name (i := 2) scLPage.nd) (dgs_cons (dg_name (i := 5) scLPage.nd) dgs_nil)))) (fun _ _ _ _ _ => dts_nil) (fun _ _ _ _ _ => (de_op d_add (de_op d_add (de_op d_add de_str (de_var (i := 2))) de_str) (de_var (i := 5)))) ⟨s⟩)) scLPage.nd)
    (dss_one (ds_ret (de_sm PySem.F.slot_str_join PySem.F.type_str_join m_join de_str (da_cons (de_op d_add (de_var (i := 1)) (de_lc (own := [("_law_formula", 6)]) rfl scLPage.nd (di_val (de_ix (d_ix hu1) (de_var (i := 0)) de_str (fun _ _ => rfl))) (blkOk_by (N := nLPage) (sc := defScope sLPage) (by decide +kernel)) (fun _ _ _ _ _ => (dg_name (i := 6) scLPage.nd)) (fun _ _ _ _ _ => dts_nil) (fun _ _ _ _ _ => (de_sm PySem.F.slot_str_join PySem.F.type_str_join m_join de_str (da_cons (de_op d_add (de_lst (da_cons de_str da_nil)) (de_call O__law_ones M__law_ones exs_none hg hr (by omega) (by rfl) (da_cons (de_var (i := 6)) (da_cons de_bl da_nil)))) da_nil))) ⟨s⟩)) da_nil)))))))
end
end WL
end
section
set_option Elab.async false
set_option linter.all false
set_option maxRecDepth 100000
set_option maxHeartbeats 400000
namespace WL
open PySem L2 PyProof.Rows DL
open WK (Fm Op)
/-! ### draws -/
def wTake : WF := fun ds n Q _ => ∃ m : Int, ds = [.pot, .int m] ∧ 1 ≤ n ∧ 0 < m ∧ m < 1000000 ∧ ∀ r : Int, 0 ≤ r → r < m → Q (.int r) (n - 1)
theorem mTake : MonoF wTake := fun ds n Q Q' ex ex' h _ ⟨m, e, a, b, c, d⟩ => ⟨m, e, a, b, c, fun r h1 h2 => h _ _ (d r h1 h2)⟩
def wOf : WF := fun ds n Q _ => ∃ xs : List D, ds = [.pot, .lst xs] ∧ 1 ≤ n ∧ xs ≠ [] ∧ xs.length < 1000000 ∧ ∀ v ∈ xs, Q v (n - 1)
theorem mOf : MonoF wOf := fun ds n Q Q' ex ex' h _ ⟨m, e, a, b, c, d⟩ => ⟨m, e, a, b, c, fun r h1 => h _ _ (d r h1)⟩
theorem atI_nn {α : Type} {xs : List α} {r : Int} (h0 : 0 ≤ r) (h1 : r < xs.length) : ∃ v, atI xs r = some v ∧ v ∈ xs := by
  obtain ⟨k, rfl⟩ := Int.eq_ofNat_of_zero_le h0
  have hk : k < xs.length := by omega
  refine ⟨xs[k], ?_, List.getElem_mem hk⟩
  unfold atI ixN
  simp [hk]
theorem eqD_str (a b : Str) : eqD (.str a) (.str b) = some (decide (a = b)) := by
  unfold eqD flatD
  simp [eqV]
  by_cases h : a = b <;> simp [h]
theorem eqD_int (a b : Int) : eqD (.int a) (.int b) = some (decide (a = b)) := by
  unfold eqD flatD
  simp [eqV]
  by_cases h : a = b <;> simp [h]
theorem sOf {ds : List D} {n : Nat} {Q : D → Nat → Prop} {ex : KX} (h : wOf ds n Q ex) : wFn 2 (bLOf wTake) ds n Q ex := by
  obtain ⟨xs, rfl, hn, hne, hl, k⟩ := h
  simp [wFn, bLOf, wRet, wOp, wVar, wCall, wCons, wNil, wCB, hold, use, uses, deref, derefs, T.frz, oLen, lenD, gives, frzs, frzE, wTake, oIx, ixD, give]
  refine ⟨hn, by cases xs with | nil => exact absurd rfl hne | cons a b => simp, by omega, fun r h0 h1 => ?_⟩
  obtain ⟨v, e, m⟩ := atI_nn h0 h1
  rw [e]
  exact k v m
/-! ### atoms -/
def fD : Fm → D
  | .non p => .tup [.str "none", .str p]
  | .word p z => .tup [.str "word", .str p, .str z]
  | .like p q => .tup [.str "like", .str p, .str q]
  | .neg f => .tup [.str "not", fD f]
  | .bin o f g => .tup [.str o.s, fD f, fD g]
def words4 : List Str := ["x", "y", "then", "none"]
def Dr (ps : List Str) : Fm → Prop
  | .non p => p ∈ ps
  | .word p z => p ∈ ps ∧ z ∈ words4
  | .like p q => p ∈ ps ∧ q ∈ ps
  | .neg f => Dr ps f
  | .bin _ f g => Dr ps f ∧ Dr ps g
def wAtom : WF := fun ds n Q _ => ∃ ps : List Str, ds = [.pot, .lst (ps.map .str)] ∧ ps ≠ [] ∧ ps.length < 1000000 ∧ 3 ≤ n ∧ ∀ F n', WK.atomB F = true → Dr ps F → n ≤ n' + 3 → Q (fD F) n'
theorem mAtom : MonoF wAtom := fun ds n Q Q' ex ex' h _ ⟨ps, e, a, b, c, d⟩ => ⟨ps, e, a, b, c, fun F n' h1 h2 h3 => h _ _ (d F n' h1 h2 h3)⟩
theorem sAtom {ds : List D} {n : Nat} {Q : D → Nat → Prop} {ex : KX} (h : wAtom ds n Q ex) : wFn 4 (bLAtom wOf wTake) ds n Q ex := by
  obtain ⟨ps, rfl, hne, hl, hn, k⟩ := h
  have s3 : 3 ≤ sizeLine := by decide +kernel
  simp [wFn, bLAtom, wRet, wOp, wVar, wCall, wCons, wNil, wCB, hold, use, uses, deref, derefs, T.frz, gives, frzs, frzE, give, wTake, wOf, wSeq, wPar, wFix, wIfS, DL.wCmp, Sx.put, wC, oEq, isBl, eqD_int, wTup, wLst, wIf, stNow, wNext]
  have h2 : 2 ≤ sizeLine := by decide +kernel
  have h4 : 4 ≤ sizeLine := by decide +kernel
  refine ⟨by omega, hne, hl, fun a ha => ⟨by omega, fun r h0 h1 => ?_⟩⟩
  split
  · exact ⟨h2, k (.non a) _ rfl ha (by omega)⟩
  · split
    · exact ⟨by omega, hne, hl, fun b hb => ⟨s3, k (.like a b) _ rfl ⟨ha, hb⟩ (by omega)⟩⟩
    · exact ⟨h4, by omega, ⟨s3, k (.word a "x") _ rfl ⟨ha, by simp [words4]⟩ (by omega)⟩, ⟨s3, k (.word a "y") _ rfl ⟨ha, by simp [words4]⟩ (by omega)⟩, ⟨s3, k (.word a "then") _ rfl ⟨ha, by simp [words4]⟩ (by omega)⟩, ⟨s3, k (.word a "none") _ rfl ⟨ha, by simp [words4]⟩ (by omega)⟩⟩
/-! ### formulas -/
theorem nat_atom {F : Fm} (h : WK.atomB F = true) : WK.nat F = 1 ∧ WK.ht F = 0 ∧ (WK.ones F true).length = 3 := by cases F <;> first | exact ⟨rfl, rfl, rfl⟩ | cases h
theorem len_bin {o : Op} {f g : Fm} : (WK.ones (.bin o f g) true).length ≤ (WK.ones f true).length + (WK.ones g true).length + 4 := by
  cases o <;> simp [WK.ones, WK.inner] <;> omega
theorem len_false (f : Fm) : (WK.ones f false).length ≤ (WK.ones f true).length := by
  cases f <;> simp [WK.ones] <;> omega
def wDrawn (m : Nat) : WF := fun ds n Q _ => ∃ (ps : List Str) (many : Nat), ds = [.pot, .lst (ps.map .str), .int many] ∧ ps ≠ [] ∧ ps.length < 1000000 ∧ 1 ≤ many ∧ many ≤ m ∧ 6 * many ≤ n + 2 ∧ ∀ F n', Dr ps F → WK.nat F = many → WK.ht F + 1 ≤ 2 * many → (WK.ones F true).length + 5 ≤ 9 * many → n + 2 ≤ n' + 6 * many → Q (fD F) n'
theorem mDrawn {m : Nat} : MonoF (wDrawn m) := fun ds n Q Q' ex ex' h _ ⟨ps, many, e, a, b, c, c1, c2, d⟩ => ⟨ps, many, e, a, b, c, c1, c2, fun F n' h1 h2 h3 h4 h5 => h _ _ (d F n' h1 h2 h3 h4 h5)⟩
theorem sDrawn {m : Nat} {ds : List D} {n : Nat} {Q : D → Nat → Prop} {ex : KX} (h : wDrawn (m + 1) ds n Q ex) : wFn 5 (bLDrawnFormula wAtom wOf (wDrawn m) wTake) ds n Q ex := by
  obtain ⟨ps, many, rfl, hne, hl, h1, hm, hn, k⟩ := h
  simp [wFn, bLDrawnFormula, wRet, wOp, wVar, wCall, wCons, wNil, wCB, hold, use, uses, deref, derefs, T.frz, gives, frzs, frzE, give, wTake, wOf, wAtom, wSeq, wPar, wFix, wIfS, DL.wCmp, Sx.put, wC, oEq, isBl, eqD_int, wTup, wLst, wIf, stNow, wNext, wSet, store, oSub, wDrawn]
  have h2 : 2 ≤ sizeLine := by decide +kernel
  have h3 : 3 ≤ sizeLine := by decide +kernel
  have h4 : 4 ≤ sizeLine := by decide +kernel
  split
  · next e =>
    have e1 : many = 1 := by omega
    subst e1
    refine ⟨ps, rfl, hne, hl, by omega, fun F n' ha hd hn' => ⟨by omega, fun r h0 h1 => ?_⟩⟩
    obtain ⟨e1, e2, e3⟩ := nat_atom ha
    split
    · exact ⟨h2, k (.neg F) _ hd e1 (by simp only [WK.ht]; omega) (by simp only [WK.ones, List.length_cons]; omega) (by omega)⟩
    · exact k F _ hd e1 (by omega) (by omega) (by omega)
  · next e =>
    have h5 : 2 ≤ many := by omega
    have main : ∀ o : Op, ∃ (ps_1 : List Str) (many_1 : Nat), (List.map D.str ps = List.map D.str ps_1 ∧ 1 = (many_1 : Int)) ∧ ¬ps_1 = [] ∧ ps_1.length < 1000000 ∧ 1 ≤ many_1 ∧ many_1 ≤ m ∧ 6 * many_1 ≤ n - 1 + 2 ∧
        ∀ (F : Fm) (n' : Nat), Dr ps_1 F → WK.nat F = many_1 → WK.ht F + 1 ≤ 2 * many_1 → (WK.ones F true).length + 5 ≤ 9 * many_1 → n - 1 + 2 ≤ n' + 6 * many_1 →
          ∃ (ps_2 : List Str) (many_2 : Nat), (List.map D.str ps = List.map D.str ps_2 ∧ (many : Int) - 1 = (many_2 : Int)) ∧ ¬ps_2 = [] ∧ ps_2.length < 1000000 ∧ 1 ≤ many_2 ∧ many_2 ≤ m ∧ 6 * many_2 ≤ n' + 2 ∧
            ∀ (F_1 : Fm) (n'_1 : Nat), Dr ps_2 F_1 → WK.nat F_1 = many_2 → WK.ht F_1 + 1 ≤ 2 * many_2 → (WK.ones F_1 true).length + 5 ≤ 9 * many_2 → n' + 2 ≤ n'_1 + 6 * many_2 →
              3 ≤ sizeLine ∧ 1 ≤ n'_1 ∧ ∀ (r : Int), 0 ≤ r → r < 4 → if r = 0 then 2 ≤ sizeLine ∧ Q (D.tup [D.str (Str.ofString "not"), D.tup [D.str o.s, fD F, fD F_1]]) (n'_1 - 1) else Q (D.tup [D.str o.s, fD F, fD F_1]) (n'_1 - 1) := fun o => by
      refine ⟨ps, 1, ⟨rfl, rfl⟩, hne, hl, by omega, by omega, by omega, fun F n' d1 d2 d3 d5 d4 => ?_⟩
      refine ⟨ps, many - 1, ⟨rfl, by omega⟩, hne, hl, by omega, by omega, by omega, fun G n2 g1 g2 g3 g5 g4 => ⟨h3, by omega, fun r h0 h1 => ?_⟩⟩
      have hl := len_bin (o := o) (f := F) (g := G)
      have hh : WK.ht (.bin o F G) + 2 ≤ 2 * many := by simp only [WK.ht]; omega
      split
      · exact ⟨h2, k (.neg (.bin o F G)) _ ⟨d1, g1⟩ (by simp only [WK.nat]; omega) (by simp only [WK.ht] at hh ⊢; omega) (by rw [WK.ones, List.length_cons]; omega) (by omega)⟩
      · exact k (.bin o F G) _ ⟨d1, g1⟩ (by simp only [WK.nat]; omega) (by omega) (by omega) (by omega)
    exact ⟨h4, by omega, main .or, main .and, main .iff, main .or⟩
/-! ### tags -/
theorem tg_none_word : ((Str.ofString "none" : Str) = Str.ofString "word") = False := eq_false (by decide +kernel)
theorem tg_none_like : ((Str.ofString "none" : Str) = Str.ofString "like") = False := eq_false (by decide +kernel)
theorem tg_none_not : ((Str.ofString "none" : Str) = Str.ofString "not") = False := eq_false (by decide +kernel)
theorem tg_none_and : ((Str.ofString "none" : Str) = Str.ofString "and") = False := eq_false (by decide +kernel)
theorem tg_none_or : ((Str.ofString "none" : Str) = Str.ofString "or") = False := eq_false (by decide +kernel)
theorem tg_none_if : ((Str.ofString "none" : Str) = Str.ofString "if") = False := eq_false (by decide +kernel)
theorem tg_word_none : ((Str.ofString "word" : Str) = Str.ofString "none") = False := eq_false (by decide +kernel)
theorem tg_word_like : ((Str.ofString "word" : Str) = Str.ofString "like") = False := eq_false (by decide +kernel)
theorem tg_word_not : ((Str.ofString "word" : Str) = Str.ofString "not") = False := eq_false (by decide +kernel)
theorem tg_word_and : ((Str.ofString "word" : Str) = Str.ofString "and") = False := eq_false (by decide +kernel)
theorem tg_word_or : ((Str.ofString "word" : Str) = Str.ofString "or") = False := eq_false (by decide +kernel)
theorem tg_word_if : ((Str.ofString "word" : Str) = Str.ofString "if") = False := eq_false (by decide +kernel)
theorem tg_like_none : ((Str.ofString "like" : Str) = Str.ofString "none") = False := eq_false (by decide +kernel)
theorem tg_like_word : ((Str.ofString "like" : Str) = Str.ofString "word") = False := eq_false (by decide +kernel)
theorem tg_like_not : ((Str.ofString "like" : Str) = Str.ofString "not") = False := eq_false (by decide +kernel)
theorem tg_like_and : ((Str.ofString "like" : Str) = Str.ofString "and") = False := eq_false (by decide +kernel)
theorem tg_like_or : ((Str.ofString "like" : Str) = Str.ofString "or") = False := eq_false (by decide +kernel)
theorem tg_like_if : ((Str.ofString "like" : Str) = Str.ofString "if") = False := eq_false (by decide +kernel)
theorem tg_not_none : ((Str.ofString "not" : Str) = Str.ofString "none") = False := eq_false (by decide +kernel)
theorem tg_not_word : ((Str.ofString "not" : Str) = Str.ofString "word") = False := eq_false (by decide +kernel)
theorem tg_not_like : ((Str.ofString "not" : Str) = Str.ofString "like") = False := eq_false (by decide +kernel)
theorem tg_not_and : ((Str.ofString "not" : Str) = Str.ofString "and") = False := eq_false (by decide +kernel)
theorem tg_not_or : ((Str.ofString "not" : Str) = Str.ofString "or") = False := eq_false (by decide +kernel)
theorem tg_not_if : ((Str.ofString "not" : Str) = Str.ofString "if") = False := eq_false (by decide +kernel)
theorem tg_and_none : ((Str.ofString "and" : Str) = Str.ofString "none") = False := eq_false (by decide +kernel)
theorem tg_and_word : ((Str.ofString "and" : Str) = Str.ofString "word") = False := eq_false (by decide +kernel)
theorem tg_and_like : ((Str.ofString "and" : Str) = Str.ofString "like") = False := eq_false (by decide +kernel)
theorem tg_and_not : ((Str.ofString "and" : Str) = Str.ofString "not") = False := eq_false (by decide +kernel)
theorem tg_and_or : ((Str.ofString "and" : Str) = Str.ofString "or") = False := eq_false (by decide +kernel)
theorem tg_and_if : ((Str.ofString "and" : Str) = Str.ofString "if") = False := eq_false (by decide +kernel)
theorem tg_or_none : ((Str.ofString "or" : Str) = Str.ofString "none") = False := eq_false (by decide +kernel)
theorem tg_or_word : ((Str.ofString "or" : Str) = Str.ofString "word") = False := eq_false (by decide +kernel)
theorem tg_or_like : ((Str.ofString "or" : Str) = Str.ofString "like") = False := eq_false (by decide +kernel)
theorem tg_or_not : ((Str.ofString "or" : Str) = Str.ofString "not") = False := eq_false (by decide +kernel)
theorem tg_or_and : ((Str.ofString "or" : Str) = Str.ofString "and") = False := eq_false (by decide +kernel)
theorem tg_or_if : ((Str.ofString "or" : Str) = Str.ofString "if") = False := eq_false (by decide +kernel)
theorem tg_if_none : ((Str.ofString "if" : Str) = Str.ofString "none") = False := eq_false (by decide +kernel)
theorem tg_if_word : ((Str.ofString "if" : Str) = Str.ofString "word") = False := eq_false (by decide +kernel)
theorem tg_if_like : ((Str.ofString "if" : Str) = Str.ofString "like") = False := eq_false (by decide +kernel)
theorem tg_if_not : ((Str.ofString "if" : Str) = Str.ofString "not") = False := eq_false (by decide +kernel)
theorem tg_if_and : ((Str.ofString "if" : Str) = Str.ofString "and") = False := eq_false (by decide +kernel)
theorem tg_if_or : ((Str.ofString "if" : Str) = Str.ofString "or") = False := eq_false (by decide +kernel)
theorem seq_nx {a b : WS} {S : Sx} {W : WEnds} (S1 : Sx) (h : ∀ W' : WEnds, W'.nx S1 → a S W') (k : b S1 W) : wSeq a b S W := h _ k
theorem seq_rt {a b : WS} {S : Sx} {W : WEnds} (d : D) (n : Nat) (h : ∀ W' : WEnds, W'.rt d n → a S W') (k : W.rt d n) : wSeq a b S W := h _ k
/-! ### truth -/
def wTrue (m : Nat) : WF := fun ds n Q _ => ∃ (ps : List Str) (kvs : List (Key × D)) (F : Fm), ds = [fD F, .dk kvs] ∧ (∀ p ∈ ps, getK kvs (.inr p) = some .non) ∧ Dr ps F ∧ WK.ht F ≤ m ∧ Q (.bl (WK.tr WK.val0 F)) n
theorem mTrue {m : Nat} : MonoF (wTrue m) := fun ds n Q Q' ex ex' h _ ⟨ps, kvs, F, e, a, b, c, d⟩ => ⟨ps, kvs, F, e, a, b, c, h _ _ d⟩
/-- a test of the formula's word: not this one -/
theorem tag_no {z y : Str} {ds : List D} {ρ : List T} {n : Nat} {a : WS} (hz : z ≠ y) (W' : WEnds) (h : W'.nx ⟨.d (.tup (.str z :: ds)) :: ρ, n⟩) : wIfS (DL.wCmp oEq (wOp oIx (wVar 0) (wC (.int 0))) (wC (.str y))) a wNext ⟨.d (.tup (.str z :: ds)) :: ρ, n⟩ W' := by
  simp [wIfS, DL.wCmp, wOp, wVar, wC, hold, use, deref, oIx, ixD, atI, ixN, oEq, eqD_str, hz, isBl, wNext, h]
theorem tag_yes {z : Str} {ds : List D} {ρ : List T} {n : Nat} {a b : WS} (W' : WEnds) (h : a ⟨.d (.tup (.str z :: ds)) :: ρ, n⟩ W') : wIfS (DL.wCmp oEq (wOp oIx (wVar 0) (wC (.int 0))) (wC (.str z))) a b ⟨.d (.tup (.str z :: ds)) :: ρ, n⟩ W' := by
  simp [wIfS, DL.wCmp, wOp, wVar, wC, hold, use, deref, oIx, ixD, atI, ixN, oEq, eqD_str, isBl, h]
theorem sTrue {m : Nat} {wI : WF} (hw : ∀ ds n Q ex, (∃ m', m' + 1 = m ∧ wTrue m' ds n Q ex) → wI ds n Q ex) {ds : List D} {n : Nat} {Q : D → Nat → Prop} {ex : KX} (h : wTrue m ds n Q ex) : wFn 4 (bLTrue wI) ds n Q ex := by
  obtain ⟨ps, kvs, F, rfl, hg, hd, hm, k⟩ := h
  cases F with
  | non p =>
    refine seq_rt _ _ (fun W' h => tag_yes W' ?_) k
    simp [wRet, wOp, wVar, wC, hold, use, deref, oIx, ixD, atI, ixN, keyOf, hg p hd, oIs, DL.isNon, give, frzE, WK.tr, WK.val0]
    exact h
  | word p z =>
    refine seq_nx _ (tag_no (by decide +kernel)) (seq_rt _ _ (fun W' h => tag_yes W' ?_) k)
    simp [wRet, wOp, wVar, wC, hold, use, deref, oIx, ixD, atI, ixN, keyOf, hg p hd.1, oEq, eqD, flatD, eqV, give, frzE, WK.tr, WK.val0]
    exact h
  | like p z =>
    refine seq_nx _ (tag_no (by decide +kernel)) (seq_nx _ (tag_no (by decide +kernel)) (seq_rt _ _ (fun W' h => tag_yes W' ?_) k))
    simp [wRet, wOp, wVar, wC, hold, use, deref, oIx, ixD, atI, ixN, keyOf, hg p hd.1, hg z hd.2, oEq, eqD, flatD, eqV, give, frzE, WK.tr, WK.val0]
    exact h
  | neg f =>
    have h1 : 0 < sizeLine := by decide +kernel
    refine seq_nx _ (tag_no (by decide +kernel)) (seq_nx _ (tag_no (by decide +kernel)) (seq_nx _ (tag_no (by decide +kernel)) ?_))
    refine seq_nx ⟨[.d (fD (.neg f)), .d (.dk kvs), .l [.bl (WK.tr WK.val0 f)], .dead], n⟩ (fun W' h => ?_) ?_
    · simp [wSet, wLc, wIter, wSl, wVar, wOSome, wONone, wC, hold, use, deref, slD, DL.cutD, fD, give, frzE, iterK, iterD, wLcGo, gPut, wYes, wCall, wCons, wNil, gives, frzs, Sx.wipe, wipeT, Sx.put, Sx.back, backT, keepT, store, T.frz, HT.sIx]
      simp only [WK.ht] at hm
      exact hw _ _ _ _ ⟨m - 1, by omega, ps, kvs, f, rfl, hg, hd, by omega, h1, h⟩
    · refine seq_rt _ _ (fun W' h => tag_yes W' ?_) k
      simp [wRet, wNotV, wOp, wVar, wC, hold, use, deref, oIx, ixD, atI, ixN, truD, T.frz, give, frzE]
      exact h
  | bin o f g =>
    have h1 : 0 < sizeLine := by decide +kernel
    have h2 : 1 < sizeLine := by decide +kernel
    refine seq_nx _ (tag_no (by cases o <;> decide +kernel)) (seq_nx _ (tag_no (by cases o <;> decide +kernel)) (seq_nx _ (tag_no (by cases o <;> decide +kernel)) ?_))
    refine seq_nx ⟨[.d (fD (.bin o f g)), .d (.dk kvs), .l [.bl (WK.tr WK.val0 f), .bl (WK.tr WK.val0 g)], .dead], n⟩ (fun W' h => ?_) ?_
    · simp [wSet, wLc, wIter, wSl, wVar, wOSome, wONone, wC, hold, use, deref, slD, DL.cutD, fD, give, frzE, iterK, iterD, wLcGo, gPut, wYes, wCall, wCons, wNil, gives, frzs, Sx.wipe, wipeT, Sx.put, Sx.back, backT, keepT, store, T.frz, HT.sIx]
      simp only [WK.ht] at hm
      exact hw _ _ _ _ ⟨m - 1, by omega, ps, kvs, f, rfl, hg, hd.1, by omega, h1, hw _ _ _ _ ⟨m - 1, by omega, ps, kvs, g, rfl, hg, hd.2, by omega, h2, h⟩⟩
    · refine seq_nx _ (tag_no (by cases o <;> decide +kernel)) ?_
      simp only [WK.tr] at k
      cases o with
      | and =>
        refine seq_rt _ _ (fun W' h => tag_yes W' ?_) k
        simp [wRet, wCB, wCons, wNil, wOp, wVar, wC, hold, uses, derefs, use, deref, oAll, blsD, T.frz, give, frzE]
        exact h
      | or =>
        refine seq_nx _ (tag_no (by decide +kernel)) ?_
        simp [wRet, wIf, DL.wCmp, oEq, fD, eqD_str, Op.s, tg_or_if, isBl, wCB, wCons, wNil, wOp, wVar, wC, hold, uses, derefs, use, deref, oAny, oIx, ixD, atI, ixN, blsD, T.frz, give, frzE]
        exact k
      | iff =>
        refine seq_nx _ (tag_no (by decide +kernel)) ?_
        simp [wRet, wIf, DL.wCmp, oEq, fD, eqD_str, Op.s, isBl, wOrV, wNotV, truD, wCB, wCons, wNil, wOp, wVar, wC, hold, uses, derefs, use, deref, oIx, ixD, atI, ixN, blsD, T.frz, give, frzE]
        cases hg : WK.tr WK.val0 g <;> cases hf : WK.tr WK.val0 f <;> simpa [hg, hf, WK.opB] using k
/-! ### words -/
def wOnes (m : Nat) : WF := fun ds n Q _ => ∃ (F : Fm) (b : Bool), ds = [fD F, .bl b] ∧ WK.ht F ≤ m ∧ (WK.ones F true).length ≤ 1000 ∧ Q (.lst ((WK.ones F b).map .str)) n
theorem mOnes {m : Nat} : MonoF (wOnes m) := fun ds n Q Q' ex ex' h _ ⟨F, b, e, a, c, d⟩ => ⟨F, b, e, a, c, h _ _ d⟩
theorem wl_no {z : Str} (h1 : z ≠ "word") (h2 : z ≠ "like") : inD' (.str z) (.tup [.str "word", .str "like"]) = some false := by
  have e1 : (z == ("word" : Str)) = false := by simp [h1]
  have e2 : (z == ("like" : Str)) = false := by simp [h2]
  simp [inD', inD, flatD, flatsD, inV, eqV, h1, h2, Ne.symm h1, Ne.symm h2]
theorem wl_w : inD' (.str "word") (.tup [.str "word", .str "like"]) = some true := by decide +kernel
theorem wl_l : inD' (.str "like") (.tup [.str "word", .str "like"]) = some true := by decide +kernel
def oneBody (wI : WF) (ex : KX) : WS := (wSet 2 (wOp oAdd (wOp oAdd (wVar 2) (wOp oMul (wLst (wCons (wVar 3) wNil)) (wCB oMin2 (wCons (wC (.int 1)) (wCons (wCB oLen (wCons (wVar 2) wNil)) wNil))))) (wCall 2 wI (fun C d S => ex C d S.n) (wCons (wVar 4) (wCons (wC (.bl true)) wNil)))))
theorem oneBody_ok {wI : WF} {ex : KX} {a b : T} {xs ys : List Str} {o : Str} {h : D} {n : Nat} {W : WEnds} (hs : xs.length + ys.length + 1 ≤ 2000)
    (hw : ∀ Q ex', Q (D.lst (ys.map .str)) n → wI [h, .bl true] n Q ex') (k : W.nx ⟨[a, b, .l ((xs ++ List.replicate (min 1 xs.length) o ++ ys).map .str), .d (.str o), .d h], n⟩) : oneBody wI ex ⟨[a, b, .l (xs.map .str), .d (.str o), .d h], n⟩ W := by
  have h2 : 2000 ≤ sizeLine := by decide +kernel
  have e : (if (xs.length : Int) < 1 then (xs.length : Int) else 1).toNat = min 1 xs.length := by split <;> omega
  have e2 : (-9223372036854775808 : Int) ≤ (if (xs.length : Int) < 1 then (xs.length : Int) else 1) ∧ (if (xs.length : Int) < 1 then (xs.length : Int) else 1) < 9223372036854775808 ∧ (if (xs.length : Int) < 1 then (xs.length : Int) else 1) ≤ 1 := by split <;> omega
  simp [oneBody, wSet, wOp, wVar, wC, hold, use, deref, uses, derefs, give, frzE, wLst, wCons, wNil, gives, frzs, T.frz, wCall, wCB, oLen, lenD, oMin2, oMul, oAdd, Sx.put]
  generalize (if (xs.length : Int) < 1 then (xs.length : Int) else 1) = j at e e2 ⊢
  rw [e]
  refine ⟨by omega, ⟨by omega, by omega⟩, by omega, by omega, hw _ _ ?_⟩
  simp [store, Sx.put]
  refine ⟨by omega, ?_⟩
  simpa [List.map_replicate] using k
theorem sOnes {m : Nat} {wI : WF} (hw : ∀ ds n Q ex, (∃ m', m' + 1 = m ∧ wOnes m' ds n Q ex) → wI ds n Q ex) {ds : List D} {n : Nat} {Q : D → Nat → Prop} {ex : KX} (h : wOnes m ds n Q ex) : wFn 5 (bLOnes wI) ds n Q ex := by
  obtain ⟨F, b, rfl, hm, hl, k⟩ := h
  have h2 : 2000 ≤ sizeLine := by decide +kernel
  cases F with
  | non p =>
    refine seq_rt _ _ (fun W' h => tag_yes W' ?_) k
    simp [wRet, wOp, wVar, wC, hold, use, deref, oIx, ixD, atI, ixN, give, frzE, wLst, wCons, wNil, gives, frzs, T.frz]
    exact ⟨by omega, h⟩
  | word p z =>
    refine seq_nx _ (tag_no (by decide +kernel)) (seq_rt _ _ (fun W' h => ?_) k)
    simp [wIfS, DL.wCmp, wTup, oIn', fD, wl_w, isBl, wRet, wOp, wVar, wC, hold, use, deref, oIx, ixD, atI, ixN, give, frzE, wLst, wCons, wNil, gives, frzs, T.frz]
    exact ⟨by omega, by omega, h⟩
  | like p z =>
    refine seq_nx _ (tag_no (by decide +kernel)) (seq_rt _ _ (fun W' h => ?_) k)
    simp [wIfS, DL.wCmp, wTup, oIn', fD, wl_l, isBl, wRet, wOp, wVar, wC, hold, use, deref, oIx, ixD, atI, ixN, give, frzE, wLst, wCons, wNil, gives, frzs, T.frz]
    exact ⟨by omega, by omega, h⟩
  | neg f =>
    refine seq_nx _ (tag_no (by decide +kernel)) (seq_nx ⟨[.d (fD (.neg f)), .d (.bl b), .dead, .dead, .dead], n⟩ (fun W' h => ?_) (seq_rt _ _ (fun W' h => tag_yes W' ?_) k))
    · simp [wIfS, DL.wCmp, wTup, oIn', fD, wl_no (z := "not") (by decide +kernel) (by decide +kernel), isBl, wRet, wOp, wVar, wC, hold, use, deref, oIx, ixD, atI, ixN, give, frzE, wLst, wCons, wNil, gives, frzs, T.frz, wNext]
      exact ⟨by omega, h⟩
    · simp [wRet, wOp, wVar, wC, hold, use, deref, oIx, ixD, atI, ixN, give, frzE, wLst, wCons, wNil, gives, frzs, T.frz, wCall]
      simp only [WK.ht] at hm
      simp only [WK.ones, List.length_cons] at hl
      refine ⟨by omega, hw _ _ _ _ ⟨m - 1, by omega, f, true, rfl, by omega, by omega, ?_⟩⟩
      simp [oAdd, T.frz, give, frzE]
      exact ⟨by omega, h⟩
  | bin o f g =>
    have hl2 := len_bin (o := o) (f := f) (g := g)
    refine seq_nx _ (tag_no (by cases o <;> decide +kernel)) (seq_nx ⟨[.d (fD (.bin o f g)), .d (.bl b), .dead, .dead, .dead], n⟩ (fun W' h => ?_) (seq_nx _ (tag_no (by cases o <;> decide +kernel)) ?_))
    · simp [wIfS, DL.wCmp, wTup, oIn', fD, wl_no (z := o.s) (by cases o <;> decide +kernel) (by cases o <;> decide +kernel), isBl, wRet, wOp, wVar, wC, hold, use, deref, oIx, ixD, atI, ixN, give, frzE, wLst, wCons, wNil, gives, frzs, T.frz, wNext]
      exact ⟨by omega, h⟩
    refine seq_nx ⟨[.d (fD (.bin o f g)), .d (.bl b), .l [], .d (.str o.s), .dead], n⟩ (fun W' h => ?_) ?_
    · simp [wPar, wFix, stNow, Sx.put, fD, wOp, wVar, wC, hold, use, deref, oIx, ixD, atI, ixN, give, frzE, wLst, wCons, wNil, gives, frzs, T.frz, wNext]
      exact h
    have fin : ∀ (t : T) , wRet (wIf (DL.wTru (wVar 1)) (wOp oAdd (wOp oAdd (wLst (wCons (wC (D.str (Str.ofString "("))) wNil)) (wVar 2)) (wLst (wCons (wC (D.str (Str.ofString ")"))) wNil))) (wVar 2)) ⟨[.d (fD (.bin o f g)), .d (.bl b), .l ((WK.inner o (WK.ones f true) (WK.ones g true)).map .str), .d (.str o.s), t], n⟩ ⟨fun S => Q D.non S.n, Q, fun _ => False, fun _ => False⟩ := fun t => by
      cases b with
      | true =>
        simp [WK.ones] at hl
        simp [wRet, wIf, DL.wTru, truD, wOp, wVar, wC, hold, use, deref, give, frzE, wLst, wCons, wNil, gives, frzs, T.frz, oAdd]
        simp [WK.ones] at k
        exact ⟨by omega, by omega, by omega, by omega, k⟩
      | false =>
        simp [wRet, wIf, DL.wTru, truD, wOp, wVar, wC, hold, use, deref, give, frzE, wLst, wCons, wNil, gives, frzs, T.frz, oAdd]
        exact k
    simp only [WK.ht] at hm
    have hlf : (WK.ones f true).length + (WK.ones g true).length ≤ 1000 := by
      cases o <;> simp [WK.ones, WK.inner] at hl <;> omega
    have hc : (o = .iff) ∨ (o.s ≠ "if" ∧ WK.inner o (WK.ones f true) (WK.ones g true) = WK.ones f true ++ o.s :: WK.ones g true) := by cases o <;> first | exact .inl rfl | exact .inr ⟨by decide +kernel, rfl⟩
    rcases hc with rfl | ⟨hc, hi⟩
    · refine seq_nx _ (fun W' h => ?_) (fin .dead)
      simp [wIfS, DL.wCmp, oEq, eqD_str, Op.s, isBl, wSet, wOp, wVar, wC, hold, use, deref, give, frzE, wLst, wCons, wNil, gives, frzs, T.frz, wCall, oIx, ixD, fD, atI, ixN]
      refine ⟨by omega, hw _ _ _ _ ⟨m - 1, by omega, f, true, rfl, by omega, by omega, ?_⟩⟩
      simp [oAdd, T.frz]
      refine ⟨by omega, by omega, by omega, hw _ _ _ _ ⟨m - 1, by omega, g, true, rfl, by omega, by omega, ?_⟩⟩
      simp [oAdd, T.frz, store, Sx.put]
      refine ⟨by omega, ?_⟩
      simp [WK.inner] at h
      exact h
    · refine seq_nx _ (fun W' h => ?_) (fin (.d (fD g)))
      simp [wIfS, DL.wCmp, oEq, eqD_str, hc, isBl, wVar, wC, hold, use, deref]
      show wFor _ _ (oneBody wI ex) _ _
      simp [wFor, wIter, wSl, wOSome, wONone, slD, DL.cutD, HT.sIx, iterK, iterD, wVar, wC, hold, use, deref, give, frzE, fD]
      refine oneBody_ok (xs := []) (ys := WK.ones f true) (by simp; omega) (fun Q ex' q => hw _ _ _ _ ⟨m - 1, by omega, f, true, rfl, by omega, by omega, q⟩) ?_
      refine oneBody_ok (xs := WK.ones f true) (ys := WK.ones g true) (by omega) (fun Q ex' q => hw _ _ _ _ ⟨m - 1, by omega, g, true, rfl, by omega, by omega, q⟩) ?_
      rw [hi] at h
      have e1 : min 1 (WK.ones f true).length = 1 := by
        have : WK.ones f true ≠ [] := by cases f <;> simp [WK.ones]
        have : (WK.ones f true).length ≠ 0 := fun z => this (List.length_eq_zero_iff.mp z)
        omega
      rw [e1]
      simpa [wForGo, fD] using h
end WL
end
section
set_option Elab.async false
set_option linter.all false
set_option maxRecDepth 100000
set_option maxHeartbeats 400000
namespace WL
open PySem L2 PyProof.Rows DL
open WK (Fm Op okW)
/-! ### dict([(path, None) ..]) -/
def allNon (kvs : List (Key × D)) : Prop := ∀ kv ∈ kvs, kv.2 = .non
def hasK (kvs : List (Key × D)) (k : Key) : Prop := ∃ kv ∈ kvs, kv.1 = k
theorem put_non {kvs : List (Key × D)} {k : Key} (h : allNon kvs) : allNon (putD kvs k .non) ∧ hasK (putD kvs k .non) k ∧ ∀ k', hasK kvs k' → hasK (putD kvs k .non) k' := by
  unfold putD
  split
  · next e =>
    obtain ⟨kv, h1, h2⟩ := List.any_eq_true.mp e
    have h2 := of_decide_eq_true h2
    refine ⟨fun x hx => ?_, ⟨(kv.1, .non), List.mem_map.mpr ⟨kv, h1, by rw [if_pos h2]⟩, h2⟩, fun k' ⟨x, hx, ex⟩ => ?_⟩
    · obtain ⟨y, hy, rfl⟩ := List.mem_map.mp hx
      split
      · rfl
      · exact h y hy
    · by_cases hk : x.1 = k
      · exact ⟨(x.1, .non), List.mem_map.mpr ⟨x, hx, by rw [if_pos hk]⟩, ex⟩
      · exact ⟨x, List.mem_map.mpr ⟨x, hx, by rw [if_neg hk]⟩, ex⟩
  · refine ⟨fun x hx => ?_, ⟨(k, .non), by simp, rfl⟩, fun k' ⟨x, hx, ex⟩ => ⟨x, by simp [hx], ex⟩⟩
    rcases List.mem_append.mp hx with hx | hx
    · exact h x hx
    · rw [List.mem_singleton.mp hx]
theorem merge_non : ∀ (ps : List Str) (kvs : List (Key × D)), allNon kvs → allNon (mergeD kvs (ps.map fun p => ((.inr p : Key), D.non))) ∧ (∀ k, hasK kvs k → hasK (mergeD kvs (ps.map fun p => ((.inr p : Key), D.non))) k) ∧ ∀ p ∈ ps, hasK (mergeD kvs (ps.map fun p => ((.inr p : Key), D.non))) (.inr p)
  | [], kvs, h => ⟨h, fun _ z => z, fun _ z => by cases z⟩
  | p :: ps, kvs, h => by
    obtain ⟨h1, h2, h3⟩ := put_non (k := (.inr p : Key)) h
    obtain ⟨g1, g2, g3⟩ := merge_non ps _ h1
    refine ⟨g1, fun k z => g2 _ (h3 _ z), fun q hq => ?_⟩
    rcases List.mem_cons.mp hq with rfl | hq
    · exact g2 _ h2
    · exact g3 q hq
theorem get_non {kvs : List (Key × D)} {k : Key} (h : allNon kvs) (hk : hasK kvs k) : getK kvs k = some .non := by
  unfold getK
  cases e : kvs.find? fun kv => decide (kv.1 = k) with
  | none =>
    obtain ⟨x, hx, ex⟩ := hk
    exact absurd (decide_eq_true ex) (by simpa using List.find?_eq_none.mp e x hx)
  | some y => rw [Option.map_some, h y (List.mem_of_find?_eq_some e)]
theorem pairs_non : ∀ ps : List Str, pairsD (ps.map fun p => D.tup [.str p, .non]) = some (ps.map fun p => ((.inr p : Key), D.non))
  | [] => rfl
  | p :: ps => by simp only [List.map_cons, pairsD, keyOf, pairs_non ps]
theorem lc_pairs {a0 a1 a2 a3 a4 a5 a6 a7 : T} {n : Nat} {Q : List D → Sx → Prop} : ∀ (ps : List Str) (acc : List D), acc.length + ps.length < 2000 → Q (acc ++ ps.map fun p => D.tup [.str p, .non]) ⟨[a0, a1, a2, a3, a4, a5, a6, a7, .dead], n⟩ →
    wLcGo (gPut 8) wYes (wTup (wCons (wVar 8) (wCons (wC .non) wNil))) [8] (ps.map .str) acc ⟨[a0, a1, a2, a3, a4, a5, a6, a7, .dead], n⟩ Q
  | [], acc, _, h => by simpa [wLcGo] using h
  | p :: ps, acc, hl, h => by
    have h2 : 2000 ≤ sizeLine := by decide +kernel
    simp only [List.length_cons] at hl
    simp [wLcGo, gPut, wYes, wTup, wCons, wVar, wC, wNil, hold, gives, frzs, frzE, give, Sx.put, Sx.wipe, wipeT]
    refine ⟨by omega, by omega, lc_pairs ps _ (by simp; omega) (by simpa using h)⟩
theorem ne_nil {ps : List Str} (h : ∀ p ∈ ps, okW p) : eqD (.lst (ps.map .str)) (.lst []) = some (decide (ps = [])) := by
  have e : ∀ zs : List Str, toPs (zs.map D.str) = some (zs.map PyData.str) := fun zs => by
    induction zs with
    | nil => rfl
    | cons z zs ih => simp only [List.map_cons, toPs, toP, ih]
  have s1 := WK.shaped_strs h
  have s2 : SeqAt.shaped (.list []) = true := by decide +kernel
  unfold eqD
  simp only [flatD, toP, e, toPs, Option.map_some]
  rw [if_pos ⟨s1, s2⟩]
  cases ps <;> simp [PyData.eqv, PyData.eqvAll]
/-! ### rules -/
structure RuleF (ps : List Str) (F : Fm) : Prop where
  dr : Dr ps F
  ht : WK.ht F ≤ 8
  tr : WK.tr WK.val0 F = true
  len : (WK.ones F true).length ≤ 32
def ruleBody (ex : KX) : WS := (wSeq (wSet 5 (wIf (DL.wCmp oGt (wVar 3) (wC (.int 0))) (wOp oAdd (wC (.int 1)) (wCall 2 wTake (fun C d S => ex C d S.n) (wCons (wVar 0) (wCons (wVar 3) wNil)))) (wC (.int 0))))
  (wIfS (DL.wCmp oGt (wVar 5) (wC (.int 0))) (wSeq (wPar 6 3 (wCall 3 (wDrawn 4) (fun C d S => ex C d S.n) (wCons (wVar 0) (wCons (wVar 1) (wCons (wVar 5) wNil)))) (wOp oSub (wVar 3) (wVar 5)))
  (wSeq (wSet 7 (wCall 2 (wTrue 8) (fun C d S => ex C d S.n) (wCons (wVar 6) (wCons (wCB oDict (wCons (wLc (wIter (wVar 1)) (gPut 8) wYes (wTup (wCons (wVar 8) (wCons (wC .non) wNil))) [8]) wNil)) wNil))))
  (wDrop (wMu "list" ouAppend 2 (wCons (wIf (DL.wTru (wVar 7)) (wVar 6) (wTup (wCons (wC (.str "not")) (wCons (wVar 6) wNil)))) wNil))))) wNext))
theorem seq_all {a b : WS} {S : Sx} {W : WEnds} (P : Sx → Prop) (h : ∀ W' : WEnds, (∀ S1, P S1 → W'.nx S1) → a S W') (k : ∀ S1, P S1 → b S1 W) : wSeq a b S W := h _ k
theorem rule_body {ps : List Str} {Fs : List Fm} {left n : Nat} {t4 t5 t6 t7 : T} {ex : KX} {W : WEnds} (hne : ps ≠ []) (hps : ps.length ≤ 8) (hl : left ≤ 4) (hs : (Fs.map WK.nat).sum + left ≤ 4) (hn : 6 * left ≤ n) (hf : Fs.length ≤ 1000)
    (k : ∀ (Fs' : List Fm) (left' n' : Nat) (s5 s6 s7 : T), (Fs' = Fs ∨ ∃ F, Fs' = Fs ++ [F] ∧ RuleF ps F) → left' ≤ 4 → (Fs'.map WK.nat).sum + left' ≤ 4 → 6 * left' ≤ n' → n + 6 * left' ≤ n' + 6 * left → W.nx ⟨[.d .pot, .d (.lst (ps.map .str)), .l (Fs'.map fD), .d (.int left'), t4, s5, s6, s7, .dead], n'⟩) :
    ruleBody ex ⟨[.d .pot, .d (.lst (ps.map .str)), .l (Fs.map fD), .d (.int left), t4, t5, t6, t7, .dead], n⟩ W := by
  have h2 : 2000 ≤ sizeLine := by decide +kernel
  by_cases h0 : left = 0
  · subst h0
    simp [ruleBody, wSeq, wSet, wIf, DL.wCmp, wVar, wC, hold, use, deref, oGt, isBl, store, Sx.put, give, frzE, wIfS, wNext]
    exact k Fs 0 n (.d (.int 0)) t6 t7 (.inl rfl) (by omega) hs hn (by omega)
  refine seq_all (fun S1 => ∃ r : Nat, r < left ∧ S1 = ⟨[.d .pot, .d (.lst (ps.map .str)), .l (Fs.map fD), .d (.int left), t4, .d (.int (1 + (r : Int))), t6, t7, .dead], n - 1⟩) (fun W' h => ?_) ?_
  · have h1 : 0 < left := by omega
    simp [wSet, wIf, DL.wCmp, wVar, wC, hold, use, deref, oGt, isBl, store, Sx.put, give, frzE, h1, wOp, wCall, wCons, wNil, gives, frzs, wTake, oAdd]
    refine ⟨by omega, by omega, fun r a b => ?_⟩
    obtain ⟨r, rfl⟩ := Int.eq_ofNat_of_zero_le a
    exact h _ ⟨r, by omega, rfl⟩
  rintro _ ⟨r, hr, rfl⟩
  have h1 : (0 : Int) < 1 + (r : Int) := by omega
  have e1 : (1 + (r : Int)) = ((1 + r : Nat) : Int) := by omega
  simp [wIfS, DL.wCmp, wVar, wC, hold, use, deref, oGt, isBl, h1]
  refine seq_all (fun S1 => ∃ F n', Dr ps F ∧ WK.nat F = 1 + r ∧ WK.ht F + 1 ≤ 2 * (1 + r) ∧ (WK.ones F true).length + 5 ≤ 9 * (1 + r) ∧ n - 1 + 2 ≤ n' + 6 * (1 + r) ∧ S1 = ⟨[.d .pot, .d (.lst (ps.map .str)), .l (Fs.map fD), .d (.int ((left - (1 + r) : Nat) : Int)), t4, .d (.int (1 + (r : Int))), .d (fD F), t7, .dead], n'⟩) (fun W' h => ?_) ?_
  · have e2 : (left : Int) - (1 + (r : Int)) = ((left - (1 + r) : Nat) : Int) := by omega
    rw [e1]
    simp [wPar, wFix, stNow, wVar, wC, hold, use, deref, Sx.put, wOp, wCall, wCons, wNil, gives, frzs, frzE, oSub, wDrawn]
    refine ⟨ps, 1 + r, ⟨rfl, by omega⟩, hne, by omega, by omega, by omega, by omega, fun F n' d1 d2 d3 d4 d5 => ?_⟩
    rw [e2]
    exact h _ ⟨F, n', d1, d2, d3, d4, d5, by rw [e1]⟩
  rintro _ ⟨F, n', d1, d2, d3, d4, d5, rfl⟩
  refine seq_nx ⟨[.d .pot, .d (.lst (ps.map .str)), .l (Fs.map fD), .d (.int ((left - (1 + r) : Nat) : Int)), t4, .d (.int (1 + (r : Int))), .d (fD F), .d (.bl (WK.tr WK.val0 F)), .dead], n'⟩ (fun W' h => ?_) ?_
  · simp [wSet, wCall, wCons, wNil, wCB, wLc, wIter, wVar, hold, give, frzE, iterK, iterD, Sx.wipe, wipeT]
    refine lc_pairs ps [] (by simp; omega) ?_
    obtain ⟨m1, m2, m3⟩ := merge_non ps [] (fun _ z => by cases z)
    simp [uses, derefs, deref, T.frz, oDict, pairs_non, hold, gives, frzs, frzE, Sx.back, backT, keepT]
    exact ⟨ps, _, F, rfl, fun p hp => get_non m1 (m3 p hp), d1, by omega, by simpa [store, give, frzE, Sx.put] using h⟩
  have hsum : ∀ G, WK.nat G = 1 + r → ((Fs ++ [G]).map WK.nat).sum + (left - (1 + r)) ≤ 4 := fun G hG => by
    rw [List.map_append, List.sum_append]
    simp only [List.map_cons, List.map_nil, List.sum_cons, List.sum_nil, hG]
    omega
  cases ht : WK.tr WK.val0 F with
  | true =>
    simp [wDrop, wMu, atOwn, T.owned, isTy, wCons, wNil, wIf, DL.wTru, truD, wVar, hold, use, deref, gives, frzs, frzE, ouAppend, Sx.put]
    have := k (Fs ++ [F]) (left - (1 + r)) n' (.d (.int (1 + (r : Int)))) (.d (fD F)) (.d (.bl true)) (.inr ⟨F, rfl, d1, by omega, ht, by omega⟩) (by omega) (hsum F d2) (by omega) (by omega)
    simp at this
    exact ⟨by omega, this⟩
  | false =>
    simp [wDrop, wMu, atOwn, T.owned, isTy, wCons, wNil, wC, wTup, wIf, DL.wTru, truD, wVar, hold, use, deref, gives, frzs, frzE, ouAppend, Sx.put]
    have := k (Fs ++ [.neg F]) (left - (1 + r)) n' (.d (.int (1 + (r : Int)))) (.d (fD F)) (.d (.bl false)) (.inr ⟨.neg F, rfl, d1, by simp only [WK.ht]; omega, by simp only [WK.tr, ht]; rfl, by rw [WK.ones, List.length_cons]; omega⟩) (by omega) (hsum (.neg F) d2) (by omega) (by omega)
    simp [fD] at this
    exact ⟨by omega, by omega, this⟩
def wRules : WF := fun ds n Q _ => ∃ ps : List Str, ds = [.pot, .lst (ps.map .str)] ∧ (∀ p ∈ ps, okW p) ∧ ps.length ≤ 8 ∧ 25 ≤ n ∧ ∀ (Fs : List Fm) n', (∀ F ∈ Fs, RuleF ps F) → Fs.length ≤ 3 → (Fs.map WK.nat).sum ≤ 4 → n ≤ n' + 25 → Q (.tup (Fs.map fD)) n'
theorem mRules : MonoF wRules := fun ds n Q Q' ex ex' h _ ⟨ps, e, a, b, c, d⟩ => ⟨ps, e, a, b, c, fun F n' h1 h2 h3 h4 => h _ _ (d F n' h1 h2 h3 h4)⟩
theorem rule_loop {ps : List Str} {ex : KX} {W : WEnds} {N : Nat} (hne : ps ≠ []) (hps : ps.length ≤ 8) (k : ∀ (Fs : List Fm) (n' : Nat) (left : Nat) (s4 s5 s6 s7 : T), (∀ F ∈ Fs, RuleF ps F) → Fs.length ≤ 3 → (Fs.map WK.nat).sum ≤ 4 → N ≤ n' + 24 → W.nx ⟨[.d .pot, .d (.lst (ps.map .str)), .l (Fs.map fD), .d (.int left), s4, s5, s6, s7, .dead], n'⟩) :
    ∀ (ds : List D) (Fs : List Fm) (left n : Nat) (t4 t5 t6 t7 : T), ds.length + Fs.length ≤ 3 → (∀ F ∈ Fs, RuleF ps F) → left ≤ 4 → (Fs.map WK.nat).sum + left ≤ 4 → 6 * left ≤ n → N + 6 * left ≤ n + 24 → wForGo (gPut 4) (ruleBody ex) ds ⟨[.d .pot, .d (.lst (ps.map .str)), .l (Fs.map fD), .d (.int left), t4, t5, t6, t7, .dead], n⟩ W
  | [], Fs, left, n, t4, t5, t6, t7, h1, h2, h3, h4, h5, h6 => k Fs n left t4 t5 t6 t7 h2 (by simpa using h1) (by omega) (by omega)
  | d :: ds, Fs, left, n, t4, t5, t6, t7, h1, h2, h3, h4, h5, h6 => by
    simp only [List.length_cons] at h1
    refine rule_body (n := n) (t4 := .d d) hne hps h3 h4 h5 (by omega) fun Fs' left' n' s5 s6 s7 hc g1 g2 g3 g4 => ?_
    refine rule_loop hne hps k ds Fs' left' n' _ _ _ _ ?_ ?_ g1 g2 g3 (by omega)
    · rcases hc with rfl | ⟨F, rfl, _⟩
      · omega
      · simp; omega
    · rcases hc with rfl | ⟨F, rfl, hF⟩
      · exact h2
      · intro G hG
        rcases List.mem_append.mp hG with z | z
        · exact h2 G z
        · rw [List.mem_singleton.mp z]; exact hF
theorem sRules {ds : List D} {n : Nat} {Q : D → Nat → Prop} {ex : KX} (h : wRules ds n Q ex) : wFn 9 (bLRules wTake (wDrawn 4) (wTrue 8)) ds n Q ex := by
  obtain ⟨ps, rfl, ho, hp, hn, k⟩ := h
  refine seq_nx ⟨[.d .pot, .d (.lst (ps.map .str)), .l [], .d (.int 4), .dead, .dead, .dead, .dead, .dead], n⟩ (fun W' h => ?_) ?_
  · simp [wPar, wFix, stNow, Sx.put, wLst, wNil, wC, gives, frzs]
    exact h
  refine seq_all (fun S1 => ∃ (Fs : List Fm) (n' : Nat) (left : Nat) (s4 s5 s6 s7 : T), (∀ F ∈ Fs, RuleF ps F) ∧ Fs.length ≤ 3 ∧ (Fs.map WK.nat).sum ≤ 4 ∧ n ≤ n' + 25 ∧ S1 = ⟨[.d .pot, .d (.lst (ps.map .str)), .l (Fs.map fD), .d (.int left), s4, s5, s6, s7, .dead], n'⟩) (fun W' h => ?_) ?_
  · show wFor _ _ (ruleBody ex) _ _
    by_cases he : ps = []
    · have e := ne_nil ho
      rw [he] at e
      subst he
      simp [wFor, wRange, wCons, wNil, wIf, DL.wCmp, wVar, wLst, gives, frzs, oNe, hold, use, deref, T.frz, e, isBl, wC, uses, derefs, oRange1, upto, wForGo]
      simp at e
      rw [e]
      simp
      exact h _ ⟨[], n, 4, .dead, .dead, .dead, .dead, by simp, by simp, by simp, by omega, rfl⟩
    · have e := ne_nil ho
      rw [decide_eq_false he] at e
      simp [wFor, wRange, wCons, wNil, wIf, DL.wCmp, wVar, wLst, gives, frzs, oNe, hold, use, deref, T.frz, e, isBl, wC, uses, derefs, wCall, frzE, wTake]
      refine ⟨by omega, fun r h0 h1 => ?_⟩
      have e3 : oRange1 [.int r] = some (upto 0 r) := by
        simp only [oRange1]
        rw [if_pos ⟨by omega, by omega⟩]
      rw [e3]
      refine rule_loop (N := n - 1) he hp (fun Fs n' left s4 s5 s6 s7 a b c d => h _ ⟨Fs, n', left, s4, s5, s6, s7, a, b, c, by omega, rfl⟩) _ [] 4 (n - 1) .dead .dead .dead .dead ?_ (by simp) (by omega) (by simp) (by omega) (by omega)
      simp [upto]
      omega
  rintro _ ⟨Fs, n', left, s4, s5, s6, s7, a, b, c, d, rfl⟩
  simp [wRet, wCB, wCons, wVar, wNil, hold, uses, derefs, deref, T.frz, oTuple, give, frzE]
  exact k Fs n' a b c d
end WL
end
section
set_option Elab.async false
set_option linter.all false
set_option maxRecDepth 100000
set_option maxHeartbeats 400000
namespace WL
open PySem L2 PyProof.Rows DL
open WK (Fm Op okW)
/-! ### order -/
theorem leS_tr {a b c : Str} (h1 : DL.ltS b a = false) (h2 : DL.ltS c b = false) : DL.ltS c a = false := by
  rcases DL.ltS_tri c a with h | h | h
  · rcases DL.ltS_tri a b with g | g | g
    · rw [DL.ltS_tr h g] at h2; cases h2
    · rw [← g, h] at h2; cases h2
    · rw [g] at h1; cases h1
  · rw [h]; exact DL.ltS_irr _
  · exact DL.ltS_asym h
theorem risingS_pw : ∀ (l : List Str) (p : Str), risingS p l = true → (p :: l).Pairwise fun a b => DL.ltS b a = false
  | [], p, _ => List.pairwise_singleton _ _
  | x :: r, p, h => by
    simp only [risingS, Bool.and_eq_true, Bool.not_eq_true'] at h
    have h1 : DL.ltS x p = false := by rw [← h.1, ltCps_eq]; rfl
    have h2 := risingS_pw r x h.2
    refine List.pairwise_cons.mpr ⟨fun y hy => ?_, h2⟩
    rcases List.mem_cons.mp hy with rfl | hy
    · exact h1
    · exact leS_tr h1 ((List.pairwise_cons.mp h2).1 y hy)
theorem sortedS_pw {l : List Str} (h : sortedS l = true) : l.Pairwise fun a b => DL.ltS b a = false := by
  cases l with
  | nil => exact List.Pairwise.nil
  | cons x r => exact risingS_pw r x h
/-- one list only -/
theorem uniq_of {α : Type} {lt : α → α → Bool} (tri : ∀ a b, lt a b = true ∨ a = b ∨ lt b a = true) : ∀ {l m : List α}, l.Pairwise (fun a b => lt b a = false) → m.Pairwise (fun a b => lt b a = false) → l.Perm m → l = m
  | [], m, _, _, h => (List.Perm.eq_nil h.symm).symm
  | x :: l, [], _, _, h => absurd h.length_eq (by simp)
  | x :: l, y :: m, hl, hm, h => by
    have e : x = y := by
      rcases tri x y with q | q | q
      · rcases List.mem_cons.mp (h.mem_iff.mp (List.mem_cons_self (a := x) (l := l))) with e | hx
        · exact e
        · have := (List.pairwise_cons.mp hm).1 x hx
          rw [q] at this
          cases this
      · exact q
      · rcases List.mem_cons.mp (h.mem_iff.mpr (List.mem_cons_self (a := y) (l := m))) with e | hy
        · exact e.symm
        · have := (List.pairwise_cons.mp hl).1 y hy
          rw [q] at this
          cases this
    subst e
    rw [uniq_of tri (List.pairwise_cons.mp hl).2 (List.pairwise_cons.mp hm).2 h.cons_inv]
theorem strict_of {l : List Str} (h : l.Pairwise fun a b => DL.ltS b a = false) (n : l.Nodup) : l.Pairwise fun a b => DL.ltS a b = true := by
  refine List.Pairwise.imp₂ (fun a b h1 h2 => ?_) h n
  rcases DL.ltS_tri a b with q | q | q
  · exact q
  · exact absurd q h2
  · rw [q] at h1; cases h1
theorem strict_pairs {l : List (Str × Str)} (h : l.Pairwise fun a b => lexS b a = false) (n : (l.map (·.1)).Nodup) : (l.map (·.1)).Pairwise fun a b => DL.ltS a b = true := by
  rw [List.pairwise_map]
  refine List.Pairwise.imp₂ (fun a b h1 h2 => ?_) h (List.pairwise_map.mp n)
  rcases DL.ltS_tri a.1 b.1 with q | q | q
  · exact q
  · exact absurd q h2
  · have : lexS b a = true := lexS_iff.mpr (.inl q)
    rw [this] at h1; cases h1
theorem sortX_strs {zs : List Str} {k : Vl → Prop} (hl : zs.length < 64) (h : ∀ ys : List Str, ys.Perm zs → (ys.Pairwise fun a b => DL.ltS b a = false) → k (.n (.l (ys.map .str)))) : oSortedX [.lst (zs.map .str)] k := by
  cases zs with
  | nil =>
    have := h [] (List.Perm.refl _) List.Pairwise.nil
    simp [oSortedX, pairsS, oSorted, intsD]
    simpa using this
  | cons z zs =>
    have e : ∀ l : List Str, strsD (l.map D.str) = some l := fun l => by
      induction l with
      | nil => rfl
      | cons a l ih => simp only [List.map_cons, strsD, ih, Option.map_some]
    have e := e (z :: zs)
    simp only [List.map_cons] at e
    simp only [oSortedX, pairsS, oSorted, intsD, List.map_cons, e]
    exact ⟨by simpa using hl, fun ys a b => h ys a (sortedS_pw b)⟩
theorem sortX_pairs {zs : List (Str × Str)} {k : Vl → Prop} (h : ∀ ys : List (Str × Str), ys.Perm zs → (ys.Pairwise fun a b => lexS b a = false) → k (.n (.l (ys.map pD)))) : oSortedX [.lst (zs.map pD)] k := by
  cases zs with
  | nil =>
    have := h [] (List.Perm.refl _) List.Pairwise.nil
    simp [oSortedX, pairsS, oSorted, intsD]
    simpa using this
  | cons z zs =>
    simp only [oSortedX, pairsS_map]
    exact h
/-! ### the pool -/
theorem pop_perm {α : Type} : ∀ {xs : List α} {j : Nat} {d : α}, xs[j]? = some d → (d :: xs.eraseIdx j).Perm xs
  | x :: xs, 0, d, e => by simp at e; subst e; exact List.Perm.refl _
  | x :: xs, j + 1, d, e => by
    simp only [List.getElem?_cons_succ] at e
    simp only [List.eraseIdx_cons_succ]
    exact (List.Perm.swap _ _ _).trans ((pop_perm e).cons x)
def pool7 : List Str := ["a", "ann", "bob", "cy", "housea", "person", "rule"]
def pool8 : List Str := ["a.b", "a.c", "n.bugs", "n.bugs.old", "src.log", "src.main", "src.main.x", "then.if"]
def kinds5 : List Str := ["word", "firm", "ours", "count", "word"]
def some7 : List Str := ["*", "src.*", "src.main.*", "a.b", "n.bugs", "none.such", "n.*"]
theorem pop_ok {pool : List Str} {r : Int} (h0 : 0 ≤ r) (h1 : r < pool.length) : ∃ j z, seqIndex? r pool.length = some j ∧ pool[j]? = some z ∧ (z :: pool.eraseIdx j).Perm pool := by
  obtain ⟨k, rfl⟩ := Int.eq_ofNat_of_zero_le h0
  have hk : k < pool.length := by omega
  refine ⟨k, pool[k], ?_, List.getElem?_eq_getElem hk, pop_perm (List.getElem?_eq_getElem hk)⟩
  unfold seqIndex?
  have h2 : ¬ ((k : Int) < 0) := by omega
  simp [h2, hk]
theorem erase_map {α β : Type} (f : α → β) : ∀ (xs : List α) (j : Nat), (xs.map f).eraseIdx j = (xs.eraseIdx j).map f
  | [], _ => rfl
  | _ :: _, 0 => rfl
  | x :: xs, j + 1 => by simp only [List.map_cons, List.eraseIdx_cons_succ, erase_map f xs j]
def nameBody (ex : KX) : WS := (wDrop (wMu "list" ouAppend 1 (wCons (wMu "list" ouPopAt 2 (wCons (wCall 2 wTake (fun C d S => ex C d S.n) (wCons (wVar 0) (wCons (wCB oLen (wCons (wVar 2) wNil)) wNil))) wNil)) wNil)))
theorem name_body {names pool : List Str} {ρ : List T} {t : T} {n : Nat} {ex : KX} {W : WEnds} (hn : 1 ≤ n) (hp : pool ≠ []) (hl : pool.length ≤ 100) (hm : names.length ≤ 100)
    (k : ∀ z pool', (z :: pool').Perm pool → W.nx ⟨.d .pot :: .l ((names ++ [z]).map .str) :: .l (pool'.map .str) :: t :: ρ, n - 1⟩) : nameBody ex ⟨.d .pot :: .l (names.map .str) :: .l (pool.map .str) :: t :: ρ, n⟩ W := by
  have h2 : 2000 ≤ sizeLine := by decide +kernel
  have hp' : 0 < pool.length := by cases pool with | nil => exact absurd rfl hp | cons a b => simp
  simp [nameBody, wDrop, wMu, atOwn, T.owned, isTy, wCons, wNil, wVar, hold, wCall, wCB, uses, derefs, deref, T.frz, oLen, lenD, gives, frzs, frzE, wTake, ouPopAt, ouAppend, Sx.put]
  refine ⟨hn, hp', by omega, fun r h0 h1 => ⟨⟨by omega, by omega⟩, ?_⟩⟩
  obtain ⟨j, z, e1, e2, e3⟩ := pop_ok h0 h1
  have e2' : (pool.map D.str)[j]? = some (.str z) := by rw [List.getElem?_map, e2]; rfl
  have := k z _ e3
  rw [e1]
  simp [e2, erase_map] at this ⊢
  exact ⟨by omega, this⟩
theorem name_loop {ρ : List T} {ex : KX} {W : WEnds} : ∀ (ds : List D) (names pool : List Str) (n : Nat) (t : T), (names ++ pool).Perm pool7 → ds.length + names.length ≤ 3 → ds.length ≤ n →
    (∀ (names' pool' : List Str) (t' : T), (names' ++ pool').Perm pool7 → names'.length = ds.length + names.length → W.nx ⟨.d .pot :: .l (names'.map .str) :: .l (pool'.map .str) :: t' :: ρ, n - ds.length⟩) → wForGo (gPut 3) (nameBody ex) ds ⟨.d .pot :: .l (names.map .str) :: .l (pool.map .str) :: t :: ρ, n⟩ W
  | [], names, pool, n, t, h1, h2, h3, k => k names pool t h1 (by simp)
  | d :: ds, names, pool, n, t, h1, h2, h3, k => by
    simp only [List.length_cons] at h2 h3 k
    have hl : names.length + pool.length = 7 := by have := h1.length_eq; rw [List.length_append] at this; exact this
    refine name_body (t := .d d) (n := n) (by omega) (fun z => by rw [z] at hl; simp at hl; omega) (by omega) (by omega) fun z pool' hz => ?_
    refine name_loop ds (names ++ [z]) pool' (n - 1) _ ?_ (by simp; omega) (by omega) fun names' pool'' t' g1 g2 => ?_
    · rw [List.append_assoc]
      exact (List.Perm.append_left _ hz).trans h1
    · have := k names' pool'' t' g1 (by rw [g2]; simp; omega)
      rw [show n - 1 - ds.length = n - (ds.length + 1) by omega]
      exact this
def pathBody (ex : KX) : WS := (wSeq (wSet 5 (wMu "list" ouPopAt 2 (wCons (wCall 2 wTake (fun C d S => ex C d S.n) (wCons (wVar 0) (wCons (wCB oLen (wCons (wVar 2) wNil)) wNil))) wNil)))
  (wDrop (wMu "list" ouAppend 4 (wCons (wTup (wCons (wVar 5) (wCons (wCall 2 wOf (fun C d S => ex C d S.n) (wCons (wVar 0) (wCons (wLst (wCons (wC (.str "word")) (wCons (wC (.str "firm")) (wCons (wC (.str "ours")) (wCons (wC (.str "count")) (wCons (wC (.str "word")) wNil)))))) wNil))) wNil))) wNil))))
theorem path_body {a1 : T} {paths : List (Str × Str)} {pool : List Str} {ρ : List T} {t t5 : T} {n : Nat} {ex : KX} {W : WEnds} (hn : 2 ≤ n) (hp : pool ≠ []) (hl : pool.length ≤ 100) (hm : paths.length ≤ 100)
    (k : ∀ z kd pool' t5', (z :: pool').Perm pool → kd ∈ kinds5 → W.nx ⟨.d .pot :: a1 :: .l (pool'.map .str) :: t :: .l ((paths ++ [(z, kd)]).map pD) :: t5' :: ρ, n - 2⟩) : pathBody ex ⟨.d .pot :: a1 :: .l (pool.map .str) :: t :: .l (paths.map pD) :: t5 :: ρ, n⟩ W := by
  have h2 : 2000 ≤ sizeLine := by decide +kernel
  have hp' : 0 < pool.length := by cases pool with | nil => exact absurd rfl hp | cons a b => simp
  refine seq_all (fun S1 => ∃ z pool', (z :: pool').Perm pool ∧ S1 = ⟨.d .pot :: a1 :: .l (pool'.map .str) :: t :: .l (paths.map pD) :: .d (.str z) :: ρ, n - 1⟩) (fun W' h => ?_) ?_
  · simp [wSet, wMu, atOwn, T.owned, isTy, wCons, wNil, wVar, hold, wCall, wCB, uses, derefs, deref, T.frz, oLen, lenD, gives, frzs, frzE, wTake, ouPopAt, Sx.put]
    refine ⟨by omega, hp', by omega, fun r h0 h1 => ⟨⟨by omega, by omega⟩, ?_⟩⟩
    obtain ⟨j, z, e1, e2, e3⟩ := pop_ok h0 h1
    have := h _ ⟨z, _, e3, rfl⟩
    rw [e1]
    simp [e2, erase_map, store, give, frzE, Sx.put] at this ⊢
    exact this
  · rintro _ ⟨z, pool', hz, rfl⟩
    simp [wDrop, wMu, atOwn, T.owned, isTy, wCons, wNil, wVar, hold, wCall, wC, wLst, wTup, deref, T.frz, gives, frzs, frzE, wOf, ouAppend, Sx.put]
    have e : ∀ kd ∈ kinds5, 2 ≤ sizeLine ∧ paths.length < sizeLine ∧ W.nx ⟨.d .pot :: a1 :: .l (pool'.map .str) :: t :: .l (paths.map pD ++ [.tup [.str z, .str kd]]) :: .d (.str z) :: ρ, n - 1 - 1⟩ := fun kd hk => by
      have := k z kd pool' (.d (.str z)) hz hk
      simp [pD] at this
      rw [show n - 1 - 1 = n - 2 by omega]
      exact ⟨by omega, by omega, by simpa [pD] using this⟩
    exact ⟨by omega, by omega, e _ (by simp [kinds5]), e _ (by simp [kinds5]), e _ (by simp [kinds5]), e _ (by simp [kinds5]), e _ (by simp [kinds5])⟩
theorem path_loop {a1 : T} {ρ : List T} {ex : KX} {W : WEnds} : ∀ (ds : List D) (paths : List (Str × Str)) (pool : List Str) (n : Nat) (t t5 : T), (paths.map (·.1) ++ pool).Perm pool8 → (∀ p ∈ paths, p.2 ∈ kinds5) → ds.length + paths.length ≤ 6 → 2 * ds.length ≤ n →
    (∀ (paths' : List (Str × Str)) (pool' : List Str) (t' t5' : T), (paths'.map (·.1) ++ pool').Perm pool8 → (∀ p ∈ paths', p.2 ∈ kinds5) → paths'.length = ds.length + paths.length → W.nx ⟨.d .pot :: a1 :: .l (pool'.map .str) :: t' :: .l (paths'.map pD) :: t5' :: ρ, n - 2 * ds.length⟩) → wForGo (gPut 3) (pathBody ex) ds ⟨.d .pot :: a1 :: .l (pool.map .str) :: t :: .l (paths.map pD) :: t5 :: ρ, n⟩ W
  | [], paths, pool, n, t, t5, h1, h0, h2, h3, k => k paths pool t t5 h1 h0 (by simp)
  | d :: ds, paths, pool, n, t, t5, h1, h0, h2, h3, k => by
    simp only [List.length_cons] at h2 h3 k
    have hl : paths.length + pool.length = 8 := by have := h1.length_eq; rw [List.length_append, List.length_map] at this; exact this
    refine path_body (t := .d d) (n := n) (by omega) (fun z => by rw [z] at hl; simp at hl; omega) (by omega) (by omega) fun z kd pool' t5' hz hk => ?_
    refine path_loop ds (paths ++ [(z, kd)]) pool' (n - 2) _ _ ?_ ?_ (by simp; omega) (by omega) fun paths' pool'' t' t5'' g1 g0 g2 => ?_
    · rw [List.map_append, List.append_assoc]
      exact (List.Perm.append_left _ hz).trans h1
    · intro p hp
      rcases List.mem_append.mp hp with hp | hp
      · exact h0 p hp
      · rw [List.mem_singleton.mp hp]; exact hk
    · have := k paths' pool'' t' t5'' g1 g0 (by rw [g2]; simp; omega)
      rw [show n - 2 - 2 * ds.length = n - 2 * (ds.length + 1) by omega]
      exact this
end WL
end
section
set_option Elab.async false
set_option linter.all false
set_option maxRecDepth 100000
set_option maxHeartbeats 400000
namespace WL
open PySem L2 PyProof.Rows DL
open WK (Fm Op okW)
/-! ### rights -/
def rightBody (ex : KX) : WS := (wIfS (DL.wCmp oEq (wCall 2 wTake (fun C d S => ex C d S.n) (wCons (wVar 0) (wCons (wC (.int 3)) wNil))) (wC (.int 0))) (wDrop (wMu "list" ouAppend 6 (wCons (wTup (wCons (wVar 8) (wCons (wVar 9) wNil))) wNil))) wNext)
theorem right_body {a1 a2 a3 a4 a5 a7 : T} {nm pt : Str} {rights : List (Str × Str)} {ρ : List T} {n : Nat} {ex : KX} {W : WEnds} (hn : 1 ≤ n) (hm : rights.length ≤ 1000)
    (k : ∀ rights', (rights' = rights ∨ rights' = rights ++ [(nm, pt)]) → W.nx ⟨.d .pot :: a1 :: a2 :: a3 :: a4 :: a5 :: .l (rights'.map pD) :: a7 :: .d (.str nm) :: .d (.str pt) :: ρ, n - 1⟩) : rightBody ex ⟨.d .pot :: a1 :: a2 :: a3 :: a4 :: a5 :: .l (rights.map pD) :: a7 :: .d (.str nm) :: .d (.str pt) :: ρ, n⟩ W := by
  have h2 : 2000 ≤ sizeLine := by decide +kernel
  simp [rightBody, wIfS, DL.wCmp, wCall, wCons, wNil, wC, wVar, hold, use, deref, gives, frzs, frzE, wTake, oEq, eqD_int, isBl, wNext, wDrop, wMu, atOwn, T.owned, isTy, wTup, ouAppend, Sx.put]
  refine ⟨hn, fun r h0 h1 => ?_⟩
  split
  · have := k _ (.inr rfl)
    simp [pD] at this
    exact ⟨by omega, by omega, by simpa [pD] using this⟩
  · exact k _ (.inl rfl)
theorem right_loop {a1 a2 a3 a4 a5 a7 : T} {nm : Str} {ρ : List T} {ex : KX} {W : WEnds} : ∀ (pats : List Str) (rights : List (Str × Str)) (n : Nat) (t9 : T), pats.length ≤ n → rights.length + pats.length ≤ 1000 → (pats.Pairwise fun a b => DL.ltS a b = true) → (rights.Pairwise fun a b => lexS a b = true) → (∀ r ∈ rights, ∀ q ∈ pats, lexS r (nm, q) = true) →
    (∀ (rights' : List (Str × Str)) (t9' : T), (rights'.Pairwise fun a b => lexS a b = true) → rights'.length ≤ rights.length + pats.length → (∀ r ∈ rights', r ∈ rights ∨ ∃ q ∈ pats, r = (nm, q)) → W.nx ⟨.d .pot :: a1 :: a2 :: a3 :: a4 :: a5 :: .l (rights'.map pD) :: a7 :: .d (.str nm) :: t9' :: ρ, n - pats.length⟩) →
    wForGo (gPut 9) (rightBody ex) (pats.map .str) ⟨.d .pot :: a1 :: a2 :: a3 :: a4 :: a5 :: .l (rights.map pD) :: a7 :: .d (.str nm) :: t9 :: ρ, n⟩ W
  | [], rights, n, t9, h1, h2, h3, h4, h5, k => k rights t9 h4 (by simp) fun r hr => .inl hr
  | pt :: pats, rights, n, t9, h1, h2, h3, h4, h5, k => by
    simp only [List.length_cons] at h1 h2 k
    refine right_body (n := n) (pt := pt) (by omega) (by omega) fun rights' hc => ?_
    have hp := List.pairwise_cons.mp h3
    have key : ∀ rights', (rights' = rights ∨ rights' = rights ++ [(nm, pt)]) → (rights'.Pairwise fun a b => lexS a b = true) ∧ (∀ r ∈ rights', ∀ q ∈ pats, lexS r (nm, q) = true) ∧ rights'.length ≤ rights.length + 1 ∧ ∀ r ∈ rights', r ∈ rights ∨ r = (nm, pt) := by
      rintro rights' (rfl | rfl)
      · exact ⟨h4, fun r hr q hq => h5 r hr q (List.mem_cons_of_mem _ hq), by omega, fun r hr => .inl hr⟩
      · refine ⟨List.pairwise_append.mpr ⟨h4, List.pairwise_singleton _ _, fun a ha b hb => by rw [List.mem_singleton.mp hb]; exact h5 a ha pt (List.mem_cons_self ..)⟩, fun r hr q hq => ?_, by simp, fun r hr => ?_⟩
        · rcases List.mem_append.mp hr with hr | hr
          · exact h5 r hr q (List.mem_cons_of_mem _ hq)
          · rw [List.mem_singleton.mp hr]
            exact lexS_iff.mpr (.inr ⟨rfl, hp.1 q hq⟩)
        · rcases List.mem_append.mp hr with hr | hr
          · exact .inl hr
          · exact .inr (List.mem_singleton.mp hr)
    obtain ⟨g1, g2, g3, g4⟩ := key rights' hc
    refine right_loop pats rights' (n - 1) _ (by omega) (by omega) hp.2 g1 g2 fun r2 t9' q1 q2 q3 => ?_
    have := k r2 t9' q1 (by omega) fun r hr => by
      rcases q3 r hr with z | ⟨q, hq, e⟩
      · rcases g4 r z with z | z
        · exact .inl z
        · exact .inr ⟨pt, List.mem_cons_self .., z⟩
      · exact .inr ⟨q, List.mem_cons_of_mem _ hq, e⟩
    rw [show n - 1 - pats.length = n - (pats.length + 1) by omega]
    exact this
theorem nd7 : some7.Nodup := by decide +kernel
theorem nd7p : pool7.Nodup := by decide +kernel
theorem nd8 : pool8.Nodup := by decide +kernel
def rightsBody (ex : KX) : WS := (wFor (wIter (wCB oSortedX (wCons (wVar 7) wNil))) (gPut 9) (rightBody ex))
theorem rights_loop {a1 a2 a3 a4 a5 : T} {ρ : List T} {ex : KX} {W : WEnds} : ∀ (names : List Str) (rights : List (Str × Str)) (n : Nat) (t8 t9 : T), 7 * names.length ≤ n → rights.length + 7 * names.length ≤ 1000 → (names.Pairwise fun a b => DL.ltS a b = true) → (rights.Pairwise fun a b => lexS a b = true) → (∀ r ∈ rights, ∀ q ∈ names, DL.ltS r.1 q = true) →
    (∀ (rights' : List (Str × Str)) (t8' t9' : T), (rights'.Pairwise fun a b => lexS a b = true) → rights'.length ≤ rights.length + 7 * names.length → (∀ r ∈ rights', r ∈ rights ∨ (r.1 ∈ names ∧ r.2 ∈ some7)) → W.nx ⟨.d .pot :: a1 :: a2 :: a3 :: a4 :: a5 :: .l (rights'.map pD) :: .l (some7.map .str) :: t8' :: t9' :: ρ, n - 7 * names.length⟩) →
    wForGo (gPut 8) (rightsBody ex) (names.map .str) ⟨.d .pot :: a1 :: a2 :: a3 :: a4 :: a5 :: .l (rights.map pD) :: .l (some7.map .str) :: t8 :: t9 :: ρ, n⟩ W
  | [], rights, n, t8, t9, h1, h2, h3, h4, h5, k => k rights t8 t9 h4 (by simp) fun r hr => .inl hr
  | nm :: names, rights, n, t8, t9, h1, h2, h3, h4, h5, k => by
    simp only [List.length_cons] at h1 h2 k
    have hp := List.pairwise_cons.mp h3
    simp only [List.map_cons, wForGo, gPut, Sx.put, List.set_cons_succ, List.set_cons_zero]
    simp only [rightsBody, wFor, wIter, wCB, wCons, wNil, wVar, hold, uses, derefs, deref, List.getElem?_cons_succ, List.getElem?_cons_zero, T.frz]
    refine sortX_strs (by decide) fun ys y1 y2 => ?_
    have yl : ys.length = 7 := y1.length_eq
    have ys' := strict_of y2 (y1.nodup_iff.mpr nd7)
    simp only [give, frzE, T.frz, iterK, iterD]
    refine right_loop ys rights n t9 (by omega) (by omega) ys' h4 (fun r hr q hq => lexS_iff.mpr (.inl (h5 r hr nm (List.mem_cons_self ..)))) fun r2 t9' q1 q2 q3 => ?_
    refine rights_loop names r2 (n - ys.length) _ _ (by omega) (by omega) hp.2 q1 (fun r hr q hq => ?_) fun r3 t8' t9'' p1 p2 p3 => ?_
    · rcases q3 r hr with z | ⟨q', hq', e⟩
      · exact h5 r z q (List.mem_cons_of_mem _ hq)
      · rw [e]; exact hp.1 q hq
    · have := k r3 t8' t9'' p1 (by omega) fun r hr => by
        rcases p3 r hr with z | ⟨z1, z2⟩
        · rcases q3 r z with z | ⟨q, hq, e⟩
          · exact .inl z
          · rw [e]; exact .inr ⟨List.mem_cons_self .., y1.mem_iff.mp hq⟩
        · exact .inr ⟨List.mem_cons_of_mem _ z1, z2⟩
      rw [yl, show n - 7 - 7 * names.length = n - 7 * (names.length + 1) by omega]
      exact this
end WL
end
section
set_option Elab.async false
set_option linter.all false
set_option maxRecDepth 100000
set_option maxHeartbeats 400000
namespace WL
open PySem L2 PyProof.Rows DL
open WK (Fm Op okW)
theorem range_of {j : Int} (h0 : 0 ≤ j) (h1 : j < 1000) : oRange1 [.int j] = some (upto 0 j) := by
  simp only [oRange1]
  rw [if_pos ⟨by omega, by omega⟩]
theorem upto_len (r : Nat) : (upto 0 (1 + (r : Int))).length = 1 + r := by
  unfold upto
  rw [List.length_map, List.length_range]
  omega
theorem upto_for {i : Int} {wg : WG} {b : WS} {S : Sx} {W : WEnds} (h0 : 0 ≤ i) (h1 : i < 1000) (h : ∀ ds : List D, ds.length = i.toNat → wForGo wg b ds S W) : (match oRange1 [.int i] with | some xs => wForGo wg b xs S W | none => False) := by
  rw [range_of h0 h1]
  exact h _ (by unfold upto; rw [List.length_map, List.length_range]; omega)
theorem for_take {m : Int} {a : List T} {wg : WG} {body : WS} {n : Nat} {ex : KX} {W : WEnds} (hm0 : 0 < m) (hm : m < 100) (hn : 1 ≤ n) (h : ∀ (j : Nat) (ds : List D), (j : Int) < m → ds.length = 1 + j → wForGo wg body ds ⟨.d .pot :: a, n - 1⟩ W) :
    wFor (wRange oRange1 (wCons (wOp oAdd (wC (.int 1)) (wCall 2 wTake (fun C d S => ex C d S.n) (wCons (wVar 0) (wCons (wC (.int m)) wNil)))) wNil)) wg body ⟨.d .pot :: a, n⟩ W := by
  simp only [wFor, wRange, wOp, wC, wCall, wCons, wNil, wVar, hold, gives, frzs, frzE, wTake, use, deref, oAdd, uses, derefs, List.getElem?_cons_zero]
  refine ⟨rfl, _, rfl, hn, hm0, by omega, fun r h0 h1 => ?_⟩
  have g : ∀ i : Int, i = 1 + r → (match oRange1 [.int i] with | some xs => wForGo wg body xs ⟨.d .pot :: a, n - 1⟩ W | none => False) := fun i ei => by
    refine upto_for (by omega) (by omega) fun ds hd => h r.toNat ds (by omega) (by omega)
  exact g _ rfl
structure Lore where
  names : List Str
  paths : List (Str × Str)
  rights : List (Str × Str)
  rules : List Fm
def loreD (L : Lore) : D := .dk [(.inr "persons", .tup (L.names.map .str)), (.inr "paths", .tup (L.paths.map pD)), (.inr "rights", .tup (L.rights.map pD)), (.inr "rules", .tup (L.rules.map fD))]
structure LoreOk (L : Lore) : Prop where
  n1 : L.names.Pairwise fun a b => DL.ltS a b = true
  n2 : ∀ z ∈ L.names, z ∈ pool7
  n3 : 1 ≤ L.names.length
  n4 : L.names.length ≤ 3
  p1 : (L.paths.map (·.1)).Pairwise fun a b => DL.ltS a b = true
  p2 : ∀ z ∈ L.paths, z.1 ∈ pool8 ∧ z.2 ∈ kinds5
  p3 : 1 ≤ L.paths.length
  p4 : L.paths.length ≤ 6
  r1 : L.rights.Pairwise fun a b => lexS a b = true
  r2 : ∀ z ∈ L.rights, z.1 ∈ L.names ∧ z.2 ∈ some7
  r3 : L.rights.length ≤ 21
  f1 : ∀ F ∈ L.rules, RuleF (WK.calm L.paths) F
  f2 : L.rules.length ≤ 3
  f3 : (L.rules.map WK.nat).sum ≤ 4
theorem eqD_ss (a b : Str) : eqD (.str a) (.str b) = some (decide (a = b)) := eqD_str a b
theorem lc_calm {a0 a1 a2 a3 a4 a6 a7 a8 a9 a10 a12 : T} {n : Nat} {Q : List D → Sx → Prop} : ∀ (ps : List (Str × Str)) (acc : List D), acc.length + ps.length < 1000 → Q (acc ++ (WK.calm ps).map .str) ⟨[a0, a1, a2, a3, a4, .dead, a6, a7, a8, a9, a10, .dead, a12], n⟩ →
    wLcGo (gUnp 2 (gsCons (gPut 5) (gsCons (gPut 11) gsNil))) (DL.wCmp oNe (wVar 11) (wC (.str "count"))) (wVar 5) [5, 11] (ps.map pD) acc ⟨[a0, a1, a2, a3, a4, .dead, a6, a7, a8, a9, a10, .dead, a12], n⟩ Q
  | [], acc, _, h => by simpa [wLcGo, WK.calm] using h
  | (p, kd) :: ps, acc, hl, h => by
    have h2 : 2000 ≤ sizeLine := by decide +kernel
    simp only [List.length_cons] at hl
    by_cases hk : kd = "count"
    · subst hk
      have ec : WK.calm ((p, "count") :: ps) = WK.calm ps := by simp [WK.calm]
      rw [ec] at h
      simp [wLcGo, pD, gUnp, gsCons, gsNil, gPut, DL.wCmp, wVar, wC, hold, use, deref, oNe, eqD_str, isBl, Sx.put, Sx.wipe, wipeT]
      exact lc_calm ps acc (by omega) h
    · have ec : WK.calm ((p, kd) :: ps) = p :: WK.calm ps := by simp [WK.calm, hk]
      rw [ec] at h
      simp [wLcGo, pD, gUnp, gsCons, gsNil, gPut, DL.wCmp, wVar, wC, hold, use, deref, oNe, eqD_str, hk, isBl, Sx.put, Sx.wipe, wipeT, give, frzE]
      exact ⟨by omega, lc_calm ps _ (by simp; omega) (by simpa using h)⟩
theorem ky_persons_paths : ((Str.ofString "persons" : Str) = Str.ofString "paths") = False := eq_false (by decide +kernel)
theorem ky_persons_rights : ((Str.ofString "persons" : Str) = Str.ofString "rights") = False := eq_false (by decide +kernel)
theorem ky_persons_rules : ((Str.ofString "persons" : Str) = Str.ofString "rules") = False := eq_false (by decide +kernel)
theorem ky_paths_persons : ((Str.ofString "paths" : Str) = Str.ofString "persons") = False := eq_false (by decide +kernel)
theorem ky_paths_rights : ((Str.ofString "paths" : Str) = Str.ofString "rights") = False := eq_false (by decide +kernel)
theorem ky_paths_rules : ((Str.ofString "paths" : Str) = Str.ofString "rules") = False := eq_false (by decide +kernel)
theorem ky_rights_persons : ((Str.ofString "rights" : Str) = Str.ofString "persons") = False := eq_false (by decide +kernel)
theorem ky_rights_paths : ((Str.ofString "rights" : Str) = Str.ofString "paths") = False := eq_false (by decide +kernel)
theorem ky_rights_rules : ((Str.ofString "rights" : Str) = Str.ofString "rules") = False := eq_false (by decide +kernel)
theorem ky_rules_persons : ((Str.ofString "rules" : Str) = Str.ofString "persons") = False := eq_false (by decide +kernel)
theorem ky_rules_paths : ((Str.ofString "rules" : Str) = Str.ofString "paths") = False := eq_false (by decide +kernel)
theorem ky_rules_rights : ((Str.ofString "rules" : Str) = Str.ofString "rights") = False := eq_false (by decide +kernel)
def wLore : WF := fun ds n Q _ => ds = [.pot] ∧ 63 ≤ n ∧ ∀ L n', LoreOk L → n ≤ n' + 63 → Q (loreD L) n'
theorem mLore : MonoF wLore := fun ds n Q Q' ex ex' h _ ⟨e, a, b⟩ => ⟨e, a, fun L n' h1 h2 => h _ _ (b L n' h1 h2)⟩
theorem ok8 : ∀ z ∈ pool8, okW z := by
  have : ∀ z ∈ pool8, PyData.strOk z = true := by decide +kernel
  exact this
theorem sLore {ds : List D} {n : Nat} {Q : D → Nat → Prop} {ex : KX} (h : wLore ds n Q ex) : wFn 13 (bLWideLore wTake wOf wRules) ds n Q ex := by
  obtain ⟨rfl, hn, k⟩ := h
  refine seq_nx ⟨[.d .pot, .l [], .l (pool7.map .str), .dead, .dead, .dead, .dead, .dead, .dead, .dead, .dead, .dead, .dead], n⟩ (fun W' h => ?_) ?_
  · simp [wPar, wFix, stNow, Sx.put, wLst, wNil, wCons, wC, hold, gives, frzs, frzE]
    exact ⟨by decide +kernel, h⟩
  refine seq_all (fun S1 => ∃ (names pool : List Str) (t : T) (n1 : Nat), (names ++ pool).Perm pool7 ∧ 1 ≤ names.length ∧ names.length ≤ 3 ∧ n ≤ n1 + 4 ∧ S1 = ⟨[.d .pot, .l (names.map .str), .l (pool.map .str), t, .dead, .dead, .dead, .dead, .dead, .dead, .dead, .dead, .dead], n1⟩) (fun W' h => ?_) ?_
  · refine for_take (body := nameBody ex) (by decide) (by decide) (by omega) fun j ds hj hd => ?_
    refine name_loop ds [] pool7 (n - 1) _ (by simp) (by simp; omega) (by omega) fun names pool t g1 g2 => ?_
    simp at g2
    exact h _ ⟨names, pool, t, _, g1, by omega, by omega, by omega, rfl⟩
  rintro _ ⟨names, pool, t3, n1, hp, hn1, hn2, hn3, rfl⟩
  refine seq_nx ⟨[.d .pot, .l (names.map .str), .l (pool8.map .str), t3, .l [], .dead, .dead, .dead, .dead, .dead, .dead, .dead, .dead], n1⟩ (fun W' h => ?_) ?_
  · simp [wPar, wFix, stNow, Sx.put, wLst, wNil, wCons, wC, hold, gives, frzs, frzE]
    exact ⟨by decide +kernel, h⟩
  refine seq_all (fun S1 => ∃ (paths : List (Str × Str)) (pool : List Str) (t t5 : T) (n2 : Nat), (paths.map (·.1) ++ pool).Perm pool8 ∧ (∀ p ∈ paths, p.2 ∈ kinds5) ∧ 1 ≤ paths.length ∧ paths.length ≤ 6 ∧ n ≤ n2 + 17 ∧ S1 = ⟨[.d .pot, .l (names.map .str), .l (pool.map .str), t, .l (paths.map pD), t5, .dead, .dead, .dead, .dead, .dead, .dead, .dead], n2⟩) (fun W' h => ?_) ?_
  · refine for_take (body := pathBody ex) (by decide) (by decide) (by omega) fun j ds hj hd => ?_
    refine path_loop ds [] pool8 (n1 - 1) _ _ (by simp) (by simp) (by simp; omega) (by omega) fun paths pool t t5 g1 g0 g2 => ?_
    simp at g2
    exact h _ ⟨paths, pool, t, t5, _, g1, g0, by omega, by omega, by omega, rfl⟩
  rintro _ ⟨paths, poolB, t3', t5, n2, hp2, hk, hq1, hq2, hq3, rfl⟩
  refine seq_nx ⟨[.d .pot, .l (names.map .str), .l (poolB.map .str), t3', .l (paths.map pD), t5, .l [], .l (some7.map .str), .dead, .dead, .dead, .dead, .dead], n2⟩ (fun W' h => ?_) ?_
  · simp [wPar, wFix, stNow, Sx.put, wLst, wNil, wCons, wC, hold, gives, frzs, frzE]
    exact ⟨by decide +kernel, h⟩
  have ndn : names.Nodup := (List.nodup_append.mp (hp.nodup_iff.mpr nd7p)).1
  have ndp : (paths.map (·.1)).Nodup := (List.nodup_append.mp (hp2.nodup_iff.mpr nd8)).1
  refine seq_all (fun S1 => ∃ (rights : List (Str × Str)) (t8 t9 : T) (n3 : Nat), (rights.Pairwise fun a b => lexS a b = true) ∧ rights.length ≤ 21 ∧ (∀ r ∈ rights, r.1 ∈ names ∧ r.2 ∈ some7) ∧ n ≤ n3 + 38 ∧ S1 = ⟨[.d .pot, .l (names.map .str), .l (poolB.map .str), t3', .l (paths.map pD), t5, .l (rights.map pD), .l (some7.map .str), t8, t9, .dead, .dead, .dead], n3⟩) (fun W' h => ?_) ?_
  · show wFor _ _ (rightsBody ex) _ _
    simp only [wFor, wIter, wCB, wCons, wNil, wVar, hold, uses, derefs, deref, List.getElem?_cons_succ, List.getElem?_cons_zero, T.frz]
    refine sortX_strs (by omega) fun ys y1 y2 => ?_
    have yl := y1.length_eq
    simp only [give, frzE, T.frz, iterK, iterD]
    refine rights_loop ys [] n2 _ _ (by omega) (by simp; omega) (strict_of y2 (y1.nodup_iff.mpr ndn)) List.Pairwise.nil (fun _ z => by cases z) fun rights t8 t9 q1 q2 q3 => ?_
    refine h _ ⟨rights, t8, t9, _, q1, by simp at q2; omega, fun r hr => ?_, by omega, rfl⟩
    rcases q3 r hr with z | ⟨z1, z2⟩
    · cases z
    · exact ⟨y1.mem_iff.mp z1, z2⟩
  rintro _ ⟨rights, t8, t9, n3, hr1, hr2, hr3, hr4, rfl⟩
  -- the calm paths
  refine seq_all (fun S1 => ∃ (ps : List (Str × Str)) (t5' : T), ps.Perm paths ∧ (ps.Pairwise fun a b => lexS b a = false) ∧ S1 = ⟨[.d .pot, .l (names.map .str), .l (poolB.map .str), t3', .l (paths.map pD), t5', .l (rights.map pD), .l (some7.map .str), t8, t9, .l ((WK.calm ps).map .str), .dead, .dead], n3⟩) (fun W' h => ?_) ?_
  · simp only [wSet, wLc, wIter, wCB, wCons, wNil, wVar, hold, uses, derefs, deref, List.getElem?_cons_succ, List.getElem?_cons_zero, T.frz]
    refine sortX_pairs fun ys y1 y2 => ?_
    simp only [give, frzE, T.frz, iterK, iterD, Sx.wipe, wipeT, List.set_cons_succ, List.set_cons_zero]
    refine lc_calm ys [] (by have := y1.length_eq; simp; omega) ?_
    have := h _ ⟨ys, keepT (some t5), y1, y2, rfl⟩
    simpa [Sx.back, backT, store, Sx.put, keepT] using this
  rintro _ ⟨ps, t5', hs1, hs2, rfl⟩
  -- the display
  refine seq_all (fun S1 => ∃ (nms : List Str), nms.Perm names ∧ (nms.Pairwise fun a b => DL.ltS b a = false) ∧ S1 = ⟨[.d .pot, .l (names.map .str), .l (poolB.map .str), t3', .l (paths.map pD), t5', .l (rights.map pD), .l (some7.map .str), t8, t9, .l ((WK.calm ps).map .str), .dead, .k [(.inr "persons", .tup (nms.map .str)), (.inr "paths", .tup (ps.map pD)), (.inr "rights", .tup (rights.map pD))]], n3⟩) (fun W' h => ?_) ?_
  · simp only [wSet, wDisp, wPairs, wC, wCB, wCons, wNil, wVar, hold, uses, derefs, deref, List.getElem?_cons_succ, List.getElem?_cons_zero, T.frz, give, frzE]
    refine sortX_strs (by omega) fun ys y1 y2 => ?_
    simp only [hold, T.frz, deref, oTuple, frzE]
    refine sortX_pairs fun zs z1 z2 => ?_
    have ez : zs = ps := uniq_of lexS_tri z2 hs2 (z1.trans hs1.symm)
    subst ez
    simp only [hold, T.frz, deref, oTuple, frzE]
    have := h _ ⟨ys, y1, y2, rfl⟩
    simp [keyPairs, keyOf, mergeD, putD, store, Sx.put, ky_persons_paths, ky_persons_rights, ky_persons_rules, ky_paths_persons, ky_paths_rights, ky_paths_rules, ky_rights_persons, ky_rights_paths, ky_rights_rules, ky_rules_persons, ky_rules_paths, ky_rules_rights]
    exact this
  rintro _ ⟨nms, hm1, hm2, rfl⟩
  -- the rules
  have okp : ∀ p ∈ WK.calm ps, okW p := fun p hp => by
    obtain ⟨q, h1, rfl⟩ := List.mem_map.mp hp
    have h2 := hs1.mem_iff.mp (List.mem_filter.mp h1).1
    exact ok8 _ (hp2.mem_iff.mp (List.mem_append.mpr (.inl (List.mem_map.mpr ⟨q, h2, rfl⟩))))
  have lenp : (WK.calm ps).length ≤ 8 := by
    unfold WK.calm
    rw [List.length_map]
    have := List.length_filter_le (fun p : Str × Str => !decide (p.2 = ("count" : Str))) ps
    have := hs1.length_eq
    omega
  refine seq_all (fun S1 => ∃ (Fs : List Fm) (n4 : Nat) (t10 : T), (∀ F ∈ Fs, RuleF (WK.calm ps) F) ∧ Fs.length ≤ 3 ∧ (Fs.map WK.nat).sum ≤ 4 ∧ n3 ≤ n4 + 25 ∧ S1 = ⟨[.d .pot, .l (names.map .str), .l (poolB.map .str), t3', .l (paths.map pD), t5', .l (rights.map pD), .l (some7.map .str), t8, t9, t10, .dead, .k [(.inr "persons", .tup (nms.map .str)), (.inr "paths", .tup (ps.map pD)), (.inr "rights", .tup (rights.map pD)), (.inr "rules", .tup (Fs.map fD))]], n4⟩) (fun W' h => ?_) ?_
  · simp [wDrop, wMu, atOwn, T.owned, isTy, wCons, wNil, wDisp, wPairs, wC, wCall, wVar, hold, give, gives, frzs, frzE, T.frz, Sx.put]
    refine ⟨WK.calm ps, rfl, okp, lenp, by omega, fun Fs n4 q1 q2 q3 q4 => ?_⟩
    have := h _ ⟨Fs, n4, .d (.lst ((WK.calm ps).map .str)), q1, q2, q3, q4, rfl⟩
    simp [keyPairs, keyOf, mergeD, putD, frzs, frzE, T.frz, ouUpdate, ky_persons_paths, ky_persons_rights, ky_persons_rules, ky_paths_persons, ky_paths_rights, ky_paths_rules, ky_rights_persons, ky_rights_paths, ky_rights_rules, ky_rules_persons, ky_rules_paths, ky_rules_rights]
    exact ⟨by decide +kernel, this⟩
  rintro _ ⟨Fs, n4, t10, q1, q2, q3, q4, rfl⟩
  simp [wRet, wVar, give, frzE, T.frz]
  have hml := hm1.length_eq
  have hsl := hs1.length_eq
  refine k ⟨nms, ps, rights, Fs⟩ n4 ⟨strict_of hm2 (hm1.nodup_iff.mpr ndn), fun z hz => ?_, by show 1 ≤ nms.length; omega, by show nms.length ≤ 3; omega, strict_pairs hs2 ((hs1.map _).nodup_iff.mpr ndp), fun z hz => ?_, by show 1 ≤ ps.length; omega, by show ps.length ≤ 6; omega, hr1, fun z hz => ⟨hm1.mem_iff.mpr (hr3 z hz).1, (hr3 z hz).2⟩, hr2, q1, q2, q3⟩ (by omega)
  · exact hp.mem_iff.mp (List.mem_append.mpr (.inl (hm1.mem_iff.mp hz)))
  · have h2 := hs1.mem_iff.mp hz
    exact ⟨hp2.mem_iff.mp (List.mem_append.mpr (.inl (List.mem_map.mpr ⟨z, h2, rfl⟩))), hk z h2⟩
end WL
end
section
set_option Elab.async false
set_option linter.all false
set_option maxRecDepth 100000
set_option maxHeartbeats 400000
namespace WL
open PySem L2 PyProof.Rows DL
open WK (Fm Op okW)
/-! ### split of a join -/
theorem cut_uniq {c : Nat} : ∀ {a b x y : List Nat}, c ∉ a → c ∉ b → a ++ c :: x = b ++ c :: y → a = b ∧ x = y
  | [], [], x, y, _, _, e => by simp at e; exact ⟨rfl, e⟩
  | [], b :: bs, x, y, _, h, e => by simp at e; exact absurd (by rw [e.1]; exact List.mem_cons_self ..) h
  | a :: as, [], x, y, h, _, e => by simp at e; exact absurd (by rw [← e.1]; exact List.mem_cons_self ..) h
  | a :: as, b :: bs, x, y, h1, h2, e => by
    simp only [List.cons_append, List.cons.injEq] at e
    obtain ⟨e1, e2⟩ := cut_uniq (fun m => h1 (List.mem_cons_of_mem _ m)) (fun m => h2 (List.mem_cons_of_mem _ m)) e.2
    exact ⟨by rw [e.1, e1], e2⟩
theorem join_cons (c : Nat) (x y : Str) (r : List Str) : (Str.join ⟨#[c]⟩ (x :: y :: r)).cps.toList = x.cps.toList ++ c :: (Str.join ⟨#[c]⟩ (y :: r)).cps.toList := by
  show ((x.cps ++ #[c]) ++ (Str.join ⟨#[c]⟩ (y :: r)).cps).toList = _
  simp
theorem join_free {c : Nat} {x : Str} : ∀ {r : List Str}, (∀ p ∈ x :: r, c ∉ p.cps.toList) → (c ∈ (Str.join ⟨#[c]⟩ (x :: r)).cps.toList ↔ r ≠ [])
  | [], h => by simpa [Str.join] using h x (List.mem_cons_self ..)
  | y :: r, h => by rw [join_cons]; simp
theorem join_inj {c : Nat} : ∀ {xs ys : List Str}, xs ≠ [] → ys ≠ [] → (∀ p ∈ xs, c ∉ p.cps.toList) → (∀ p ∈ ys, c ∉ p.cps.toList) → Str.join ⟨#[c]⟩ xs = Str.join ⟨#[c]⟩ ys → xs = ys
  | [], _, h, _, _, _, _ => absurd rfl h
  | _ :: _, [], _, h, _, _, _ => absurd rfl h
  | [x], [y], _, _, _, _, e => by simpa [Str.join] using e
  | [x], y :: z :: ys, _, _, h1, h2, e => by
    have a : c ∉ (Str.join ⟨#[c]⟩ [x]).cps.toList := fun m => (join_free h1).mp m rfl
    have b := (join_free h2).mpr (by simp)
    rw [e] at a
    exact absurd b a
  | x :: z :: xs, [y], _, _, h1, h2, e => by
    have a : c ∉ (Str.join ⟨#[c]⟩ [y]).cps.toList := fun m => (join_free h2).mp m rfl
    have b := (join_free h1).mpr (by simp)
    rw [e] at b
    exact absurd b a
  | x :: z :: xs, y :: u :: ys, _, _, h1, h2, e => by
    have e' := congrArg (fun s : Str => s.cps.toList) e
    simp only [join_cons] at e'
    obtain ⟨e1, e2⟩ := cut_uniq (h1 x (List.mem_cons_self ..)) (h2 y (List.mem_cons_self ..)) e'
    rw [str_ext e1, join_inj (by simp) (by simp) (fun p hp => h1 p (List.mem_cons_of_mem _ hp)) (fun p hp => h2 p (List.mem_cons_of_mem _ hp)) (str_ext e2)]
theorem split_join {c : Nat} {xs : List Str} (h : xs ≠ []) (hf : ∀ p ∈ xs, c ∉ p.cps.toList) : Txt.split (Str.join ⟨#[c]⟩ xs) ⟨#[c]⟩ = xs := by
  refine join_inj (fun e => ?_) h (StrLaws.split_free _ c) hf (StrLaws.join_split _ _)
  have := PyProof.Rows.split_pos (Str.join ⟨#[c]⟩ xs) ⟨#[c]⟩
  rw [e] at this
  simp at this
theorem join_notin {c d : Nat} (hd : d ≠ c) : ∀ {xs : List Str}, (∀ p ∈ xs, d ∉ p.cps.toList) → d ∉ (Str.join ⟨#[c]⟩ xs).cps.toList
  | [], _ => by simp [Str.join, Str.empty]
  | [x], h => by simpa [Str.join] using h x (List.mem_cons_self ..)
  | x :: y :: r, h => by
    rw [join_cons]
    intro m
    rcases List.mem_append.mp m with m | m
    · exact h x (List.mem_cons_self ..) m
    · rcases List.mem_cons.mp m with m | m
      · exact hd m
      · exact join_notin hd (fun p hp => h p (List.mem_cons_of_mem _ hp)) m
/-! ### words -/
def clean (z : Str) : Bool := z.cps.toList.all (fun c => decide (c ≠ 32) && decide (c ≠ 10)) && decide (z.length ≤ 12) && PyData.strOk z
theorem clean_sp {z : Str} (h : clean z = true) : 32 ∉ z.cps.toList ∧ 10 ∉ z.cps.toList ∧ z.length ≤ 12 ∧ okW z := by
  simp only [clean, Bool.and_eq_true, decide_eq_true_eq, List.all_eq_true] at h
  exact ⟨fun m => (h.1.1 _ m).1 rfl, fun m => (h.1.1 _ m).2 rfl, h.1.2, h.2⟩
theorem cl7 : ∀ z ∈ pool7, clean z = true := by decide +kernel
theorem cl8 : ∀ z ∈ pool8, clean z = true := by decide +kernel
theorem cl5 : ∀ z ∈ kinds5, clean z = true := by decide +kernel
theorem cls : ∀ z ∈ some7, clean z = true := by decide +kernel
theorem cl4 : ∀ z ∈ words4, clean z = true := by decide +kernel
def keywords : List Str := ["person", "path", "right", "rule", "is", "none", "=", "not", "if", "then", "(", ")", "and", "or"]
theorem clk : ∀ z ∈ keywords, clean z = true := by decide +kernel
theorem ones_clean {ps : List Str} (hp : ∀ p ∈ ps, clean p = true) : ∀ {F : Fm} {b : Bool}, Dr ps F → ∀ z ∈ WK.ones F b, clean z = true
  | .non p, b, h, z, m => by
    have h : p ∈ ps := h
    simp only [WK.ones, List.mem_cons, List.not_mem_nil, or_false] at m
    rcases m with rfl | rfl | rfl
    · exact hp _ h
    · exact clk _ (by simp [keywords])
    · exact clk _ (by simp [keywords])
  | .word p y, b, h, z, m => by
    have h : p ∈ ps ∧ y ∈ words4 := h
    simp only [WK.ones, List.mem_cons, List.not_mem_nil, or_false] at m
    rcases m with rfl | rfl | rfl
    · exact hp _ h.1
    · exact clk _ (by simp [keywords])
    · exact cl4 _ h.2
  | .like p y, b, h, z, m => by
    have h : p ∈ ps ∧ y ∈ ps := h
    simp only [WK.ones, List.mem_cons, List.not_mem_nil, or_false] at m
    rcases m with rfl | rfl | rfl
    · exact hp _ h.1
    · exact clk _ (by simp [keywords])
    · exact hp _ h.2
  | .neg f, b, h, z, m => by
    simp only [WK.ones, List.mem_cons] at m
    rcases m with rfl | m
    · exact clk _ (by simp [keywords])
    · exact ones_clean hp (F := f) (b := true) h z m
  | .bin o f g, b, h, z, m => by
    have hi : ∀ z ∈ WK.inner o (WK.ones f true) (WK.ones g true), clean z = true := fun z m => by
      have h : Dr ps f ∧ Dr ps g := h
      have hf := ones_clean hp (F := f) (b := true) h.1
      have hg := ones_clean hp (F := g) (b := true) h.2
      cases o <;> simp only [WK.inner, List.mem_cons, List.mem_append, Op.s] at m
      · rcases m with m | rfl | m
        · exact hf z m
        · exact clk _ (by simp [keywords])
        · exact hg z m
      · rcases m with m | rfl | m
        · exact hf z m
        · exact clk _ (by simp [keywords])
        · exact hg z m
      · rcases m with rfl | m | rfl | m
        · exact clk _ (by simp [keywords])
        · exact hf z m
        · exact clk _ (by simp [keywords])
        · exact hg z m
    cases b with
    | false => exact hi z m
    | true =>
      simp only [WK.ones, List.mem_cons, List.mem_append, List.not_mem_nil, or_false] at m
      rcases m with rfl | m | rfl
      · exact clk _ (by simp [keywords])
      · exact hi z m
      · exact clk _ (by simp [keywords])
/-! ### the page -/
def rowW (L : Lore) : List (List Str) := L.names.map (fun z => [("person" : Str), z]) ++ L.paths.map (fun p => [("path" : Str), p.1, p.2]) ++ L.rights.map (fun p => [("right" : Str), p.1, p.2]) ++ L.rules.map fun F => ("rule" : Str) :: WK.ones F false
def pageS (L : Lore) : Str := Str.join "\n" ((rowW L).map (Str.join " "))
theorem calm_pool {L : Lore} (h : LoreOk L) : ∀ p ∈ WK.calm L.paths, p ∈ pool8 := fun p hp => by
  obtain ⟨q, h1, rfl⟩ := List.mem_map.mp hp
  exact (h.p2 q (List.mem_filter.mp h1).1).1
theorem row_clean {L : Lore} (h : LoreOk L) : ∀ ws ∈ rowW L, ws ≠ [] ∧ ws.length ≤ 33 ∧ ∀ z ∈ ws, clean z = true := by
  intro ws m
  simp only [rowW, List.mem_append, List.mem_map] at m
  rcases m with ((⟨z, hz, rfl⟩ | ⟨z, hz, rfl⟩) | ⟨z, hz, rfl⟩) | ⟨F, hF, rfl⟩
  · refine ⟨by simp, by simp, fun y hy => ?_⟩
    simp only [List.mem_cons, List.not_mem_nil, or_false] at hy
    rcases hy with rfl | rfl
    · exact clk _ (by simp [keywords])
    · exact cl7 _ (h.n2 _ hz)
  · refine ⟨by simp, by simp, fun y hy => ?_⟩
    simp only [List.mem_cons, List.not_mem_nil, or_false] at hy
    rcases hy with rfl | rfl | rfl
    · exact clk _ (by simp [keywords])
    · exact cl8 _ (h.p2 _ hz).1
    · exact cl5 _ (h.p2 _ hz).2
  · refine ⟨by simp, by simp, fun y hy => ?_⟩
    simp only [List.mem_cons, List.not_mem_nil, or_false] at hy
    rcases hy with rfl | rfl | rfl
    · exact clk _ (by simp [keywords])
    · exact cl7 _ (h.n2 _ (h.r2 _ hz).1)
    · exact cls _ (h.r2 _ hz).2
  · have hr := h.f1 F hF
    refine ⟨by simp, ?_, fun y hy => ?_⟩
    · have := len_false F
      have := hr.len
      simp only [List.length_cons]
      omega
    · rcases List.mem_cons.mp hy with rfl | hy
      · exact clk _ (by simp [keywords])
      · exact ones_clean (fun p hp => cl8 _ (calm_pool h p hp)) hr.dr y hy
theorem row_len (L : Lore) : (rowW L).length = L.names.length + L.paths.length + L.rights.length + L.rules.length := by simp [rowW]; omega
theorem words_page {L : Lore} (h : LoreOk L) : WK.wordsOf (pageS L) = rowW L := by
  have hc := row_clean h
  unfold WK.wordsOf pageS
  have e1 : ("\n" : Str) = ⟨#[10]⟩ := by decide +kernel
  have e2 : (" " : Str) = ⟨#[32]⟩ := by decide +kernel
  rw [e1, e2, split_join, List.map_map]
  · have : ∀ ws ∈ rowW L, ((fun z => Txt.split z (⟨#[32]⟩ : Str)) ∘ Str.join ⟨#[32]⟩) ws = ws := fun ws m => split_join (hc ws m).1 fun p hp => (clean_sp ((hc ws m).2.2 p hp)).1
    rw [List.map_congr_left this]
    simp
  · intro e
    have e3 := congrArg List.length e
    simp only [List.length_map, List.length_nil, row_len] at e3
    have := h.n3
    omega
  · intro p hp
    obtain ⟨ws, m, rfl⟩ := List.mem_map.mp hp
    exact join_notin (by decide) fun q hq => (clean_sp ((hc ws m).2.2 q hq)).2.1
theorem sum_le {α : Type} {f : α → Nat} {b : Nat} : ∀ {l : List α}, (∀ x ∈ l, f x ≤ b) → (l.map f).sum ≤ b * l.length
  | [], _ => by simp
  | x :: l, h => by
    have h1 := h x (List.mem_cons_self ..)
    have h2 := sum_le fun y hy => h y (List.mem_cons_of_mem _ hy)
    rw [List.map_cons, List.sum_cons, List.length_cons, Nat.mul_add]
    omega
theorem row_short {L : Lore} (h : LoreOk L) : ∀ ws ∈ rowW L, (ws.map (·.length)).sum + ws.length * 1 ≤ 429 ∧ (Str.join " " ws).length ≤ 429 := fun ws m => by
  obtain ⟨h1, h2, h3⟩ := row_clean h ws m
  have hs := sum_le (f := fun z : Str => z.length) (b := 12) fun z hz => (clean_sp (h3 z hz)).2.2.1
  have hj := StrLaws.join_length_le " " ws
  have e : (" " : Str).length = 1 := by decide +kernel
  rw [e] at hj
  omega
theorem page_short {L : Lore} (h : LoreOk L) : (((rowW L).map (Str.join " ")).map (·.length)).sum + ((rowW L).map (Str.join " ")).length * 1 ≤ 15000 ∧ (pageS L).length ≤ 15000 := by
  have hs := sum_le (l := (rowW L).map (Str.join " ")) (f := fun z : Str => z.length) (b := 429) fun z hz => by
    obtain ⟨ws, m, rfl⟩ := List.mem_map.mp hz
    exact (row_short h ws m).2
  have hj := StrLaws.join_length_le "\n" ((rowW L).map (Str.join " "))
  have e : ("\n" : Str).length = 1 := by decide +kernel
  rw [e] at hj
  have hl := row_len L
  have a1 := h.n4
  have a2 := h.p4
  have a3 := h.r3
  have a4 := h.f2
  unfold pageS
  rw [List.length_map] at hs hj ⊢
  omega
end WL
end
section
set_option Elab.async false
set_option linter.all false
set_option maxRecDepth 100000
set_option maxHeartbeats 400000
namespace WL
open PySem L2 PyProof.Rows DL
open WK (Fm Op okW LS Run Step Srt)
/-! ### the page is read -/
theorem nm7 : ∀ z ∈ pool7, WK.isName z = true ∧ z ≠ "house" := by decide +kernel
theorem pa8 : ∀ z ∈ pool8, WK.isPath z = true := by decide +kernel
theorem pt8 : ∀ z ∈ pool8, 46 ∈ z.cps.toList := by decide +kernel
theorem kd5 : ∀ z ∈ kinds5, z ∈ WK.kinds4 := by decide +kernel
theorem pn7 : ∀ z ∈ some7, WK.isPattern z = true := by decide +kernel
theorem wn4 : ∀ z ∈ words4, WK.isName z = true := by decide +kernel
theorem short_line {z : Str} (h : clean z = true) : z.length + 2 ≤ sizeLine := by
  have := (clean_sp h).2.2.1
  have h2 : 2000 ≤ sizeLine := by decide +kernel
  omega
theorem last_lt {α : Type} {R : α → α → Prop} {l : List α} {x z : α} (h : (l ++ [x]).Pairwise R) (e : l.getLast? = some z) : R z x :=
  (List.pairwise_append.mp h).2.2 z (List.mem_of_getLast? e) x (List.mem_singleton.mpr rfl)
theorem run_persons {m : Nat} {R : List (List Str)} (hR : ∀ ws r, R = ws :: r → ws.length ≠ 2) {ks rs : List (Str × Str)} {fs : List Fm} : ∀ (names done : List Str), (done ++ names).length ≤ 3 → ((done ++ names).Pairwise fun a b => DL.ltS a b = true) → (∀ z ∈ names, z ∈ pool7) →
    Run m .person ⟨names.map (fun z => [("person" : Str), z]) ++ R, done, ks, rs, fs⟩ ⟨R, done ++ names, ks, rs, fs⟩
  | [], done, _, _, _ => by
    rw [List.append_nil]
    cases hR' : R with
    | nil => exact .nil rfl
    | cons ws r => exact .stop (ws := ws) (r := r) rfl (hR ws r hR')
  | z :: names, done, hl, hp, hm => by
    have e : done ++ z :: names = (done ++ [z]) ++ names := by simp
    rw [e] at hl hp ⊢
    refine .go (ws := [("person" : Str), z]) (r := names.map (fun z => [("person" : Str), z]) ++ R) rfl ⟨z, rfl, (nm7 z (hm z (List.mem_cons_self ..))).1, (nm7 z (hm z (List.mem_cons_self ..))).2, ?_, fun y hy => last_lt (R := fun a b => DL.ltS a b = true) (List.pairwise_append.mp hp).1 hy, rfl⟩ ?_
    · simp at hl
      show done.length < 3
      omega
    · exact run_persons hR names (done ++ [z]) hl hp fun y hy => hm y (List.mem_cons_of_mem _ hy)
theorem asc_of {l : List Str} (h : l.Pairwise fun a b => DL.ltS a b = true) : WK.asc l := fun i x y e1 e2 => by
  have h1 := (List.getElem?_eq_some_iff.mp e1)
  have h2 := (List.getElem?_eq_some_iff.mp e2)
  obtain ⟨a1, rfl⟩ := h1
  obtain ⟨a2, rfl⟩ := h2
  exact List.pairwise_iff_getElem.mp h i (i + 1) a1 a2 (by omega)
theorem run_paths {m : Nat} {R : List (List Str)} (hR : ∀ ws r, R = ws :: r → (ws.length ≠ 3 ∨ ∃ a b c : Str, ws = [a, b, c] ∧ a ≠ "path")) {ps : List Str} {rs : List (Str × Str)} {fs : List Fm} : ∀ (paths done : List (Str × Str)), (done ++ paths).length ≤ 6 → (((done ++ paths).map (·.1)).Pairwise fun a b => DL.ltS a b = true) → (∀ z ∈ paths, z.1 ∈ pool8 ∧ z.2 ∈ kinds5) →
    Run m .path ⟨paths.map (fun p => [("path" : Str), p.1, p.2]) ++ R, ps, done, rs, fs⟩ ⟨R, ps, done ++ paths, rs, fs⟩
  | [], done, _, _, _ => by
    rw [List.append_nil]
    cases hR' : R with
    | nil => exact .nil rfl
    | cons ws r => exact .stop (ws := ws) (r := r) rfl (hR ws r hR')
  | (p, kd) :: paths, done, hl, hp, hm => by
    have e : done ++ (p, kd) :: paths = (done ++ [(p, kd)]) ++ paths := by simp
    rw [e] at hl hp ⊢
    obtain ⟨m1, m2⟩ := hm (p, kd) (List.mem_cons_self ..)
    have hp1 : ((done.map (·.1)) ++ [p]).Pairwise fun a b => DL.ltS a b = true := by
      rw [List.map_append, List.map_append] at hp
      exact (List.pairwise_append.mp hp).1
    refine .go (ws := [("path" : Str), p, kd]) (r := paths.map (fun p => [("path" : Str), p.1, p.2]) ++ R) rfl ⟨p, kd, rfl, pa8 p m1, short_line (cl8 p m1), kd5 kd m2, ?_, fun hin => ?_, asc_of (List.pairwise_append.mp hp1).1, fun y hy => last_lt (R := fun a b => DL.ltS a b = true) hp1 hy, rfl⟩ ?_
    · simp at hl
      show done.length < 6
      omega
    · have := (List.pairwise_append.mp hp1).2.2 p hin p (List.mem_singleton.mpr rfl)
      rw [DL.ltS_irr] at this
      cases this
    · exact run_paths hR paths (done ++ [(p, kd)]) hl hp fun y hy => hm y (List.mem_cons_of_mem _ hy)
theorem run_rights {m : Nat} {R : List (List Str)} (hR : ∀ ws r, R = ws :: r → (ws.length ≠ 3 ∨ ∃ a b c : Str, ws = [a, b, c] ∧ a ≠ "right")) {ps : List Str} {ks : List (Str × Str)} {fs : List Fm} : ∀ (rights done : List (Str × Str)), (done ++ rights).length ≤ 21 → ((done ++ rights).Pairwise fun a b => lexS a b = true) → (∀ z ∈ rights, z.1 ∈ ps ∧ z.2 ∈ some7) →
    Run m .right ⟨rights.map (fun p => [("right" : Str), p.1, p.2]) ++ R, ps, ks, done, fs⟩ ⟨R, ps, ks, done ++ rights, fs⟩
  | [], done, _, _, _ => by
    rw [List.append_nil]
    cases hR' : R with
    | nil => exact .nil rfl
    | cons ws r => exact .stop (ws := ws) (r := r) rfl (hR ws r hR')
  | (n, t) :: rights, done, hl, hp, hm => by
    have e : done ++ (n, t) :: rights = (done ++ [(n, t)]) ++ rights := by simp
    rw [e] at hl hp ⊢
    obtain ⟨m1, m2⟩ := hm (n, t) (List.mem_cons_self ..)
    refine .go (ws := [("right" : Str), n, t]) (r := rights.map (fun p => [("right" : Str), p.1, p.2]) ++ R) rfl ⟨n, t, rfl, m1, pn7 t m2, short_line (cls t m2), ?_, fun y hy => ?_, rfl⟩ ?_
    · simp at hl
      show done.length < 1000
      omega
    · have h := last_lt (List.pairwise_append.mp hp).1 hy
      rcases lexS_iff.mp h with h | ⟨h1, h2⟩
      · have hne : ¬ n = y.1 := fun z => by rw [show y.1 = n from z.symm] at h; exact absurd h (by rw [DL.ltS_irr]; decide)
        unfold WK.le2
        rw [if_neg hne]
        show (!DL.ltS y.1 n) = false
        have h : DL.ltS y.1 n = true := h
        rw [h]; rfl
      · unfold WK.le2
        have h1 : y.1 = n := h1
        rw [if_pos h1.symm]
        show (!DL.ltS y.2 t) = false
        have h2 : DL.ltS y.2 t = true := h2
        rw [h2]; rfl
    · exact run_rights hR rights (done ++ [(n, t)]) hl hp fun y hy => hm y (List.mem_cons_of_mem _ hy)
theorem okF_of {ps : List Str} (hp : ∀ p ∈ ps, p ∈ pool8) : ∀ {F : Fm}, Dr ps F → WK.OkF ps F
  | .non p, h => ⟨h, (clean_sp (cl8 p (hp p h))).2.2.2, pt8 p (hp p h)⟩
  | .word p z, h => ⟨h.1, ⟨(clean_sp (cl8 p (hp p h.1))).2.2.2, pt8 p (hp p h.1)⟩, wn4 z h.2, (clean_sp (cl4 z h.2)).2.2.2⟩
  | .like p q, h => ⟨h.1, ⟨(clean_sp (cl8 p (hp p h.1))).2.2.2, pt8 p (hp p h.1)⟩, h.2, (clean_sp (cl8 q (hp q h.2))).2.2.2, pt8 q (hp q h.2)⟩
  | .neg f, h => okF_of (F := f) hp h
  | .bin o f g, h => ⟨okF_of (F := f) hp h.1, okF_of (F := g) hp h.2⟩
theorem parts_of {F : Fm} (h : WK.ht F ≤ 8) : WK.parts F 8 := by
  cases F with
  | bin o f g => simp only [WK.ht] at h; exact ⟨by omega, by omega⟩
  | _ => exact h
theorem run_rules {ps : List Str} {ks rs : List (Str × Str)} (hk : ks.length ≤ 6) (hc : ∀ p ∈ WK.calm ks, p ∈ pool8) : ∀ (rules done : List Fm), (done ++ rules).length ≤ 3 → ((done ++ rules).map WK.nat).sum ≤ 4 → (∀ F ∈ done ++ rules, RuleF (WK.calm ks) F) →
    Run 8 .rule ⟨rules.map (fun F => ("rule" : Str) :: WK.ones F false), ps, ks, rs, done⟩ ⟨[], ps, ks, rs, done ++ rules⟩
  | [], done, _, _, _ => by
    rw [List.append_nil]
    exact .nil rfl
  | F :: rules, done, hl, hp, hm => by
    have e : done ++ F :: rules = (done ++ [F]) ++ rules := by simp
    rw [e] at hl hp hm ⊢
    have hF := hm F (by simp)
    refine .go (ws := ("rule" : Str) :: WK.ones F false) (r := rules.map (fun F => ("rule" : Str) :: WK.ones F false)) rfl ⟨F, rfl, ?_, fun z hz => ?_, okF_of hc hF.dr, parts_of hF.ht, by have := hF.ht; omega, hk, ?_, fun G hG => ?_, ?_, hF.tr, rfl⟩ ?_
    · have := len_false F
      have := hF.len
      simp only [List.length_cons]
      omega
    · rcases List.mem_cons.mp hz with rfl | hz
      · exact (clean_sp (clk "rule" (by simp [keywords]))).2.2.2
      · exact (clean_sp (ones_clean (fun p hp => cl8 p (hc p hp)) hF.dr z hz)).2.2.2
    · simp at hl
      show done.length < 3
      omega
    · have := (hm G (by simp [show G ∈ done from hG])).ht
      omega
    · show (done.map WK.nat).sum + WK.nat F ≤ 4
      simp at hp
      omega
    · exact run_rules hk hc rules (done ++ [F]) hl hp hm
theorem ones_len (F : Fm) : 3 ≤ (WK.ones F false).length := by
  have h : ∀ G : Fm, 3 ≤ (WK.ones G true).length := fun G => by
    induction G with
    | non p => simp [WK.ones]
    | word p z => simp [WK.ones]
    | like p z => simp [WK.ones]
    | neg f ih => simp only [WK.ones, List.length_cons]; omega
    | bin o f g i1 i2 => cases o <;> simp [WK.ones, WK.inner] <;> omega
  cases F with
  | bin o f g => have := h f; cases o <;> simp [WK.ones, WK.inner] <;> omega
  | neg f => have := h f; simp only [WK.ones, List.length_cons]; omega
  | _ => simp [WK.ones]
theorem reads {L : Lore} (h : LoreOk L) : WK.Reads 8 (pageS L) ⟨[], L.names, L.paths, L.rights, L.rules⟩ := by
  have hnr : ∀ ws r, L.rules.map (fun F => ("rule" : Str) :: WK.ones F false) = ws :: r → ws.length ≠ 3 := fun ws r e z => by
    have : ws ∈ L.rules.map (fun F => ("rule" : Str) :: WK.ones F false) := by rw [e]; exact List.mem_cons_self ..
    obtain ⟨F, _, rfl⟩ := List.mem_map.mp this
    have := ones_len F
    simp only [List.length_cons] at z
    omega
  have hrule : ∀ ws r, L.rights.map (fun p => [("right" : Str), p.1, p.2]) ++ L.rules.map (fun F => ("rule" : Str) :: WK.ones F false) = ws :: r → (ws.length ≠ 3 ∨ ∃ a b c : Str, ws = [a, b, c] ∧ a ≠ "path") := fun ws r e => by
    have : ws ∈ L.rights.map (fun p => [("right" : Str), p.1, p.2]) ++ L.rules.map fun F => ("rule" : Str) :: WK.ones F false := by rw [e]; exact List.mem_cons_self ..
    rcases List.mem_append.mp this with m | m
    · obtain ⟨p, _, rfl⟩ := List.mem_map.mp m
      exact .inr ⟨_, _, _, rfl, by decide +kernel⟩
    · obtain ⟨F, _, rfl⟩ := List.mem_map.mp m
      have := ones_len F
      exact .inl (by simp only [List.length_cons]; omega)
  have hpath : ∀ ws r, L.paths.map (fun p => [("path" : Str), p.1, p.2]) ++ (L.rights.map (fun p => [("right" : Str), p.1, p.2]) ++ L.rules.map (fun F => ("rule" : Str) :: WK.ones F false)) = ws :: r → ws.length ≠ 2 := fun ws r e => by
    have : ws ∈ L.paths.map (fun p => [("path" : Str), p.1, p.2]) ++ (L.rights.map (fun p => [("right" : Str), p.1, p.2]) ++ L.rules.map fun F => ("rule" : Str) :: WK.ones F false) := by rw [e]; exact List.mem_cons_self ..
    rcases List.mem_append.mp this with m | m
    · obtain ⟨p, _, rfl⟩ := List.mem_map.mp m
      simp
    · rcases List.mem_append.mp m with m | m
      · obtain ⟨p, _, rfl⟩ := List.mem_map.mp m
        simp
      · obtain ⟨F, _, rfl⟩ := List.mem_map.mp m
        have := ones_len F
        simp only [List.length_cons]
        omega
  have e0 : WK.wordsOf (pageS L) = L.names.map (fun z => [("person" : Str), z]) ++ (L.paths.map (fun p => [("path" : Str), p.1, p.2]) ++ (L.rights.map (fun p => [("right" : Str), p.1, p.2]) ++ L.rules.map fun F => ("rule" : Str) :: WK.ones F false)) := by
    rw [words_page h]
    simp [rowW]
  refine ⟨?_, ⟨⟨L.paths.map (fun p => [("path" : Str), p.1, p.2]) ++ (L.rights.map (fun p => [("right" : Str), p.1, p.2]) ++ L.rules.map fun F => ("rule" : Str) :: WK.ones F false), L.names, [], [], []⟩, ⟨L.rights.map (fun p => [("right" : Str), p.1, p.2]) ++ L.rules.map fun F => ("rule" : Str) :: WK.ones F false, L.names, L.paths, [], []⟩, ⟨L.rules.map fun F => ("rule" : Str) :: WK.ones F false, L.names, L.paths, L.rights, []⟩, ?_, ?_, ?_, ?_, ?_, ?_⟩, rfl⟩
  · have := (page_short h).2
    have h2 : 20000 ≤ sizeLine := by decide +kernel
    omega
  · rw [e0]
    exact run_persons hpath L.names [] (by simpa using h.n4) (by simpa using h.n1) h.n2
  · have := h.n3
    show L.names ≠ []
    intro z
    rw [z] at this
    simp at this
  · exact run_paths hrule L.paths [] (by simpa using h.p4) (by simpa using h.p1) h.p2
  · have := h.p3
    show L.paths ≠ []
    intro z
    rw [z] at this
    simp at this
  · exact run_rights (fun ws r e => .inl (hnr ws r e)) L.rights [] (by simpa using h.r3) (by simpa using h.r1) h.r2
  · exact run_rules h.p4 (calm_pool h) L.rules [] (by simpa using h.f2) (by simpa using h.f3) (by simpa using h.f1)
end WL
end
section
set_option Elab.async false
set_option linter.all false
set_option maxRecDepth 100000
set_option maxHeartbeats 400000
namespace WL
open PySem L2 PyProof.Rows DL
open WK (Fm Op okW)
/-- a comprehension that keeps all -/
theorem lc_map {wg : WG} {we : WE} {vs : List Nat} {S : Sx} {Q : List D → Sx → Prop} {α : Type} {g f : α → D} : ∀ (l : List α) (acc : List D), acc.length + l.length < 2000 → (∀ x ∈ l, ∀ K : D → Sx → Prop, (∀ S', S'.wipe vs = S → K (f x) S') → wg (g x) S fun S1 => we S1 fun r S3 => give S3 r K) → Q (acc ++ l.map f) S → wLcGo wg wYes we vs (l.map g) acc S Q
  | [], acc, _, _, h => by simpa [wLcGo] using h
  | x :: l, acc, hl, hx, h => by
    have h2 : 2000 ≤ sizeLine := by decide +kernel
    simp only [List.length_cons] at hl
    simp only [List.map_cons, wLcGo, wYes]
    refine hx x (List.mem_cons_self ..) _ fun S' e => ⟨by omega, ?_⟩
    rw [e]
    exact lc_map l _ (by simp; omega) (fun y hy => hx y (List.mem_cons_of_mem _ hy)) (by simpa using h)
def wPage : WF := fun ds n Q _ => ∃ L, ds = [loreD L] ∧ LoreOk L ∧ Q (.str (pageS L)) n
theorem mPage : MonoF wPage := fun ds n Q Q' ex ex' h _ ⟨L, e, a, b⟩ => ⟨L, e, a, h _ _ b⟩
theorem get_persons {L : Lore} : ixD (loreD L) (.str "persons") = some (.tup (L.names.map .str)) := by
  simp [loreD, ixD, keyOf, getK]
theorem get_paths {L : Lore} : ixD (loreD L) (.str "paths") = some (.tup (L.paths.map pD)) := by
  simp [loreD, ixD, keyOf, getK, ky_persons_paths]
theorem get_rights {L : Lore} : ixD (loreD L) (.str "rights") = some (.tup (L.rights.map pD)) := by
  simp [loreD, ixD, keyOf, getK, ky_persons_rights, ky_paths_rights]
theorem get_rules {L : Lore} : ixD (loreD L) (.str "rules") = some (.tup (L.rules.map fD)) := by
  simp [loreD, ixD, keyOf, getK, ky_persons_rules, ky_paths_rules, ky_rights_rules]
theorem strsD_map (l : List Str) : strsD (l.map D.str) = some l := by
  induction l with
  | nil => rfl
  | cons a l ih => simp only [List.map_cons, strsD, ih, Option.map_some]
def row1 (L : Lore) : List Str := L.names.map fun z => ("person " : Str) ++ z
def row2 (L : Lore) : List Str := L.paths.map fun p => ("path " : Str) ++ p.1 ++ (" " : Str) ++ p.2
def row3 (L : Lore) : List Str := L.rights.map fun p => ("right " : Str) ++ p.1 ++ (" " : Str) ++ p.2
def row4 (L : Lore) : List Str := L.rules.map fun F => Txt.join " " (("rule" : Str) :: WK.ones F false)
theorem row_eq (L : Lore) : row1 L ++ row2 L ++ row3 L ++ row4 L = (rowW L).map (Str.join " ") := by
  have e1 : ("person " : Str) = ("person" : Str) ++ (" " : Str) := by decide +kernel
  have e2 : ("path " : Str) = ("path" : Str) ++ (" " : Str) := by decide +kernel
  have e3 : ("right " : Str) = ("right" : Str) ++ (" " : Str) := by decide +kernel
  unfold row1 row2 row3 row4 rowW
  simp only [List.map_append, List.map_map]
  have h1 : L.names.map (fun z => ("person " : Str) ++ z) = L.names.map (Str.join " " ∘ fun z => [("person" : Str), z]) := List.map_congr_left fun z _ => by
    rw [e1]; rfl
  have h2 : L.paths.map (fun p => ("path " : Str) ++ p.1 ++ (" " : Str) ++ p.2) = L.paths.map (Str.join " " ∘ fun p => [("path" : Str), p.1, p.2]) := List.map_congr_left fun z _ => by
    rw [e2]
    show _ = ("path" : Str) ++ (" " : Str) ++ (z.1 ++ (" " : Str) ++ z.2)
    simp only [Str.append_assoc]
  have h3 : L.rights.map (fun p => ("right " : Str) ++ p.1 ++ (" " : Str) ++ p.2) = L.rights.map (Str.join " " ∘ fun p => [("right" : Str), p.1, p.2]) := List.map_congr_left fun z _ => by
    rw [e3]
    show _ = ("right" : Str) ++ (" " : Str) ++ (z.1 ++ (" " : Str) ++ z.2)
    simp only [Str.append_assoc]
  have h4 : L.rules.map (fun F => Txt.join " " (("rule" : Str) :: WK.ones F false)) = L.rules.map (Str.join " " ∘ fun F => ("rule" : Str) :: WK.ones F false) := List.map_congr_left fun F _ => StrLaws.glued_eq_join _ _
  rw [h1, h2, h3, h4]
theorem len_app (a b : Str) : (a ++ b).length = a.length + b.length := by
  show (a.cps ++ b.cps).size = _
  simp [Str.length]
theorem sPage {ds : List D} {n : Nat} {Q : D → Nat → Prop} {ex : KX} (h : wPage ds n Q ex) : wFn 7 (bLPage (wOnes 8)) ds n Q ex := by
  obtain ⟨L, rfl, hL, k⟩ := h
  have h2 : 20000 ≤ sizeLine := by decide +kernel
  have l1 : ("person " : Str).length = 7 := by decide +kernel
  have l2 : ("path " : Str).length = 5 := by decide +kernel
  have l3 : ("right " : Str).length = 6 := by decide +kernel
  have l4 : (" " : Str).length = 1 := by decide +kernel
  have a1 := hL.n4
  have a2 := hL.p4
  have a3 := hL.r3
  have a4 := hL.f2
  refine seq_nx ⟨[.d (loreD L), .l ((row1 L).map .str), .dead, .dead, .dead, .dead, .dead], n⟩ (fun W' h => ?_) ?_
  · simp only [wSet, wLc, wIter, wOp, wVar, wC, hold, use, deref, List.getElem?_cons_zero, oIx, get_persons, give, frzE, iterK, iterD]
    refine lc_map (f := fun z => .str (("person " : Str) ++ z)) L.names [] (by simp; omega) (fun z hz K hK => ?_) ?_
    · have := (clean_sp (cl7 z (hL.n2 z hz))).2.2.1
      simp [gPut, Sx.put, Sx.wipe, wipeT, wOp, wVar, wC, hold, use, deref, oAdd, give, frzE]
      exact ⟨by omega, hK _ rfl⟩
    · simp [store, Sx.put, Sx.wipe, wipeT, Sx.back, backT, keepT]
      simpa [row1, Function.comp_def] using h
  refine seq_nx ⟨[.d (loreD L), .l ((row1 L ++ row2 L).map .str), .dead, .dead, .dead, .dead, .dead], n⟩ (fun W' h => ?_) ?_
  · simp only [wSet, wLc, wIter, wOp, wVar, wC, hold, use, deref, List.getElem?_cons_zero, List.getElem?_cons_succ, oIx, get_paths, give, frzE, iterK, iterD]
    refine lc_map (f := fun z => .str (("path " : Str) ++ z.1 ++ (" " : Str) ++ z.2)) L.paths [] (by simp; omega) (fun z hz K hK => ?_) ?_
    · have := (clean_sp (cl8 _ (hL.p2 z hz).1)).2.2.1
      have := (clean_sp (cl5 _ (hL.p2 z hz).2)).2.2.1
      simp [gUnp, gsCons, gsNil, pD, gPut, Sx.put, Sx.wipe, wipeT, wOp, wVar, wC, hold, use, deref, oAdd, give, frzE, len_app]
      exact ⟨by omega, by omega, by omega, hK _ (by simp [Sx.wipe, wipeT])⟩
    · simp [store, Sx.put, Sx.wipe, wipeT, Sx.back, backT, keepT, T.frz, oAdd]
      refine ⟨by simp [row1]; omega, ?_⟩
      simpa [row2, Function.comp_def] using h
  refine seq_nx ⟨[.d (loreD L), .l ((row1 L ++ row2 L ++ row3 L).map .str), .dead, .dead, .dead, .dead, .dead], n⟩ (fun W' h => ?_) ?_
  · simp only [wSet, wLc, wIter, wOp, wVar, wC, hold, use, deref, List.getElem?_cons_zero, List.getElem?_cons_succ, oIx, get_rights, give, frzE, iterK, iterD]
    refine lc_map (f := fun z => .str (("right " : Str) ++ z.1 ++ (" " : Str) ++ z.2)) L.rights [] (by simp; omega) (fun z hz K hK => ?_) ?_
    · have := (clean_sp (cl7 _ (hL.n2 _ (hL.r2 z hz).1))).2.2.1
      have := (clean_sp (cls _ (hL.r2 z hz).2)).2.2.1
      simp [gUnp, gsCons, gsNil, pD, gPut, Sx.put, Sx.wipe, wipeT, wOp, wVar, wC, hold, use, deref, oAdd, give, frzE, len_app]
      exact ⟨by omega, by omega, by omega, hK _ (by simp [Sx.wipe, wipeT])⟩
    · simp [store, Sx.put, Sx.wipe, wipeT, Sx.back, backT, keepT, T.frz, oAdd]
      refine ⟨by simp [row1, row2]; omega, ?_⟩
      simpa [row3, Function.comp_def] using h
  simp only [wRet, wSM, wC, use, deref, isStr, wCons, wNil, wLc, wIter, wOp, wVar, hold, List.getElem?_cons_zero, List.getElem?_cons_succ, oIx, get_rules, give, frzE, iterK, iterD, true_and]
  refine lc_map (f := fun F => .str (Txt.join " " (("rule" : Str) :: WK.ones F false))) L.rules [] (by simp; omega) (fun F hF K hK => ?_) ?_
  · have hr := hL.f1 F hF
    obtain ⟨hs1, _⟩ := row_short hL (("rule" : Str) :: WK.ones F false) (by simp only [rowW, List.mem_append, List.mem_map]; exact .inr ⟨F, hF, rfl⟩)
    have := len_false F
    have := hr.len
    simp [gPut, Sx.put, Sx.wipe, wipeT, wSM, isStr, wOp, wVar, wC, hold, use, deref, uses, derefs, wLst, wCons, wNil, gives, frzs, frzE, T.frz, wCall, wOnes]
    refine ⟨by omega, F, rfl, hr.ht, by omega, ?_⟩
    have e : strsD (D.str (Str.ofString "rule") :: List.map D.str (WK.ones F false)) = some ((Str.ofString "rule" : Str) :: WK.ones F false) := strsD_map (("rule" : Str) :: WK.ones F false)
    simp [oAdd, T.frz, omJoin, e, give, frzE, l4]
    simp at hs1
    exact ⟨by omega, by omega, hK _ (by simp [Sx.wipe, wipeT])⟩
  · have hp := (page_short hL).1
    rw [← row_eq L] at hp
    have e : pageS L = Txt.join "\n" (row1 L ++ row2 L ++ row3 L ++ row4 L) := by
      rw [row_eq]; exact (StrLaws.glued_eq_join _ _).symm
    simp [T.frz, Sx.wipe, wipeT, Sx.back, backT, keepT, oAdd, use, deref, hold, uses, derefs, omJoin]
    have e2 : strsD (List.map D.str (row1 L) ++ (List.map D.str (row2 L) ++ (List.map D.str (row3 L) ++ List.map (fun F => D.str (Txt.join (Str.ofString " ") (Str.ofString "rule" :: WK.ones F false))) L.rules))) = some (row1 L ++ row2 L ++ row3 L ++ row4 L) := by
      rw [← strsD_map]
      simp [row4, Function.comp_def]
    have e3 : ("\n" : Str).length = 1 := by decide +kernel
    rw [e2]
    refine ⟨by simp [row1, row2, row3]; omega, by rw [e3]; omega, ?_⟩
    rw [← e]
    exact k
end WL
end
section
set_option Elab.async false
set_option linter.all false
set_option maxRecDepth 100000
set_option maxHeartbeats 400000
namespace WL
open PySem L2 PyProof.Rows DL
open WK (Fm Op okW LS Reads SortOf)
/-! ### works as data -/
def kindsD (ks : List (Str × Str)) : List (Key × D) := ks.map fun p => (.inr p.1, .str p.2)
def worksD (CW : Addr) (text : Str) (st : LS) (ys : List Str) : D := .obj CW [("own_text", .str text), ("own_persons", .tup (ys.map .str)), ("own_kinds", .dk (kindsD st.kinds)), ("own_rights", .lst (st.rights.map pD)), ("own_formulas", .tup (st.forms.map fD))]
def wWorks (CW : Addr) : WF := fun ds n Q _ => ∃ (text : Str) (st : LS), ds = [.str text] ∧ Reads 8 text st ∧ st.persons.length ≤ 3 ∧ st.forms.length ≤ 3 ∧ ∀ ys, SortOf (st.persons ++ [("house" : Str)]) ys → Q (worksD CW text st ys) n
theorem mWorks {CW : Addr} : MonoF (wWorks CW) := fun ds n Q Q' ex ex' h _ ⟨t, st, e, a, b, c, d⟩ => ⟨t, st, e, a, b, c, fun ys hy => h _ _ (d ys hy)⟩
section
variable {K : PySem.W.Frag} {p : Addr} {B : Hp}
theorem rep_fm {H : Hp} (hT : ∀ a xs, SqT K H a xs → SqT K B a xs) : ∀ {f : Fm} {v : V}, WK.FmAt K H f v → Rep K p B (fD f) v
  | .non q, v, h => by
    obtain ⟨a, rfl, h1⟩ := h
    exact .tup (hT _ _ h1) (.cons (.str _) (.cons (.str _) .nil))
  | .word q z, v, h => by
    obtain ⟨a, rfl, h1⟩ := h
    exact .tup (hT _ _ h1) (.cons (.str _) (.cons (.str _) (.cons (.str _) .nil)))
  | .like q z, v, h => by
    obtain ⟨a, rfl, h1⟩ := h
    exact .tup (hT _ _ h1) (.cons (.str _) (.cons (.str _) (.cons (.str _) .nil)))
  | .neg f, v, h => by
    obtain ⟨a, x, rfl, h1, h2⟩ := h
    exact .tup (hT _ _ h1) (.cons (.str _) (.cons (rep_fm hT h2) .nil))
  | .bin o f g, v, h => by
    obtain ⟨a, x, y, rfl, h1, h2, h3⟩ := h
    exact .tup (hT _ _ h1) (.cons (.str _) (.cons (rep_fm hT h2) (.cons (rep_fm hT h3) .nil)))
theorem reps_paired {α : Type} {R : α → V → Prop} {f : α → D} (h : ∀ x v, R x v → Rep K p B (f x) v) : ∀ {xs : List α} {vs : List V}, Paired R xs vs → Reps K p B (xs.map f) vs
  | _, _, .nil => .nil
  | _, _, .cons a t => .cons (h _ _ a) (reps_paired h t)
theorem reps_strs : ∀ zs : List Str, Reps K p B (zs.map .str) (zs.map V.str)
  | [] => .nil
  | z :: zs => .cons (.str z) (reps_strs zs)
theorem reps_kinds : ∀ ks : List (Str × Str), Reps K p B ((kindsD ks).map (·.2)) ((WK.kvOf ks).map (·.2))
  | [] => .nil
  | (a, b) :: ks => .cons (.str b) (reps_kinds ks)
theorem keys_kinds : ∀ ks : List (Str × Str), (WK.kvOf ks).map (·.1) = (kindsD ks).map (·.1)
  | [] => rfl
  | (a, b) :: ks => by
    have := keys_kinds ks
    simp only [WK.kvOf, kindsD, List.map_cons, List.cons.injEq] at this ⊢
    simpa using this
end
theorem dK_code {kvs : List (Key × V)} {c : Addr} {q : Str} (e : HO.dK kvs = LamX.CodeO c q) : False := by
  unfold LamX.CodeO at e
  cases e
theorem tabs_dK {T : List (Addr × Str)} {a : Addr} {H : Hp} {kvs : List (Key × V)} {u : HO} (h : H a = some (.dK kvs)) (t : LamX.Tabs T H) : LamX.Tabs T (upd H a u) := fun p hp => by
  obtain ⟨ps, a1, a2, a3⟩ := t p hp
  refine ⟨ps, ?_, a2, fun pos cv hc => ?_⟩
  · rw [upd_ne (fun z => by rw [z, h] at a1; cases a1)]
    exact a1
  · obtain ⟨c, e, q⟩ := a3 pos cv hc
    refine ⟨c, e, ?_⟩
    rw [upd_ne (fun z => by rw [z, h] at q; exact dK_code (Option.some.inj q))]
    exact q
theorem mk_works {K : PySem.W.Frag} {CW tab : Addr} : MkD K CW [(tab, WK.lamQ)] 1 (WK.spWInit K CW tab 8) (wWorks CW) := by
  refine ⟨fun E own q n ds vs H x dx Q etb hgl hlv hpot htb hr hx hdx hne hm h => ?_, mWorks⟩
  obtain ⟨text, st, rfl, hrd, hp3, hf3, k⟩ := h
  cases hr with
  | cons r1 hr =>
    cases hr
    cases r1
    have s0 : Same H (upd (upd H dx (.own x)) x (.ins CW dx [])) := same_tr (new_same hdx) (new_same (by rw [upd_ne (Ne.symm hne)]; exact hx))
    rw [etb] at htb
    have tin : tab ∈ q.gl := by unfold Gp.gl; rw [etb]; simp
    obtain ⟨pt, t1, _⟩ := htb _ (List.mem_singleton.mpr rfl)
    refine ⟨x, dx, text, st, rfl, upd_same, LamX.Tabs.ext htb s0, hrd, hp3, hf3, fun H' wa kp tb fr => ⟨rfl, ?_⟩⟩
    obtain ⟨dx', a1, aK, aT, a2, ys, fs, ts, h1, h2, h3, h4, h5, h6, h7, h8⟩ := wa.ex
    obtain ⟨nK, nT⟩ := fr _ _ _ _ _ h1
    have nK0 : H aK = none := s0.free nK
    have nT0 : H aT = none := s0.free nT
    obtain ⟨pt2, t2, _⟩ := tb _ (List.mem_singleton.mpr rfl)
    have kept : ∀ b o, H b = some o → b ≠ tab → H' b = some o := fun b o e hb => kp b o (fun z => by rw [z, hx] at e; cases e) hb (s0 b o e)
    refine .lock aK _ h4 trivial fun od => .now (k ys h2 _ ?_ ?_)
    · -- the object
      have nown : ∀ b o, H' b = some o → isTupO o = true → b ∉ own := fun b o e ht hb => by
        by_cases hbt : b = tab
        · have t2 : H' tab = some (.tbl pt2) := t2
          rw [hbt, t2] at e
          cases e
          cases ht
        · obtain ⟨u, e1, e2⟩ := hlv b hb
          have := kept b u e1 hbt
          rw [this] at e
          cases e
          rw [e2] at ht
          cases ht
      have nK2 : aK ∉ own := fun z => (hlv aK z).ne nK0
      have nT2 : aT ∉ own := fun z => (hlv aT z).ne nT0
      have nx2 : x ∉ own := fun z => (hlv x z).ne hx
      have neT : aT ≠ aK := fun z => by rw [z, h4] at h5; cases h5
      have nex : x ≠ aK := fun z => by rw [z, h4] at h1; cases h1
      have hT : ∀ a xs, SqT K H' a xs → SqT K (bare own (upd H' aK (.frz od (.dK (WK.kvOf st.kinds))))) a xs := fun a xs e => by
        rcases e with (e | ⟨ob, e⟩) | e
        · exact .inl (.inl (by rw [bare_ne (nown a _ e rfl), upd_ne (fun z => by rw [z, h4] at e; cases e)]; exact e))
        · exact .inl (.inr ⟨ob, by rw [bare_ne (nown a _ e rfl), upd_ne (fun z => by rw [z, h4] at e; cases e)]; exact e⟩)
        · exact .inr e
      refine .obj (dx := dx') (fs := WK.wflds text a1 aK aT a2) (by rw [bare_ne nx2, upd_ne nex]; exact h1) rfl ?_
      refine .cons (.str _) (.cons (.tup (hT _ _ h3) (reps_strs ys)) (.cons (.dk (o := od) (by rw [bare_ne nK2, upd_same]) (keys_kinds _) (reps_kinds _)) (.cons (.lst (by rw [bare_ne nT2, upd_ne neT]; exact h5) (reps_paired (fun pr v hv => ?_) h6)) (.cons (.tup (hT _ _ h7) (reps_paired (fun f v hv => rep_fm hT hv) h8)) .nil))))
      obtain ⟨a, rfl, e⟩ := hv
      exact .tup (hT _ _ e) (.cons (.str _) (.cons (.str _) .nil))
    · -- all else stays
      have up : ∀ b o, H b = some o → b ≠ tab → upd H' aK (.frz od (.dK (WK.kvOf st.kinds))) b = some o := fun b o e hb => by
        rw [upd_ne (fun z => by rw [z, nK0] at e; cases e)]
        exact kept b o e hb
      refine ⟨fun b o e => ?_, fun b hb hg => ?_, ?_, ?_⟩
      · have hb : b ∉ own := fun z => by rw [bare_in z] at e; cases e
        rw [bare_ne hb] at e ⊢
        exact up b o e (fun z => hb (by rw [z]; exact hgl tab tin))
      · obtain ⟨o, e, _⟩ := hlv b hb
        rw [up b o e (fun z => hg (by rw [z]; exact tin)), e]
      · obtain ⟨a, b, c, e, r⟩ := hpot
        exact ⟨a, b, c, up _ _ e (fun z => by have t1 : H tab = some (.tbl pt) := t1; rw [z, t1] at e; cases e), r⟩
      · rw [etb]
        exact tabs_dK h4 tb
end WL
end
section
set_option Elab.async false
set_option linter.all false
set_option maxRecDepth 100000
set_option maxHeartbeats 400000
namespace WL
open PySem L2 PyProof.Rows DL
open WK (Fm Op okW LS Reads SortOf wSt)
/-! ### the properties of works, their == -/
section
variable {P : Program} {w : World} {K : PySem.W.Frag} {mg : Str → Option Value} {base : Heap} {CW : Addr} {f : Addr} {fd : FuncData}
abbrev sPersons : Stmt := wSt 3
abbrev sPaths : Stmt := wSt 4
abbrev sRulesP : Stmt := wSt 5
abbrev sEqW : Stmt := wSt 1
theorem scPersons : FnScope ["self"] ["self"] (defScope sPersons) := ⟨rfl, rfl, rfl, by decide +kernel, rfl, by decide +kernel, by decide +kernel⟩
theorem scPaths : FnScope ["self"] ["self"] (defScope sPaths) := ⟨rfl, rfl, rfl, by decide +kernel, rfl, by decide +kernel, by decide +kernel⟩
theorem scRulesP : FnScope ["self"] ["self"] (defScope sRulesP) := ⟨rfl, rfl, rfl, by decide +kernel, rfl, by decide +kernel, by decide +kernel⟩
theorem scEqW : FnScope ["self", "other"] ["self", "other"] (defScope sEqW) := ⟨rfl, rfl, rfl, by decide +kernel, rfl, by decide +kernel, by decide +kernel⟩
theorem ok_persons (WC : WK.WorksC K CW) (F : Fun K "persons" "Works.persons" sPersons f fd) : FnOk P w K mg base CX0 1 f fd ["self"] (getSp CW "own_persons") := by
  refine F.ok scPersons (fun vs H Q E h => ?_) (fun cdv A outer s H vs Q E hr h => ?_)
  · obtain ⟨a, dx, fs, v, rfl, _⟩ := h
    rfl
  · obtain ⟨a, dx, fs, v, rfl, e1, e2, q⟩ := h
    exact ⟨_, pss_one (ps_ret (pe_fld (pv 0) (by rfl))), ⟨_, rfl, a, CW, dx, fs, v, rfl, e1, WC.cls, WC.n2, e2, q⟩⟩
theorem ok_paths (B : WK.Free mg) (WC : WK.WorksC K CW) (F : Fun K "paths" "Works.paths" sPaths f fd) : FnOk P w K mg base CX0 1 f fd ["self"] (spItems CW "own_kinds") := by
  refine F.ok scPaths (fun vs H Q E h => ?_) (fun cdv A outer s H vs Q E hr h => ?_)
  · obtain ⟨a, dx, fs, d, kvs, rfl, _⟩ := h
    rfl
  · obtain ⟨a, dx, fs, d, kvs, rfl, e1, e2, rd, q⟩ := h
    refine ⟨_, pss_one (ps_ret (pe_callTy (cr_tupItems rfl) (by rfl) B.tuple boot_tuple (pa_cons (pe_itemsK (pe_fld (pv 0) (by rfl))) pa_nil))), ?_⟩
    refine ⟨_, rfl, a, CW, dx, fs, _, rfl, e1, WC.cls, WC.n3, e2, d, kvs, rfl, rd, fun p hp => ?_⟩
    have s1 := new_same (o := L2.DX.itemsO p d) hp
    have rd1 : Rd (upd H p (L2.DX.itemsO p d)) d (.dK kvs) := by
      rcases rd with z | ⟨o, z⟩
      · exact .inl (s1 _ _ z)
      · exact .inr ⟨o, s1 _ _ z⟩
    refine ⟨p, d, kvs, rfl, upd_same, rd1, fun l H' sm ⟨as, h1, h2, h3⟩ hl => q l H' (same_tr s1 sm) ⟨as, fun b hb => s1.free (h1 b hb), h2, h3⟩ (s1.free hl)⟩
theorem ok_rulesP (B : WK.Free mg) (WC : WK.WorksC K CW) (F : Fun K "rules" "Works.rules" sRulesP f fd) : FnOk P w K mg base CX0 1 f fd ["self"] (spLen K CW "own_formulas") := by
  refine F.ok scRulesP (fun vs H Q E h => ?_) (fun cdv A outer s H vs Q E hr h => ?_)
  · obtain ⟨a, dx, fs, l, ys, rfl, _⟩ := h
    rfl
  · obtain ⟨a, dx, fs, l, ys, rfl, e1, e2, e3, q⟩ := h
    exact ⟨_, pss_one (ps_ret (pe_callB (WK.call_lenK rfl) (by rfl) B.len PySem.boot_len (pa_cons (pe_fld (pv 0) (by rfl)) pa_nil))), ⟨_, rfl, a, CW, dx, fs, _, rfl, e1, WC.cls, WC.n5, e2, l, ys, rfl, .inr e3, q⟩⟩
/-- what isinstance(x, Works) asks -/
structure WorksI (K : PySem.W.Frag) (mg : Str → Option Value) (C : Addr) : Prop where
  mgc : mg "Works" = some (.ref C)
  ha : PySem.W.findIn K (.ref C) "__class__" = some (some (.builtin "object.__class__"))
  hn : PySem.W.specialIn K (.builtin "object.__class__") "__get__" = some (some (.builtin "getset_descriptor.__get__"))
  htk : PySem.W.takesIn K (.builtin "object.__class__") = some true
  hm : PySem.W.mroIn K C (.type "object") = some true
  ns : PySem.W.kitOne K (.type "str") (.ref C) = some false
theorem kit_self {C : Addr} : PySem.W.kitOne K (.ref C) (.ref C) = some true := by
  unfold PySem.W.kitOne
  rw [if_pos (by simp)]
theorem ok_eqW (B : WK.Free mg) (WC : WK.WorksC K CW) (WI : WorksI K mg CW) (F : Fun K "__eq__" "Works.__eq__" sEqW f fd) : FnOk P w K mg base CX0 1 f fd ["self", "other"] (spEqO CW "own_text") := by
  refine F.ok scEqW (fun vs H Q E h => ?_) (fun cdv A outer s H vs Q E hr h => ?_)
  · obtain ⟨a, dx, fs, t, e1, e2, h⟩ := h
    rcases h with ⟨z, rfl, _⟩ | ⟨b, dy, gs, u, rfl, _⟩ <;> rfl
  · obtain ⟨a, dx, fs, t, e1, e2, h⟩ := h
    refine ⟨_, pss_one (ps_ret (pe_and (pe_callB call_isi (by rfl) B.isi boot_isinstance (pa_cons (pv 1) (pa_cons (pe_glob (by rfl) WI.mgc (v := .ref CW) rfl) pa_nil))) (pe_one (pe_cmpR op_eq (pe_fld (pv 0) (by rfl)) (pe_fld (pv 1) (by rfl)) (nomark _))))), ?_⟩
    rcases h with ⟨z, rfl, q⟩ | ⟨b, dy, gs, u, rfl, g1, g2, q⟩
    · refine ⟨_, rfl, _, _, _, _, false, rfl, .own CW, .base (.str z), WI.ns, false, rfl, ?_⟩
      exact q
    · refine ⟨_, rfl, _, _, _, _, true, rfl, .own CW, .base (.ins g1 WC.cls WI.ha WI.hn WI.htk WI.hm), kit_self, true, rfl, ?_⟩
      refine ⟨_, rfl, a, CW, dx, fs, _, rfl, e1, WC.cls, WC.n1, e2, _, rfl, b, CW, dy, gs, _, rfl, g1, WC.cls, WC.n1, g2, ?_⟩
      refine ⟨rfl, ?_⟩
      have e : decide (V.str t = V.str u) = decide (t = u) := by simp
      rw [e]
      exact q
end
end WL
end
section
set_option Elab.async false
set_option linter.all false
set_option maxRecDepth 100000
set_option maxHeartbeats 1000000
namespace WL
open PySem L2 PyProof.Rows DL
section
variable {P : Program} {w : World} {K : PySem.W.Frag} {mg : Str → Option Value} {base : Heap}
structure WorksOk (P : Program) (w : World) (K : PySem.W.Frag) (mg : Str → Option Value) (base : Heap) (CW tab : Addr) : Prop where
  wc : WK.WorksC K CW
  mkp : C8.Mak P w K mg base 61 "Works" CW (WK.spWInit K CW tab 8) []
  mkk : MakK P w K mg base 61 "Works" CW (WK.spWInit K CW tab 8) ["text"]
  eq : EqC P w K mg base 1 CW "own_text"
  persons : ∃ (p g : Addr) (fd : FuncData) (ps : List Str), PropOf K CW "persons" p g ∧ FnOk P w K mg base CX0 1 g fd ps (getSp CW "own_persons") ∧ Binds K fd ps []
  paths : ∃ (p g : Addr) (fd : FuncData) (ps : List Str), PropOf K CW "paths" p g ∧ FnOk P w K mg base CX0 1 g fd ps (spItems CW "own_kinds") ∧ Binds K fd ps []
  rules : ∃ (p g : Addr) (fd : FuncData) (ps : List Str), PropOf K CW "rules" p g ∧ FnOk P w K mg base CX0 1 g fd ps (spLen K CW "own_formulas") ∧ Binds K fd ps []
/-! _law_right -/
abbrev sLRight : Stmt := top 61
abbrev nLRight : List Str := ["_law_pot", "_law_lore", "_law_other", "_law_page_here", "_law_made", "_law_mate"]
theorem scLRight : FnScope nLRight ["_law_pot"] (defScope sLRight) := ⟨rfl, rfl, rfl, by decide +kernel, rfl, by decide +kernel, by decide +kernel⟩
def bLRight (CW : Addr) (wf__law_wide_lore : WF) (wf__law_page : WF)  (ex : KX) : WS :=
  (wSeq (wPar 1 2 (wCall 1 wf__law_wide_lore (fun C d S => ex C d S.n) (wCons (wVar 0) wNil)) (wCall 1 wf__law_wide_lore (fun C d S => ex C d S.n) (wCons (wVar 0) wNil)))
  (wSeq (wSet 3 (wCall 1 wf__law_page (fun C d S => ex C d S.n) (wCons (wVar 1) wNil)))
  (wSeq (wPar 4 5 (wCall 1 (wWorks CW) (fun _ _ _ => False) (wCons (wVar 3) wNil)) (wCall 1 (wWorks CW) (fun _ _ _ => False) (wCons (wCall 1 wf__law_page (fun C d S => ex C d S.n) (wCons (wVar 2) wNil)) wNil)))
  (wSeq (wIfS (DL.wCmp oNe (wCB oRepr (wCons (wUn (oFld CW "own_persons") (wVar 4)) wNil)) (wCB oRepr (wCons (wCB oTuple (wCons (wCB oSortedX (wCons (wOp oAdd (wCB oList (wCons (wOp oIx (wVar 1) (wC (.str "persons"))) wNil)) (wLst (wCons (wC (.str "house")) wNil))) wNil)) wNil)) wNil))) (wRet (wC (.bl false))) wNext)
  (wSeq (wIfS (DL.wOr (DL.wCmp oNe (wCB oRepr (wCons (wUn (oItems CW "own_kinds") (wVar 4)) wNil)) (wCB oRepr (wCons (wOp oIx (wVar 1) (wC (.str "paths"))) wNil))) (DL.wCmp oNe (wCB oRepr (wCons (wUn (oLenF CW "own_formulas") (wVar 4)) wNil)) (wCB oRepr (wCons (wCB oLen (wCons (wOp oIx (wVar 1) (wC (.str "rules"))) wNil)) wNil)))) (wRet (wC (.bl false))) wNext)
  (wSeq (wIfS (DL.wOr (DL.wNot (DL.wCmp (oEqO CW "own_text") (wVar 4) (wCallK (wWorks CW) (wVar 3)))) (DL.wOr (DL.wCmp (oEqO CW "own_text") (wVar 4) (wVar 3)) (DL.wCmp oNe (wOp (oEqO CW "own_text") (wVar 4) (wVar 5)) (wOp oEq (wVar 3) (wCall 1 wf__law_page (fun C d S => ex C d S.n) (wCons (wVar 2) wNil)))))) (wRet (wC (.bl false))) wNext)
  (wRet (wAndV (wOp oEq (wCB oRepr (wCons (wUn (oItems CW "own_kinds") (wVar 5)) wNil)) (wCB oRepr (wCons (wOp oIx (wVar 2) (wC (.str "paths"))) wNil))) (wOp oEq (wCB oRepr (wCons (wUn (oLenF CW "own_formulas") (wVar 5)) wNil)) (wCB oRepr (wCons (wCB oLen (wCons (wOp oIx (wVar 2) (wC (.str "rules"))) wNil)) wNil)))))))))))
theorem dfLRight {k : Nat} {CW tab : Addr} {wf__law_wide_lore : WF} {wf__law_page : WF} (hk : 62 ≤ k) (B : Free mg) (W : WorksOk P w K mg base CW tab) (D : DefOf K mg "_law_right" sLRight ["_law_pot"]) (O__law_wide_lore : Def P w K mg base k "_law_wide_lore" 1 wf__law_wide_lore) (M__law_wide_lore : MonoF wf__law_wide_lore) (O__law_page : Def P w K mg base k "_law_page" 1 wf__law_page) (M__law_page : MonoF wf__law_page) : DefT P w K mg base (k + 1) "_law_right" [(tab, WK.lamQ)] 1 (wFn 6 (bLRight CW wf__law_wide_lore wf__law_page )) := by
  obtain ⟨WC, MK, MKK, EQ, ⟨p1, g1, fd1, ps1, PR_persons, FN_persons, BN_persons⟩, ⟨p2, g2, fd2, ps2, PR_paths, FN_paths, BN_paths⟩, ⟨p3, g3, fd3, ps3, PR_rules, FN_rules, BN_rules⟩⟩ := W
  refine D.okT scLRight (fun f cdv A outer s H E ex hg hr => ?_)
  have hZ : ∀ q own H', TZ [(tab, WK.lamQ)] (ExZ K ex E) q own H' → q.tb = [(tab, WK.lamQ)] := fun _ _ _ z => z.1
  have hu := hr.units
  have hu1 := hu_of hr
  have hur : (A.deeper (envOfC "_law_right" (defScope sLRight) s.heap.objs.size f cdv)).units + 200 < cLine := by have := hr.un; omega
  exact (dss_cons (ds_par (i := 1) (j := 2) (de_call O__law_wide_lore M__law_wide_lore exs_fnT hg hr (by omega) (by rfl) (da_cons (de_var (i := 0)) da_nil)) (de_call O__law_wide_lore M__law_wide_lore exs_fnT hg hr (by omega) (by rfl) (da_cons (de_var (i := 0)) da_nil)) (zup_TZ zup_ex) rfl scLRight.nd (by rfl))
    (dss_cons (ds_set (i := 3) (de_call O__law_page M__law_page exs_fnT hg hr (by omega) (by rfl) (da_cons (de_var (i := 1)) da_nil)) scLRight.nd)
    (dss_cons (ds_par (i := 4) (j := 5) (de_mk MK mk_works hZ hr (by omega) (by rfl) (da_cons (de_var (i := 3)) da_nil)) (de_mk MK mk_works hZ hr (by omega) (by rfl) (da_cons (de_call O__law_page M__law_page exs_fnT hg hr (by omega) (by rfl) (da_cons (de_var (i := 2)) da_nil)) da_nil)) (zup_TZ zup_ex) rfl scLRight.nd (by rfl))
    (dss_cons (ds_if (dt_cmp (d_ne hu) (de_callB (d_repr hg hur) (by rfl) B.repr (by decide +kernel) (da_cons (de_prop (de_var (i := 4)) WC.cls PR_persons FN_persons hr (by omega) BN_persons g_fld (by rfl)) da_nil)) (de_callB (d_repr hg hur) (by rfl) B.repr (by decide +kernel) (da_cons (de_callTy d_tuple (by rfl) B.tuple boot_tuple (da_cons (de_callB d_sortedX (by rfl) B.sorted (by decide +kernel) (da_cons (de_op d_add (de_callTy d_list (by rfl) B.list boot_list (da_cons (de_ix (d_ix hu1) (de_var (i := 1)) de_str (fun _ _ => rfl)) da_nil)) (de_lst (da_cons de_str da_nil))) da_nil)) da_nil)) da_nil)) (nomark _))
    (dss_one (ds_ret de_bl))
    dss_nil)
    (dss_cons (ds_if (dw_or (dt_cmp (d_ne hu) (de_callB (d_repr hg hur) (by rfl) B.repr (by decide +kernel) (da_cons (de_prop (de_var (i := 4)) WC.cls PR_paths FN_paths hr (by omega) BN_paths g_items (by rfl)) da_nil)) (de_callB (d_repr hg hur) (by rfl) B.repr (by decide +kernel) (da_cons (de_ix (d_ix hu1) (de_var (i := 1)) de_str (fun _ _ => rfl)) da_nil)) (nomark _)) (dw_or1 (dt_cmp (d_ne hu) (de_callB (d_repr hg hur) (by rfl) B.repr (by decide +kernel) (da_cons (de_prop (de_var (i := 4)) WC.cls PR_rules FN_rules hr (by omega) BN_rules g_len (by rfl)) da_nil)) (de_callB (d_repr hg hur) (by rfl) B.repr (by decide +kernel) (da_cons (de_callB d_len' (by rfl) B.len PySem.boot_len (da_cons (de_ix (d_ix hu1) (de_var (i := 1)) de_str (fun _ _ => rfl)) da_nil)) da_nil)) (nomark _)))).dt
    (dss_one (ds_ret de_bl))
    dss_nil)
    (dss_cons (ds_if (dw_or (dt_not (dt_cmp (d_eqO EQ hr (by omega)) (de_var (i := 4)) (de_mkK MKK mk_works hZ hr (by omega) (by rfl) (de_var (i := 3))) (nomark _))) (dw_or (dt_cmp (d_eqO EQ hr (by omega)) (de_var (i := 4)) (de_var (i := 3)) (nomark _)) (dw_or1 (dt_cmp (d_ne hu) (de_cmp (d_eqO EQ hr (by omega)) (de_var (i := 4)) (de_var (i := 5)) (nomark _)) (de_cmp (d_eq hu) (de_var (i := 3)) (de_call O__law_page M__law_page exs_fnT hg hr (by omega) (by rfl) (da_cons (de_var (i := 2)) da_nil)) (nomark _)) (nomark _))))).dt
    (dss_one (ds_ret de_bl))
    dss_nil)
    (dss_one (ds_ret (de_and (de_cmp (d_eq hu) (de_callB (d_repr hg hur) (by rfl) B.repr (by decide +kernel) (da_cons (de_prop (de_var (i := 5)) WC.cls PR_paths FN_paths hr (by omega) BN_paths g_items (by rfl)) da_nil)) (de_callB (d_repr hg hur) (by rfl) B.repr (by decide +kernel) (da_cons (de_ix (d_ix hu1) (de_var (i := 2)) de_str (fun _ _ => rfl)) da_nil)) (nomark _)) (de_one (de_cmp (d_eq hu) (de_callB (d_repr hg hur) (by rfl) B.repr (by decide +kernel) (da_cons (de_prop (de_var (i := 5)) WC.cls PR_rules FN_rules hr (by omega) BN_rules g_len (by rfl)) da_nil)) (de_callB (d_repr hg hur) (by rfl) B.repr (by decide +kernel) (da_cons (de_callB d_len' (by rfl) B.len PySem.boot_len (da_cons (de_ix (d_ix hu1) (de_var (i := 2)) de_str (fun _ _ => rfl)) da_nil)) da_nil)) (nomark _))))))))))))
end
end WL
end
section
set_option Elab.async false
set_option linter.all false
set_option maxRecDepth 100000
set_option maxHeartbeats 400000
namespace WL
open PySem L2 PyProof.Rows DL
open WK (Fm Op okW LS Reads SortOf)
/-! ### what repr tells -/
structure Shows (d : D) (e : PyData) : Prop where
  eq : rP d = some e
  sh : e.showable = true
  dp : e.depth ≤ 100
  ln : e.shown.length ≤ sizeLine
theorem repr_of {d : D} {e : PyData} {k : Vl → Prop} (h : Shows d e) (q : k (.v (.str e.shown))) : oRepr [d] k := by
  simp only [oRepr, h.eq]
  exact ⟨h.sh, h.dp, h.ln, q⟩
theorem rPs_strs : ∀ zs : List Str, rPs (zs.map .str) = some (zs.map PyData.str)
  | [] => rfl
  | z :: zs => by simp only [List.map_cons, rPs, rP, rPs_strs zs]
def pP (p : Str × Str) : PyData := .tuple [.str p.1, .str p.2]
theorem rPs_pairs : ∀ zs : List (Str × Str), rPs (zs.map pD) = some (zs.map pP)
  | [] => rfl
  | z :: zs => by simp only [List.map_cons, rPs, pD, rP, rPs_pairs zs, Option.map_some, pP]
theorem shownAll_map {α : Type} (f : α → PyData) : ∀ l : List α, PyData.shownAll (l.map f) = l.map fun x => (f x).shown
  | [] => by simp only [List.map_nil, PyData.shownAll]
  | x :: l => by simp only [List.map_cons, PyData.shownAll, shownAll_map f l]
theorem showAll_map {α : Type} {f : α → PyData} : ∀ {l : List α}, (∀ x ∈ l, (f x).showable = true) → PyData.showableAll (l.map f) = true
  | [], _ => by simp only [List.map_nil, PyData.showableAll]
  | x :: l, h => by simp only [List.map_cons, PyData.showableAll, h x (List.mem_cons_self ..), showAll_map fun y hy => h y (List.mem_cons_of_mem _ hy), Bool.and_self]
theorem depthAll_map {α : Type} {f : α → PyData} {b : Nat} : ∀ {l : List α}, (∀ x ∈ l, (f x).depth ≤ b) → PyData.depthAll (l.map f) ≤ b
  | [], _ => by simp only [List.map_nil, PyData.depthAll]; omega
  | x :: l, h => by
    simp only [List.map_cons, PyData.depthAll]
    have h1 := h x (List.mem_cons_self ..)
    have h2 := depthAll_map fun y hy => h y (List.mem_cons_of_mem _ hy)
    omega
theorem shows_many {α : Type} {f : α → PyData} {g : α → D} {l : List α} {b : Nat} (he : rPs (l.map g) = some (l.map f)) (h1 : ∀ x ∈ l, (f x).showable = true) (h2 : ∀ x ∈ l, (f x).depth ≤ 10) (h3 : ∀ x ∈ l, (f x).shown.length ≤ 100) (hl : l.length ≤ 30) : Shows (.tup (l.map g)) (.tuple (l.map f)) := by
  refine ⟨by simp only [rP, he, Option.map_some], by simp only [PyData.showable, showAll_map h1], by have := depthAll_map h2; simp only [PyData.depth]; omega, ?_⟩
  have z := tupleText_len_le (PyData.shownAll (l.map f))
  have y := sum_le (f := fun s : Str => s.length) (b := 100) (l := PyData.shownAll (l.map f)) fun s hs => by
    rw [shownAll_map] at hs
    obtain ⟨x, hx, rfl⟩ := List.mem_map.mp hs
    exact h3 x hx
  have e : (PyData.shownAll (l.map f)).length = l.length := by rw [shownAll_map, List.length_map]
  have h20 : 20000 ≤ sizeLine := by decide +kernel
  simp only [PyData.shown]
  rw [e] at y z
  omega
def plainW (z : Str) : Bool := decide ((PyData.shown (.str z)).length ≤ 30)
theorem pw7 : ∀ z ∈ pool7 ++ [("house" : Str)], plainW z = true := by decide +kernel
theorem pw8 : ∀ z ∈ pool8, plainW z = true := by decide +kernel
theorem pw5 : ∀ z ∈ kinds5, plainW z = true := by decide +kernel
theorem shows_strs {zs : List Str} (h : ∀ z ∈ zs, plainW z = true) (hl : zs.length ≤ 30) : Shows (.tup (zs.map .str)) (.tuple (zs.map .str)) :=
  shows_many (b := 0) (rPs_strs zs) (fun x _ => by simp only [PyData.showable]) (fun x _ => by simp only [PyData.depth]; omega) (fun x hx => by have := of_decide_eq_true (h x hx); omega) hl
theorem shows_pairs {zs : List (Str × Str)} (h : ∀ z ∈ zs, plainW z.1 = true ∧ plainW z.2 = true) (hl : zs.length ≤ 30) : Shows (.tup (zs.map pD)) (.tuple (zs.map pP)) := by
  refine shows_many (b := 0) (rPs_pairs zs) (fun x _ => by simp only [pP, PyData.showable, PyData.showableAll, Bool.and_self]) (fun x _ => by simp only [pP, PyData.depth, PyData.depthAll]; omega) (fun x hx => ?_) hl
  have h1 := of_decide_eq_true (h x hx).1
  have h2 := of_decide_eq_true (h x hx).2
  have z := tupleText_len_le (PyData.shownAll [.str x.1, .str x.2])
  simp only [PyData.shownAll, List.map_cons, List.map_nil, List.sum_cons, List.sum_nil, List.length_cons, List.length_nil] at z
  simp only [pP, PyData.shown, PyData.shownAll] at h1 h2 z ⊢
  omega
theorem shows_int {n : Nat} (h : n ≤ 3) : Shows (.int n) (.int n) := by
  refine ⟨rfl, ?_, by simp only [PyData.depth]; omega, ?_⟩
  · have : n = 0 ∨ n = 1 ∨ n = 2 ∨ n = 3 := by omega
    rcases this with rfl | rfl | rfl | rfl <;> decide +kernel
  · have : n = 0 ∨ n = 1 ∨ n = 2 ∨ n = 3 := by omega
    rcases this with rfl | rfl | rfl | rfl <;> decide +kernel
/-! ### the fields of works -/
theorem fld_persons {CW : Addr} {t : Str} {st : LS} {ys : List Str} : fldD CW "own_persons" (worksD CW t st ys) = some (.tup (ys.map .str)) := by
  simp only [worksD, fldD, if_true]
  rfl
theorem fld_kinds {CW : Addr} {t : Str} {st : LS} {ys : List Str} : fldD CW "own_kinds" (worksD CW t st ys) = some (.dk (kindsD st.kinds)) := by
  simp only [worksD, fldD, if_true]
  rfl
theorem fld_forms {CW : Addr} {t : Str} {st : LS} {ys : List Str} : fldD CW "own_formulas" (worksD CW t st ys) = some (.tup (st.forms.map fD)) := by
  simp only [worksD, fldD, if_true]
  rfl
theorem fld_text {CW : Addr} {t : Str} {st : LS} {ys : List Str} : fldD CW "own_text" (worksD CW t st ys) = some (.str t) := by
  simp only [worksD, fldD, if_true]
  rfl
theorem kinds_pD (ks : List (Str × Str)) : (kindsD ks).map (fun kv => D.tup [kD kv.1, kv.2]) = ks.map pD := by
  unfold kindsD
  rw [List.map_map]
  rfl
end WL
end
section
set_option Elab.async false
set_option linter.all false
set_option maxRecDepth 100000
set_option maxHeartbeats 400000
namespace WL
open PySem L2 PyProof.Rows DL
open WK (Fm Op okW LS Reads SortOf)
def lsOf (L : Lore) : LS := ⟨[], L.names, L.paths, L.rights, L.rules⟩
def wRight : WF := fun ds n Q _ => ds = [.pot] ∧ 126 ≤ n ∧ ∀ n', n ≤ n' + 126 → Q (.bl true) n'
theorem mRight : MonoF wRight := fun ds n Q Q' ex ex' h _ ⟨e, a, b⟩ => ⟨e, a, fun n' h1 => h _ _ (b n' h1)⟩
theorem works_of {CW : Addr} {L : Lore} (h : LoreOk L) {n : Nat} {Q : D → Nat → Prop} {ex : KX} (k : ∀ ys, SortOf (L.names ++ [("house" : Str)]) ys → Q (worksD CW (pageS L) (lsOf L) ys) n) : wWorks CW [.str (pageS L)] n Q ex :=
  ⟨pageS L, lsOf L, rfl, reads h, h.n4, h.f2, k⟩
theorem var_d {i : Nat} {S : Sx} {x : D} {Q : KE} (h : S.ρ[i]? = some (.d x)) (q : Q (.v x) S) : wVar i S Q := by
  simp only [wVar, h]
  exact q
theorem un_d {i : Nat} {S : Sx} {x : D} {o : O1} {Q : KE} (h : S.ρ[i]? = some (.d x)) (q : o x fun z => Q z S) : wUn o (wVar i) S Q := by
  refine var_d h ?_
  simp only [use, deref]
  exact q
theorem ix_d {i : Nat} {S : Sx} {x y : D} {z : Str} {Q : KE} (h : S.ρ[i]? = some (.d x)) (e : ixD x (.str z) = some y) (q : Q (.v y) S) : wOp oIx (wVar i) (wC (.str z)) S Q := by
  refine var_d h ?_
  simp only [wC, use, hold, deref, oIx, e]
  exact q
theorem ne_str {wa wb : WE} {S : Sx} {z : Str} {Q : Bool → Sx → Prop} (ha : ∀ K : KE, K (.v (.str z)) S → wa S K) (hb : ∀ K : KE, K (.v (.str z)) S → wb S K) (q : Q false S) : DL.wCmp oNe wa wb S Q := by
  refine ha _ (hb _ ?_)
  simp [use, deref, hold, oNe, eqD_str, isBl]
  exact q
theorem eq_str {wa wb : WE} {S : Sx} {z : Str} {Q : KE} (ha : ∀ K : KE, K (.v (.str z)) S → wa S K) (hb : ∀ K : KE, K (.v (.str z)) S → wb S K) (q : Q (.v (.bl true)) S) : wOp oEq wa wb S Q := by
  refine ha _ (hb _ ?_)
  simp [use, deref, hold, oEq, eqD_str]
  exact q
/-- repr(x) as an expression -/
theorem repr_ex {wd : WA} {S : Sx} {d : D} {e : PyData} {Q : KE} (hd : ∀ Q' : List Vl → Sx → Prop, Q' [.v d] S → wd S Q') (h : Shows d e) (q : Q (.v (.str e.shown)) S) : wCB oRepr wd S Q := by
  refine hd _ ?_
  simp only [uses, derefs, deref]
  exact repr_of h q
theorem eqOB_ww {CW : Addr} {t u : Str} {a b : LS} {xs ys : List Str} : eqOB CW "own_text" (worksD CW t a xs) (worksD CW u b ys) = some (decide (t = u)) := by
  simp only [eqOB, fld_text]
  simp only [worksD]
  rw [show fldD CW "own_text" (.obj CW [("own_text", .str u), ("own_persons", .tup (ys.map .str)), ("own_kinds", .dk (kindsD b.kinds)), ("own_rights", .lst (b.rights.map pD)), ("own_formulas", .tup (b.forms.map fD))]) = some (.str u) from fld_text (st := b) (ys := ys)]
theorem eqOB_ws {CW : Addr} {t z : Str} {a : LS} {xs : List Str} : eqOB CW "own_text" (worksD CW t a xs) (.str z) = some false := by
  simp only [eqOB, fld_text]
theorem eqD_bl (a b : Bool) : eqD (.bl a) (.bl b) = some (a == b) := by
  unfold eqD flatD
  simp [eqV]
theorem sRight {CW : Addr} {ds : List D} {n : Nat} {Q : D → Nat → Prop} {ex : KX} (h : wRight ds n Q ex) : wFn 6 (bLRight CW wLore wPage) ds n Q ex := by
  obtain ⟨rfl, hn, k⟩ := h
  refine seq_all (fun S1 => ∃ (L O : Lore) (n1 : Nat), LoreOk L ∧ LoreOk O ∧ n ≤ n1 + 126 ∧ S1 = ⟨[.d .pot, .d (loreD L), .d (loreD O), .dead, .dead, .dead], n1⟩) (fun W' h => ?_) ?_
  · simp only [wPar, wFix, wCall, wCons, wNil, wVar, hold, gives, frzs, frzE, List.getElem?_cons_zero, List.map_cons, List.map_nil, List.cons_append, List.nil_append]
    refine ⟨rfl, rfl, by omega, fun L n1 hL h1 => ⟨rfl, rfl, by show 63 ≤ n1; omega, fun O n2 hO h2 => ?_⟩⟩
    exact h _ ⟨L, O, n2, hL, hO, by omega, rfl⟩
  rintro _ ⟨L, O, n1, hL, hO, hn1, rfl⟩
  refine seq_nx ⟨[.d .pot, .d (loreD L), .d (loreD O), .d (.str (pageS L)), .dead, .dead], n1⟩ (fun W' h => ?_) ?_
  · exact ⟨rfl, L, rfl, hL, h⟩
  refine seq_all (fun S1 => ∃ ys zs : List Str, SortOf (L.names ++ [("house" : Str)]) ys ∧ SortOf (O.names ++ [("house" : Str)]) zs ∧ S1 = ⟨[.d .pot, .d (loreD L), .d (loreD O), .d (.str (pageS L)), .d (worksD CW (pageS L) (lsOf L) ys), .d (worksD CW (pageS O) (lsOf O) zs)], n1⟩) (fun W' h => ?_) ?_
  · refine ⟨rfl, works_of hL fun ys hy => ⟨rfl, O, rfl, hO, rfl, works_of hO fun zs hz => ?_⟩⟩
    exact h _ ⟨ys, zs, hy, hz, rfl⟩
  rintro _ ⟨ys, zs, hy, hz, rfl⟩
  have shP : ∀ (L : Lore) (ys : List Str), LoreOk L → ys.Perm (L.names ++ [("house" : Str)]) → Shows (.tup (ys.map .str)) (.tuple (ys.map .str)) := fun L ys hL hp => by
    refine shows_strs (fun z hz => ?_) ?_
    · rcases List.mem_append.mp (hp.mem_iff.mp hz) with m | m
      · exact pw7 z (List.mem_append.mpr (.inl (hL.n2 z m)))
      · exact pw7 z (List.mem_append.mpr (.inr m))
    · have := hp.length_eq
      have := hL.n4
      simp only [List.length_append, List.length_cons, List.length_nil] at *
      omega
  have shK : ∀ L : Lore, LoreOk L → Shows (.tup (L.paths.map pD)) (.tuple (L.paths.map pP)) := fun L hL => shows_pairs (fun z hz => ⟨pw8 _ (hL.p2 z hz).1, pw5 _ (hL.p2 z hz).2⟩) (by have := hL.p4; omega)
  have shR : ∀ L : Lore, LoreOk L → Shows (.int (L.rules.length : Nat)) (.int (L.rules.length : Nat)) := fun L hL => shows_int hL.f2
  have reprOne : ∀ {w : WE} {S : Sx} {d : D} {e : PyData} {K : KE}, (∀ K' : KE, K' (.v d) S → w S K') → Shows d e → K (.v (.str e.shown)) S → wCB oRepr (wCons w wNil) S K := fun hw hs q => hw _ (by
    simp only [wNil, hold, uses, derefs, deref]
    exact repr_of hs q)
  have paths_of : ∀ {i : Nat} {S : Sx} {L : Lore} {xs : List Str}, LoreOk L → S.ρ[i]? = some (.d (worksD CW (pageS L) (lsOf L) xs)) → ∀ K : KE, K (.v (.str (PyData.tuple (L.paths.map pP)).shown)) S → wCB oRepr (wCons (wUn (oItems CW "own_kinds") (wVar i)) wNil) S K := fun {i S L xs} hL hS K q =>
    reprOne (d := .tup (L.paths.map pD)) (fun K' q' => un_d hS (by simp only [oItems, fld_kinds, kinds_pD]; exact q')) (shK L hL) q
  have lpaths : ∀ {i : Nat} {S : Sx} {L : Lore}, LoreOk L → S.ρ[i]? = some (.d (loreD L)) → ∀ K : KE, K (.v (.str (PyData.tuple (L.paths.map pP)).shown)) S → wCB oRepr (wCons (wOp oIx (wVar i) (wC (.str "paths"))) wNil) S K := fun hL hS K q =>
    reprOne (fun K' q' => ix_d hS get_paths q') (shK _ hL) q
  have rules_of : ∀ {i : Nat} {S : Sx} {L : Lore} {xs : List Str}, LoreOk L → S.ρ[i]? = some (.d (worksD CW (pageS L) (lsOf L) xs)) → ∀ K : KE, K (.v (.str (PyData.int (L.rules.length : Nat)).shown)) S → wCB oRepr (wCons (wUn (oLenF CW "own_formulas") (wVar i)) wNil) S K := fun {i S L xs} hL hS K q =>
    reprOne (d := .int (L.rules.length : Nat)) (fun K' q' => un_d hS (by simp only [oLenF, fld_forms, List.length_map]; exact q')) (shR L hL) q
  have lrules : ∀ {i : Nat} {S : Sx} {L : Lore}, LoreOk L → S.ρ[i]? = some (.d (loreD L)) → ∀ K : KE, K (.v (.str (PyData.int (L.rules.length : Nat)).shown)) S → wCB oRepr (wCons (wCB oLen (wCons (wOp oIx (wVar i) (wC (.str "rules"))) wNil)) wNil) S K := fun {i S L} hL hS K q =>
    reprOne (d := .int (L.rules.length : Nat)) (fun K' q' => ix_d hS get_rules (by simp only [wNil, hold, uses, derefs, deref, oLen, lenD, List.length_map]; exact q')) (shR L hL) q
  -- persons
  refine seq_nx ⟨[.d .pot, .d (loreD L), .d (loreD O), .d (.str (pageS L)), .d (worksD CW (pageS L) (lsOf L) ys), .d (worksD CW (pageS O) (lsOf O) zs)], n1⟩ (fun W' h => ?_) ?_
  · refine ne_str (z := (PyData.tuple (ys.map .str)).shown) (fun K q => reprOne (d := .tup (ys.map .str)) (fun K' q' => un_d rfl (by simp only [oFld, fld_persons]; exact q')) (shP L ys hL hy.1) q) (fun K q => ?_) h
    refine reprOne (d := .tup (ys.map .str)) (fun K' q' => ?_) (shP L ys hL hy.1) q
    have hl := hL.n4
    have h2 : 2000 ≤ sizeLine := by decide +kernel
    simp only [wCB, wCons, wNil, wOp, wVar, wC, hold, use, deref, uses, derefs, List.getElem?_cons_succ, List.getElem?_cons_zero, oIx, get_persons, oList, wLst, gives, frzs, frzE, T.frz, oAdd]
    refine ⟨by simp; omega, by simp; omega, ?_⟩
    have e : L.names.map D.str ++ [D.str (Str.ofString "house")] = (L.names ++ [("house" : Str)]).map .str := by simp
    rw [e]
    refine sortX_strs (by simp; omega) fun ws w1 w2 => ?_
    have ew : ws = ys := uniq_of DL.ltS_tri w2 (sortedS_pw hy.2) (w1.trans hy.1.symm)
    rw [ew]
    simp only [T.frz, hold, uses, derefs, deref, oTuple]
    exact q'
  -- paths, rules
  refine seq_nx ⟨[.d .pot, .d (loreD L), .d (loreD O), .d (.str (pageS L)), .d (worksD CW (pageS L) (lsOf L) ys), .d (worksD CW (pageS O) (lsOf O) zs)], n1⟩ (fun W' h => ?_) ?_
  · exact ne_str (paths_of hL rfl) (lpaths hL rfl) (ne_str (rules_of hL rfl) (lrules hL rfl) h)
  -- ==
  refine seq_nx ⟨[.d .pot, .d (loreD L), .d (loreD O), .d (.str (pageS L)), .d (worksD CW (pageS L) (lsOf L) ys), .d (worksD CW (pageS O) (lsOf O) zs)], n1⟩ (fun W' h => ?_) ?_
  · simp only [wIfS, DL.wOr, DL.wNot, DL.wCmp, wVar, List.getElem?_cons_succ, List.getElem?_cons_zero, wCallK, wGive1, give, frzE]
    refine ⟨pageS L, lsOf L, rfl, reads hL, hL.n4, hL.f2, fun xs hxs => ?_⟩
    simp only [use, deref, hold, oEqO, eqOB_ww, eqOB_ws, isBl, decide_true, Bool.not_true, Bool.false_eq_true, if_false, wOp, wVar, List.getElem?_cons_succ, List.getElem?_cons_zero, wCall, wCons, wNil, gives, frzs, frzE]
    refine ⟨rfl, O, rfl, hO, ?_⟩
    simp only [oEq, eqD_str, oNe, eqD_bl, beq_self_eq_true, Bool.not_true, isBl, Bool.false_eq_true, if_false]
    exact h
  refine eq_str (paths_of hO rfl) (lpaths hO rfl) ?_
  simp only [use, deref, truD]
  refine ⟨true, rfl, ?_⟩
  refine eq_str (rules_of hO rfl) (lrules hO rfl) ?_
  exact k n1 hn1
end WL
end
section
set_option Elab.async false
set_option linter.all false
set_option maxRecDepth 100000
set_option maxHeartbeats 400000
namespace WL
open PySem L2 PyProof.Rows DL
section
variable {P : Program} {w : World} {K : PySem.W.Frag} {mg : Str → Option Value} {base : Heap}
theorem tabs_but {T : List (Addr × Str)} {p : Addr} {H G : Hp} {xs : List V} (h : H p = some (.lst xs)) (k : ∀ b o, b ≠ p → H b = some o → G b = some o) (t : LamX.Tabs T H) : LamX.Tabs T G := fun q hq => by
  obtain ⟨ps, a1, a2, a3⟩ := t q hq
  refine ⟨ps, k _ _ (fun z => by rw [z, h] at a1; cases a1) a1, a2, fun pos cv hc => ?_⟩
  obtain ⟨c, e, q⟩ := a3 pos cv hc
  refine ⟨c, e, k _ _ (fun z => ?_) q⟩
  rw [z, h] at q
  have := Option.some.inj q
  unfold LamX.CodeO at this
  cases this
theorem defTake (h : C8.Cal P w K mg base 1 "_law_take" WK.spTake []) : Def P w K mg base 1 "_law_take" 2 wTake := by
  refine Def.of_heap h fun vs H Q E ⟨own, q, n, ds, hl, hgl, hlv, hpot, htb, r, m, e, hn, h0, h1, k⟩ => ?_
  subst e
  cases r with
  | cons r1 r => cases r with
    | cons r2 r =>
      cases r
      cases r1
      cases r2
      obtain ⟨a, b, c, e, b1, b2, c1, c2⟩ := hpot
      refine ⟨q.p, 1000000 - n, m, rfl, ⟨a, b, c, e, b1, b2, c1, by omega⟩, by omega, h0, h1, fun x H' x0 x1 dr => ?_⟩
      refine k x x0 x1 _ H' (.int x) ⟨fun b o e2 => ?_, fun b hb hg => ?_, ?_, tabs_but e dr.rest htb⟩
      · have hb : b ∉ own := fun z => by rw [bare_in z] at e2; cases e2
        rw [bare_ne hb] at e2 ⊢
        exact dr.rest b o (fun z => hb (by rw [z]; exact hgl _ q.mem)) e2
      · obtain ⟨o, e2, _⟩ := hlv b hb
        rw [dr.rest b o (fun z => hg (by rw [z]; exact q.mem)) e2, e2]
      · obtain ⟨a', b', c', e', b1', b2', c1', c2'⟩ := dr.pot.ex
        exact ⟨a', b', c', e', b1', b2', c1', by omega⟩
/-- the law's defs -/
structure LDefs (K : PySem.W.Frag) (mg : Str → Option Value) : Prop where
  of : DefOf K mg "_law_of" sLOf ["_law_pot", "_law_some"]
  atom : DefOf K mg "_law_atom" sLAtom ["_law_pot", "_law_paths"]
  drawn : DefOf K mg "_law_drawn_formula" sLDrawnFormula ["_law_pot", "_law_paths", "_law_many"]
  true_ : DefOf K mg "_law_true" sLTrue ["_law_formula", "_law_held"]
  rules : DefOf K mg "_law_rules" sLRules ["_law_pot", "_law_paths"]
  lore : DefOf K mg "_law_wide_lore" sLWideLore ["_law_pot"]
  ones : DefOf K mg "_law_ones" sLOnes ["_law_formula", "_law_outer"]
  page : DefOf K mg "_law_page" sLPage ["_law_lore"]
  right : DefOf K mg "_law_right" sLRight ["_law_pot"]
theorem okDrawn (B : Free mg) (L : LDefs K mg) (T : Def P w K mg base 1 "_law_take" 2 wTake) : ∀ m, Def P w K mg base (m + 3) "_law_drawn_formula" 3 (wDrawn m)
  | 0 => (DefOf.never L.drawn).imp fun ds n Q ex _ ⟨ps, many, _, _, _, h1, h2, _⟩ => by omega
  | m + 1 => by
    have o := (dfLOf B L.of T mTake).imp fun ds n Q ex _ h => sOf h
    have a := (dfLAtom B L.atom o mOf (T.mono (by omega)) mTake).imp fun ds n Q ex _ h => sAtom h
    exact (dfLDrawnFormula (k := m + 3) B L.drawn (a.mono (by omega)) mAtom (o.mono (by omega)) mOf (okDrawn B L T m) mDrawn (T.mono (by omega)) mTake).imp fun ds n Q ex _ h => sDrawn h
theorem okTrue (B : Free mg) (L : LDefs K mg) : ∀ m, Def P w K mg base (m + 1) "_law_true" 2 (wTrue m)
  | 0 => (dfLTrue B L.true_ (DefOf.never L.true_) (fun _ _ _ _ _ _ _ _ z => z)).imp fun ds n Q ex _ h => sTrue (fun ds n Q ex ⟨m', e, _⟩ => by omega) h
  | m + 1 => (dfLTrue B L.true_ (okTrue B L m) mTrue).imp fun ds n Q ex _ h => sTrue (fun ds n Q ex ⟨m', e, z⟩ => by cases e; exact z) h
theorem okOnes (B : Free mg) (L : LDefs K mg) : ∀ m, Def P w K mg base (m + 1) "_law_ones" 2 (wOnes m)
  | 0 => (dfLOnes B L.ones (DefOf.never L.ones) (fun _ _ _ _ _ _ _ _ z => z)).imp fun ds n Q ex _ h => sOnes (fun ds n Q ex ⟨m', e, _⟩ => by omega) h
  | m + 1 => (dfLOnes B L.ones (okOnes B L m) mOnes).imp fun ds n Q ex _ h => sOnes (fun ds n Q ex ⟨m', e, z⟩ => by cases e; exact z) h
theorem okRight {CW tab : Addr} (B : Free mg) (L : LDefs K mg) (W : WorksOk P w K mg base CW tab) (T : Def P w K mg base 1 "_law_take" 2 wTake) : ∃ f fd ps, FnX P w K mg base 63 f fd ps (spDT K [(tab, WK.lamQ)] 1 wRight) ∧ mg "_law_right" = some (.ref f) ∧ PySem.W.keepIn K (.ref f) = true ∧ Binds K fd ps [] := by
  have o := (dfLOf B L.of T mTake).imp fun ds n Q ex _ h => sOf h
  have r := (dfLRules (k := 9) B L.rules (T.mono (by omega)) mTake ((okDrawn B L T 4).mono (by omega)) mDrawn ((okTrue B L 8).mono (by omega)) mTrue).imp fun ds n Q ex _ h => sRules h
  have l := (dfLWideLore (k := 10) B L.lore (T.mono (by omega)) mTake (o.mono (by omega)) mOf r mRules).imp fun ds n Q ex _ h => sLore h
  have p := (dfLPage (P := P) (w := w) (base := base) (k := 9) B L.page (okOnes B L 8) mOnes).imp fun ds n Q ex _ h => sPage h
  obtain ⟨f, fd, ps, F, a, b, c⟩ := (dfLRight (k := 62) (by omega) B W L.right (l.mono (by omega)) mLore (p.mono (by omega)) mPage).ex
  exact ⟨f, fd, ps, F.imp fun vs H Q E ⟨own, q, n, ds, h1, h2, h3, h4, h5, h6, h7, h8⟩ => ⟨own, q, n, ds, h1, h2, h3, h4, h5, h6, h7, sRight h8⟩, a, b, c⟩
/-- .. over the heap -/
def spRightH (tab : Addr) : Sp := fun vs H Q _ => ∃ (p : Addr) (n : Nat), vs = [.ref p] ∧ PotB H p n ∧ 126 ≤ n ∧ LamX.Tabs [(tab, WK.lamQ)] H ∧
  ∀ H', PotB H' p (n - 126) → LamX.Tabs [(tab, WK.lamQ)] H' → (∀ b o, b ≠ p → b ≠ tab → H b = some o → H' b = some o) → Q (.bl true) H'
theorem right_heap {tab : Addr} : ∀ vs H Q E, spRightH tab vs H Q E → spDT K [(tab, WK.lamQ)] 1 wRight vs H Q fun _ _ _ => False := by
  rintro vs H Q E ⟨p, n, rfl, hp, hn, htb, k⟩
  refine ⟨[p, tab], ⟨p, [(tab, WK.lamQ)]⟩, n, [.pot], rfl, rfl, fun a ha => ha, fun a ha => ?_, hp, htb, .cons .pot .nil, rfl, hn, fun n' hn' v H' rv af => ?_⟩
  · rcases List.mem_cons.mp ha with rfl | ha
    · obtain ⟨x, y, z, e, _⟩ := hp
      exact ⟨_, e, rfl⟩
    · rw [List.mem_singleton.mp ha]
      obtain ⟨ps, e, _⟩ := htb _ (List.mem_singleton.mpr rfl)
      exact ⟨_, e, rfl⟩
  · cases rv
    refine k H' ?_ af.tabs fun b o n1 n2 e => ?_
    · obtain ⟨x, y, z, e, a, b, c, d⟩ := af.pot
      exact ⟨x, y, z, e, a, b, c, by omega⟩
    · have hb : b ∉ [p, tab] := by simp [n1, n2]
      have := af.same b o (by rw [bare_ne hb]; exact e)
      rwa [bare_ne hb] at this
end
end WL
end
section
set_option Elab.async false
set_option linter.all false
set_option maxRecDepth 100000
set_option maxHeartbeats 1000000
namespace WL
open PySem L2 PyProof.Rows DL
abbrev sLaw : Stmt := top 62
def spLaw (K : PySem.W.Frag) (tab : Addr) : Sp := fun vs H Q _ => ∃ (a : Addr) (ns : List Int), vs = [.ref a] ∧ SqL K H a (ns.map V.int) ∧ ns.length ≤ 63 ∧ LamX.Tabs [(tab, WK.lamQ)] H ∧ ∀ H', Q (.bl true) H'
/-- all but the table stays -/
def ButT (tab : Addr) (H G : Hp) : Prop := ∀ b o, b ≠ tab → H b = some o → G b = some o
section
variable {P : Program} {w : World} {K : PySem.W.Frag} {mg : Str → Option Value} {base : Heap}
abbrev nLaw : List Str := ["_law_script", "_law_k", "_law_pot", "_law_turn"]
theorem scLaw : FnScope nLaw ["_law_script"] (defScope sLaw) := ⟨rfl, rfl, rfl, by decide +kernel, rfl, by decide +kernel, by decide +kernel⟩
theorem sqL_but {tab a : Addr} {H G : Hp} {xs : List V} {pt : Array Value} (ht : H tab = some (.tbl pt)) (k : ButT tab H G) (h : SqL K H a xs) : SqL K G a xs := by
  rcases h with (h | ⟨o, h⟩) | h
  · exact .inl (.inl (k _ _ (fun z => by rw [z, ht] at h; cases h) h))
  · exact .inl (.inr ⟨o, k _ _ (fun z => by rw [z, ht] at h; cases h) h⟩)
  · exact .inr h
theorem potB_of {H : Hp} {p : Addr} (h : WK.Pot H p 0) : PotB H p 1000000 := by
  obtain ⟨a, b, c, e, h1, h2, h3, h4⟩ := h.ex
  exact ⟨a, b, c, e, h1, h2, h3, by omega⟩
theorem ok_law {tab : Addr} {f fP fR : Addr} {fd fdP fdR : FuncData} {psR : List Str} (F : Fun K "law" "law" sLaw f fd)
    (FP : FnOk P w K mg base CX0 1 fP fdP ["_law_script", "_law_k"] (WK.spPotOf K)) (bP : Binds K fdP ["_law_script", "_law_k"] []) (mP : mg "_law_pot_of" = some (.ref fP)) (kP : PySem.W.keepIn K (.ref fP) = true)
    (FR : FnX P w K mg base 63 fR fdR psR (spRightH tab)) (bR : Binds K fdR psR []) (mR : mg "_law_right" = some (.ref fR)) (kR : PySem.W.keepIn K (.ref fR) = true)
    (B : Free mg) : FnX P w K mg base 64 f fd ["_law_script"] (spLaw K tab) := by
  refine fun_okX F scLaw (fun vs H Q E h => ?_) (fun cdv A outer s H vs Q E hg hr h => ?_)
  · obtain ⟨a, ns, rfl, _⟩ := h
    rfl
  · obtain ⟨a, ns, rfl, hs, hl, htb, k⟩ := h
    have hr1 : Room 1 _ := hr.mono (by decide)
    obtain ⟨pt, ht, _⟩ := id (htb _ (List.mem_singleton.mpr rfl))
    have ht : H tab = some (.tbl pt) := ht
    refine ⟨_, pss_cons (ps_for (passes_of rfl) rfl (pi_range1 rfl B.range (pa_cons (pe_callB (call_max2 rfl) (by rfl) B.max boot_max (pa_cons pe_int (pa_cons (pe_callB (call_min2 rfl) (by rfl) B.min boot_min (pa_cons pe_int (pa_cons (pe_callB call_len_seq (by rfl) B.len PySem.boot_len (pa_cons (pv 0) pa_nil)) pa_nil))) pa_nil))) pa_nil)) (pg_name (i := 1) scLaw.nd rfl (Or.inl rfl))
        (pss_cons (ps_set (i := 2) scLaw.nd rfl (Or.inr rfl) (pe_call FP hr1 rfl mP kP bP .nil pass0 (pa_cons (pv 0) (pa_cons (pv 1) pa_nil))))
        (pss_one (ps_if (pt_not (pt_val (pe_callB (cr_all rfl) (by rfl) B.all (by decide +kernel) (pa_cons (pe_lc (own := [("_law_turn", 3)]) (g := gName 3) (tt := tYes) rfl scLaw.nd (pi_range1 rfl B.range (pa_cons pe_int pa_nil))
              (blkOk_by (N := nLaw) (sc := defScope sLaw) (by decide +kernel)) (fun _ _ _ _ _ => pg_name (i := 3) scLaw.nd rfl (Or.inl rfl)) (fun _ _ _ _ _ => pts_nil) (fun _ _ _ _ _ => pe_callX FR hg hr rfl mR kR bR (pa_cons (pv 2) pa_nil))) pa_nil))))
          (pss_one (ps_ret pe_bl)) pss_nil))))
      (pss_one (ps_ret pe_bl)), ?_⟩
    refine ⟨_, rfl, a, _, rfl, .inl hs, 3, _, rfl, 1, _, rfl, _, rfl, ?_, ?_, for_range (lo := 0) (fun i σ G => ∃ t1 t2, σ = [some (.ref a), t1, t2, none] ∧ ButT tab H G ∧ LamX.Tabs [(tab, WK.lamQ)] G) ⟨none, none, rfl, fun _ _ _ z => z, htb⟩ ?_ ?_⟩
    · rw [List.length_map]; split <;> split <;> omega
    · rw [List.length_map]; split <;> split <;> omega
    · rintro i σ G hi ⟨t1, t2, rfl, sG, tG⟩
      have hi3 : i < 3 := by
        revert hi
        rw [List.length_map]
        split <;> split <;> omega
      refine ⟨_, rfl, _, rfl, a, ns, i, by rw [Int.zero_add]; rfl, sqL_but ht sG hs, hl, by omega, fun p G1 hp s1 P1 => ?_⟩
      obtain ⟨ptG, htG, _⟩ := id (tG _ (List.mem_singleton.mpr rfl))
      have htG : G tab = some (.tbl ptG) := htG
      have npt : p ≠ tab := fun z => by rw [z, htG] at hp; cases hp
      have sG1 : ButT tab H G1 := fun b o n e => s1 b o (sG b o n e)
      have np : H p = none := by
        cases e : H p with
        | none => rfl
        | some o => rw [sG p o npt e] at hp; cases hp
      refine ⟨8, rfl, by decide, by decide, fun D hD => lc_range (n := 8) (fun j G3 => D ≠ p ∧ D ≠ tab ∧ PotB G3 p (1000000 - 126 * j) ∧ ButT tab H G3 ∧ LamX.Tabs [(tab, WK.lamQ)] G3 ∧ G3 D = some (.lst ((List.replicate j true).map V.bl))) ?_ ?_ ?_⟩
      · have nDp : D ≠ p := fun z => by
          obtain ⟨x1, x2, x3, e, _⟩ := P1.ex
          rw [z, e] at hD
          cases hD
        have nDt : D ≠ tab := fun z => by
          rw [z, s1 _ _ htG] at hD
          cases hD
        obtain ⟨x1, x2, x3, e, r⟩ := potB_of P1
        refine ⟨nDp, nDt, ⟨x1, x2, x3, by rw [upd_ne (Ne.symm nDp)]; exact e, by simpa using r⟩, fun b o n e => new_same hD b o (sG1 b o n e), LamX.Tabs.ext (LamX.Tabs.ext tG s1) (new_same hD), upd_same⟩
      · rintro j G3 hj ⟨nD, nDt, P3, s3, T3, g3⟩
        refine ⟨rfl, ⟨_, rfl, p, 1000000 - 126 * j, rfl, P3, by omega, T3, fun G4 P4 T4 k4 => ?_⟩⟩
        have g4 := k4 D _ nD nDt g3
        refine ⟨_, g4, Nat.lt_of_le_of_lt (show _ ≤ 40 by simp; omega) (by decide), nD, nDt, ?_, fun b o n z => ?_, ?_, ?_⟩
        · obtain ⟨x1, x2, x3, e, r1, r2, r3, r4⟩ := P4
          exact ⟨x1, x2, x3, by rw [upd_ne (Ne.symm nD)]; exact e, r1, r2, r3, by omega⟩
        · have hb : b ≠ p := ne_of_none z np
          have z4 := k4 b o hb n (s3 b o n z)
          have hbD : b ≠ D := fun y => by
            rw [y] at z
            rw [sG1 D o nDt z] at hD
            cases hD
          rw [upd_ne hbD]
          exact z4
        · exact tabs_but g4 (fun b o n e => by rw [upd_ne n]; exact e) T4
        · rw [upd_same, List.replicate_succ', List.map_append]
          rfl
      · rintro G3 ⟨nD, nDt, P3, s3, T3, g3⟩
        refine ⟨D, List.replicate 8 true, rfl, SqL.of g3, _, rfl, ?_⟩
        refine WK.iteN rfl ?_
        exact ⟨_, _, rfl, s3, T3⟩
    · rintro σ G ⟨t1, t2, rfl, sG⟩
      exact k G
end
end WL
end
section
set_option Elab.async false
set_option linter.all false
set_option maxRecDepth 100000
set_option maxHeartbeats 0
namespace WL
open PySem PySem.Spec PyProof.Rows L2
/-! ### the head: what the top leaves, read by a Hook -/
abbrev theRow : PySem.W.OpenRow := PySem.W.OpenLaw.row PySem.Challenge.rw_thinnedpast_k01_works_read
def dOf (n : Str) (j : Nat) : He.DefD := ⟨(n, none), n, n, defArgs (WK.top j), defBody (WK.top j), defScope (WK.top j), [], []⟩
def meOf (C : Str) (i : Nat) (m : Str) (j : Nat) : He.DefD := ⟨(C, some m), m, C ++ "." ++ m, defArgs (inClass (WK.top i) j), defBody (inClass (WK.top i) j), defScope (inClass (WK.top i) j), [], []⟩
def defs : List He.DefD := [dOf "is_name" 10, dOf "is_path" 11, dOf "is_pattern" 12, dOf "formula_in" 23, dOf "side_in" 24, dOf "all_in" 25, dOf "joined_in" 26, dOf "one_in" 27, dOf "atom_in" 28, dOf "atoms_of" 29, dOf "worth" 30, dOf "read_lines" 47, dOf "_law_take" 51, dOf "_law_of" 52, dOf "_law_atom" 53, dOf "_law_drawn_formula" 54, dOf "_law_true" 55, dOf "_law_rules" 56, dOf "_law_wide_lore" 57, dOf "_law_ones" 58, dOf "_law_page" 59, dOf "_law_pot_of" 60, dOf "_law_right" 61, dOf "law" 62, meOf "Lines" 46 "__init__" 0, meOf "Lines" 46 "take_all" 2, meOf "Lines" 46 "takes" 3, meOf "Lines" 46 "takes_person" 4, meOf "Lines" 46 "takes_path" 5, meOf "Lines" 46 "takes_right" 6, meOf "Lines" 46 "takes_rule" 7, meOf "Works" 48 "__init__" 0, meOf "Works" 48 "__eq__" 1]
def facts : List He.Fa := [.glo "is_name", .glo "is_path", .glo "is_pattern", .glo "formula_in", .glo "side_in", .glo "all_in", .glo "joined_in", .glo "one_in", .glo "atom_in", .glo "atoms_of", .glo "worth", .glo "read_lines", .glo "_law_take", .glo "_law_of", .glo "_law_atom", .glo "_law_drawn_formula", .glo "_law_true", .glo "_law_rules", .glo "_law_wide_lore", .glo "_law_ones", .glo "_law_page", .glo "_law_pot_of", .glo "_law_right", .glo "law", .glo "Lines", .glo "Works", .glo "PATH_SIZES", .glo "ATOMS", .glo "KINDS", .free "isinstance", .free "str", .free "len", .free "all", .free "any", .free "int", .free "abs", .free "range", .free "max", .free "min", .free "repr", .free "tuple", .free "list", .free "dict", .free "sorted", .free "sum", .str "LETTERS" "abcdefghijklmnopqrstuvwxyz", .str "POINT" ".", .str "ANY" "*", .str "IF" "if", .str "THEN" "then", .str "OR" "or", .str "AND" "and", .str "NOT" "not", .str "NONE" "none", .str "WORD" "word", .str "LIKE" "like", .str "FEED" "\n", .str "BLANK" " ", .str "HOUSE" "house", .str "PERSON" "person", .str "PATH" "path", .str "RIGHT" "right", .str "RULE" "rule", .str "COUNT" "count", .int "MOST_LETTERS" 8, .int "MOST_PERSONS" 3, .int "MOST_PATHS" 6, .int "MOST_RULES" 3, .int "MOST_ATOMS" 4, .int "MOST_WORDS" 40, .cls "Lines", .cls "Works", .mkr "Lines", .mkr "Works", .noat "Lines" "rest_lines", .noat "Lines" "many_lines", .noat "Lines" "held_persons", .noat "Lines" "held_kinds", .noat "Lines" "held_rights", .noat "Lines" "held_formulas", .noat "Works" "own_text", .noat "Works" "own_persons", .noat "Works" "own_kinds", .noat "Works" "own_rights", .noat "Works" "own_formulas", .meth "Lines" "take_all", .meth "Lines" "takes", .meth "Lines" "takes_person", .meth "Lines" "takes_path", .meth "Lines" "takes_right", .meth "Lines" "takes_rule", .meth "Works" "__eq__", .free "bool", .free "zip", .free "enumerate", .free "set"]
def aW (K : PySem.W.Frag) : Addr := He.ga K "Works"
def aP (K : PySem.W.Frag) (f : Str) : Addr := He.ma K (aW K) f
def aG (K : PySem.W.Frag) (f : Str) : Addr := match PySem.W.recIn K (aP K f) "property" with
  | some (.ref g :: _) => g
  | _ => 0
/-- the name f of Works is a property; its getter is a def without defaults, its code is known -/
def propB (K : PySem.W.Frag) (f q : Str) : Bool := He.eqO (PySem.W.findIn K (.ref (aW K)) f) (some (some (.ref (aP K f)))) && (He.eqO (PySem.W.specialIn K (.ref (aP K f)) "__get__") (some (some (.builtin "property.__get__"))) && (decide (PySem.W.takesIn K (.ref (aP K f)) = some true) &&
  ((match PySem.W.recIn K (aP K f) "property" with
    | some (.ref _ :: _) => true
    | _ => false) && (PySem.W.keepIn K (.ref (aG K f)) && (match K.lookup (aG K f) with
    | some ⟨_, _, .func fd, _⟩ => PySem.W.codeIn K fd.code q && (match fd.defaults with
      | .none => true
      | _ => false)
    | _ => false)))))
def isiB (K : PySem.W.Frag) : Bool := He.eqO (PySem.W.findIn K (.ref (aW K)) "__class__") (some (some (.builtin "object.__class__"))) && (He.eqO (PySem.W.specialIn K (.builtin "object.__class__") "__get__") (some (some (.builtin "getset_descriptor.__get__"))) && (decide (PySem.W.takesIn K (.builtin "object.__class__") = some true) &&
  (decide (PySem.W.mroIn K (aW K) (.type "object") = some true) && (decide (PySem.W.kitOne K (.type "str") (.ref (aW K)) = some false) && PySem.W.notFirst K (aW K) (.type "str")))))
def exB (K : PySem.W.Frag) : Bool := He.tupB K "PATH_SIZES" [.int 2, .int 3] && (He.tupB K "ATOMS" [.str "none", .str "word", .str "like"] && (He.tupB K "KINDS" [.str "word", .str "firm", .str "ours", .str "count"] &&
  (propB K "persons" "Works.persons" && (propB K "paths" "Works.paths" && (propB K "rules" "Works.rules" && isiB K)))))
abbrev InW : Type := Option (Str × Str × Arguments × FuncBody × Scope × Addr × List (Str × Addr) × Addr)
def inW (K : PySem.W.Frag) (f : Addr) : InW := match K.lookup f with
  | some ⟨_, _, .func fd, _⟩ => some (fd.name, fd.qualname, fd.params, fd.body, fd.scope, fd.globals, fd.closure, fd.builtins)
  | _ => none
def inV (n q : Str) (st : Stmt) : InW := some (n, q, defArgs st, .stmts (defBody st), defScope st, mainGlobals, [], builtinsNs)
def insW (K : PySem.W.Frag) : List InW := [inW K (aG K "persons"), inW K (aG K "paths"), inW K (aG K "rules")]
def insV : List InW := [inV "persons" "Works.persons" sPersons, inV "paths" "Works.paths" sPaths, inV "rules" "Works.rules" sRulesP]
def tf : List He.Defn := [("Lines", some "takes_rule")]
abbrev Al : Type := He.AlX × List InW
def fragOf (g : Addr → Option Obj) : PySem.W.Frag := He.frT g (He.asD g 7)
def obsG (g : Addr → Option Obj) : Al := (He.obsX 7 facts defs [] tf exB g, insW (fragOf g))
def hook : PySem.W.Hook where
  α := Al
  obs := fun s => obsG s.heap.get?
  val := fun w => (He.valX defs [] w, insV)
  says := fun w h => ∃ K : PySem.W.Frag, K.In h ∧ He.SaysX facts defs [] tf exB w h K ∧ insW K = insV
  of := fun _ s e => ⟨fragOf s.heap.get?, He.frT_in, He.saysX_of (congrArg (fun z : Al => z.1) e), congrArg (fun z : Al => z.2) e⟩
  keeps := fun _ _ _ ⟨K, hK, c, e⟩ k => ⟨K, PySem.W.Frag.In.keeps hK k, ⟨c.t, c.more, c.hd, c.out, fun p hp => k _ _ (c.empty p hp)⟩, e⟩
def ob (s : PySem.W.SharedT) : Al := obsG (HandSHeadRun.getT s)
theorem ob_eq (s : PySem.W.SharedT) : ob s = hook.obs s.abs := by
  have e : HandSHeadRun.getT s = s.abs.heap.get? := funext (HandSHeadRun.getT_eq s)
  show obsG _ = obsG _
  rw [e]
def loose : List Str := (["_wall", "ThinError", "BadWorks", "LETTERS", "MOST_LETTERS", "POINT", "PATH_SIZES", "ANY", "IF", "THEN", "OR", "AND", "NOT", "NONE", "WORD"] : List Str) ++ (["LIKE", "ATOMS", "FEED", "BLANK", "HOUSE", "PERSON", "PATH", "RIGHT", "RULE", "COUNT", "KINDS", "MOST_PERSONS", "MOST_PATHS", "MOST_RULES", "MOST_ATOMS"] : List Str) ++ (["MOST_WORDS", "Lines", "Works", "is_so", "is_name", "is_path", "is_pattern", "formula_in", "side_in", "all_in", "joined_in", "one_in", "atom_in", "atoms_of", "worth"] : List Str) ++ (["read_lines", "_law_take", "_law_of", "_law_atom", "_law_drawn_formula", "_law_true", "_law_rules", "_law_wide_lore", "_law_ones", "_law_page", "_law_pot_of", "_law_right"] : List Str)
theorem run (w : World) : HandSHeadRun.RunEq theRow (PySem.W.view theRow.prog [62]) hook ob 12000 loose w := by
  intro os
  kernel_rfl
end WL
end
section
set_option Elab.async false
set_option linter.all false
set_option maxRecDepth 100000
set_option maxHeartbeats 1000000
namespace WL
open PySem PySem.Spec PyProof.Rows L2 DL
theorem fun_of {K : PySem.W.Frag} {st : Stmt} {x q : Str} {f : Addr} {fd : FuncData} (F : FunD K x q (defArgs st) (defBody st) (defScope st) [] [] f fd) : Fun K x q st f fd := by
  obtain ⟨oc, od, dV, kV, doc, pm, an, cdv, ct, osl, e, lk, hcd, hd, _⟩ := F.ex
  rcases hd with ⟨_, rfl⟩ | ⟨z, _⟩
  · exact ⟨⟨oc, od, kV, doc, pm, an, cdv, ct, osl, e, lk, hcd⟩, F.kp⟩
  · exact absurd rfl z
theorem and2 {a b : Bool} (h : (a && b) = true) : a = true ∧ b = true := He.ba h
section
variable {K : PySem.W.Frag} {h : Heap} {mg : Str → Option Value} {w : World}
theorem w_is_name (KX : K.In h) (G : h.Ns mainGlobals mg) (c : He.SaysD facts defs K) : WK.DefOf K mg "is_name" (WK.top 10) ["value"] := by
  obtain ⟨fd, F⟩ := c.def_ 0 (d := dOf "is_name" 10) rfl
  exact ⟨_, fd, fun_of F, He.glo_ok KX G (c.fact 0 (f := .glo "is_name") rfl), FunD.bindsN F (fun _ _ _ _ _ _ us hl => match us, hl with | [_], _ => rfl)⟩
theorem w_is_path (KX : K.In h) (G : h.Ns mainGlobals mg) (c : He.SaysD facts defs K) : WK.DefOf K mg "is_path" (WK.top 11) ["value"] := by
  obtain ⟨fd, F⟩ := c.def_ 1 (d := dOf "is_path" 11) rfl
  exact ⟨_, fd, fun_of F, He.glo_ok KX G (c.fact 1 (f := .glo "is_path") rfl), FunD.bindsN F (fun _ _ _ _ _ _ us hl => match us, hl with | [_], _ => rfl)⟩
theorem w_is_pattern (KX : K.In h) (G : h.Ns mainGlobals mg) (c : He.SaysD facts defs K) : WK.DefOf K mg "is_pattern" (WK.top 12) ["word"] := by
  obtain ⟨fd, F⟩ := c.def_ 2 (d := dOf "is_pattern" 12) rfl
  exact ⟨_, fd, fun_of F, He.glo_ok KX G (c.fact 2 (f := .glo "is_pattern") rfl), FunD.bindsN F (fun _ _ _ _ _ _ us hl => match us, hl with | [_], _ => rfl)⟩
theorem w_formula_in (KX : K.In h) (G : h.Ns mainGlobals mg) (c : He.SaysD facts defs K) : WK.DefOf K mg "formula_in" (WK.top 23) ["words", "paths"] := by
  obtain ⟨fd, F⟩ := c.def_ 3 (d := dOf "formula_in" 23) rfl
  exact ⟨_, fd, fun_of F, He.glo_ok KX G (c.fact 3 (f := .glo "formula_in") rfl), FunD.bindsN F (fun _ _ _ _ _ _ us hl => match us, hl with | [_, _], _ => rfl)⟩
theorem w_side_in (KX : K.In h) (G : h.Ns mainGlobals mg) (c : He.SaysD facts defs K) : WK.DefOf K mg "side_in" (WK.top 24) ["words", "paths"] := by
  obtain ⟨fd, F⟩ := c.def_ 4 (d := dOf "side_in" 24) rfl
  exact ⟨_, fd, fun_of F, He.glo_ok KX G (c.fact 4 (f := .glo "side_in") rfl), FunD.bindsN F (fun _ _ _ _ _ _ us hl => match us, hl with | [_, _], _ => rfl)⟩
theorem w_all_in (KX : K.In h) (G : h.Ns mainGlobals mg) (c : He.SaysD facts defs K) : WK.DefOf K mg "all_in" (WK.top 25) ["words", "paths"] := by
  obtain ⟨fd, F⟩ := c.def_ 5 (d := dOf "all_in" 25) rfl
  exact ⟨_, fd, fun_of F, He.glo_ok KX G (c.fact 5 (f := .glo "all_in") rfl), FunD.bindsN F (fun _ _ _ _ _ _ us hl => match us, hl with | [_, _], _ => rfl)⟩
theorem w_joined_in (KX : K.In h) (G : h.Ns mainGlobals mg) (c : He.SaysD facts defs K) : WK.DefOf K mg "joined_in" (WK.top 26) ["words", "paths", "between", "reader"] := by
  obtain ⟨fd, F⟩ := c.def_ 6 (d := dOf "joined_in" 26) rfl
  exact ⟨_, fd, fun_of F, He.glo_ok KX G (c.fact 6 (f := .glo "joined_in") rfl), FunD.bindsN F (fun _ _ _ _ _ _ us hl => match us, hl with | [_, _, _, _], _ => rfl)⟩
theorem w_one_in (KX : K.In h) (G : h.Ns mainGlobals mg) (c : He.SaysD facts defs K) : WK.DefOf K mg "one_in" (WK.top 27) ["words", "paths"] := by
  obtain ⟨fd, F⟩ := c.def_ 7 (d := dOf "one_in" 27) rfl
  exact ⟨_, fd, fun_of F, He.glo_ok KX G (c.fact 7 (f := .glo "one_in") rfl), FunD.bindsN F (fun _ _ _ _ _ _ us hl => match us, hl with | [_, _], _ => rfl)⟩
theorem w_atom_in (KX : K.In h) (G : h.Ns mainGlobals mg) (c : He.SaysD facts defs K) : WK.DefOf K mg "atom_in" (WK.top 28) ["words", "paths"] := by
  obtain ⟨fd, F⟩ := c.def_ 8 (d := dOf "atom_in" 28) rfl
  exact ⟨_, fd, fun_of F, He.glo_ok KX G (c.fact 8 (f := .glo "atom_in") rfl), FunD.bindsN F (fun _ _ _ _ _ _ us hl => match us, hl with | [_, _], _ => rfl)⟩
theorem w_atoms_of (KX : K.In h) (G : h.Ns mainGlobals mg) (c : He.SaysD facts defs K) : WK.DefOf K mg "atoms_of" (WK.top 29) ["formula"] := by
  obtain ⟨fd, F⟩ := c.def_ 9 (d := dOf "atoms_of" 29) rfl
  exact ⟨_, fd, fun_of F, He.glo_ok KX G (c.fact 9 (f := .glo "atoms_of") rfl), FunD.bindsN F (fun _ _ _ _ _ _ us hl => match us, hl with | [_], _ => rfl)⟩
theorem w_worth (KX : K.In h) (G : h.Ns mainGlobals mg) (c : He.SaysD facts defs K) : WK.DefOf K mg "worth" (WK.top 30) ["formula", "ask"] := by
  obtain ⟨fd, F⟩ := c.def_ 10 (d := dOf "worth" 30) rfl
  exact ⟨_, fd, fun_of F, He.glo_ok KX G (c.fact 10 (f := .glo "worth") rfl), FunD.bindsN F (fun _ _ _ _ _ _ us hl => match us, hl with | [_, _], _ => rfl)⟩
theorem w_read_lines (KX : K.In h) (G : h.Ns mainGlobals mg) (c : He.SaysD facts defs K) : WK.DefOf K mg "read_lines" (WK.top 47) ["text"] := by
  obtain ⟨fd, F⟩ := c.def_ 11 (d := dOf "read_lines" 47) rfl
  exact ⟨_, fd, fun_of F, He.glo_ok KX G (c.fact 11 (f := .glo "read_lines") rfl), FunD.bindsN F (fun _ _ _ _ _ _ us hl => match us, hl with | [_], _ => rfl)⟩
theorem w__law_take (KX : K.In h) (G : h.Ns mainGlobals mg) (c : He.SaysD facts defs K) : WK.DefOf K mg "_law_take" (WK.top 51) ["_law_pot", "_law_upto"] := by
  obtain ⟨fd, F⟩ := c.def_ 12 (d := dOf "_law_take" 51) rfl
  exact ⟨_, fd, fun_of F, He.glo_ok KX G (c.fact 12 (f := .glo "_law_take") rfl), FunD.bindsN F (fun _ _ _ _ _ _ us hl => match us, hl with | [_, _], _ => rfl)⟩
theorem d__law_take (KX : K.In h) (G : h.Ns mainGlobals mg) (c : He.SaysD facts defs K) : DL.DefOf K mg "_law_take" (WK.top 51) ["_law_pot", "_law_upto"] := by
  obtain ⟨fd, F⟩ := c.def_ 12 (d := dOf "_law_take" 51) rfl
  exact ⟨_, fd, fun_of F, He.glo_ok KX G (c.fact 12 (f := .glo "_law_take") rfl), FunD.bindsN F (fun _ _ _ _ _ _ us hl => match us, hl with | [_, _], _ => rfl)⟩
theorem d__law_of (KX : K.In h) (G : h.Ns mainGlobals mg) (c : He.SaysD facts defs K) : DL.DefOf K mg "_law_of" (WK.top 52) ["_law_pot", "_law_some"] := by
  obtain ⟨fd, F⟩ := c.def_ 13 (d := dOf "_law_of" 52) rfl
  exact ⟨_, fd, fun_of F, He.glo_ok KX G (c.fact 13 (f := .glo "_law_of") rfl), FunD.bindsN F (fun _ _ _ _ _ _ us hl => match us, hl with | [_, _], _ => rfl)⟩
theorem d__law_atom (KX : K.In h) (G : h.Ns mainGlobals mg) (c : He.SaysD facts defs K) : DL.DefOf K mg "_law_atom" (WK.top 53) ["_law_pot", "_law_paths"] := by
  obtain ⟨fd, F⟩ := c.def_ 14 (d := dOf "_law_atom" 53) rfl
  exact ⟨_, fd, fun_of F, He.glo_ok KX G (c.fact 14 (f := .glo "_law_atom") rfl), FunD.bindsN F (fun _ _ _ _ _ _ us hl => match us, hl with | [_, _], _ => rfl)⟩
theorem d__law_drawn_formula (KX : K.In h) (G : h.Ns mainGlobals mg) (c : He.SaysD facts defs K) : DL.DefOf K mg "_law_drawn_formula" (WK.top 54) ["_law_pot", "_law_paths", "_law_many"] := by
  obtain ⟨fd, F⟩ := c.def_ 15 (d := dOf "_law_drawn_formula" 54) rfl
  exact ⟨_, fd, fun_of F, He.glo_ok KX G (c.fact 15 (f := .glo "_law_drawn_formula") rfl), FunD.bindsN F (fun _ _ _ _ _ _ us hl => match us, hl with | [_, _, _], _ => rfl)⟩
theorem d__law_true (KX : K.In h) (G : h.Ns mainGlobals mg) (c : He.SaysD facts defs K) : DL.DefOf K mg "_law_true" (WK.top 55) ["_law_formula", "_law_held"] := by
  obtain ⟨fd, F⟩ := c.def_ 16 (d := dOf "_law_true" 55) rfl
  exact ⟨_, fd, fun_of F, He.glo_ok KX G (c.fact 16 (f := .glo "_law_true") rfl), FunD.bindsN F (fun _ _ _ _ _ _ us hl => match us, hl with | [_, _], _ => rfl)⟩
theorem d__law_rules (KX : K.In h) (G : h.Ns mainGlobals mg) (c : He.SaysD facts defs K) : DL.DefOf K mg "_law_rules" (WK.top 56) ["_law_pot", "_law_paths"] := by
  obtain ⟨fd, F⟩ := c.def_ 17 (d := dOf "_law_rules" 56) rfl
  exact ⟨_, fd, fun_of F, He.glo_ok KX G (c.fact 17 (f := .glo "_law_rules") rfl), FunD.bindsN F (fun _ _ _ _ _ _ us hl => match us, hl with | [_, _], _ => rfl)⟩
theorem d__law_wide_lore (KX : K.In h) (G : h.Ns mainGlobals mg) (c : He.SaysD facts defs K) : DL.DefOf K mg "_law_wide_lore" (WK.top 57) ["_law_pot"] := by
  obtain ⟨fd, F⟩ := c.def_ 18 (d := dOf "_law_wide_lore" 57) rfl
  exact ⟨_, fd, fun_of F, He.glo_ok KX G (c.fact 18 (f := .glo "_law_wide_lore") rfl), FunD.bindsN F (fun _ _ _ _ _ _ us hl => match us, hl with | [_], _ => rfl)⟩
theorem d__law_ones (KX : K.In h) (G : h.Ns mainGlobals mg) (c : He.SaysD facts defs K) : DL.DefOf K mg "_law_ones" (WK.top 58) ["_law_formula", "_law_outer"] := by
  obtain ⟨fd, F⟩ := c.def_ 19 (d := dOf "_law_ones" 58) rfl
  exact ⟨_, fd, fun_of F, He.glo_ok KX G (c.fact 19 (f := .glo "_law_ones") rfl), FunD.bindsN F (fun _ _ _ _ _ _ us hl => match us, hl with | [_, _], _ => rfl)⟩
theorem d__law_page (KX : K.In h) (G : h.Ns mainGlobals mg) (c : He.SaysD facts defs K) : DL.DefOf K mg "_law_page" (WK.top 59) ["_law_lore"] := by
  obtain ⟨fd, F⟩ := c.def_ 20 (d := dOf "_law_page" 59) rfl
  exact ⟨_, fd, fun_of F, He.glo_ok KX G (c.fact 20 (f := .glo "_law_page") rfl), FunD.bindsN F (fun _ _ _ _ _ _ us hl => match us, hl with | [_], _ => rfl)⟩
theorem d__law_pot_of (KX : K.In h) (G : h.Ns mainGlobals mg) (c : He.SaysD facts defs K) : DL.DefOf K mg "_law_pot_of" (WK.top 60) ["_law_script", "_law_k"] := by
  obtain ⟨fd, F⟩ := c.def_ 21 (d := dOf "_law_pot_of" 60) rfl
  exact ⟨_, fd, fun_of F, He.glo_ok KX G (c.fact 21 (f := .glo "_law_pot_of") rfl), FunD.bindsN F (fun _ _ _ _ _ _ us hl => match us, hl with | [_, _], _ => rfl)⟩
theorem d__law_right (KX : K.In h) (G : h.Ns mainGlobals mg) (c : He.SaysD facts defs K) : DL.DefOf K mg "_law_right" (WK.top 61) ["_law_pot"] := by
  obtain ⟨fd, F⟩ := c.def_ 22 (d := dOf "_law_right" 61) rfl
  exact ⟨_, fd, fun_of F, He.glo_ok KX G (c.fact 22 (f := .glo "_law_right") rfl), FunD.bindsN F (fun _ _ _ _ _ _ us hl => match us, hl with | [_], _ => rfl)⟩
theorem free_of (KX : K.In h) (G : h.Ns mainGlobals mg) (c : He.SaysD facts defs K) : WK.Free mg := ⟨He.free_ok KX G (c.fact 29 (f := .free "isinstance") rfl), He.free_ok KX G (c.fact 30 (f := .free "str") rfl), He.free_ok KX G (c.fact 31 (f := .free "len") rfl), He.free_ok KX G (c.fact 32 (f := .free "all") rfl), He.free_ok KX G (c.fact 33 (f := .free "any") rfl), He.free_ok KX G (c.fact 34 (f := .free "int") rfl), He.free_ok KX G (c.fact 35 (f := .free "abs") rfl), He.free_ok KX G (c.fact 36 (f := .free "range") rfl), He.free_ok KX G (c.fact 37 (f := .free "max") rfl), He.free_ok KX G (c.fact 38 (f := .free "min") rfl), He.free_ok KX G (c.fact 39 (f := .free "repr") rfl), He.free_ok KX G (c.fact 40 (f := .free "tuple") rfl), He.free_ok KX G (c.fact 41 (f := .free "list") rfl), He.free_ok KX G (c.fact 42 (f := .free "dict") rfl), He.free_ok KX G (c.fact 43 (f := .free "sorted") rfl), He.free_ok KX G (c.fact 44 (f := .free "sum") rfl)⟩
theorem lines_of (c : He.SaysD facts defs K) : WK.LinesC K (He.ga K "Lines") := ⟨He.cls_ok (c.fact 70 (f := .cls "Lines") rfl), He.noat_ok (c.fact 74 (f := .noat "Lines" "rest_lines") rfl), He.noat_ok (c.fact 75 (f := .noat "Lines" "many_lines") rfl), He.noat_ok (c.fact 76 (f := .noat "Lines" "held_persons") rfl), He.noat_ok (c.fact 77 (f := .noat "Lines" "held_kinds") rfl), He.noat_ok (c.fact 78 (f := .noat "Lines" "held_rights") rfl), He.noat_ok (c.fact 79 (f := .noat "Lines" "held_formulas") rfl)⟩
theorem worksC_of (c : He.SaysD facts defs K) : WK.WorksC K (He.ga K "Works") := ⟨He.cls_ok (c.fact 71 (f := .cls "Works") rfl), He.noat_ok (c.fact 80 (f := .noat "Works" "own_text") rfl), He.noat_ok (c.fact 81 (f := .noat "Works" "own_persons") rfl), He.noat_ok (c.fact 82 (f := .noat "Works" "own_kinds") rfl), He.noat_ok (c.fact 83 (f := .noat "Works" "own_rights") rfl), He.noat_ok (c.fact 84 (f := .noat "Works" "own_formulas") rfl)⟩
theorem l___init__ (c : He.SaysD facts defs K) : ∃ fd, Fun K "__init__" "Lines.__init__" (WK.mSt 0) (He.ma K (He.ga K "Lines") "__init__") fd ∧ Binds K fd ["self", "text"] [] := by
  obtain ⟨fd, F⟩ := c.def_ 24 (d := meOf "Lines" 46 "__init__" 0) rfl
  exact ⟨fd, fun_of F, FunD.bindsN F (fun _ _ _ _ _ _ us hl => match us, hl with | [_, _], _ => rfl)⟩
theorem l_take_all (c : He.SaysD facts defs K) : ∃ fd, Fun K "take_all" "Lines.take_all" (WK.mSt 2) (He.ma K (He.ga K "Lines") "take_all") fd ∧ Binds K fd ["self", "sort"] [] := by
  obtain ⟨fd, F⟩ := c.def_ 25 (d := meOf "Lines" 46 "take_all" 2) rfl
  exact ⟨fd, fun_of F, FunD.bindsN F (fun _ _ _ _ _ _ us hl => match us, hl with | [_, _], _ => rfl)⟩
theorem l_takes (c : He.SaysD facts defs K) : ∃ fd, Fun K "takes" "Lines.takes" (WK.mSt 3) (He.ma K (He.ga K "Lines") "takes") fd ∧ Binds K fd ["self", "sort", "words"] [] := by
  obtain ⟨fd, F⟩ := c.def_ 26 (d := meOf "Lines" 46 "takes" 3) rfl
  exact ⟨fd, fun_of F, FunD.bindsN F (fun _ _ _ _ _ _ us hl => match us, hl with | [_, _, _], _ => rfl)⟩
theorem l_takes_person (c : He.SaysD facts defs K) : ∃ fd, Fun K "takes_person" "Lines.takes_person" (WK.mSt 4) (He.ma K (He.ga K "Lines") "takes_person") fd ∧ Binds K fd ["self", "words"] [] := by
  obtain ⟨fd, F⟩ := c.def_ 27 (d := meOf "Lines" 46 "takes_person" 4) rfl
  exact ⟨fd, fun_of F, FunD.bindsN F (fun _ _ _ _ _ _ us hl => match us, hl with | [_, _], _ => rfl)⟩
theorem l_takes_path (c : He.SaysD facts defs K) : ∃ fd, Fun K "takes_path" "Lines.takes_path" (WK.mSt 5) (He.ma K (He.ga K "Lines") "takes_path") fd ∧ Binds K fd ["self", "words"] [] := by
  obtain ⟨fd, F⟩ := c.def_ 28 (d := meOf "Lines" 46 "takes_path" 5) rfl
  exact ⟨fd, fun_of F, FunD.bindsN F (fun _ _ _ _ _ _ us hl => match us, hl with | [_, _], _ => rfl)⟩
theorem l_takes_right (c : He.SaysD facts defs K) : ∃ fd, Fun K "takes_right" "Lines.takes_right" (WK.mSt 6) (He.ma K (He.ga K "Lines") "takes_right") fd ∧ Binds K fd ["self", "words"] [] := by
  obtain ⟨fd, F⟩ := c.def_ 29 (d := meOf "Lines" 46 "takes_right" 6) rfl
  exact ⟨fd, fun_of F, FunD.bindsN F (fun _ _ _ _ _ _ us hl => match us, hl with | [_, _], _ => rfl)⟩
theorem l_takes_rule (c : He.SaysD facts defs K) : ∃ fd, Fun K "takes_rule" "Lines.takes_rule" (WK.mSt 7) (He.ma K (He.ga K "Lines") "takes_rule") fd ∧ Binds K fd ["self", "words"] [] := by
  obtain ⟨fd, F⟩ := c.def_ 30 (d := meOf "Lines" 46 "takes_rule" 7) rfl
  exact ⟨fd, fun_of F, FunD.bindsN F (fun _ _ _ _ _ _ us hl => match us, hl with | [_, _], _ => rfl)⟩
theorem k___init__ (c : He.SaysD facts defs K) : ∃ fd, Fun K "__init__" "Works.__init__" (WK.wSt 0) (He.ma K (He.ga K "Works") "__init__") fd ∧ Binds K fd ["self", "text"] [] := by
  obtain ⟨fd, F⟩ := c.def_ 31 (d := meOf "Works" 48 "__init__" 0) rfl
  exact ⟨fd, fun_of F, FunD.bindsN F (fun _ _ _ _ _ _ us hl => match us, hl with | [_, _], _ => rfl)⟩
theorem k___eq__ (c : He.SaysD facts defs K) : ∃ fd, Fun K "__eq__" "Works.__eq__" (WK.wSt 1) (He.ma K (He.ga K "Works") "__eq__") fd ∧ Binds K fd ["self", "other"] [] := by
  obtain ⟨fd, F⟩ := c.def_ 32 (d := meOf "Works" 48 "__eq__" 1) rfl
  exact ⟨fd, fun_of F, FunD.bindsN F (fun _ _ _ _ _ _ us hl => match us, hl with | [_, _], _ => rfl)⟩
theorem m_take_all (c : He.SaysD facts defs K) : WK.MethOf K (He.ga K "Lines") "take_all" "Lines.take_all" (WK.mSt 2) ["self", "sort"] := by
  obtain ⟨fd, F, b⟩ := l_take_all c
  exact ⟨_, fd, He.cls_ok (c.fact 70 (f := .cls "Lines") rfl), He.meth_ok (c.fact 85 (f := .meth "Lines" "take_all") rfl), F, b⟩
theorem m_takes (c : He.SaysD facts defs K) : WK.MethOf K (He.ga K "Lines") "takes" "Lines.takes" (WK.mSt 3) ["self", "sort", "words"] := by
  obtain ⟨fd, F, b⟩ := l_takes c
  exact ⟨_, fd, He.cls_ok (c.fact 70 (f := .cls "Lines") rfl), He.meth_ok (c.fact 86 (f := .meth "Lines" "takes") rfl), F, b⟩
theorem m_takes_person (c : He.SaysD facts defs K) : WK.MethOf K (He.ga K "Lines") "takes_person" "Lines.takes_person" (WK.mSt 4) ["self", "words"] := by
  obtain ⟨fd, F, b⟩ := l_takes_person c
  exact ⟨_, fd, He.cls_ok (c.fact 70 (f := .cls "Lines") rfl), He.meth_ok (c.fact 87 (f := .meth "Lines" "takes_person") rfl), F, b⟩
theorem m_takes_path (c : He.SaysD facts defs K) : WK.MethOf K (He.ga K "Lines") "takes_path" "Lines.takes_path" (WK.mSt 5) ["self", "words"] := by
  obtain ⟨fd, F, b⟩ := l_takes_path c
  exact ⟨_, fd, He.cls_ok (c.fact 70 (f := .cls "Lines") rfl), He.meth_ok (c.fact 88 (f := .meth "Lines" "takes_path") rfl), F, b⟩
theorem m_takes_right (c : He.SaysD facts defs K) : WK.MethOf K (He.ga K "Lines") "takes_right" "Lines.takes_right" (WK.mSt 6) ["self", "words"] := by
  obtain ⟨fd, F, b⟩ := l_takes_right c
  exact ⟨_, fd, He.cls_ok (c.fact 70 (f := .cls "Lines") rfl), He.meth_ok (c.fact 89 (f := .meth "Lines" "takes_right") rfl), F, b⟩
theorem cst_str (KX : K.In h) (G : h.Ns mainGlobals mg) {x z : Str} (c : (He.Fa.str x z).ok K = true) : WK.Cst mg x (.str z) := by
  obtain ⟨t, e⟩ := He.str_ok KX G c
  exact ⟨_, e, t, rfl⟩
theorem cst_int (KX : K.In h) (G : h.Ns mainGlobals mg) {x : Str} {i : Int} (c : (He.Fa.int x i).ok K = true) : WK.Cst mg x (.int i) := by
  obtain ⟨t, e⟩ := He.int_ok KX G c
  exact ⟨_, e, t, rfl⟩
theorem consts_of (KX : K.In h) (G : h.Ns mainGlobals mg) (c : He.SaysD facts defs K) (ex : exB K = true) : WK.WConsts K mg := by
  obtain ⟨t1, ex⟩ := and2 ex
  obtain ⟨t2, ex⟩ := and2 ex
  obtain ⟨t3, ex⟩ := and2 ex
  exact ⟨⟨⟨cst_str KX G (c.fact 45 rfl), cst_int KX G (c.fact 64 rfl), cst_str KX G (c.fact 46 rfl), cst_str KX G (c.fact 47 rfl), ⟨_, He.glo_ok KX G (c.fact 26 (f := .glo "PATH_SIZES") rfl), fun H => He.tupB_ok t1 H⟩⟩, cst_str KX G (c.fact 48 rfl), cst_str KX G (c.fact 49 rfl), cst_str KX G (c.fact 50 rfl), cst_str KX G (c.fact 51 rfl), cst_str KX G (c.fact 52 rfl), cst_str KX G (c.fact 53 rfl), cst_str KX G (c.fact 54 rfl), cst_str KX G (c.fact 55 rfl), ⟨_, He.glo_ok KX G (c.fact 27 (f := .glo "ATOMS") rfl), fun H => He.tupB_ok t2 H⟩⟩, cst_str KX G (c.fact 56 rfl), cst_str KX G (c.fact 57 rfl), cst_str KX G (c.fact 58 rfl), cst_str KX G (c.fact 59 rfl), cst_str KX G (c.fact 60 rfl), cst_str KX G (c.fact 61 rfl), cst_str KX G (c.fact 62 rfl), cst_str KX G (c.fact 63 rfl), ⟨_, He.glo_ok KX G (c.fact 28 (f := .glo "KINDS") rfl), fun H => He.tupB_ok t3 H⟩, cst_int KX G (c.fact 65 rfl), cst_int KX G (c.fact 66 rfl), cst_int KX G (c.fact 67 rfl), cst_int KX G (c.fact 68 rfl), cst_int KX G (c.fact 69 rfl)⟩
theorem makLines (KX : K.In h) (G : h.Ns mainGlobals mg) (c : He.SaysD facts defs K) : WK.MakOf K mg "Lines" (He.ga K "Lines") "Lines.__init__" (WK.mSt 0) ["self", "text"] := by
  obtain ⟨fd, F, b⟩ := l___init__ c
  exact ⟨_, fd, He.mkr_ok (c.fact 72 (f := .mkr "Lines") rfl), He.glo_ok KX G (c.fact 24 (f := .glo "Lines") rfl), F, b⟩
theorem makWorks (KX : K.In h) (G : h.Ns mainGlobals mg) (c : He.SaysD facts defs K) : WK.MakOf K mg "Works" (He.ga K "Works") "Works.__init__" (WK.wSt 0) ["self", "text"] := by
  obtain ⟨fd, F, b⟩ := k___init__ c
  exact ⟨_, fd, He.mkr_ok (c.fact 73 (f := .mkr "Works") rfl), He.glo_ok KX G (c.fact 25 (f := .glo "Works") rfl), F, b⟩
end
end WL
end
section
set_option Elab.async false
set_option linter.all false
set_option maxRecDepth 100000
set_option maxHeartbeats 1000000
namespace WL
open PySem PySem.Spec PyProof.Rows L2 DL
section
variable {K : PySem.W.Frag} {h : Heap} {mg : Str → Option Value} {w : World} {P : Program} {base : Heap}
theorem freeD (KX : K.In h) (G : h.Ns mainGlobals mg) (c : He.SaysD facts defs K) : DL.Free mg := by
  have B := free_of KX G c
  constructor
  all_goals first | exact He.free_ok KX G (c.fact 92 (f := .free "bool") rfl) | exact He.free_ok KX G (c.fact 93 (f := .free "zip") rfl) | exact He.free_ok KX G (c.fact 94 (f := .free "enumerate") rfl) | exact He.free_ok KX G (c.fact 95 (f := .free "set") rfl) | exact B.isi | exact B.str | exact B.len | exact B.all | exact B.any | exact B.int | exact B.abs | exact B.range | exact B.max | exact B.min | exact B.repr | exact B.tuple | exact B.list | exact B.dict | exact B.sorted | exact B.sum
/-- the reading of works, joined -/
theorem works_mak {CL CW c tab : Addr} (B : WK.Free mg) (C : WK.WConsts K mg) (LC : WK.LinesC K CL) (WC : WK.WorksC K CW) (TB : LamX.TabB base mg c tab) (R : WK.MethTab K CL "takes_rule" "Lines.takes_rule" (WK.mSt 7) ["self", "words"] c)
    (D1 : WK.DefOf K mg "is_name" (WK.top 10) ["value"]) (D2 : WK.DefOf K mg "is_path" (WK.top 11) ["value"]) (D3 : WK.DefOf K mg "is_pattern" (WK.top 12) ["word"]) (PA : WK.Parse K mg)
    (D4 : WK.DefOf K mg "atoms_of" (WK.top 29) ["formula"]) (D5 : WK.DefOf K mg "worth" (WK.top 30) ["formula", "ask"]) (D6 : WK.DefOf K mg "read_lines" (WK.top 47) ["text"])
    (M1 : WK.MethOf K CL "take_all" "Lines.take_all" (WK.mSt 2) ["self", "sort"]) (M2 : WK.MethOf K CL "takes" "Lines.takes" (WK.mSt 3) ["self", "sort", "words"]) (M3 : WK.MethOf K CL "takes_person" "Lines.takes_person" (WK.mSt 4) ["self", "words"]) (M4 : WK.MethOf K CL "takes_path" "Lines.takes_path" (WK.mSt 5) ["self", "words"]) (M5 : WK.MethOf K CL "takes_right" "Lines.takes_right" (WK.mSt 6) ["self", "words"])
    (L : WK.MakOf K mg "Lines" CL "Lines.__init__" (WK.mSt 0) ["self", "text"]) (W : WK.MakOf K mg "Works" CW "Works.__init__" (WK.wSt 0) ["self", "text"]) : WK.Mak2 P w K mg base 61 "Works" CW "Works.__init__" (WK.wSt 0) ["self", "text"] (WK.spWInit K CW tab 8) := by
  have F : WK.FConsts K mg := C.toFConsts
  have G : WK.Forms K mg := F.toForms
  have n1 := WK.ok_name (P := P) (w := w) (base := base) B G D1
  have n2 := WK.ok_path B G D2 n1
  have n3 := WK.ok_pattern B G D3 n1 n2
  have a1 := WK.ok_atom B F PA.atom n1
  have f1 := WK.ok_formulaM B F PA a1 8
  have t1 := WK.ok_atoms (P := P) (w := w) (base := base) F D4 9
  have w1 := WK.ok_worth (P := P) (w := w) (base := base) (j := 1) (val := WK.val0) (ok := fun _ => True) F D5 9
  have r1 := WK.ok_rule (m := 8) (j := 1) B C LC TB R rfl f1 t1 w1
  have p1 := WK.ok_person (T := [(tab, WK.lamQ)]) B C LC M3 n1
  have p2 := WK.ok_tpath (T := [(tab, WK.lamQ)]) B C LC M4 n2
  have p3 := WK.ok_tright (T := [(tab, WK.lamQ)]) B C LC M5 n3
  have k1 := WK.ok_takes (m := 8) C M2 p1 p2 p3 r1
  have k2 := WK.ok_takeall (m := 8) LC M1 k1
  have l1 := WK.ok_lines (P := P) (w := w) (base := base) (tab := tab) B C LC L
  have l2 := WK.ok_read (m := 8) B C LC D6 l1 k2
  exact WK.ok_winit (m := 8) B C LC WC W l2
end
end WL
end
set_option Elab.async false
set_option linter.all false
set_option maxRecDepth 100000
set_option maxHeartbeats 1000000
namespace WL
open PySem PySem.Spec PyProof.Rows L2 DL
section
variable {K : PySem.W.Frag} {h : Heap} {mg : Str → Option Value} {w : World} {P : Program} {base : Heap}
theorem vals_app : ∀ {vs zs : List V} {us ws : List Value}, Vals vs us → Vals zs ws → Vals (vs ++ zs) (us ++ ws)
  | _, _, _, _, .nil, r => r
  | _, _, _, _, .cons a t, r => .cons a (vals_app t r)
theorem kbn_of {f : Addr} {fd : FuncData} (F : Fun K "__init__" "Works.__init__" (WK.wSt 0) f fd) : KBn K fd ["self", "text"] 1 ["text"] (fun a b => a ++ b) (fun a b => a ++ b) := by
  obtain ⟨oc, od, kV, doc, pm, an, cdv, ct, osl, rfl, lk, hcd⟩ := F.ex
  refine ⟨fun s us ws _ l1 l2 => ?_, fun r1 r2 => vals_app r1 r2⟩
  match us, l1, ws, l2 with
  | [x], _, [v], _ => exact .of_eq rfl
theorem prop_of {f q : Str} {st : Stmt} (hB : propB K f q = true) (e : inW K (aG K f) = inV f q st) : PropOf K (aW K) f (aP K f) (aG K f) ∧ ∃ fd, Fun K f q st (aG K f) fd := by
  unfold propB at hB
  obtain ⟨h1, hB⟩ := and2 hB
  obtain ⟨h2, hB⟩ := and2 hB
  obtain ⟨h3, hB⟩ := and2 hB
  obtain ⟨h4, hB⟩ := and2 hB
  obtain ⟨h5, h6⟩ := and2 hB
  refine ⟨⟨He.eqO_ok h1, He.eqO_ok h2, of_decide_eq_true h3, ?_⟩, ?_⟩
  · unfold aG
    split at h4
    · next g rest e1 => rw [e1]; exact ⟨rest, rfl⟩
    · cases h4
  · unfold inW inV at e
    split at h6
    · next oc od fd osl lk =>
      rw [lk] at e
      have e := Option.some.inj e
      obtain ⟨nm, qual, params, body, scope, gl, clo, dV, kV, doc, pm, an, cd, ct, bu⟩ := fd
      simp only [Prod.mk.injEq] at e
      obtain ⟨rfl, rfl, rfl, rfl, rfl, rfl, rfl, rfl⟩ := e
      obtain ⟨k1, k2⟩ := and2 h6
      dsimp only at k1 k2
      have ed : dV = .none := by cases dV <;> first | rfl | cases k2
      subst ed
      exact ⟨_, ⟨⟨oc, od, kV, doc, pm, an, cd, ct, osl, rfl, lk, k1⟩, h5⟩⟩
    · cases h6
theorem rule_tab (c : He.SaysD facts defs K) : WK.MethTab K (He.ga K "Lines") "takes_rule" "Lines.takes_rule" (WK.mSt 7) ["self", "words"] (He.codeOf K ("Lines", some "takes_rule")) := by
  obtain ⟨fd, F, b⟩ := l_takes_rule c
  obtain ⟨oc, od, kV, doc, pm, an, cdv, ct, osl, e, lk, hcd⟩ := id F.ex
  obtain ⟨cc, rfl⟩ := He.codeIn_ref hcd
  have ec : fd.code = .ref cc := by rw [e]
  refine ⟨_, fd, He.cls_ok (c.fact 70 (f := .cls "Lines") rfl), He.meth_ok (c.fact 90 (f := .meth "Lines" "takes_rule") rfl), F, b, ?_⟩
  rw [ec, He.codeOf_eq (p := ("Lines", some "takes_rule")) lk ec]
theorem isi_of (KX : K.In h) (G : h.Ns mainGlobals mg) (c : He.SaysD facts defs K) (hB : isiB K = true) : WorksI K mg (He.ga K "Works") ∧ PySem.W.notFirst K (He.ga K "Works") (.type "str") = true := by
  unfold isiB at hB
  obtain ⟨h1, hB⟩ := and2 hB
  obtain ⟨h2, hB⟩ := and2 hB
  obtain ⟨h3, hB⟩ := and2 hB
  obtain ⟨h4, hB⟩ := and2 hB
  obtain ⟨h5, h6⟩ := and2 hB
  exact ⟨⟨He.glo_ok KX G (c.fact 25 (f := .glo "Works") rfl), He.eqO_ok h1, He.eqO_ok h2, of_decide_eq_true h3, of_decide_eq_true h4, of_decide_eq_true h5⟩, h6⟩
theorem law_of {f : Addr} (KX : K.In h) (G : h.Ns mainGlobals mg) (c : He.SaysX facts defs [] tf exB w h K) (iw : insW K = insV) (hf : mg ("law" : Str) = some (.ref f)) :
    ∃ (fd : FuncData) (cd tab : Addr), h.get? tab = some noTab ∧ K.lookup tab = none ∧ PySem.W.CodeHd h cd tab ∧ (∀ (s : Shared) (v : Value), BindsTo s fd ⟨[v], []⟩ [("_law_script", v)]) ∧
      ∀ base : Heap, K.In base → base.Ns mainGlobals mg → LamX.TabB base mg cd tab → FnX theRow.prog w K mg base 64 f fd ["_law_script"] (spLaw K tab) := by
  have d := c.t.d
  have pm : (("Lines", some "takes_rule") : He.Defn) ∈ tf := List.mem_singleton.mpr rfl
  obtain ⟨fdL, FL⟩ := d.def_ 23 (d := dOf "law" 62) rfl
  have gL := He.glo_ok KX G (d.fact 23 (f := .glo "law") rfl)
  have e := hf.symm.trans gL
  cases e
  have bL := FunD.bindsA (ps := ["_law_script"]) FL fun _ _ _ _ _ _ us hl => match us, hl with | [_], _ => rfl
  refine ⟨fdL, (He.cT K ("Lines", some "takes_rule")).1, (He.cT K ("Lines", some "takes_rule")).2, c.empty _ pm, c.out _ pm, PySem.W.codeHd_of_K KX (c.hd _ pm), fun s v => bL s [v] rfl, fun base KB GB TB => ?_⟩
  have ex := c.more
  have C := consts_of KX G d ex
  unfold exB at ex
  obtain ⟨_, ex⟩ := and2 ex
  obtain ⟨_, ex⟩ := and2 ex
  obtain ⟨_, ex⟩ := and2 ex
  obtain ⟨x1, ex⟩ := and2 ex
  obtain ⟨x2, ex⟩ := and2 ex
  obtain ⟨x3, x4⟩ := and2 ex
  unfold insW insV at iw
  simp only [List.cons.injEq, and_true] at iw
  obtain ⟨i1, i2, i3⟩ := iw
  have B := free_of KX G d
  have BD := freeD KX G d
  have LC := lines_of d
  have WC := worksC_of d
  obtain ⟨WI, NF⟩ := isi_of KX G d x4
  have PA : WK.Parse K mg := ⟨w_formula_in KX G d, w_side_in KX G d, w_all_in KX G d, w_joined_in KX G d, w_one_in KX G d, w_atom_in KX G d⟩
  have MK := works_mak (P := theRow.prog) (w := w) (base := base) B C LC WC TB (rule_tab d) (w_is_name KX G d) (w_is_path KX G d) (w_is_pattern KX G d) PA (w_atoms_of KX G d) (w_worth KX G d) (w_read_lines KX G d) (m_take_all d) (m_takes d) (m_takes_person d) (m_takes_path d) (m_takes_right d) (makLines KX G d) (makWorks KX G d)
  obtain ⟨fI, fdI, mkI, fnI, mgI, FI, bI⟩ := MK.ex
  obtain ⟨fdE, FE, bE⟩ := k___eq__ d
  obtain ⟨q1, q2⟩ := and2 (d.fact 91 (f := .meth "Works" "__eq__") rfl)
  obtain ⟨q2, q3⟩ := and2 q2
  obtain ⟨r1, fd1, F1⟩ := prop_of x1 i1
  obtain ⟨r2, fd2, F2⟩ := prop_of x2 i2
  obtain ⟨r3, fd3, F3⟩ := prop_of x3 i3
  have W : WorksOk theRow.prog w K mg base (He.ga K "Works") (He.cT K ("Lines", some "takes_rule")).2 :=
    ⟨WC, MK.mak, ⟨fI, fdI, ["self", "text"], mkI, fnI, mgI, kbn_of FI⟩, ⟨_, fdE, ["self", "other"], ok_eqW B WC WI FE, He.eqO_ok q1, q2, bE, NF⟩,
      ⟨_, _, fd1, ["self"], r1, ok_persons WC F1, F1.binds fun _ _ _ _ _ _ us hl => match us, hl with | [_], _ => rfl⟩,
      ⟨_, _, fd2, ["self"], r2, ok_paths B WC F2, F2.binds fun _ _ _ _ _ _ us hl => match us, hl with | [_], _ => rfl⟩,
      ⟨_, _, fd3, ["self"], r3, ok_rulesP B WC F3, F3.binds fun _ _ _ _ _ _ us hl => match us, hl with | [_], _ => rfl⟩⟩
  obtain ⟨fT, fdT, FT, mT, bT⟩ := (w__law_take KX G d).ex
  have T : DL.Def theRow.prog w K mg base 1 "_law_take" 2 wTake := defTake ⟨fT, fdT, _, [], WK.ok_take FT B.int, mT, FT.kp, bT, .nil⟩
  have LD : LDefs K mg := ⟨d__law_of KX G d, d__law_atom KX G d, d__law_drawn_formula KX G d, d__law_true KX G d, d__law_rules KX G d, d__law_wide_lore KX G d, d__law_ones KX G d, d__law_page KX G d, d__law_right KX G d⟩
  obtain ⟨fR, fdR, psR, FR, mR, kR, bR⟩ := okRight BD LD W T
  obtain ⟨fP, fdP, FP, mP, bP⟩ := (d__law_pot_of KX G d).ex
  exact ok_law (fun_of FL) (WK.ok_potOf FP B.int B.abs B.len) bP mP FP.kp (FR.imp fun vs H Q E z => right_heap vs H Q E z) bR mR kR BD
end
end WL
open PySem PySem.W PySem.Calls PyProof.Rows
set_option maxHeartbeats 0 in
theorem PySem.Challenge.cw_thinnedpast_k01_works_read_holds : PySem.Challenge.rw_thinnedpast_k01_works_read.Holds := by
  w_on; o_law
  refine HandSHeadRun.head_any (r := WL.theRow) (q := view WL.theRow.prog [62]) (H := WL.hook) (ob := WL.ob) (M := 12000) (loose := WL.loose) (d := HandSHeadRun.topDef WL.theRow.prog 62) (kwd := []) WL.ob_eq
    (by kernel_rfl) (fun s => by kernel_rfl) WL.run (by kernel_rfl) (by kernel_rfl) (by kernel_rfl) (by rfl) (by first | assumption | decide +kernel) (by decide +kernel) ⟨rfl, rfl, rfl, rfl, rfl, by decide +kernel⟩ ?hw ?hc
  case hw => w_witness2
  case hc =>
    refine DL.walk_ofX (l := PySem.Challenge.rw_thinnedpast_k01_works_read) (n := 63) (k := 64) (x := "_law_script") rfl (by decide) (by kernel_rfl) ⟨rfl, by decide, by decide⟩ ?F
    intro w mg fa h Y G hmg0
    obtain ⟨K, KX, c, iw⟩ := Y
    have hmg : mg ("law" : PySem.Str) = some (.ref fa) := by
      have e : (HandSHeadRun.topDef WL.theRow.prog 62).name = ("law" : PySem.Str) := by kernel_rfl
      rw [← e]
      exact hmg0
    obtain ⟨fd, cd, tab, t1, t2, t3, hb, hF⟩ := WL.law_of (w := w) KX G c iw hmg
    exact ⟨K, fd, cd, tab, WL.spLaw K tab, KX, t1, t2, t3, hb, fun H a ns hl hT hS => ⟨a, ns, rfl, hS, hl, fun p hp => by rw [List.mem_singleton.mp hp]; exact LamX.TabS.nil hT, fun _ => rfl⟩, hF⟩
