import PyProof.Rows.All
import Wide.All
import OpenK.AllK
import Wide.FinOn
import HandS.ForMost
import HandS.Wide
import HandS.WideBits
import HandS.Defaults
import HandS.Flow
import HandS.Style
import HandS.IsInst
import HandS.ExcInit
import HandS.Exc
import KE.KExcSuper
import HandS.ExcIs
import HandS.ExcField
import HandS.ExcValue
import KE.KExcIs
import PyProof.ReprRoads
import HandS.Evl
import HandS.HeadEnd
import HandS.HeadHook1
import HandS.Dict
import HandS.Head0
import HandS.Head1
import HandS.Head2
import HandS.HeadHook2
import PySem.Challenge.RW_everpurse_k01_errors_made
set_option Elab.async false
set_option linter.all false
set_option maxRecDepth 100000
set_option maxHeartbeats 0
namespace EV
open PySem L2
def top (i : Nat) : Stmt := PySem.Challenge.pw_everpurse_k01_errors_made.main.body.getD i (.Pass ⟨0, 0, 0, 0⟩)
abbrev s_purse : Stmt := top 34
abbrev s_mixed : Stmt := top 35
abbrev s_draw : Stmt := top 36
abbrev s_purses : Stmt := top 37
abbrev s_one_of : Stmt := top 38
abbrev s_word : Stmt := top 39
abbrev FnP (K : PySem.W.Frag) (x : Str) (st : Stmt) (f : Addr) (fd : FuncData) : Prop := FunD K x x (defArgs st) (defBody st) (defScope st) [] [] f fd
/-- a power of great ints -/
def CPowX (i j : Int) : Prop := 0 ≤ j ∧ (Builtin.Int.intBits i : Int) * j ≤ 2 ^ 27
theorem op_powX {X : Cx} : OpR X (binaryOp .Pow) (rI CPowX fun i j => .int (i ^ j.toNat)) := opI fun _ _ _ _ _ _ _ hc q => PyProof.Rows.pow_int hc.1 hc.2 q
/-! ### the harness -/
section
variable {P : Program} {w : World} {K : PySem.W.Frag} {mg : Str → Option Value} {base : Heap} {f : Addr} {fd : FuncData}
theorem sc_mixed : FnScope ["seed", "turn", "at", "mixed"] ["seed", "turn", "at"] (defScope s_mixed) := ⟨rfl, rfl, rfl, by decide +kernel, rfl, by decide +kernel, by decide +kernel⟩
def sp_mixed : Sp := fun vs H Q _ => ∃ (a b c : Int), vs = [.int a, .int b, .int c] ∧ (-(2 ^ 40) < b ∧ b < 2 ^ 40) ∧ ∀ r : Int, 0 ≤ r → r < 2147483587 → Q (.int r) H
theorem ok_mixed (F : FnP K "_law_mixed" s_mixed f fd) (gI : mg "int" = none) : FnOk P w K mg base CX0 1 f fd ["seed", "turn", "at"] sp_mixed := by
  refine F.ok sc_mixed (fun vs H Q E h => ?_) (fun cdv A outer s H vs Q E hr h => ?_)
  · obtain ⟨a, b, c, rfl, _⟩ := h
    rfl
  · obtain ⟨a, b, c, rfl, hb, k⟩ := h
    refine ⟨_, PSs.nox (pss_cons (ps_set (i := 3) sc_mixed.nd rfl (Or.inl rfl) (pe_op op_add (pe_op op_mul (pv 0) pe_int) (pe_op op_mul (pe_op op_mul pe_int (pv 1)) (pv 1))))
      (pss_cons (ps_set (i := 3) sc_mixed.nd rfl (Or.inl rfl) (pe_op op_mod (pe_callTy call_int1 (by rfl) gI (by decide +kernel) (pa_cons (pe_op op_add (pe_op op_add (pv 3) (pe_op op_mul pe_int (pv 2))) (pv 1)) pa_nil)) pe_int))
      (pss_cons (ps_set (i := 3) sc_mixed.nd rfl (Or.inl rfl) (pe_op op_mod (pe_callTy call_int1 (by rfl) gI (by decide +kernel) (pa_cons (pe_op op_add (pe_op op_mul (pv 3) (pv 3)) pe_int) pa_nil)) pe_int))
      (pss_one (ps_ret (pe_op op_mod (pe_callTy call_int1 (by rfl) gI (by decide +kernel) (pa_cons (pe_op op_mul (pv 3) pe_int) pa_nil)) pe_int)))))), ?_⟩
    refine ⟨_, rfl, _, _, rfl, rfl, .inr ⟨by decide, by decide⟩, _, rfl, _, _, rfl, rfl, .inl ⟨by decide, by decide⟩, _, rfl, _, _, rfl, rfl, .inr ⟨by omega, by omega⟩, _, _, rfl, rfl, ?_⟩
    refine ⟨_, rfl, _, rfl, _, _, rfl, rfl, .inl ⟨by decide, by decide⟩, _, _, rfl, rfl, _, rfl, _, _, rfl, rfl, .inl ⟨_, rfl, _, _, rfl, rfl, (by show (0 : Int) < 2147483647; decide), ?_⟩⟩
    generalize hm : (a * 69069 + 104729 * b * b + 7919 * c + b) % 2147483647 = m
    have h0 : 0 ≤ m := by rw [← hm]; exact Int.emod_nonneg _ (by decide)
    have h1 : m < 2147483647 := by rw [← hm]; exact Int.emod_lt_of_pos _ (by decide)
    refine ⟨_, rfl, _, rfl, _, _, rfl, rfl, .inl ⟨by omega, by omega⟩, _, _, rfl, rfl, .inl ⟨_, rfl, _, _, rfl, rfl, (by show (0 : Int) < 2147483629; decide), ?_⟩⟩
    generalize hm2 : (m * m + 40503) % 2147483629 = m2
    have h2 : 0 ≤ m2 := by rw [← hm2]; exact Int.emod_nonneg _ (by decide)
    have h3 : m2 < 2147483629 := by rw [← hm2]; exact Int.emod_lt_of_pos _ (by decide)
    refine ⟨_, rfl, _, _, rfl, rfl, .inl ⟨by omega, by omega⟩, .inl ⟨_, rfl, _, _, rfl, rfl, (by show (0 : Int) < 2147483587; decide), ?_⟩⟩
    exact k _ (Int.emod_nonneg _ (by decide)) (Int.emod_lt_of_pos _ (by decide))
/-- a purse of draws -/
def PurseAt (H : Hp) (p : Addr) (a b c d : Int) : Prop := H p = some (.lst [.int a, .int b, .int c, .int d]) ∧ 0 ≤ a ∧ 0 ≤ b ∧ b < 2147483629 ∧ 0 ≤ c
theorem sc_draw : FnScope ["purse", "many", "drawn", "found", "piece"] ["purse", "many"] (defScope s_draw) := ⟨rfl, rfl, rfl, by decide +kernel, rfl, by decide +kernel, by decide +kernel⟩
def sp_draw : Sp := fun vs H Q _ => ∃ (p : Addr) (m a b c d : Int), vs = [.ref p, .int m] ∧ PurseAt H p a b c d ∧ c < 1000000000 ∧ 0 < m ∧ m < 134217728 ∧
  ∀ r a' c' : Int, 0 ≤ r → r < m → c' ≤ c + 1 → PurseAt (upd H p (.lst [.int a', .int b, .int c', .int d])) p a' b c' d → Q (.int r) (upd H p (.lst [.int a', .int b, .int c', .int d]))
theorem bits_small {m : Int} (h0 : 0 < m) (h : m < 134217728) : ((Builtin.Int.intBits m : Nat) : Int) / 28 = 0 := by
  have e : Builtin.Int.intBits m = m.natAbs.log2 + 1 := by
    unfold Builtin.Int.intBits
    rw [if_neg (by simp; omega)]
  have h1 : m.natAbs.log2 < 27 := (Nat.log2_lt (by omega)).mpr (by omega)
  rw [e]
  omega
theorem ok_draw (F : FnP K "_law_draw" s_draw f fd) (gI : mg "int" = none) (gR : mg "range" = none) {fM : Addr} {fdM : FuncData} (FM : FnP K "_law_mixed" s_mixed fM fdM) (gM : mg "_law_mixed" = some (.ref fM)) : FnOk P w K mg base CX0 2 f fd ["purse", "many"] sp_draw := by
  have GM : FnOk P w K mg base CX0 1 fM fdM ["seed", "turn", "at"] sp_mixed := ok_mixed FM gI
  have bM : Binds K fdM ["seed", "turn", "at"] [] := FM.bindsN fun _ _ _ _ _ _ us hl => match us, hl with | [_, _, _], _ => rfl
  refine F.ok sc_draw (fun vs H Q E h => ?_) (fun cdv A outer s H vs Q E hr h => ?_)
  · obtain ⟨p, m, a, b, c, d, rfl, _⟩ := h
    rfl
  · obtain ⟨p, m, a, b, c, d, rfl, ⟨hp, ha, hb, hb2, hc⟩, hc2, hm, hm2, k⟩ := h
    refine ⟨_, PSs.nox (pss_cons (ps_if (pt_cmpR op_gt (pe_ix ix_list (pv 0) pe_int (fun _ _ => rfl)) pe_int (nomark _))
        (pss_cons (ps_set (i := 2) sc_draw.nd rfl (Or.inl rfl) (pe_op op_mod (pe_callTy call_int1 (by rfl) gI (by decide +kernel) (pa_cons (pe_ix ix_list (pv 0) pe_int (fun _ _ => rfl)) pa_nil)) (pv 1)))
        (pss_cons (ps_asg (pe_op op_fdiv (pe_ix ix_list (pv 0) pe_int (fun _ _ => rfl)) (pv 1)) (pg_sub (pv 0) pe_int set_list))
        (pss_one (ps_ret (pv 2))))) pss_nil)
      (pss_cons (ps_set (i := 3) sc_draw.nd rfl (Or.inl rfl) pe_int)
      (pss_cons (ps_for PassesOwn.never rfl (pi_range1 rfl gR (pa_cons (pe_op op_add pe_int (pe_op op_fdiv (pe_bits (pv 1)) pe_int)) pa_nil)) (pg_name (i := 4) sc_draw.nd rfl (Or.inl rfl))
        (pss_cons (ps_asg (pe_op op_add (pe_ix ix_list (pv 0) pe_int (fun _ _ => rfl)) pe_int) (pg_sub (pv 0) pe_int set_list))
        (pss_one (ps_set (i := 3) sc_draw.nd rfl (Or.inl rfl) (pe_op op_add (pe_op op_mul (pv 3) pe_int)
          (pe_call GM hr rfl gM FM.kp bM .nil pass0 (pa_cons (pe_ix ix_list (pv 0) pe_int (fun _ _ => rfl)) (pa_cons (pe_ix ix_list (pv 0) pe_int (fun _ _ => rfl)) (pa_cons (pe_ix ix_list (pv 0) pe_int (fun _ _ => rfl)) pa_nil)))))))))
      (pss_one (ps_ret (pe_op op_mod (pe_callTy call_int1 (by rfl) gI (by decide +kernel) (pa_cons (pv 3) pa_nil)) (pv 1))))))), ?_⟩
    refine ⟨_, rfl, p, _, _, _, rfl, rfl, SqL.of hp, rfl, _, _, rfl, rfl, _, rfl, ?_⟩
    refine ite2 (fun hpos => ?_) (fun hneg => ?_)
    · have ha0 : 0 < a := of_decide_eq_true hpos
      refine ⟨_, rfl, p, _, _, _, rfl, rfl, SqL.of hp, rfl, .inl ⟨_, rfl, _, rfl, _, _, rfl, rfl, hm, ?_⟩⟩
      refine ⟨_, rfl, p, _, _, _, rfl, rfl, SqL.of hp, rfl, _, rfl, _, _, rfl, rfl, ⟨hm, by omega⟩, _, rfl, p, _, _, _, rfl, rfl, hp, rfl, ?_⟩
      refine ⟨_, rfl, ?_⟩
      refine k _ _ c (Int.emod_nonneg _ (by omega)) (Int.emod_lt_of_pos _ hm) (by omega) ⟨upd_same, Int.ediv_nonneg ha (by omega), hb, hb2, hc⟩
    · refine ⟨_, rfl, _, rfl, _, _, rfl, rfl, ⟨by decide, by decide⟩, _, _, rfl, rfl, _, rfl, (by rw [bits_small hm hm2]; decide), (by rw [bits_small hm hm2]; decide), ?_⟩
      rw [bits_small hm hm2]
      refine for_range (n := 1) (fun i σ H' => ∃ (v : Option V) (z : Int), σ = [some (.ref p), some (.int m), none, some (.int z), v] ∧ 0 ≤ z ∧ ((i = 0 ∧ H' = H) ∨ (i = 1 ∧ H' = upd H p (.lst [.int a, .int b, .int (c + 1), .int d]))))
        ⟨none, 0, rfl, Int.le_refl _, .inl ⟨rfl, rfl⟩⟩ ?_ ?_
      · rintro i σ H' hi ⟨v, z, rfl, hz, ⟨rfl, rfl⟩ | ⟨rfl, rfl⟩⟩
        · refine ⟨_, rfl, p, _, _, _, rfl, rfl, SqL.of hp, rfl, _, _, rfl, rfl, _, rfl, p, _, _, _, rfl, rfl, hp, rfl, ?_⟩
          refine ⟨_, rfl, _, _, rfl, rfl, .inr ⟨by decide, by decide⟩, _, rfl, p, _, _, _, rfl, rfl, SqL.of upd_same, rfl, _, rfl, p, _, _, _, rfl, rfl, SqL.of upd_same, rfl, _, rfl, p, _, _, _, rfl, rfl, SqL.of upd_same, rfl, ?_⟩
          refine ⟨_, _, _, rfl, ⟨by omega, by omega⟩, fun r hr0 hr1 => ?_⟩
          refine ⟨_, _, rfl, rfl, ?_⟩
          exact ⟨_, _, rfl, by omega, .inr ⟨rfl, rfl⟩⟩
        · omega
      · rintro σ H' ⟨v, z, rfl, hz, ⟨e, rfl⟩ | ⟨_, rfl⟩⟩
        · cases e
        · refine ⟨_, rfl, .inl ⟨_, rfl, _, rfl, _, _, rfl, rfl, hm, ?_⟩⟩
          exact k _ a (c + 1) (Int.emod_nonneg _ (by omega)) (Int.emod_lt_of_pos _ hm) (Int.le_refl _) ⟨upd_same, ha, hb, hb2, by omega⟩
/-- all but the object at p stands -/
def But (p : Addr) (H H' : Hp) : Prop := ∀ b o, H b = some o → b ≠ p → H' b = some o
theorem But.refl (p : Addr) (H : Hp) : But p H H := fun _ _ e _ => e
theorem But.trans {p : Addr} {H H1 H2 : Hp} (a : But p H H1) (b : But p H1 H2) : But p H H2 := fun x o e n => b x o (a x o e n) n
theorem But.put {p : Addr} {H : Hp} {o : HO} : But p H (upd H p o) := fun b u e n => by
  rw [upd_ne n]
  exact e
theorem But.new {p q : Addr} {H : Hp} {o : HO} (h : H q = none) : But p H (upd H q o) := fun b u e _ => by
  rw [upd_ne (ne_of_none e h)]
  exact e
theorem But.same {p : Addr} {H H' : Hp} (s : Same H H') : But p H H' := fun b o e _ => s b o e
/-- behind at most k draws -/
def Drew (p : Addr) (b d c k : Int) (H H' : Hp) : Prop := ∃ a' c', PurseAt H' p a' b c' d ∧ c' ≤ c + k ∧ But p H H'
/-- ahead of draws -/
def PurseIn (p : Addr) (b d c : Int) (H : Hp) : Prop := ∃ a, PurseAt H p a b c d
theorem PurseAt.upd_new {p q : Addr} {H : Hp} {o : HO} {a b c d : Int} (h : PurseAt H p a b c d) (hq : H q = none) : PurseAt (upd H q o) p a b c d := ⟨by rw [upd_ne (ne_of_none h.1 hq)]; exact h.1, h.2⟩
theorem sc_purse : FnScope ["script", "at", "seed"] ["script", "at"] (defScope s_purse) := ⟨rfl, rfl, rfl, by decide +kernel, rfl, by decide +kernel, by decide +kernel⟩
def sp_purse (K : PySem.W.Frag) : Sp := fun vs H Q _ => ∃ (s : Addr) (ns : List Int) (i : Int), vs = [.ref s, .int i] ∧ SqL K H s (ns.map V.int) ∧
  ∀ (p q : Addr) (o : HO) (a b : Int), H q = none → upd H q o p = none → PurseAt (upd (upd H q o) p (.lst [.int a, .int b, .int 0, .int i])) p a b 0 i → Q (.ref p) (upd (upd H q o) p (.lst [.int a, .int b, .int 0, .int i]))
theorem cutV_ints (ns : List Int) (lo hi : Option Int) : ∃ ms : List Int, cutV (ns.map V.int) lo hi = ms.map V.int := ⟨(ns.drop (HT.sIx (ns.map V.int).length 0 lo)).take (HT.sIx (ns.map V.int).length (ns.map V.int).length hi - HT.sIx (ns.map V.int).length 0 lo), by
  unfold cutV
  rw [List.map_take, List.map_drop]⟩
theorem bits60 : CPowX (10 ^ 60) 8 := ⟨by decide, by decide +kernel⟩
theorem ok_purse (F : FnP K "_law_purse" s_purse f fd) (gI : mg "int" = none) (gS : mg "sum" = none) (gM : mg "max" = none) : FnOk P w K mg base CX0 1 f fd ["script", "at"] (sp_purse K) := by
  refine F.ok sc_purse (fun vs H Q E h => ?_) (fun cdv A outer s H vs Q E hr h => ?_)
  · obtain ⟨s, ns, i, rfl, _⟩ := h
    rfl
  · obtain ⟨sa, ns, i, rfl, hs, k⟩ := h
    refine ⟨_, PSs.nox (pss_cons (ps_set (i := 2) sc_purse.nd rfl (Or.inl rfl) (pe_callB (cr_sum rfl) (by rfl) gS (by decide +kernel) (pa_cons (pe_slice sl_list (pv 0) (po_some (pv 1)) (po_some (pe_op op_add (pv 1) pe_int))) pa_nil)))
      (pss_one (ps_ret (pe_lst (pa_cons (pe_op op_mod (pe_callTy call_int1 (by rfl) gI (by decide +kernel) (pa_cons (pe_callB (call_max2 rfl) (by rfl) gM (by decide +kernel) (pa_cons (pe_op op_sub (pv 2) (pe_op op_pow pe_int pe_int)) (pa_cons pe_int pa_nil))) pa_nil)) (pe_op op_powX (pe_op op_pow pe_int pe_int) pe_int))
        (pa_cons (pe_op op_mod (pe_callTy call_int1 (by rfl) gI (by decide +kernel) (pa_cons (pv 2) pa_nil)) pe_int) (pa_cons pe_int (pa_cons (pv 1) pa_nil)))))))), ?_⟩
    refine ⟨_, rfl, _, rfl, _, rfl, _, rfl, _, _, rfl, rfl, _, rfl, sa, _, rfl, hs, fun q hq => ?_⟩
    obtain ⟨ms, em⟩ := cutV_ints ns (some i) (some (i + 1))
    rw [em]
    refine ⟨q, ms, rfl, SqL.of upd_same, ?_⟩
    refine ⟨_, rfl, _, _, rfl, rfl, ⟨by decide, by decide, by decide⟩, _, _, rfl, rfl, _, _, rfl, .inl ⟨_, rfl, _, _, rfl, rfl, ⟨by decide, by decide, by decide⟩, _, _, rfl, rfl, bits60, _, _, rfl, rfl, ?_, ?_⟩⟩
    · show (0 : Int) < (10 ^ (60 : Int).toNat) ^ (8 : Int).toNat
      decide +kernel
    · refine ⟨_, rfl, .inl ⟨_, rfl, _, _, rfl, rfl, (by show (0 : Int) < 2147483629; decide), _, rfl, (by show 4 ≤ sizeLine; decide), fun p hp => ?_⟩⟩
      exact k p q _ _ _ hq hp ⟨upd_same, Int.emod_nonneg _ (by decide +kernel), Int.emod_nonneg _ (by decide), Int.emod_lt_of_pos _ (by decide), Int.le_refl _⟩
theorem sc_purses : FnScope ["script", "few", "at"] ["script", "few"] (defScope s_purses) := ⟨rfl, rfl, rfl, by decide +kernel, rfl, by decide +kernel, by decide +kernel⟩
/-- a row of purses, apart -/
def PursesAt (H : Hp) (ps : List Addr) : Prop := ps.Nodup ∧ ∀ p ∈ ps, ∃ a b c d, PurseAt H p a b c d ∧ c = 0
def sp_purses (K : PySem.W.Frag) : Sp := fun vs H Q _ => ∃ (s : Addr) (ns : List Int) (m : Int), vs = [.ref s, .int m] ∧ SqL K H s (ns.map V.int) ∧ ns.length ≤ 63 ∧ m ≤ 10 ∧
  ∀ (ps : List Addr) (l : Addr) (H' : Hp), ps.length ≤ 10 → PursesAt H' ps → (∀ p ∈ ps, H p = none) → l ∉ ps → H l = none → Same H H' → H' l = some (.lst (ps.map V.ref)) → Q (.ref l) H'
theorem ok_purses (F : FnP K "_law_purses" s_purses f fd) (gR : mg "range" = none) (gI : mg "int" = none) (gS : mg "sum" = none) (gM : mg "max" = none) (gN : mg "min" = none) (gL : mg "len" = none) {fM : Addr} {fdM : FuncData} (FM : FnP K "_law_purse" s_purse fM fdM) (gP : mg "_law_purse" = some (.ref fM)) :
    FnOk P w K mg base CX0 2 f fd ["script", "few"] (sp_purses K) := by
  have GM : FnOk P w K mg base CX0 1 fM fdM ["script", "at"] (sp_purse K) := ok_purse FM gI gS gM
  have bM : Binds K fdM ["script", "at"] [] := FM.bindsN fun _ _ _ _ _ _ us hl => match us, hl with | [_, _], _ => rfl
  refine F.ok sc_purses (fun vs H Q E h => ?_) (fun cdv A outer s H vs Q E hr h => ?_)
  · obtain ⟨s, ns, i, rfl, _⟩ := h
    rfl
  · obtain ⟨sa, ns, m, rfl, hs, hlen, hm, k⟩ := h
    refine ⟨_, PSs.nox (pss_one (ps_ret (pe_lc (own := [("at", 2)]) (g := gName 2) (tt := tYes) rfl sc_purses.nd
      (pi_range1 rfl gR (pa_cons (pe_callB (call_max2 rfl) (by rfl) gM (by decide +kernel) (pa_cons pe_int (pa_cons (pe_callB (call_min2 rfl) (by rfl) gN (by decide +kernel) (pa_cons (pv 1) (pa_cons (pe_callB call_len (by rfl) gL (by decide +kernel) (pa_cons (pv 0) pa_nil)) pa_nil))) pa_nil))) pa_nil))
      (blkOk_by (N := ["script", "few", "at"]) (sc := defScope s_purses) (by decide +kernel)) (fun _ _ _ _ _ => pg_name (i := 2) sc_purses.nd rfl (Or.inl rfl)) (fun _ _ _ _ _ => pts_nil)
      (fun _ _ _ _ _ => pe_call GM hr rfl gP FM.kp bM .nil pass0 (pa_cons (pv 0) (pa_cons (pv 2) pa_nil)))))), ?_⟩
    have e63 : (ns.map V.int).length ≤ 63 := by rw [List.length_map]; exact hlen
    generalize hn : ((ns.map V.int).length : Nat) = n at e63
    refine ⟨_, rfl, _, rfl, _, n, rfl, .inl ⟨_, hs, hn.symm⟩, _, _, rfl, _, _, rfl, _, rfl, ?_⟩
    generalize hj : (if (if (n : Int) < m then (n : Int) else m) > 1 then (if (n : Int) < m then (n : Int) else m) else 1) = j
    have hj1 : 1 ≤ j ∧ j ≤ 10 := by
      rw [← hj]
      split <;> split <;> omega
    refine ⟨by omega, by omega, fun D hD => ?_⟩
    refine lc_range (n := j.toNat) (fun i H' => ∃ ps : List Addr, ps.length = i ∧ PursesAt H' ps ∧ (∀ p ∈ ps, H p = none) ∧ D ∉ ps ∧ Same H H' ∧ H' D = some (.lst (ps.map V.ref)))
      ⟨[], rfl, ⟨List.nodup_nil, by simp⟩, by simp, by simp, fun b o e => by rw [upd_ne (ne_of_none e hD)]; exact e, upd_same⟩ ?_ ?_
    · rintro i H' hi ⟨ps, hl, hP, hf, hD2, hS, hd⟩
      refine ⟨rfl, ?_⟩
      refine ⟨_, rfl, _, rfl, sa, ns, _, rfl, hS.seq hs, fun p q o a b hq hp PA => ?_⟩
      have hp' : H' p = none := by
        by_cases e : p = q
        · rw [e]; exact hq
        · rw [upd_ne e] at hp; exact hp
      have hqD : D ≠ q := fun e => by rw [← e, hd] at hq; cases hq
      have hpD : D ≠ p := fun e => by rw [← e, hd] at hp'; cases hp'
      have hpin : p ∉ ps := fun e => by
        obtain ⟨a, b, c, d, h1, _⟩ := hP.2 p e
        rw [h1.1] at hp'; cases hp'
      refine ⟨ps.map V.ref, by rw [upd_ne hpD, upd_ne hqD]; exact hd, by rw [List.length_map, hl]; exact Nat.lt_of_lt_of_le hi (by rw [PySem.sizeLine_eq]; omega), ps ++ [p], by rw [List.length_append, hl]; rfl, ⟨?_, ?_⟩, ?_, ?_, ?_, ?_⟩
      · rw [List.nodup_append]
        exact ⟨hP.1, by simp, fun x hx y hy e => hpin (by rw [List.mem_singleton] at hy; rw [← hy, ← e]; exact hx)⟩
      · intro x hx
        rcases List.mem_append.mp hx with hx | hx
        · obtain ⟨a, b, c, d, h1, h2⟩ := hP.2 x hx
          have xp : x ≠ p := fun e => hpin (e ▸ hx)
          have xq : x ≠ q := fun e => by rw [e] at h1; have z := h1.1; rw [hq] at z; cases z
          have xD : x ≠ D := fun e => hD2 (e ▸ hx)
          exact ⟨a, b, c, d, ⟨by rw [upd_ne xD, upd_ne xp, upd_ne xq]; exact h1.1, h1.2⟩, h2⟩
        · rw [List.mem_singleton] at hx
          subst hx
          exact ⟨_, _, _, _, ⟨by rw [upd_ne hpD.symm]; exact PA.1, PA.2⟩, rfl⟩
      · intro x hx
        rcases List.mem_append.mp hx with hx | hx
        · exact hf x hx
        · rw [List.mem_singleton] at hx
          subst hx
          exact hS.free hp'
      · intro e
        rcases List.mem_append.mp e with e | e
        · exact hD2 e
        · rw [List.mem_singleton] at e
          exact hpD e
      · intro b u e
        have bD : b ≠ D := fun z => by rw [z, hD] at e; cases e
        rw [upd_ne bD, upd_ne (ne_of_none (hS b u e) hp'), upd_ne (ne_of_none (hS b u e) hq)]
        exact hS b u e
      · rw [upd_same, List.map_append]
        rfl
    · rintro H' ⟨ps, hl, hP, hf, hD2, hS, hd⟩
      exact k ps D H' (by omega) hP hf hD2 hD hS hd
theorem sc_one_of : FnScope ["purse", "some"] ["purse", "some"] (defScope s_one_of) := ⟨rfl, rfl, rfl, by decide +kernel, rfl, by decide +kernel, by decide +kernel⟩
def sp_one_of (K : PySem.W.Frag) : Sp := fun vs H Q _ => ∃ (p l : Addr) (xs : List V) (a b c d : Int), vs = [.ref p, .ref l] ∧ PurseAt H p a b c d ∧ c < 1000000000 ∧ SqL K H l xs ∧ l ≠ p ∧ 0 < xs.length ∧ xs.length < 1000000 ∧
  ∀ x H', x ∈ xs → Drew p b d c 1 H H' → Q x H'
theorem But.seq {K : PySem.W.Frag} {p l : Addr} {H H' : Hp} {xs : List V} (B : But p H H') (h : SqL K H l xs) (n : l ≠ p) : SqL K H' l xs := by
  rcases h with (h | ⟨o, h⟩) | h
  · exact .inl (.inl (B _ _ h n))
  · exact .inl (.inr ⟨o, B _ _ h n⟩)
  · exact .inr h
theorem ok_one_of (F : FnP K "_law_one_of" s_one_of f fd) (gL : mg "len" = none) {fD : Addr} {fdD : FuncData} (GD : FnOk P w K mg base CX0 2 fD fdD ["purse", "many"] sp_draw) (kD : PySem.W.keepIn K (.ref fD) = true) (bD : Binds K fdD ["purse", "many"] []) (gD : mg "_law_draw" = some (.ref fD)) :
    FnOk P w K mg base CX0 3 f fd ["purse", "some"] (sp_one_of K) := by
  refine F.ok sc_one_of (fun vs H Q E h => ?_) (fun cdv A outer s H vs Q E hr h => ?_)
  · obtain ⟨p, l, xs, a, b, c, d, rfl, _⟩ := h
    rfl
  · obtain ⟨p, l, xs, a, b, c, d, rfl, hp, hc, hl, hne, h0, h1, k⟩ := h
    refine ⟨_, PSs.nox (pss_one (ps_ret (pe_ix ix_list (pv 1) (pe_call GD hr rfl gD kD bD .nil pass0 (pa_cons (pv 0) (pa_cons (pe_callB call_len (by rfl) gL (by decide +kernel) (pa_cons (pv 1) pa_nil)) pa_nil))) (fun _ _ => rfl)))), ?_⟩
    refine ⟨_, rfl, _, rfl, _, rfl, _, xs.length, rfl, .inl ⟨_, hl, rfl⟩, p, _, a, b, c, d, rfl, hp, hc, by omega, by omega, fun r a' c' r0 r1 hc' PA => ?_⟩
    have hr' : r.toNat < xs.length := by omega
    have er : r = ((r.toNat : Nat) : Int) := by omega
    refine ⟨l, xs, r, xs[r.toNat], rfl, rfl, But.seq But.put hl hne, ?_, ?_⟩
    · have e := atI_nat (xs := xs) (j := r.toNat) (v := xs[r.toNat]) (by simp [List.getElem?_eq_getElem hr'])
      rw [← er] at e
      exact e
    · exact k _ _ (List.getElem_mem _) ⟨a', c', PA, hc', But.put⟩
theorem sc_word : FnScope ["purse", "size", "turn"] ["purse"] (defScope s_word) := ⟨rfl, rfl, rfl, by decide +kernel, rfl, by decide +kernel, by decide +kernel⟩
/-- a word -/
def IsWord (x : Str) : Prop := 1 ≤ x.length ∧ x.length ≤ 8 ∧ ∀ c ∈ x.cps.toList, 97 ≤ c ∧ c ≤ 122
def sp_word : Sp := fun vs H Q _ => ∃ (p : Addr) (a b c d : Int), vs = [.ref p] ∧ PurseAt H p a b c d ∧ c < 900000000 ∧ ∀ (x : Str) H', IsWord x → Drew p b d c 10 H H' → Q (.str x) H'
theorem letters (r : Int) (h0 : 0 ≤ r) (h1 : r < 26) : ("abcdefghijklmnopqrstuvwxyz" : Str).cps[r.toNat]? = some (97 + r.toNat) := by
  have : ∀ n : Nat, n < 26 → ("abcdefghijklmnopqrstuvwxyz" : Str).cps[n]? = some (97 + n) := by decide +kernel
  exact this _ (by omega)
theorem join0 (ys : List Str) : (Txt.join (Str.ofString "") ys).cps.toList = ys.flatMap fun y => y.cps.toList := by
  have e : Txt.join (Str.ofString "") ys = Str.join (Str.ofString "") ys := PySem.StrLaws.glued_eq_join _ _
  rw [e]
  clear e
  have e0 : (Str.ofString "").cps = #[] := by decide +kernel
  induction ys with
  | nil => rfl
  | cons x r ih =>
    cases r with
    | nil => simp [Str.join]
    | cons y r =>
      have e1 : Str.join (Str.ofString "") (x :: y :: r) = x ++ Str.ofString "" ++ Str.join (Str.ofString "") (y :: r) := rfl
      rw [e1, PySem.Str.cps_append, PySem.Str.cps_append, e0]
      simp only [Array.append_empty, Array.toList_append, ih, List.flatMap_cons]
theorem word_of_letters (ys : List Str) (hy : ∀ y ∈ ys, ∃ n : Nat, 97 ≤ n ∧ n ≤ 122 ∧ y = ⟨#[n]⟩) : (Txt.join (Str.ofString "") ys).length = ys.length ∧ ∀ c ∈ (Txt.join (Str.ofString "") ys).cps.toList, 97 ≤ c ∧ c ≤ 122 := by
  have e : (Txt.join (Str.ofString "") ys).length = (Txt.join (Str.ofString "") ys).cps.toList.length := by simp [Str.length]
  rw [e, join0]
  clear e
  induction ys with
  | nil => exact ⟨rfl, by simp⟩
  | cons y r ih =>
    obtain ⟨n, h1, h2, rfl⟩ := hy y List.mem_cons_self
    obtain ⟨i1, i2⟩ := ih fun z hz => hy z (List.mem_cons_of_mem _ hz)
    rw [List.flatMap_cons]
    refine ⟨by rw [List.length_append, i1, List.length_cons]; simp; omega, fun c hc => ?_⟩
    rcases List.mem_append.mp hc with hc | hc
    · simp at hc
      omega
    · exact i2 c hc
theorem ok_word (F : FnP K "_law_word" s_word f fd) (gR : mg "range" = none) {fD : Addr} {fdD : FuncData} (GD : FnOk P w K mg base CX0 2 fD fdD ["purse", "many"] sp_draw) (kD : PySem.W.keepIn K (.ref fD) = true) (bD : Binds K fdD ["purse", "many"] []) (gD : mg "_law_draw" = some (.ref fD)) :
    FnOk P w K mg base CX0 3 f fd ["purse"] sp_word := by
  refine F.ok sc_word (fun vs H Q E h => ?_) (fun cdv A outer s H vs Q E hr h => ?_)
  · obtain ⟨p, a, b, c, d, rfl, _⟩ := h
    rfl
  · obtain ⟨p, a, b, c, d, rfl, hp, hc, k⟩ := h
    refine ⟨_, PSs.nox (pss_cons (ps_set (i := 1) sc_word.nd rfl (Or.inl rfl) (pe_op op_add pe_int (pe_call GD hr rfl gD kD bD .nil pass0 (pa_cons (pv 0) (pa_cons (pe_ifExp (pt_cmpR op_eq (pe_call GD hr rfl gD kD bD .nil pass0 (pa_cons (pv 0) (pa_cons pe_int pa_nil))) pe_int (nomark _)) pe_int pe_int) pa_nil)))))
      (pss_one (ps_ret (pe_join pe_str (pe_lc (own := [("turn", 2)]) (g := gName 2) (tt := tYes) rfl sc_word.nd (pi_range1 rfl gR (pa_cons (pv 1) pa_nil))
        (blkOk_by (N := ["purse", "size", "turn"]) (sc := defScope s_word) (by decide +kernel)) (fun _ _ _ _ _ => pg_name (i := 2) sc_word.nd rfl (Or.inl rfl)) (fun _ _ _ _ _ => pts_nil)
        (fun _ _ _ _ _ => pe_item_str pe_str (pe_call GD hr rfl gD kD bD .nil pass0 (pa_cons (pv 0) (pa_cons pe_int pa_nil))) (fun _ _ => rfl))))))), ?_⟩
    refine ⟨_, rfl, _, rfl, p, 3, a, b, c, d, rfl, hp, by omega, by decide, by decide, fun r a1 c1 r0 r1 hc1 P1 => ?_⟩
    refine ⟨rfl, _, rfl, ?_⟩
    refine ite2 (fun _ => ?_) (fun _ => ?_)
    all_goals
      refine ⟨p, _, a1, b, c1, d, rfl, P1, by omega, by decide, by decide, fun r2 a2 c2 r20 r21 hc2 P2 => ?_⟩
      refine ⟨_, _, rfl, rfl, ?_⟩
      have B2 : But p H (upd (upd H p (.lst [.int a1, .int b, .int c1, .int d])) p (.lst [.int a2, .int b, .int c2, .int d])) := But.trans But.put But.put
      generalize hH2 : upd (upd H p (.lst [.int a1, .int b, .int c1, .int d])) p (.lst [.int a2, .int b, .int c2, .int d]) = H2 at P2 B2
      refine ⟨⟨_, rfl⟩, _, rfl, _, rfl, by omega, by omega, fun D hD => ?_⟩
      have hDp : D ≠ p := fun e => by rw [e, P2.1] at hD; cases hD
      refine lc_range (n := (1 + r2).toNat) (fun i H' => ∃ (ys : List Str) (a3 c3 : Int), ys.length = i ∧ (∀ y ∈ ys, ∃ n : Nat, 97 ≤ n ∧ n ≤ 122 ∧ y = ⟨#[n]⟩) ∧ PurseAt H' p a3 b c3 d ∧ c3 ≤ c2 + i ∧ But p H H' ∧ H' D = some (.lst (ys.map V.str)))
        ⟨[], a2, c2, rfl, by simp, P2.upd_new hD, by omega, But.trans B2 (But.new hD), upd_same⟩ ?_ ?_
      · rintro i H' hi ⟨ys, a3, c3, hl, hy, P3, hc3, B3, hd⟩
        refine ⟨rfl, ?_⟩
        refine ⟨_, rfl, p, 26, a3, b, c3, d, rfl, P3, by omega, by decide, by decide, fun r4 a4 c4 r40 r41 hc4 P4 => ?_⟩
        refine ⟨_, _, _, rfl, rfl, r40, by omega, ?_, letters r4 r40 r41, ?_⟩
        · have : ("abcdefghijklmnopqrstuvwxyz" : Str).length = 26 := by decide +kernel
          rw [this]
          exact r41
        · have e1 : ∀ o, upd H' p o D = H' D := fun o => upd_ne hDp
          refine ⟨ys.map V.str, by rw [e1]; exact hd, by rw [List.length_map, hl]; exact Nat.lt_of_lt_of_le hi (by rw [PySem.sizeLine_eq]; omega), ys ++ [⟨#[97 + r4.toNat]⟩], a4, c4, by rw [List.length_append, hl]; rfl, ?_, ⟨by rw [upd_ne hDp.symm]; exact P4.1, P4.2⟩, by omega, ?_, ?_⟩
          · intro y hy2
            rcases List.mem_append.mp hy2 with h | h
            · exact hy y h
            · rw [List.mem_singleton] at h
              exact ⟨97 + r4.toNat, by omega, by omega, h⟩
          · intro x o e n
            have xD : x ≠ D := fun z => by
              have := B2 x o e n
              rw [z, hD] at this
              cases this
            rw [upd_ne xD, upd_ne n]
            exact B3 x o e n
          · rw [upd_same, List.map_append]
            rfl
      · rintro H' ⟨ys, a3, c3, hl, hy, P3, hc3, B3, hd⟩
        have h9 : ys.length ≤ 8 := by omega
        have h1 : 1 ≤ ys.length := by omega
        have hall : ∀ y ∈ ys, y.length = 1 := fun y h => by
          obtain ⟨n, _, _, rfl⟩ := hy y h
          rfl
        have hsum : (ys.map (·.length)).sum = ys.length := by
          clear hl hd h9 h1 hy
          induction ys with
          | nil => rfl
          | cons y ys ih =>
            rw [List.map_cons, List.sum_cons, hall y List.mem_cons_self, ih fun z hz => hall z (List.mem_cons_of_mem _ hz), List.length_cons]
            omega
        obtain ⟨hlen, hch⟩ := word_of_letters ys hy
        refine ⟨_, D, ys, rfl, rfl, .inl (SqL.of hd), ?_, ?_⟩
        · rw [hsum]
          have : ((Str.ofString "") : Str).length = 0 := by decide +kernel
          rw [this]
          omega
        · exact k _ H' ⟨by rw [hlen]; exact h1, by rw [hlen]; exact h9, hch⟩ ⟨a3, c3, P3, by omega, B3⟩
end
end EV
/-! errors as values: a class over ValueError whose __init__ says super().__init__() and keeps one field -/
namespace EVX
open PySem PySem.W PySem.Calls PyProof.Rows PySem.HandSPX
section
variable {M : Model} {prog : Program} {w : World} {A : Around} {E : Value → Shared → Prop} {R : Result → Shared → Prop} {h : Heap} {g : Array GenState} {d : Drawn} {t : Nat} {os : OsState}
variable {nm q : Str} {C N : Addr} {bs bm bmB : List Value} {hdct : Bool} {sn : List Str} {sub : List Value} {ab : Bool} {col : Option Bool} {dd : Option Addr} {k0 k1 k2 k3 k5 : Option Value} {B newId initId : String}
theorem check_newK (F : ExcBaseFacts B newId initId bmB) (hT : ∀ X : String, bm.contains (.type X) = bmB.contains (.type X)) {rest : List Value} {kw : List (Str × Value)} {Q : Unit → Shared → Prop}
    (hC : h.get? C = some (excClassObj nm q C N bs bm hdct sn sub ab col dd k0 k1 k2 k3 k5 newId)) (hq : Q () ⟨h, g, d, t, os⟩) : wpAny M A (checkBuiltinCall newId ⟨.ref C :: rest, kw⟩) Q E ⟨h, g, d, t, os⟩ := by
  have inB : (Value.ref C :: bm).contains (.type B) = true := by rw [List.contains_cons, hT, F.hasB, Bool.or_true]
  have st := F.noStar
  simp only [checkBuiltinCall, F.newKind, F.newSplit, F.newRow]
  repeat (first
    | refine wpAny_loadPart_at hC ?_
    | (refine wpAny_isSubtype_exc hC ?_; rw [inB])
    | refine wpAny_staticBase_exc hC ?_
    | refine wpAny_madeBy_exc hC ?_
    | simp only [bne_self_eq_false, Bool.false_eq_true, if_false]
    | wp_step)
  all_goals exact hq
theorem newK (F : ExcBaseFacts B newId initId bmB) (hT : ∀ X : String, bm.contains (.type X) = bmB.contains (.type X)) {rest : List Value} {kw : List (Str × Value)}
    (hC : h.get? C = some (excClassObj nm q C N bs bm hdct sn sub ab col dd k0 k1 k2 k3 k5 newId))
    (hq : R (.ok (.ret (.ref (h.objs.size + 1)))) ⟨(h.push { cls := .type "tuple", data := .seq rest.toArray }).push (excO C h.objs.size), g, d, t, os⟩) (hrest : rest.length ≤ sizeLine) :
    codeAny (model prog w) A (.builtin newId ⟨.ref C :: rest, kw⟩) R ⟨h, g, d, t, os⟩ := by
  have he := F.ends
  have c1 : (Value.ref C :: bm).contains (.type B) = true := by rw [List.contains_cons, hT, F.hasB, Bool.or_true]
  have c2 : (Value.ref C :: bm).contains (.type "AttributeError") = false := by rw [List.contains_cons, hT, F.noAttr]; rfl
  have c3 : (Value.ref C :: bm).contains (.type "NameError") = false := by rw [List.contains_cons, hT, F.noName]; rfl
  refine codeAny_builtinAt F.entry ?_
  unfold Builtin.«BaseException.__new__»
  refine _root_.PySem.wpAt_bind ?_
  show _root_.PySem.wpAt _ _ _ (stack >>= _) _ _ _
  refine _root_.PySem.wpAt_bind (_root_.PySem.wpAt_stack fun p below => _root_.PySem.wpAt_of_wpAny ?_)
  wp_walk
  refine _root_.PySem.wpAt_of_wpAny ?_
  rw [F.owner]
  repeat (first
    | with_reducible refine wpAny_madeHere_exc F.canon hC ?_
    | with_reducible refine wpAny_loadPart_at hC ?_
    | (with_reducible refine wpAny_isSubtype_exc hC ?_; first | rw [c1] | rw [c2] | rw [c3])
    | wp_step)
  show R _ _
  rw [Heap.size_push]
  exact hq
theorem type_callK (F : ExcBaseFacts B newId initId bmB) (hT : ∀ X : String, bm.contains (.type X) = bmB.contains (.type X)) {rest : List Value} {kw : List (Str × Value)} {fI : Addr} {Q : Fin → Shared → Prop}
    (hC : h.get? C = some (excClassObj nm q C N bs bm hdct sn sub ab col dd k0 k1 k2 k3 k5 newId))
    (hi : W.Looks (model prog w) h (typeLookup (.ref C) "__init__") (some (.ref fI))) (hb : ∀ self, W.Looks (model prog w) h (bindSpecial (.ref fI) self) (.ref fI, [self])) (hrest : rest.length ≤ sizeLine)
    (hq : codeAny (model prog w) A (.call (.ref fI) ⟨.ref (h.objs.size + 1) :: rest, kw⟩)
      (fun r s' => match r with | .ok (.ret v) => v = .none ∧ Q (.done (.ret (.ref (h.objs.size + 1)))) s' | .ok _ => False | .error e => E e s') ⟨(h.push (W.kdv_tup rest)).push (excO C h.objs.size), g, d, t, os⟩) :
    wpAny (model prog w) A (Builtin.«type.__call__» ⟨.ref C :: rest, kw⟩) Q E ⟨h, g, d, t, os⟩ := by
  repeat (first
    | with_reducible refine wpAny_loadPart_at hC ?_
    | with_reducible refine wpAny_madeBy_exc hC ?_
    | wp_step)
  refine codeAny_call_builtin_code (Code.quiet_builtin _ F.quiet) (check_newK F hT hC ?_)
  refine newK F hT hC ?_ hrest
  show wpAny _ _ _ _ _ _
  have kk : ∀ b o, h.get? b = some o → ((h.push (W.kdv_tup rest)).push (excO C h.objs.size)).get? b = some o := fun b o e => Heap.get?_push_of_some _ (Heap.get?_push_of_some _ e)
  have hC1 := kk _ _ hC
  have at1 : ((h.push (W.kdv_tup rest)).push (excO C h.objs.size)).get? (h.objs.size + 1) = some (excO C h.objs.size) := by heap_get
  have cc : (Value.ref C :: bm).contains (.ref C) = true := by simp
  have i1 := hi.keeps kk
  have b1 := (hb (.ref (h.objs.size + 1))).keeps kk
  unfold isInstance
  repeat (first
    | with_reducible refine wpAny_loadPart_at at1 ?_
    | (with_reducible refine wpAny_isSubtype_exc hC1 ?_; rw [cc])
    | wp_step)
  show wpAny _ _ (typeLookup (.ref C) _) _ _ _
  refine i1.at ?_
  refine wpAny_holding (wpAny_bind (b1.at ?_))
  refine wpAny_bind (wpAny_call (codeAny_mono hq fun r s' z => ?_))
  rcases r with e | (v | _ | _ | _) <;> first | exact z | exact z.elim | skip
  obtain ⟨rfl, z⟩ := z
  first
    | exact wpAny_pure (wpAny_pure z)
    | (wp_walk; exact z)
theorem check_type_callK {rest : List Value} {kw : List (Str × Value)} {Q : Unit → Shared → Prop} (hC : h.get? C = some (excClassObj nm q C N bs bm hdct sn sub ab col dd k0 k1 k2 k3 k5 newId))
    (hq : Q () ⟨h, g, d, t, os⟩) : wpAny M A (checkBuiltinCall "type.__call__" ⟨.ref C :: rest, kw⟩) Q E ⟨h, g, d, t, os⟩ := by
  have f3 := tc_sub
  have hT : (⟨h, g, d, t, os⟩ : Shared).TypeIs (.ref C) "type" := ⟨_, hC, rfl⟩
  simp only [checkBuiltinCall, tc_kind, tc_split]
  repeat (any_goals (first
    | assumption
    | with_reducible refine wpAny_loadPart_at hC ?_
    | with_reducible refine wpAny_onRaise ?_
    | with_reducible refine wpAny_map ?_
    | wp_step))
theorem callK (F : ExcBaseFacts B newId initId bmB) (hT : ∀ X : String, bm.contains (.type X) = bmB.contains (.type X)) {rest : List Value} {kw : List (Str × Value)} {fI : Addr}
    (hC : h.get? C = some (excClassObj nm q C N bs bm hdct sn sub ab col dd k0 k1 k2 k3 k5 newId))
    (hi : W.Looks (model prog w) h (typeLookup (.ref C) "__init__") (some (.ref fI))) (hb : ∀ self, W.Looks (model prog w) h (bindSpecial (.ref fI) self) (.ref fI, [self])) (hrest : rest.length ≤ sizeLine)
    (hq : codeAny (model prog w) (A.under (.builtin "type.__call__" ⟨.ref C :: rest, kw⟩)) (.call (.ref fI) ⟨.ref (h.objs.size + 1) :: rest, kw⟩) (W.InitBack (h.objs.size + 1) R) ⟨(h.push (W.kdv_tup rest)).push (excO C h.objs.size), g, d, t, os⟩) :
    codeAny (model prog w) A (.call (.ref C) ⟨rest, kw⟩) R ⟨h, g, d, t, os⟩ := by
  have f1 := tc_lookup
  have f2 := tc_bind (.ref C)
  have hTy : (⟨h, g, d, t, os⟩ : Shared).TypeIs (.ref C) "type" := ⟨_, hC, rfl⟩
  refine codeAny_of_tree ?_
  show wpAny _ _ (callAny (.ref C) _) _ _ _
  repeat (any_goals (first
    | assumption
    | with_reducible refine wpAny_loadPart_at hC ?_
    | wp_step))
  refine ⟨rfl, ?_⟩
  refine codeAny_call_builtin_at (Code.quiet_builtin _ (by decide +kernel)) entry_typeCall (check_type_callK hC (type_callK F hT hC hi hb hrest ?_))
  refine codeAny_mono hq fun r s' z => ?_
  rcases r with e | (v | _ | _ | _) <;> exact z
end
end EVX
namespace EVX
open PySem PySem.W PySem.Calls PyProof.Rows PySem.HandSPX
/-! ### the __init__ as it is written -/
def iniBody (p0 p1 p2 p3 p4 p5 p6 p7 p8 : Pos) : List Stmt :=
  [.Expr (.Call (.Attribute (.Call (.Name "super" p0) [] [] p1) "__init__" p2) [] [] p3) p4, .Assign [.Attribute (.Name "self" p5) "value" p6] (.Name "value" p7) p8]
def iniArgs (q1 q2 q3 : Pos) : Arguments :=
  { posonlyargs := [], args := [{ arg := "self", annotation := none, pos := q1 }, { arg := "value", annotation := none, pos := q2 }], vararg := none, kwonlyargs := [], kw_defaults := [], kwarg := none, defaults := [.Constant .none 0 q3] }
def iniScope : Scope := { kind := .function, names := [("self", .local), ("value", .local), ("__class__", .free), ("super", .globalImplicit)], isGenerator := false, isCoroutine := false, more := [] }
/-- the written part tells of an error class at C, its __init__ at fI -/
structure XcI (K : Frag) (P : Program) (C fI : Addr) (fd : FuncData) : Prop where
  oex : L2.OexC K C
  noV : findIn K (.ref C) "value" = some none
  init : findIn K (.ref C) "__init__" = some (some (.ref fI))
  fty : typeIn K (.ref fI) = some (.type "function")
  fn : ∃ (oc : Value) (od : Option Addr) (osl : Array (Option Value)) (qual : Str) (p0 p1 p2 p3 p4 p5 p6 p7 p8 q1 q2 q3 : Pos) (dV kV doc pm ct : Value) (an : Option Addr) (cda cc : Addr),
    (p2.endLine == p3.line) = true ∧ fd = fnX "__init__" qual (iniArgs q1 q2 q3) (iniBody p0 p1 p2 p3 p4 p5 p6 p7 p8) iniScope [("__class__", cc)] dV kV doc pm an (.ref cda) ct ∧ K.lookup fI = some ⟨oc, od, .func fd, osl⟩ ∧ codeIn K (.ref cda) qual = true ∧
    (∃ (o : Obj) (vs : Array Value) (file : Str) (tf : Tok), K.lookup cda = some o ∧ o.data = .fields vs ∧ vs[2]? = some (.str file tf) ∧ ((P.main.file : Str) == file) = true) ∧
    (∃ o : Obj, K.lookup cc = some o ∧ o.data = .cell (some (.ref C))) ∧ ∃ (T : Addr) (o : Obj) (n : Nat), dV = .ref T ∧ K.lookup T = some o ∧ o.data = .seq #[.none] n
  sup : ks_superIn K C C "__init__" = some (some (.builtin "ValueError.__init__"))
  sub : subIn K (.ref C) (.type "ValueError") = some true
  slf : mroIn K C (.ref C) = some true
  sfree : nsIn K mainGlobals "super" = some none
  opq : nsIn K cStatics "thirdparty.any" = some none
  stop : (P.main.scope.names.lookup ("super" : Str)).isSome = false
section
variable {P : Program} {w : World} {A : Around} {E : Value → Shared → Prop} {R : Result → Shared → Prop} {K : Frag} {C fI : Addr} {fd : FuncData} {mg mb : Str → Option Value}
/-- the super object's __init__ is called: the args are laid anew -/
theorem run_bw {h : Heap} {g : Array GenState} {d : Drawn} {t : Nat} {os : OsState} {nm q : Str} {N : Addr} {bs bm : List Value} {hdct : Bool} {sn : List Str} {sub : List Value} {ab : Bool} {col : Option Bool} {dd : Option Addr} {k0 k1 k2 k3 k5 : Option Value} {u e t0 : Addr} {Q : Value → Shared → Prop}
    (hC : h.get? C = some (excClassObj nm q C N bs bm hdct sn sub ab col dd k0 k1 k2 k3 k5 "ValueError.__new__")) (he : h.get? e = some (excO C t0)) (hu : h.get? u = some (kxs_mw "ValueError.__init__" e))
    (hq : ∀ h' t1, (∀ b o, b ≠ e → h.get? b = some o → h'.get? b = some o) → h'.get? e = some (excO C t1) → Q .none ⟨h', g, d, t, os⟩) : wpAny (model P w) A (call (.ref u) []) Q E ⟨h, g, d, t, os⟩ := by
  refine wpAny_call (codeAny_of_tree ?_)
  show wpAny _ A.in1 (callAny (.ref u) ⟨[], []⟩) _ _ _
  simp only [callAny]
  refine wpAny_bind (wpAny_load hu ?_)
  have e1 : (Value.type "method-wrapper" == Value.type "method" || Value.type "method-wrapper" == Value.type "builtin_function_or_method" || Value.type "method-wrapper" == Value.type "method-wrapper") = true := by decide
  simp only [kxs_mw, e1, if_true]
  refine KFB.if_so (by decide) ?_
  refine wpAny_bind (check_bound_init F.excBase_ValueError.toExcCallFacts hC he rfl ?_)
  refine wpAny_bind (wpAny_pure (wpAny_pure ?_))
  refine ⟨plainId_quiet F.excBase_ValueError.init.plain _, codeAny_builtin F.excBase_ValueError.initEntry ?_⟩
  refine exc_init_tree (cls := .ref C) (t0 := t0) (dv := none) (c2 := .none) (c3 := .none) (b4 := .bool false) he (by decide) fun h' k e' t' => hq h' _ k e'
theorem sup_pos {o : Expr} {env : Env} {ap pos : Pos} (hl : (ap.endLine == pos.line) = true) : methodCallPos true o env ap pos = pure pos := by
  unfold methodCallPos
  rw [hl]
  rfl
theorem sup_call {env : Env} {p0 p1 p2 p3 : Pos} (hl : (p2.endLine == p3.line) = true) : eval (.Call (.Attribute (.Call (.Name "super" p0) [] [] p1) "__init__" p2) [] [] p3) env = (do
      let ov ← attributeBase (.Call (.Name "super" p0) [] [] p1) "__init__" env (eval (.Call (.Name "super" p0) [] [] p1) env)
      standAt p2.atName
      let (f, first) ← holding [ov] (getMethod ov "__init__" (do return (← importBound (.Call (.Name "super" p0) [] [] p1) env).getD true))
      callWith p3 f first (backTo p3 (starEach [] env)) []) := by
  have e : eval (.Call (.Attribute (.Call (.Name "super" p0) [] [] p1) "__init__" p2) [] [] p3) env = (do
      let ov ← attributeBase (.Call (.Name "super" p0) [] [] p1) "__init__" env (eval (.Call (.Name "super" p0) [] [] p1) env)
      standAt p2.atName
      methodCall (.Call (.Name "super" p0) [] [] p1) "__init__" p2 p3 env ov 0 [] []) := by rfl
  rw [e]
  refine bind_congr fun ov => bind_congr fun _ => ?_
  unfold methodCall
  have f : methodCallForm 0 [] [] = true := by rfl
  rw [f, sup_pos hl]
  rfl
theorem run_ini (X : XcI K P C fI fd) {s : Shared} (KX : K.In s.heap) (G : s.heap.Ns mainGlobals mg) (Bt : s.heap.Ns builtinsNs mb) (Bs : mb "super" = bootBuiltins "super") (lim : s.heap.NoLimit) (hroom : A.depth < recursionLimit) {e t0 : Addr} {v : Value} {args : Args}
    (he : s.heap.get? e = some (excO C t0)) (hKe : ∀ a o, K.lookup a = some o → a ≠ e) (hb : BindsTo s fd args [("self", .ref e), ("value", v)])
    (hq : ∀ h' tk dx t1, (∀ b o, b ≠ e → s.heap.get? b = some o → h'.get? b = some o) → s.heap.objs.size ≤ dx → dx ≠ e → h'.get? e = some { cls := .ref C, dict := some dx, data := .fields #[.ref t1, .none, .none, .none, .bool false, .none] } →
      h'.Ns1 dx (fun y => if y = "value" then some v else none) → R (.ok (.ret .none)) { s with heap := h', toks := tk }) : codeAny (model P w) A (.call (.ref fI) args) R s := by
  obtain ⟨oc, od, osl, qual, p0, p1, p2, p3, p4, p5, p6, p7, p8, q1, q2, q3, dV, kV, doc, pm, ct, an, cda, cc, hline, rfl, lk, hcd, ⟨oco, vs, file, tf, lco, dco, hvs, hfile⟩, ⟨occ, lcc, dcc⟩, _⟩ := X.fn
  refine ks_codeAny_call_defAt (body := iniBody p0 p1 p2 p3 p4 p5 p6 p7 p8) hroom (KX _ _ lk) rfl lim (codeRec_of KX hcd) rfl hb (show ∀ x ∈ iniScope.names, x.2 ≠ NameKind.cell by decide) ?_ (fun h0 hns hk => ?_) rfl rfl rfl
  · intro x hx
    rcases List.mem_cons.mp hx with rfl | hx
    · rfl
    · rcases List.mem_cons.mp hx with rfl | hx
      · rfl
      · cases hx
  have K0 : K.In h0 := fun a o l => hk _ _ (KX _ _ l)
  obtain ⟨cnm, cq, cN, cbs, cbm, csn, csub, cab, ccol, cdd, k0, k1, k2, k3, k5, hC, hbm⟩ := X.oex.cls
  have hcl : clsIn K C = some { name := cnm, bases := cbs, mro := .ref C :: cbm, ns := cN, qualname := cq, hasDict := true, slotNames := csn, subclasses := csub, abstract := cab, collection := ccol, hasDel := false } := by
    unfold clsIn
    rw [hC] <;> rfl
  have hCh := K0 _ _ hC
  have he0 := hk _ _ he
  refine ks_wpAt_execs_cons (ks_wpAt_Expr_any (ks_wpAt_MethodCall (pl := _) ?_ (sup_call hline)))
  refine ks_wpAt_super_base (env := callEnv (fnX "__init__" qual (iniArgs q1 q2 q3) (iniBody p0 p1 p2 p3 p4 p5 p6 p7 p8) iniScope [("__class__", cc)] dV kV doc pm an (.ref cda) ct) s.heap.objs.size fI)
    rfl rfl (by decide) rfl (K0 _ _ lk) rfl rfl rfl (K0 _ _ lco) dco hvs hfile X.stop ?_
  refine ks_loadName_global rfl rfl (loadGlobal_builtin (G.keeps hk) (mg_none_of KX G X.sfree) (Bt.keeps hk) (Bs.trans (by decide +kernel)) ⟨rfl, ?_⟩)
  refine wpAny_loadName_free rfl rfl rfl ⟨_, K0 _ _ lcc, dcc⟩ ?_
  refine wpAny_loadName_local rfl rfl hns rfl ?_
  refine ks_wpAny_isType_cls hCh rfl ⟨rfl, ?_⟩
  refine ks_wpAny_call_super hCh rfl he0 rfl (fun c e => by cases e) (looks_mroIn K0 X.slf) (fun h1 eso k1 => ?_)
  have K1 : K.In h1 := fun a o l => k1 _ _ (K0 _ _ l)
  have he1 := k1 _ _ he0
  have I1 : InstAt h1 e (excO C t0) C none := ⟨he1, rfl, rfl, trivial⟩
  have hsup := X.sup
  unfold ks_superIn at hsup
  rw [hcl] at hsup
  refine kxs_getMethod kxs_ValueError eso (looks_opaque K1 X.opq) (l₀ := .ref C :: cbm) (fun A Q E s k q => wpAny_bind ((looks_clsIn K1 hcl) A _ E s k (wpAny_pure q))) rfl K1 hsup (I1.type.andThen (looks_subIn K1 X.sub)) (ks_ne K1 I1 hcl) (by decide) ?_
  have kp : ∀ b o, h1.get? b = some o → (h1.push (kxs_mw "ValueError.__init__" e)).get? b = some o := fun b o z => Heap.get?_push_of_some _ z
  refine kxs_callWith (i := "ValueError.__init__") (x := e) rfl (evalArgs_empty ⟨Heap.get?_push_at rfl rfl, ?_⟩)
  refine run_bw (kp _ _ (K1 _ _ hC)) (kp _ _ he1) (Heap.get?_push_at rfl rfl) fun h2 t1 k2 he2 => ?_
  have all2 : ∀ b o, b ≠ e → h0.get? b = some o → h2.get? b = some o := fun b o n z => k2 b o n (kp _ _ (k1 _ _ z))
  have neC : e ≠ C := ks_ne K1 I1 hcl
  have K2 : K.In h2 := fun a o l => all2 a o (hKe a o l) (K0 _ _ l)
  have eL : e ≠ s.heap.objs.size := Nat.ne_of_lt (Heap.lt_size he)
  obtain ⟨oL, esL, epL, hoL, rL⟩ := id hns
  have hns2 : h2.Ns s.heap.objs.size (fun x => ([(("self" : Str), Value.ref e), (("value" : Str), v)] : List (Str × Value)).reverse.lookup x) := ⟨oL, esL, epL, all2 _ _ (Ne.symm eL) hoL, rL⟩
  refine _root_.PySem.wpAt_of_wpAny (wpAny_execs_cons ?_)
  refine plainObj_wpAny_Assign_Attribute ?_ rfl
  refine wpAny_Name (wpAny_loadName_local rfl rfl hns2 rfl ?_) (by decide)
  refine wpAny_Name (wpAny_loadName_local rfl rfl hns2 rfl ?_) (by decide)
  refine set_plain K2 (ox := { cls := .ref C, dict := none, data := .fields #[.ref t1, .none, .none, .none, .bool false, .none] }) (od := none) ⟨he2, rfl, rfl, trivial⟩ X.oex.sa ?_
  refine exc_osa K2 he2 hcl (show refsVE (.ref C :: cbm) = true from hbm) rfl X.noV (fun h3 tk dx k3 dn dne hx hn => ?_)
  refine wpAny_execs_nil ?_
  exact hq h3 tk dx t1 (fun b o n z => k3 b o n (all2 b o n (hk _ _ z))) (Nat.le_trans (Nat.le_of_lt (Heap.lt_size (all2 _ _ (Ne.symm eL) hoL))) dn) dne hx hn
end
end EVX
namespace EVX
open PySem PySem.Spec PyProof.Rows L2
/-- an error stands at a: of the class C, its field holds v -/
def ErrAt (H : Hp) (a C : Addr) (v : V) : Prop := ∃ d, H a = some (exo a C (some d)) ∧ H d = some (exd d [("value", v)])
theorem un_two {fs ex : List Addr} {H : Hp} {h h' : Heap} {a b : Addr} {o u : HO} (k : ∀ c x, h.get? c = some x → h'.get? c = some x) (ha : h.objs.size ≤ a) (hb : h.objs.size ≤ b) (na : H a = none) (nb : H b = none) (ne : b ≠ a) :
    Un fs ex H (upd (upd H b u) a o) h h' := by
  have nn : ∀ c x, h.get? c = some x → c ≠ a ∧ c ≠ b := fun c x e => ⟨Nat.ne_of_lt (Nat.lt_of_lt_of_le (Heap.lt_size e) ha), Nat.ne_of_lt (Nat.lt_of_lt_of_le (Heap.lt_size e) hb)⟩
  have sm : ∀ c x, H c = some x → (upd (upd H b u) a o) c = some x := fun c x e => by rw [upd_ne (ne_of_none e na), upd_ne (ne_of_none e nb)]; exact e
  exact ⟨fun c x e _ _ _ => k c x e, fun c x e _ _ _ => ⟨x.slots, k c x e⟩, fun c x e n _ => by rw [upd_ne (nn c x e).1, upd_ne (nn c x e).2]; exact n, fun c x e _ => ⟨x, k c x e⟩,
    fun c xs e => sm c _ e, fun c x xs e => sm c _ e, fun c ps e => ⟨#[], by rw [sm c _ e]; simp⟩⟩
theorem hok_two {P : Program} {w : World} {H : Hp} {h h' : Heap} {a b : Addr} {o u : HO} (x : HOk P w H h) (k : ∀ c z, h.get? c = some z → h'.get? c = some z) (na : H a = none) (nb : H b = none)
    (oa : ObjOk P w (upd (upd H b u) a o) h' a o) (ob : ObjOk P w (upd (upd H b u) a o) h' b u) : HOk P w (upd (upd H b u) a o) h' := fun c z e => by
  by_cases ca : c = a
  · subst ca
    rw [upd_same] at e
    cases e
    exact oa
  · rw [upd_ne ca] at e
    by_cases cb : c = b
    · subst cb
      rw [upd_same] at e
      cases e
      exact ob
    · rw [upd_ne cb] at e
      exact (x c z e).stay (fun y v _ q => k y v q) (fun y q => by rw [upd_ne (ne_of_none q na), upd_ne (ne_of_none q nb)]; exact q) fun y xs q => by rw [upd_ne (ne_of_none q na), upd_ne (ne_of_none q nb)]; exact q
section
variable {X : Cx} {pins : List (Addr × Obj)} {σ : L2.St} {H : Hp} {s : Shared} {Q : VK} {C fI : Addr} {fd : FuncData}
theorem run_exc (XI : XcI X.K X.prog C fI fd) (hr : Room 2 X.A) (I : Inv X pins σ H s) {us : List Value} {kw : List (Str × Value)} (hus : us.length ≤ 1000) {v : V} {u : Value} (rv : RelV v u)
    (hb : ∀ (s : Shared) (e : Addr), X.K.In s.heap → BindsTo s fd ⟨.ref e :: us, kw⟩ [("self", .ref e), ("value", u)])
    (h : ∀ a H', H a = none → Same H H' → ErrAt H' a C v → Q (.ref a) H') : wpAny (model X.prog X.w) X.A (call (.ref C) us kw) (EP X pins σ Q) X.xe s := by
  obtain ⟨nm, q, N, bs, bm, sn, sub, ab, col, dd, k0, k1, k2, k3, k5, hC, hbm⟩ := XI.oex.cls
  have hus2 : us.length ≤ sizeLine := by rw [sizeLine_eq]; omega
  obtain ⟨hp, g, dr, tk, os⟩ := s
  refine wpAny_call (callK F.excBase_ValueError (fun Y => PySem.HandSPX.refsVE_contains Y bm hbm) (I.kIn _ _ hC) (PySem.W.looks_findIn I.kIn XI.init) (fun self => PySem.W.bind_fn I.kIn self XI.fty) hus2 ?_)
  have kk : ∀ b o, hp.get? b = some o → ((hp.push (PySem.W.kdv_tup us)).push (PySem.HandSPX.excO C hp.objs.size)).get? b = some o := fun b o e => Heap.get?_push_of_some _ (Heap.get?_push_of_some _ e)
  have hget : ((hp.push (PySem.W.kdv_tup us)).push (PySem.HandSPX.excO C hp.objs.size)).get? (hp.objs.size + 1) = some (PySem.HandSPX.excO C hp.objs.size) := by heap_get
  have K1 : X.K.In ((hp.push (PySem.W.kdv_tup us)).push (PySem.HandSPX.excO C hp.objs.size)) := fun a o l => kk a o (I.kIn a o l)
  obtain ⟨mb, b1, b2⟩ := I.mod.blt
  have bk : ∀ b o, X.base.get? b = some o → ((hp.push (PySem.W.kdv_tup us)).push (PySem.HandSPX.excO C hp.objs.size)).get? b = some o := fun b o e => kk b o (I.bk b o e)
  refine run_ini XI K1 (I.mod.glob.keeps bk) (b1.keeps bk) (b2 _ (by decide)) (I.mod.nolimit.keeps bk) (Room.make (k := 1) hr C us kw).depth hget (fun a o l z => ?_) (hb _ _ K1) fun h' tk' dx t1 kp hdx hne hx hn => ?_
  · have y := Heap.lt_size (I.kIn a o l)
    rw [z] at y
    exact absurd y (by show ¬ hp.objs.size + 1 < hp.objs.size; omega)
  · have ne0 : ∀ b o, hp.get? b = some o → b ≠ hp.objs.size + 1 := fun b o e z => by
      have y := Heap.lt_size e
      rw [z] at y
      exact absurd (Nat.lt_of_succ_lt y) (Nat.lt_irrefl _)
    have k2 : ∀ b o, hp.get? b = some o → h'.get? b = some o := fun b o e => kp b o (ne0 b o e) (kk b o e)
    have s1 : hp.objs.size ≤ hp.objs.size + 1 := Nat.le_succ _
    have s2 : hp.objs.size ≤ dx := Nat.le_trans (show hp.objs.size ≤ ((hp.push (PySem.W.kdv_tup us)).push (PySem.HandSPX.excO C hp.objs.size)).objs.size by rw [Heap.size_push, Heap.size_push]; omega) hdx
    have nE : H (hp.objs.size + 1) = none := I.hok.fresh s1
    have nD : H dx = none := I.hok.fresh s2
    refine ⟨rfl, ?_⟩
    refine ⟨.ref (hp.objs.size + 1), upd (upd H dx (exd dx [("value", v)])) (hp.objs.size + 1) (exo (hp.objs.size + 1) C (some dx)), I.un (t' := tk') (un_two k2 s1 s2 nE nD hne) (hok_two I.hok k2 nE nD (exo_ok hx) (exd_ok hn (relO_put (fs := []) rv fun g => True.intro))), rfl, ?_⟩
    refine h _ _ nE (fun b o e => by rw [upd_ne (ne_of_none e nE), upd_ne (ne_of_none e nD)]; exact e) ⟨dx, upd_same, ?_⟩
    rw [upd_ne hne, upd_same]
/-! ### the expressions -/
def tExc (C : Addr) (ta : TE) : TE := fun σ H Q => ta σ H fun v H1 => ∀ a H', H1 a = none → Same H1 H' → ErrAt H' a C v → Q (.ref a) H'
def tExc0 (C : Addr) : TE := fun _ H Q => ∀ a H', H a = none → Same H H' → ErrAt H' a C .non → Q (.ref a) H'
theorem bind_1 (XI : XcI X.K X.prog C fI fd) (s : Shared) (e : Addr) (u : Value) (KX : X.K.In s.heap) : BindsTo s fd ⟨[.ref e, u], []⟩ [("self", .ref e), ("value", u)] := by
  obtain ⟨oc, od, osl, qual, p0, p1, p2, p3, p4, p5, p6, p7, p8, q1, q2, q3, dV, kV, doc, pm, ct, an, cda, cc, hline, rfl, _, _, _, _, T, o, n, rfl, lT, oT⟩ := XI.fn
  exact PySem.W.binds_K KX rfl lT oT rfl rfl
theorem bind_K (XI : XcI X.K X.prog C fI fd) (s : Shared) (e : Addr) (u : Value) (KX : X.K.In s.heap) : BindsTo s fd ⟨[.ref e], [("value", u)]⟩ [("self", .ref e), ("value", u)] := by
  obtain ⟨oc, od, osl, qual, p0, p1, p2, p3, p4, p5, p6, p7, p8, q1, q2, q3, dV, kV, doc, pm, ct, an, cda, cc, hline, rfl, _, _, _, _, T, o, n, rfl, lT, oT⟩ := XI.fn
  exact PySem.W.binds_K KX rfl lT oT rfl rfl
theorem bind_0 (XI : XcI X.K X.prog C fI fd) (s : Shared) (e : Addr) (KX : X.K.In s.heap) : BindsTo s fd ⟨[.ref e], []⟩ [("self", .ref e), ("value", .none)] := by
  obtain ⟨oc, od, osl, qual, p0, p1, p2, p3, p4, p5, p6, p7, p8, q1, q2, q3, dV, kV, doc, pm, ct, an, cda, cc, hline, rfl, _, _, _, _, T, o, n, rfl, lT, oT⟩ := XI.fn
  exact PySem.W.binds_K KX rfl lT oT rfl rfl
variable {x : Str} {e : Expr} {ta : TE} {p pos kp : Pos}
theorem pe_exc1 (XI : XcI X.K X.prog C fI fd) (hr : Room 2 X.A) (hg : Gl X x) (gC : X.mg x = some (.ref C)) (he : PE X e ta) (hs : starEach [e] X.env = (false, eval e X.env) :: starEach [] X.env := by rfl) (hdb : (x == ("__debug__" : Str)) = false := by decide) :
    PE X (.Call (.Name x p) [e] [] pos) (tExc C ta) := by
  refine ⟨fun pins s σ H Q I h => ?_⟩
  refine wpAny_Call_Name_kw (ld_glob I hg gC ?_ hdb)
  refine PySem.W.callWith_K (h₀ := X.base) I.ok.mod.kin XI.oex.kC ?_ hs (by rfl)
  rw [hs]
  show wpAny _ _ (spliced ((false, eval e X.env) :: backTo pos (starEach [] X.env))) _ _ s
  refine Calls.spliced_cons (thn (he.run pins s σ H _ I h) fun u s1 ⟨v, H1, I1, r1, q1⟩ => ?_)
  refine Calls.spliced_nil ⟨I1.kIn, ?_⟩
  exact run_exc XI hr I1 (us := [u]) (by show 1 ≤ 1000; decide) r1 (fun s e KX => bind_1 XI s e u KX) q1
theorem pe_exc0 (XI : XcI X.K X.prog C fI fd) (hr : Room 2 X.A) (hg : Gl X x) (gC : X.mg x = some (.ref C)) (hdb : (x == ("__debug__" : Str)) = false := by decide) : PE X (.Call (.Name x p) [] [] pos) (tExc0 C) := by
  refine ⟨fun pins s σ H Q I h => ?_⟩
  refine wpAny_Call_Name_kw (ld_glob I hg gC ?_ hdb)
  refine PySem.W.callWith_K0 I.kIn XI.oex.kC ?_
  exact run_exc XI hr I (us := []) (v := .non) (u := .none) (by show 0 ≤ 1000; decide) rfl (fun s e KX => bind_0 XI s e KX) h
theorem pe_excK (XI : XcI X.K X.prog C fI fd) (hr : Room 2 X.A) (hg : Gl X x) (gC : X.mg x = some (.ref C)) (he : PE X e ta) (hdb : (x == ("__debug__" : Str)) = false := by decide)
    (hall : (backToKw pos (keywordEach [⟨some "value", e, kp⟩] X.env)).all (·.1.isSome) = true := by rfl) (hks : (backToKw pos (keywordEach [⟨some "value", e, kp⟩] X.env)).filterMap (·.1) = [("value" : Str)] := by rfl)
    (hpl : ((backTo pos (starEach [] X.env)).any (·.1) || (backToKw pos (keywordEach [⟨some "value", e, kp⟩] X.env)).any (·.1.isNone)) = false := by rfl) :
    PE X (.Call (.Name x p) [] [⟨some "value", e, kp⟩] pos) (tExc C ta) := by
  refine ⟨fun pins s σ H Q I h => ?_⟩
  refine wpAny_Call_Name_kw (ld_glob I hg gC ?_ hdb)
  refine PySem.W.callWith_KW0 (h₀ := X.base) I.ok.mod.kin XI.oex.kC hall ?_ hpl
  refine thn ((pk_cons (nm := some "value") (kpos := kp) he pk_nil).run pos pins s σ H (fun vs H1 => match vs with | [v] => ∀ a H', H1 a = none → Same H1 H' → ErrAt H' a C v → Q (.ref a) H' | _ => False) I h) fun ws s2 ⟨zs, H2, I2, rz, q2⟩ => ⟨I2.kIn, ?_⟩
  rw [hks]
  cases rz with
  | nil => exact q2.elim
  | cons r1 rn =>
    cases rn with
    | nil => exact run_exc XI hr I2 (us := []) (by show 0 ≤ 1000; decide) r1 (fun s e KX => bind_K XI s e _ KX) q2
    | cons _ _ => exact q2.elim
/-- error.value -/
def tVal (K : PySem.W.Frag) (to : TE) : TE := fun σ H Q => to σ H fun x H1 => ∃ a C v, x = .ref a ∧ ErrAt H1 a C v ∧ XfC K C ∧ PySem.W.findIn K (.ref C) "value" = some none ∧ Q v H1
theorem pe_val {o : Expr} {to : TE} (ho : PE X o to) (hb : attributeBase o "value" X.env (eval o X.env) = eval o X.env := by rfl) : PE X (.Attribute o "value" pos) (tVal X.K to) := by
  refine ⟨fun pins s σ H Q I h => ?_⟩
  refine attr_of hb (thn (ho.run pins s σ H _ I h) fun u s1 hh => ?_)
  obtain ⟨x, H1, I1, rx, a, C, v, ex, ⟨d, ea, ed⟩, XF, noV, q⟩ := hh
  subst ex
  obtain rfl : u = Value.ref a := rx
  obtain ⟨t1, hoe⟩ := exo_at I1.hok ea
  obtain ⟨mA, hns, hrl⟩ := exd_at I1.hok ed
  obtain ⟨od, hod, hl⟩ := lookIn_ns hns
  obtain ⟨u, hu, ru⟩ := RelO.some_of (v := v) (o := mA "value") (by simpa [List.lookup] using hrl "value")
  have J : PySem.W.InstAt s1.heap a { cls := .ref C, dict := some d, data := .fields #[.ref t1, .none, .none, .none, .bool false, .none] } C (some od) := ⟨hoe, rfl, rfl, hod⟩
  exact HandSPX.exc_get I1.kIn J XF.ga XF.gg XF.exC (PySem.W.findObj_own XF.hdC noV rfl (by rw [hl, hu])) (handed_of ru) ⟨v, H1, I1.tok _, ru, q⟩
end
end EVX
namespace EVX
open PySem PySem.Spec PyProof.Rows L2
/-- an error object of the class C at a, with its field or without one -/
def ErrO (H : Hp) (a C : Addr) : Prop := (∃ v, ErrAt H a C v) ∨ H a = some (ExO (.ref C) a)
theorem ErrO.inst {X : Cx} {pins : List (Addr × Obj)} {σ : L2.St} {H : Hp} {s : Shared} (I : Inv X pins σ H s) {a C : Addr} (h : ErrO H a C) : ∃ (ox : Obj) (od : Option Obj), PySem.W.InstAt s.heap a ox C od := by
  rcases h with ⟨v, d, ea, ed⟩ | ea
  · obtain ⟨t1, hoe⟩ := exo_at I.hok ea
    obtain ⟨mA, hns, hrl⟩ := exd_at I.hok ed
    obtain ⟨od, hod, hl⟩ := lookIn_ns hns
    exact ⟨_, some od, hoe, rfl, rfl, hod⟩
  · obtain ⟨⟨oe, vs, ho, hz, hd, _⟩, _, _⟩ := I.hok a _ ea
    exact ⟨oe, none, ho, hz.1, by unfold PySem.W.notCls; rw [hd], by rw [hz.2]; trivial⟩
/-- isinstance(e, c), e an error -/
def rIsErr (K : PySem.W.Frag) : List V → Hp → VK → Prop := fun xs H Q => ∃ (a C : Addr) (c : V) (u : Value) (b : Bool), xs = [.ref a, c] ∧ ErrO H a C ∧ ExcC K C ∧ ClsV c u ∧ PySem.W.kitOne K (.ref C) u = some b ∧ Q (.bl b) H
theorem call_isErr {X : Cx} : CallR X (.builtin "isinstance") (rIsErr X.K) := by
  intro pins s σ H xs us Q I r h
  obtain ⟨a, C, c, u, b, rfl, ho, T, k, e, q⟩ := h
  obtain ⟨u1, u2, rfl, r1, r2⟩ := vals2 r
  have e2 := k.eq r2
  subst e2
  obtain rfl : u1 = Value.ref a := r1
  obtain ⟨ox, od, J⟩ := ho.inst I
  obtain ⟨cd, hc, _⟩ := PySem.W.any_some T.hd
  exact PySem.W.kia_one (PySem.W.kitx_exc (x := a) (ox := ox) (od := od) (by rw [hc]; rfl) T.hg T.hk T.hs T.ha T.hn T.ht T.hm) I.kIn J e (fun z => nomatch z) fun tk => ⟨.bl b, H, I.tok tk, rfl, q⟩
/-- X(), no __init__ of its own -/
theorem pe_exp0 {X : Cx} {C : Addr} {bmB : List Value} {B newId initId : String} {x : Str} {p pos : Pos} (F : ExcBaseFacts B newId initId bmB) (q : PySem.W.excIn X.K C bmB newId = true) (gC : X.mg x = some (.ref C)) (kC : PySem.W.keepIn X.K (.ref C) = true) (hg : Gl X x)
    (hdb : (x == ("__debug__" : Str)) = false := by decide) : PE X (.Call (.Name x p) [] [] pos) (fun σ H Q => ∀ a H', H a = none → Same H H' → H' a = some (ExO (.ref C) a) → Q (.ref a) H') := by
  refine ⟨fun pins s σ H Q I h => ?_⟩
  refine wpAny_Call_Name_kw (ld_glob I hg gC ?_ hdb)
  refine PySem.W.callWith_K0 I.kIn kC ?_
  show wpAny _ _ (call (.ref C) []) _ _ _
  obtain ⟨bm, N, nm, qn, bs, hdct, sn, sub, ab, col, dd, k0, k1, k2, k3, k5, mN, hC, hN, hni, T⟩ := exc_obj I.kIn q
  refine wpAny_call_exc_subT F T hC hN hni (fun h' a hm => ?_) (by show 0 ≤ sizeLine; exact Nat.zero_le _)
  have hn : H a = none := I.hok.gone hm.new
  obtain ⟨t, ht, _, _⟩ := hm.there
  exact ⟨.ref a, upd H a (ExO (.ref C) a), I.laidN hm.keeps hm.new hn (exO_ok ht ⟨rfl, rfl⟩ rfl rfl rfl (show 4 < 6 by decide)), rfl, h a _ hn (fun b o e => by rw [upd_ne (ne_of_none e hn)]; exact e) upd_same⟩
/-! ### data, dicts among them -/
def kD : Key → PyData
  | .inl i => .int i
  | .inr x => .str x
mutual
inductive Dq (K : PySem.W.Frag) (H : Hp) : V → PyData → Prop
  | non : Dq K H .non .none
  | bl (b : Bool) : Dq K H (.bl b) (.bool b)
  | int (i : Int) : Dq K H (.int i) (.int i)
  | str (x : Str) : Dq K H (.str x) (.str x)
  | lst {a : Addr} {xs : List V} {ds : List PyData} : SqL K H a xs → DqAll K H xs ds → Dq K H (.ref a) (.list ds)
  | tup {a : Addr} {xs : List V} {ds : List PyData} : SqT K H a xs → DqAll K H xs ds → Dq K H (.ref a) (.tuple ds)
  | dic {a : Addr} {kvs : List (Key × V)} {es : List (PyData × PyData)} : H a = some (.dK kvs) → DqKv K H kvs es → Dq K H (.ref a) (.dict es)
inductive DqAll (K : PySem.W.Frag) (H : Hp) : List V → List PyData → Prop
  | nil : DqAll K H [] []
  | cons {v : V} {vs : List V} {d : PyData} {ds : List PyData} : Dq K H v d → DqAll K H vs ds → DqAll K H (v :: vs) (d :: ds)
inductive DqKv (K : PySem.W.Frag) (H : Hp) : List (Key × V) → List (PyData × PyData) → Prop
  | nil : DqKv K H [] []
  | cons {k : Key} {v : V} {kvs : List (Key × V)} {d : PyData} {es : List (PyData × PyData)} : Dq K H v d → DqKv K H kvs es → DqKv K H ((k, v) :: kvs) ((kD k, d) :: es)
end
mutual
theorem Dq.same {K : PySem.W.Frag} {H H' : Hp} (s : Same H H') : ∀ (d : PyData) (v : V), Dq K H v d → Dq K H' v d
  | .none, _, h => by cases h; exact .non
  | .bool _, _, h => by cases h; exact .bl _
  | .int _, _, h => by cases h; exact .int _
  | .str _, _, h => by cases h; exact .str _
  | .list ds, _, h => by
    cases h with
    | lst h1 h2 => exact .lst (s.seq h1) (DqAll.same s ds _ h2)
  | .tuple ds, _, h => by
    cases h with
    | tup h1 h2 => exact .tup (Evl.ex_t s h1) (DqAll.same s ds _ h2)
  | .dict es, _, h => by
    cases h with
    | dic h1 h2 => exact .dic (s _ _ h1) (DqKv.same s es _ h2)
theorem DqAll.same {K : PySem.W.Frag} {H H' : Hp} (s : Same H H') : ∀ (ds : List PyData) (vs : List V), DqAll K H vs ds → DqAll K H' vs ds
  | [], _, h => by cases h; exact .nil
  | d :: ds, _, h => by
    cases h with
    | cons h1 h2 => exact .cons (Dq.same s d _ h1) (DqAll.same s ds _ h2)
theorem DqKv.same {K : PySem.W.Frag} {H H' : Hp} (s : Same H H') : ∀ (es : List (PyData × PyData)) (kvs : List (Key × V)), DqKv K H kvs es → DqKv K H' kvs es
  | [], _, h => by cases h; exact .nil
  | (_, d) :: es, _, h => by
    cases h with
    | cons h1 h2 => exact .cons (Dq.same s d _ h1) (DqKv.same s es _ h2)
end
/-- the modules' dict stands in the written part -/
def SysIn (K : PySem.W.Frag) : Prop := ∃ o, K.lookup sysModules = some o ∧ o.cls = .type "dict"
section
variable {X : Cx} {pins : List (Addr × Obj)} {σ : L2.St} {H : Hp} {s : Shared}
theorem key_reads {k : Key} {v : Value} {h : Heap} (e : keyIs k v = true) : Reads h v (kD k) [] := by
  rcases keyIs_shape e with ⟨i, t, rfl, rfl⟩ | ⟨x, t, rfl, rfl⟩
  · exact .int i t
  · exact .str x t
theorem not_sys_l (I : Inv X pins σ H s) (S : SysIn X.K) {a : Addr} {o : Obj} (e : s.heap.get? a = some o) (c : o.cls ≠ .type "dict") : sysModules ≠ a := fun z => by
  obtain ⟨u, hu, cu⟩ := S
  have q := I.kIn _ _ hu
  rw [z, e] at q
  cases q
  exact c cu
mutual
theorem Dq.reads (I : Inv X pins σ H s) (S : SysIn X.K) : ∀ (d : PyData) (v : V) (u : Value), Dq X.K H v d → RelV v u → ∃ as, Reads s.heap u d as ∧ sysModules ∉ as
  | .none, _, _, h, r => by
    cases h
    cases r
    exact ⟨_, .none, by simp⟩
  | .bool b, _, _, h, r => by
    cases h
    cases r
    exact ⟨_, .bool b, by simp⟩
  | .int i, _, _, h, r => by
    cases h
    obtain ⟨t, rfl⟩ := r
    exact ⟨_, .int i t, by simp⟩
  | .str x, _, _, h, r => by
    cases h
    obtain ⟨t, rfl⟩ := r
    exact ⟨_, .str x t, by simp⟩
  | .list ds, _, _, h, r => by
    cases h with
    | @lst a xs _ hs ha =>
      cases r
      obtain ⟨its, rv, ⟨o, n, ho, hc, _, hd⟩, _⟩ := I.list hs
      obtain ⟨as, hr, hn⟩ := DqAll.reads I S ds _ its ha rv
      exact ⟨_, .list ho hc hd hr, by
        simp only [List.mem_cons, not_or]
        exact ⟨not_sys_l I S ho (by rw [hc]; decide), hn⟩⟩
  | .tuple ds, _, _, h, r => by
    cases h with
    | @tup a xs _ hs ha =>
      cases r
      obtain ⟨its, rv, ⟨o, ho, hc, n, hd⟩, _⟩ := I.tuple hs
      obtain ⟨as, hr, hn⟩ := DqAll.reads I S ds _ its ha rv
      exact ⟨_, .tuple ho hc hd hr, hn⟩
  | .dict es, _, _, h, r => by
    cases h with
    | @dic a kvs _ ha hk =>
      cases r
      obtain ⟨_, hsys, vs, rv, o, ee, ep, ho, hc, hd, _, hp, _⟩ := I.hok a _ ha
      obtain ⟨as, bs, h1, h2, h3, h4⟩ := DqKv.reads I S es kvs vs _ hk rv hp
      refine ⟨_, .dict ho hc.1 hd h1 h2, ?_⟩
      simp only [List.mem_append, List.mem_cons, not_or]
      exact ⟨⟨fun z => by rw [← z] at hsys; simp at hsys, h3⟩, h4⟩
theorem DqAll.reads (I : Inv X pins σ H s) (S : SysIn X.K) : ∀ (ds : List PyData) (vs : List V) (us : List Value), DqAll X.K H vs ds → Vals vs us → ∃ as, ReadsAll s.heap us ds as ∧ sysModules ∉ as
  | [], _, _, h, r => by
    cases h
    cases r
    exact ⟨_, .nil, by simp⟩
  | d :: ds, _, _, h, r => by
    cases h with
    | cons h1 h2 =>
      cases r with
      | cons r1 r2 =>
        obtain ⟨as, q1, n1⟩ := Dq.reads I S d _ _ h1 r1
        obtain ⟨bs, q2, n2⟩ := DqAll.reads I S ds _ _ h2 r2
        exact ⟨_, .cons q1 q2, by simp only [List.mem_append, not_or]; exact ⟨n1, n2⟩⟩
theorem DqKv.reads (I : Inv X pins σ H s) (S : SysIn X.K) : ∀ (es : List (PyData × PyData)) (kvs : List (Key × V)) (vs : List (Key × Value)) (ee : List DictEntry), DqKv X.K H kvs es → KV kvs vs → Pairs (mixKind X.prog X.w) ee vs →
    ∃ as bs, ReadsAll s.heap (ee.map (·.key)) (es.map (·.1)) as ∧ ReadsAll s.heap (ee.map (·.val)) (es.map (·.2)) bs ∧ sysModules ∉ as ∧ sysModules ∉ bs
  | [], _, _, _, h, r, p => by
    cases h
    cases r
    cases p
    exact ⟨_, _, .nil, .nil, by simp, by simp⟩
  | (_, d) :: es, _, _, _, h, r, p => by
    cases h with
    | cons h1 h2 =>
      cases r with
      | cons r1 r2 =>
        cases p with
        | cons p1 p2 p3 =>
          obtain ⟨bs, q1, n1⟩ := Dq.reads I S d _ _ h1 r1.2
          obtain ⟨as2, bs2, q2, q3, n2, n3⟩ := DqKv.reads I S es _ _ _ h2 r2 p3
          obtain ⟨r11, _⟩ := r1
          dsimp only at r11
          rw [← r11] at p1
          rw [← p2] at q1
          refine ⟨_, _, .cons (key_reads p1) q2, .cons q1 q3, ?_, ?_⟩
          · simpa using n2
          · simp only [List.mem_append, not_or]
            exact ⟨n1, n3⟩
end
/-- repr(x), x data -/
def rRepr (K : PySem.W.Frag) : List V → Hp → VK → Prop := fun xs H Q => ∃ v d, xs = [v] ∧ Dq K H v d ∧ d.showable = true ∧ d.shown.length ≤ sizeLine ∧ d.depth ≤ 60 ∧ Q (.str d.shown) H
theorem call_repr (hu : X.A.units + 64 < cLine) (hg : X.A.guards = some []) (S : SysIn X.K) : CallR X (.builtin "repr") (rRepr X.K) := by
  intro pins s σ H xs us Q I r h
  obtain ⟨v, d, rfl, hd, hs, hl, hp, q⟩ := h
  obtain ⟨u, rfl, rv⟩ := vals1 r
  obtain ⟨as, hr, hn⟩ := Dq.reads I S d v u hd rv
  cases hr with
  | none =>
    rw [PyData.shown_none] at q
    exact PySem.P.repr_of_none ⟨.str _, H, I.tok _, ⟨_, rfl⟩, q⟩
  | bool b =>
    rw [PyData.shown_bool] at q
    exact PySem.P.repr_of_bool ⟨.str _, H, I.tok _, ⟨_, rfl⟩, q⟩
  | int i t =>
    rw [PyData.shown_int] at q
    exact PySem.P.repr_of_int (by simpa [PyData.showable] using hs) ⟨.str _, H, I.tok _, ⟨_, rfl⟩, q⟩
  | str x t =>
    rw [PyData.shown_str] at q hl
    exact PySem.P.repr_of_str ⟨.str _, H, I.tok _, ⟨_, rfl⟩, q⟩ hl
  | list h1 h2 h3 h4 => exact repr_of_reads' (.list h1 h2 h3 h4) hs (fun _ => hn) hg (by omega) (fun _ _ e => e) (fun h' u tk k => ⟨.str _, H, I.kept (t' := tk) k, ⟨_, rfl⟩, q⟩) hl
  | tuple h1 h2 h3 h4 => exact repr_of_reads' (.tuple h1 h2 h3 h4) hs (fun _ => hn) hg (by omega) (fun _ _ e => e) (fun h' u tk k => ⟨.str _, H, I.kept (t' := tk) k, ⟨_, rfl⟩, q⟩) hl
  | dict h1 h2 h3 h4 h5 => exact repr_of_reads' (.dict h1 h2 h3 h4 h5) hs (fun _ => hn) hg (by omega) (fun _ _ e => e) (fun h' u tk k => ⟨.str _, H, I.kept (t' := tk) k, ⟨_, rfl⟩, q⟩) hl
end
end EVX
/-! defs that may ask for repr: their promise holds where no repr is under way -/
namespace EVX
open PySem PySem.Spec PyProof.Rows L2
structure FnG (P : Program) (w : World) (K : PySem.W.Frag) (mg : Str → Option Value) (base : Heap) (k : Nat) (f : Addr) (fd : FuncData) (ps : List Str) (sp : Sp) : Prop where
  len : ∀ vs H Q E, sp vs H Q E → vs.length = ps.length
  run : ∀ (A : Around) (outer : List Env) (s : Shared) (H : Hp) (args : Args) (us : List Value) (vs : List V) (Q : VK) (E : XK), Room k A → A.guards = some [] → Env0 P w K mg base A outer s H → BindsTo s fd args (ps.zip us) → Vals vs us → sp vs H Q E →
    codeAny (model P w) A (.call (.ref f) args) (CR CX0 outer P w H s Q E) s
section
variable {P : Program} {w : World} {K : PySem.W.Frag} {mg : Str → Option Value} {base : Heap} {k : Nat} {f : Addr} {fd : FuncData} {ps : List Str} {sp : Sp}
theorem FnG.of (F : FnOk P w K mg base CX0 k f fd ps sp) : FnG P w K mg base k f fd ps sp := ⟨F.len, fun A outer s H args us vs Q E hr _ => F.run A outer s H args us vs Q E hr⟩
theorem okG {name qual : Str} {params : Arguments} {body : List Stmt} {scope : Scope} {dvs : List V} {kws : List (Str × V)} {N : List Str} (F : FunD K name qual params body scope dvs kws f fd) (S : FnScope N ps scope) (len : ∀ vs H Q E, sp vs H Q E → vs.length = ps.length)
    (hb : ∀ (cdv : Value) (A : Around) (outer : List Env) (s : Shared) (H : Hp) (vs : List V) (Q : VK) (E : XK), Room k (A.deeper (envOfC qual scope s.heap.objs.size f cdv)) → (A.deeper (envOfC qual scope s.heap.objs.size f cdv)).guards = some [] → sp vs H Q E →
      ∃ t, PSs (cxOf CX0 P w K mg base N qual scope f cdv A outer s H E).nox body t ∧ t { nx := fun _ H' => Q .non H', rt := Q } (start N vs) H) : FnG P w K mg base (k + 1) f fd ps sp := by
  obtain ⟨oc, od, dV, kV, doc, pm, an, cdv, ct, osl, rfl, lk, hcd, _, _⟩ := F.ex
  refine ⟨len, fun A outer s H args us vs Q E hr hG e0 hbn rv h => ?_⟩
  have ln := len _ _ _ _ h
  have KS : K.In s.heap := e0.mod.kin.keeps fun c o e => (e0.bs c o e).1
  refine codeAny_call_function hr.depth (KS _ _ lk) rfl S.co S.gen rfl (PySem.W.codeRec_of KS hcd) (hbn _ _ _ _ ?_)
  refine wpAny_newFunctionEnv_cells S.kind (fun ⟨n, v⟩ hy => ?_) fun env he s1 x => ?_
  · rcases S.par n (List.of_mem_zip hy).1 with q | q
    · exact Or.inl q
    · exact Or.inr ⟨q, PySem.W.cellsFrom_some _ _ _ (Or.inl q)⟩
  · subst he
    have lim : s.heap.NoLimit := e0.mod.nolimit.keeps fun c o e => (e0.bs c o e).1
    refine ⟨lim.keeps x.toInCall.keep, codeAny_func ?_⟩
    obtain ⟨t, ht, q⟩ := hb cdv A outer s H vs Q E (hr.deeper _) hG h
    have J : Inv (cxOf CX0 P w K mg base N qual scope f cdv A outer s H E) [] (start N vs) H s1 := inv_start S hr.hd e0 ln rv x
    refine wpAny_mono (ht.nox.run [] s1 (start N vs) H _ J q) (fun fl s2 hs => ?_) fun _ _ z => z
    cases fl with
    | ret u =>
      obtain ⟨v, _, H2, I2, r2, q2⟩ := hs
      exact ⟨v, H2, I2.os, I2.bare, I2.base, I2.hok, r2, q2⟩
    | next =>
      obtain ⟨_, H2, I2, q2⟩ := hs
      exact ⟨V.non, H2, I2.os, I2.bare, I2.base, I2.hok, rfl, q2⟩
    | brk =>
      obtain ⟨_, _, _, z⟩ := hs
      exact False.elim z
    | cont =>
      obtain ⟨_, _, _, z⟩ := hs
      exact False.elim z
end
section
variable {X : Cx} {k : Nat} {f : Addr} {fd : FuncData} {ps : List Str} {sp : Sp} {x : Str} {p pos : Pos} {e : Expr} {es : List Expr} {t : TA}
theorem run_G {pins : List (Addr × Obj)} {σ : L2.St} {H : Hp} {s : Shared} {Q : VK} {us : List Value} {vs : List V} (F : FnG X.prog X.w X.K X.mg X.base k f fd ps sp) (hr : Room k X.A) (hG : X.A.guards = some []) (hb : Binds X.K fd ps [])
    (I : Inv X pins σ H s) (r : Vals vs us) (h : sp vs H Q E0) : wpAny (model X.prog X.w) X.A (call (.ref f) us) (EP X pins σ Q) X.xe s := by
  have ln : (us ++ []).length = ps.length := by rw [List.append_nil, ← r.length]; exact F.len _ _ _ _ h
  have b := hb s us I.kIn ln
  rw [List.append_nil] at b
  refine wpAny_call (codeAny_mono (F.run X.A X.stack s H ⟨us, []⟩ us vs Q E0 hr hG I.env0 b r h) fun r s2 hq => ?_)
  match r, hq with
  | .ok (.ret u), hq => exact I.after hq
/-- f(e, ..) -/
theorem pe_callG (F : FnG X.prog X.w X.K X.mg X.base k f fd ps sp) (hr : Room k X.A) (hG : X.A.guards = some []) (hg : Gl X x) (hm : X.mg x = some (.ref f)) (hk : PySem.W.keepIn X.K (.ref f) = true) (hb : Binds X.K fd ps [])
    (ha : PA X (e :: es) t) (hdb : (x == ("__debug__" : Str)) = false := by decide) (he : starEach (e :: es) X.env = (false, eval e X.env) :: starEach es X.env := by rfl) (hpl : (backTo pos (starEach es X.env)).any (·.1) = false := by rfl) :
    PE X (.Call (.Name x p) (e :: es) [] pos) (fun σ H Q => t σ H fun vs H1 => sp vs H1 Q E0) := by
  refine ⟨fun pins s σ H Q I h => wpAny_Call_Name_kw (ld_glob I hg hm ?_ hdb)⟩
  exact PySem.W.callWith_K (h₀ := X.base) I.ok.mod.kin hk (thn (ha.run pos pins s σ H _ I h) fun us s1 ⟨vs, H1, I1, r, q⟩ => ⟨I1.kIn, run_G F hr hG hb I1 r q⟩) he hpl
end
/-! ### the end -/
theorem law_G {P : Program} {w : World} {K : PySem.W.Frag} {mg mb : Str → Option Value} {k : Nat} {fa a : Addr} {fd : FuncData} {x : Str} {sp : Sp} {s1 : Shared} {vs : List Value} {ns : List Int}
    (KX : K.In s1.heap) (gm : s1.heap.Ns mainGlobals mg) (bm : s1.heap.Ns builtinsNs mb) (bb : ∀ y : Str, y ≠ "__name__" → mb y = bootBuiltins y) (lim : s1.heap.NoLimit) (g0 : s1.gens = #[])
    (ha : s1.heap.get? a = some { cls := .type "list", data := .seq vs.toArray }) (hi : IntsAre vs ns) (hl : ns.length ≤ sizeLine) (hr : Room k callerA) (Ka : K.lookup a = none)
    (F : ∀ base : Heap, K.In base → base.Ns mainGlobals mg → FnG P w K mg base k fa fd [x] sp) (bd : ∀ (s : Shared) (u : Value), BindsTo s fd ⟨[u], []⟩ [(x, u)])
    (hsp : ∀ H : Hp, SqL K H a (ns.map V.int) → sp [.ref a] H (fun v _ => v = .bl true) E0) :
    codeAny (model P w) callerA (.call (.ref fa) ⟨[.ref a], []⟩) (fun r s' => r = .ok (.ret (.bool true)) ∧ OldK s1.heap s'.heap ∧ s'.os = s1.os ∧ AllBare s'.gens) s1 := by
  have rv := vals_ints hi
  generalize eo : ({ cls := .type "list", data := .seq vs.toArray } : Obj) = ob at ha
  have od : ob.data = .seq vs.toArray := by rw [← eo]
  let H : Hp := fun b => if b = a then some (.frz ob (.lst (ns.map V.int))) else none
  have Ha : H a = some (.frz ob (.lst (ns.map V.int))) := if_pos rfl
  have Hn : ∀ b, b ≠ a → H b = none := fun b n => if_neg n
  have hok : HOk P w H s1.heap := fun b u e => by
    by_cases c : b = a
    · subst c
      rw [Ha] at e
      cases e
      exact ⟨ha, by rw [List.length_map]; exact hl, vs, _, rv, by rw [ha, ← eo]⟩
    · rw [Hn b c] at e
      cases e
  have dn : ∀ {b : Addr} {o : Obj} {es : Array DictEntry} {ep : Nat}, s1.heap.get? b = some o → o.data = .dict es ep → b ≠ a := fun {b o es ep} e d z => by
    rw [z, ha] at e
    cases e
    rw [od] at d
    cases d
  have bs : ∀ {b : Addr} {o : Obj}, b ≠ a → s1.heap.get? b = some o → (hidT s1.heap H).get? b = some o := fun n e => hidT_get e (Hn _ n)
  have ks : ∀ {b : Addr} {m : Str → Option Value}, s1.heap.Ns b m → (hidT s1.heap H).Ns b m := fun {b m} q => by
    obtain ⟨o, es, ep, e, d, r⟩ := q
    exact ⟨o, es, ep, bs (dn e d) e, d, r⟩
  have KB : K.In (hidT s1.heap H) := fun b o e => bs (fun z => by rw [z, Ka] at e; cases e) (KX b o e)
  obtain ⟨mc, l1, l2⟩ := lim
  have M : Mod K mg (hidT s1.heap H) := { kin := KB, glob := ks gm, blt := ⟨mb, ks bm, bb⟩, nolimit := ⟨mc, ks l1, l2⟩ }
  have e0 : Env0 P w K mg (hidT s1.heap H) callerA [] s1 H := { frames := rfl, mod := M, bs := fun b o e => of_hidT e, bsz := Nat.le_of_eq (hidT_size _ _), funs := trivial, frf := fun b z => absurd (show b ∈ ([] : List Addr) from z) (by simp), hok := hok, bare := .of_eq g0 }
  refine codeAny_mono ((F _ KB (ks gm)).run callerA [] s1 H ⟨[.ref a], []⟩ [.ref a] [.ref a] _ E0 hr rfl e0 (bd s1 (.ref a)) (.cons rfl .nil) (hsp H (.inl (.inr ⟨ob, Ha⟩)))) fun r s2 h => ?_
  match r, h with
  | .ok (.ret u), h =>
    obtain ⟨v, H2, os, bare, un, hok2, r2, q2⟩ := h
    have q3 : v = .bl true := q2
    subst q3
    obtain rfl : u = Value.bool true := r2
    refine ⟨rfl, OldK.of_keep fun b o e => ?_, os, bare⟩
    by_cases c : b = a
    · subst c
      have z := un.frzs b ob _ Ha
      obtain ⟨y, _⟩ := hok2 b _ z
      rw [ha] at e
      cases e
      exact y
    · exact un.keep b o e (Hn b c) (fun z => absurd (show b ∈ ([] : List Addr) from z) (by simp)) (by simp)
theorem walk_G {l : PySem.W.OpenLaw} {n k : Nat} {q : Program} {loose : List Str} {XP : (Str → Option Value) → Heap → Prop} {YP : World → Heap → Prop} {d : DefRec} {x : Str} (hn : l.most = some n) (hn2 : n ≤ sizeLine) (hdf : d.params.defaults = []) (hr : Room k callerA)
    (F : ∀ (w : World) (mg : Str → Option Value) (fa : Addr) (h : Heap), YP w h → h.Ns mainGlobals mg → mg d.name = some (.ref fa) →
      ∃ (K : PySem.W.Frag) (fd : FuncData) (sp : Sp), K.In h ∧ (∀ a o, K.lookup a = some o → o.cls ≠ .type "list") ∧ (∀ (s : Shared) (u : Value), BindsTo s fd ⟨[u], []⟩ [(x, u)]) ∧
        (∀ (H : Hp) (a : Addr) (ns : List Int), ns.length ≤ n → SqL K H a (ns.map V.int) → sp [.ref a] H (fun v _ => v = .bl true) E0) ∧ ∀ base : Heap, K.In base → base.Ns mainGlobals mg → FnG l.prog w K mg base k fa fd [x] sp) :
    PySem.W.WalkO q loose XP YP l.row.toRowW d [] (fun f vs => PySem.call f vs) := by
  refine Att.attach_call hn hdf fun w s0 s1 mg mb fa o pm cd doc a vs ns G Y ho hd hcd hmg hobj hints hlen hg => ?_
  obtain ⟨K, fd, sp, KX, hL, hb, hsp, hF⟩ := F w mg fa _ Y G.T.g hmg
  refine law_G KX G.T.g G.T.b G.T.builtins G.T.nolimit hg hobj hints (Nat.le_trans hlen hn2) hr ?_ hF hb (fun H hS => hsp H a ns hlen hS)
  cases e : K.lookup a with
  | none => rfl
  | some u =>
    have z := KX a u e
    rw [hobj] at z
    cases z
    exact absurd rfl (hL a _ e)
end EVX
namespace EV
open PySem L2 EVX
abbrev s_first : Stmt := top 40
abbrev s_called : Stmt := top 41
abbrev s_bare : Stmt := top 42
abbrev s_code : Stmt := top 43
def cls : List Str := ["InvalidWord", "InvalidBook", "InvalidEffect", "InvalidManner", "InvalidManners", "InvalidRooms", "InvalidManual", "InvalidManuals", "InvalidChange", "InvalidChanges", "InvalidRoom", "InvalidWay", "InvalidCount", "InvalidCard", "InvalidMark", "InvalidExpression", "InvalidTable", "InvalidRests", "InvalidRule", "InvalidLot", "InvalidMending", "InvalidHouse", "InvalidSpot", "InvalidScript", "InvalidText", "InvalidLog", "Refused", "TooMany", "InvalidEndless", "NothingToUndo", "NothingToRedo", "PurseError"]
/-- what the written part tells of the classes -/
structure Tx (K : PySem.W.Frag) (P : Program) (mg : Str → Option Value) (C fI : Nat → Addr) (fd : Nat → FuncData) : Prop where
  g : ∀ i, i < 32 → mg (cls.getD i "") = some (.ref (C i))
  xi : ∀ i, i < 29 → XcI K P (C i) (fI i) (fd i)
  xf : ∀ i, i < 29 → XfC K (C i)
  ex : ∀ i, i < 32 → ExcC K (C i)
  kk : ∀ i j, i < 32 → j < 32 → PySem.W.kitOne K (.ref (C i)) (.ref (C j)) = some (decide (i = j ∨ j = 31))
  kv : ∀ i, i < 32 → PySem.W.kitOne K (.ref (C i)) (.type "ValueError") = some true
  ei : ∀ i, 29 ≤ i → i < 32 → PySem.W.excIn K (C i) He.veBase "ValueError.__new__" = true ∧ PySem.W.keepIn K (.ref (C i)) = true
/-! ### lists that are put together piece by piece -/
def tEs (el : Nat → TE) : List Nat → TA
  | [] => tNil
  | j :: js => tCons (el j) (tEs el js)
def RowAt (Pv : Nat → V → Hp → Prop) (js : List Nat) (xs : List V) (H : Hp) : Prop := xs.length = js.length ∧ ∀ (i j : Nat) (x : V), js[i]? = some j → xs[i]? = some x → Pv j x H
def Mono (Pv : Nat → V → Hp → Prop) : Prop := ∀ j x H H', Same H H' → Pv j x H → Pv j x H'
theorem RowAt.same {Pv : Nat → V → Hp → Prop} (m : Mono Pv) {js : List Nat} {xs : List V} {H H' : Hp} (s : Same H H') (r : RowAt Pv js xs H) : RowAt Pv js xs H' := ⟨r.1, fun i j x a b => m j x H H' s (r.2 i j x a b)⟩
theorem RowAt.app {Pv : Nat → V → Hp → Prop} {js ks : List Nat} {xs ys : List V} {H : Hp} (r : RowAt Pv js xs H) (q : RowAt Pv ks ys H) : RowAt Pv (js ++ ks) (xs ++ ys) H := by
  refine ⟨by rw [List.length_append, List.length_append, r.1, q.1], fun i j x a b => ?_⟩
  by_cases h : i < js.length
  · rw [List.getElem?_append_left h] at a
    rw [List.getElem?_append_left (by rw [r.1]; exact h)] at b
    exact r.2 i j x a b
  · rw [List.getElem?_append_right (by omega)] at a
    rw [List.getElem?_append_right (by rw [r.1]; omega), r.1] at b
    exact q.2 _ j x a b
theorem es_read {el : Nat → TE} {Pv : Nat → V → Hp → Prop} {σ : St} {m : Nat} {Hb : Hp} (mo : Mono Pv) (hel : ∀ j H Q, Same Hb H → j < m → (∀ x H', Same H H' → Pv j x H' → Q x H') → el j σ H Q) : ∀ (js : List Nat) (H : Hp) (Q : List V → Hp → Prop), Same Hb H → (∀ j ∈ js, j < m) → (∀ xs H', Same H H' → RowAt Pv js xs H' → Q xs H') → tEs el js σ H Q
  | [], H, Q, _, _, h => h [] H (Same.refl H) ⟨rfl, by simp⟩
  | j :: js, H, Q, sb, hj, h => hel j H _ sb (hj j List.mem_cons_self) fun x H1 s1 p1 => es_read mo hel js H1 _ (sb.trans s1) (fun k hk => hj k (List.mem_cons_of_mem _ hk)) fun xs H2 s2 r2 => h (x :: xs) H2 (s1.trans s2) ⟨by rw [List.length_cons, List.length_cons, r2.1], fun i k y a b => by
      cases i with
      | zero =>
        simp at a b
        subst a b
        exact mo _ _ _ _ s2 p1
      | succ i => exact r2.2 i k y (by simpa using a) (by simpa using b)⟩
def tFirst (el : Nat → TE) (i : Nat) (js : List Nat) (u : TS) : TS := tSeq (tAsg (tLst (tEs el js)) (gName i)) u
def tChunks (el : Nat → TE) (i : Nat) : List (List Nat) → TS → TS
  | [], u => u
  | js :: r, u => tSeq (tAsg (tOp rCat (tVar i) (tLst (tEs el js))) (gName i)) (tChunks el i r u)
theorem new_same {H : Hp} {p : Addr} {o : HO} (h : H p = none) : Same H (L2.upd H p o) := fun b u e => by
  rw [upd_ne (ne_of_none e h)]
  exact e
theorem chunks_read {el : Nat → TE} {Pv : Nat → V → Hp → Prop} {i m : Nat} {S : Addr → St} {Hb : Hp} (mo : Mono Pv) (hS : ∀ l, (S l)[i]? = some (some (.ref l))) (hS2 : ∀ l l', (S l).set i (some (.ref l')) = S l')
    (hel : ∀ l j H Q, Same Hb H → j < m → (∀ x H', Same H H' → Pv j x H' → Q x H') → el j (S l) H Q) {u : TS} {D : Ends} : ∀ (jss : List (List Nat)) (ks : List Nat) (l : Addr) (xs : List V) (H : Hp), Same Hb H → (∀ js ∈ jss, ∀ j ∈ js, j < m) → ks.length + (jss.map List.length).sum ≤ 1000 →
      H l = some (.lst xs) → Hb l = none → RowAt Pv ks xs H → (∀ l' xs' H', Same H H' → Hb l' = none → H' l' = some (.lst xs') → RowAt Pv (ks ++ jss.flatten) xs' H' → u D (S l') H') → tChunks el i jss u D (S l) H
  | [], ks, l, xs, H, _, _, _, hl, hn, r, h => h l xs H (Same.refl H) hn hl (by simpa using r)
  | js :: jss, ks, l, xs, H, sb, hj, hz, hl, hn, r, h => by
    refine ⟨.ref l, hS l, ?_⟩
    refine es_read mo (hel l) js H _ sb (hj js List.mem_cons_self) fun ys H1 s1 r1 => ?_
    have z1 : ks.length + js.length ≤ 1000 := by
      rw [List.map_cons, List.sum_cons] at hz
      omega
    refine ⟨by rw [r1.1, PySem.sizeLine_eq]; omega, fun p hp => ?_⟩
    refine ⟨l, p, xs, ys, rfl, rfl, new_same hp l _ (s1 l _ hl), upd_same, by rw [r1.1, r.1, PySem.sizeLine_eq]; omega, fun q hq => ?_⟩
    show tChunks el i jss u D ((S l).set i (some (.ref q))) _
    rw [hS2]
    have s2 : Same H (L2.upd (L2.upd H1 p (.lst ys)) q (.lst (xs ++ ys))) := s1.trans ((new_same hp).trans (new_same hq))
    refine chunks_read mo hS hS2 hel jss (ks ++ js) q (xs ++ ys) _ (sb.trans s2) (fun a b => hj a (List.mem_cons_of_mem _ b)) (by rw [List.map_cons, List.sum_cons] at hz; rw [List.length_append]; omega) upd_same ((sb.trans (s1.trans (new_same hp))).free hq) ((r.same mo s2).app (r1.same mo ((new_same hp).trans (new_same hq)))) fun l' xs' H' s3 n3 e3 r3 => h l' xs' H' (s2.trans s3) n3 e3 ?_
    rw [List.flatten_cons, ← List.append_assoc]
    exact r3
theorem first_read {el : Nat → TE} {Pv : Nat → V → Hp → Prop} {i m : Nat} {S : Addr → St} {σ0 : St} {Hb : Hp} (mo : Mono Pv) (hS : ∀ l, σ0.set i (some (.ref l)) = S l) (hel : ∀ j H Q, Same Hb H → j < m → (∀ x H', Same H H' → Pv j x H' → Q x H') → el j σ0 H Q) {u : TS} {D : Ends} {js : List Nat} {H : Hp}
    (sb : Same Hb H) (hj : ∀ j ∈ js, j < m) (hz : js.length ≤ 1000) (h : ∀ l xs H', Same H H' → Hb l = none → H' l = some (.lst xs) → RowAt Pv js xs H' → u D (S l) H') : tFirst el i js u D σ0 H := by
  refine es_read mo hel js H _ sb hj fun xs H1 s1 r1 => ?_
  refine ⟨by rw [r1.1, PySem.sizeLine_eq]; omega, fun p hp => ?_⟩
  show u D (σ0.set i (some (.ref p))) _
  rw [hS]
  exact h p xs _ (s1.trans (new_same hp)) ((sb.trans s1).free hp) upd_same (r1.same mo (new_same hp))
section
variable {P : Program} {w : World} {K : PySem.W.Frag} {mg : Str → Option Value} {base : Heap} {f : Addr} {fd0 : FuncData} {C fI : Nat → Addr} {fd : Nat → FuncData}
def ErrP (C : Nat → Addr) (v : V) : Nat → V → Hp → Prop := fun j x H => ∃ a, x = .ref a ∧ ErrAt H a (C j) v
/-- a list of the twenty-nine errors of v -/
def ErrsAt (C : Nat → Addr) (v : V) (H : Hp) (l : Addr) : Prop := ∃ xs, H l = some (.lst xs) ∧ RowAt (ErrP C v) (List.range 29) xs H
theorem errs_mono {v : V} : Mono (ErrP C v) := fun j x H H' s => by
  rintro ⟨a, rfl, d, h1, h2⟩
  exact ⟨a, rfl, d, s _ _ h1, s _ _ h2⟩
def sp_errs (C : Nat → Addr) : Sp := fun vs H Q _ => ∃ v, vs = [v] ∧ ∀ l H', Same H H' → ErrsAt C v H' l → Q (.ref l) H'
def sp_bare (C : Nat → Addr) : Sp := fun vs H Q _ => vs = [] ∧ ∀ l H', Same H H' → ErrsAt C .non H' l → Q (.ref l) H'
theorem sc_first : FnScope ["thing", "found"] ["thing"] (defScope s_first) := ⟨rfl, rfl, rfl, by decide +kernel, rfl, by decide +kernel, by decide +kernel⟩
theorem ok_first (F : FnP K "_law_first" s_first f fd0) (T : Tx K P mg C fI fd) : FnOk P w K mg base CX0 3 f fd0 ["thing"] (sp_errs C) := by
  refine F.ok sc_first (fun vs H Q E h => ?_) (fun cdv A outer s H vs Q E hr h => ?_)
  · obtain ⟨v, rfl, _⟩ := h
    rfl
  · obtain ⟨v, rfl, k⟩ := h
    refine ⟨_, PSs.nox (pss_cons (ps_set (i := 1) sc_first.nd rfl (Or.inl rfl) (pe_lst (pa_cons (pe_exc1 (T.xi 0 (by decide)) hr rfl (T.g 0 (by decide)) (pv 0)) (pa_cons (pe_exc1 (T.xi 1 (by decide)) hr rfl (T.g 1 (by decide)) (pv 0)) (pa_cons (pe_exc1 (T.xi 2 (by decide)) hr rfl (T.g 2 (by decide)) (pv 0)) (pa_cons (pe_exc1 (T.xi 3 (by decide)) hr rfl (T.g 3 (by decide)) (pv 0)) pa_nil))))))
      (pss_cons (ps_set (i := 1) sc_first.nd rfl (Or.inl rfl) (pe_op op_cat (pv 1) (pe_lst (pa_cons (pe_exc1 (T.xi 4 (by decide)) hr rfl (T.g 4 (by decide)) (pv 0)) (pa_cons (pe_exc1 (T.xi 5 (by decide)) hr rfl (T.g 5 (by decide)) (pv 0)) (pa_cons (pe_exc1 (T.xi 6 (by decide)) hr rfl (T.g 6 (by decide)) (pv 0)) (pa_cons (pe_exc1 (T.xi 7 (by decide)) hr rfl (T.g 7 (by decide)) (pv 0)) pa_nil)))))))
      (pss_cons (ps_set (i := 1) sc_first.nd rfl (Or.inl rfl) (pe_op op_cat (pv 1) (pe_lst (pa_cons (pe_exc1 (T.xi 8 (by decide)) hr rfl (T.g 8 (by decide)) (pv 0)) (pa_cons (pe_exc1 (T.xi 9 (by decide)) hr rfl (T.g 9 (by decide)) (pv 0)) (pa_cons (pe_exc1 (T.xi 10 (by decide)) hr rfl (T.g 10 (by decide)) (pv 0)) (pa_cons (pe_exc1 (T.xi 11 (by decide)) hr rfl (T.g 11 (by decide)) (pv 0)) pa_nil)))))))
      (pss_cons (ps_set (i := 1) sc_first.nd rfl (Or.inl rfl) (pe_op op_cat (pv 1) (pe_lst (pa_cons (pe_exc1 (T.xi 12 (by decide)) hr rfl (T.g 12 (by decide)) (pv 0)) (pa_cons (pe_exc1 (T.xi 13 (by decide)) hr rfl (T.g 13 (by decide)) (pv 0)) (pa_cons (pe_exc1 (T.xi 14 (by decide)) hr rfl (T.g 14 (by decide)) (pv 0)) (pa_cons (pe_exc1 (T.xi 15 (by decide)) hr rfl (T.g 15 (by decide)) (pv 0)) pa_nil)))))))
      (pss_cons (ps_set (i := 1) sc_first.nd rfl (Or.inl rfl) (pe_op op_cat (pv 1) (pe_lst (pa_cons (pe_exc1 (T.xi 16 (by decide)) hr rfl (T.g 16 (by decide)) (pv 0)) (pa_cons (pe_exc1 (T.xi 17 (by decide)) hr rfl (T.g 17 (by decide)) (pv 0)) (pa_cons (pe_exc1 (T.xi 18 (by decide)) hr rfl (T.g 18 (by decide)) (pv 0)) (pa_cons (pe_exc1 (T.xi 19 (by decide)) hr rfl (T.g 19 (by decide)) (pv 0)) pa_nil)))))))
      (pss_cons (ps_set (i := 1) sc_first.nd rfl (Or.inl rfl) (pe_op op_cat (pv 1) (pe_lst (pa_cons (pe_exc1 (T.xi 20 (by decide)) hr rfl (T.g 20 (by decide)) (pv 0)) (pa_cons (pe_exc1 (T.xi 21 (by decide)) hr rfl (T.g 21 (by decide)) (pv 0)) (pa_cons (pe_exc1 (T.xi 22 (by decide)) hr rfl (T.g 22 (by decide)) (pv 0)) (pa_cons (pe_exc1 (T.xi 23 (by decide)) hr rfl (T.g 23 (by decide)) (pv 0)) pa_nil)))))))
      (pss_cons (ps_set (i := 1) sc_first.nd rfl (Or.inl rfl) (pe_op op_cat (pv 1) (pe_lst (pa_cons (pe_exc1 (T.xi 24 (by decide)) hr rfl (T.g 24 (by decide)) (pv 0)) (pa_cons (pe_exc1 (T.xi 25 (by decide)) hr rfl (T.g 25 (by decide)) (pv 0)) (pa_cons (pe_exc1 (T.xi 26 (by decide)) hr rfl (T.g 26 (by decide)) (pv 0)) (pa_cons (pe_exc1 (T.xi 27 (by decide)) hr rfl (T.g 27 (by decide)) (pv 0)) (pa_cons (pe_exc1 (T.xi 28 (by decide)) hr rfl (T.g 28 (by decide)) (pv 0)) pa_nil))))))))
      (pss_one (ps_ret (pv 1)))))))))), ?_⟩
    show tFirst (fun j => tExc (C j) (tVar 0)) 1 [0, 1, 2, 3] (tChunks (fun j => tExc (C j) (tVar 0)) 1 [[4, 5, 6, 7], [8, 9, 10, 11], [12, 13, 14, 15], [16, 17, 18, 19], [20, 21, 22, 23], [24, 25, 26, 27, 28]] (tRet (tVar 1))) _ [some v, none] H
    refine first_read (Pv := ErrP C v) (m := 29) (S := fun l => [some v, some (.ref l)]) errs_mono (fun l => rfl) ?_ (Same.refl H) (by decide) (by decide) fun l xs H1 s1 n1 hl r1 => ?_
    · intro j H Q _ hj h
      exact ⟨v, rfl, fun a H2 n s e => h _ H2 s ⟨a, rfl, e⟩⟩
    · refine chunks_read (Pv := ErrP C v) (m := 29) (i := 1) (S := fun l => [some v, some (.ref l)]) errs_mono (fun l => rfl) (fun l l' => rfl) ?_ [[4, 5, 6, 7], [8, 9, 10, 11], [12, 13, 14, 15], [16, 17, 18, 19], [20, 21, 22, 23], [24, 25, 26, 27, 28]] [0, 1, 2, 3] l xs H1 s1 (by decide) (by decide) hl n1 r1 fun l' xs' H' s2 _ hl2 r2 => ?_
      · intro l j H Q _ hj h
        exact ⟨v, rfl, fun a H2 n s e => h _ H2 s ⟨a, rfl, e⟩⟩
      · exact ⟨_, rfl, k l' H' (s1.trans s2) ⟨xs', hl2, r2⟩⟩
theorem sc_called : FnScope ["thing", "found"] ["thing"] (defScope s_called) := ⟨rfl, rfl, rfl, by decide +kernel, rfl, by decide +kernel, by decide +kernel⟩
theorem ok_called (F : FnP K "_law_called" s_called f fd0) (T : Tx K P mg C fI fd) : FnOk P w K mg base CX0 3 f fd0 ["thing"] (sp_errs C) := by
  refine F.ok sc_called (fun vs H Q E h => ?_) (fun cdv A outer s H vs Q E hr h => ?_)
  · obtain ⟨v, rfl, _⟩ := h
    rfl
  · obtain ⟨v, rfl, k⟩ := h
    refine ⟨_, PSs.nox (pss_cons (ps_set (i := 1) sc_called.nd rfl (Or.inl rfl) (pe_lst (pa_cons (pe_excK (T.xi 0 (by decide)) hr rfl (T.g 0 (by decide)) (pv 0)) (pa_cons (pe_excK (T.xi 1 (by decide)) hr rfl (T.g 1 (by decide)) (pv 0)) (pa_cons (pe_excK (T.xi 2 (by decide)) hr rfl (T.g 2 (by decide)) (pv 0)) pa_nil)))))
      (pss_cons (ps_set (i := 1) sc_called.nd rfl (Or.inl rfl) (pe_op op_cat (pv 1) (pe_lst (pa_cons (pe_excK (T.xi 3 (by decide)) hr rfl (T.g 3 (by decide)) (pv 0)) (pa_cons (pe_excK (T.xi 4 (by decide)) hr rfl (T.g 4 (by decide)) (pv 0)) (pa_cons (pe_excK (T.xi 5 (by decide)) hr rfl (T.g 5 (by decide)) (pv 0)) pa_nil))))))
      (pss_cons (ps_set (i := 1) sc_called.nd rfl (Or.inl rfl) (pe_op op_cat (pv 1) (pe_lst (pa_cons (pe_excK (T.xi 6 (by decide)) hr rfl (T.g 6 (by decide)) (pv 0)) (pa_cons (pe_excK (T.xi 7 (by decide)) hr rfl (T.g 7 (by decide)) (pv 0)) (pa_cons (pe_excK (T.xi 8 (by decide)) hr rfl (T.g 8 (by decide)) (pv 0)) pa_nil))))))
      (pss_cons (ps_set (i := 1) sc_called.nd rfl (Or.inl rfl) (pe_op op_cat (pv 1) (pe_lst (pa_cons (pe_excK (T.xi 9 (by decide)) hr rfl (T.g 9 (by decide)) (pv 0)) (pa_cons (pe_excK (T.xi 10 (by decide)) hr rfl (T.g 10 (by decide)) (pv 0)) (pa_cons (pe_excK (T.xi 11 (by decide)) hr rfl (T.g 11 (by decide)) (pv 0)) pa_nil))))))
      (pss_cons (ps_set (i := 1) sc_called.nd rfl (Or.inl rfl) (pe_op op_cat (pv 1) (pe_lst (pa_cons (pe_excK (T.xi 12 (by decide)) hr rfl (T.g 12 (by decide)) (pv 0)) (pa_cons (pe_excK (T.xi 13 (by decide)) hr rfl (T.g 13 (by decide)) (pv 0)) (pa_cons (pe_excK (T.xi 14 (by decide)) hr rfl (T.g 14 (by decide)) (pv 0)) pa_nil))))))
      (pss_cons (ps_set (i := 1) sc_called.nd rfl (Or.inl rfl) (pe_op op_cat (pv 1) (pe_lst (pa_cons (pe_excK (T.xi 15 (by decide)) hr rfl (T.g 15 (by decide)) (pv 0)) (pa_cons (pe_excK (T.xi 16 (by decide)) hr rfl (T.g 16 (by decide)) (pv 0)) (pa_cons (pe_excK (T.xi 17 (by decide)) hr rfl (T.g 17 (by decide)) (pv 0)) pa_nil))))))
      (pss_cons (ps_set (i := 1) sc_called.nd rfl (Or.inl rfl) (pe_op op_cat (pv 1) (pe_lst (pa_cons (pe_excK (T.xi 18 (by decide)) hr rfl (T.g 18 (by decide)) (pv 0)) (pa_cons (pe_excK (T.xi 19 (by decide)) hr rfl (T.g 19 (by decide)) (pv 0)) (pa_cons (pe_excK (T.xi 20 (by decide)) hr rfl (T.g 20 (by decide)) (pv 0)) pa_nil))))))
      (pss_cons (ps_set (i := 1) sc_called.nd rfl (Or.inl rfl) (pe_op op_cat (pv 1) (pe_lst (pa_cons (pe_excK (T.xi 21 (by decide)) hr rfl (T.g 21 (by decide)) (pv 0)) (pa_cons (pe_excK (T.xi 22 (by decide)) hr rfl (T.g 22 (by decide)) (pv 0)) (pa_cons (pe_excK (T.xi 23 (by decide)) hr rfl (T.g 23 (by decide)) (pv 0)) pa_nil))))))
      (pss_cons (ps_set (i := 1) sc_called.nd rfl (Or.inl rfl) (pe_op op_cat (pv 1) (pe_lst (pa_cons (pe_excK (T.xi 24 (by decide)) hr rfl (T.g 24 (by decide)) (pv 0)) (pa_cons (pe_excK (T.xi 25 (by decide)) hr rfl (T.g 25 (by decide)) (pv 0)) (pa_cons (pe_excK (T.xi 26 (by decide)) hr rfl (T.g 26 (by decide)) (pv 0)) pa_nil))))))
      (pss_cons (ps_set (i := 1) sc_called.nd rfl (Or.inl rfl) (pe_op op_cat (pv 1) (pe_lst (pa_cons (pe_excK (T.xi 27 (by decide)) hr rfl (T.g 27 (by decide)) (pv 0)) (pa_cons (pe_excK (T.xi 28 (by decide)) hr rfl (T.g 28 (by decide)) (pv 0)) pa_nil)))))
      (pss_one (ps_ret (pv 1))))))))))))), ?_⟩
    show tFirst (fun j => tExc (C j) (tVar 0)) 1 [0, 1, 2] (tChunks (fun j => tExc (C j) (tVar 0)) 1 [[3, 4, 5], [6, 7, 8], [9, 10, 11], [12, 13, 14], [15, 16, 17], [18, 19, 20], [21, 22, 23], [24, 25, 26], [27, 28]] (tRet (tVar 1))) _ [some v, none] H
    refine first_read (Pv := ErrP C v) (m := 29) (S := fun l => [some v, some (.ref l)]) errs_mono (fun l => rfl) ?_ (Same.refl H) (by decide) (by decide) fun l xs H1 s1 n1 hl r1 => ?_
    · intro j H Q _ hj h
      exact ⟨v, rfl, fun a H2 n s e => h _ H2 s ⟨a, rfl, e⟩⟩
    · refine chunks_read (Pv := ErrP C v) (m := 29) (i := 1) (S := fun l => [some v, some (.ref l)]) errs_mono (fun l => rfl) (fun l l' => rfl) ?_ [[3, 4, 5], [6, 7, 8], [9, 10, 11], [12, 13, 14], [15, 16, 17], [18, 19, 20], [21, 22, 23], [24, 25, 26], [27, 28]] [0, 1, 2] l xs H1 s1 (by decide) (by decide) hl n1 r1 fun l' xs' H' s2 _ hl2 r2 => ?_
      · intro l j H Q _ hj h
        exact ⟨v, rfl, fun a H2 n s e => h _ H2 s ⟨a, rfl, e⟩⟩
      · exact ⟨_, rfl, k l' H' (s1.trans s2) ⟨xs', hl2, r2⟩⟩
theorem sc_bare : FnScope ["found"] [] (defScope s_bare) := ⟨rfl, rfl, rfl, by decide +kernel, rfl, by decide +kernel, by decide +kernel⟩
theorem ok_bare (F : FnP K "_law_bare" s_bare f fd0) (T : Tx K P mg C fI fd) : FnOk P w K mg base CX0 3 f fd0 [] (sp_bare C) := by
  refine F.ok sc_bare (fun vs H Q E h => ?_) (fun cdv A outer s H vs Q E hr h => ?_)
  · obtain ⟨rfl, _⟩ := h
    rfl
  · obtain ⟨rfl, k⟩ := h
    refine ⟨_, PSs.nox (pss_cons (ps_set (i := 0) sc_bare.nd rfl (Or.inl rfl) (pe_lst (pa_cons (pe_exc0 (T.xi 0 (by decide)) hr rfl (T.g 0 (by decide))) (pa_cons (pe_exc0 (T.xi 1 (by decide)) hr rfl (T.g 1 (by decide))) (pa_cons (pe_exc0 (T.xi 2 (by decide)) hr rfl (T.g 2 (by decide))) (pa_cons (pe_exc0 (T.xi 3 (by decide)) hr rfl (T.g 3 (by decide))) (pa_cons (pe_exc0 (T.xi 4 (by decide)) hr rfl (T.g 4 (by decide))) (pa_cons (pe_exc0 (T.xi 5 (by decide)) hr rfl (T.g 5 (by decide))) pa_nil))))))))
      (pss_cons (ps_set (i := 0) sc_bare.nd rfl (Or.inl rfl) (pe_op op_cat (pv 0) (pe_lst (pa_cons (pe_exc0 (T.xi 6 (by decide)) hr rfl (T.g 6 (by decide))) (pa_cons (pe_exc0 (T.xi 7 (by decide)) hr rfl (T.g 7 (by decide))) (pa_cons (pe_exc0 (T.xi 8 (by decide)) hr rfl (T.g 8 (by decide))) (pa_cons (pe_exc0 (T.xi 9 (by decide)) hr rfl (T.g 9 (by decide))) (pa_cons (pe_exc0 (T.xi 10 (by decide)) hr rfl (T.g 10 (by decide))) pa_nil))))))))
      (pss_cons (ps_set (i := 0) sc_bare.nd rfl (Or.inl rfl) (pe_op op_cat (pv 0) (pe_lst (pa_cons (pe_exc0 (T.xi 11 (by decide)) hr rfl (T.g 11 (by decide))) (pa_cons (pe_exc0 (T.xi 12 (by decide)) hr rfl (T.g 12 (by decide))) (pa_cons (pe_exc0 (T.xi 13 (by decide)) hr rfl (T.g 13 (by decide))) (pa_cons (pe_exc0 (T.xi 14 (by decide)) hr rfl (T.g 14 (by decide))) (pa_cons (pe_exc0 (T.xi 15 (by decide)) hr rfl (T.g 15 (by decide))) pa_nil))))))))
      (pss_cons (ps_set (i := 0) sc_bare.nd rfl (Or.inl rfl) (pe_op op_cat (pv 0) (pe_lst (pa_cons (pe_exc0 (T.xi 16 (by decide)) hr rfl (T.g 16 (by decide))) (pa_cons (pe_exc0 (T.xi 17 (by decide)) hr rfl (T.g 17 (by decide))) (pa_cons (pe_exc0 (T.xi 18 (by decide)) hr rfl (T.g 18 (by decide))) (pa_cons (pe_exc0 (T.xi 19 (by decide)) hr rfl (T.g 19 (by decide))) (pa_cons (pe_exc0 (T.xi 20 (by decide)) hr rfl (T.g 20 (by decide))) pa_nil))))))))
      (pss_cons (ps_set (i := 0) sc_bare.nd rfl (Or.inl rfl) (pe_op op_cat (pv 0) (pe_lst (pa_cons (pe_exc0 (T.xi 21 (by decide)) hr rfl (T.g 21 (by decide))) (pa_cons (pe_exc0 (T.xi 22 (by decide)) hr rfl (T.g 22 (by decide))) (pa_cons (pe_exc0 (T.xi 23 (by decide)) hr rfl (T.g 23 (by decide))) (pa_cons (pe_exc0 (T.xi 24 (by decide)) hr rfl (T.g 24 (by decide))) (pa_cons (pe_exc0 (T.xi 25 (by decide)) hr rfl (T.g 25 (by decide))) (pa_cons (pe_exc0 (T.xi 26 (by decide)) hr rfl (T.g 26 (by decide))) pa_nil)))))))))
      (pss_cons (ps_set (i := 0) sc_bare.nd rfl (Or.inl rfl) (pe_op op_cat (pv 0) (pe_lst (pa_cons (pe_exc0 (T.xi 27 (by decide)) hr rfl (T.g 27 (by decide))) (pa_cons (pe_exc0 (T.xi 28 (by decide)) hr rfl (T.g 28 (by decide))) pa_nil)))))
      (pss_one (ps_ret (pv 0))))))))), ?_⟩
    show tFirst (fun j => tExc0 (C j)) 0 [0, 1, 2, 3, 4, 5] (tChunks (fun j => tExc0 (C j)) 0 [[6, 7, 8, 9, 10], [11, 12, 13, 14, 15], [16, 17, 18, 19, 20], [21, 22, 23, 24, 25, 26], [27, 28]] (tRet (tVar 0))) _ [none] H
    refine first_read (Pv := ErrP C .non) (m := 29) (S := fun l => [some (.ref l)]) errs_mono (fun l => rfl) ?_ (Same.refl H) (by decide) (by decide) fun l xs H1 s1 n1 hl r1 => ?_
    · intro j H Q _ hj h
      exact fun a H2 n s e => h _ H2 s ⟨a, rfl, e⟩
    · refine chunks_read (Pv := ErrP C .non) (m := 29) (i := 0) (S := fun l => [some (.ref l)]) errs_mono (fun l => rfl) (fun l l' => rfl) ?_ [[6, 7, 8, 9, 10], [11, 12, 13, 14, 15], [16, 17, 18, 19, 20], [21, 22, 23, 24, 25, 26], [27, 28]] [0, 1, 2, 3, 4, 5] l xs H1 s1 (by decide) (by decide) hl n1 r1 fun l' xs' H' s2 _ hl2 r2 => ?_
      · intro l j H Q _ hj h
        exact fun a H2 n s e => h _ H2 s ⟨a, rfl, e⟩
      · exact ⟨_, rfl, k l' H' (s1.trans s2) ⟨xs', hl2, r2⟩⟩
end
end EV
namespace EV
open PySem L2 EVX
abbrev s_is_error : Stmt := top 44
abbrev s_right : Stmt := top 45
abbrev s_law : Stmt := top 46
section
variable {P : Program} {w : World} {K : PySem.W.Frag} {mg : Str → Option Value} {base : Heap} {f : Addr} {fd0 : FuncData} {C fI : Nat → Addr} {fd : Nat → FuncData}
def BoolP (i0 : Nat) : Nat → V → Hp → Prop := fun j x _ => x = .bl (decide (i0 = j ∨ j = 31))
theorem bool_mono {i0 : Nat} : Mono (BoolP i0) := fun j x H H' _ h => h
theorem row_bools {i0 n : Nat} {xs : List V} {H : Hp} (r : RowAt (BoolP i0) (List.range n) xs H) : xs = (List.range n).map fun j => V.bl (decide (i0 = j ∨ j = 31)) := by
  apply List.ext_getElem?
  intro i
  by_cases h : i < n
  · have e1 : (List.range n)[i]? = some i := by simp [h]
    have hx : i < xs.length := by rw [r.1, List.length_range]; exact h
    have e2 : xs[i]? = some xs[i] := by simp [hx]
    rw [e2, List.getElem?_map, e1, r.2 i i _ e1 e2]
    rfl
  · rw [List.getElem?_eq_none (by rw [r.1, List.length_range]; omega), List.getElem?_eq_none (by simp; omega)]
def sp_code (C : Nat → Addr) : Sp := fun vs H Q _ => ∃ (a : Addr) (i : Nat), vs = [.ref a] ∧ i < 32 ∧ ErrO H a (C i) ∧ ∀ l H', H l = none → Same H H' → H' l = some (.lst (if i < 31 then [.int (i : Int)] else [])) → Q (.ref l) H'
theorem ErrO.same {H H' : Hp} {a c : Addr} (s : Same H H') (h : ErrO H a c) : ErrO H' a c := by
  rcases h with ⟨v, d, h1, h2⟩ | h
  · exact .inl ⟨v, d, s _ _ h1, s _ _ h2⟩
  · exact .inr (s _ _ h)
theorem sc_code : FnScope ["error", "found", "at"] ["error"] (defScope s_code) := ⟨rfl, rfl, rfl, by decide +kernel, rfl, by decide +kernel, by decide +kernel⟩
theorem ok_code (F : FnP K "_law_code" s_code f fd0) (T : Tx K P mg C fI fd) (gI : mg "isinstance" = none) (gL : mg "len" = none) (gR : mg "range" = none) : FnOk P w K mg base CX0 1 f fd0 ["error"] (sp_code C) := by
  refine F.ok sc_code (fun vs H Q E h => ?_) (fun cdv A outer s H0 vs Q E hr h => ?_)
  · obtain ⟨a, i, rfl, _⟩ := h
    rfl
  · obtain ⟨a, i, rfl, hi, he, k⟩ := h
    refine ⟨_, PSs.nox (pss_cons (ps_set (i := 1) sc_code.nd rfl (Or.inr rfl) (pe_lst (pa_cons (pe_callB call_isErr (by rfl) gI (by decide +kernel) (pa_cons (pv 0) (pa_cons (pe_glob (v := .ref (C 0)) rfl (T.g 0 (by decide)) rfl) pa_nil))) (pa_cons (pe_callB call_isErr (by rfl) gI (by decide +kernel) (pa_cons (pv 0) (pa_cons (pe_glob (v := .ref (C 1)) rfl (T.g 1 (by decide)) rfl) pa_nil))) (pa_cons (pe_callB call_isErr (by rfl) gI (by decide +kernel) (pa_cons (pv 0) (pa_cons (pe_glob (v := .ref (C 2)) rfl (T.g 2 (by decide)) rfl) pa_nil))) pa_nil)))))
      (pss_cons (ps_set (i := 1) sc_code.nd rfl (Or.inr rfl) (pe_op op_cat (pv 1) (pe_lst (pa_cons (pe_callB call_isErr (by rfl) gI (by decide +kernel) (pa_cons (pv 0) (pa_cons (pe_glob (v := .ref (C 3)) rfl (T.g 3 (by decide)) rfl) pa_nil))) (pa_cons (pe_callB call_isErr (by rfl) gI (by decide +kernel) (pa_cons (pv 0) (pa_cons (pe_glob (v := .ref (C 4)) rfl (T.g 4 (by decide)) rfl) pa_nil))) pa_nil)))))
      (pss_cons (ps_set (i := 1) sc_code.nd rfl (Or.inr rfl) (pe_op op_cat (pv 1) (pe_lst (pa_cons (pe_callB call_isErr (by rfl) gI (by decide +kernel) (pa_cons (pv 0) (pa_cons (pe_glob (v := .ref (C 5)) rfl (T.g 5 (by decide)) rfl) pa_nil))) (pa_cons (pe_callB call_isErr (by rfl) gI (by decide +kernel) (pa_cons (pv 0) (pa_cons (pe_glob (v := .ref (C 6)) rfl (T.g 6 (by decide)) rfl) pa_nil))) pa_nil)))))
      (pss_cons (ps_set (i := 1) sc_code.nd rfl (Or.inr rfl) (pe_op op_cat (pv 1) (pe_lst (pa_cons (pe_callB call_isErr (by rfl) gI (by decide +kernel) (pa_cons (pv 0) (pa_cons (pe_glob (v := .ref (C 7)) rfl (T.g 7 (by decide)) rfl) pa_nil))) (pa_cons (pe_callB call_isErr (by rfl) gI (by decide +kernel) (pa_cons (pv 0) (pa_cons (pe_glob (v := .ref (C 8)) rfl (T.g 8 (by decide)) rfl) pa_nil))) pa_nil)))))
      (pss_cons (ps_set (i := 1) sc_code.nd rfl (Or.inr rfl) (pe_op op_cat (pv 1) (pe_lst (pa_cons (pe_callB call_isErr (by rfl) gI (by decide +kernel) (pa_cons (pv 0) (pa_cons (pe_glob (v := .ref (C 9)) rfl (T.g 9 (by decide)) rfl) pa_nil))) (pa_cons (pe_callB call_isErr (by rfl) gI (by decide +kernel) (pa_cons (pv 0) (pa_cons (pe_glob (v := .ref (C 10)) rfl (T.g 10 (by decide)) rfl) pa_nil))) pa_nil)))))
      (pss_cons (ps_set (i := 1) sc_code.nd rfl (Or.inr rfl) (pe_op op_cat (pv 1) (pe_lst (pa_cons (pe_callB call_isErr (by rfl) gI (by decide +kernel) (pa_cons (pv 0) (pa_cons (pe_glob (v := .ref (C 11)) rfl (T.g 11 (by decide)) rfl) pa_nil))) (pa_cons (pe_callB call_isErr (by rfl) gI (by decide +kernel) (pa_cons (pv 0) (pa_cons (pe_glob (v := .ref (C 12)) rfl (T.g 12 (by decide)) rfl) pa_nil))) pa_nil)))))
      (pss_cons (ps_set (i := 1) sc_code.nd rfl (Or.inr rfl) (pe_op op_cat (pv 1) (pe_lst (pa_cons (pe_callB call_isErr (by rfl) gI (by decide +kernel) (pa_cons (pv 0) (pa_cons (pe_glob (v := .ref (C 13)) rfl (T.g 13 (by decide)) rfl) pa_nil))) (pa_cons (pe_callB call_isErr (by rfl) gI (by decide +kernel) (pa_cons (pv 0) (pa_cons (pe_glob (v := .ref (C 14)) rfl (T.g 14 (by decide)) rfl) pa_nil))) pa_nil)))))
      (pss_cons (ps_set (i := 1) sc_code.nd rfl (Or.inr rfl) (pe_op op_cat (pv 1) (pe_lst (pa_cons (pe_callB call_isErr (by rfl) gI (by decide +kernel) (pa_cons (pv 0) (pa_cons (pe_glob (v := .ref (C 15)) rfl (T.g 15 (by decide)) rfl) pa_nil))) (pa_cons (pe_callB call_isErr (by rfl) gI (by decide +kernel) (pa_cons (pv 0) (pa_cons (pe_glob (v := .ref (C 16)) rfl (T.g 16 (by decide)) rfl) pa_nil))) pa_nil)))))
      (pss_cons (ps_set (i := 1) sc_code.nd rfl (Or.inr rfl) (pe_op op_cat (pv 1) (pe_lst (pa_cons (pe_callB call_isErr (by rfl) gI (by decide +kernel) (pa_cons (pv 0) (pa_cons (pe_glob (v := .ref (C 17)) rfl (T.g 17 (by decide)) rfl) pa_nil))) (pa_cons (pe_callB call_isErr (by rfl) gI (by decide +kernel) (pa_cons (pv 0) (pa_cons (pe_glob (v := .ref (C 18)) rfl (T.g 18 (by decide)) rfl) pa_nil))) pa_nil)))))
      (pss_cons (ps_set (i := 1) sc_code.nd rfl (Or.inr rfl) (pe_op op_cat (pv 1) (pe_lst (pa_cons (pe_callB call_isErr (by rfl) gI (by decide +kernel) (pa_cons (pv 0) (pa_cons (pe_glob (v := .ref (C 19)) rfl (T.g 19 (by decide)) rfl) pa_nil))) (pa_cons (pe_callB call_isErr (by rfl) gI (by decide +kernel) (pa_cons (pv 0) (pa_cons (pe_glob (v := .ref (C 20)) rfl (T.g 20 (by decide)) rfl) pa_nil))) pa_nil)))))
      (pss_cons (ps_set (i := 1) sc_code.nd rfl (Or.inr rfl) (pe_op op_cat (pv 1) (pe_lst (pa_cons (pe_callB call_isErr (by rfl) gI (by decide +kernel) (pa_cons (pv 0) (pa_cons (pe_glob (v := .ref (C 21)) rfl (T.g 21 (by decide)) rfl) pa_nil))) (pa_cons (pe_callB call_isErr (by rfl) gI (by decide +kernel) (pa_cons (pv 0) (pa_cons (pe_glob (v := .ref (C 22)) rfl (T.g 22 (by decide)) rfl) pa_nil))) pa_nil)))))
      (pss_cons (ps_set (i := 1) sc_code.nd rfl (Or.inr rfl) (pe_op op_cat (pv 1) (pe_lst (pa_cons (pe_callB call_isErr (by rfl) gI (by decide +kernel) (pa_cons (pv 0) (pa_cons (pe_glob (v := .ref (C 23)) rfl (T.g 23 (by decide)) rfl) pa_nil))) (pa_cons (pe_callB call_isErr (by rfl) gI (by decide +kernel) (pa_cons (pv 0) (pa_cons (pe_glob (v := .ref (C 24)) rfl (T.g 24 (by decide)) rfl) pa_nil))) pa_nil)))))
      (pss_cons (ps_set (i := 1) sc_code.nd rfl (Or.inr rfl) (pe_op op_cat (pv 1) (pe_lst (pa_cons (pe_callB call_isErr (by rfl) gI (by decide +kernel) (pa_cons (pv 0) (pa_cons (pe_glob (v := .ref (C 25)) rfl (T.g 25 (by decide)) rfl) pa_nil))) (pa_cons (pe_callB call_isErr (by rfl) gI (by decide +kernel) (pa_cons (pv 0) (pa_cons (pe_glob (v := .ref (C 26)) rfl (T.g 26 (by decide)) rfl) pa_nil))) (pa_cons (pe_callB call_isErr (by rfl) gI (by decide +kernel) (pa_cons (pv 0) (pa_cons (pe_glob (v := .ref (C 27)) rfl (T.g 27 (by decide)) rfl) pa_nil))) pa_nil))))))
      (pss_cons (ps_expr (pe_bm PySem.F.plainAttrs_list PySem.F.slot_list_append PySem.F.type_list_append mt_append (pv 1) (pa_cons (pe_callB call_isErr (by rfl) gI (by decide +kernel) (pa_cons (pv 0) (pa_cons (pe_glob (v := .ref (C 28)) rfl (T.g 28 (by decide)) rfl) pa_nil))) pa_nil)))
      (pss_cons (ps_set (i := 1) sc_code.nd rfl (Or.inr rfl) (pe_op op_cat (pv 1) (pe_lst (pa_cons (pe_callB call_isErr (by rfl) gI (by decide +kernel) (pa_cons (pv 0) (pa_cons (pe_glob (v := .ref (C 29)) rfl (T.g 29 (by decide)) rfl) pa_nil))) (pa_cons (pe_callB call_isErr (by rfl) gI (by decide +kernel) (pa_cons (pv 0) (pa_cons (pe_glob (v := .ref (C 30)) rfl (T.g 30 (by decide)) rfl) pa_nil))) pa_nil)))))
      (pss_one (ps_ret (pe_lc (own := [("at", 2)]) (g := gName 2) (tt := tB (tOp (rIxL K) (tVar 1) (tVar 2))) rfl sc_code.nd (pi_range1 rfl gR (pa_cons (pe_callB call_len_seq (by rfl) gL (by decide +kernel) (pa_cons (pv 1) pa_nil)) pa_nil))
        (blkOk_by (N := ["error", "found", "at"]) (sc := defScope s_code) (by decide +kernel)) (fun _ _ _ _ _ => pg_name (i := 2) sc_code.nd rfl (Or.inl rfl)) (fun _ _ _ _ _ => pts_one (pt_val (pe_ix ix_list (pv 1) (pv 2) (fun _ _ => rfl)))) (fun _ _ _ _ _ => pv 2))))))))))))))))))), ?_⟩
    have el : ∀ (σ : St) (H : Hp), σ[0]? = some (some (.ref a)) → Same H0 H → ∀ j (Q : VK), j < 32 → (∀ x H', Same H H' → BoolP i j x H' → Q x H') → tCB (rIsErr K) (tCons (tVar 0) (tCons (tC (.ref (C j))) tNil)) σ H Q := fun σ H h0 s0 j Q hj h =>
      ⟨_, h0, a, C i, _, _, _, rfl, ErrO.same s0 he, T.ex i hi, .own (C j), T.kk i j hi hj, h _ H (Same.refl H) rfl⟩
    show tFirst (fun j => tCB (rIsErr K) (tCons (tVar 0) (tCons (tC (.ref (C j))) tNil))) 1 [0, 1, 2] (tChunks (fun j => tCB (rIsErr K) (tCons (tVar 0) (tCons (tC (.ref (C j))) tNil))) 1 [[3, 4], [5, 6], [7, 8], [9, 10], [11, 12], [13, 14], [15, 16], [17, 18], [19, 20], [21, 22], [23, 24], [25, 26, 27]] _) _ [some (.ref a), none, none] H0
    refine first_read (Pv := BoolP i) (m := 32) (S := fun l => [some (.ref a), some (.ref l), none]) bool_mono (fun l => rfl) (fun j H Q sb hj h => el _ H rfl sb j Q hj h) (Same.refl H0) (by decide) (by decide) fun l xs H1 s1 n1 hl r1 => ?_
    refine chunks_read (Pv := BoolP i) (m := 32) (i := 1) (S := fun l => [some (.ref a), some (.ref l), none]) bool_mono (fun l => rfl) (fun l l' => rfl) (fun l j H Q sb hj h => el _ H rfl sb j Q hj h) [[3, 4], [5, 6], [7, 8], [9, 10], [11, 12], [13, 14], [15, 16], [17, 18], [19, 20], [21, 22], [23, 24], [25, 26, 27]] [0, 1, 2] l xs H1 s1 (by decide) (by decide) hl n1 r1 fun l2 xs2 H2 s2 n2 hl2 r2 => ?_
    have s02 : Same H0 H2 := s1.trans s2
    refine ⟨_, rfl, .inl ⟨rfl, _, SqL.of hl2⟩, ?_⟩
    refine el _ H2 rfl s02 28 _ (by decide) fun x H3 s3 hx => ?_
    have hl3 := s3 _ _ hl2
    refine ⟨l2, xs2, x, rfl, rfl, hl3, by rw [r2.1]; decide, ?_⟩
    have s04 : Same H0 (L2.upd H3 l2 (.lst (xs2 ++ [x]))) := fun b o e => by
      rw [upd_ne (ne_of_none e n2)]
      exact s3 b o (s02 b o e)
    have r4 : RowAt (BoolP i) (List.range 29) (xs2 ++ [x]) (L2.upd H3 l2 (.lst (xs2 ++ [x]))) := RowAt.app (js := List.range 28) (ks := [28]) ⟨r2.1, fun a b c d e => r2.2 a b c d e⟩ ⟨rfl, fun a b c d e => by
      cases a with
      | zero =>
        simp at d e
        subst d e
        exact hx
      | succ a => simp at d⟩
    show tChunks (fun j => tCB (rIsErr K) (tCons (tVar 0) (tCons (tC (.ref (C j))) tNil))) 1 [[29, 30]] (tRet _) _ [some (.ref a), some (.ref l2), none] _
    refine chunks_read (Pv := BoolP i) (m := 32) (i := 1) (S := fun l => [some (.ref a), some (.ref l), none]) (Hb := H0) bool_mono (fun l => rfl) (fun l l' => rfl) (fun l j H Q sb hj h => el _ H rfl sb j Q hj h) [[29, 30]] (List.range 29) l2 _ _ s04 (by decide) (by decide) L2.upd_same n2 r4 fun l5 xs5 H5 s5 n5 hl5 r5 => ?_
    have e5 := row_bools (i0 := i) (n := 31) (xs := xs5) (H := H5) ⟨r5.1, fun a b c d e => r5.2 a b c d e⟩
    have s05 : Same H0 H5 := s04.trans s5
    have hlen : xs5.length = 31 := r5.1
    refine ⟨_, rfl, l5, _, rfl, .inl (SqL.of hl5), _, rfl, (by rw [hlen]; decide), (by rw [hlen]; decide), fun D hD => ?_⟩
    rw [hlen]
    have hD0 : H0 D = none := s05.free hD
    refine lc_range (n := 31) (fun j H' => Same H0 H' ∧ Same H5 H' ∧ H' D = some (.lst (if i < j then [.int (i : Int)] else []))) ⟨s05.trans (new_same hD), new_same hD, by rw [if_neg (by omega)]; exact L2.upd_same⟩ ?_ ?_
    · rintro j H' hj ⟨sa, sb, hd⟩
      refine ⟨rfl, ?_⟩
      refine ⟨_, rfl, _, rfl, l5, _, _, V.bl (decide (i = j ∨ j = 31)), rfl, rfl, SqL.of (sb _ _ hl5), ?_, _, rfl, ?_⟩
      · have e : xs5[j]? = some (V.bl (decide (i = j ∨ j = 31))) := by
          rw [e5, List.getElem?_map, List.getElem?_range hj]
          rfl
        have e2 := atI_nat e
        have e3 : (0 : Int) + ((j : Nat) : Int) = ((j : Nat) : Int) := Int.zero_add _
        rw [e3]
        exact e2
      · by_cases c : i = j
        · subst c
          rw [decide_eq_true (Or.inl rfl)]
          refine iteT ⟨_, rfl, _, hd, by rw [if_neg (Nat.lt_irrefl _)]; decide, ?_, ?_, ?_⟩
          · exact fun b o e => by rw [upd_ne (ne_of_none e hD0)]; exact sa b o e
          · exact fun b o e => by rw [upd_ne (ne_of_none e hD)]; exact sb b o e
          · rw [if_neg (Nat.lt_irrefl _), if_pos (Nat.lt_succ_self _), L2.upd_same, Int.zero_add]
            rfl
        · have nc : ¬ (i = j ∨ j = 31) := by omega
          rw [decide_eq_false nc]
          refine iteF ⟨sa, sb, ?_⟩
          rw [hd]
          by_cases h1 : i < j
          · rw [if_pos h1, if_pos (by omega)]
          · rw [if_neg h1, if_neg (by omega)]
    · rintro H' ⟨sa, sb, hd⟩
      exact k D H' hD0 sa hd
theorem sc_is_error : FnScope ["error"] ["error"] (defScope s_is_error) := ⟨rfl, rfl, rfl, by decide +kernel, rfl, by decide +kernel, by decide +kernel⟩
def sp_is_error (C : Nat → Addr) : Sp := fun vs H Q _ => ∃ (a : Addr) (i : Nat), vs = [.ref a] ∧ i < 32 ∧ ErrO H a (C i) ∧ Q (.bl true) H
theorem ok_is_error (F : FnP K "_law_is_error" s_is_error f fd0) (T : Tx K P mg C fI fd) (gI : mg "isinstance" = none) (gV : mg "ValueError" = none) : FnOk P w K mg base CX0 1 f fd0 ["error"] (sp_is_error C) := by
  refine F.ok sc_is_error (fun vs H Q E h => ?_) (fun cdv A outer s H0 vs Q E hr h => ?_)
  · obtain ⟨a, i, rfl, _⟩ := h
    rfl
  · obtain ⟨a, i, rfl, hi, he, k⟩ := h
    refine ⟨_, PSs.nox (pss_one (ps_ret (pe_and (pe_callB call_isErr (by rfl) gI (by decide +kernel) (pa_cons (pv 0) (pa_cons (pe_glob (v := .ref (C 31)) rfl (T.g 31 (by decide)) rfl) pa_nil)))
      (pe_one (pe_callB call_isErr (by rfl) gI (by decide +kernel) (pa_cons (pv 0) (pa_cons (pe_bltn (v := .ty "ValueError") (by rfl) gV (by decide +kernel) rfl) pa_nil))))))), ?_⟩
    refine ⟨_, rfl, a, C i, _, _, _, rfl, he, T.ex i hi, .own (C 31), T.kk i 31 hi (by decide), _, rfl, ?_⟩
    rw [decide_eq_true (Or.inr rfl)]
    refine iteT ⟨_, rfl, a, C i, _, _, _, rfl, he, T.ex i hi, .ty "ValueError", T.kv i hi, k⟩
end
end EV
namespace EV
open PySem L2 EVX
section
variable {P : Program} {w : World} {K : PySem.W.Frag} {mg : Str → Option Value} {base : Heap} {f : Addr} {fd0 : FuncData} {C fI : Nat → Addr} {fd : Nat → FuncData}
def rowsD : Nat → Nat → List PyData
  | _, 0 => []
  | k, n + 1 => .list [.int (k : Int)] :: rowsD (k + 1) n
theorem dp_rows {H : Hp} : ∀ (rs : List Addr) (k : Nat), (∀ (j : Nat) (r : Addr), rs[j]? = some r → H r = some (.lst [.int ((k + j : Nat) : Int)])) → DpAll K H (rs.map V.ref) (rowsD k rs.length)
  | [], k, _ => .nil
  | r :: rs, k, h => .cons (.lst (SqL.of (h 0 r rfl)) (.cons (.int _) .nil)) (dp_rows rs (k + 1) fun j q e => by
      have z := h (j + 1) q (by simpa using e)
      rw [show k + 1 + j = k + (j + 1) from by omega]
      exact z)
/-- rows of one number each, as many as i, and the list of them at D -/
def RowsAt (H0 H : Hp) (D : Addr) (i : Nat) : Prop := ∃ rs : List Addr, rs.length = i ∧ H D = some (.lst (rs.map V.ref)) ∧ (∀ (j : Nat) (r : Addr), rs[j]? = some r → H r = some (.lst [.int (j : Int)]) ∧ r ≠ D) ∧ Same H0 H
theorem RowsAt.turn {H0 H H' : Hp} {D l : Addr} {i : Nat} (hD : H0 D = none) (h : RowsAt H0 H D i) (s : Same H H') (nl : H l = none) (hl : H' l = some (.lst [.int (i : Int)])) :
    ∃ acc, H' D = some (.lst acc) ∧ acc.length = i ∧ RowsAt H0 (L2.upd H' D (.lst (acc ++ [V.ref l]))) D (i + 1) := by
  obtain ⟨rs, e, hd, hr, s0⟩ := h
  have lD : l ≠ D := fun z => by
    rw [z, hd] at nl
    cases nl
  refine ⟨rs.map V.ref, s _ _ hd, by rw [List.length_map, e], rs ++ [l], by rw [List.length_append, e]; rfl, by rw [L2.upd_same, List.map_append]; rfl, fun j r q => ?_, fun b o q => by rw [upd_ne (ne_of_none q hD)]; exact s _ _ (s0 _ _ q)⟩
  by_cases c : j < rs.length
  · rw [List.getElem?_append_left c] at q
    obtain ⟨h1, h2⟩ := hr j r q
    exact ⟨by rw [upd_ne h2]; exact s _ _ h1, h2⟩
  · rw [List.getElem?_append_right (by omega)] at q
    have c2 : j = i := by
      by_cases c3 : j - rs.length = 0
      · omega
      · rw [List.getElem?_eq_none (by simp; omega)] at q
        cases q
    subst c2
    rw [e, Nat.sub_self] at q
    cases q
    exact ⟨by rw [upd_ne lD]; exact hl, lD⟩
theorem RowsAt.dp {H0 H : Hp} {D : Addr} {i : Nat} (h : RowsAt H0 H D i) : Dp K H (.ref D) (.list (rowsD 0 i)) := by
  obtain ⟨rs, rfl, hd, hr, _⟩ := h
  exact .lst (SqL.of hd) (dp_rows rs 0 fun j r q => by rw [Nat.zero_add]; exact (hr j r q).1)
theorem RowsAt.same {H0 H H' : Hp} {D : Addr} {i : Nat} (h : RowsAt H0 H D i) (s : Same H H') : RowsAt H0 H' D i := by
  obtain ⟨rs, e, hd, hr, s0⟩ := h
  exact ⟨rs, e, s _ _ hd, fun j r q => ⟨s _ _ (hr j r q).1, (hr j r q).2⟩, s0.trans s⟩
theorem rows29 : PyData.eqv (.list (rowsD 0 29)) (.list (rowsD 0 29)) = true := by decide +kernel
theorem shaped29 : SeqAt.shaped (.list (rowsD 0 29)) = true := by decide +kernel
def sp_right (K : PySem.W.Frag) (C : Nat → Addr) : Sp := fun vs H Q _ => ∃ (l : Addr) (v : V) (d : PyData), vs = [.ref l, .str d.shown] ∧ ErrsAt C v H l ∧ Dq K H v d ∧ d.showable = true ∧ d.shown.length ≤ sizeLine ∧ d.depth ≤ 60 ∧ ∀ H', Same H H' → Q (.bl true) H'
theorem sc_right : FnScope ["some", "noted", "error", "at"] ["some", "noted"] (defScope s_right) := ⟨rfl, rfl, rfl, by decide +kernel, rfl, by decide +kernel, by decide +kernel⟩
theorem ok_right (F : FnP K "_law_right" s_right f fd0) (T : Tx K P mg C fI fd) (S : SysIn K) (gR : mg "range" = none) (gP : mg "repr" = none)
    {fc fe : Addr} {fdc fde : FuncData} (GC : FnOk P w K mg base CX0 1 fc fdc ["error"] (sp_code C)) (kC : PySem.W.keepIn K (.ref fc) = true) (bC : Binds K fdc ["error"] []) (gC : mg "_law_code" = some (.ref fc))
    (GE : FnOk P w K mg base CX0 1 fe fde ["error"] (sp_is_error C)) (kE : PySem.W.keepIn K (.ref fe) = true) (bE : Binds K fde ["error"] []) (gE : mg "_law_is_error" = some (.ref fe)) : FnG P w K mg base 2 f fd0 ["some", "noted"] (sp_right K C) := by
  refine okG F sc_right (fun vs H Q E h => ?_) (fun cdv A outer s H0 vs Q E hr hG h => ?_)
  · obtain ⟨l, v, d, rfl, _⟩ := h
    rfl
  · obtain ⟨l, v, d, rfl, ⟨xs, hl, hx⟩, hv, hs, hz, hp, k⟩ := h
    refine ⟨_, pss_cons (ps_if (pt_cmpR (op_neD hr.units)
        (pe_lc (own := [("error", 2)]) (g := gName 2) (tt := tYes) (te := tCall (sp_code C) [] E0 (tCons (tVar 2) tNil)) rfl sc_right.nd (pi_list (pv 0)) (blkOk_by (N := ["some", "noted", "error", "at"]) (sc := defScope s_right) (by decide +kernel)) (fun _ _ _ _ _ => pg_name (i := 2) sc_right.nd rfl (Or.inl rfl)) (fun _ _ _ _ _ => pts_nil)
          (fun _ _ _ _ _ => pe_call GC hr rfl gC kC bC .nil pass0 (pa_cons (pv 2) pa_nil)))
        (pe_lc (own := [("at", 3)]) (g := gName 3) (tt := tYes) rfl sc_right.nd (pi_range1 rfl gR (pa_cons pe_int pa_nil)) (blkOk_by (N := ["some", "noted", "error", "at"]) (sc := defScope s_right) (by decide +kernel)) (fun _ _ _ _ _ => pg_name (i := 3) sc_right.nd rfl (Or.inl rfl)) (fun _ _ _ _ _ => pts_nil)
          (fun _ _ _ _ _ => pe_lst (pa_cons (pv 3) pa_nil))) (nomark _)) (pss_one (ps_ret pe_bl)) pss_nil)
      (pss_one (ps_ret (pe_cmpR (op_eqD hr.units)
        (pe_lc (own := [("error", 2)]) (g := gName 2) (tt := tOr (tNot (tB (tCall (sp_is_error C) [] E0 (tCons (tVar 2) tNil)))) (tTest (tOp rNe (tCB (rRepr K) (tCons (tVal K (tVar 2)) tNil)) (tVar 1)))) rfl sc_right.nd (pi_list (pv 0)) (blkOk_by (N := ["some", "noted", "error", "at"]) (sc := defScope s_right) (by decide +kernel)) (fun _ _ _ _ _ => pg_name (i := 2) sc_right.nd rfl (Or.inl rfl))
          (fun _ _ _ _ _ => pts_one (PW.pt (pw_or (pt_not (pt_val (pe_call GE hr rfl gE kE bE .nil pass0 (pa_cons (pv 2) pa_nil)))) (pw_or1 (pt_cmpR op_ne (pe_callB (call_repr hr.units hG S) (by rfl) gP (by decide +kernel) (pa_cons (pe_val (pv 2)) pa_nil)) (pv 1) (nomark _))))))
          (fun _ _ _ _ _ => pv 2)) (pe_lst pa_nil) (nomark _)))), ?_⟩
    have lenx : xs.length = 29 := hx.1
    have at_ : ∀ (j : Nat) (x : V), xs[j]? = some x → ∃ a, x = .ref a ∧ j < 29 ∧ ErrAt H0 a (C j) v := fun j x e => by
      have hj : j < 29 := by
        have := (List.getElem?_eq_some_iff.mp e).1
        omega
      obtain ⟨a, e1, e2⟩ := hx.2 j j x (by simp [hj]) e
      exact ⟨a, e1, hj, e2⟩
    have es : ∀ {H : Hp} {a c : Addr}, Same H0 H → ErrAt H0 a c v → ErrAt H a c v := fun s ⟨d, h1, h2⟩ => ⟨d, s _ _ h1, s _ _ h2⟩
    -- the codes
    refine ⟨_, rfl, l, rfl, ⟨xs, SqL.of hl⟩, fun D hD => ?_⟩
    refine lc_list (xs := xs) (fun i H' => RowsAt H0 H' D i) ⟨[], rfl, L2.upd_same, by simp, new_same hD⟩ (fun i H' _ ⟨_, _, _, _, s⟩ => SqL.of (s _ _ hl)) ?_ ?_
    · intro i x H' hi hR
      obtain ⟨a, rfl, hj, he⟩ := at_ i x hi
      obtain ⟨_, _, _, _, s0⟩ := id hR
      refine ⟨rfl, ?_⟩
      refine ⟨_, rfl, a, i, rfl, by omega, .inl ⟨v, es s0 he⟩, fun q H2 nq sq hq => ?_⟩
      rw [if_pos (by omega)] at hq
      obtain ⟨acc, h1, h2, h3⟩ := hR.turn hD sq nq hq
      exact ⟨acc, h1, by rw [h2, PySem.sizeLine_eq]; omega, h3⟩
    · intro H1 hR
      rw [lenx] at hR
      obtain ⟨_, _, _, _, s1⟩ := id hR
      refine ⟨29, rfl, by decide, by decide, fun D2 hD2 => ?_⟩
      refine lc_range (n := 29) (fun i H' => RowsAt H1 H' D2 i) ⟨[], rfl, L2.upd_same, by simp, new_same hD2⟩ ?_ ?_
      · intro i H' hi hR2
        refine ⟨rfl, ?_⟩
        refine ⟨_, rfl, (by show 1 ≤ sizeLine; decide), fun q hq => ?_⟩
        have e3 : (0 : Int) + ((i : Nat) : Int) = ((i : Nat) : Int) := Int.zero_add _
        obtain ⟨acc, h1, h2, h3⟩ := hR2.turn hD2 (new_same (o := .lst [.int ((0 : Int) + (i : Int))]) hq) hq (by rw [L2.upd_same, e3])
        exact ⟨acc, h1, by rw [h2, PySem.sizeLine_eq]; omega, h3⟩
      · intro H2 hR2
        obtain ⟨_, _, _, _, s2⟩ := id hR2
        refine ⟨_, _, (hR.same s2).dp, hR2.dp, shaped29, shaped29, _, rfl, ?_⟩
        rw [rows29]
        refine iteF ?_
        have s02 : Same H0 H2 := s1.trans s2
        -- the fields
        refine ⟨_, rfl, l, rfl, ⟨xs, SqL.of (s02 _ _ hl)⟩, fun D3 hD3 => ?_⟩
        refine lc_list (xs := xs) (fun i H' => Same H0 H' ∧ H' D3 = some (.lst [])) ⟨s02.trans (new_same hD3), L2.upd_same⟩ (fun i H' _ ⟨s, _⟩ => SqL.of (s _ _ hl)) ?_ ?_
        · rintro i x H' hi ⟨sa, hd⟩
          obtain ⟨a, rfl, hj, he⟩ := at_ i x hi
          refine ⟨rfl, ?_⟩
          refine ⟨_, rfl, a, i, rfl, by omega, .inl ⟨v, es sa he⟩, _, rfl, ?_⟩
          refine iteF ?_
          refine ⟨_, rfl, a, C i, v, rfl, es sa he, T.xf i hj, (T.xi i hj).noV, v, d, rfl, Dq.same sa d v hv, hs, hz, hp, _, rfl, rfl, _, rfl, ?_⟩
          rw [decide_eq_true rfl]
          exact iteF ⟨sa, hd⟩
        · rintro H3 ⟨sa, hd⟩
          refine ⟨by decide, fun p hp3 => ?_⟩
          refine ⟨.list [], .list [], .lst (SqL.of (new_same hp3 _ _ hd)) .nil, .lst (SqL.of L2.upd_same) .nil, by decide, by decide, ?_⟩
          exact k _ (sa.trans (new_same hp3))
end
end EV
namespace EV
open PySem L2 EVX
/-! ### data that repr may show -/
structure OkD (d : PyData) : Prop where
  sh : d.showable = true
  sz : d.shown.length ≤ sizeLine
  dp : d.depth ≤ 60
theorem okD {d : PyData} (h1 : d.showable = true) (h2 : d.leavesShort 13 = true) (h3 : d.weight ≤ 2 ^ 20) (h4 : d.depth ≤ 60) : OkD d := ⟨h1, PyData.shown_fits (B := 13) (by decide) (by decide) h2 h3, h4⟩
def Short (x : Str) : Prop := x.cps.size ≤ 16 ∧ (x.cps.toList.all fun c => decide (c < 16 ^ 8)) = true
theorem IsWord.short {x : Str} (h : IsWord x) : Short x := ⟨Nat.le_trans h.2.1 (by decide), List.all_eq_true.mpr fun c hc => decide_eq_true (Nat.lt_of_le_of_lt (h.2.2 c hc).2 (by decide))⟩
theorem ok_none : OkD .none := okD rfl rfl (by decide) (by decide)
theorem ok_bool (b : Bool) : OkD (.bool b) := okD rfl rfl (Nat.zero_le _) (Nat.zero_le _)
theorem leaf_int {i : Int} (h : i.natAbs < 10 ^ 12) : (PyData.int i).showable = true ∧ (PyData.int i).leavesShort 13 = true ∧ (PyData.int i).weight ≤ 64 := by
  have hl : i.natAbs.log2 < 40 ∨ i.natAbs = 0 := by
    by_cases z : i.natAbs = 0
    · exact .inr z
    · exact .inl ((Nat.log2_lt z).mpr (Nat.lt_of_lt_of_le h (by decide)))
  have hl2 : i.natAbs.log2 < 40 := by
    rcases hl with z | z
    · exact z
    · rw [z]
      decide
  refine ⟨?_, ?_, ?_⟩
  · simp only [PyData.showable, decide_eq_true_eq]
    omega
  · simp only [PyData.leavesShort, decide_eq_true_eq]
    exact PyData.shown_int_le h
  · simp only [PyData.weight]
    split <;> omega
theorem ok_int {i : Int} (h : i.natAbs < 10 ^ 12) : OkD (.int i) := by
  obtain ⟨h1, h2, h3⟩ := leaf_int h
  exact okD h1 h2 (Nat.le_trans h3 (by decide)) (Nat.zero_le _)
theorem ok_str {x : Str} (h : Short x) : OkD (.str x) := okD rfl h.2 (Nat.le_trans (show (PyData.str x).weight ≤ 16 from h.1) (by decide)) (Nat.zero_le _)
theorem short_later : Short "later" := ⟨by decide +kernel, by decide +kernel⟩
theorem short_out : Short "out" := ⟨by decide +kernel, by decide +kernel⟩
theorem short_LATER : Short "LATER" := ⟨by decide +kernel, by decide +kernel⟩
theorem short_fill : Short "fill" := ⟨by decide +kernel, by decide +kernel⟩
end EV
namespace EV
open PySem L2 EVX
abbrev dList1 (x : Str) : PyData := .list [.str x]
abbrev dList1' (x : Str) : PyData := .list [.str x, .str "later"]
abbrev dList2 (x : Str) : PyData := .list [.list [.str x], .dict [(.str "out", .str x)]]
abbrev dList2' (x : Str) : PyData := .list [.list [.str x], .dict [(.str "out", .str x)], .str "later"]
abbrev dTup3 : PyData := .tuple [.str "fill", .int 1, .int 2]
abbrev dTup2 (x : Str) : PyData := .tuple [.str x, .list [.str x]]
abbrev dTup2' (x : Str) : PyData := .tuple [.str x, .list [.str x, .str "later"]]
abbrev dDict (x : Str) : PyData := .dict [(.str x, .list [.str x])]
abbrev dDict' (x : Str) : PyData := .dict [(.str x, .list [.str x, .str "later"]), (.str "LATER", .int 1)]
abbrev dPair (x : Str) : PyData := .tuple [.str "later", .str x]
theorem ls_str {x : Str} (h : Short x) : (PyData.str x).leavesShort 13 = true := h.2
theorem wt_str {x : Str} (h : Short x) : (PyData.str x).weight ≤ 16 := h.1
theorem ok_all {x : Str} (h : Short x) : OkD (dList1 x) ∧ OkD (dList1' x) ∧ OkD (dList2 x) ∧ OkD (dList2' x) ∧ OkD dTup3 ∧ OkD (dTup2 x) ∧ OkD (dTup2' x) ∧ OkD (dDict x) ∧ OkD (dDict' x) ∧ OkD (dPair x) := by
  have a1 := ls_str h
  have a2 := wt_str h
  have b1 := ls_str short_later
  have b2 := wt_str short_later
  have c1 := ls_str short_out
  have c2 := wt_str short_out
  have d1 := ls_str short_LATER
  have d2 := wt_str short_LATER
  have e1 := (leaf_int (i := 1) (by decide)).2
  have s1 : (PyData.int 1).showable = true := by decide +kernel
  refine ⟨?_, ?_, ?_, ?_, ?_, ?_, ?_, ?_, ?_, ?_⟩
  all_goals first
    | exact okD (by decide +kernel) (by decide +kernel) (by decide +kernel) (by decide +kernel)
    | (refine okD ?_ ?_ ?_ ?_
       · simp only [PyData.showable, PyData.showableAll, PyData.showableKv, Bool.and_self, s1, Bool.true_and, decide_eq_true_eq] <;> decide
       · simp only [PyData.leavesShort, PyData.leavesShortAll, PyData.leavesShortKv, Bool.and_self, Bool.and_eq_true] at *
         simp only [a1, b1, c1, d1, e1.1, and_self]
       · have q : (2 : Nat) ^ 20 = 1048576 := by decide
         rw [q]
         simp only [PyData.weight, PyData.weightAll, PyData.weightKv] at *
         omega
       · simp only [PyData.depth, PyData.depthAll, PyData.depthKv]
         decide)
end EV
namespace EV
open PySem L2 EVX
/-! ### the things of a turn -/
def Small : HO → Prop
  | .lst xs => xs.length ≤ 2
  | .tup _ => True
  | .dK _ => True
  | _ => False
/-- what is small stands -/
def Keep (H H' : Hp) : Prop := ∀ b o, H b = some o → Small o → H' b = some o
/-- what is not small stands -/
def Rest (H H' : Hp) : Prop := ∀ b o, H b = some o → ¬ Small o → H' b = some o
theorem Keep.same {H H' : Hp} (s : Same H H') : Keep H H' := fun b o e _ => s b o e
theorem Keep.but {H H' : Hp} {p : Addr} {a b c d : Int} (B : But p H H') (P : PurseAt H p a b c d) : Keep H H' := fun x o e z => B x o e fun h => by
  rw [h, P.1] at e
  cases e
  exact absurd z (by show ¬ (4 ≤ 2); decide)
inductive Kind (Hs H : Hp) (x : Str) : V → PyData → Prop
  | non : Kind Hs H x .non .none
  | bl (b : Bool) : Kind Hs H x (.bl b) (.bool b)
  | int (i : Int) (h : i.natAbs < 10 ^ 12) : Kind Hs H x (.int i) (.int i)
  | str : Kind Hs H x (.str x) (.str x)
  | tup3 {t : Addr} (h : H t = some (.tup [.str "fill", .int 1, .int 2])) : Kind Hs H x (.ref t) dTup3
  | tup2 {t l : Addr} (h : H t = some (.tup [.str x, .ref l])) (hl : H l = some (.lst [.str x])) (hn : Hs l = none) : Kind Hs H x (.ref t) (dTup2 x)
  | dic {d l : Addr} (h : H d = some (.dK [(.inr x, .ref l)])) (hl : H l = some (.lst [.str x])) (hn : Hs l = none) (hd : Hs d = none) : Kind Hs H x (.ref d) (dDict x)
  | list1 {l : Addr} (hl : H l = some (.lst [.str x])) (hn : Hs l = none) : Kind Hs H x (.ref l) (dList1 x)
  | list2 {l m d : Addr} (hl : H l = some (.lst [.ref m, .ref d])) (hm : H m = some (.lst [.str x])) (hd : H d = some (.dK [(.inr "out", .str x)])) (hn : Hs l = none) : Kind Hs H x (.ref l) (dList2 x)
section
variable {K : PySem.W.Frag} {C : Nat → Addr} {Hs H H' : Hp} {x : Str} {v : V} {d : PyData}
theorem Kind.keep (k : Keep H H') (h : Kind Hs H x v d) : Kind Hs H' x v d := by
  cases h with
  | non => exact .non
  | bl b => exact .bl b
  | int i h => exact .int i h
  | str => exact .str
  | tup3 h => exact .tup3 (k _ _ h trivial)
  | tup2 h hl hn => exact .tup2 (k _ _ h trivial) (k _ _ hl (by show 1 ≤ 2; decide)) hn
  | dic h hl hn hd => exact .dic (k _ _ h trivial) (k _ _ hl (by show 1 ≤ 2; decide)) hn hd
  | list1 hl hn => exact .list1 (k _ _ hl (by show 1 ≤ 2; decide)) hn
  | list2 hl hm hd hn => exact .list2 (k _ _ hl (by show 2 ≤ 2; decide)) (k _ _ hm (by show 1 ≤ 2; decide)) (k _ _ hd trivial) hn
theorem dq_l1 {l : Addr} (hl : H l = some (.lst [.str x])) : Dq K H (.ref l) (dList1 x) := .lst (SqL.of hl) (.cons (.str x) .nil)
theorem dq_l1' {l : Addr} (hl : H l = some (.lst [.str x, .str "later"])) : Dq K H (.ref l) (dList1' x) := .lst (SqL.of hl) (.cons (.str x) (.cons (.str "later") .nil))
theorem Kind.dq (w : IsWord x) (h : Kind Hs H x v d) : Dq K H v d ∧ OkD d := by
  obtain ⟨a1, a2, a3, a4, a5, a6, a7, a8, a9, a10⟩ := ok_all w.short
  cases h with
  | non => exact ⟨.non, ok_none⟩
  | bl b => exact ⟨.bl b, ok_bool b⟩
  | int i h => exact ⟨.int i, ok_int h⟩
  | str => exact ⟨.str x, ok_str w.short⟩
  | tup3 h => exact ⟨.tup (SqT.of h) (.cons (.str "fill") (.cons (.int 1) (.cons (.int 2) .nil))), a5⟩
  | tup2 h hl hn => exact ⟨.tup (SqT.of h) (.cons (.str x) (.cons (dq_l1 hl) .nil)), a6⟩
  | dic h hl hn hd => exact ⟨.dic h (.cons (dq_l1 hl) .nil), a8⟩
  | list1 hl hn => exact ⟨dq_l1 hl, a1⟩
  | list2 hl hm hd hn => exact ⟨.lst (SqL.of hl) (.cons (dq_l1 hm) (.cons (.dic hd (.cons (.str x) .nil)) .nil)), a3⟩
/-! ### the changes -/
abbrev tIsi (K : PySem.W.Frag) (n : String) : TT := tB (tCB (rIsi K) (tCons (tVar 4) (tCons (tC (.ty n)) tNil)))
abbrev tApp (K : PySem.W.Frag) (te : TE) : TS := tDrop (tBM K "list" rAppend te (tCons (tC (.str "later")) tNil))
abbrev rLn (K : PySem.W.Frag) : List V → Hp → VK → Prop := fun xs H Q => ∃ p ys, xs = [.ref p] ∧ (SqL K H p ys ∨ SqT K H p ys) ∧ Q (.int ys.length) H
def tMut (K : PySem.W.Frag) (u : TS) : TS := tSeq (tIfS (tIsi K "list") (tApp K (tVar 4)) tNext) (tSeq (tIfS (tIsi K "dict") (tSeq (tApp K (tDGet (tVar 4) (tVar 2))) (sDPut (tVar 4) (tC (.str "LATER")) (tC (.int 1)))) tNext)
  (tSeq (tIfS (tAnd (tIsi K "tuple") (tTest (tOp rEq (tCB (rLn K) (tCons (tVar 4) tNil)) (tC (.int 2))))) (tApp K (tOp (rIxT K) (tVar 4) (tC (.int 1)))) tNext) u))
theorem isi_read {σ : St} {n t : String} {b : Bool} {Q : Bool → Hp → Prop} (h4 : σ[4]? = some (some v)) (ty : TyX K H v (.type t)) (k : kitB t n = some b) (h : Q b H) : tIsi K n σ H Q := ⟨v, h4, v, _, _, _, b, rfl, .ty n, ty, kit_ty k, b, rfl, h⟩
theorem later_ne (w : IsWord x) : x ≠ "LATER" := fun e => by
  have := w.2.2 76 (by rw [e]; decide +kernel)
  omega
theorem mut_plain {u : TS} {D : Ends} {σ : St} {t : String} (h4 : σ[4]? = some (some v)) (ty : TyX K H v (.type t)) (k1 : kitB t "list" = some false) (k2 : kitB t "dict" = some false) (k3 : kitB t "tuple" = some false) (h : u D σ H) : tMut K u D σ H := by
  refine isi_read h4 ty k1 (iteF ?_)
  refine isi_read h4 ty k2 (iteF ?_)
  refine isi_read h4 ty k3 (iteF ?_)
  exact iteF h
theorem app_read {te : TE} {D : Ends} {σ : St} {l : Addr} {xs : List V} (hte : ∀ Q : VK, Q (.ref l) H → te σ H Q) (hl : H l = some (.lst xs)) (hz : xs.length ≤ 2) (h : D.nx σ (upd H l (.lst (xs ++ [.str "later"])))) : tApp K te D σ H :=
  hte _ ⟨.inl ⟨rfl, _, SqL.of hl⟩, l, xs, _, rfl, rfl, hl, by rw [PySem.sizeLine_eq]; omega, h⟩
theorem rest_upd {l : Addr} {o o' : HO} (hl : H l = some o) (s : Small o) : Rest H (upd H l o') := fun b u e n => by
  have : b ≠ l := fun z => by
    rw [z, hl] at e
    cases e
    exact n s
  rw [upd_ne this]
  exact e
theorem fresh_upd {l : Addr} {o' : HO} (hn : Hs l = none) : ∀ b o, Hs b = some o → H b = some o → upd H l o' b = some o := fun b o e e2 => by
  rw [upd_ne (ne_of_none e hn)]
  exact e2
theorem mut_read {u : TS} {D : Ends} {σ : St} (wd : IsWord x) (hk : Kind Hs H x v d) (h4 : σ[4]? = some (some v)) (h2 : σ[2]? = some (some (.str x)))
    (h : ∀ H' d', Rest H H' → (∀ b o, Hs b = some o → H b = some o → H' b = some o) → Dq K H' v d' → OkD d' → u D σ H') : tMut K u D σ H := by
  obtain ⟨a1, a2, a3, a4, a5, a6, a7, a8, a9, a10⟩ := ok_all wd.short
  have hq := Kind.dq (K := K) wd hk
  have same := h H d (fun _ _ e _ => e) (fun _ _ _ e => e) hq.1 hq.2
  cases hk with
  | non => exact mut_plain h4 (.base .non) (by decide +kernel) (by decide +kernel) (by decide +kernel) same
  | bl b => exact mut_plain h4 (.base (.bl b)) (by decide +kernel) (by decide +kernel) (by decide +kernel) same
  | int i hi => exact mut_plain h4 (.base (.int i)) (by decide +kernel) (by decide +kernel) (by decide +kernel) same
  | str => exact mut_plain h4 (.base (.str x)) (by decide +kernel) (by decide +kernel) (by decide +kernel) same
  | @tup3 t e =>
    refine isi_read h4 (.base (.tup e)) (by decide +kernel : kitB "tuple" "list" = some false) (iteF ?_)
    refine isi_read h4 (.base (.tup e)) (by decide +kernel : kitB "tuple" "dict" = some false) (iteF ?_)
    refine isi_read h4 (.base (.tup e)) (by decide +kernel : kitB "tuple" "tuple" = some true) (iteT ?_)
    refine ⟨_, h4, t, _, rfl, .inr (SqT.of e), rfl, _, rfl, ?_⟩
    rw [show decide (V.int ((([.str "fill", .int 1, .int 2] : List V).length : Nat) : Int) = V.int 2) = false from by decide]
    exact iteF same
  | @tup2 t l e hl hn =>
    refine isi_read h4 (.base (.tup e)) (by decide +kernel : kitB "tuple" "list" = some false) (iteF ?_)
    refine isi_read h4 (.base (.tup e)) (by decide +kernel : kitB "tuple" "dict" = some false) (iteF ?_)
    refine isi_read h4 (.base (.tup e)) (by decide +kernel : kitB "tuple" "tuple" = some true) (iteT ?_)
    refine ⟨_, h4, t, _, rfl, .inr (SqT.of e), rfl, _, rfl, ?_⟩
    rw [show decide (V.int ((([.str x, .ref l] : List V).length : Nat) : Int) = V.int 2) = true from by simp]
    refine iteT ?_
    refine app_read (l := l) (fun Q q => ⟨_, h4, t, _, _, _, rfl, rfl, SqT.of e, rfl, q⟩) hl (by show 1 ≤ 2; decide) ?_
    refine h _ (dTup2' x) (rest_upd hl (by show 1 ≤ 2; decide)) (fresh_upd hn) ?_ a7
    exact .tup (SqT.of (by rw [upd_ne (fun z => by rw [z, hl] at e; cases e)]; exact e)) (.cons (.str x) (.cons (dq_l1' upd_same) .nil))
  | @dic q l e hl hn hd =>
    have hql : q ≠ l := fun z => by rw [z, hl] at e; cases e
    have e2 : upd H l (.lst ([.str x] ++ [.str "later"])) q = some (.dK [(.inr x, .ref l)]) := by rw [upd_ne hql]; exact e
    refine isi_read h4 (.base (.dK e)) (by decide +kernel : kitB "dict" "list" = some false) (iteF ?_)
    refine isi_read h4 (.base (.dK e)) (by decide +kernel : kitB "dict" "dict" = some true) (iteT ?_)
    have g := DGet.k (k := .inr x) e
    rw [valV_pos (show ((Sum.inr x : Key), V.ref l).1 = .inr x from rfl)] at g
    refine app_read (l := l) (fun Q z => ⟨_, h4, _, h2, q, .ref l, rfl, g, z⟩) hl (by show 1 ≤ 2; decide) ?_
    refine ⟨_, h4, q, _, rfl, DPut.k (k := .inr "LATER") e2 (by show 1 < sizeLine; decide), ?_⟩
    rw [putK_new (v := .int 1) (by rw [valV_neg (by show ¬ (Sum.inr x : Key) = .inr "LATER"; intro z; exact later_ne wd (Sum.inr.inj z))]; rfl)]
    have e3 : upd (upd H l (.lst ([.str x] ++ [.str "later"]))) q (.dK ([(.inr x, .ref l)] ++ [(.inr "LATER", .int 1)])) q = some (.dK [(.inr x, .ref l), (.inr "LATER", .int 1)]) := upd_same
    refine isi_read h4 (.base (.dK e3)) (by decide +kernel : kitB "dict" "tuple" = some false) (iteF ?_)
    refine iteF ?_
    refine h _ (dDict' x) (fun b o z n => rest_upd e2 trivial b o (rest_upd hl (by show 1 ≤ 2; decide) b o z n) n) (fun b o z z2 => fresh_upd hd b o z (fresh_upd hn b o z z2)) ?_ a9
    exact .dic e3 (.cons (dq_l1' (by rw [upd_ne hql.symm]; exact upd_same)) (.cons (.int 1) .nil))
  | @list1 l hl hn =>
    refine isi_read h4 (.base (.lst hl)) (by decide +kernel : kitB "list" "list" = some true) (iteT ?_)
    refine app_read (l := l) (fun Q z => ⟨_, h4, z⟩) hl (by show 1 ≤ 2; decide) ?_
    have e3 : upd H l (.lst ([.str x] ++ [.str "later"])) l = some (.lst [.str x, .str "later"]) := upd_same
    refine isi_read h4 (.base (.lst e3)) (by decide +kernel : kitB "list" "dict" = some false) (iteF ?_)
    refine isi_read h4 (.base (.lst e3)) (by decide +kernel : kitB "list" "tuple" = some false) (iteF ?_)
    refine iteF ?_
    exact h _ (dList1' x) (rest_upd hl (by show 1 ≤ 2; decide)) (fresh_upd hn) (dq_l1' e3) a2
  | @list2 l m q hl hm hd hn =>
    have ml : m ≠ l := fun z => by rw [z, hl] at hm; cases hm
    have ql : q ≠ l := fun z => by rw [z, hl] at hd; cases hd
    refine isi_read h4 (.base (.lst hl)) (by decide +kernel : kitB "list" "list" = some true) (iteT ?_)
    refine app_read (l := l) (fun Q z => ⟨_, h4, z⟩) hl (by show 2 ≤ 2; decide) ?_
    have e3 : upd H l (.lst ([.ref m, .ref q] ++ [.str "later"])) l = some (.lst [.ref m, .ref q, .str "later"]) := upd_same
    refine isi_read h4 (.base (.lst e3)) (by decide +kernel : kitB "list" "dict" = some false) (iteF ?_)
    refine isi_read h4 (.base (.lst e3)) (by decide +kernel : kitB "list" "tuple" = some false) (iteF ?_)
    refine iteF ?_
    refine h _ (dList2' x) (rest_upd hl (by show 2 ≤ 2; decide)) (fresh_upd hn) ?_ a4
    exact .lst (SqL.of e3) (.cons (dq_l1 (by rw [upd_ne ml]; exact hm)) (.cons (.dic (by rw [upd_ne ql]; exact hd) (.cons (.str x) .nil)) (.cons (.str "later") .nil)))
end
end EV
namespace EV
open PySem L2 EVX
section
variable {K : PySem.W.Frag} {C : Nat → Addr} {Hs H : Hp} {x : Str} {σ : St} {Q : VK}
/-! ### the things to draw from -/
def tPlain (K : PySem.W.Frag) : TE := tLst (tCons (tC .non) (tCons (tC (.bl true)) (tCons (tC (.bl false)) (tCons (tC (.int 0)) (tCons (tVar 2) (tCons (tUn (rU fun i => .int (-i)) (tOp (rIxL K) (tVar 1) (tC (.int 1))))
  (tCons (tTup (tCons (tC (.str "fill")) (tCons (tC (.int 1)) (tCons (tC (.int 2)) tNil)))) (tCons (tTup (tCons (tVar 2) (tCons (tLst (tCons (tVar 2) tNil)) tNil))) (tCons (tDisp [(tVar 2, tLst (tCons (tVar 2) tNil))]) tNil)))))))))
def tExtra : TE := tLst (tCons (tLst (tCons (tVar 2) tNil)) (tCons (tLst (tCons (tLst (tCons (tVar 2) tNil)) (tCons (tDisp [(tC (.str "out"), tVar 2)]) tNil))) tNil))
theorem sz (n : Nat) (h : n ≤ 1000) : n ≤ sizeLine := by
  rw [PySem.sizeLine_eq]
  omega
theorem plain_read {p : Addr} {a b c d : Int} (h1 : σ[1]? = some (some (.ref p))) (h2 : σ[2]? = some (some (.str x))) (P : PurseAt H p a b c d) (hs : ∀ q, H q = none → Hs q = none)
    (h : ∀ l xs H', Same H H' → H' l = some (.lst xs) → H l = none → xs.length = 9 → (∀ v ∈ xs, ∃ d, Kind Hs H' x v d) → Q (.ref l) H') : tPlain K σ H Q := by
  refine ⟨.str x, h2, .ref p, h1, p, _, _, _, rfl, rfl, SqL.of P.1, rfl, _, rfl, ?_⟩
  refine ⟨sz 3 (by decide), fun t ht => ?_⟩
  refine ⟨.str x, h2, .str x, h2, sz 1 (by decide), fun l hl => ⟨sz 2 (by decide), fun t2 ht2 => ?_⟩⟩
  intro q hq
  refine ⟨.str x, h2, .str x, h2, sz 1 (by decide), fun l2 hl2 => ?_⟩
  have ql2 : q ≠ l2 := fun z => by rw [← z, upd_same] at hl2; cases hl2
  refine ⟨by rw [upd_ne ql2]; exact upd_same, [(.inr x, .ref l2)], rfl, by show 1 ≤ 15; decide, sz 9 (by decide), fun L hL => ?_⟩
  have em : mergeK [] [((.inr x : Key), V.ref l2)] = [(.inr x, .ref l2)] := rfl
  rw [em] at hL ⊢
  have s1 := new_same (o := .tup [.str "fill", .int 1, .int 2]) ht
  have s2 := new_same (o := .lst [.str x]) hl
  have s3 := new_same (o := .tup [.str x, .ref l]) ht2
  have s4 := new_same (o := .dK []) hq
  have s5 := new_same (o := .lst [.str x]) hl2
  have e1 : upd H t (.tup [.str "fill", .int 1, .int 2]) t = some (.tup [.str "fill", .int 1, .int 2]) := upd_same
  generalize g1 : upd H t (.tup [.str "fill", .int 1, .int 2]) = H1 at *
  have e2 : upd H1 l (.lst [.str x]) l = some (.lst [.str x]) := upd_same
  generalize g2 : upd H1 l (.lst [.str x]) = H2 at *
  have e3 : upd H2 t2 (.tup [.str x, .ref l]) t2 = some (.tup [.str x, .ref l]) := upd_same
  generalize g3 : upd H2 t2 (.tup [.str x, .ref l]) = H3 at *
  generalize g4 : upd H3 q (.dK []) = H4 at *
  have e5 : upd H4 l2 (.lst [.str x]) l2 = some (.lst [.str x]) := upd_same
  generalize g5 : upd H4 l2 (.lst [.str x]) = H5 at *
  have e6 : upd H5 q (.dK [(.inr x, .ref l2)]) q = some (.dK [(.inr x, .ref l2)]) := upd_same
  have e5' : upd H5 q (.dK [(.inr x, .ref l2)]) l2 = some (.lst [.str x]) := by rw [upd_ne ql2.symm]; exact e5
  have s36 : Same H3 (upd H5 q (.dK [(.inr x, .ref l2)])) := fun b o e => by
    rw [upd_ne (ne_of_none e hq)]
    exact s5 _ _ (s4 _ _ e)
  generalize g6 : upd H5 q (.dK [(.inr x, .ref l2)]) = H6 at *
  have s7 := new_same (o := .lst [.non, .bl true, .bl false, .int 0, .str x, .int (-b), .ref t, .ref t2, .ref q]) hL
  have s06 : Same H H6 := ((s1.trans s2).trans s3).trans s36
  refine h L _ _ (s06.trans s7) upd_same (s06.free hL) rfl ?_
  have nl : Hs l = none := hs l (s1.free hl)
  have nq : Hs q = none := hs q (((s1.trans s2).trans s3).free hq)
  have nl2 : Hs l2 = none := hs l2 ((((s1.trans s2).trans s3).trans s4).free hl2)
  intro v hv
  simp only [List.mem_cons, List.not_mem_nil, or_false] at hv
  rcases hv with rfl | rfl | rfl | rfl | rfl | rfl | rfl | rfl | rfl
  · exact ⟨_, .non⟩
  · exact ⟨_, .bl true⟩
  · exact ⟨_, .bl false⟩
  · exact ⟨_, .int 0 (by decide)⟩
  · exact ⟨_, .str⟩
  · exact ⟨_, .int (-b) (by
      have z1 := P.2.2.1
      have z2 := P.2.2.2.1
      have : (10 : Nat) ^ 12 = 1000000000000 := by decide
      omega)⟩
  · exact ⟨_, (Kind.tup3 (Hs := Hs) (x := x) e1).keep (.same (((s2.trans s3).trans s36).trans s7))⟩
  · exact ⟨_, (Kind.tup2 (Hs := Hs) e3 (s3 _ _ e2) nl).keep (.same (s36.trans s7))⟩
  · exact ⟨_, (Kind.dic (Hs := Hs) e6 e5' nl2 nq).keep (.same s7)⟩
theorem extra_read (h2 : σ[2]? = some (some (.str x))) (hs : ∀ q, H q = none → Hs q = none)
    (h : ∀ l xs H', Same H H' → H' l = some (.lst xs) → H l = none → xs.length = 2 → (∀ v ∈ xs, ∃ d, Kind Hs H' x v d) → Q (.ref l) H') : tExtra σ H Q := by
  refine ⟨.str x, h2, sz 1 (by decide), fun l hl => ?_⟩
  refine ⟨.str x, h2, sz 1 (by decide), fun m hm => ?_⟩
  intro q hq
  refine ⟨.str x, h2, upd_same, [(.inr "out", .str x)], rfl, by show 1 ≤ 15; decide, sz 2 (by decide), fun n hn => ?_⟩
  have em : mergeK [] [((.inr "out" : Key), V.str x)] = [(.inr "out", .str x)] := rfl
  rw [em] at hn ⊢
  refine ⟨sz 2 (by decide), fun L hL => ?_⟩
  have s1 := new_same (o := .lst [.str x]) hl
  have s2 := new_same (o := .lst [.str x]) hm
  have e1 : upd H l (.lst [.str x]) l = some (.lst [.str x]) := upd_same
  generalize g1 : upd H l (.lst [.str x]) = H1 at *
  have e2 : upd H1 m (.lst [.str x]) m = some (.lst [.str x]) := upd_same
  generalize g2 : upd H1 m (.lst [.str x]) = H2 at *
  have e3 : upd (upd H2 q (.dK [])) q (.dK [(.inr "out", .str x)]) q = some (.dK [(.inr "out", .str x)]) := upd_same
  have s3 : Same H2 (upd (upd H2 q (.dK [])) q (.dK [(.inr "out", .str x)])) := fun b o e => by
    rw [upd_ne (ne_of_none e hq), upd_ne (ne_of_none e hq)]
    exact e
  generalize g3 : upd (upd H2 q (.dK [])) q (.dK [(.inr "out", .str x)]) = H3 at *
  have s4 := new_same (o := .lst [.ref m, .ref q]) hn
  have e4 : upd H3 n (.lst [.ref m, .ref q]) n = some (.lst [.ref m, .ref q]) := upd_same
  generalize g4 : upd H3 n (.lst [.ref m, .ref q]) = H4 at *
  have s5 := new_same (o := .lst [.ref l, .ref n]) hL
  have s04 : Same H H4 := ((s1.trans s2).trans s3).trans s4
  refine h L _ _ (s04.trans s5) upd_same (s04.free hL) rfl ?_
  intro v hv
  simp only [List.mem_cons, List.not_mem_nil, or_false] at hv
  rcases hv with rfl | rfl
  · exact ⟨_, (Kind.list1 (Hs := Hs) e1 (hs l hl)).keep (.same (((s2.trans s3).trans s4).trans s5))⟩
  · exact ⟨_, (Kind.list2 (Hs := Hs) e4 (s4 _ _ (s3 _ _ e2)) (s4 _ _ e3) (hs n (((s1.trans s2).trans s3).free hn))).keep (.same s5)⟩
end
end EV
namespace EV
open PySem L2 EVX
section
variable {P : Program} {w : World} {K : PySem.W.Frag} {mg : Str → Option Value} {base : Heap} {f : Addr} {fd0 : FuncData} {C fI : Nat → Addr} {fd : Nat → FuncData}
theorem errs_same {v : V} {H H' : Hp} {l : Addr} (s : Same H H') (h : ErrsAt C v H l) : ErrsAt C v H' l := by
  obtain ⟨xs, h1, h2⟩ := h
  exact ⟨xs, s _ _ h1, h2.same errs_mono s⟩
theorem errs_rest {v : V} {H H' : Hp} {l : Addr} (s : Rest H H') (h : ErrsAt C v H l) : ErrsAt C v H' l := by
  obtain ⟨xs, h1, h2⟩ := h
  refine ⟨xs, s _ _ h1 ?_, h2.1, fun i j x a b => ?_⟩
  · intro z
    have z2 : xs.length ≤ 2 := z
    have := h2.1
    rw [List.length_range] at this
    omega
  · obtain ⟨q, e, d, e1, e2⟩ := h2.2 i j x a b
    exact ⟨q, e, d, s _ _ e1 (fun z => z), s _ _ e2 (fun z => z)⟩
abbrev tRight (K : PySem.W.Frag) (C : Nat → Addr) (ta tb : TE) : TT := tB fun σ H Q => tCons ta (tCons tb tNil) σ H fun vs H1 => sp_right K C vs H1 Q E0
abbrev tRp (K : PySem.W.Frag) : TE := tCB (rRepr K) (tCons (tVar 4) tNil)
def tEnd (K : PySem.W.Frag) (C : Nat → Addr) : TS := tIfS (tOr (tNot (tRight K C (tVar 6) (tRp K))) (tNot (tRight K C (tVar 7) (tRp K)))) (tRet (tC (.bl false))) tNext
theorem right_read {ta tb : TE} {σ : St} {H : Hp} {Q : Bool → Hp → Prop} {l : Addr} {v : V} {d : PyData} (ha : ∀ Q : VK, Q (.ref l) H → ta σ H Q) (hb : ∀ Q : VK, Q (.str d.shown) H → tb σ H Q) (he : ErrsAt C v H l) (hd : Dq K H v d) (o : OkD d) (h : ∀ H', Same H H' → Q true H') : tRight K C ta tb σ H Q :=
  ha _ (hb _ ⟨l, v, d, rfl, he, hd, o.sh, o.sz, o.dp, fun H' s => ⟨true, rfl, h H' s⟩⟩)
theorem end_read {D : Ends} {σ : St} {H : Hp} {l m : Addr} {v : V} {d : PyData} (h4 : σ[4]? = some (some v)) (h6 : σ[6]? = some (some (.ref l))) (h7 : σ[7]? = some (some (.ref m))) (el : ErrsAt C v H l) (em : ErrsAt C v H m) (hd : Dq K H v d) (o : OkD d)
    (h : ∀ H', Same H H' → D.nx σ H') : tEnd K C D σ H := by
  refine right_read (fun Q q => ⟨_, h6, q⟩) (fun Q q => ⟨v, h4, v, d, rfl, hd, o.sh, o.sz, o.dp, q⟩) el hd o fun H1 s1 => ?_
  refine iteF ?_
  refine right_read (fun Q q => ⟨_, h7, q⟩) (fun Q q => ⟨v, h4, v, d, rfl, Dq.same s1 d v hd, o.sh, o.sz, o.dp, q⟩) (errs_same s1 em) (Dq.same s1 d v hd) o fun H2 s2 => ?_
  exact iteF (h H2 (s1.trans s2))
theorem seq_asg {te : TE} {i : Nat} {u : TS} {D : Ends} {σ : St} {H : Hp} (h : te σ H fun x H1 => u D (σ.set i (some x)) H1) : tSeq (tAsg te (gName i)) u D σ H := h
theorem seq_par3 {ta : TA} {i j l : Nat} {u : TS} {D : Ends} {σ : St} {H : Hp} (h : ta σ H fun vs H1 => ∃ a b c, vs = [a, b, c] ∧ u D (((σ.set i (some a)).set j (some b)).set l (some c)) H1) : tSeq (tPar3 i j l ta) u D σ H := h
theorem seq_if {c : TT} {t v : TS} {D : Ends} {σ : St} {H : Hp} (h : c σ H fun b H1 => if b = true then t { D with nx := v D } σ H1 else v D σ H1) : tSeq (tIfS c t tNext) v D σ H := h
theorem seq_drop {te : TE} {u : TS} {D : Ends} {σ : St} {H : Hp} (h : te σ H fun _ H1 => u D σ H1) : tSeq (tDrop te) u D σ H := h
abbrev tFalse : TS := tRet (tC (.bl false))
abbrev tPairE : TE := tTup (tCons (tC (.str "later")) (tCons (tVar 2) tNil))
def tTurn (K : PySem.W.Frag) (C : Nat → Addr) : TS :=
  tSeq (tAsg (tCall sp_word [] E0 (tCons (tVar 1) tNil)) (gName 2))
  (tSeq (tAsg (tPlain K) (gName 3))
  (tSeq (tAsg (tCall (sp_one_of K) [] E0 (tCons (tVar 1) (tCons (tOp rCat (tVar 3) tExtra) tNil))) (gName 4))
  (tSeq (tAsg (tRp K) (gName 5))
  (tSeq (tPar3 6 7 8 (tCons (tCall (sp_errs C) [] E0 (tCons (tVar 4) tNil)) (tCons (tCall (sp_errs C) [] E0 (tCons (tVar 4) tNil)) (tCons (tCall (sp_errs C) [] E0 (tCons tPairE tNil)) tNil))))
  (tSeq (tIfS (tOr (tNot (tRight K C (tCall (sp_bare C) [] E0 tNil) (tC (.str "None")))) (tNot (tRight K C (tVar 8) (tCB (rRepr K) (tCons tPairE tNil))))) tFalse tNext)
  (tSeq (tIfS (tOr (tNot (tRight K C (tVar 6) (tVar 5))) (tNot (tRight K C (tVar 7) (tVar 5)))) tFalse tNext)
  (tMut K (tEnd K C))))))))
def tX (C : Nat → Addr) (i : Nat) : TE := fun σ H Q => ∀ (a : Addr) (H' : Hp), H a = none → Same H H' → H' a = some (ExO (.ref (C i)) a) → Q (.ref a) H'
def tCodes (K : PySem.W.Frag) (C : Nat → Addr) : TE := tLc (iList K (tVar 9)) (gName 10) tYes (tCall (sp_code C) [] E0 (tCons (tVar 10) tNil)) [10]
def tErrs (K : PySem.W.Frag) (C : Nat → Addr) : TE := tLc (iList K (tVar 9)) (gName 10) tYes (tCall (sp_is_error C) [] E0 (tCons (tVar 10) tNil)) [10]
def tPost (K : PySem.W.Frag) (C : Nat → Addr) : TS :=
  tSeq (tAsg (tLst (tCons (tX C 29) (tCons (tX C 30) tNil))) (gName 9))
  (tSeq (tIfS (tTest (tOp (rNeD K) (tCodes K C) (tLst (tCons (tLst (tCons (tC (.int 29)) tNil)) (tCons (tLst (tCons (tC (.int 30)) tNil)) tNil))))) tFalse tNext)
  (tSeq (tDrop (tBM K "list" rAppend (tVar 9) (tCons (tX C 31) tNil)))
  (tRet (tAndV (tCB (rAll K) (tCons (tErrs K C) tNil)) (tOp (rEqD K) (tCall (sp_code C) [] E0 (tCons (tOp (rIxL K) (tVar 9) (tC (.int 2))) tNil)) (tLst tNil))))))
def tLaw (K : PySem.W.Frag) (C : Nat → Addr) : TS := tSeq (tFor (iList K (tCall (sp_purses K) [] E0 (tCons (tVar 0) (tCons (tC (.int 3)) tNil)))) (gName 1) (tTurn K C)) (tPost K C)
theorem none_read {ta tb : TE} {σ : St} {H : Hp} {Q : Bool → Hp → Prop} {l : Addr} (ha : ∀ Q : VK, (∀ l H', Same H H' → ErrsAt C .non H' l → Q (.ref l) H') → ta σ H Q) (hb : ∀ (H : Hp) (Q : VK), Q (.str "None") H → tb σ H Q) (h : ∀ H', Same H H' → Q true H') : tRight K C ta tb σ H Q :=
  ha _ fun l H1 s1 e1 => hb H1 _ ⟨l, .non, .none, rfl, e1, .non, ok_none.sh, ok_none.sz, ok_none.dp, fun H' s => ⟨true, rfl, h H' (s1.trans s)⟩⟩
theorem turn_read {D : Ends} {x0 : V} {w2 w3 w4 w5 w6 w7 w8 : Option V} {p : Addr} {a b d : Int} {Hs : Hp} (P0 : PurseAt Hs p a b 0 d)
    (h : ∀ v2 v3 v4 v5 v6 v7 v8 H', But p Hs H' → D.nx [some x0, some (.ref p), v2, v3, v4, v5, v6, v7, v8, none, none] H') : tTurn K C D [some x0, some (.ref p), w2, w3, w4, w5, w6, w7, w8, none, none] Hs := by
  refine seq_asg ?_
  refine ⟨.ref p, rfl, p, a, b, 0, d, rfl, P0, by decide, fun x H2 wd ⟨a2, c2, P2, hc2, B2⟩ => ?_⟩
  have fr : ∀ q, H2 q = none → Hs q = none := fun q hq => by
    cases e : Hs q with
    | none => rfl
    | some o =>
      by_cases z : q = p
      · rw [z, P2.1] at hq
        cases hq
      · rw [B2 q o e z] at hq
        cases hq
  refine seq_asg ?_
  refine plain_read (K := K) (Hs := Hs) (x := x) (p := p) rfl rfl P2 fr fun l9 xs9 H3 s3 e9 n9 z9 k9 => ?_
  refine seq_asg ?_
  refine ⟨.ref p, rfl, .ref l9, rfl, ?_⟩
  refine extra_read (Hs := Hs) (x := x) rfl (fun q hq => fr q (s3.free hq)) fun l2 xs2 H4 s4 e2 n2 z2 k2 => ?_
  refine ⟨l9, l2, xs9, xs2, rfl, rfl, s4 _ _ e9, e2, by rw [z9, z2, PySem.sizeLine_eq]; omega, fun M hM => ?_⟩
  have s5 := new_same (o := .lst (xs9 ++ xs2)) hM
  have e5 : upd H4 M (.lst (xs9 ++ xs2)) M = some (.lst (xs9 ++ xs2)) := upd_same
  generalize g5 : upd H4 M (.lst (xs9 ++ xs2)) = H5 at *
  have s25 : Same H2 H5 := (s3.trans s4).trans s5
  have P5 : PurseAt H5 p a2 b c2 d := ⟨s25 _ _ P2.1, P2.2⟩
  have z11 : (xs9 ++ xs2).length = 11 := by rw [List.length_append, z9, z2]
  have kk : ∀ v ∈ xs9 ++ xs2, ∃ d, Kind Hs H5 x v d := fun v hv => by
    rcases List.mem_append.mp hv with h | h
    · obtain ⟨d, q⟩ := k9 v h
      exact ⟨d, q.keep (.same (s4.trans s5))⟩
    · obtain ⟨d, q⟩ := k2 v h
      exact ⟨d, q.keep (.same s5)⟩
  have Mp : M ≠ p := fun z => by
    rw [z, P5.1] at e5
    have q : ([.int a2, .int b, .int c2, .int d] : List V) = xs9 ++ xs2 := by
      injection e5 with q
      injection q
    have : ([.int a2, .int b, .int c2, .int d] : List V).length = 11 := by rw [q]; exact z11
    exact absurd this (by show ¬ (4 = 11); decide)
  refine ⟨p, M, _, a2, b, c2, d, rfl, P5, by omega, SqL.of e5, Mp, by omega, by omega, fun v H6 hv ⟨a6, c6, P6, _, B6⟩ => ?_⟩
  obtain ⟨dd, kd⟩ := kk v hv
  have kd6 := kd.keep (Keep.but B6 P5)
  obtain ⟨hq6, ok6⟩ := Kind.dq (K := K) wd kd6
  have B06 : But p Hs H6 := fun q o e n => B6 q o (s25 q o (B2 q o e n)) n
  have P0' := P0.1
  refine seq_asg ?_
  refine ⟨v, rfl, v, dd, rfl, hq6, ok6.sh, ok6.sz, ok6.dp, ?_⟩
  refine seq_par3 ?_
  refine ⟨v, rfl, v, rfl, fun l6 H7 s7 er6 => ?_⟩
  refine ⟨v, rfl, v, rfl, fun l7 H8 s8 er7 => ?_⟩
  refine ⟨.str x, rfl, sz 2 (by decide), fun t8 ht8 => ?_⟩
  have s9 := new_same (o := .tup [.str "later", .str x]) ht8
  have e8 : upd H8 t8 (.tup [.str "later", .str x]) t8 = some (.tup [.str "later", .str x]) := upd_same
  generalize g9 : upd H8 t8 (.tup [.str "later", .str x]) = H9 at *
  refine ⟨.ref t8, rfl, fun l8 H10 s10 er8 => ?_⟩
  refine ⟨_, _, _, rfl, ?_⟩
  have okp : OkD (dPair x) := (ok_all wd.short).2.2.2.2.2.2.2.2.2
  have dpair : ∀ {H : Hp} {t : Addr}, H t = some (.tup [.str "later", .str x]) → Dq K H (.ref t) (dPair x) := fun e => .tup (SqT.of e) (.cons (.str "later") (.cons (.str x) .nil))
  refine seq_if ?_
  refine none_read (l := l8) (fun Q q => ⟨rfl, q⟩) (fun H Q q => q) fun H12 s12 => ?_
  refine iteF ?_
  have s812 : Same H9 H12 := s10.trans s12
  have e8' : H12 t8 = some (.tup [.str "later", .str x]) := s812 _ _ e8
  refine ⟨.ref l8, rfl, .str x, rfl, sz 2 (by decide), fun t9 ht9 => ?_⟩
  have s13 := new_same (o := .tup [.str "later", .str x]) ht9
  refine ⟨.ref t9, dPair x, rfl, dpair upd_same, okp.sh, okp.sz, okp.dp, ?_⟩
  refine ⟨l8, .ref t8, dPair x, rfl, errs_same (s12.trans s13) er8, dpair (s13 _ _ e8'), okp.sh, okp.sz, okp.dp, fun H14 s14 => ⟨true, rfl, iteF ?_⟩⟩
  have s614 : Same H6 H14 := ((((s7.trans s8).trans s9).trans s812).trans s13).trans s14
  have er6' : ErrsAt C v H14 l6 := errs_same ((((s8.trans s9).trans s812).trans s13).trans s14) er6
  have er7' : ErrsAt C v H14 l7 := errs_same (((s9.trans s812).trans s13).trans s14) er7
  have hq14 := Dq.same s614 dd v hq6
  refine seq_if ?_
  refine right_read (l := l6) (fun Q q => ⟨_, rfl, q⟩) (fun Q q => ⟨_, rfl, q⟩) er6' hq14 ok6 fun H15 s15 => ?_
  refine iteF ?_
  refine right_read (l := l7) (fun Q q => ⟨_, rfl, q⟩) (fun Q q => ⟨_, rfl, q⟩) (errs_same s15 er7') (Dq.same s15 dd v hq14) ok6 fun H16 s16 => ?_
  refine iteF ?_
  have s616 : Same H6 H16 := (s614.trans s15).trans s16
  refine mut_read (Hs := Hs) (v := v) wd (kd6.keep (.same s616)) rfl rfl fun H17 d' hr hk hq17 ok17 => ?_
  refine end_read (l := l6) (m := l7) (v := v) rfl rfl rfl (errs_rest hr (errs_same (s15.trans s16) er6')) (errs_rest hr (errs_same (s15.trans s16) er7')) hq17 ok17 fun H18 s18 => ?_
  refine h _ _ _ _ _ _ _ H18 fun q o e n => ?_
  exact s18 _ _ (hk q o e (s616 _ _ (B06 q o e n)))
end
end EV
namespace EV
open PySem L2 EVX
section
variable {K : PySem.W.Frag} {C : Nat → Addr}
theorem errO_upd {H : Hp} {a c L : Addr} {xs : List V} {o : HO} (hL : H L = some (.lst xs)) (h : H a = some (ExO (.ref c) a)) : upd H L o a = some (ExO (.ref c) a) := by
  rw [upd_ne (fun z => by rw [z, hL] at h; cases h)]
  exact h
theorem codes_dp {H : Hp} {a b d : Addr} (h1 : H a = some (.lst [.int 29])) (h2 : H b = some (.lst [.int 30])) (h3 : H d = some (.lst [.ref a, .ref b])) : Dp K H (.ref d) (.list [.list [.int 29], .list [.int 30]]) :=
  .lst (SqL.of h3) (.cons (.lst (SqL.of h1) (.cons (.int 29) .nil)) (.cons (.lst (SqL.of h2) (.cons (.int 30) .nil)) .nil))
theorem post_read {D : Ends} {w0 w1 w2 w3 w4 w5 w6 w7 w8 w9 w10 : Option V} {H : Hp} (h : ∀ H', D.rt (.bl true) H') : tPost K C D [w0, w1, w2, w3, w4, w5, w6, w7, w8, w9, w10] H := by
  refine seq_asg ?_
  intro a H1 n1 s1 e1
  intro b H2 n2 s2 e2
  refine ⟨sz 2 (by decide), fun L hL => ?_⟩
  have s3 := new_same (o := .lst [.ref a, .ref b]) hL
  have eL : upd H2 L (.lst [.ref a, .ref b]) L = some (.lst [.ref a, .ref b]) := upd_same
  have ea := s3 _ _ (s2 _ _ e1)
  have eb := s3 _ _ e2
  generalize g3 : upd H2 L (.lst [.ref a, .ref b]) = H3 at *
  clear s1 s2 s3 e1 e2 n1 n2 hL g3
  refine seq_if ?_
  refine ⟨_, rfl, L, rfl, ⟨_, SqL.of eL⟩, fun R hR => ?_⟩
  refine lc_list (xs := [.ref a, .ref b]) (fun i H' => Same H3 H' ∧ ((i = 0 ∧ H' R = some (.lst [])) ∨ (i = 1 ∧ ∃ q, q ≠ R ∧ H' q = some (.lst [.int 29]) ∧ H' R = some (.lst [.ref q])) ∨ (i = 2 ∧ ∃ q r, H' q = some (.lst [.int 29]) ∧ H' r = some (.lst [.int 30]) ∧ H' R = some (.lst [.ref q, .ref r]))))
    ⟨new_same hR, .inl ⟨rfl, upd_same⟩⟩ (fun i H' _ ⟨s, _⟩ => SqL.of (s _ _ eL)) ?_ ?_
  · rintro i x H' hi ⟨s, ⟨rfl, hd⟩ | ⟨rfl, q, hqR, hq, hd⟩ | ⟨rfl, _⟩⟩
    · obtain rfl : V.ref a = x := Option.some.inj hi
      refine ⟨rfl, ?_⟩
      refine ⟨_, rfl, a, 29, rfl, by decide, .inr (s _ _ ea), fun l H4 nl s4 el => ?_⟩
      have lR : l ≠ R := fun z => by rw [z, hd] at nl; cases nl
      refine ⟨[], s4 _ _ hd, by show 0 < sizeLine; decide, fun x o e => by rw [upd_ne (ne_of_none e hR)]; exact s4 _ _ (s _ _ e), .inr (.inl ⟨rfl, l, lR, by rw [upd_ne lR]; exact el, upd_same⟩)⟩
    · obtain rfl : V.ref b = x := Option.some.inj hi
      refine ⟨rfl, ?_⟩
      refine ⟨_, rfl, b, 30, rfl, by decide, .inr (s _ _ eb), fun l H4 nl s4 el => ?_⟩
      have lR : l ≠ R := fun z => by rw [z, hd] at nl; cases nl
      refine ⟨[.ref q], s4 _ _ hd, by show 1 < sizeLine; decide, fun x o e => by rw [upd_ne (ne_of_none e hR)]; exact s4 _ _ (s _ _ e), .inr (.inr ⟨rfl, q, l, by rw [upd_ne hqR]; exact s4 _ _ hq, by rw [upd_ne lR]; exact el, upd_same⟩)⟩
    · cases hi
  · rintro H4 ⟨s4, ⟨z, _⟩ | ⟨z, _⟩ | ⟨_, q, r, hq, hr, hd⟩⟩
    · cases z
    · cases z
    refine ⟨sz 1 (by decide), fun p1 hp1 => ?_⟩
    refine ⟨sz 1 (by decide), fun p2 hp2 => ?_⟩
    refine ⟨sz 2 (by decide), fun p3 hp3 => ?_⟩
    have t1 := new_same (o := .lst [.int 29]) hp1
    have f1 : upd H4 p1 (.lst [.int 29]) p1 = some (.lst [.int 29]) := upd_same
    generalize g1 : upd H4 p1 (.lst [.int 29]) = H5 at *
    have t2 := new_same (o := .lst [.int 30]) hp2
    have f2 : upd H5 p2 (.lst [.int 30]) p2 = some (.lst [.int 30]) := upd_same
    generalize g2 : upd H5 p2 (.lst [.int 30]) = H6 at *
    have t3 := new_same (o := .lst [.ref p1, .ref p2]) hp3
    have f3 : upd H6 p3 (.lst [.ref p1, .ref p2]) p3 = some (.lst [.ref p1, .ref p2]) := upd_same
    generalize g3 : upd H6 p3 (.lst [.ref p1, .ref p2]) = H7 at *
    have t47 : Same H4 H7 := (t1.trans t2).trans t3
    refine ⟨_, _, codes_dp (t47 _ _ hq) (t47 _ _ hr) (t47 _ _ hd), codes_dp (t3 _ _ (t2 _ _ f1)) (t3 _ _ f2) f3, by decide +kernel, by decide +kernel, _, rfl, ?_⟩
    rw [show PyData.eqv (.list [.list [.int 29], .list [.int 30]]) (.list [.list [.int 29], .list [.int 30]]) = true from by decide +kernel]
    refine iteF ?_
    have s37 : Same H3 H7 := s4.trans t47
    have eL7 := s37 _ _ eL
    have ea7 := s37 _ _ ea
    have eb7 := s37 _ _ eb
    clear s37 t47 f3 f2 f1 t1 t2 t3 hd hq hr s4
    refine seq_drop ?_
    refine ⟨_, rfl, .inl ⟨rfl, _, SqL.of eL7⟩, ?_⟩
    intro c H8 n8 s8 e8
    refine ⟨L, _, _, rfl, rfl, s8 _ _ eL7, by show 2 < sizeLine; decide, ?_⟩
    have eL8 := s8 _ _ eL7
    have ea9 := errO_upd (o := .lst ([.ref a, .ref b] ++ [.ref c])) eL8 (s8 _ _ ea7)
    have eb9 := errO_upd (o := .lst ([.ref a, .ref b] ++ [.ref c])) eL8 (s8 _ _ eb7)
    have ec9 := errO_upd (o := .lst ([.ref a, .ref b] ++ [.ref c])) eL8 e8
    have eL9 : upd H8 L (.lst ([.ref a, .ref b] ++ [.ref c])) L = some (.lst [.ref a, .ref b, .ref c]) := upd_same
    generalize g9 : upd H8 L (.lst ([.ref a, .ref b] ++ [.ref c])) = H9 at *
    refine ⟨_, rfl, L, rfl, ⟨_, SqL.of eL9⟩, fun R2 hR2 => ?_⟩
    refine lc_list (xs := [.ref a, .ref b, .ref c]) (fun i H' => Same H9 H' ∧ H' R2 = some (.lst ((List.replicate i true).map V.bl))) ⟨new_same hR2, upd_same⟩ (fun i H' _ ⟨s, _⟩ => SqL.of (s _ _ eL9)) ?_ ?_
    · rintro i x H' hi ⟨s, hd⟩
      obtain ⟨y, j, rfl, hj, ey⟩ : ∃ y j, x = .ref y ∧ j < 32 ∧ H9 y = some (ExO (.ref (C j)) y) := by
        match i, hi with
        | 0, hi => exact ⟨a, 29, (Option.some.inj hi).symm, by decide, ea9⟩
        | 1, hi => exact ⟨b, 30, (Option.some.inj hi).symm, by decide, eb9⟩
        | 2, hi => exact ⟨c, 31, (Option.some.inj hi).symm, by decide, ec9⟩
        | i + 3, hi => exact absurd hi (by simp)
      have hi3 : i < 3 := by
        have := (List.getElem?_eq_some_iff.mp hi).1
        simpa using this
      refine ⟨rfl, ?_⟩
      refine ⟨_, rfl, y, j, rfl, hj, .inr (s _ _ ey), ?_⟩
      refine ⟨_, hd, by rw [List.length_map, List.length_replicate, PySem.sizeLine_eq]; omega, fun x o e => by rw [upd_ne (ne_of_none e hR2)]; exact s _ _ e, ?_⟩
      rw [upd_same, List.replicate_succ', List.map_append]
      rfl
    · rintro H10 ⟨s10, hd⟩
      refine ⟨R2, [true, true, true], rfl, SqL.of hd, true, rfl, iteT ?_⟩
      refine ⟨_, rfl, L, _, 2, .ref c, rfl, rfl, SqL.of (s10 _ _ eL9), rfl, ?_⟩
      refine ⟨c, 31, rfl, by decide, .inr (s10 _ _ ec9), fun l H11 nl s11 el => ?_⟩
      refine ⟨sz 0 (by decide), fun m hm => ?_⟩
      refine ⟨.list [], .list [], .lst (SqL.of (new_same hm _ _ el)) .nil, .lst (SqL.of upd_same) .nil, by decide, by decide, ?_⟩
      exact h _
end
end EV
namespace EV
open PySem L2 EVX
section
variable {P : Program} {w : World} {K : PySem.W.Frag} {mg : Str → Option Value} {base : Heap} {f : Addr} {fd0 : FuncData} {C fI : Nat → Addr} {fd : Nat → FuncData}
theorem sc_law : FnScope ["script", "purse", "word", "plain", "thing", "noted", "some", "called", "later", "rest", "error"] ["script"] (defScope s_law) := ⟨rfl, rfl, rfl, by decide +kernel, rfl, by decide +kernel, by decide +kernel⟩
def sp_law (K : PySem.W.Frag) : Sp := fun vs H Q _ => ∃ (s : Addr) (ns : List Int), vs = [.ref s] ∧ SqL K H s (ns.map V.int) ∧ ns.length ≤ 63 ∧ ∀ H', Q (.bl true) H'
theorem ok_law (F : FnP K "law" s_law f fd0) (T : Tx K P mg C fI fd) (S : SysIn K) (gP : mg "repr" = none) (gI : mg "isinstance" = none) (gL : mg "len" = none) (gA : mg "all" = none) (gl : mg "list" = none) (gd : mg "dict" = none) (gt : mg "tuple" = none)
    {fP fW fO f1 f2 f0 fC fE fR : Addr} {dP dW dO d1 d2 d0 dC dE dR : FuncData}
    (GP : FnOk P w K mg base CX0 3 fP dP ["script", "few"] (sp_purses K)) (kP : PySem.W.keepIn K (.ref fP) = true) (bP : Binds K dP ["script", "few"] []) (gPs : mg "_law_purses" = some (.ref fP))
    (GW : FnOk P w K mg base CX0 3 fW dW ["purse"] sp_word) (kW : PySem.W.keepIn K (.ref fW) = true) (bW : Binds K dW ["purse"] []) (gW : mg "_law_word" = some (.ref fW))
    (GO : FnOk P w K mg base CX0 3 fO dO ["purse", "some"] (sp_one_of K)) (kO : PySem.W.keepIn K (.ref fO) = true) (bO : Binds K dO ["purse", "some"] []) (gO : mg "_law_one_of" = some (.ref fO))
    (G1 : FnOk P w K mg base CX0 3 f1 d1 ["thing"] (sp_errs C)) (k1 : PySem.W.keepIn K (.ref f1) = true) (b1 : Binds K d1 ["thing"] []) (g1 : mg "_law_first" = some (.ref f1))
    (G2 : FnOk P w K mg base CX0 3 f2 d2 ["thing"] (sp_errs C)) (k2 : PySem.W.keepIn K (.ref f2) = true) (b2 : Binds K d2 ["thing"] []) (g2 : mg "_law_called" = some (.ref f2))
    (G0 : FnOk P w K mg base CX0 3 f0 d0 [] (sp_bare C)) (k0 : PySem.W.keepIn K (.ref f0) = true) (b0 : Binds K d0 [] []) (g0 : mg "_law_bare" = some (.ref f0))
    (GC : FnOk P w K mg base CX0 3 fC dC ["error"] (sp_code C)) (kC : PySem.W.keepIn K (.ref fC) = true) (bC : Binds K dC ["error"] []) (gC : mg "_law_code" = some (.ref fC))
    (GE : FnOk P w K mg base CX0 3 fE dE ["error"] (sp_is_error C)) (kE : PySem.W.keepIn K (.ref fE) = true) (bE : Binds K dE ["error"] []) (gE : mg "_law_is_error" = some (.ref fE))
    (GR : FnG P w K mg base 3 fR dR ["some", "noted"] (sp_right K C)) (kR : PySem.W.keepIn K (.ref fR) = true) (bR : Binds K dR ["some", "noted"] []) (gR : mg "_law_right" = some (.ref fR)) :
    FnG P w K mg base 4 f fd0 ["script"] (sp_law K) := by
  refine okG F sc_law (fun vs H Q E h => ?_) (fun cdv A outer s H0 vs Q E hr hG h => ?_)
  · obtain ⟨l, ns, rfl, _⟩ := h
    rfl
  · obtain ⟨sa, ns, rfl, hs, hlen, k⟩ := h
    have hu : (A.deeper (PyProof.Rows.envOfC "law" (defScope s_law) s.heap.objs.size f cdv)).units + 1 < cLine := by have := hr.units; omega
    refine ⟨tLaw K C, pss_cons (ps_for PassesOwn.never rfl (pi_list (pe_call GP hr rfl gPs kP bP .nil pass0 (pa_cons (pv 0) (pa_cons pe_int pa_nil)))) (pg_name (i := 1) sc_law.nd rfl (Or.inl rfl))
        (pss_cons (ps_set (i := 2) sc_law.nd rfl (Or.inl rfl) (pe_call GW hr rfl gW kW bW .nil pass0 (pa_cons (pv 1) pa_nil)))
        (pss_cons (ps_set (i := 3) sc_law.nd rfl (Or.inl rfl) (pe_lst (pa_cons pe_non (pa_cons pe_bl (pa_cons pe_bl (pa_cons pe_int (pa_cons (pv 2) (pa_cons (pe_un un_neg (pe_ix ix_list (pv 1) pe_int (fun _ _ => rfl)))
          (pa_cons (pe_tup (pa_cons pe_str (pa_cons pe_int (pa_cons pe_int pa_nil)))) (pa_cons (pe_tup (pa_cons (pv 2) (pa_cons (pe_lst (pa_cons (pv 2) pa_nil)) pa_nil)))
          (pa_cons (pe_disp (pps_cons (pv 2) (pe_lst (pa_cons (pv 2) pa_nil)) pps_nil) rfl rfl (by simp) (by decide)) pa_nil)))))))))))
        (pss_cons (ps_set (i := 4) sc_law.nd rfl (Or.inl rfl) (pe_call GO hr rfl gO kO bO .nil pass0 (pa_cons (pv 1) (pa_cons (pe_op op_cat (pv 3) (pe_lst (pa_cons (pe_lst (pa_cons (pv 2) pa_nil)) (pa_cons (pe_lst (pa_cons (pe_lst (pa_cons (pv 2) pa_nil)) (pa_cons (pe_disp (pps_cons pe_str (pv 2) pps_nil) rfl rfl (by simp) (by decide)) pa_nil))) pa_nil)))) pa_nil))))
        (pss_cons (ps_set (i := 5) sc_law.nd rfl (Or.inl rfl) (pe_callB (call_repr hr.units hG S) (by rfl) gP (by decide +kernel) (pa_cons (pv 4) pa_nil)))
        (pss_cons (ps_par3 (i := 6) (j := 7) (l := 8) rfl sc_law.nd rfl rfl rfl (by decide) (by decide) (by decide) rfl rfl rfl
          (pa_cons (pe_call G1 hr rfl g1 k1 b1 .nil pass0 (pa_cons (pv 4) pa_nil)) (pa_cons (pe_call G2 hr rfl g2 k2 b2 .nil pass0 (pa_cons (pv 4) pa_nil)) (pa_cons (pe_call G1 hr rfl g1 k1 b1 .nil pass0 (pa_cons (pe_tup (pa_cons pe_str (pa_cons (pv 2) pa_nil))) pa_nil)) pa_nil))) rfl)
        (pss_cons (ps_if (PW.pt (pw_or (pt_not (pt_val (pe_callG GR hr hG rfl gR kR bR (pa_cons (pe_call0 G0 hr rfl g0 k0 b0 .nil pass0) (pa_cons pe_str pa_nil)))))
            (pw_or1 (pt_not (pt_val (pe_callG GR hr hG rfl gR kR bR (pa_cons (pv 8) (pa_cons (pe_callB (call_repr hr.units hG S) (by rfl) gP (by decide +kernel) (pa_cons (pe_tup (pa_cons pe_str (pa_cons (pv 2) pa_nil))) pa_nil)) pa_nil)))))))) (pss_one (ps_ret pe_bl)) pss_nil)
        (pss_cons (ps_if (PW.pt (pw_or (pt_not (pt_val (pe_callG GR hr hG rfl gR kR bR (pa_cons (pv 6) (pa_cons (pv 5) pa_nil)))))
            (pw_or1 (pt_not (pt_val (pe_callG GR hr hG rfl gR kR bR (pa_cons (pv 7) (pa_cons (pv 5) pa_nil)))))))) (pss_one (ps_ret pe_bl)) pss_nil)
        (pss_cons (ps_if (pt_val (pe_callB call_isi (by rfl) gI (by decide +kernel) (pa_cons (pv 4) (pa_cons (pe_bltn (v := .ty "list") (by rfl) gl (by decide +kernel) rfl) pa_nil))))
            (pss_one (ps_expr (pe_bm PySem.F.plainAttrs_list PySem.F.slot_list_append PySem.F.type_list_append mt_append (pv 4) (pa_cons pe_str pa_nil)))) pss_nil)
        (pss_cons (ps_if (pt_val (pe_callB call_isi (by rfl) gI (by decide +kernel) (pa_cons (pv 4) (pa_cons (pe_bltn (v := .ty "dict") (by rfl) gd (by decide +kernel) rfl) pa_nil))))
            (pss_cons (ps_expr (pe_bm PySem.F.plainAttrs_list PySem.F.slot_list_append PySem.F.type_list_append mt_append (pe_dget hu (pv 4) (pv 2) (fun _ _ => rfl)) (pa_cons pe_str pa_nil)))
            (pss_one (ps_dput hu (pv 4) pe_str pe_int rfl))) pss_nil)
        (pss_cons (ps_if (PW.pt (pw_and (pt_val (pe_callB call_isi (by rfl) gI (by decide +kernel) (pa_cons (pv 4) (pa_cons (pe_bltn (v := .ty "tuple") (by rfl) gt (by decide +kernel) rfl) pa_nil))))
            (pw_and1 (pt_cmpR op_eq (pe_callB call_len_seq (by rfl) gL (by decide +kernel) (pa_cons (pv 4) pa_nil)) pe_int (nomark _)))))
            (pss_one (ps_expr (pe_bm PySem.F.plainAttrs_list PySem.F.slot_list_append PySem.F.type_list_append mt_append (pe_ix ix_tup (pv 4) pe_int (fun _ _ => rfl)) (pa_cons pe_str pa_nil)))) pss_nil)
        (pss_one (ps_if (PW.pt (pw_or (pt_not (pt_val (pe_callG GR hr hG rfl gR kR bR (pa_cons (pv 6) (pa_cons (pe_callB (call_repr hr.units hG S) (by rfl) gP (by decide +kernel) (pa_cons (pv 4) pa_nil)) pa_nil)))))
            (pw_or1 (pt_not (pt_val (pe_callG GR hr hG rfl gR kR bR (pa_cons (pv 7) (pa_cons (pe_callB (call_repr hr.units hG S) (by rfl) gP (by decide +kernel) (pa_cons (pv 4) pa_nil)) pa_nil)))))))) (pss_one (ps_ret pe_bl)) pss_nil)))))))))))))
      (pss_cons (ps_set (i := 9) sc_law.nd rfl (Or.inl rfl) (pe_lst (pa_cons (pe_exp0 PySem.F.excBase_ValueError (T.ei 29 (by decide) (by decide)).1 (T.g 29 (by decide)) (T.ei 29 (by decide) (by decide)).2 rfl) (pa_cons (pe_exp0 PySem.F.excBase_ValueError (T.ei 30 (by decide) (by decide)).1 (T.g 30 (by decide)) (T.ei 30 (by decide) (by decide)).2 rfl) pa_nil))))
      (pss_cons (ps_if (pt_cmpR (op_neD hr.units)
          (pe_lc (own := [("error", 10)]) (g := gName 10) (tt := tYes) (te := tCall (sp_code C) [] E0 (tCons (tVar 10) tNil)) rfl sc_law.nd (pi_list (pv 9)) (blkOk_by (N := ["script", "purse", "word", "plain", "thing", "noted", "some", "called", "later", "rest", "error"]) (sc := defScope s_law) (by decide +kernel)) (fun _ _ _ _ _ => pg_name (i := 10) sc_law.nd rfl (Or.inl rfl)) (fun _ _ _ _ _ => pts_nil)
            (fun _ _ _ _ _ => pe_call GC hr rfl gC kC bC .nil pass0 (pa_cons (pv 10) pa_nil)))
          (pe_lst (pa_cons (pe_lst (pa_cons pe_int pa_nil)) (pa_cons (pe_lst (pa_cons pe_int pa_nil)) pa_nil))) (nomark _)) (pss_one (ps_ret pe_bl)) pss_nil)
      (pss_cons (ps_expr (pe_bm PySem.F.plainAttrs_list PySem.F.slot_list_append PySem.F.type_list_append mt_append (pv 9) (pa_cons (pe_exp0 PySem.F.excBase_ValueError (T.ei 31 (by decide) (by decide)).1 (T.g 31 (by decide)) (T.ei 31 (by decide) (by decide)).2 rfl) pa_nil)))
      (pss_one (ps_ret (pe_and (pe_callB (cr_all rfl) (by rfl) gA (by decide +kernel) (pa_cons
          (pe_lc (own := [("error", 10)]) (g := gName 10) (tt := tYes) (te := tCall (sp_is_error C) [] E0 (tCons (tVar 10) tNil)) rfl sc_law.nd (pi_list (pv 9)) (blkOk_by (N := ["script", "purse", "word", "plain", "thing", "noted", "some", "called", "later", "rest", "error"]) (sc := defScope s_law) (by decide +kernel)) (fun _ _ _ _ _ => pg_name (i := 10) sc_law.nd rfl (Or.inl rfl)) (fun _ _ _ _ _ => pts_nil)
            (fun _ _ _ _ _ => pe_call GE hr rfl gE kE bE .nil pass0 (pa_cons (pv 10) pa_nil))) pa_nil))
        (pe_one (pe_cmpR (op_eqD hr.units) (pe_call GC hr rfl gC kC bC .nil pass0 (pa_cons (pe_ix ix_list (pv 9) pe_int (fun _ _ => rfl)) pa_nil)) (pe_lst pa_nil) (nomark _))))))))), ?_⟩
    refine ⟨_, rfl, sa, ns, 3, rfl, hs, hlen, by decide, fun ps L H1 hpl hPs hf hLp hLn sL hL => ?_⟩
    refine ⟨L, rfl, ⟨_, SqL.of hL⟩, ?_⟩
    refine for_list (xs := ps.map V.ref) (fun i σ H' => ∃ v1 v2 v3 v4 v5 v6 v7 v8, σ = [some (.ref sa), v1, v2, v3, v4, v5, v6, v7, v8, none, none] ∧ H' L = some (.lst (ps.map V.ref)) ∧ ∀ j p, i ≤ j → ps[j]? = some p → ∃ a b d, PurseAt H' p a b 0 d)
      ⟨_, _, _, _, _, _, _, _, rfl, hL, fun j p _ e => ?_⟩ (fun i σ H' _ ⟨_, _, _, _, _, _, _, _, _, e, _⟩ => SqL.of e) ?_ ?_
    · obtain ⟨a, b, c, d, z1, rfl⟩ := hPs.2 p (List.mem_of_getElem? e)
      exact ⟨a, b, d, z1⟩
    · rintro i x σ Hs hx ⟨v1, v2, v3, v4, v5, v6, v7, v8, rfl, eL, eP⟩
      obtain ⟨p, hp, rfl⟩ : ∃ p, ps[i]? = some p ∧ V.ref p = x := by
        rw [List.getElem?_map] at hx
        cases q : ps[i]? with
        | none => rw [q] at hx; cases hx
        | some p => rw [q] at hx; exact ⟨p, rfl, Option.some.inj hx⟩
      obtain ⟨a, b, d, P0⟩ := eP i p (Nat.le_refl _) hp
      have Lp : L ≠ p := fun z => hLp (z ▸ List.mem_of_getElem? hp)
      refine turn_read P0 fun u2 u3 u4 u5 u6 u7 u8 H' B => ?_
      refine ⟨_, _, _, _, _, _, _, _, rfl, B _ _ eL Lp, fun j q hj e => ?_⟩
      obtain ⟨a2, b2, d2, P2⟩ := eP j q (by omega) e
      have qp : q ≠ p := fun z => by
        have hi : i < ps.length := (List.getElem?_eq_some_iff.mp hp).1
        have hij := (List.getElem?_inj (i := i) (j := j) hi hPs.1).mp (by rw [hp, e, z])
        omega
      exact ⟨a2, b2, d2, B _ _ P2.1 qp, P2.2⟩
    · rintro σ H' ⟨v1, v2, v3, v4, v5, v6, v7, v8, rfl, _⟩
      exact post_read fun H' => k H'
end
end EV
namespace EV
open PySem L2 EVX
/-! ### the classes' __init__ as the text has it -/
def topIx : List Nat := [2, 3, 4, 5, 6, 7, 8, 9, 10, 11, 12, 13, 14, 15, 16, 17, 18, 19, 20, 21, 22, 23, 24, 25, 26, 27, 29, 30, 28]
abbrev ini (i : Nat) : Stmt := inClass (top (topIx.getD i 0)) 0
def IniOk (i : Nat) : Prop := ∃ q1 q2 q3 p0 p1 p2 p3 p4 p5 p6 p7 p8, defArgs (ini i) = iniArgs q1 q2 q3 ∧ defBody (ini i) = iniBody p0 p1 p2 p3 p4 p5 p6 p7 p8 ∧ defScope (ini i) = iniScope ∧ (p2.endLine == p3.line) = true
theorem ini_ok : ∀ i, i < 29 → IniOk i
  | 0, _ => ⟨_, _, _, _, _, _, _, _, _, _, _, _, rfl, rfl, rfl, rfl⟩
  | 1, _ => ⟨_, _, _, _, _, _, _, _, _, _, _, _, rfl, rfl, rfl, rfl⟩
  | 2, _ => ⟨_, _, _, _, _, _, _, _, _, _, _, _, rfl, rfl, rfl, rfl⟩
  | 3, _ => ⟨_, _, _, _, _, _, _, _, _, _, _, _, rfl, rfl, rfl, rfl⟩
  | 4, _ => ⟨_, _, _, _, _, _, _, _, _, _, _, _, rfl, rfl, rfl, rfl⟩
  | 5, _ => ⟨_, _, _, _, _, _, _, _, _, _, _, _, rfl, rfl, rfl, rfl⟩
  | 6, _ => ⟨_, _, _, _, _, _, _, _, _, _, _, _, rfl, rfl, rfl, rfl⟩
  | 7, _ => ⟨_, _, _, _, _, _, _, _, _, _, _, _, rfl, rfl, rfl, rfl⟩
  | 8, _ => ⟨_, _, _, _, _, _, _, _, _, _, _, _, rfl, rfl, rfl, rfl⟩
  | 9, _ => ⟨_, _, _, _, _, _, _, _, _, _, _, _, rfl, rfl, rfl, rfl⟩
  | 10, _ => ⟨_, _, _, _, _, _, _, _, _, _, _, _, rfl, rfl, rfl, rfl⟩
  | 11, _ => ⟨_, _, _, _, _, _, _, _, _, _, _, _, rfl, rfl, rfl, rfl⟩
  | 12, _ => ⟨_, _, _, _, _, _, _, _, _, _, _, _, rfl, rfl, rfl, rfl⟩
  | 13, _ => ⟨_, _, _, _, _, _, _, _, _, _, _, _, rfl, rfl, rfl, rfl⟩
  | 14, _ => ⟨_, _, _, _, _, _, _, _, _, _, _, _, rfl, rfl, rfl, rfl⟩
  | 15, _ => ⟨_, _, _, _, _, _, _, _, _, _, _, _, rfl, rfl, rfl, rfl⟩
  | 16, _ => ⟨_, _, _, _, _, _, _, _, _, _, _, _, rfl, rfl, rfl, rfl⟩
  | 17, _ => ⟨_, _, _, _, _, _, _, _, _, _, _, _, rfl, rfl, rfl, rfl⟩
  | 18, _ => ⟨_, _, _, _, _, _, _, _, _, _, _, _, rfl, rfl, rfl, rfl⟩
  | 19, _ => ⟨_, _, _, _, _, _, _, _, _, _, _, _, rfl, rfl, rfl, rfl⟩
  | 20, _ => ⟨_, _, _, _, _, _, _, _, _, _, _, _, rfl, rfl, rfl, rfl⟩
  | 21, _ => ⟨_, _, _, _, _, _, _, _, _, _, _, _, rfl, rfl, rfl, rfl⟩
  | 22, _ => ⟨_, _, _, _, _, _, _, _, _, _, _, _, rfl, rfl, rfl, rfl⟩
  | 23, _ => ⟨_, _, _, _, _, _, _, _, _, _, _, _, rfl, rfl, rfl, rfl⟩
  | 24, _ => ⟨_, _, _, _, _, _, _, _, _, _, _, _, rfl, rfl, rfl, rfl⟩
  | 25, _ => ⟨_, _, _, _, _, _, _, _, _, _, _, _, rfl, rfl, rfl, rfl⟩
  | 26, _ => ⟨_, _, _, _, _, _, _, _, _, _, _, _, rfl, rfl, rfl, rfl⟩
  | 27, _ => ⟨_, _, _, _, _, _, _, _, _, _, _, _, rfl, rfl, rfl, rfl⟩
  | 28, _ => ⟨_, _, _, _, _, _, _, _, _, _, _, _, rfl, rfl, rfl, rfl⟩
  | _ + 29, h => absurd h (by omega)
/-! ### what is looked at -/
abbrev FnZ : Type := Option (Str × Arguments × FuncBody × Scope × Addr × List Str × Addr)
def fnZ (K : PySem.W.Frag) (f : Addr) : FnZ := match K.lookup f with
  | some ⟨_, _, .func fd, _⟩ => some (fd.name, fd.params, fd.body, fd.scope, fd.globals, fd.closure.map (·.1), fd.builtins)
  | _ => none
def valZ (i : Nat) : FnZ := some ("__init__", defArgs (ini i), .stmts (defBody (ini i)), defScope (ini i), mainGlobals, ["__class__"], builtinsNs)
def codeB (K : PySem.W.Frag) (file : Str) : Value → Bool
  | .ref a => (match K.lookup a with
    | some ⟨_, _, .fields vs, _⟩ => (match (vs[2]? : Option Value) with
      | some (.str y _) => file == y
      | _ => false)
    | _ => false)
  | _ => false
def cellB (K : PySem.W.Frag) (C : Addr) : List (Str × Addr) → Bool
  | [(_, c)] => (match K.lookup c with
    | some ⟨_, _, .cell (some v), _⟩ => decide (v = .ref C)
    | _ => false)
  | _ => false
def nonB (K : PySem.W.Frag) : Value → Bool
  | .ref a => (match K.lookup a with
    | some ⟨_, _, .seq its _, _⟩ => decide (its.toList = [Value.none])
    | _ => false)
  | _ => false
def partB (K : PySem.W.Frag) (file : Str) (C f : Addr) : Bool := match K.lookup f with
  | some ⟨_, _, .func fd, _⟩ => PySem.W.codeIn K fd.code fd.qualname && (codeB K file fd.code && (cellB K C fd.closure && nonB K fd.defaults))
  | _ => false
def oexO (K : PySem.W.Frag) (C : Addr) : Bool := match K.lookup C with
  | some ⟨.type t, _, .cls cd, sl⟩ => (match cd.mro, sl.toList with
    | .ref C' :: bm, [_, _, _, _, some (.builtin n), _] => decide (t = "type") && (decide (C' = C) && (decide (n = "ValueError.__new__") && (!cd.hasDel && (cd.hasDict && PySem.HandSPX.refsVE bm))))
    | _, _ => false)
  | _ => false
def eqV (a b : Option Value) : Bool := decide (a = b)
def eqB (a b : Option Bool) : Bool := decide (a = b)
/-- of the 29 classes with a field -/
def fldB (K : PySem.W.Frag) (file : Str) (C f : Addr) : Bool :=
  oexO K C && (He.eqO (PySem.W.findIn K (.ref C) "__setattr__") (some (some (.builtin "object.__setattr__"))) && (eqV (PySem.W.typeIn K (.ref C)) (some (.type "type")) && (PySem.W.keepIn K (.ref C) &&
  (He.eqO (PySem.W.findIn K (.ref C) "value") (some none) && (He.eqO (PySem.W.findIn K (.ref C) "__init__") (some (some (.ref f))) && (eqV (PySem.W.typeIn K (.ref f)) (some (.type "function")) &&
  (He.eqO (PySem.W.ks_superIn K C C "__init__") (some (some (.builtin "ValueError.__init__"))) && (eqB (PySem.W.subIn K (.ref C) (.type "ValueError")) (some true) && (eqB (PySem.W.mroIn K C (.ref C)) (some true) && partB K file C f)))))))))
/-- of all -/
def anyB (K : PySem.W.Frag) (C : Addr) : Bool :=
  He.eqO (PySem.W.findIn K (.ref C) "__getattribute__") (some (some (.builtin "BaseException.__getattribute__"))) && (He.eqO (PySem.W.findIn K (.ref C) "__getattr__") (some none) && (eqB (PySem.W.subIn K (.ref C) (.type "BaseException")) (some true) && (PySem.W.hasDictIn K C &&
  (He.eqO (PySem.W.findIn K (.ref C) "__class__") (some (some (.builtin "object.__class__"))) && (He.eqO (PySem.W.specialIn K (.builtin "object.__class__") "__get__") (some (some (.builtin "getset_descriptor.__get__"))) && (eqB (PySem.W.takesIn K (.builtin "object.__class__")) (some true) &&
  (eqB (PySem.W.mroIn K C (.type "object")) (some true) && eqB (PySem.W.kitOne K (.ref C) (.type "ValueError")) (some true))))))))
def ownB (K : PySem.W.Frag) (C : Addr) : Bool := PySem.W.excIn K C He.veBase "ValueError.__new__" && PySem.W.keepIn K (.ref C)
def upTo (n : Nat) (p : Nat → Bool) : Bool := match n with
  | 0 => true
  | m + 1 => p m && upTo m p
theorem upTo_ok {p : Nat → Bool} : ∀ {n : Nat}, upTo n p = true → ∀ i, i < n → p i = true
  | 0, _, i, h => absurd h (by omega)
  | n + 1, e, i, h => by
    obtain ⟨e1, e2⟩ := Bool.and_eq_true_iff.mp (show (p n && upTo n p) = true from e)
    by_cases c : i = n
    · rw [c]
      exact e1
    · exact upTo_ok e2 i (by omega)
def CA (K : PySem.W.Frag) (i : Nat) : Addr := He.ga K (cls.getD i "")
def FI (K : PySem.W.Frag) (i : Nat) : Addr := He.ma K (CA K i) "__init__"
def noList (K : PySem.W.Frag) : Bool := K.all fun p => decide (p.2.cls ≠ .type "list")
def sysB (K : PySem.W.Frag) : Bool := match K.lookup sysModules with
  | some o => decide (o.cls = .type "dict")
  | none => false
def allB (K : PySem.W.Frag) (file : Str) : Bool :=
  noList K && (sysB K && (He.eqO (PySem.W.nsIn K cStatics "thirdparty.any") (some none) && (upTo 29 (fun i => fldB K file (CA K i) (FI K i)) && (upTo 32 (fun i => anyB K (CA K i)) && (upTo 32 (fun i => ownB K (CA K i) || decide (i < 29)) &&
  (upTo 32 (fun i => He.eqO (PySem.W.nsIn K mainGlobals (cls.getD i "")) (some (some (.ref (CA K i))))) && upTo 32 (fun i => upTo 32 fun j => eqB (PySem.W.kitOne K (.ref (CA K i)) (.ref (CA K j))) (some (decide (i = j ∨ j = 31))))))))))
/-! ### the Hook -/
def file0 : Str := PySem.Challenge.rw_everpurse_k01_errors_made.prog.main.file
abbrev AlZ : Type := Bool × He.AlD × List FnZ
def idx29 : List Nat := List.range 29
def obsZ (fa : List He.Fa) (fn : List He.DefD) (K : PySem.W.Frag) : AlZ := (allB K file0, He.obsD fa fn K, idx29.map fun i => fnZ K (FI K i))
def valAll (fn : List He.DefD) : AlZ := (true, He.valD fn, idx29.map valZ)
def fragZ (g : Addr → Option Obj) : PySem.W.Frag := He.frG g (He.asD g 4 ++ [sysModules, cStatics])
def hookZ (fa : List He.Fa) (fn : List He.DefD) : PySem.W.Hook where
  α := AlZ
  obs := fun s => obsZ fa fn (fragZ s.heap.get?)
  val := fun _ => valAll fn
  says := fun _ h => ∃ K : PySem.W.Frag, K.In h ∧ obsZ fa fn K = valAll fn
  of := fun _ _ e => ⟨_, He.frG_in, e⟩
  keeps := fun _ _ _ ⟨K, hK, c⟩ k => ⟨K, PySem.W.Frag.In.keeps hK k, c⟩
/-! ### the defs -/
def d0 : He.DefD := ⟨("_law_purse", none), "_law_purse", "_law_purse", defArgs s_purse, defBody s_purse, defScope s_purse, [], []⟩
def d1 : He.DefD := ⟨("_law_mixed", none), "_law_mixed", "_law_mixed", defArgs s_mixed, defBody s_mixed, defScope s_mixed, [], []⟩
def d2 : He.DefD := ⟨("_law_draw", none), "_law_draw", "_law_draw", defArgs s_draw, defBody s_draw, defScope s_draw, [], []⟩
def d3 : He.DefD := ⟨("_law_purses", none), "_law_purses", "_law_purses", defArgs s_purses, defBody s_purses, defScope s_purses, [], []⟩
def d4 : He.DefD := ⟨("_law_one_of", none), "_law_one_of", "_law_one_of", defArgs s_one_of, defBody s_one_of, defScope s_one_of, [], []⟩
def d5 : He.DefD := ⟨("_law_word", none), "_law_word", "_law_word", defArgs s_word, defBody s_word, defScope s_word, [], []⟩
def d6 : He.DefD := ⟨("_law_first", none), "_law_first", "_law_first", defArgs s_first, defBody s_first, defScope s_first, [], []⟩
def d7 : He.DefD := ⟨("_law_called", none), "_law_called", "_law_called", defArgs s_called, defBody s_called, defScope s_called, [], []⟩
def d8 : He.DefD := ⟨("_law_bare", none), "_law_bare", "_law_bare", defArgs s_bare, defBody s_bare, defScope s_bare, [], []⟩
def d9 : He.DefD := ⟨("_law_code", none), "_law_code", "_law_code", defArgs s_code, defBody s_code, defScope s_code, [], []⟩
def d10 : He.DefD := ⟨("_law_is_error", none), "_law_is_error", "_law_is_error", defArgs s_is_error, defBody s_is_error, defScope s_is_error, [], []⟩
def d11 : He.DefD := ⟨("_law_right", none), "_law_right", "_law_right", defArgs s_right, defBody s_right, defScope s_right, [], []⟩
def d12 : He.DefD := ⟨("law", none), "law", "law", defArgs s_law, defBody s_law, defScope s_law, [], []⟩
def fn : List He.DefD := [d0, d1, d2, d3, d4, d5, d6, d7, d8, d9, d10, d11, d12]
def fa : List He.Fa := [.glo "_law_purse", .glo "_law_mixed", .glo "_law_draw", .glo "_law_purses", .glo "_law_one_of", .glo "_law_word", .glo "_law_first", .glo "_law_called", .glo "_law_bare", .glo "_law_code", .glo "_law_is_error", .glo "_law_right", .glo "law", .free "len", .free "repr", .free "isinstance", .free "all", .free "list", .free "dict", .free "tuple", .free "range", .free "int", .free "sum", .free "max", .free "min", .free "ValueError", .free "super"]
abbrev hk : PySem.W.Hook := hookZ fa fn
def ob (s : PySem.W.SharedT) : AlZ := obsZ fa fn (fragZ (HandSHeadRun.getT s))
theorem ob_eq (s : PySem.W.SharedT) : ob s = hk.obs s.abs := by
  have e : HandSHeadRun.getT s = s.abs.heap.get? := funext (HandSHeadRun.getT_eq s)
  unfold ob
  rw [e] <;> rfl
abbrev RowZ : PySem.W.OpenRow := PySem.W.OpenLaw.row PySem.Challenge.rw_everpurse_k01_errors_made
def loose : List Str := (["PurseError", "InvalidWord", "InvalidBook", "InvalidEffect", "InvalidManner", "InvalidManners", "InvalidRooms", "InvalidManual", "InvalidManuals", "InvalidChange", "InvalidChanges", "InvalidRoom", "InvalidWay", "InvalidCount", "InvalidCard", "InvalidMark", "InvalidExpression", "InvalidTable", "InvalidRests", "InvalidRule", "InvalidLot", "InvalidMending", "InvalidHouse", "InvalidSpot", "InvalidScript", "InvalidText", "InvalidLog", "InvalidEndless", "Refused", "TooMany"] : List Str) ++ (["NothingToUndo", "NothingToRedo", "_law_purse", "_law_mixed", "_law_draw", "_law_purses", "_law_one_of", "_law_word", "_law_first", "_law_called", "_law_bare", "_law_code", "_law_is_error", "_law_right"] : List Str)
end EV
namespace EV
theorem run (w : PySem.World) : HandSHeadRun.RunEq RowZ (PySem.W.view RowZ.prog [46]) hk ob 60000 loose w := by
  intro os
  kernel_rfl
end EV
namespace EV
open PySem L2 EVX
/-! ### the facts, read off -/
theorem _root_.EVX.FnG.mono {P : Program} {w : World} {K : PySem.W.Frag} {mg : Str → Option Value} {base : Heap} {j k : Nat} {f : Addr} {fd : FuncData} {ps : List Str} {sp : Sp} (F : FnG P w K mg base j f fd ps sp) (h : j ≤ k) : FnG P w K mg base k f fd ps sp :=
  ⟨F.len, fun A outer s H args us vs Q E hr => F.run A outer s H args us vs Q E (hr.mono h)⟩
section
variable {K : PySem.W.Frag}
theorem band {a b : Bool} (h : (a && b) = true) : a = true ∧ b = true := Bool.and_eq_true_iff.mp h
theorem oex_cls {C : Addr} (h : oexO K C = true) : ∃ nm q N bs bm sn sub ab col dd k0 k1 k2 k3 k5, K.lookup C = some (PySem.excClassObj nm q C N bs bm true sn sub ab col dd k0 k1 k2 k3 k5 "ValueError.__new__") ∧ PySem.HandSPX.refsVE bm = true := by
  unfold oexO at h
  split at h
  · rename_i t dd cd sl ho
    split at h
    · rename_i C' bm k0 k1 k2 k3 n k5 hm hs
      obtain ⟨h1, h⟩ := band h
      obtain ⟨h2, h⟩ := band h
      obtain ⟨h3, h⟩ := band h
      obtain ⟨h4, h⟩ := band h
      obtain ⟨h5, h6⟩ := band h
      have e1 := of_decide_eq_true h1
      have e2 := of_decide_eq_true h2
      have e3 := of_decide_eq_true h3
      subst e1 e2 e3
      obtain ⟨nm, bs, mro, ns, qn, hd, sn, sub, ab, col, del⟩ := cd
      dsimp only at hm h4 h5
      have e4 : del = false := by
        cases del
        · rfl
        · cases h4
      subst hm e4 h5
      have hsl : sl = #[k0, k1, k2, k3, some (.builtin "ValueError.__new__"), k5] := by
        obtain ⟨l⟩ := sl
        simp only at hs
        rw [hs]
      subst hsl
      exact ⟨_, _, _, _, bm, _, _, _, _, _, _, _, _, _, _, ho, h6⟩
    · cases h
  · cases h
theorem code_of {file : Str} {v : Value} (h : codeB K file v = true) : ∃ a, v = .ref a ∧ ∃ (o : Obj) (vs : Array Value) (y : Str) (tf : Tok), K.lookup a = some o ∧ o.data = .fields vs ∧ vs[2]? = some (.str y tf) ∧ (file == y) = true := by
  cases v with
  | ref a =>
    have h1 : (match K.lookup a with
      | some ⟨_, _, .fields vs, _⟩ => (match (vs[2]? : Option Value) with
        | some (.str y _) => file == y
        | _ => false)
      | _ => false) = true := h
    split at h1
    · rename_i vs _ ho
      split at h1
      · rename_i y t hv
        exact ⟨a, rfl, _, vs, y, t, ho, rfl, hv, h1⟩
      · cases h1
    · cases h1
  | _ => cases h
theorem cell_of {C : Addr} {cl : List (Str × Addr)} (h : cellB K C cl = true) : ∃ x c, cl = [(x, c)] ∧ ∃ o : Obj, K.lookup c = some o ∧ o.data = .cell (some (.ref C)) := by
  match cl, h with
  | [(x, c)], h =>
    have h1 : (match K.lookup c with
      | some ⟨_, _, .cell (some v), _⟩ => decide (v = .ref C)
      | _ => false) = true := h
    split at h1
    · rename_i v _ ho
      have e := of_decide_eq_true h1
      subst e
      exact ⟨x, c, rfl, _, ho, rfl⟩
    · cases h1
  | [], h => cases h
  | _ :: _ :: _, h => cases h
theorem non_of {v : Value} (h : nonB K v = true) : ∃ (T : Addr) (o : Obj) (n : Nat), v = .ref T ∧ K.lookup T = some o ∧ o.data = .seq #[.none] n := by
  cases v with
  | ref a =>
    have h1 : (match K.lookup a with
      | some ⟨_, _, .seq its _, _⟩ => decide (its.toList = [Value.none])
      | _ => false) = true := h
    split at h1
    · rename_i its n _ ho
      have e := of_decide_eq_true h1
      obtain ⟨l⟩ := its
      simp only at e
      subst e
      exact ⟨a, _, n, rfl, ho, rfl⟩
    · cases h1
  | _ => cases h
def fdOf (K : PySem.W.Frag) (i : Nat) : FuncData := match K.lookup (FI K i) with
  | some ⟨_, _, .func fd, _⟩ => fd
  | _ => default
theorem xci_of {P : Program} {i : Nat} (hi : i < 29) (hp : (P.main.scope.names.lookup ("super" : Str)).isSome = false) (e : fnZ K (FI K i) = valZ i) (h : fldB K P.main.file (CA K i) (FI K i) = true) (hs : PySem.W.nsIn K mainGlobals "super" = some none) (ho : PySem.W.nsIn K cStatics "thirdparty.any" = some none) (hb : PySem.W.subIn K (.ref (CA K i)) (.type "BaseException") = some true) :
    XcI K P (CA K i) (FI K i) (fdOf K i) := by
  obtain ⟨h1, h⟩ := band h
  obtain ⟨h2, h⟩ := band h
  obtain ⟨h3, h⟩ := band h
  obtain ⟨h4, h⟩ := band h
  obtain ⟨h5, h⟩ := band h
  obtain ⟨h6, h⟩ := band h
  obtain ⟨h7, h⟩ := band h
  obtain ⟨h8, h⟩ := band h
  obtain ⟨h9, h⟩ := band h
  obtain ⟨h10, h11⟩ := band h
  refine ⟨⟨oex_cls h1, He.eqO_ok h2, hb, of_decide_eq_true h3, h4⟩, He.eqO_ok h5, He.eqO_ok h6, of_decide_eq_true h7, ?_, He.eqO_ok h8, of_decide_eq_true h9, of_decide_eq_true h10, hs, ho, hp⟩
  unfold fdOf
  unfold fnZ at e
  cases q : K.lookup (FI K i) with
  | none =>
    rw [q] at e
    cases e
  | some o =>
    obtain ⟨oc, od, dt, osl⟩ := o
    unfold partB at h11
    rw [q] at e h11
    cases dt with
    | func fd =>
      obtain ⟨n1, n2, n3, n4, n5, n6, n7, n8, n9, n10, n11, n12, n13, n14, n15⟩ := fd
      have e2 : (some (n1, n3, n4, n5, n6, n7.map (·.1), n15) : FnZ) = (some (("__init__" : Str), defArgs (ini i), FuncBody.stmts (defBody (ini i)), defScope (ini i), mainGlobals, [("__class__" : Str)], builtinsNs) : FnZ) := e
      simp only [Option.some.injEq, Prod.mk.injEq] at e2
      obtain ⟨a1, a2, a3, a4, a5, a6, a7⟩ := e2
      have h12 : (PySem.W.codeIn K n13 n2 && (codeB K P.main.file n13 && (cellB K (CA K i) n7 && nonB K n8))) = true := h11
      obtain ⟨b1, h12⟩ := band h12
      obtain ⟨b2, h12⟩ := band h12
      obtain ⟨b3, b4⟩ := band h12
      obtain ⟨q1, q2, q3, p0, p1, p2, p3, p4, p5, p6, p7, p8, z1, z2, z3, z4⟩ := ini_ok i hi
      obtain ⟨cda, rfl, hcode⟩ := code_of b2
      obtain ⟨x, cc, rfl, hcell⟩ := cell_of b3
      have ex : x = "__class__" := by simpa using a6
      subst a1 a2 a3 a4 a5 a7 ex
      refine ⟨oc, od, osl, n2, p0, p1, p2, p3, p4, p5, p6, p7, p8, q1, q2, q3, n8, n9, n10, n11, n14, n12, cda, cc, z4, ?_, rfl, b1, hcode, hcell, non_of b4⟩
      rw [z1, z2, z3]
    | _ => cases e
theorem no_list (h : noList K = true) : ∀ a o, K.lookup a = some o → o.cls ≠ .type "list" := fun a o e => by
  have m : (a, o) ∈ K := by
    clear h
    induction K with
    | nil => cases e
    | cons p r ih =>
      obtain ⟨b, u⟩ := p
      have e2 : (match a == b with | true => some u | false => (r : PySem.W.Frag).lookup a) = some o := e
      cases q : (a == b) with
      | true =>
        rw [q] at e2
        cases e2
        rw [beq_iff_eq.mp q]
        exact List.mem_cons_self
      | false =>
        rw [q] at e2
        exact List.mem_cons_of_mem _ (ih e2)
  exact of_decide_eq_true (List.all_eq_true.mp h _ m)
theorem sys_in (h : sysB K = true) : SysIn K := by
  unfold sysB at h
  cases q : K.lookup sysModules with
  | none =>
    rw [q] at h
    cases h
  | some o =>
    rw [q] at h
    exact ⟨o, q, of_decide_eq_true h⟩
theorem any_of {C : Addr} (h : anyB K C = true) : ExcC K C ∧ XfC K C ∧ PySem.W.subIn K (.ref C) (.type "BaseException") = some true ∧ PySem.W.kitOne K (.ref C) (.type "ValueError") = some true := by
  obtain ⟨h1, h⟩ := band h
  obtain ⟨h2, h⟩ := band h
  obtain ⟨h3, h⟩ := band h
  obtain ⟨h4, h⟩ := band h
  obtain ⟨h5, h⟩ := band h
  obtain ⟨h6, h⟩ := band h
  obtain ⟨h7, h⟩ := band h
  obtain ⟨h8, h9⟩ := band h
  exact ⟨⟨He.eqO_ok h1, He.eqO_ok h2, of_decide_eq_true h3, h4, He.eqO_ok h5, He.eqO_ok h6, of_decide_eq_true h7, of_decide_eq_true h8⟩, ⟨He.eqO_ok h1, He.eqO_ok h2, of_decide_eq_true h3, h4⟩, of_decide_eq_true h3, of_decide_eq_true h9⟩
theorem facts {w : World} {h : Heap} {mg : Str → Option Value} {f : Addr} (X : K.In h) (G : h.Ns mainGlobals mg) (hfa : mg ("law" : Str) = some (.ref f)) (c : obsZ fa fn K = valAll fn) :
    (∀ a o, K.lookup a = some o → o.cls ≠ .type "list") ∧ ∃ fd : FuncData, (∀ (s : Shared) (v : Value), BindsTo s fd ⟨[v], []⟩ [("script", v)]) ∧ ∀ base : Heap, K.In base → base.Ns mainGlobals mg → FnG (PySem.Challenge.rw_everpurse_k01_errors_made).prog w K mg base 4 f fd ["script"] (sp_law K) := by
  have c1 : allB K file0 = true := congrArg (fun z : AlZ => z.1) c
  have cD : He.SaysD fa fn K := congrArg (fun z : AlZ => z.2.1) c
  have cZ : idx29.map (fun i => fnZ K (FI K i)) = idx29.map valZ := congrArg (fun z : AlZ => z.2.2) c
  obtain ⟨a1, c1⟩ := band c1
  obtain ⟨a2, c1⟩ := band c1
  obtain ⟨a3, c1⟩ := band c1
  obtain ⟨a4, c1⟩ := band c1
  obtain ⟨a5, c1⟩ := band c1
  obtain ⟨a6, c1⟩ := band c1
  obtain ⟨a7, a8⟩ := band c1
  have eZ : ∀ i, i < 29 → fnZ K (FI K i) = valZ i := fun i hi => by
    have e2 : (idx29.map fun i => fnZ K (FI K i))[i]? = (idx29.map valZ)[i]? := by rw [cZ]
    have e3 : idx29[i]? = some i := by
      show (List.range 29)[i]? = some i
      simp [hi]
    rw [List.getElem?_map, List.getElem?_map, e3] at e2
    exact Option.some.inj e2
  have hsup := He.eqO_ok (cD.fact 26 (f := .free "super") rfl)
  have T : Tx K (PySem.Challenge.rw_everpurse_k01_errors_made).prog mg (CA K) (FI K) (fdOf K) := {
    g := fun i hi => PySem.W.mg_of X G (He.eqO_ok (upTo_ok a7 i hi))
    xi := fun i hi => xci_of hi (by kernel_rfl) (eZ i hi) (upTo_ok a4 i hi) hsup (He.eqO_ok a3) (any_of (upTo_ok a5 i (by omega))).2.2.1
    xf := fun i hi => (any_of (upTo_ok a5 i (by omega))).2.1
    ex := fun i hi => (any_of (upTo_ok a5 i hi)).1
    kk := fun i j hi hj => of_decide_eq_true (upTo_ok (upTo_ok a8 i hi) j hj)
    kv := fun i hi => (any_of (upTo_ok a5 i hi)).2.2.2
    ei := fun i h1 h2 => by
      have z := upTo_ok a6 i h2
      rw [decide_eq_false (by omega), Bool.or_false] at z
      exact band z }
  have S : SysIn K := sys_in a2
  obtain ⟨fd0, F0⟩ := cD.def_ 0 (d := d0) rfl
  obtain ⟨fd1, F1⟩ := cD.def_ 1 (d := d1) rfl
  obtain ⟨fd2, F2⟩ := cD.def_ 2 (d := d2) rfl
  obtain ⟨fd3, F3⟩ := cD.def_ 3 (d := d3) rfl
  obtain ⟨fd4, F4⟩ := cD.def_ 4 (d := d4) rfl
  obtain ⟨fd5, F5⟩ := cD.def_ 5 (d := d5) rfl
  obtain ⟨fd6, F6⟩ := cD.def_ 6 (d := d6) rfl
  obtain ⟨fd7, F7⟩ := cD.def_ 7 (d := d7) rfl
  obtain ⟨fd8, F8⟩ := cD.def_ 8 (d := d8) rfl
  obtain ⟨fd9, F9⟩ := cD.def_ 9 (d := d9) rfl
  obtain ⟨fd10, F10⟩ := cD.def_ 10 (d := d10) rfl
  obtain ⟨fd11, F11⟩ := cD.def_ 11 (d := d11) rfl
  obtain ⟨fd12, F12⟩ := cD.def_ 12 (d := d12) rfl
  have g0 := He.glo_ok X G (cD.fact 0 (f := .glo "_law_purse") rfl)
  have g1 := He.glo_ok X G (cD.fact 1 (f := .glo "_law_mixed") rfl)
  have g2 := He.glo_ok X G (cD.fact 2 (f := .glo "_law_draw") rfl)
  have g3 := He.glo_ok X G (cD.fact 3 (f := .glo "_law_purses") rfl)
  have g4 := He.glo_ok X G (cD.fact 4 (f := .glo "_law_one_of") rfl)
  have g5 := He.glo_ok X G (cD.fact 5 (f := .glo "_law_word") rfl)
  have g6 := He.glo_ok X G (cD.fact 6 (f := .glo "_law_first") rfl)
  have g7 := He.glo_ok X G (cD.fact 7 (f := .glo "_law_called") rfl)
  have g8 := He.glo_ok X G (cD.fact 8 (f := .glo "_law_bare") rfl)
  have g9 := He.glo_ok X G (cD.fact 9 (f := .glo "_law_code") rfl)
  have g10 := He.glo_ok X G (cD.fact 10 (f := .glo "_law_is_error") rfl)
  have g11 := He.glo_ok X G (cD.fact 11 (f := .glo "_law_right") rfl)
  have f_len := He.free_ok X G (cD.fact 13 (f := .free "len") rfl)
  have f_repr := He.free_ok X G (cD.fact 14 (f := .free "repr") rfl)
  have f_isinstance := He.free_ok X G (cD.fact 15 (f := .free "isinstance") rfl)
  have f_all := He.free_ok X G (cD.fact 16 (f := .free "all") rfl)
  have f_list := He.free_ok X G (cD.fact 17 (f := .free "list") rfl)
  have f_dict := He.free_ok X G (cD.fact 18 (f := .free "dict") rfl)
  have f_tuple := He.free_ok X G (cD.fact 19 (f := .free "tuple") rfl)
  have f_range := He.free_ok X G (cD.fact 20 (f := .free "range") rfl)
  have f_int := He.free_ok X G (cD.fact 21 (f := .free "int") rfl)
  have f_sum := He.free_ok X G (cD.fact 22 (f := .free "sum") rfl)
  have f_max := He.free_ok X G (cD.fact 23 (f := .free "max") rfl)
  have f_min := He.free_ok X G (cD.fact 24 (f := .free "min") rfl)
  have f_ValueError := He.free_ok X G (cD.fact 25 (f := .free "ValueError") rfl)
  have f_super := He.free_ok X G (cD.fact 26 (f := .free "super") rfl)
  have e := hfa.symm.trans (He.glo_ok X G (cD.fact 12 (f := .glo "law") rfl))
  cases e
  have b := FunD.bindsA (ps := ["script"]) F12 fun _ _ _ _ _ _ us hl => match us, hl with | [_], _ => rfl
  have b0 : Binds K fd0 ["script", "at"] [] := F0.bindsN fun _ _ _ _ _ _ us hl => match us, hl with | [_, _], _ => rfl
  have b1 : Binds K fd1 ["seed", "turn", "at"] [] := F1.bindsN fun _ _ _ _ _ _ us hl => match us, hl with | [_, _, _], _ => rfl
  have b2 : Binds K fd2 ["purse", "many"] [] := F2.bindsN fun _ _ _ _ _ _ us hl => match us, hl with | [_, _], _ => rfl
  have b3 : Binds K fd3 ["script", "few"] [] := F3.bindsN fun _ _ _ _ _ _ us hl => match us, hl with | [_, _], _ => rfl
  have b4 : Binds K fd4 ["purse", "some"] [] := F4.bindsN fun _ _ _ _ _ _ us hl => match us, hl with | [_, _], _ => rfl
  have b5 : Binds K fd5 ["purse"] [] := F5.bindsN fun _ _ _ _ _ _ us hl => match us, hl with | [_], _ => rfl
  have b6 : Binds K fd6 ["thing"] [] := F6.bindsN fun _ _ _ _ _ _ us hl => match us, hl with | [_], _ => rfl
  have b7 : Binds K fd7 ["thing"] [] := F7.bindsN fun _ _ _ _ _ _ us hl => match us, hl with | [_], _ => rfl
  have b8 : Binds K fd8 [] [] := F8.bindsN fun _ _ _ _ _ _ us hl => match us, hl with | [], _ => rfl
  have b9 : Binds K fd9 ["error"] [] := F9.bindsN fun _ _ _ _ _ _ us hl => match us, hl with | [_], _ => rfl
  have b10 : Binds K fd10 ["error"] [] := F10.bindsN fun _ _ _ _ _ _ us hl => match us, hl with | [_], _ => rfl
  have b11 : Binds K fd11 ["some", "noted"] [] := F11.bindsN fun _ _ _ _ _ _ us hl => match us, hl with | [_, _], _ => rfl
  refine ⟨no_list a1, fd12, fun s v => b s [v] rfl, fun base _ _ => ?_⟩
  have GD := ok_draw (P := (PySem.Challenge.rw_everpurse_k01_errors_made).prog) (w := w) (base := base) F2 f_int f_range F1 g1
  have GP := ok_purses (P := (PySem.Challenge.rw_everpurse_k01_errors_made).prog) (w := w) (base := base) F3 f_range f_int f_sum f_max f_min f_len F0 g0
  have GO := ok_one_of (P := (PySem.Challenge.rw_everpurse_k01_errors_made).prog) (w := w) (base := base) F4 f_len GD F2.kp b2 g2
  have GW := ok_word (P := (PySem.Challenge.rw_everpurse_k01_errors_made).prog) (w := w) (base := base) F5 f_range GD F2.kp b2 g2
  have GC := ok_code (w := w) (base := base) F9 T f_isinstance f_len f_range
  have GE := ok_is_error (w := w) (base := base) F10 T f_isinstance f_ValueError
  have GR := ok_right (w := w) (base := base) F11 T S f_range f_repr GC F9.kp b9 g9 GE F10.kp b10 g10
  exact ok_law F12 T S f_repr f_isinstance f_len f_all f_list f_dict f_tuple (GP.mono (by decide)) F3.kp b3 g3 GW F5.kp b5 g5 GO F4.kp b4 g4 (ok_first F6 T) F6.kp b6 g6 (ok_called F7 T) F7.kp b7 g7 (ok_bare F8 T) F8.kp b8 g8
    (GC.mono (by decide)) F9.kp b9 g9 (GE.mono (by decide)) F10.kp b10 g10 (GR.mono (by decide)) F11.kp b11 g11
end
end EV
open PySem PySem.W PySem.Calls PyProof.Rows
theorem PySem.Challenge.cw_everpurse_k01_errors_made_holds : PySem.Challenge.rw_everpurse_k01_errors_made.Holds := by
  w_on; o_law
  refine HandSHeadRun.head_any (r := OpenLaw.row PySem.Challenge.rw_everpurse_k01_errors_made) (q := view (OpenLaw.row PySem.Challenge.rw_everpurse_k01_errors_made).prog [46]) (H := EV.hk) (ob := EV.ob) (M := 60000) (loose := EV.loose)
    (d := HandSHeadRun.topDef (OpenLaw.row PySem.Challenge.rw_everpurse_k01_errors_made).prog 46) (kwd := []) EV.ob_eq (by kernel_rfl) (fun s => by kernel_rfl) EV.run (by kernel_rfl) (by kernel_rfl) (by kernel_rfl) (by rfl) (by first | assumption | decide +kernel) (by decide +kernel)
    ⟨rfl, rfl, rfl, rfl, rfl, by decide +kernel⟩ ?hw ?hc
  case hw => w_witness2
  case hc =>
    refine EVX.walk_G (l := PySem.Challenge.rw_everpurse_k01_errors_made) (n := 63) (k := 4) (x := "script") rfl (by decide) (by kernel_rfl) ⟨rfl, by decide, by decide⟩ ?F
    intro w mg fa h Y G hmg0
    obtain ⟨K, KX, c⟩ := Y
    have hmg : mg ("law" : PySem.Str) = some (.ref fa) := by
      have e : (HandSHeadRun.topDef (OpenLaw.row PySem.Challenge.rw_everpurse_k01_errors_made).prog 46).name = ("law" : PySem.Str) := by kernel_rfl
      rw [← e]
      exact hmg0
    obtain ⟨hL, fd, hb, hF⟩ := EV.facts (w := w) KX G hmg c
    exact ⟨K, fd, EV.sp_law K, KX, hL, hb, fun H a ns hl hS => ⟨a, ns, rfl, hS, hl, fun _ => rfl⟩, hF⟩
