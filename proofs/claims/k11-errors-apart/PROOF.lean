import PyProof.Rows.All
import Wide.All
import OpenK.AllK
import Wide.FinOn
import HandS.ForMost
import HandS.Exc
import HandS.Codes
import HandS.HotCalls
import KE.KExcIs
import HandS.ExcInit
import HandS.ExcValue
import PyProof.ExcRepr
import PyProof.ExcStrAll.ValueError
import PyProof.ReprReads
import PyProof.StrHeap
import HandS.DeepEq
import HandS.RaiseMore
import KE.KEqNest
import HandS.ExcField
import HandS.ExcIs
import HandS.TryOnly
import HandS.WordsExc
import HandS.Style
import HandS.IsInst
import PySem.Challenge.RW_goneyet_k11_errors_apart
set_option Elab.async false
set_option linter.all false
set_option maxRecDepth 100000
set_option maxHeartbeats 4000000
namespace Gy
open PySem L2
def top (i : Nat) : Stmt := PySem.Challenge.pw_goneyet_k11_errors_apart.main.body.getD i (.Pass ⟨0, 0, 0, 0⟩)
abbrev sBag : Stmt := top 25
abbrev sTake : Stmt := top 26
abbrev sSome : Stmt := top 27
/-- all that stood but what is at b stands as it was -/
def Ext (b : Addr) (H H' : Hp) : Prop := ∀ a o, a ≠ b → H a = some o → H' a = some o
theorem Ext.refl (b : Addr) (H : Hp) : Ext b H H := fun _ _ _ h => h
theorem Ext.trans {b : Addr} {H H1 H2 : Hp} (x : Ext b H H1) (y : Ext b H1 H2) : Ext b H H2 := fun a o n h => y a o n (x a o n h)
theorem Ext.new {b : Addr} {H H1 : Hp} {p : Addr} {o : HO} (x : Ext b H H1) (hp : H1 p = none) : Ext b H (upd H1 p o) := fun a u n h => by
  have q := x a u n h
  rw [upd_ne (ne_of_none q hp)]; exact q
theorem Ext.put {b : Addr} {H H1 : Hp} {o : HO} (x : Ext b H H1) : Ext b H (upd H1 b o) := fun a u n h => by
  rw [upd_ne n]; exact x a u n h
/-- the bag at b, its cells at c -/
structure BagAt (H : Hp) (b c : Addr) (x0 x1 x2 : Int) (ns : List Int) : Prop where
  hb : H b = some (.lst [.int x0, .int x1, .int x2, .ref c])
  hc : H c = some (.lst (ns.map V.int))
  p0 : 0 ≤ x0
  p1 : 0 ≤ x1
  q1 : x1 < 2147483647
  p2 : 0 ≤ x2
  pc : ∀ n ∈ ns, 0 ≤ n
  lc : ns.length ≤ 63
def BagC (c : Addr) (H : Hp) (b : Addr) : Prop := ∃ x0 x1 x2 ns, BagAt H b c x0 x1 x2 ns
def Bag (H : Hp) (b : Addr) : Prop := ∃ c, BagC c H b
theorem BagAt.ne {H : Hp} {b c : Addr} {x0 x1 x2 : Int} {ns : List Int} (h : BagAt H b c x0 x1 x2 ns) : c ≠ b := fun e => by
  have h1 := h.hb
  have h2 := h.hc
  rw [e, h1] at h2
  have h3 := Option.some.inj h2
  injection h3 with h4
  match ns, h4 with
  | [_, _, _, d], h4 => injection h4 with _ h4; injection h4 with _ h4; injection h4 with _ h4; injection h4 with h4 _; cases h4
theorem BagAt.new {H : Hp} {b c : Addr} {x0 x1 x2 : Int} {ns : List Int} (h : BagAt H b c x0 x1 x2 ns) {p : Addr} {o : HO} (hp : H p = none) : BagAt (upd H p o) b c x0 x1 x2 ns :=
  ⟨by rw [upd_ne (ne_of_none h.hb hp)]; exact h.hb, by rw [upd_ne (ne_of_none h.hc hp)]; exact h.hc, h.p0, h.p1, h.q1, h.p2, h.pc, h.lc⟩
theorem BagAt.put {H : Hp} {b c : Addr} {x0 x1 x2 y0 y1 y2 : Int} {ns : List Int} (h : BagAt H b c x0 x1 x2 ns) (a0 : 0 ≤ y0) (a1 : 0 ≤ y1) (a2 : y1 < 2147483647) (a3 : 0 ≤ y2) :
    BagAt (upd H b (.lst [.int y0, .int y1, .int y2, .ref c])) b c y0 y1 y2 ns :=
  ⟨upd_same, by rw [upd_ne h.ne]; exact h.hc, a0, a1, a2, a3, h.pc, h.lc⟩
theorem Bag.new {H : Hp} {b : Addr} (h : Bag H b) {p : Addr} {o : HO} (hp : H p = none) : Bag (upd H p o) b := by
  obtain ⟨c, x0, x1, x2, ns, h⟩ := h
  exact ⟨c, x0, x1, x2, ns, h.new hp⟩
structure TxtA (mg : Str → Option Value) : Prop where
  int : mg "int" = none
  abs : mg "abs" = none
  len : mg "len" = none
def spBag (K : PySem.W.Frag) : Sp := fun vs H Q _ => ∃ (a : Addr) (ns : List Int), vs = [.ref a] ∧ SqL K H a (ns.map V.int) ∧ ∀ (H' : Hp) (b : Addr), Same H H' → H b = none → Bag H' b → Q (.ref b) H'
def spTake : Sp := fun vs H Q _ => ∃ (b c : Addr) (n : Int), vs = [.ref b, .int n] ∧ 0 < n ∧ n < 1000000000 ∧ BagC c H b ∧ ∀ (r : Int) (H' : Hp), 0 ≤ r → r < n → Ext b H H' → BagC c H' b → Q (.int r) H'
def spSome (K : PySem.W.Frag) : Sp := fun vs H Q _ => ∃ (b c l : Addr) (xs : List V), vs = [.ref b, .ref l] ∧ l ≠ b ∧ H l = some (.lst xs) ∧ 0 < xs.length ∧ xs.length < 1000000000 ∧ BagC c H b ∧
  ∀ (v : V) (H' : Hp), v ∈ xs → Ext b H H' → BagC c H' b → Q v H'
theorem get_list {X : Cx} : PGet X (rIxL X.K) := by
  intro pins s σ H o i ov iv Q I ro ri h
  obtain ⟨p, xs, k, z, rfl, rfl, hq, he, q⟩ := h
  cases ro
  obtain ⟨t, rfl⟩ := ri
  obtain ⟨its, r, pl, hz⟩ := I.list hq
  obtain ⟨j, h1, h2, h3, h4, h5⟩ := atI_get he
  obtain ⟨w, ew, rw'⟩ := r.get h2
  have hl := r.length
  have hn := line63
  have fin : EP X pins σ Q w s := ⟨z, H, I, rw', q⟩
  by_cases h0 : 0 ≤ k
  · have hj : k.toNat = j := by
      rw [seqIndex_of h0 h5] at h1
      exact Option.some.inj h1
    exact wpAny_getItem_list pl.isList h0 (by omega) (by rw [hj]; simpa using ew) fin
  · have hj : (k + (its.toArray.size : Int)).toNat = j := by
      rw [seqIndex_neg (by omega) h4] at h1
      rw [List.size_toArray, ← hl]
      exact Option.some.inj h1
    exact wpAny_getItem_list_neg pl.isList (by omega) (by rw [List.size_toArray] <;> omega) (by omega) (by rw [hj]; simpa using ew) fin
end Gy

namespace Gy
open PySem L2
section
variable {P : Program} {w : World} {K : PySem.W.Frag} {mg : Str → Option Value} {base : Heap}
theorem nz1 : (2147483647 : Int) ≠ 0 := by decide
theorem nz2 : (1000000007 : Int) ≠ 0 := by decide
theorem nz3 : (998244353 : Int) ≠ 0 := by decide
theorem scTake : FnScope ["_law_bag_here", "_law_upto", "_law_cell", "_law_stirred", "_law_value", "_law_begin", "_law_second"] ["_law_bag_here", "_law_upto"] (defScope sTake) := ⟨rfl, rfl, rfl, by decide +kernel, rfl, by decide +kernel, by decide +kernel⟩
theorem ok_take {f : Addr} {fd : FuncData} (F : Fun K "_law_take" "_law_take" sTake f fd) (T : TxtA mg) : FnOk P w K mg base CX0 1 f fd ["_law_bag_here", "_law_upto"] spTake := by
  refine F.ok scTake (fun vs H Q E h => ?_) (fun cdv A outer s H vs Q E hr h => ?_)
  · obtain ⟨b, c, n, rfl, _⟩ := h
    rfl
  · obtain ⟨b, c, n, rfl, n0, n1, B, k⟩ := h
    have nd := scTake.nd
    refine ⟨_, C8.pss_cut (ps_if (pt_cmpR op_eq (pe_ix ix_list (pv 0) pe_int (fun _ _ => rfl)) pe_int (nomark _))
        (pss_cons (ps_set (i := 2) nd rfl (Or.inl rfl) (pe_ix ix_list (pe_op op_cat (pe_slice sl_list (pe_ix ix_list (pv 0) pe_int (fun _ _ => rfl)) (po_some (pe_ix ix_list (pv 0) pe_int (fun _ _ => rfl))) po_none) (pe_lst (pa_cons pe_int pa_nil))) pe_int (fun _ _ => rfl)))
        (pss_cons (ps_augS (pv 0) pe_int get_list pe_int ip_add set_list)
        (C8.pss_cut (ps_if (pt_cmpR op_ge (pv 2) (pe_op op_pow pe_int pe_int) (nomark _)) (pss_one (ps_asg (pv 2) (pg_sub (pv 0) pe_int set_list))) pss_nil)
        (pss_cons (ps_set (i := 3) nd rfl (Or.inl rfl) (pe_op op_add (pe_op op_add (pe_op op_mul (pe_ix ix_list (pv 0) pe_int (fun _ _ => rfl)) pe_int) (pe_op op_modN (pe_callTy call_int1 (by rfl) T.int (by decide +kernel) (pa_cons (pv 2) pa_nil)) pe_int)) (pe_op op_mul pe_int (pe_ix ix_list (pv 0) pe_int (fun _ _ => rfl)))))
        (pss_one (ps_asg (pe_op op_modN (pe_callTy call_int1 (by rfl) T.int (by decide +kernel) (pa_cons (pv 3) pa_nil)) pe_int) (pg_sub (pv 0) pe_int set_list)))))))
        pss_nil)
      (pss_cons (ps_if (pt_cmpR op_gt (pe_ix ix_list (pv 0) pe_int (fun _ _ => rfl)) pe_int (nomark _))
        (pss_cons (ps_set (i := 4) nd rfl (Or.inl rfl) (pe_op op_modN (pe_callTy call_int1 (by rfl) T.int (by decide +kernel) (pa_cons (pe_ix ix_list (pv 0) pe_int (fun _ _ => rfl)) pa_nil)) (pv 1)))
        (pss_cons (ps_asg (pe_op op_fdivN (pe_callTy call_int1 (by rfl) T.int (by decide +kernel) (pa_cons (pe_ix ix_list (pv 0) pe_int (fun _ _ => rfl)) pa_nil)) (pv 1)) (pg_sub (pv 0) pe_int set_list))
        (pss_one (ps_ret (pv 4)))))
        pss_nil)
      (pss_cons (ps_set (i := 5) nd rfl (Or.inl rfl) (pe_op op_modN (pe_callTy call_int1 (by rfl) T.int (by decide +kernel) (pa_cons (pe_op op_mul (pe_op op_add (pe_ix ix_list (pv 0) pe_int (fun _ _ => rfl)) pe_int) pe_int) pa_nil)) pe_int))
      (pss_cons (ps_set (i := 6) nd rfl (Or.inl rfl) (pe_op op_modN (pe_callTy call_int1 (by rfl) T.int (by decide +kernel) (pa_cons (pe_op op_mul (pe_op op_modN (pe_callTy call_int1 (by rfl) T.int (by decide +kernel) (pa_cons (pe_op op_mul (pv 5) (pv 5)) pa_nil)) pe_int) pe_int) pa_nil)) pe_int))
      (pss_one (ps_ret (pe_op op_modN (pe_callTy call_int1 (by rfl) T.int (by decide +kernel) (pa_cons (pe_op op_fdivN (pv 6) pe_int) pa_nil)) (pv 1))))))), ?_⟩
    obtain ⟨x0, x1, x2, ns, B0⟩ := B
    let Mid : St → Hp → Prop := fun σ H' => (∃ v2 v3 v4 v5 v6, σ = [some (.ref b), some (.int n), v2, v3, v4, v5, v6]) ∧ Ext b H H' ∧ ∃ y0 y1 y2, BagAt H' b c y0 y1 y2 ns
    refine ⟨Mid, ?_, ?_⟩
    · -- the first if
      refine ⟨_, rfl, _, _, _, _, rfl, rfl, SqL.of B0.hb, rfl, rfl, _, rfl, ?_⟩
      refine ite2 (fun _ => ?_) (fun _ => ⟨⟨_, _, _, _, _, rfl⟩, Ext.refl _ _, _, _, _, B0⟩)
      -- _law_cell = (bag[3][bag[2]:] + [0])[0]
      refine ⟨_, rfl, _, _, _, _, rfl, rfl, SqL.of B0.hb, rfl, _, rfl, _, _, _, _, rfl, rfl, SqL.of B0.hb, rfl, _, rfl, c, ns.map V.int, rfl, SqL.of B0.hc, fun p hp => ?_⟩
      have B1 := B0.new (o := .lst (cutV (ns.map V.int) (some x2) none)) hp
      have e1 : Ext b H (upd H p (.lst (cutV (ns.map V.int) (some x2) none))) := (Ext.refl b H).new hp
      refine ⟨by show 1 ≤ sizeLine; decide, fun p2 hp2 => ?_⟩
      have B2 := B1.new (o := .lst [.int 0]) hp2
      have e2 := e1.new (o := .lst [.int 0]) hp2
      have n12 : p ≠ p2 := fun e => by rw [← e, upd_same] at hp2; cases hp2
      have cl : (cutV (ns.map V.int) (some x2) none).length ≤ 63 := Nat.le_trans (cutV_length _ _ _) (by rw [List.length_map]; exact B0.lc)
      refine ⟨p, p2, _, _, rfl, rfl, (upd_ne n12).trans upd_same, upd_same, Nat.le_trans (Nat.add_le_add cl (Nat.le_refl _)) (by show 64 ≤ sizeLine; decide), fun p3 hp3 => ?_⟩
      have B3 := B2.new (o := .lst (cutV (ns.map V.int) (some x2) none ++ [.int 0])) hp3
      have e3 := e2.new (o := .lst (cutV (ns.map V.int) (some x2) none ++ [.int 0])) hp3
      obtain ⟨cell, hcell, cell0⟩ : ∃ z : Int, (cutV (ns.map V.int) (some x2) none ++ [V.int 0])[0]? = some (.int z) ∧ 0 ≤ z := by
        cases hh : cutV (ns.map V.int) (some x2) none with
        | nil => exact ⟨0, rfl, Int.le_refl 0⟩
        | cons v r =>
          have hv : v ∈ cutV (ns.map V.int) (some x2) none := by rw [hh]; exact List.mem_cons_self
          have hv2 : v ∈ ns.map V.int := List.mem_of_mem_drop (List.mem_of_mem_take hv)
          obtain ⟨z, hz, rfl⟩ := List.mem_map.mp hv2
          exact ⟨z, rfl, B0.pc z hz⟩
      refine ⟨p3, _, 0, .int cell, rfl, rfl, SqL.of upd_same, atI_nat (j := 0) hcell, ?_⟩
      generalize upd (upd (upd H p (.lst (cutV (ns.map V.int) (some x2) none))) p2 (.lst [.int 0])) p3 (.lst (cutV (ns.map V.int) (some x2) none ++ [.int 0])) = H3 at B3 e3
      -- bag[2] += 1
      refine ⟨_, rfl, _, _, _, _, rfl, rfl, SqL.of B3.hb, rfl, _, _, rfl, rfl, _, _, _, _, rfl, rfl, B3.hb, rfl, ?_⟩
      have B4 := B3.put B3.p0 B3.p1 B3.q1 (Int.add_nonneg B3.p2 (by decide : (0 : Int) ≤ 1))
      have e4 := e3.put (o := .lst [.int x0, .int x1, .int (x2 + 1), .ref c])
      show C8.tCut _ _ _ _ (upd H3 b (.lst [.int x0, .int x1, .int (x2 + 1), .ref c]))
      generalize upd H3 b (.lst [.int x0, .int x1, .int (x2 + 1), .ref c]) = H4 at B4 e4
      -- if cell >= 10 ** 18: bag[0] = cell
      refine ⟨fun σ' H' => σ' = [some (.ref b), some (.int n), some (.int cell), none, none, none, none] ∧ Ext b H H' ∧ ∃ y0, BagAt H' b c y0 x1 (x2 + 1) ns, ?_, ?_⟩
      · refine ⟨_, rfl, _, _, rfl, rfl, (by show (0 : Int) ≤ 18 ∧ (18 : Int) ≤ 1000000 ∧ (10 : Int).natAbs < 2 ^ 64; decide), _, _, rfl, rfl, _, rfl, ?_⟩
        refine ite2 (fun _ => ?_) (fun _ => ⟨rfl, e4, _, B4⟩)
        refine ⟨_, rfl, _, rfl, _, _, _, _, rfl, rfl, B4.hb, rfl, rfl, e4.put, _, B4.put cell0 B4.p1 B4.q1 B4.p2⟩
      · rintro σ' H5 ⟨rfl, e5, y0, B5⟩
        have hs : 0 ≤ x1 * 48271 + cell.fmod 2147483647 + 7919 * (x2 + 1) := by
          have h1 := B5.p1
          have h2 := B5.p2
          have h3 : cell.fmod 2147483647 = cell % 2147483647 := Int.fmod_eq_emod_of_nonneg _ (by decide)
          rw [h3]
          omega
        -- stirred
        refine ⟨_, rfl, _, _, _, _, rfl, rfl, SqL.of B5.hb, rfl, _, _, rfl, rfl, .inr (by decide), _, rfl, .inl ⟨_, rfl, _, _, rfl, rfl, nz1, _, _, rfl, rfl, _, rfl, _, _, _, _, rfl, rfl, SqL.of B5.hb, rfl, _, _, rfl, rfl, .inl (by decide), _, _, rfl, rfl, ?_⟩⟩
        refine ⟨_, rfl, .inl ⟨_, rfl, _, _, rfl, rfl, nz1, _, rfl, _, _, _, _, rfl, rfl, B5.hb, rfl, ?_⟩⟩
        refine ⟨⟨_, _, _, _, _, rfl⟩, e5.put, _, _, _, B5.put B5.p0 ?_ ?_ B5.p2⟩
        · rw [Int.fmod_eq_emod_of_nonneg _ (by decide)]
          exact Int.emod_nonneg _ (by decide)
        · rw [Int.fmod_eq_emod_of_nonneg _ (by decide)]
          exact Int.emod_lt_of_pos _ (by decide)
    · -- the rest
      rintro σ H' ⟨⟨v2, v3, v4, v5, v6, rfl⟩, e0, y0, y1, y2, B1⟩
      have nn : n ≠ 0 := by omega
      refine ⟨_, rfl, _, _, _, _, rfl, rfl, SqL.of B1.hb, rfl, _, _, rfl, rfl, _, rfl, ?_⟩
      refine ite2 (fun _ => ?_) (fun _ => ?_)
      · refine ⟨_, rfl, _, _, _, _, rfl, rfl, SqL.of B1.hb, rfl, .inl ⟨_, rfl, _, rfl, _, _, rfl, rfl, nn, ?_⟩⟩
        refine ⟨_, rfl, _, _, _, _, rfl, rfl, SqL.of B1.hb, rfl, .inl ⟨_, rfl, _, rfl, _, _, rfl, rfl, ⟨nn, by omega⟩, _, rfl, _, _, _, _, rfl, rfl, B1.hb, rfl, ?_⟩⟩
        refine ⟨_, rfl, k _ _ ?_ ?_ e0.put ⟨_, _, _, ns, B1.put ?_ B1.p1 B1.q1 B1.p2⟩⟩
        · rw [Int.fmod_eq_emod_of_nonneg _ (by omega)]
          exact Int.emod_nonneg _ nn
        · rw [Int.fmod_eq_emod_of_nonneg _ (by omega)]
          exact Int.emod_lt_of_pos _ n0
        · rw [Int.fdiv_eq_ediv_of_nonneg _ (by omega)]
          exact Int.ediv_nonneg B1.p0 (by omega)
      · have q1 := B1.q1
        have p1 := B1.p1
        refine ⟨_, rfl, _, _, _, _, rfl, rfl, SqL.of B1.hb, rfl, _, _, rfl, rfl, _, _, rfl, rfl, .inr (by decide), .inl ⟨_, rfl, _, _, rfl, rfl, nz2, ?_⟩⟩
        have hb : ∀ z : Int, 0 ≤ z.fmod 1000000007 ∧ z.fmod 1000000007 < 1000000007 := fun z => by
          rw [Int.fmod_eq_emod_of_nonneg _ (by decide)]
          exact ⟨Int.emod_nonneg _ (by decide), Int.emod_lt_of_pos _ (by decide)⟩
        have hb2 := hb ((y1 + 1) * 39373)
        refine ⟨_, rfl, _, rfl, _, _, rfl, rfl, .inl ⟨by omega, by omega⟩, .inl ⟨_, rfl, _, _, rfl, rfl, nz3, _, _, rfl, rfl, .inr (by decide), .inl ⟨_, rfl, _, _, rfl, rfl, nz3, ?_⟩⟩⟩
        refine ⟨_, rfl, _, _, rfl, rfl, ⟨by decide, by decide⟩, .inl ⟨_, rfl, _, rfl, _, _, rfl, rfl, nn, k _ _ ?_ ?_ e0 ⟨_, _, _, ns, B1⟩⟩⟩
        · rw [Int.fmod_eq_emod_of_nonneg _ (by omega)]
          exact Int.emod_nonneg _ nn
        · rw [Int.fmod_eq_emod_of_nonneg _ (by omega)]
          exact Int.emod_lt_of_pos _ n0
end
end Gy

namespace Gy
open PySem L2
section
variable {P : Program} {w : World} {K : PySem.W.Frag} {mg : Str → Option Value} {base : Heap}
theorem scSome : FnScope ["_law_bag_here", "_law_things"] ["_law_bag_here", "_law_things"] (defScope sSome) := ⟨rfl, rfl, rfl, by decide +kernel, rfl, by decide +kernel, by decide +kernel⟩
structure TxtB (K : PySem.W.Frag) (mg : Str → Option Value) (fT : Addr) : Prop where
  a : TxtA mg
  gT : mg "_law_take" = some (.ref fT)
  kT : PySem.W.keepIn K (.ref fT) = true
theorem ok_some {f fT : Addr} {fd fdT : FuncData} (F : Fun K "_law_some" "_law_some" sSome f fd) (T : TxtB K mg fT) (FT : Fun K "_law_take" "_law_take" sTake fT fdT) (bT : Binds K fdT ["_law_bag_here", "_law_upto"] []) :
    FnOk P w K mg base CX0 2 f fd ["_law_bag_here", "_law_things"] (spSome K) := by
  have GT : FnOk P w K mg base CX0 1 fT fdT ["_law_bag_here", "_law_upto"] spTake := ok_take FT T.a
  refine F.ok scSome (fun vs H Q E h => ?_) (fun cdv A outer s H vs Q E hr h => ?_)
  · obtain ⟨b, c, l, xs, rfl, _⟩ := h
    rfl
  · obtain ⟨b, c, l, xs, rfl, hlb, hl, h0, h1, B, k⟩ := h
    refine ⟨_, pss_one (ps_ret (pe_ix ix_list (pv 1) (pe_call GT hr rfl T.gT T.kT bT .nil pass0 (pa_cons (pv 0) (pa_cons (pe_callB call_len_seq (by rfl) T.a.len PySem.boot_len (pa_cons (pv 1) pa_nil)) pa_nil))) (fun _ _ => rfl))), ?_⟩
    refine ⟨_, rfl, _, rfl, _, rfl, l, _, rfl, .inl (SqL.of hl), b, c, _, rfl, by omega, by omega, B, fun r H' r0 r1 e B' => ?_⟩
    have hlt : r.toNat < xs.length := by omega
    have er : ((r.toNat : Nat) : Int) = r := Int.toNat_of_nonneg r0
    refine ⟨l, xs, r, xs[r.toNat], rfl, rfl, SqL.of (e l _ hlb hl), ?_, k _ _ (List.getElem_mem hlt) e B'⟩
    have q := atI_nat (xs := xs) (j := r.toNat) (v := xs[r.toNat]) (List.getElem?_eq_getElem hlt)
    rw [er] at q
    exact q
theorem tyes_go {σ : St} {H : Hp} {A B : Hp → Prop} (h : A H) : tYes σ H (fun b H3 => if b = true then A H3 else B H3) := iteT (B := B H) h
theorem scBag : FnScope ["_law_script", "_law_cell"] ["_law_script"] (defScope sBag) := ⟨rfl, rfl, rfl, by decide +kernel, rfl, by decide +kernel, by decide +kernel⟩
theorem ok_bag {f : Addr} {fd : FuncData} (F : Fun K "_law_bag" "_law_bag" sBag f fd) (T : TxtA mg) : FnOk P w K mg base CX0 1 f fd ["_law_script"] (spBag K) := by
  refine F.ok scBag (fun vs H Q E h => ?_) (fun cdv A outer s H vs Q E hr h => ?_)
  · obtain ⟨a, ns, rfl, _⟩ := h
    rfl
  · obtain ⟨a, ns, rfl, hS, k⟩ := h
    have nd := scBag.nd
    refine ⟨_, pss_one (ps_ret (pe_lst (pa_cons pe_int (pa_cons pe_int (pa_cons pe_int (pa_cons
      (pe_lc (own := [("_law_cell", 1)]) (g := gName 1) (tt := tYes) rfl nd (pi_list (pe_slice sl_list (pv 0) po_none (po_some pe_int))) (blkOk_by (own := [("_law_cell", 1)]) (N := ["_law_script", "_law_cell"]) (sc := defScope sBag) (by decide +kernel))
        (fun _ _ _ _ _ => pg_name (i := 1) nd rfl (Or.inl rfl)) (fun _ _ _ _ _ => pts_nil) (fun _ _ _ _ _ => pe_callB call_abs (by rfl) T.abs (by decide +kernel) (pa_cons (pv 1) pa_nil))) pa_nil)))))), ?_⟩
    refine ⟨_, rfl, _, rfl, a, ns.map V.int, rfl, hS, fun p hp => ?_⟩
    generalize hys : cutV (ns.map V.int) none (some 63) = ys
    have y63 : ys.length ≤ 63 := by
      rw [← hys]
      unfold cutV
      rw [List.length_take]
      have e : HT.sIx (ns.map V.int).length (ns.map V.int).length (some 63) = min 63 (ns.map V.int).length := HT.sIx_nat _ _ 63
      rw [e]
      omega
    have yint : ∀ y ∈ ys, ∃ z : Int, y = .int z := fun y hy => by
      rw [← hys] at hy
      obtain ⟨z, _, rfl⟩ := List.mem_map.mp (List.mem_of_mem_drop (List.mem_of_mem_take hy))
      exact ⟨z, rfl⟩
    have s1 : Same H (upd H p (.lst ys)) := fun b o e => by rw [upd_ne (ne_of_none e hp)]; exact e
    have hp1 : upd H p (.lst ys) p = some (.lst ys) := upd_same
    generalize upd H p (.lst ys) = H1 at s1 hp1
    refine ⟨p, rfl, ⟨_, SqL.of hp1⟩, fun D hD => ?_⟩
    have hpD : p ≠ D := ne_of_none hp1 hD
    refine lc_list (K := K) (a := p) (xs := ys) (fun i H' => Same H1 H' ∧ ∃ zs : List Int, H' D = some (.lst (zs.map V.int)) ∧ zs.length = i ∧ ∀ z ∈ zs, 0 ≤ z)
      ⟨fun b o e => by rw [upd_ne (ne_of_none e hD)]; exact e, [], upd_same, rfl, fun z h => by cases h⟩ (fun i H' _ ⟨e, _⟩ => SqL.of (e _ _ hp1)) ?_ ?_
    · rintro i x H' hi ⟨e, zs, hz, hl, h0⟩
      obtain ⟨z, rfl⟩ := yint x (List.mem_of_getElem? hi)
      have hlt : i < ys.length := (List.getElem?_eq_some_iff.mp hi).1
      refine ⟨rfl, tyes_go ?_⟩
      refine ⟨_, rfl, z, rfl, _, hz, Nat.lt_of_le_of_lt (by rw [List.length_map]; omega : (zs.map V.int).length ≤ 63) (by show 63 < sizeLine; decide), ?_⟩
      refine ⟨fun b o e' => ?_, zs ++ [if z < 0 then -z else z], by rw [upd_same, List.map_append]; rfl, by rw [List.length_append, hl]; rfl, fun y hy => ?_⟩
      · rw [upd_ne (ne_of_none e' hD)]
        exact e _ _ e'
      · rcases List.mem_append.mp hy with h | h
        · exact h0 y h
        · rw [List.mem_singleton] at h
          rw [h]
          split <;> omega
    · rintro H' ⟨e, zs, hz, hl, h0⟩
      refine ⟨by show 4 ≤ sizeLine; decide, fun b hb => ?_⟩
      have hbD : D ≠ b := ne_of_none hz hb
      refine k _ b (fun a' o e' => ?_) ?_ ⟨D, 0, 1234567891, 0, zs, upd_same, by rw [upd_ne hbD]; exact hz, by decide, by decide, by decide, by decide, h0, by omega⟩
      · have e2 := e _ _ (s1 _ _ e')
        rw [upd_ne (ne_of_none e2 hb)]
        exact e2
      · cases q : H b with
        | none => rfl
        | some o =>
          have e2 := e _ _ (s1 _ _ q)
          rw [hb] at e2
          cases e2
end
end Gy

namespace Gy
open PySem L2 PySem.Spec PyProof.Rows
abbrev RoomH := L2H.RoomH
/-- a def's promise where G holds of what runs around -/
structure FnG (G : Around → Prop) (P : Program) (w : World) (K : PySem.W.Frag) (mg : Str → Option Value) (base : Heap) (k : Nat) (f : Addr) (fd : FuncData) (ps : List Str) (sp : Sp) : Prop where
  len : ∀ vs H Q E, sp vs H Q E → vs.length = ps.length
  run : ∀ (A : Around) (outer : List Env) (s : Shared) (H : Hp) (args : Args) (us : List Value) (vs : List V) (Q : VK) (E : XK), RoomH k A → G A → Env0 P w K mg base A outer s H → BindsTo s fd args (ps.zip us) → Vals vs us → sp vs H Q E →
    codeAny (model P w) A (.call (.ref f) args) (CR CX0 outer P w H s Q E) s
def cxG (c : Bool) (P : Program) (w : World) (K : PySem.W.Frag) (mg : Str → Option Value) (base : Heap) (N : List Str) (qual : Str) (scope : Scope) (f : Addr) (cd : Value) (A : Around) (outer : List Env) (s : Shared) (H : Hp) (E : XK) : Cx :=
  { cxOf CX0 P w K mg base N qual scope f cd A outer s H E with calm := c }
theorem inv_startG {c : Bool} {P : Program} {w : World} {K : PySem.W.Frag} {mg : Str → Option Value} {base : Heap} {N ps : List Str} {qual : Str} {scope : Scope} {f : Addr} {cd : Value} {A : Around} {outer : List Env} {s s1 : Shared} {H : Hp} {E : XK} {us : List Value} {vs : List V}
    (S : FnScope N ps scope) (hc : c = true → A.handled = none) (e0 : Env0 P w K mg base A outer s H) (hl : vs.length = ps.length) (r : Vals vs us)
    (x : InCallC s s.heap.objs.size (bindL (envOfC qual scope s.heap.objs.size f cd).kindOf (ps.zip us) fun _ => none) (cellsFrom (s.heap.objs.size + 1) scope.names []) (bindC (envOfC qual scope s.heap.objs.size f cd).kindOf (ps.zip us) fun _ => none) s1) :
    Inv (cxG c P w K mg base N qual scope f cd A outer s H E) [] (L2.start N vs) H s1 := by
  have hpl : ps.length ≤ N.length := by have := congrArg List.length S.pre; rw [List.length_take] at this; omega
  obtain ⟨h1, tk, rfl, hk⟩ := x.done
  have noA : ∀ b : Addr, b ∉ (cxG c P w K mg base N qual scope f cd A outer s H E).ex := fun b z => absurd (show b ∈ ([] : List Addr) from z) (by simp)
  refine ⟨⟨e0.mod, S.kind, rfl, rfl, Nat.le_refl _, fun y z c h1 h2 => ?_, fun y hy => ?_, fun y c _ h => ?_, (fun z => hc z), Around.frames_deeper e0.frames, .inr ⟨rfl, rfl⟩, fun b z => absurd z (noA b), e0.bs, e0.bsz, fun b _ _ => noA b, fun b z => absurd z (noA b), e0.funs, e0.frf⟩,
    rfl, e0.bare, Un.kept hk, ⟨_, x.toInCall.ns, fun i y v h1 h2 h3 => ?_⟩, fun y c h => ⟨_, x.cell y c h⟩, e0.hok.fresh (Nat.le_refl _), fun y c h => ?_, fun p hp => absurd (show p ∈ ([] : List (Addr × Obj)) from hp) (by simp), e0.hok.kept hk, ?_⟩
  · exact name_of_addr x.apart (PySem.mem_of_lookup h1) (PySem.mem_of_lookup h2)
  · have hy : scope.names.lookup y = some .cell ∨ scope.names.lookup y = some .free := hy
    rcases hy with hy | hy
    · exact cell_has hy
    · exact absurd rfl (S.nofree _ (PySem.mem_of_lookup hy))
  · exact Nat.le_of_lt (x.above y c (PySem.mem_of_lookup h))
  · have hi : i < vs.length := by
      unfold L2.start at h2
      by_cases hi : i < vs.length
      · exact hi
      · rw [List.getElem?_append_right (by simpa using hi)] at h2
        rw [List.getElem?_replicate] at h2
        split at h2 <;> cases h2
    have ha : vs[i]? = some v := by
      unfold L2.start at h2
      rw [List.getElem?_append_left (by simpa using hi), List.getElem?_map] at h2
      cases e : vs[i]? with
      | none => rw [e] at h2; cases h2
      | some a => rw [e] at h2; cases h2; rfl
    obtain ⟨u, hu, rv⟩ := r.get ha
    have hp : ps[i]? = some y := by
      rw [← S.pre, List.getElem?_take_of_lt (by omega)]; exact h1
    have ndP : ps.Nodup := by rw [← S.pre]; exact S.nd.sublist (List.take_sublist _ _)
    refine ⟨u, rv, ?_⟩
    rcases S.par y (List.mem_of_getElem? hp) with k | k
    · exact .inl ⟨k, bindL_get ndP hp hu k⟩
    · obtain ⟨c, e⟩ := cell_has (n := s.heap.objs.size + 1) k
      refine .inr ⟨.inl k, c, e, ?_⟩
      have q := x.cell y c e
      rw [bindC_get ndP hp hu (by show scope.names.lookup y ≠ _; rw [k]; decide)] at q
      exact q
  · exact e0.hok.fresh (Nat.le_of_lt (x.above y c (PySem.mem_of_lookup h)))
  · unfold L2.start
    show _ = N.length
    rw [List.length_append, List.length_map, List.length_replicate]
    omega
/-- a def by its body, where G holds of what runs around -/
theorem fn_ofG {c : Bool} {G : Around → Prop} {P : Program} {w : World} {K : PySem.W.Frag} {mg : Str → Option Value} {base : Heap} {k : Nat} {f : Addr} {x qual : Str} {st : Stmt} {fd : FuncData} {N ps : List Str} {sp : Sp}
    (F : Fun K x qual st f fd) (S : FnScope N ps (defScope st)) (hc : ∀ A, G A → c = true → A.handled = none) (len : ∀ vs H Q E, sp vs H Q E → vs.length = ps.length)
    (hbody : ∀ (cdv : Value) (A : Around) (outer : List Env) (s : Shared) (H : Hp) (vs : List V) (Q : VK) (E : XK), G A → RoomH k (A.deeper (envOfC qual (defScope st) s.heap.objs.size f cdv)) → sp vs H Q E →
      ∃ t, PSs (cxG c P w K mg base N qual (defScope st) f cdv A outer s H E).nox (defBody st) t ∧ t { nx := fun _ H' => Q .non H', rt := Q } (L2.start N vs) H) :
    FnG G P w K mg base (k + 1) f fd ps sp := by
  obtain ⟨oc, od, kV, doc, pm, an, cdv, ct, osl, rfl, lk, hcd⟩ := F.ex
  refine ⟨len, fun A outer s H args us vs Q E hr hg e0 hb r hsp => ?_⟩
  have hl := len _ _ _ _ hsp
  have KX : K.In s.heap := e0.mod.kin.keeps fun b o e => (e0.bs b o e).1
  have lim : s.heap.NoLimit := e0.mod.nolimit.keeps fun b o e => (e0.bs b o e).1
  have hkind : ∀ y ∈ ps.zip us, (defScope st).names.lookup y.1 = some .local ∨ ((defScope st).names.lookup y.1 = some .cell ∧ ((cellsFrom (s.heap.objs.size + 1) (defScope st).names []).lookup y.1).isSome = true) := fun ⟨n, v⟩ hy => by
    rcases S.par n (List.of_mem_zip hy).1 with q | q
    · exact .inl q
    · exact .inr ⟨q, PySem.W.cellsFrom_some _ _ _ (.inl q)⟩
  refine codeAny_call_function hr.depth (KX _ _ lk) rfl S.co S.gen rfl (PySem.W.codeRec_of KX hcd) (hb _ _ _ _ ?_)
  refine wpAny_newFunctionEnv_cells S.kind hkind fun env he s1 x => ?_
  subst he
  refine ⟨lim.keeps x.toInCall.keep, codeAny_func ?_⟩
  obtain ⟨t, ht, hq⟩ := hbody cdv A outer s H vs Q E hg (hr.deeper _) hsp
  have I : Inv (cxG c P w K mg base N qual (defScope st) f cdv A outer s H E) [] (L2.start N vs) H s1 := inv_startG S (hc A hg) e0 hl r x
  refine wpAny_mono (ht.nox.run [] s1 (L2.start N vs) H _ I hq) (fun fl s' hs => ?_) fun e s' hs => hs
  have fin : ∀ {σ' : L2.St} {H' : Hp} {v : V} {u : Value}, Inv (cxG c P w K mg base N qual (defScope st) f cdv A outer s H E) [] σ' H' s' → RelV v u → Q v H' → CE outer P w H s Q u s' :=
    fun {σ' H' v u} J rv q => ⟨v, H', J.os, J.bare, J.base, J.hok, rv, q⟩
  cases fl with
  | ret u =>
    obtain ⟨v, σ', H', J, rv, q⟩ := hs
    exact fin J rv q
  | next =>
    obtain ⟨σ', H', J, q⟩ := hs
    exact fin (v := V.non) (u := Value.none) J rfl q
  | brk =>
    obtain ⟨_, _, _, q⟩ := hs
    exact False.elim q
  | cont =>
    obtain ⟨_, _, _, q⟩ := hs
    exact False.elim q
section
variable {G : Around → Prop} {X : Cx} {k : Nat} {f : Addr} {fd : FuncData} {ps : List Str} {sp : Sp} {E : XK} {x : Str} {q pos : Pos} {e : Expr} {es : List Expr} {t : TA}
theorem pe_callG (F : FnG G X.prog X.w X.K X.mg X.base k f fd ps sp) (hr : RoomH k X.A) (hG : G X.A) (hg : Gl X x) (hm : X.mg x = some (.ref f)) (hk : PySem.W.keepIn X.K (.ref f) = true) (hb : Binds X.K fd ps [])
    (ha : PA X (e :: es) t) (hdb : (x == ("__debug__" : Str)) = false := by decide) (he : starEach (e :: es) X.env = (false, eval e X.env) :: starEach es X.env := by rfl) (hpl : (backTo pos (starEach es X.env)).any (·.1) = false := by rfl) :
    PE X (.Call (.Name x q) (e :: es) [] pos) (fun σ H Q => t σ H fun vs H1 => sp vs H1 Q E0) := by
  refine ⟨fun pins s σ H Q I h => ?_⟩
  refine wpAny_Call_Name_kw (ld_glob I hg hm ?_ hdb)
  refine PySem.W.callWith_K (h₀ := X.base) I.ok.mod.kin hk (thn (ha.run pos pins s σ H _ I h) fun us s1 ⟨vs, H1, I1, r, q⟩ => ⟨I1.kIn, ?_⟩) he hpl
  have hl : us.length = ps.length := by rw [← r.length]; exact F.len _ _ _ _ q
  have b := hb s1 us I1.kIn (by rw [List.append_nil]; exact hl)
  rw [List.append_nil] at b
  refine wpAny_call (codeAny_mono (F.run X.A X.stack s1 H1 ⟨us, []⟩ us vs Q E0 hr hG I1.env0 b r q) fun r s' hq => ?_)
  cases r with
  | error e => exact False.elim hq
  | ok fl =>
    cases fl with
    | ret u => exact I1.after hq
    | next => exact False.elim hq
    | brk => exact False.elim hq
    | cont => exact False.elim hq
end
end Gy

namespace Gy
open PySem L2 PySem.Spec PyProof.Rows
/-- at e an exception of the class at C, its dict at d (or none as yet), its args the tuple at t -/
def exq (e C : Addr) (d : Option Addr) (t : Addr) : HO := .ext fun h => h.get? e = some ({ cls := .ref C, dict := d, data := .fields #[.ref t, .none, .none, .none, .bool false, .none] } : Obj)
theorem exq_own {e C x t : Addr} {d : Option Addr} : exq e C d t ≠ .own x := fun z => by
  have z' : HO.ext _ = HO.own x := z
  cases z'
theorem exq_tup {e C t : Addr} {d : Option Addr} {xs : List V} : exq e C d t ≠ .tup xs := fun z => by
  have z' : HO.ext _ = HO.tup xs := z
  cases z'
theorem exq_frz {e C t : Addr} {d : Option Addr} {o : Obj} {u : HO} : exq e C d t ≠ .frz o u := fun z => by
  have z' : HO.ext _ = HO.frz o u := z
  cases z'
theorem exq_tbl {e C t : Addr} {d : Option Addr} {ps : Array Value} : exq e C d t ≠ .tbl ps := fun z => by
  have z' : HO.ext _ = HO.tbl ps := z
  cases z'
theorem exq_lst {e C t : Addr} {d : Option Addr} {xs : List V} : exq e C d t ≠ .lst xs := fun z => by
  have z' : HO.ext _ = HO.lst xs := z
  cases z'
theorem exq_dK {e C t : Addr} {d : Option Addr} {xs : List (Key × V)} : exq e C d t ≠ .dK xs := fun z => by
  have z' : HO.ext _ = HO.dK xs := z
  cases z'
theorem exd_lst {e : Addr} {fs : List (Str × V)} {xs : List V} : exd e fs ≠ .lst xs := fun z => by
  have z' : HO.ext _ = HO.lst xs := z
  cases z'
theorem exd_frz {e : Addr} {fs : List (Str × V)} {o : Obj} {u : HO} : exd e fs ≠ .frz o u := fun z => by
  have z' : HO.ext _ = HO.frz o u := z
  cases z'
theorem exd_tbl {e : Addr} {fs : List (Str × V)} {ps : Array Value} : exd e fs ≠ .tbl ps := fun z => by
  have z' : HO.ext _ = HO.tbl ps := z
  cases z'
theorem exq_ok {P : Program} {w : World} {H : Hp} {h : Heap} {e C t : Addr} {d : Option Addr} (he : h.get? e = some ({ cls := .ref C, dict := d, data := .fields #[.ref t, .none, .none, .none, .bool false, .none] } : Obj)) : ObjOk P w H h e (exq e C d t) :=
  ⟨he, ⟨_, he⟩, fun h1 h2 z k => k _ z⟩
theorem exq_at {P : Program} {w : World} {H : Hp} {h : Heap} {e C t : Addr} {d : Option Addr} (hok : HOk P w H h) (he : H e = some (exq e C d t)) : h.get? e = some ({ cls := .ref C, dict := d, data := .fields #[.ref t, .none, .none, .none, .bool false, .none] } : Obj) := by
  have x : ObjOk P w H h e (.ext fun h => h.get? e = some ({ cls := .ref C, dict := d, data := .fields #[.ref t, .none, .none, .none, .bool false, .none] } : Obj)) := hok e _ he
  exact x.1
/-- what the written part says of an exception class of the program, for its instances -/
structure ExQ (K : PySem.W.Frag) (C : Addr) : Prop where
  oex : OexC K C
  ga : PySem.W.findIn K (.ref C) "__getattribute__" = some (some (.builtin "BaseException.__getattribute__"))
  gg : PySem.W.findIn K (.ref C) "__getattr__" = some none
  hd : PySem.W.hasDictIn K C = true
  cl : PySem.W.findIn K (.ref C) "__class__" = some (some (.builtin "object.__class__"))
  cn : PySem.W.specialIn K (.builtin "object.__class__") "__get__" = some (some (.builtin "getset_descriptor.__get__"))
  ct : PySem.W.takesIn K (.builtin "object.__class__") = some true
  cm : PySem.W.mroIn K C (.type "object") = some true
section
variable {X : Cx} {pins : List (Addr × Obj)} {σ : L2.St} {H : Hp} {s : Shared} {a C dx t0 : Addr} {f : Str} {y : V} {u : Value} {fs : List (Str × V)} {E : Value → Shared → Prop} {A : Around}
/-- self.f = y, the first one -/
theorem qst_new {Q : Unit → Shared → Prop} (T : OexC X.K C) (I : Inv X pins σ H s) (e : H a = some (exq a C none t0)) (hno : PySem.W.findIn X.K (.ref C) f = some none) (ry : RelV y u)
    (h : ∀ dx s', H dx = none → dx ≠ a → Inv X pins σ (upd (upd H dx (exd dx [(f, y)])) a (exq a C (some dx) t0)) s' → Q () s') : wpAny (model X.prog X.w) A (setAttr (.ref a) f u) Q E s := by
  obtain ⟨nm, q, N, bs, bm, sn, sub, ab, col, dd, k0, k1, k2, k3, k5, hC, hbm⟩ := T.cls
  have hcl : PySem.W.clsIn X.K C = some { name := nm, bases := bs, mro := .ref C :: bm, ns := N, qualname := q, hasDict := true, slotNames := sn, subclasses := sub, abstract := ab, collection := col, hasDel := false } := by unfold PySem.W.clsIn; rw [hC] <;> rfl
  have ho := exq_at I.hok e
  obtain ⟨hp, g, d, t, os⟩ := s
  refine PySem.W.set_plain I.kIn (ox := { cls := .ref C, dict := none, data := .fields #[.ref t0, .none, .none, .none, .bool false, .none] }) (od := none) ⟨ho, rfl, rfl, trivial⟩ T.sa ?_
  refine PySem.HandSPX.exc_osa I.kIn ho hcl (show PySem.HandSPX.refsVE (.ref C :: bm) = true from hbm) rfl hno (fun h' tk' dx k dn dne hx hn => ?_)
  have hnd : H dx = none := I.hok.fresh dn
  have nd : ∀ {b : Addr} {o : Obj}, hp.get? b = some o → b ≠ dx := fun {b o} q => Nat.ne_of_lt (Nat.lt_of_lt_of_le (Heap.lt_size q) dn)
  have na : ∀ {b : Addr}, H b = none → b ≠ a := fun {b} n z => by
    rw [z, e] at n
    cases n
  have Un1 : Un X.fs [] H (upd (upd H dx (exd dx [(f, y)])) a (exq a C (some dx) t0)) hp h' := {
    keep := fun b o q n _ _ => k b o (na n) q
    slot := fun b o q n _ _ => ⟨o.slots, k b o (na n) q⟩
    free := fun b o q n _ => by rw [upd_ne (na n), upd_ne (nd q)]; exact n
    there := fun b o q _ => by
      by_cases hb : b = a
      · exact ⟨_, by rw [hb]; exact hx⟩
      · exact ⟨o, k b o hb q⟩
    tups := fun b xs q => by rw [upd_ne (at_ne e q exq_tup), upd_ne (ne_of_none q hnd)]; exact q
    frzs := fun b o v q => by rw [upd_ne (at_ne e q exq_frz), upd_ne (ne_of_none q hnd)]; exact q
    tbls := fun b ps q => ⟨#[], by rw [upd_ne (at_ne e q exq_tbl), upd_ne (ne_of_none q hnd), q]; simp⟩ }
  refine h dx _ hnd dne (I.un (t' := tk') Un1 fun b o q => ?_)
  by_cases hb : b = a
  · subst hb
    rw [upd_same] at q
    cases q
    exact exq_ok hx
  · rw [upd_ne hb] at q
    by_cases hd : b = dx
    · subst hd
      rw [upd_same] at q
      cases q
      exact exd_ok hn (relO_put (fs := []) ry fun g => True.intro)
    · rw [upd_ne hd] at q
      exact (I.hok b o q).stay (fun c v hc z => k c v (by
          rcases hc with hc | hc
          · rw [hc]
            exact hb
          · exact at_ne e hc exq_own) z)
        (fun c hc => by rw [upd_ne (at_ne e hc exq_own), upd_ne (ne_of_none hc hnd)]; exact hc) (fun c xs hc => by rw [upd_ne (at_ne e hc exq_tup), upd_ne (ne_of_none hc hnd)]; exact hc)
/-- self.f = y, a further one -/
theorem qst_old {Q : Unit → Shared → Prop} (T : OexC X.K C) (I : Inv X pins σ H s) (e : H a = some (exq a C (some dx) t0)) (ed : H dx = some (exd dx fs)) (hl : fs.length ≤ 900) (hno : PySem.W.findIn X.K (.ref C) f = some none) (ry : RelV y u)
    (h : ∀ s', Inv X pins σ (upd H dx (exd dx ((f, y) :: fs))) s' → Q () s') : wpAny (model X.prog X.w) A (setAttr (.ref a) f u) Q E s := by
  obtain ⟨nm, q, N, bs, bm, sn, sub, ab, col, dd, k0, k1, k2, k3, k5, hC, hbm⟩ := T.cls
  have hcl : PySem.W.clsIn X.K C = some { name := nm, bases := bs, mro := .ref C :: bm, ns := N, qualname := q, hasDict := true, slotNames := sn, subclasses := sub, abstract := ab, collection := col, hasDel := false } := by unfold PySem.W.clsIn; rw [hC] <;> rfl
  have ho := exq_at I.hok e
  obtain ⟨mA, hns, rel⟩ := exd_at I.hok ed
  have hw := within_of rel
  obtain ⟨hp, g, d, t, os⟩ := s
  obtain ⟨oD, _, _, hoD, _, _⟩ := hns.count hw
  refine PySem.W.set_plain I.kIn (ox := { cls := .ref C, dict := some dx, data := .fields #[.ref t0, .none, .none, .none, .bool false, .none] }) (od := some oD) ⟨ho, rfl, rfl, hoD⟩ T.sa ?_
  refine PySem.OEX.osa_old I.kIn ho hns hw (by rw [List.length_map]; omega) hcl (show PySem.HandSPX.refsVE (.ref C :: bm) = true from hbm) rfl hno (fun h' tk' k hn => ?_)
  have hd : ∃ o, h'.get? dx = some o := by
    obtain ⟨o, _, _, e', _⟩ := hn
    exact ⟨o, e'⟩
  exact h _ (I.write (t' := tk') (x := dx) (e := dx) (o := exd dx ((f, y) :: fs)) (by rw [ed]; exact True.intro) (.inl rfl) k hd (exd_ok hn (relO_put ry rel)))
end
end Gy

namespace PySem
namespace GyPX
open PySem.W PySem.Calls PyProof.Rows PySem.HandSPX
section
open Builtin Builtin.ObjectAttr
variable {prog : Program} {w : World} {A : Around} {E : Value → Shared → Prop} {R : Result → Shared → Prop} {h : Heap} {g : Array GenState} {d : Drawn} {t : Nat} {os : OsState}
variable {nm q : Str} {C N : Addr} {bs bm bmB : List Value} {hdct : Bool} {sn : List Str} {sub : List Value} {ab : Bool} {col : Option Bool} {dd : Option Addr} {k0 k1 k2 k3 k5 : Option Value} {B newId initId : String}
/-- ValueError.__init__(e, ..): the args are laid anew, and told -/
theorem init_told (F : ExcBaseFacts B newId initId bmB) (hT : ∀ X : String, bm.contains (.type X) = bmB.contains (.type X)) {e t0 : Addr} {rest : List Value}
    (hC : h.get? C = some (excClassObj nm q C N bs bm hdct sn sub ab col dd k0 k1 k2 k3 k5 newId)) (he : h.get? e = some (excO C t0)) (hrest : rest.length ≤ sizeLine)
    (hq : ∀ h', (∀ b o, b ≠ e → (h.push (kdv_tup rest)).get? b = some o → h'.get? b = some o) → h'.get? e = some (excO C h.objs.size) → R (.ok (.ret .none)) ⟨h', g, d, t, os⟩) :
    codeAny (model prog w) A (.call (.builtin initId) ⟨.ref e :: rest, []⟩) R ⟨h, g, d, t, os⟩ := by
  refine codeAny_call_builtin F.init.plain F.initEntry (check_init_own F hT hC he rfl ?_)
  wp_walk
  refine hq _ (fun b o hb ho => ?_) ?_
  · rw [Heap.get?_update_other _ _ (Ne.symm hb)]
    exact ho
  · rw [Heap.get?_update_self _ (Heap.get?_push_of_some _ he) rfl]
    rfl
end
end GyPX
end PySem
namespace Gy
open PySem L2 PySem.Spec PyProof.Rows
section
variable {X : Cx} {pins : List (Addr × Obj)} {σ : L2.St} {H : Hp} {s : Shared} {a C dx t0 : Addr} {f : Str} {y : V} {u : Value} {fs : List (Str × V)} {E : Value → Shared → Prop} {A : Around}
theorem qinit_ok {us : List Value} {vs : List V} {Q : Value → Shared → Prop} (T : OexC X.K C) (I : Inv X pins σ H s) (e : H a = some (exq a C none t0)) (r : Vals vs us) (hl : us.length ≤ sizeLine)
    (h : ∀ t1 s', H t1 = none → t1 ≠ a → Inv X pins σ (upd (upd H t1 (.tup vs)) a (exq a C none t1)) s' → Q .none s') :
    wpAny (model X.prog X.w) A (call (.builtin "ValueError.__init__") (.ref a :: us)) Q E s := by
  obtain ⟨nm, q, N, bs, bm, sn, sub, ab, col, dd, k0, k1, k2, k3, k5, hC, hbm⟩ := T.cls
  have ho := exq_at I.hok e
  obtain ⟨hp, g, d, t, os⟩ := s
  refine wpAny_call (PySem.GyPX.init_told F.excBase_ValueError (fun Y => PySem.HandSPX.refsVE_contains Y bm hbm) (I.kIn _ _ hC) ho hl fun h' k hx => ?_)
  have hn : H hp.objs.size = none := I.hok.fresh (Nat.le_refl _)
  have hne : hp.objs.size ≠ a := fun z => by rw [z, e] at hn; cases hn
  have I1 : Inv X pins σ (upd H hp.objs.size (.tup vs)) ⟨hp.push (PySem.W.kdv_tup us), g, d, t, os⟩ := I.laid (t' := t) (fun b o e => Heap.get?_push_of_some _ e) (Nat.le_refl _) ⟨by rw [r.length]; exact hl, us, r, ⟨_, Heap.get?_push_size _ rfl, rfl, _, rfl⟩⟩
  have e1 : upd H hp.objs.size (.tup vs) a = some (exq a C none t0) := by rw [upd_ne (Ne.symm hne)]; exact e
  have J := I1.write (t' := t) (x := a) (e := a) (o := exq a C none hp.objs.size) (by rw [e1]; exact True.intro) (.inl rfl) k ⟨_, hx⟩ (exq_ok hx)
  exact h _ _ hn hne J
end
section
variable {X : Cx} {o e : Expr} {es : List Expr} {to te : TE} {ta : TA} {f n : Str} {p p' p1 p2 pos : Pos}
/-- B.__init__(self, ..), B a class of the program over ValueError that has no __init__ of its own -/
def tQinit (ta : TA) (K : PySem.W.Frag) : TE := fun σ H Q => ta σ H fun vs H1 => ∃ (a C t0 : Addr) (ws : List V), vs = .ref a :: ws ∧ ws.length ≤ 1000 ∧ OexC K C ∧ H1 a = some (exq a C none t0) ∧
  ∀ t1, H1 t1 = none → t1 ≠ a → Q .non (upd (upd H1 t1 (.tup ws)) a (exq a C none t1))
theorem pe_qinit {B : Addr} {x : Str} {pl : Sem Bool} (hg : Gl X x) (hm : X.mg x = some (.ref B)) (hr : PySem.W.readsIn X.K B (.type "type") = true) (hs : PySem.W.specialIn X.K (.ref B) "__getattribute__" = some (some (.builtin "type.__getattribute__")))
    (vV : PySem.W.findCls X.K (.ref B) (.type "type") "__init__" = some (.val (.builtin "ValueError.__init__"))) (ha : PA X (e :: es) ta) (hdb : (x == ("__debug__" : Str)) = false := by decide)
    (hc : eval (.Call (.Attribute (.Name x p1) "__init__" p2) (e :: es) [] pos) X.env = (do
      let ov ← eval (.Name x p1) X.env
      standAt p2.atName
      let (f, first) ← holding [ov] (getMethod ov "__init__" pl)
      callWith pos f first (backTo pos (starEach (e :: es) X.env)) (backToKw pos (keywordEach [] X.env))) := by rfl)
    (he : starEach (e :: es) X.env = (false, eval e X.env) :: starEach es X.env := by rfl) (hpl : (backTo pos (starEach es X.env)).any (·.1) = false := by rfl) :
    PE X (.Call (.Attribute (.Name x p1) "__init__" p2) (e :: es) [] pos) (tQinit ta X.K) := by
  refine ⟨fun pins s σ H Q I h => ?_⟩
  refine PySem.W.methodCall_KW (ld_glob I hg hm ?_ hdb) hc
  refine PySem.W.method_cls I.kIn hs ?_
  refine PySem.W.cls_value I.kIn hr vV (by decide +kernel) ?_
  show wpAny _ _ (callWith pos (Value.builtin "ValueError.__init__") [] (backTo pos (starEach (e :: es) X.env)) []) _ _ _
  refine PyProof.Rows.callWith_method1 (thn (ha.run pos pins _ σ H _ (I.tok _) h) fun us s1 ⟨vs, H1, I1, r1, a, C, t0, ws, ev, hl, T, ea, q⟩ => ?_) he hpl
  subst ev
  cases r1 with
  | @cons _ u0 _ ur ra rw' =>
    obtain rfl : u0 = Value.ref a := ra
    have hlen : ur.length ≤ sizeLine := by
      rw [← Paired.length rw', sizeLine_eq]
      omega
    exact qinit_ok T I1 ea rw' hlen fun t1 s' n ne J => ⟨.non, _, J, rfl, q t1 n ne⟩
/-- self.f = e -/
def tQst (K : PySem.W.Frag) (f : Str) (to te : TE) : TS := fun D σ H => te σ H fun y H1 => to σ H1 fun x H2 => ∃ a C t0 : Addr, x = .ref a ∧ OexC K C ∧ PySem.W.findIn K (.ref C) f = some none ∧
  ((H2 a = some (exq a C none t0) ∧ ∀ dx, H2 dx = none → dx ≠ a → D.nx σ (upd (upd H2 dx (exd dx [(f, y)])) a (exq a C (some dx) t0))) ∨
    ∃ (dx : Addr) (fs : List (Str × V)), H2 a = some (exq a C (some dx) t0) ∧ H2 dx = some (exd dx fs) ∧ fs.length ≤ 900 ∧ D.nx σ (upd H2 dx (exd dx ((f, y) :: fs))))
theorem ps_qst (ho : PE X o to) (he : PE X e te) (hs : swapsWith e (some (.Attribute o f p')) pos.line X.env = pure false := by rfl) : PS X (.Assign [.Attribute o f p'] e pos) (tQst X.K f to te) := by
  refine ⟨fun pins s σ H D I h => ?_⟩
  refine plainObj_wpAny_Assign_Attribute (thn (he.run pins s σ H _ I h) fun v s1 ⟨y, H1, I1, r1, q1⟩ => thn (ho.run pins s1 σ H1 _ I1 q1) fun u s2 ⟨x, H2, I2, r2, a, C, t0, ex, T, hno, q⟩ => ?_) hs
  subst ex
  obtain rfl : u = Value.ref a := r2
  rcases q with ⟨ea, q⟩ | ⟨dx, fs, ea, ed, hl, q⟩
  · exact qst_new T I2 ea hno r1 fun dx s' n ne J => ⟨σ, _, J, q dx n ne⟩
  · exact qst_old T I2 ea ed hl hno r1 fun s' J => ⟨σ, _, J, q⟩
/-- e.f of an exception that has its dict -/
def tQfld (K : PySem.W.Frag) (f : Str) (te : TE) : TE := fun σ H Q => te σ H fun x H1 => ∃ (a C d t0 : Addr) (fs : List (Str × V)) (v : V), x = .ref a ∧ ExQ K C ∧ PySem.W.findIn K (.ref C) f = some none ∧ H1 a = some (exq a C (some d) t0) ∧ H1 d = some (exd d fs) ∧ fs.lookup f = some v ∧ Q v H1
theorem pe_qfld (he : PE X e te) (hb : attributeBase e n X.env (eval e X.env) = eval e X.env := by rfl) : PE X (.Attribute e n pos) (tQfld X.K n te) := by
  refine ⟨fun pins s σ H Q I h => ?_⟩
  refine attr_of hb (thn (he.run pins s σ H _ I h) fun u s1 hh => ?_)
  obtain ⟨x, H1, I1, rx, a, C, d, t0, fs, v, ex, T, hno, ea, ed, l, q⟩ := hh
  subst ex
  obtain rfl : u = Value.ref a := rx
  have ha := exq_at I1.hok ea
  obtain ⟨mA, hns, hr⟩ := exd_at I1.hok ed
  obtain ⟨od, ho, hl⟩ := lookIn_ns hns
  obtain ⟨u, hu, ru⟩ := RelO.some_of (v := v) (o := mA n) (by rw [← l]; exact hr n)
  have J : PySem.W.InstAt s1.heap a { cls := .ref C, dict := some d, data := .fields #[.ref t0, .none, .none, .none, .bool false, .none] } C (some od) := ⟨ha, rfl, rfl, ho⟩
  exact HandSPX.exc_get I1.kIn J T.ga T.gg T.oex.exC (PySem.W.findObj_own T.hd hno rfl (by rw [hl, hu])) (handed_of ru) ⟨v, H1, I1.tok _, ru, q⟩
/-- isinstance(e, c), e an exception that stands in H -/
def rIsQ (K : PySem.W.Frag) : List V → Hp → VK → Prop := fun xs H Q => ∃ (a C t0 : Addr) (d : Option Addr) (c : V) (cv : Value) (b : Bool), xs = [.ref a, c] ∧ ExQ K C ∧ H a = some (exq a C d t0) ∧ (∀ dd, d = some dd → ∃ fs, H dd = some (exd dd fs)) ∧
  (∀ u, RelV c u → u = cv) ∧ PySem.W.kitOne K (.ref C) cv = some b ∧ Q (.bl b) H
theorem call_isQ : CallR X (.builtin "isinstance") (rIsQ X.K) := by
  intro pins s σ H xs us Q I r h
  obtain ⟨a, C, t0, d, c, cv, b, rfl, T, ea, ed, hcv, e, q⟩ := h
  cases r with
  | cons rx rr =>
    cases rr with
    | cons rt rr =>
      cases rr
      cases rx
      have ec := hcv _ rt
      subst ec
      have ha := exq_at I.hok ea
      have hcl : (PySem.W.clsIn X.K C).isSome = true := by
        obtain ⟨nm, q, N, bs, bm, sn, sub, ab, col, dd, k0, k1, k2, k3, k5, hC, hbm⟩ := T.oex.cls
        unfold PySem.W.clsIn
        rw [hC] <;> rfl
      cases d with
      | none =>
        have J : PySem.W.InstAt s.heap a { cls := .ref C, dict := none, data := .fields #[.ref t0, .none, .none, .none, .bool false, .none] } C none := ⟨ha, rfl, rfl, trivial⟩
        exact PySem.W.kia_one (PySem.W.kitx_exc hcl T.ga T.gg T.oex.exC T.cl T.cn T.ct T.cm) I.kIn J e (fun z => nomatch z) fun tk => ⟨.bl b, H, I.kept (t' := tk) fun _ _ z => z, rfl, q⟩
      | some dd =>
        obtain ⟨fs, ed⟩ := ed dd rfl
        obtain ⟨mA, hns, hr⟩ := exd_at I.hok ed
        obtain ⟨od, ho, hl⟩ := lookIn_ns hns
        have J : PySem.W.InstAt s.heap a { cls := .ref C, dict := some dd, data := .fields #[.ref t0, .none, .none, .none, .bool false, .none] } C (some od) := ⟨ha, rfl, rfl, ho⟩
        exact PySem.W.kia_one (PySem.W.kitx_exc hcl T.ga T.gg T.oex.exC T.cl T.cn T.ct T.cm) I.kIn J e (fun z => nomatch z) fun tk => ⟨.bl b, H, I.kept (t' := tk) fun _ _ z => z, rfl, q⟩
/-- C(e, ..), C's own __init__ keeping sp -/
def tMkQ (C : Addr) (sp : Sp) (ta : TA) : TE := fun σ H Q => ta σ H fun vs H1 => vs.length ≤ 1000 ∧ ∀ a t0, H1 a = none → sp (.ref a :: vs) (upd H1 a (exq a C none t0)) (fun v H2 => v = .non ∧ Q (.ref a) H2) E0
theorem pe_mkq {x : Str} {C fI : Addr} {k : Nat} {fd : FuncData} {ps : List Str} {sp : Sp} (T : OexC X.K C) (iC : PySem.W.findIn X.K (.ref C) "__init__" = some (some (.ref fI))) (tI : PySem.W.typeIn X.K (.ref fI) = some (.type "function"))
    (F1 : FnOk X.prog X.w X.K X.mg X.base CX0 k fI fd ps sp) (hr : Room (k + 1) X.A) (hb : Binds X.K fd ps []) (hg : Gl X x) (hm : X.mg x = some (.ref C)) (ha : PA X (e :: es) ta)
    (hdb : (x == ("__debug__" : Str)) = false := by decide) (he : starEach (e :: es) X.env = (false, eval e X.env) :: starEach es X.env := by rfl) (hpl : (backTo pos (starEach es X.env)).any (·.1) = false := by rfl) :
    PE X (.Call (.Name x p) (e :: es) [] pos) (tMkQ C sp ta) := by
  refine ⟨fun pins s σ H Q I h => ?_⟩
  obtain ⟨nm, q, N, bs, bm, sn, sub, ab, col, dd, k0, k1, k2, k3, k5, hC, hbm⟩ := T.cls
  refine wpAny_Call_Name_kw (ld_glob I hg hm ?_ hdb)
  refine PySem.W.callWith_K (h₀ := X.base) I.ok.mod.kin T.kC (thn (ha.run pos pins s σ H _ I h) fun us s1 ⟨vs, H1, I1, r1, hz, q1⟩ => ⟨I1.kIn, ?_⟩) he hpl
  show wpAny _ _ (call (.ref C) us) _ _ _
  obtain ⟨hp, g, dr, tk, os⟩ := s1
  have hsz : hp.objs.size ≤ hp.objs.size + 1 := Nat.le_succ _
  have hn : H1 (hp.objs.size + 1) = none := I1.hok.fresh hsz
  have hq := q1 (hp.objs.size + 1) hp.objs.size hn
  have kk : ∀ b o, hp.get? b = some o → ((hp.push (PySem.W.kdv_tup us)).push (PySem.HandSPX.excO C hp.objs.size)).get? b = some o := fun b o e => Heap.get?_push_of_some _ (Heap.get?_push_of_some _ e)
  have hget : ((hp.push (PySem.W.kdv_tup us)).push (PySem.HandSPX.excO C hp.objs.size)).get? (hp.objs.size + 1) = some (PySem.HandSPX.excO C hp.objs.size) := by heap_get
  have I2 : Inv X pins σ (upd H1 (hp.objs.size + 1) (exq (hp.objs.size + 1) C none hp.objs.size)) ⟨(hp.push (PySem.W.kdv_tup us)).push (PySem.HandSPX.excO C hp.objs.size), g, dr, tk, os⟩ :=
    I1.laid (t' := tk) (a := hp.objs.size + 1) (o := exq (hp.objs.size + 1) C none hp.objs.size) (h' := (hp.push (PySem.W.kdv_tup us)).push (PySem.HandSPX.excO C hp.objs.size)) kk hsz (exq_ok hget)
  have r2 : Vals (V.ref (hp.objs.size + 1) :: vs) (Value.ref (hp.objs.size + 1) :: us) := .cons rfl r1
  have hl : (Value.ref (hp.objs.size + 1) :: us).length = ps.length := by
    have e := r2.length
    rw [F1.len _ _ _ _ hq] at e
    exact e.symm
  have hus : us.length ≤ sizeLine := by
    rw [← Paired.length r1, sizeLine_eq]
    omega
  have hb2 := hb ⟨(hp.push (PySem.W.kdv_tup us)).push (PySem.HandSPX.excO C hp.objs.size), g, dr, tk, os⟩ (Value.ref (hp.objs.size + 1) :: us) I2.kIn (by rw [List.append_nil]; exact hl)
  rw [List.append_nil] at hb2
  refine wpAny_call (PySem.HandSPX.call_own F.excBase_ValueError (fun Y => PySem.HandSPX.refsVE_contains Y bm hbm) (I1.kIn _ _ hC) (PySem.W.looks_findIn I1.kIn iC) (fun self => PySem.W.bind_fn I1.kIn self tI) hus
    (codeAny_mono (F1.run _ X.stack _ _ ⟨Value.ref (hp.objs.size + 1) :: us, []⟩ (Value.ref (hp.objs.size + 1) :: us) _ _ E0 (hr.make C us []) (I2.env0.make C us []) hb2 r2 hq) fun r s' hq' => ?_))
  cases r with
  | error er => exact False.elim hq'
  | ok fl =>
    cases fl with
    | ret u =>
      obtain ⟨v, H', I3, rv, ev, q3⟩ := I2.after hq'
      subst ev
      exact ⟨rv, ⟨V.ref (hp.objs.size + 1), H', I3, rfl, q3⟩⟩
    | next => exact False.elim hq'
    | brk => exact False.elim hq'
    | cont => exact False.elim hq'
/-- C(), C without an __init__ of its own -/
def tMkQ0 (C : Addr) : TE := fun _ H Q => ∀ a t0, H a = none → Q (.ref a) (upd H a (exq a C none t0))
theorem pe_mkq0 {x : Str} {C : Addr} {bmB : List Value} {B newId initId : String} (F : ExcBaseFacts B newId initId bmB) (q : PySem.W.excIn X.K C bmB newId = true) (kC : PySem.W.keepIn X.K (.ref C) = true) (hg : Gl X x) (hm : X.mg x = some (.ref C))
    (hdb : (x == ("__debug__" : Str)) = false := by decide) : PE X (.Call (.Name x p) [] [] pos) (tMkQ0 C) := by
  refine ⟨fun pins s σ H Q I h => ?_⟩
  refine wpAny_Call_Name_kw (ld_glob I hg hm ?_ hdb)
  refine PySem.W.callWith_K0 I.kIn kC ?_
  show wpAny _ _ (call (.ref C) []) _ _ _
  obtain ⟨bm, N, nm, qn, bs, hdct, sn, sub, ab, col, dd, k0, k1, k2, k3, k5, mN, hC, hN, hni, T⟩ := exc_obj I.kIn q
  refine wpAny_call_exc_subT F T hC hN hni (fun h' a hm => ?_) (by show 0 ≤ sizeLine; exact Nat.zero_le _)
  have hn : H a = none := I.hok.gone hm.new
  obtain ⟨t, ht, _, _⟩ := hm.there
  exact ⟨.ref a, upd H a (exq a C none t), I.laidN hm.keeps hm.new hn (exq_ok ht), rfl, h a t hn⟩
end
end Gy

namespace PySem
namespace GyRX
open PySem.W PySem.Calls PyProof.Rows Builtin Builtin.Str Builtin.BaseException Builtin.Exceptions
/-- what an exception class of the program must say, so that its instances show themselves as BaseException does -/
structure ShowC (K : Frag) (C : Addr) (hd : Str) : Prop where
  nm : ∃ cd, clsIn K C = some cd ∧ Str.ofString ((cd.name.toString.cutAt '.').getLastD "") = hd
  rp : findIn K (.ref C) "__repr__" = some (some (.builtin "BaseException.__repr__"))
  ex : subIn K (.ref C) (.type "BaseException") = some true
section
variable {prog : Program} {w : World} {A : Around} {E : Value → Shared → Prop} {s : Shared} {K : Frag} {x C t0 : Addr} {ox : Obj} {od : Option Obj} {hd : Str}
theorem whole_name {M : Model} {Q : String → Shared → Prop} (T : ShowC K C hd) (X : K.In s.heap) (I : InstAt s.heap x ox C od) (hq : ∀ n, Str.ofString ((n.cutAt '.').getLastD "") = hd → Q n s) : wpAny M A (typeNameOfWhole (.ref x)) Q E s := by
  obtain ⟨cd, hcd, he⟩ := T.nm
  unfold typeNameOfWhole shownTypeOf
  refine wpAny_bind (wpAny_bind (I.type.here ?_))
  have e : (Value.ref C == Value.type "builtin_function_or_method") = false := rfl
  simp only [e, Bool.false_eq_true, if_false]
  refine wpAny_pure ?_
  show wpAny M A (do return (← classData C).name.toString) Q E s
  exact wpAny_bind ((looks_clsIn X hcd).here (wpAny_pure (hq _ he)))
theorem repr_at (b : Nat) (T : ShowC K C hd) (X : K.In s.heap) (I : InstAt s.heap x ox C od) {vs : Array Value} (hdat : ox.data = .fields vs) (h0 : vs[0]? = some (.ref t0)) {i : Int} {tk : Tok} (ht : s.heap.TupAt t0 [.int i tk]) (hi : i.natAbs.log2 < 1920) {Q : Fin → Shared → Prop}
    (hq : ∀ u tk', Q (.done (.ret (.str (hd ++ "(" ++ toString i ++ ")") u))) { s with toks := tk' }) (hsz : b + (hd ++ "(" ++ (toString i : Str) ++ ")").length ≤ sizeLine) :
    wpAny (model prog w) A (Builtin.bexcReprAt b ⟨[.ref x], []⟩) Q E s := by
  have e1 : b + (hd.length + 1 + (toString i : Str).length + 1) ≤ sizeLine := by
    have e1 := hsz
    rw [strLen_append, strLen_append, strLen_append] at e1
    have eP : (Str.ofString "(").length = 1 := by rw [ofString_length]; rfl
    have eP2 : (Str.ofString ")").length = 1 := by rw [ofString_length]; rfl
    rw [eP, eP2] at e1
    exact e1
  unfold Builtin.bexcReprAt
  refine wpAny_bind (wpAny_of_eq (a := ((Value.ref x : Value), ([] : List Value))) (by first | rfl | (simp only [slotArgs]; rfl)) ?_)
  refine wpAny_bind (whole_name T X I fun n hn => ?_)
  obtain ⟨ot, k, hto, _, htd⟩ := id ht
  refine wpAny_bind (m := bexcArgs (.ref x)) ?_
  unfold bexcArgs
  refine wpAny_bind (wpAny_field I.1 hdat h0 (wpAny_bind (wpAny_seqItems hto htd (wpAny_pure ?_))))
  simp only [hn]
  refine wpAny_bind (wpAny_rule (wpAny_bind (ReprIs.int tk hi _ (by omega) _ _ _ _ fun tk2 => ?_)))
  have hz : (hd ++ "(" ++ (toString i : Str) ++ ")").length ≤ sizeLine := Nat.le_trans (Nat.le_add_left _ _) hsz
  exact wpAny_bind (wpAny_mkStr (wpAny_pure (hq _ _)) hz)
theorem ifBound {last : Value → List Value → Sem Value} {Q : Option Value → Shared → Prop} (T : ShowC K C hd) (X : K.In s.heap) (I : InstAt s.heap x ox C od)
    (hc : wpAny (model prog w) A (last (.builtin "BaseException.__repr__") [.ref x]) (fun v => Q (some v)) E s) : wpAny (model prog w) A (callSpecialIfBoundBy? last (.ref x) "__repr__") Q E s := by
  simp only [callSpecialIfBoundBy?, bindSpecialIfBound?]
  refine wpAny_holding (wpAny_bind (wpAny_bind (wpAny_bind (I.type.here ((looks_findIn X T.rp).here ?_)))))
  simp only [F.excStr_ValueError.repr.bind]
  refine wpAny_bind (wpAny_askSetting (wpAny_ite ?_))
  have fin : wpAny (model prog w) A (last (.builtin "BaseException.__repr__") [.ref x] >>= fun v => pure (some v)) Q E s :=
    wpAny_bind (wpAny_mono hc (fun v s' h' => wpAny_pure h') fun _ _ h' => h')
  split
  · exact wpAny_bind (wpAny_pure (wpAny_pure fin))
  · exact wpAny_tryCatch (wpAny_bind (wpAny_pure (wpAny_pure fin)))
theorem special {Q : Option Value → Shared → Prop} (T : ShowC K C hd) (X : K.In s.heap) (I : InstAt s.heap x ox C od) (h : Q (some (.builtin "BaseException.__repr__")) s) : wpAny (model prog w) A (specialOf (.ref x) "__repr__") Q E s := by
  unfold specialOf
  exact wpAny_bind (I.type.here ((looks_findIn X T.rp).here h))
theorem check (T : ShowC K C hd) (X : K.In s.heap) (I : InstAt s.heap x ox C od) {Q : Unit → Shared → Prop} (q : Q () s) : wpAny (model prog w) A (checkBuiltinCall "BaseException.__repr__" ⟨[.ref x], []⟩) Q E s :=
  @PySem.W.check_slot (model prog w) _ _ s "BaseException.__repr__" "BaseException" "__repr__" (.ref x) [] [] _ (by decide +kernel) (by decide +kernel) (I.type.andThen (looks_subIn X T.ex)) (F.args_bexc_repr (.ref x)) q
/-- repr(e) -/
theorem call_repr (T : ShowC K C hd) (X : K.In s.heap) (I : InstAt s.heap x ox C od) {vs : Array Value} (hdat : ox.data = .fields vs) (h0 : vs[0]? = some (.ref t0)) {i : Int} {tk : Tok} (ht : s.heap.TupAt t0 [.int i tk]) (hi : i.natAbs.log2 < 1920) (hu : A.units + 1 < cLine) {Q : Value → Shared → Prop}
    (hq : ∀ u tk', Q (.str (hd ++ "(" ++ toString i ++ ")") u) { s with toks := tk' }) (hsz : (hd ++ "(" ++ (toString i : Str) ++ ")").length ≤ sizeLine) :
    wpAny (model prog w) A (call (.builtin "repr") [.ref x]) Q E s := by
  refine Calls.call_function_entry F.kind_repr F.plain_repr F.entry_repr (F.args_repr1 _) ?_
  unfold Builtin.«repr»
  refine wpAny_bind (m := oneArg "repr" _) (wpAny_pure ?_)
  refine wpAny_bind (wpAny_cRoomFor (show A.in1.units < cLine from hu) ?_)
  refine wpAny_bind (special T X I ?_)
  refine wpAny_bind (m := callSpecialIfBound? (.ref x) (Str.ofString "__repr__")) ?_
  refine ifBound (last := fun g first => call g (first ++ [])) T X I ?_
  refine wpAny_call (codeAny_call_builtin F.excStr_ValueError.repr.plain F.entry_bexc_repr (check T X I ?_))
  show wpAny _ _ (Builtin.bexcReprAt 0 ⟨[.ref x], []⟩) _ _ _
  refine repr_at 0 T X I hdat h0 ht hi (fun u tk' => ?_) (by rw [Nat.zero_add]; exact hsz)
  refine wpAny_bind (wpAny_isInstance (T := "str") (b := true) rfl isSubtype_str_str ?_)
  exact wpAny_pure ⟨_, rfl, hq u tk'⟩
/-- .. within a list -/
theorem reprK (T : ShowC K C hd) {h₀ : Heap} (X : K.In h₀) (I : InstAt h₀ x ox C od) {vs : Array Value} (hdat : ox.data = .fields vs) (h0 : vs[0]? = some (.ref t0)) {i : Int} {tk : Tok} (ht : h₀.TupAt t0 [.int i tk]) (hi : i.natAbs.log2 < 1920) :
    ReprK prog w [] h₀ 1 (.ref x) (hd ++ "(" ++ toString i ++ ")") := by
  intro base hb A g E s Q hg hcl hu hk0 hQ
  have X' := X.keeps hk0
  have I' : InstAt s.heap x ox C od := ⟨hk0 _ _ I.at_, I.cls, I.no, by
    have z := I.dict
    revert z
    cases ox.dict with
    | none => cases od <;> exact id
    | some dd =>
      cases od with
      | none => exact id
      | some oo => exact fun z => hk0 _ _ z⟩
  have ht' : s.heap.TupAt t0 [.int i tk] := by
    obtain ⟨ot, k, a, b, c⟩ := ht
    exact ⟨ot, k, hk0 _ _ a, b, c⟩
  refine wpAny_pyReprUnder_ref (by omega) ?_
  unfold pyReprObjUnder pyReprObjBy
  refine wpAny_bind (wpAny_cRoomFor (by omega) ?_)
  refine wpAny_bind (special T X' I' ?_)
  refine wpAny_bind (ifBound T X' I' ?_)
  show wpAny _ _ (call (.builtin "BaseException.__repr__.under") [.ref x, rawInt base]) _ _ _
  refine wpAny_call (codeAny_call_builtin F.plain_bexc_repr_under F.entry_bexc_repr_under ?_)
  rw [F.check_bexc_repr_under]
  refine wpAny_pure ?_
  show wpAny _ _ (reprTwin "BaseException.__repr__" Builtin.bexcReprAt ⟨[.ref x, rawInt base], []⟩) _ _ _
  rw [reprTwin_eq]
  refine wpAny_bind (check T X' I' ?_)
  refine repr_at base T X' I' hdat h0 ht' hi (fun u tk' => ?_) hb
  refine wpAny_bind (wpAny_isInstance (T := "str") (b := true) rfl isSubtype_str_str (wpAny_pure ?_))
  exact ⟨_, _, rfl, hQ s.heap tk' fun _ _ e => e⟩
end
end GyRX
end PySem

namespace Gy
open PySem L2 PySem.Spec PyProof.Rows
open PySem.GyRX (ShowC)
/-- data, as it is shown: what flat things, lists, tuples, dicts with text keys and exceptions of one int are -/
inductive D where
  | non | bl (b : Bool) | int (i : Int) | str (x : Str) | lst (ds : List D) | tup (ds : List D) | dic (ks : List Str) (ds : List D) | exc (hd : Str) (i : Int)
mutual
def D.shown : D → Str
  | .non => "None"
  | .bl b => if b then ("True" : Str) else ("False" : Str)
  | .int i => (toString i : Str)
  | .str x => reprText x
  | .lst ds => listText (D.shownAll ds)
  | .tup ds => tupleText (D.shownAll ds)
  | .dic ks ds => dictText (List.zipWith (fun k v : Str => k ++ ": " ++ v) (ks.map reprText) (D.shownAll ds))
  | .exc hd i => hd ++ "(" ++ (toString i : Str) ++ ")"
def D.shownAll : List D → List Str
  | [] => []
  | d :: ds => D.shown d :: D.shownAll ds
end
mutual
def D.depth : D → Nat
  | .non => 0 | .bl _ => 0 | .int _ => 0 | .str _ => 0
  | .lst ds => D.depthAll ds + 1
  | .tup ds => D.depthAll ds + 1
  | .dic _ ds => D.depthAll ds + 1
  | .exc _ _ => 1
def D.depthAll : List D → Nat
  | [] => 0
  | d :: ds => max (D.depth d) (D.depthAll ds)
end
mutual
def D.ok : D → Bool
  | .non => true | .bl _ => true | .str _ => true
  | .int i => decide (i.natAbs.log2 < 1920)
  | .lst ds => D.okAll ds
  | .tup ds => D.okAll ds
  | .dic ks ds => (ks.length == ds.length) && D.okAll ds
  | .exc _ i => decide (i.natAbs.log2 < 1920)
def D.okAll : List D → Bool
  | [] => true
  | d :: ds => D.ok d && D.okAll ds
end
mutual
inductive Rp (K : PySem.W.Frag) (H : Hp) : V → D → Prop
  | non : Rp K H .non .non
  | bl (b : Bool) : Rp K H (.bl b) (.bl b)
  | int (i : Int) : Rp K H (.int i) (.int i)
  | str (x : Str) : Rp K H (.str x) (.str x)
  | lst {a : Addr} {xs : List V} {ds : List D} : H a = some (.lst xs) → RpAll K H xs ds → Rp K H (.ref a) (.lst ds)
  | tup {a : Addr} {xs : List V} {ds : List D} : H a = some (.tup xs) → RpAll K H xs ds → Rp K H (.ref a) (.tup ds)
  | dic {a : Addr} {ks : List Str} {xs : List V} {ds : List D} : H a = some (.dK (List.zipWith (fun k v => (Sum.inr k, v)) ks xs)) → ks.length = xs.length → RpAll K H xs ds → Rp K H (.ref a) (.dic ks ds)
  | exc {a C t0 : Addr} {d : Option Addr} {hd : Str} {i : Int} : H a = some (exq a C d t0) → (∀ dd, d = some dd → ∃ fs, H dd = some (exd dd fs)) → H t0 = some (.tup [.int i]) → ShowC K C hd → PySem.W.mroIn K C (.type "object") = some true →
      PySem.W.findIn K (.ref C) "__eq__" = some (some (.builtin "object.__eq__")) → Rp K H (.ref a) (.exc hd i)
inductive RpAll (K : PySem.W.Frag) (H : Hp) : List V → List D → Prop
  | nil : RpAll K H [] []
  | cons {v : V} {vs : List V} {d : D} {ds : List D} : Rp K H v d → RpAll K H vs ds → RpAll K H (v :: vs) (d :: ds)
end
theorem RpAll.len {K : PySem.W.Frag} {H : Hp} : ∀ {xs : List V} {ds : List D}, RpAll K H xs ds → xs.length = ds.length
  | _, _, .nil => rfl
  | _, _, .cons _ h => by simp [h.len]
/-! ### an address stands for one datum alone -/
theorem exq_inj {a C C' t t' : Addr} {d d' : Option Addr} {H : Hp} {P : Program} {w : World} {h : Heap} (hok : HOk P w H h) (e : H a = some (exq a C d t)) (e' : H a = some (exq a C' d' t')) : C = C' ∧ d = d' ∧ t = t' := by
  have q := (exq_at hok e).symm.trans (exq_at hok e')
  injection q with q
  injection q with q1 q2 q3 q4
  injection q1 with q1
  injection q3 with q3
  have q5 : ([Value.ref t, Value.none, Value.none, Value.none, Value.bool false, Value.none] : List Value) = [Value.ref t', Value.none, Value.none, Value.none, Value.bool false, Value.none] := congrArg Array.toList q3
  injection q5 with q6 _
  injection q6 with q6
  exact ⟨q1, q2, q6⟩
theorem zip_keys {ks ls : List Str} {xs ys : List V} (h1 : ks.length = xs.length) (h2 : ls.length = ys.length) (e : List.zipWith (fun k v => ((Sum.inr k : Key), v)) ks xs = List.zipWith (fun k v => (Sum.inr k, v)) ls ys) : ks = ls ∧ xs = ys := by
  induction ks generalizing ls xs ys with
  | nil =>
    cases xs with
    | nil =>
      cases ls with
      | nil => cases ys with
        | nil => exact ⟨rfl, rfl⟩
        | cons _ _ => simp at h2
      | cons _ _ => cases ys with
        | nil => simp at h2
        | cons _ _ => simp at e
    | cons _ _ => simp at h1
  | cons k ks ih =>
    cases xs with
    | nil => simp at h1
    | cons x xs =>
      cases ls with
      | nil => simp at e
      | cons l ls =>
        cases ys with
        | nil => simp at h2
        | cons y ys =>
          simp only [List.zipWith_cons_cons, List.cons.injEq, Prod.mk.injEq, Sum.inr.injEq] at e
          obtain ⟨⟨e1, e2⟩, e3⟩ := e
          obtain ⟨h3, h4⟩ := ih (by simpa using h1) (by simpa using h2) e3
          exact ⟨by rw [e1, h3], by rw [e2, h4]⟩
section
variable {K : PySem.W.Frag} {H : Hp} {P : Program} {w : World} {h : Heap} (hok : HOk P w H h)
include hok
mutual
theorem Rp.fn : ∀ {v : V} {d d' : D}, Rp K H v d → Rp K H v d' → d = d'
  | _, _, _, .non, q => by cases q; rfl
  | _, _, _, .bl b, q => by cases q; rfl
  | _, _, _, .int i, q => by cases q; rfl
  | _, _, _, .str x, q => by cases q; rfl
  | _, _, _, .lst e r, q => by
    cases q with
    | lst e' r' =>
      rw [e] at e'
      cases e'
      rw [RpAll.fn r r']
    | tup e' _ => rw [e] at e'; cases e'
    | dic e' _ _ => rw [e] at e'; cases e'
    | exc e' _ _ _ _ _ => rw [e] at e'; exact absurd (Option.some.inj e').symm exq_lst
  | _, _, _, .tup e r, q => by
    cases q with
    | lst e' r' => rw [e] at e'; cases e'
    | tup e' r' =>
      rw [e] at e'
      cases e'
      rw [RpAll.fn r r']
    | dic e' _ _ => rw [e] at e'; cases e'
    | exc e' _ _ _ _ _ => rw [e] at e'; exact absurd (Option.some.inj e').symm exq_tup
  | _, _, _, .dic e l r, q => by
    cases q with
    | lst e' r' => rw [e] at e'; cases e'
    | tup e' r' => rw [e] at e'; cases e'
    | dic e' l' r' =>
      rw [e] at e'
      injection e' with e'
      injection e' with e'
      obtain ⟨h1, h2⟩ := zip_keys l l' e'
      subst h1
      subst h2
      rw [RpAll.fn r r']
    | exc e' _ _ _ _ _ => rw [e] at e'; exact absurd (Option.some.inj e').symm exq_dK
  | _, _, _, .exc e _ e2 s _ _, q => by
    cases q with
    | lst e' r' => rw [e] at e'; exact absurd (Option.some.inj e') exq_lst
    | tup e' r' => rw [e] at e'; exact absurd (Option.some.inj e') exq_tup
    | dic e' _ _ => rw [e] at e'; exact absurd (Option.some.inj e') exq_dK
    | exc e' _ e2' s' _ _ =>
      obtain ⟨h1, _, h3⟩ := exq_inj hok e e'
      subst h1
      subst h3
      rw [e2] at e2'
      cases e2'
      obtain ⟨cd, h4, h5⟩ := s.nm
      obtain ⟨cd', h4', h5'⟩ := s'.nm
      rw [h4] at h4'
      cases h4'
      rw [← h5, ← h5']
theorem RpAll.fn : ∀ {vs : List V} {ds ds' : List D}, RpAll K H vs ds → RpAll K H vs ds' → ds = ds'
  | _, _, _, .nil, q => by cases q; rfl
  | _, _, _, .cons r rs, q => by
    cases q with
    | cons r' rs' => rw [Rp.fn r r', RpAll.fn rs rs']
end
end
end Gy

namespace Gy
open PySem L2 PySem.Spec PyProof.Rows
open PySem.GyRX (ShowC)
theorem zip_len : ∀ {ks vs : List Str}, ks.length = vs.length → (∀ k ∈ ks, ∃ p ∈ List.zipWith (fun k v : Str => k ++ ": " ++ v) ks vs, k.length ≤ p.length) ∧ (∀ v ∈ vs, ∃ p ∈ List.zipWith (fun k v : Str => k ++ ": " ++ v) ks vs, v.length ≤ p.length)
  | [], [], _ => ⟨(fun _ h => nomatch h), fun _ h => nomatch h⟩
  | [], _ :: _, h => by simp at h
  | _ :: _, [], h => by simp at h
  | k :: ks, v :: vs, h => by
    obtain ⟨h1, h2⟩ := zip_len (ks := ks) (vs := vs) (by simpa using h)
    refine ⟨fun z hz => ?_, fun z hz => ?_⟩
    · rcases List.mem_cons.mp hz with e | hz
      · exact ⟨_, List.mem_cons_self, by rw [e, strLen_append, strLen_append]; omega⟩
      · obtain ⟨p, hp, q⟩ := h1 z hz
        exact ⟨p, List.mem_cons_of_mem _ hp, q⟩
    · rcases List.mem_cons.mp hz with e | hz
      · exact ⟨_, List.mem_cons_self, by rw [e, strLen_append]; omega⟩
      · obtain ⟨p, hp, q⟩ := h2 z hz
        exact ⟨p, List.mem_cons_of_mem _ hp, q⟩
theorem shownAll_len : ∀ ds : List D, (D.shownAll ds).length = ds.length
  | [] => rfl
  | _ :: ds => by simp [D.shownAll, shownAll_len ds]
/-- the addresses that a datum hangs on -/
def AtMost (K : PySem.W.Frag) (H : Hp) (n : Nat) (bs : List Addr) : Prop := ∀ b ∈ bs, ∃ d, Rp K H (.ref b) d ∧ d.depth ≤ n
theorem AtMost.not {K : PySem.W.Frag} {H : Hp} {P : Program} {w : World} {h : Heap} (hok : HOk P w H h) {a : Addr} {d : D} {n : Nat} {bs : List Addr} (r : Rp K H (.ref a) d) (hd : n < d.depth) (hb : AtMost K H n bs) : a ∉ bs := fun hm => by
  obtain ⟨d', r', hn⟩ := hb a hm
  have e := Rp.fn hok r r'
  rw [e] at hd
  omega
theorem AtMost.mono {K : PySem.W.Frag} {H : Hp} {n m : Nat} {bs : List Addr} (h : AtMost K H n bs) (hn : n ≤ m) : AtMost K H m bs := fun b hb =>
  let ⟨d, r, e⟩ := h b hb
  ⟨d, r, Nat.le_trans e hn⟩
theorem AtMost.append {K : PySem.W.Frag} {H : Hp} {n : Nat} {bs cs : List Addr} (h1 : AtMost K H n bs) (h2 : AtMost K H n cs) : AtMost K H n (bs ++ cs) := fun b hb =>
  (List.mem_append.mp hb).elim (h1 b) (h2 b)
theorem AtMost.cons {K : PySem.W.Frag} {H : Hp} {a : Addr} {d : D} {n : Nat} {bs : List Addr} (r : Rp K H (.ref a) d) (hn : n ≤ d.depth) (hb : AtMost K H n bs) : AtMost K H d.depth (a :: bs) := fun b hm => by
  rcases List.mem_cons.mp hm with e | hm
  · rw [e]
    exact ⟨d, r, Nat.le_refl _⟩
  · exact hb.mono hn b hm
theorem keys_repr {P : Program} {w : World} {bs : List Addr} {h : Heap} {n : Nat} : ∀ {ks : List Str} {xs : List V} {kvs : List (Key × Value)} {es : List DictEntry}, KV (List.zipWith (fun k v => ((Sum.inr k : Key), v)) ks xs) kvs → Pairs (mixKind P w) es kvs → ks.length = xs.length →
    (∀ k ∈ ks, (reprText k).length ≤ sizeLine) → ReprAllK P w bs h n (es.map (·.key)) (ks.map reprText) ∧ Vals xs (es.map (·.val))
  | [], [], _, _, r, q, _, _ => by
    cases r
    cases q
    exact ⟨.nil, .nil⟩
  | [], _ :: _, _, _, _, _, h, _ => by simp at h
  | _ :: _, [], _, _, _, _, h, _ => by simp at h
  | k :: ks, x :: xs, _, _, r, q, hl, hz => by
    cases r with
    | cons r1 r2 =>
      cases q with
      | cons q1 q2 q3 =>
        obtain ⟨e1, e2⟩ := r1
        obtain ⟨h1, h2⟩ := keys_repr (bs := bs) (h := h) (n := n) (ks := ks) (xs := xs) r2 q3 (by simpa using hl) fun k hk => hz k (List.mem_cons_of_mem _ hk)
        rename_i kv kvs e es
        have q1' : keyIs kv.1 e.key = true := q1
        rw [← e1] at q1'
        rcases keyIs_shape q1' with ⟨i, t, z1, _⟩ | ⟨y, t, z1, z2⟩
        · cases z1
        · injection z1 with z1
          subst z1
          refine ⟨?_, .cons (by show L2.RelV x e.val; rw [q2]; exact e2) h2⟩
          refine .cons ?_ h1
          show ReprK P w bs h n e.key (reprText k)
          rw [z2]
          exact .of_is (ReprIs.str _ t (hz _ List.mem_cons_self)) _ _ _
section
variable {X : Cx} {pins : List (Addr × Obj)} {σ : L2.St} {H : Hp} {s : Shared}
theorem exc_inst {a C t0 : Addr} {d : Option Addr} (I : Inv X pins σ H s) (e : H a = some (exq a C d t0)) (e2 : ∀ dd, d = some dd → ∃ fs, H dd = some (exd dd fs)) :
    ∃ od, PySem.W.InstAt s.heap a { cls := .ref C, dict := d, data := .fields #[.ref t0, .none, .none, .none, .bool false, .none] } C od := by
  have ha := exq_at I.hok e
  cases d with
  | none => exact ⟨none, ha, rfl, rfl, trivial⟩
  | some dd =>
    obtain ⟨fs, ed⟩ := e2 dd rfl
    obtain ⟨mA, hns, hr⟩ := exd_at I.hok ed
    obtain ⟨od, ho, hl⟩ := lookIn_ns hns
    exact ⟨some od, ha, rfl, rfl, ho⟩
theorem int_tup {t0 : Addr} {i : Int} (I : Inv X pins σ H s) (e : H t0 = some (.tup [.int i])) : ∃ tk, s.heap.TupAt t0 [.int i tk] := by
  obtain ⟨_, its, r, o, h1, h2, n, h3⟩ := (show ObjOk X.prog X.w H s.heap t0 (.tup [.int i]) from I.hok t0 _ e)
  cases r with
  | cons r1 r2 =>
    cases r2
    obtain ⟨t, rfl⟩ := r1
    exact ⟨t, o, n, h1, h2, h3⟩
mutual
theorem Rp.reprK (I : Inv X pins σ H s) : ∀ {v : V} {d : D} {u : Value}, Rp X.K H v d → RelV v u → d.ok = true → d.shown.length ≤ sizeLine → ∃ bs, AtMost X.K H d.depth bs ∧ ReprK X.prog X.w bs s.heap d.depth u d.shown
  | _, _, _, .non, r, _, _ => by
    cases r
    exact ⟨[], (fun _ h => nomatch h), by simp only [D.shown]; exact .of_is ReprIs.none _ _ _⟩
  | _, _, _, .bl b, r, _, _ => by
    cases r
    exact ⟨[], (fun _ h => nomatch h), by simp only [D.shown]; exact .of_is (ReprIs.bool b) _ _ _⟩
  | _, _, _, .int i, r, ho, _ => by
    obtain ⟨t, rfl⟩ := r
    exact ⟨[], (fun _ h => nomatch h), by simp only [D.shown]; exact .of_is (ReprIs.int t (by simpa [D.ok] using ho)) _ _ _⟩
  | _, _, _, .str x, r, _, hz => by
    obtain ⟨t, rfl⟩ := r
    exact ⟨[], (fun _ h => nomatch h), by simp only [D.shown]; exact .of_is (ReprIs.str x t (by simpa only [D.shown] using hz)) _ _ _⟩
  | _, _, _, .lst (a := a) (xs := xs) (ds := ds) e ha, r, ho, hz => by
    cases r
    have hz' : (listText (D.shownAll ds)).length ≤ sizeLine := by simpa only [D.shown] using hz
    obtain ⟨_, its, n, rv, hg⟩ := (show ObjOk X.prog X.w H s.heap a (.lst xs) from I.hok a _ e)
    obtain ⟨bs, hb, hk⟩ := RpAll.reprK I ha rv (by simpa [D.ok] using ho) (fun t ht => Nat.le_trans (listText_mem_le ht) hz')
    have R : Rp X.K H (.ref a) (.lst ds) := .lst e ha
    have hna : a ∉ bs := AtMost.not I.hok R (by simp only [D.depth]; omega) hb
    refine ⟨a :: bs, AtMost.cons R (by simp only [D.depth]; omega) hb, ?_⟩
    simp only [D.depth, D.shown]
    cases its with
    | nil =>
      cases rv
      cases ha
      simp only [D.shownAll, listText_nil]
      exact ReprK.listEmpty hg rfl rfl
    | cons x l => exact ReprK.list hg rfl rfl hna (by simpa using hk.length_eq) (fun i y e => hk.item i y (by simpa using e))
  | _, _, _, .tup (a := a) (xs := xs) (ds := ds) e ha, r, ho, hz => by
    cases r
    have hz' : (tupleText (D.shownAll ds)).length ≤ sizeLine := by simpa only [D.shown] using hz
    obtain ⟨_, its, rv, o, hg, hc, n, hd⟩ := (show ObjOk X.prog X.w H s.heap a (.tup xs) from I.hok a _ e)
    obtain ⟨bs, hb, hk⟩ := RpAll.reprK I ha rv (by simpa [D.ok] using ho) (fun t ht => Nat.le_trans (tupleText_mem_le ht) hz')
    have R : Rp X.K H (.ref a) (.tup ds) := .tup e ha
    have hna : a ∉ bs := AtMost.not I.hok R (by simp only [D.depth]; omega) hb
    refine ⟨a :: bs, AtMost.cons R (by simp only [D.depth]; omega) hb, ?_⟩
    simp only [D.depth, D.shown]
    exact ReprK.tuple hg hc hd hna hk
  | _, _, _, .dic (a := a) (ks := ks) (xs := xs) (ds := ds) e hl ha, r, ho, hz => by
    cases r
    have hz' : (dictText (List.zipWith (fun k v : Str => k ++ ": " ++ v) (ks.map reprText) (D.shownAll ds))).length ≤ sizeLine := by simpa only [D.shown] using hz
    obtain ⟨_, ya, va, ra, o, es, ep, hg, hx, hdat, _, hp, _⟩ := (show ObjOk X.prog X.w H s.heap a (.dK (List.zipWith (fun k v => (Sum.inr k, v)) ks xs)) from I.hok a _ e)
    have hlen : (ks.map reprText).length = (D.shownAll ds).length := by rw [List.length_map, shownAll_len, hl]; exact ha.len
    obtain ⟨z1, z2⟩ := zip_len hlen
    have ho' : D.okAll ds = true := by
      simp only [D.ok, Bool.and_eq_true] at ho
      exact ho.2
    obtain ⟨k1, rv⟩ := keys_repr (P := X.prog) (w := X.w) (bs := ([] : List Addr)) (h := s.heap) (n := D.depthAll ds) ra hp hl (fun k hk => by
      obtain ⟨p, hp, hq⟩ := z1 (reprText k) (List.mem_map_of_mem hk)
      exact Nat.le_trans hq (Nat.le_trans (dictText_mem_le hp) hz'))
    obtain ⟨bs, hb, k2⟩ := RpAll.reprK I ha rv ho' (fun t ht => by
      obtain ⟨p, hp, hq⟩ := z2 t ht
      exact Nat.le_trans hq (Nat.le_trans (dictText_mem_le hp) hz'))
    have R : Rp X.K H (.ref a) (.dic ks ds) := .dic e hl ha
    have hna : a ∉ bs := AtMost.not I.hok R (by simp only [D.depth]; omega) hb
    refine ⟨a :: bs, AtMost.cons R (by simp only [D.depth]; omega) hb, ?_⟩
    simp only [D.depth, D.shown]
    exact ReprK.dict hg hx.1 hdat ya hna (ReprEntriesK.of_two es.toList _ _ (k1.more_le (fun b hb => absurd hb List.not_mem_nil) (Nat.le_refl _)) k2)
  | _, _, _, .exc (a := a) e e2 e3 T _ _, r, ho, hz => by
    cases r
    obtain ⟨od, J⟩ := exc_inst I e e2
    obtain ⟨tk, ht⟩ := int_tup I e3
    exact ⟨[], (fun _ h => nomatch h), by simp only [D.depth, D.shown]; exact PySem.GyRX.reprK T I.kIn J rfl rfl ht (by simpa [D.ok] using ho)⟩
theorem RpAll.reprK (I : Inv X pins σ H s) : ∀ {vs : List V} {ds : List D} {us : List Value}, RpAll X.K H vs ds → Vals vs us → D.okAll ds = true → (∀ t ∈ D.shownAll ds, t.length ≤ sizeLine) → ∃ bs, AtMost X.K H (D.depthAll ds) bs ∧ ReprAllK X.prog X.w bs s.heap (D.depthAll ds) us (D.shownAll ds)
  | _, _, _, .nil, r, _, _ => by
    cases r
    exact ⟨[], (fun _ h => nomatch h), by simp only [D.shownAll]; exact .nil⟩
  | _, _, _, .cons (d := d) (ds := ds) h hs, r, ho, hz => by
    cases r with
    | cons r1 r2 =>
      have ho' : d.ok = true ∧ D.okAll ds = true := by simpa [D.okAll] using ho
      obtain ⟨b1, hb1, k1⟩ := Rp.reprK I h r1 ho'.1 (hz _ (by simp only [D.shownAll]; exact List.mem_cons_self ..))
      obtain ⟨b2, hb2, k2⟩ := RpAll.reprK I hs r2 ho'.2 (fun t ht => hz t (by simp only [D.shownAll]; exact List.mem_cons_of_mem _ ht))
      refine ⟨b1 ++ b2, ?_, ?_⟩
      · simp only [D.depthAll]
        exact (hb1.mono (Nat.le_max_left _ _)).append (hb2.mono (Nat.le_max_right _ _))
      · simp only [D.depthAll, D.shownAll]
        exact .cons ((k1.more fun b hb => List.mem_append_left _ hb).level_le (Nat.le_max_left _ _)) (k2.more_le (fun b hb => List.mem_append_right _ hb) (Nat.le_max_right _ _))
end
end
end Gy

namespace Gy
open PySem L2 PySem.Spec PyProof.Rows
open PySem.GyRX (ShowC)
section
variable {X : Cx}
/-- repr(x) of data that may be shown -/
def rRepr (K : PySem.W.Frag) : List V → Hp → VK → Prop := fun xs H Q => ∃ x d, xs = [x] ∧ Rp K H x d ∧ d.ok = true ∧ d.shown.length ≤ sizeLine ∧ d.depth ≤ 40 ∧ Q (.str d.shown) H
theorem call_reprD (hg : X.A.guards = some []) (hu : X.A.units + 64 < cLine) : CallR X (.builtin "repr") (rRepr X.K) := by
  intro pins s σ H xs us Q I r h
  obtain ⟨x, d, rfl, hr, ho, hz, hd, q⟩ := h
  obtain ⟨u, rfl, ru⟩ := vals1 r
  have fin : ∀ h' u tk, (∀ b o, s.heap.get? b = some o → h'.get? b = some o) → EP X pins σ Q (.str d.shown u) { s with heap := h', toks := tk } := fun h' u tk hk => ⟨.str d.shown, H, I.kept (t' := tk) hk, ⟨u, rfl⟩, q⟩
  have hg1 : X.A.in1.guards = some [] := hg
  cases hr with
  | non =>
    cases ru
    exact PySem.P.repr_of_none (fin s.heap _ _ fun _ _ e => e)
  | bl b =>
    cases ru
    exact PySem.P.repr_of_bool (fin s.heap _ _ fun _ _ e => e)
  | int i =>
    obtain ⟨t, rfl⟩ := ru
    exact PySem.P.repr_of_int (by simpa [D.ok] using ho) (fin s.heap _ _ fun _ _ e => e)
  | str x =>
    obtain ⟨t, rfl⟩ := ru
    exact PySem.P.repr_of_str (fin s.heap _ _ fun _ _ e => e) (by simpa only [D.shown] using hz)
  | @lst a xs ds e ha =>
    cases ru
    have hz' : (listText (D.shownAll ds)).length ≤ sizeLine := by simpa only [D.shown] using hz
    obtain ⟨_, its, n, rv, hgt⟩ := (show ObjOk X.prog X.w H s.heap a (.lst xs) from I.hok a _ e)
    obtain ⟨bs, hb, hk⟩ := RpAll.reprK I ha rv (by simpa [D.ok] using ho) (fun t ht => Nat.le_trans (listText_mem_le ht) hz')
    have R : Rp X.K H (.ref a) (.lst ds) := .lst e ha
    have hna : a ∉ bs := AtMost.not I.hok R (by simp only [D.depth]; omega) hb
    simp only [D.depth] at hd
    refine call_repr_slot (by omega) ⟨_, hgt, rfl⟩ F.slot_list_repr.toG ?_
    simp only [D.shown] at fin
    cases its with
    | nil =>
      cases rv
      cases ha
      simp only [D.shownAll, listText_nil] at fin
      exact call_list_repr_empty ⟨_, hgt, rfl⟩ hgt rfl ⟨_, _, rfl, fin s.heap _ _ fun _ _ e => e⟩
    | cons x l => exact call_list_reprK hgt rfl rfl hna (by simpa using hk.length_eq) (fun i y e => hk.item i y (by simpa using e)) hg1 (fun b _ => Clear.nil b) (by show X.A.units + 1 + _ < cLine; omega) (fun _ _ e => e) (fun h' u tk hk' => ⟨_, _, rfl, fin h' u tk hk'⟩) hz'
  | @tup a xs ds e ha =>
    cases ru
    have hz' : (tupleText (D.shownAll ds)).length ≤ sizeLine := by simpa only [D.shown] using hz
    obtain ⟨_, its, rv, o, hgt, hc, n, hdat⟩ := (show ObjOk X.prog X.w H s.heap a (.tup xs) from I.hok a _ e)
    obtain ⟨bs, hb, hk⟩ := RpAll.reprK I ha rv (by simpa [D.ok] using ho) (fun t ht => Nat.le_trans (tupleText_mem_le ht) hz')
    have R : Rp X.K H (.ref a) (.tup ds) := .tup e ha
    have hna : a ∉ bs := AtMost.not I.hok R (by simp only [D.depth]; omega) hb
    simp only [D.depth] at hd
    refine call_repr_slot (by omega) ⟨_, hgt, hc⟩ F.slot_tuple_repr ?_
    simp only [D.shown] at fin
    exact call_tuple_reprK hgt hc hdat hna hk hg1 (fun b _ => Clear.nil b) (by show X.A.units + 1 + _ < cLine; omega) (fun _ _ e => e) (fun h' u tk hk' => ⟨_, _, rfl, fin h' u tk hk'⟩) hz'
  | @dic a ks xs ds e hl ha =>
    cases ru
    have hz' : (dictText (List.zipWith (fun k v : Str => k ++ ": " ++ v) (ks.map reprText) (D.shownAll ds))).length ≤ sizeLine := by simpa only [D.shown] using hz
    obtain ⟨_, ya, va, ra, o, es, ep, hgt, hx, hdat, _, hp, _⟩ := (show ObjOk X.prog X.w H s.heap a (.dK (List.zipWith (fun k v => (Sum.inr k, v)) ks xs)) from I.hok a _ e)
    have hlen : (ks.map reprText).length = (D.shownAll ds).length := by rw [List.length_map, shownAll_len, hl]; exact ha.len
    obtain ⟨z1, z2⟩ := zip_len hlen
    have ho' : D.okAll ds = true := by
      simp only [D.ok, Bool.and_eq_true] at ho
      exact ho.2
    obtain ⟨k1, rv⟩ := keys_repr (P := X.prog) (w := X.w) (bs := ([] : List Addr)) (h := s.heap) (n := D.depthAll ds) ra hp hl (fun k hk => by
      obtain ⟨p, hp, hq⟩ := z1 (reprText k) (List.mem_map_of_mem hk)
      exact Nat.le_trans hq (Nat.le_trans (dictText_mem_le hp) hz'))
    obtain ⟨bs, hb, k2⟩ := RpAll.reprK I ha rv ho' (fun t ht => by
      obtain ⟨p, hp, hq⟩ := z2 t ht
      exact Nat.le_trans hq (Nat.le_trans (dictText_mem_le hp) hz'))
    have R : Rp X.K H (.ref a) (.dic ks ds) := .dic e hl ha
    have hna : a ∉ bs := AtMost.not I.hok R (by simp only [D.depth]; omega) hb
    simp only [D.depth] at hd
    refine call_repr_slot (by omega) ⟨_, hgt, hx.1⟩ F.slot_dict_repr ?_
    simp only [D.shown] at fin
    exact call_dict_reprK hgt hx.1 hdat ya hna (ReprEntriesK.of_two es.toList _ _ (k1.more_le (fun b hb => absurd hb List.not_mem_nil) (Nat.le_refl _)) k2) hg1 (fun b _ => Clear.nil b) (by show X.A.units + 1 + _ < cLine; omega) (fun _ _ e => e) (fun h' u tk hk' => ⟨_, _, rfl, fin h' u tk hk'⟩) hz'
  | @exc a C t0 d hd' i e e2 e3 T _ _ =>
    cases ru
    obtain ⟨od, J⟩ := exc_inst I e e2
    obtain ⟨tk, ht⟩ := int_tup I e3
    simp only [D.shown] at fin hz
    exact PySem.GyRX.call_repr T I.kIn J rfl rfl ht (by simpa [D.ok] using ho) (by omega) (fun u tk' => fin s.heap u tk' fun _ _ e => e) hz
end
/-! ### == of a thing and itself, of two lists of the same things -/
theorem rc_exc {A : Around} {prog : Program} {w : World} {E : Value → Shared → Prop} {s : Shared} {K : PySem.W.Frag} {x C : Addr} {ox : Obj} {od : Option Obj} {Q : Value → Shared → Prop} (hu : A.units < cLine) (X : K.In s.heap) (I : PySem.W.InstAt s.heap x ox C od)
    (hm : PySem.W.mroIn K C (.type "object") = some true) (hs : PySem.W.findIn K (.ref C) "__eq__" = some (some (.builtin "object.__eq__"))) (hq : Q (.bool true) s) : wpAny (model prog w) A (richCompare .Eq (.ref x) (.ref x)) Q E s := by
  have one : wpAny (model prog w) A (tryCompare (.ref x) "__eq__" (.ref x)) (fun r s' => r = some (.bool true) ∧ s' = s) E s := by
    unfold tryCompare
    refine wpAny_bind (HN.ifBound_objEq X I hs ?_)
    refine wpAny_call (codeAny_call_builtin F.cmp_object.eq.plain F.cmpEntry_eq (PySem.W.check_slot F.cmpKind_eq F.cmpSplit_eq (I.type.andThen (PySem.W.looks_mroIn X hm)) (F.cmpArgs_eq _ _) (objEq_entry_same ?_)))
    exact wpAny_pure ⟨rfl, rfl⟩
  simp only [richCompare, cmpInfo_Eq, oneThing_ref]
  refine wpAny_holding (wpAny_bind (wpAny_cRoomFor hu ?_))
  refine wpAny_bind (I.type.here (wpAny_bind (I.type.here ?_)))
  have e : (Value.ref C != Value.ref C) = false := by simp
  simp only [e, Bool.false_eq_true, if_false]
  refine wpAny_bind (wpAny_pure ?_)
  simp only [Bool.not_false, if_true]
  refine wpAny_bind (m := tryCompare (.ref x) _ (.ref x)) (wpAny_mono one (fun r s1 z => ?_) fun _ _ e => e)
  obtain ⟨z1, z2⟩ := z
  subst z1
  subst z2
  exact wpAny_pure hq
end Gy

namespace Gy
open PySem L2 PySem.Spec PyProof.Rows
open PySem.GyRX (ShowC)
theorem rp_same {K : PySem.W.Frag} {H : Hp} {v : V} {d : D} (r : Rp K H v d) : EqV K H 1 v v := by
  cases r with
  | non => exact .inl ⟨rfl, rfl⟩
  | bl b => exact .inl ⟨rfl, rfl⟩
  | int i => exact .inl ⟨rfl, rfl⟩
  | str x => exact .inl ⟨rfl, rfl⟩
  | lst e _ => exact .inr (.inl ⟨_, rfl, rfl⟩)
  | tup e _ => exact .inr (.inl ⟨_, rfl, rfl⟩)
  | dic e _ _ => exact .inr (.inl ⟨_, rfl, rfl⟩)
  | exc e _ _ _ _ _ => exact .inr (.inl ⟨_, rfl, rfl⟩)
theorem rpAll_same {K : PySem.W.Frag} {H : Hp} : ∀ {vs : List V} {ds : List D}, RpAll K H vs ds → Paired (EqV K H 1) vs vs
  | _, _, .nil => .nil
  | _, _, .cons r rs => .cons (rp_same r) (rpAll_same rs)
theorem val_self : ∀ {ks : List (Key × V)}, (ks.map (·.1)).Nodup → ∀ p ∈ ks, valV ks p.1 = some p.2
  | [], _, p, h => absurd h List.not_mem_nil
  | q :: ks, nd, p, h => by
    rw [List.map_cons, List.nodup_cons] at nd
    rcases List.mem_cons.mp h with e | h
    · subst e
      simp [valV]
    · have hne : q.1 ≠ p.1 := fun e => nd.1 (e ▸ List.mem_map_of_mem h)
      have := val_self nd.2 p h
      simp only [valV] at this ⊢
      rw [List.find?_cons]
      simp [hne, this]
theorem kv_keys {ks : List (Key × V)} {vs : List (Key × Value)} (r : KV ks vs) : ks.map (·.1) = vs.map (·.1) := by
  unfold KV at r
  induction r with
  | nil => rfl
  | cons h _ ih => rw [List.map_cons, List.map_cons, h.1, ih]
section
variable {X : Cx}
def rEqA (K : PySem.W.Frag) : R2 := fun x y H Q => ((x = y ∧ ∃ d, Rp K H x d) ∨ ∃ a b xs ds, x = .ref a ∧ y = .ref b ∧ H a = some (.lst xs) ∧ H b = some (.lst xs) ∧ RpAll K H xs ds) ∧ Q (.bl true) H
theorem op_eqA (hu : X.A.units + 64 < cLine) : OpR X (compareOp .Eq) (rEqA X.K) := by
  intro pins s σ H x y v u Q I rx ry h
  obtain ⟨h, q⟩ := h
  have fin : EP X pins σ Q (.bool true) s := ⟨.bl true, H, I, rfl, q⟩
  rcases h with ⟨rfl, d, r⟩ | ⟨a, b, xs, ds, rfl, rfl, ha, hb, r⟩
  · cases r with
    | non => exact op_eq pins s σ H _ _ v u Q I rx ry ⟨rfl, by simpa using q⟩
    | bl b => exact op_eq pins s σ H _ _ v u Q I rx ry ⟨rfl, by simpa using q⟩
    | int i => exact op_eq pins s σ H _ _ v u Q I rx ry ⟨rfl, by simpa using q⟩
    | str z => exact op_eq pins s σ H _ _ v u Q I rx ry ⟨rfl, by simpa using q⟩
    | @lst a xs ds e ha => exact op_eqV hu pins s σ H _ _ v u Q I rx ry ⟨1, by decide, .inl ⟨a, a, xs, xs, rfl, rfl, SqL.of e, SqL.of e, rpAll_same ha⟩, q⟩
    | @tup a xs ds e ha =>
      cases rx
      cases ry
      obtain ⟨_, its, rv, o, hg, hc, n, hd⟩ := (show ObjOk X.prog X.w H s.heap a (.tup xs) from I.hok a _ e)
      refine SeqAt.rcIn_tuples (e := fun _ => true) (items := its.toArray) (items2 := its.toArray) ⟨o, hg, hc, n, hd⟩ ⟨o, hg, hc, n, hd⟩ (by omega) (fun j h1 h2 => (SeqAt.EqAt.same _).inModel _ _) ?_
      have e1 : ((List.range (min its.toArray.size its.toArray.size)).all fun _ => true) = true := List.all_eq_true.mpr fun _ _ => rfl
      rw [e1]
      simpa using fin
    | @dic a ks xs ds e hl ha =>
      obtain ⟨_, _, va, ra, o, es, ep, _, _, _, _, _, nd⟩ := (show ObjOk X.prog X.w H s.heap a (.dK (List.zipWith (fun k v => (Sum.inr k, v)) ks xs)) from I.hok a _ e)
      have nd' : ((List.zipWith (fun k v => ((Sum.inr k : Key), v)) ks xs).map (·.1)).Nodup := by rw [kv_keys ra]; exact nd
      refine op_eqV hu pins s σ H _ _ v u Q I rx ry ⟨1, by decide, .inr ⟨a, a, _, _, rfl, rfl, e, e, rfl, fun p hp => ⟨p.2, val_self nd' p hp, ?_⟩⟩, q⟩
      have mem : ∀ {ks : List Str} {xs : List V} {ds : List D}, RpAll X.K H xs ds → ∀ p ∈ List.zipWith (fun k v => ((Sum.inr k : Key), v)) ks xs, ∃ d, Rp X.K H p.2 d := by
        intro ks xs ds r
        induction xs generalizing ks ds with
        | nil => intro p hp; cases ks <;> simp at hp
        | cons x xs ih =>
          cases r with
          | cons r1 r2 =>
            intro p hp
            cases ks with
            | nil => simp at hp
            | cons k ks =>
              rw [List.zipWith_cons_cons] at hp
              rcases List.mem_cons.mp hp with e | hp
              · rw [e]
                exact ⟨_, r1⟩
              · exact ih r2 p hp
      obtain ⟨d, rd⟩ := mem ha p hp
      exact rp_same rd
    | @exc a C t0 d hd' i e e2 e3 T hm he =>
      cases rx
      cases ry
      obtain ⟨od, J⟩ := exc_inst I e e2
      exact rc_exc (by omega) I.kIn J hm he fin
  · exact op_eqV hu pins s σ H _ _ v u Q I rx ry ⟨1, by decide, .inl ⟨a, b, xs, xs, rfl, rfl, SqL.of ha, SqL.of hb, rpAll_same r⟩, q⟩
end
end Gy
namespace Gy
open PySem L2 PySem.Spec PyProof.Rows
abbrev sAlike : Stmt := top 28
/-- what is compared: a thing with itself, or two lists of the same things; it may be shown -/
def Alike (K : PySem.W.Frag) (H : Hp) (x y : V) : Prop := ∃ d, Rp K H x d ∧ Rp K H y d ∧ d.ok = true ∧ d.shown.length ≤ sizeLine ∧ d.depth ≤ 40 ∧ (x = y ∨ ∃ a b xs ds, x = .ref a ∧ y = .ref b ∧ H a = some (.lst xs) ∧ H b = some (.lst xs) ∧ RpAll K H xs ds)
def spAlike (K : PySem.W.Frag) : Sp := fun vs H Q _ => ∃ x y, vs = [x, y] ∧ Alike K H x y ∧ Q (.bl true) H
def NoGuard (A : Around) : Prop := A.guards = some []
section
variable {P : Program} {w : World} {K : PySem.W.Frag} {mg : Str → Option Value} {base : Heap}
theorem scAlike : FnScope ["_law_found", "_law_due"] ["_law_found", "_law_due"] (defScope sAlike) := ⟨rfl, rfl, rfl, by decide +kernel, rfl, by decide +kernel, by decide +kernel⟩
theorem ok_alike {f : Addr} {fd : FuncData} (F : Fun K "_law_alike" "_law_alike" sAlike f fd) (zR : mg "repr" = none) : FnG NoGuard P w K mg base 1 f fd ["_law_found", "_law_due"] (spAlike K) := by
  refine fn_ofG (c := false) F scAlike (fun A _ z => Bool.noConfusion z) (fun vs H Q E h => ?_) (fun cdv A outer s H vs Q E hG hr h => ?_)
  · obtain ⟨x, y, rfl, _⟩ := h
    rfl
  · obtain ⟨x, y, rfl, ⟨d, rx, ry, ho, hz, hd, hxy⟩, q⟩ := h
    have hg : (A.deeper (envOfC "_law_alike" (defScope sAlike) s.heap.objs.size f cdv)).guards = some [] := by
      have e : A.guards = some [] := hG
      show (A.deeper _).guards = _
      simpa [Around.deeper] using e
    have hu : (A.deeper (envOfC "_law_alike" (defScope sAlike) s.heap.objs.size f cdv)).units + 64 < cLine := by
      have := hr.un
      omega
    refine ⟨_, pss_one (ps_ret (pe_and (pe_cmpR (op_eqA hu) (pv 0) (pv 1) (nomark _)) (pe_one (pe_cmpR op_eq (pe_callB (call_reprD hg hu) (by rfl) zR (by decide +kernel) (pa_cons (pv 0) pa_nil)) (pe_callB (call_reprD hg hu) (by rfl) zR (by decide +kernel) (pa_cons (pv 1) pa_nil)) (nomark _))))), ?_⟩
    refine ⟨_, rfl, _, rfl, ⟨?_, _, rfl, iteT ⟨_, rfl, x, d, rfl, rx, ho, hz, hd, _, rfl, y, d, rfl, ry, ho, hz, hd, rfl, ?_⟩⟩⟩
    · rcases hxy with e | h
      · exact .inl ⟨e, d, rx⟩
      · exact .inr h
    · show Q (.bl (decide (V.str d.shown = V.str d.shown))) H
      rw [decide_eq_true rfl]
      exact q
end
end Gy

namespace Gy
open PySem L2 PySem.Spec PyProof.Rows
open PySem.GyRX (ShowC)
theorem PE.imp {X : Cx} {e : Expr} {t t' : TE} (h : PE X e t) (k : ∀ σ H Q, t' σ H Q → t σ H Q) : PE X e t' := ⟨fun pins s σ H Q I q => h.run pins s σ H Q I (k _ _ _ q)⟩
theorem PS.imp {X : Cx} {e : Stmt} {t t' : TS} (h : PS X e t) (k : ∀ D σ H, t' D σ H → t D σ H) : PS X e t' := ⟨fun pins s σ H D I q => h.run pins s σ H D I (k _ _ _ q)⟩
/-- an exception of the class at C with the fields fs, made of the values vs -/
def Err (H : Hp) (a C : Addr) (fs : List (Str × V)) (vs : List V) : Prop := ∃ d t, H a = some (exq a C (some d) t) ∧ H d = some (exd d fs) ∧ H t = some (.tup vs)
theorem Err.same {H H' : Hp} {a C : Addr} {fs : List (Str × V)} {vs : List V} (h : Err H a C fs vs) (s : Same H H') : Err H' a C fs vs :=
  let ⟨d, t, h1, h2, h3⟩ := h
  ⟨d, t, s _ _ h1, s _ _ h2, s _ _ h3⟩
/-- .. with a dict that wasn't there in H0 -/
def ErrN (H0 H : Hp) (a C : Addr) (fs : List (Str × V)) (vs : List V) : Prop := ∃ d t, H0 d = none ∧ H0 t = none ∧ H a = some (exq a C (some d) t) ∧ H d = some (exd d fs) ∧ H t = some (.tup vs)
theorem ErrN.err {H0 H : Hp} {a C : Addr} {fs : List (Str × V)} {vs : List V} (h : ErrN H0 H a C fs vs) : Err H a C fs vs :=
  let ⟨d, t, _, _, h1, h2, h3⟩ := h
  ⟨d, t, h1, h2, h3⟩
theorem ErrN.of {H0 H : Hp} {a b C : Addr} {o : HO} {fs : List (Str × V)} {vs : List V} (h : ErrN (upd H0 b o) H a C fs vs) : ErrN H0 H a C fs vs :=
  let ⟨d, t, h0, h0', h1, h2, h3⟩ := h
  have un : ∀ {d : Addr}, upd H0 b o d = none → H0 d = none := fun {d} h0 => by
    by_cases e : d = b
    · rw [e, upd_same] at h0
      cases h0
    · rw [upd_ne e] at h0
      exact h0
  ⟨d, t, un h0, un h0', h1, h2, h3⟩
/-- an exception class of the program whose __init__ stores one thing, or two -/
structure ErrC (K : PySem.W.Frag) (mg : Str → Option Value) (G : Addr) : Prop where
  gG : mg "GoneError" = some (.ref G)
  rG : PySem.W.readsIn K G (.type "type") = true
  sG : PySem.W.specialIn K (.ref G) "__getattribute__" = some (some (.builtin "type.__getattribute__"))
  iG : PySem.W.findCls K (.ref G) (.type "type") "__init__" = some (.val (.builtin "ValueError.__init__"))
def spIni1 (K : PySem.W.Frag) (C : Addr) (f : Str) : Sp := fun vs H Q _ => ∃ (a t0 : Addr) (v : V), vs = [.ref a, v] ∧ H a = some (exq a C none t0) ∧ ∀ H' : Hp, (∀ b o, b ≠ a → H b = some o → H' b = some o) → ErrN H H' a C [(f, v)] [v] → Q .non H'
def spIni2 (K : PySem.W.Frag) (C : Addr) (f g : Str) : Sp := fun vs H Q _ => ∃ (a t0 : Addr) (v u : V), vs = [.ref a, v, u] ∧ H a = some (exq a C none t0) ∧ ∀ H' : Hp, (∀ b o, b ≠ a → H b = some o → H' b = some o) → ErrN H H' a C [(g, u), (f, v)] [v, u] → Q .non H'
abbrev sIni (i : Nat) : Stmt := inClass (top i) 0
section
variable {P : Program} {w : World} {K : PySem.W.Frag} {mg : Str → Option Value} {base : Heap}
theorem ini1_read {H : Hp} {a t0 C : Addr} {v : V} {f : Str} {Q : VK} (h : H a = some (exq a C none t0)) (k : ∀ H' : Hp, (∀ b o, b ≠ a → H b = some o → H' b = some o) → ErrN H H' a C [(f, v)] [v] → Q .non H')
    {t1 dx : Addr} (n1 : H t1 = none) (e1 : t1 ≠ a) (n2 : upd (upd H t1 (.tup [v])) a (exq a C none t1) dx = none) (e2 : dx ≠ a) :
    Q .non (upd (upd (upd (upd H t1 (.tup [v])) a (exq a C none t1)) dx (exd dx [(f, v)])) a (exq a C (some dx) t1)) := by
  have e3 : dx ≠ t1 := fun e => by
    rw [e, upd_ne e1, upd_same] at n2
    cases n2
  have n3 : H dx = none := by
    rw [upd_ne e2, upd_ne e3] at n2
    exact n2
  refine k _ (fun b o hb e => ?_) ⟨dx, t1, n3, n1, upd_same, by rw [upd_ne e2, upd_same], by rw [upd_ne e1, upd_ne (Ne.symm e3), upd_ne e1, upd_same]⟩
  rw [upd_ne hb]
  have q : upd (upd H t1 (.tup [v])) a (exq a C none t1) b = some o := by rw [upd_ne hb, upd_ne (ne_of_none e n1)]; exact e
  rw [upd_ne (ne_of_none q n2)]
  exact q
theorem ok_ini_BadDeed {f C G : Addr} {fd : FuncData} (F : Fun K "__init__" "BadDeed.__init__" (sIni 2) f fd) (T : ErrC K mg G) (E0 : OexC K C) (nF : PySem.W.findIn K (.ref C) "index" = some none) : FnOk P w K mg base CX0 1 f fd ["self", "index"] (spIni1 K C "index") := by
  have sc : FnScope ["self", "index"] ["self", "index"] (defScope (sIni 2)) := ⟨rfl, rfl, rfl, by decide +kernel, rfl, by decide +kernel, by decide +kernel⟩
  refine F.ok sc (fun vs H Q E h => ?_) (fun cdv A outer s H vs Q E hr h => ?_)
  · obtain ⟨a, t0, v, rfl, _⟩ := h
    rfl
  · obtain ⟨a, t0, v, rfl, h, k⟩ := h
    refine ⟨_, pss_cons (ps_expr (pe_qinit rfl T.gG T.rG T.sG T.iG (pa_cons (pv 0) (pa_cons (pv 1) pa_nil)))) (pss_one (ps_qst (pv 0) (pv 1))), ?_⟩
    refine ⟨_, rfl, _, rfl, a, C, t0, [v], rfl, (by decide : 1 ≤ 1000), E0, h, fun t1 n1 e1 => ?_⟩
    refine ⟨_, rfl, _, rfl, a, C, t1, rfl, E0, nF, .inl ⟨upd_same, fun dx n2 e2 => ini1_read h k n1 e1 n2 e2⟩⟩

theorem ok_ini_NoGround {f C G : Addr} {fd : FuncData} (F : Fun K "__init__" "NoGround.__init__" (sIni 7) f fd) (T : ErrC K mg G) (E0 : OexC K C) (nF : PySem.W.findIn K (.ref C) "index" = some none) : FnOk P w K mg base CX0 1 f fd ["self", "index"] (spIni1 K C "index") := by
  have sc : FnScope ["self", "index"] ["self", "index"] (defScope (sIni 7)) := ⟨rfl, rfl, rfl, by decide +kernel, rfl, by decide +kernel, by decide +kernel⟩
  refine F.ok sc (fun vs H Q E h => ?_) (fun cdv A outer s H vs Q E hr h => ?_)
  · obtain ⟨a, t0, v, rfl, _⟩ := h
    rfl
  · obtain ⟨a, t0, v, rfl, h, k⟩ := h
    refine ⟨_, pss_cons (ps_expr (pe_qinit rfl T.gG T.rG T.sG T.iG (pa_cons (pv 0) (pa_cons (pv 1) pa_nil)))) (pss_one (ps_qst (pv 0) (pv 1))), ?_⟩
    refine ⟨_, rfl, _, rfl, a, C, t0, [v], rfl, (by decide : 1 ≤ 1000), E0, h, fun t1 n1 e1 => ?_⟩
    refine ⟨_, rfl, _, rfl, a, C, t1, rfl, E0, nF, .inl ⟨upd_same, fun dx n2 e2 => ini1_read h k n1 e1 n2 e2⟩⟩

theorem ok_ini_NoIndex {f C G : Addr} {fd : FuncData} (F : Fun K "__init__" "NoIndex.__init__" (sIni 8) f fd) (T : ErrC K mg G) (E0 : OexC K C) (nF : PySem.W.findIn K (.ref C) "index" = some none) : FnOk P w K mg base CX0 1 f fd ["self", "index"] (spIni1 K C "index") := by
  have sc : FnScope ["self", "index"] ["self", "index"] (defScope (sIni 8)) := ⟨rfl, rfl, rfl, by decide +kernel, rfl, by decide +kernel, by decide +kernel⟩
  refine F.ok sc (fun vs H Q E h => ?_) (fun cdv A outer s H vs Q E hr h => ?_)
  · obtain ⟨a, t0, v, rfl, _⟩ := h
    rfl
  · obtain ⟨a, t0, v, rfl, h, k⟩ := h
    refine ⟨_, pss_cons (ps_expr (pe_qinit rfl T.gG T.rG T.sG T.iG (pa_cons (pv 0) (pa_cons (pv 1) pa_nil)))) (pss_one (ps_qst (pv 0) (pv 1))), ?_⟩
    refine ⟨_, rfl, _, rfl, a, C, t0, [v], rfl, (by decide : 1 ≤ 1000), E0, h, fun t1 n1 e1 => ?_⟩
    refine ⟨_, rfl, _, rfl, a, C, t1, rfl, E0, nF, .inl ⟨upd_same, fun dx n2 e2 => ini1_read h k n1 e1 n2 e2⟩⟩

theorem ok_ini_NoKind {f C G : Addr} {fd : FuncData} (F : Fun K "__init__" "NoKind.__init__" (sIni 9) f fd) (T : ErrC K mg G) (E0 : OexC K C) (nF : PySem.W.findIn K (.ref C) "name" = some none) : FnOk P w K mg base CX0 1 f fd ["self", "name"] (spIni1 K C "name") := by
  have sc : FnScope ["self", "name"] ["self", "name"] (defScope (sIni 9)) := ⟨rfl, rfl, rfl, by decide +kernel, rfl, by decide +kernel, by decide +kernel⟩
  refine F.ok sc (fun vs H Q E h => ?_) (fun cdv A outer s H vs Q E hr h => ?_)
  · obtain ⟨a, t0, v, rfl, _⟩ := h
    rfl
  · obtain ⟨a, t0, v, rfl, h, k⟩ := h
    refine ⟨_, pss_cons (ps_expr (pe_qinit rfl T.gG T.rG T.sG T.iG (pa_cons (pv 0) (pa_cons (pv 1) pa_nil)))) (pss_one (ps_qst (pv 0) (pv 1))), ?_⟩
    refine ⟨_, rfl, _, rfl, a, C, t0, [v], rfl, (by decide : 1 ≤ 1000), E0, h, fun t1 n1 e1 => ?_⟩
    refine ⟨_, rfl, _, rfl, a, C, t1, rfl, E0, nF, .inl ⟨upd_same, fun dx n2 e2 => ini1_read h k n1 e1 n2 e2⟩⟩

theorem ok_ini_NoName {f C G : Addr} {fd : FuncData} (F : Fun K "__init__" "NoName.__init__" (sIni 11) f fd) (T : ErrC K mg G) (E0 : OexC K C) (nF : PySem.W.findIn K (.ref C) "name" = some none) : FnOk P w K mg base CX0 1 f fd ["self", "name"] (spIni1 K C "name") := by
  have sc : FnScope ["self", "name"] ["self", "name"] (defScope (sIni 11)) := ⟨rfl, rfl, rfl, by decide +kernel, rfl, by decide +kernel, by decide +kernel⟩
  refine F.ok sc (fun vs H Q E h => ?_) (fun cdv A outer s H vs Q E hr h => ?_)
  · obtain ⟨a, t0, v, rfl, _⟩ := h
    rfl
  · obtain ⟨a, t0, v, rfl, h, k⟩ := h
    refine ⟨_, pss_cons (ps_expr (pe_qinit rfl T.gG T.rG T.sG T.iG (pa_cons (pv 0) (pa_cons (pv 1) pa_nil)))) (pss_one (ps_qst (pv 0) (pv 1))), ?_⟩
    refine ⟨_, rfl, _, rfl, a, C, t0, [v], rfl, (by decide : 1 ≤ 1000), E0, h, fun t1 n1 e1 => ?_⟩
    refine ⟨_, rfl, _, rfl, a, C, t1, rfl, E0, nF, .inl ⟨upd_same, fun dx n2 e2 => ini1_read h k n1 e1 n2 e2⟩⟩

theorem ok_ini_NotEver {f C G : Addr} {fd : FuncData} (F : Fun K "__init__" "NotEver.__init__" (sIni 14) f fd) (T : ErrC K mg G) (E0 : OexC K C) (nF : PySem.W.findIn K (.ref C) "name" = some none) : FnOk P w K mg base CX0 1 f fd ["self", "name"] (spIni1 K C "name") := by
  have sc : FnScope ["self", "name"] ["self", "name"] (defScope (sIni 14)) := ⟨rfl, rfl, rfl, by decide +kernel, rfl, by decide +kernel, by decide +kernel⟩
  refine F.ok sc (fun vs H Q E h => ?_) (fun cdv A outer s H vs Q E hr h => ?_)
  · obtain ⟨a, t0, v, rfl, _⟩ := h
    rfl
  · obtain ⟨a, t0, v, rfl, h, k⟩ := h
    refine ⟨_, pss_cons (ps_expr (pe_qinit rfl T.gG T.rG T.sG T.iG (pa_cons (pv 0) (pa_cons (pv 1) pa_nil)))) (pss_one (ps_qst (pv 0) (pv 1))), ?_⟩
    refine ⟨_, rfl, _, rfl, a, C, t0, [v], rfl, (by decide : 1 ≤ 1000), E0, h, fun t1 n1 e1 => ?_⟩
    refine ⟨_, rfl, _, rfl, a, C, t1, rfl, E0, nF, .inl ⟨upd_same, fun dx n2 e2 => ini1_read h k n1 e1 n2 e2⟩⟩

theorem ok_ini_Unlike {f C G : Addr} {fd : FuncData} (F : Fun K "__init__" "Unlike.__init__" (sIni 21) f fd) (T : ErrC K mg G) (E0 : OexC K C) (nF : PySem.W.findIn K (.ref C) "name" = some none) : FnOk P w K mg base CX0 1 f fd ["self", "name"] (spIni1 K C "name") := by
  have sc : FnScope ["self", "name"] ["self", "name"] (defScope (sIni 21)) := ⟨rfl, rfl, rfl, by decide +kernel, rfl, by decide +kernel, by decide +kernel⟩
  refine F.ok sc (fun vs H Q E h => ?_) (fun cdv A outer s H vs Q E hr h => ?_)
  · obtain ⟨a, t0, v, rfl, _⟩ := h
    rfl
  · obtain ⟨a, t0, v, rfl, h, k⟩ := h
    refine ⟨_, pss_cons (ps_expr (pe_qinit rfl T.gG T.rG T.sG T.iG (pa_cons (pv 0) (pa_cons (pv 1) pa_nil)))) (pss_one (ps_qst (pv 0) (pv 1))), ?_⟩
    refine ⟨_, rfl, _, rfl, a, C, t0, [v], rfl, (by decide : 1 ≤ 1000), E0, h, fun t1 n1 e1 => ?_⟩
    refine ⟨_, rfl, _, rfl, a, C, t1, rfl, E0, nF, .inl ⟨upd_same, fun dx n2 e2 => ini1_read h k n1 e1 n2 e2⟩⟩

theorem ok_ini_Barred {f C G : Addr} {fd : FuncData} (F : Fun K "__init__" "Barred.__init__" (sIni 3) f fd) (T : ErrC K mg G) (E0 : OexC K C) (nF : PySem.W.findIn K (.ref C) "until" = some none) : FnOk P w K mg base CX0 1 f fd ["self", "until"] (spIni1 K C "until") := by
  have sc : FnScope ["self", "until"] ["self", "until"] (defScope (sIni 3)) := ⟨rfl, rfl, rfl, by decide +kernel, rfl, by decide +kernel, by decide +kernel⟩
  refine F.ok sc (fun vs H Q E h => ?_) (fun cdv A outer s H vs Q E hr h => ?_)
  · obtain ⟨a, t0, v, rfl, _⟩ := h
    rfl
  · obtain ⟨a, t0, v, rfl, h, k⟩ := h
    refine ⟨_, pss_cons (ps_expr (pe_qinit rfl T.gG T.rG T.sG T.iG (pa_cons (pv 0) (pa_cons (pv 1) pa_nil)))) (pss_one (ps_qst (pv 0) (pv 1))), ?_⟩
    refine ⟨_, rfl, _, rfl, a, C, t0, [v], rfl, (by decide : 1 ≤ 1000), E0, h, fun t1 n1 e1 => ?_⟩
    refine ⟨_, rfl, _, rfl, a, C, t1, rfl, E0, nF, .inl ⟨upd_same, fun dx n2 e2 => ini1_read h k n1 e1 n2 e2⟩⟩

theorem ok_ini_NoDial {f C G : Addr} {fd : FuncData} (F : Fun K "__init__" "NoDial.__init__" (sIni 6) f fd) (T : ErrC K mg G) (E0 : OexC K C) (nF : PySem.W.findIn K (.ref C) "dial" = some none) : FnOk P w K mg base CX0 1 f fd ["self", "dial"] (spIni1 K C "dial") := by
  have sc : FnScope ["self", "dial"] ["self", "dial"] (defScope (sIni 6)) := ⟨rfl, rfl, rfl, by decide +kernel, rfl, by decide +kernel, by decide +kernel⟩
  refine F.ok sc (fun vs H Q E h => ?_) (fun cdv A outer s H vs Q E hr h => ?_)
  · obtain ⟨a, t0, v, rfl, _⟩ := h
    rfl
  · obtain ⟨a, t0, v, rfl, h, k⟩ := h
    refine ⟨_, pss_cons (ps_expr (pe_qinit rfl T.gG T.rG T.sG T.iG (pa_cons (pv 0) (pa_cons (pv 1) pa_nil)))) (pss_one (ps_qst (pv 0) (pv 1))), ?_⟩
    refine ⟨_, rfl, _, rfl, a, C, t0, [v], rfl, (by decide : 1 ≤ 1000), E0, h, fun t1 n1 e1 => ?_⟩
    refine ⟨_, rfl, _, rfl, a, C, t1, rfl, E0, nF, .inl ⟨upd_same, fun dx n2 e2 => ini1_read h k n1 e1 n2 e2⟩⟩

theorem ok_ini_NoLot {f C G : Addr} {fd : FuncData} (F : Fun K "__init__" "NoLot.__init__" (sIni 10) f fd) (T : ErrC K mg G) (E0 : OexC K C) (nF : PySem.W.findIn K (.ref C) "rows" = some none) : FnOk P w K mg base CX0 1 f fd ["self", "rows"] (spIni1 K C "rows") := by
  have sc : FnScope ["self", "rows"] ["self", "rows"] (defScope (sIni 10)) := ⟨rfl, rfl, rfl, by decide +kernel, rfl, by decide +kernel, by decide +kernel⟩
  refine F.ok sc (fun vs H Q E h => ?_) (fun cdv A outer s H vs Q E hr h => ?_)
  · obtain ⟨a, t0, v, rfl, _⟩ := h
    rfl
  · obtain ⟨a, t0, v, rfl, h, k⟩ := h
    refine ⟨_, pss_cons (ps_expr (pe_qinit rfl T.gG T.rG T.sG T.iG (pa_cons (pv 0) (pa_cons (pv 1) pa_nil)))) (pss_one (ps_qst (pv 0) (pv 1))), ?_⟩
    refine ⟨_, rfl, _, rfl, a, C, t0, [v], rfl, (by decide : 1 ≤ 1000), E0, h, fun t1 n1 e1 => ?_⟩
    refine ⟨_, rfl, _, rfl, a, C, t1, rfl, E0, nF, .inl ⟨upd_same, fun dx n2 e2 => ini1_read h k n1 e1 n2 e2⟩⟩

theorem ok_ini_NoText {f C G : Addr} {fd : FuncData} (F : Fun K "__init__" "NoText.__init__" (sIni 13) f fd) (T : ErrC K mg G) (E0 : OexC K C) (nF : PySem.W.findIn K (.ref C) "line" = some none) : FnOk P w K mg base CX0 1 f fd ["self", "line"] (spIni1 K C "line") := by
  have sc : FnScope ["self", "line"] ["self", "line"] (defScope (sIni 13)) := ⟨rfl, rfl, rfl, by decide +kernel, rfl, by decide +kernel, by decide +kernel⟩
  refine F.ok sc (fun vs H Q E h => ?_) (fun cdv A outer s H vs Q E hr h => ?_)
  · obtain ⟨a, t0, v, rfl, _⟩ := h
    rfl
  · obtain ⟨a, t0, v, rfl, h, k⟩ := h
    refine ⟨_, pss_cons (ps_expr (pe_qinit rfl T.gG T.rG T.sG T.iG (pa_cons (pv 0) (pa_cons (pv 1) pa_nil)))) (pss_one (ps_qst (pv 0) (pv 1))), ?_⟩
    refine ⟨_, rfl, _, rfl, a, C, t0, [v], rfl, (by decide : 1 ≤ 1000), E0, h, fun t1 n1 e1 => ?_⟩
    refine ⟨_, rfl, _, rfl, a, C, t1, rfl, E0, nF, .inl ⟨upd_same, fun dx n2 e2 => ini1_read h k n1 e1 n2 e2⟩⟩

theorem ok_ini_NotMet {f C G : Addr} {fd : FuncData} (F : Fun K "__init__" "NotMet.__init__" (sIni 16) f fd) (T : ErrC K mg G) (E0 : OexC K C) (nF : PySem.W.findIn K (.ref C) "place" = some none) : FnOk P w K mg base CX0 1 f fd ["self", "place"] (spIni1 K C "place") := by
  have sc : FnScope ["self", "place"] ["self", "place"] (defScope (sIni 16)) := ⟨rfl, rfl, rfl, by decide +kernel, rfl, by decide +kernel, by decide +kernel⟩
  refine F.ok sc (fun vs H Q E h => ?_) (fun cdv A outer s H vs Q E hr h => ?_)
  · obtain ⟨a, t0, v, rfl, _⟩ := h
    rfl
  · obtain ⟨a, t0, v, rfl, h, k⟩ := h
    refine ⟨_, pss_cons (ps_expr (pe_qinit rfl T.gG T.rG T.sG T.iG (pa_cons (pv 0) (pa_cons (pv 1) pa_nil)))) (pss_one (ps_qst (pv 0) (pv 1))), ?_⟩
    refine ⟨_, rfl, _, rfl, a, C, t0, [v], rfl, (by decide : 1 ≤ 1000), E0, h, fun t1 n1 e1 => ?_⟩
    refine ⟨_, rfl, _, rfl, a, C, t1, rfl, E0, nF, .inl ⟨upd_same, fun dx n2 e2 => ini1_read h k n1 e1 n2 e2⟩⟩

theorem ok_ini_TooMany {f C G : Addr} {fd : FuncData} (F : Fun K "__init__" "TooMany.__init__" (sIni 20) f fd) (T : ErrC K mg G) (E0 : OexC K C) (nF : PySem.W.findIn K (.ref C) "most" = some none) : FnOk P w K mg base CX0 1 f fd ["self", "most"] (spIni1 K C "most") := by
  have sc : FnScope ["self", "most"] ["self", "most"] (defScope (sIni 20)) := ⟨rfl, rfl, rfl, by decide +kernel, rfl, by decide +kernel, by decide +kernel⟩
  refine F.ok sc (fun vs H Q E h => ?_) (fun cdv A outer s H vs Q E hr h => ?_)
  · obtain ⟨a, t0, v, rfl, _⟩ := h
    rfl
  · obtain ⟨a, t0, v, rfl, h, k⟩ := h
    refine ⟨_, pss_cons (ps_expr (pe_qinit rfl T.gG T.rG T.sG T.iG (pa_cons (pv 0) (pa_cons (pv 1) pa_nil)))) (pss_one (ps_qst (pv 0) (pv 1))), ?_⟩
    refine ⟨_, rfl, _, rfl, a, C, t0, [v], rfl, (by decide : 1 ≤ 1000), E0, h, fun t1 n1 e1 => ?_⟩
    refine ⟨_, rfl, _, rfl, a, C, t1, rfl, E0, nF, .inl ⟨upd_same, fun dx n2 e2 => ini1_read h k n1 e1 n2 e2⟩⟩

theorem ok_ini_Untold {f C G : Addr} {fd : FuncData} (F : Fun K "__init__" "Untold.__init__" (sIni 22) f fd) (T : ErrC K mg G) (E0 : OexC K C) (nF : PySem.W.findIn K (.ref C) "last" = some none) : FnOk P w K mg base CX0 1 f fd ["self", "last"] (spIni1 K C "last") := by
  have sc : FnScope ["self", "last"] ["self", "last"] (defScope (sIni 22)) := ⟨rfl, rfl, rfl, by decide +kernel, rfl, by decide +kernel, by decide +kernel⟩
  refine F.ok sc (fun vs H Q E h => ?_) (fun cdv A outer s H vs Q E hr h => ?_)
  · obtain ⟨a, t0, v, rfl, _⟩ := h
    rfl
  · obtain ⟨a, t0, v, rfl, h, k⟩ := h
    refine ⟨_, pss_cons (ps_expr (pe_qinit rfl T.gG T.rG T.sG T.iG (pa_cons (pv 0) (pa_cons (pv 1) pa_nil)))) (pss_one (ps_qst (pv 0) (pv 1))), ?_⟩
    refine ⟨_, rfl, _, rfl, a, C, t0, [v], rfl, (by decide : 1 ≤ 1000), E0, h, fun t1 n1 e1 => ?_⟩
    refine ⟨_, rfl, _, rfl, a, C, t1, rfl, E0, nF, .inl ⟨upd_same, fun dx n2 e2 => ini1_read h k n1 e1 n2 e2⟩⟩

theorem ok_ini_Wrong {f C G : Addr} {fd : FuncData} (F : Fun K "__init__" "Wrong.__init__" (sIni 23) f fd) (T : ErrC K mg G) (E0 : OexC K C) (nF : PySem.W.findIn K (.ref C) "place" = some none) : FnOk P w K mg base CX0 1 f fd ["self", "place"] (spIni1 K C "place") := by
  have sc : FnScope ["self", "place"] ["self", "place"] (defScope (sIni 23)) := ⟨rfl, rfl, rfl, by decide +kernel, rfl, by decide +kernel, by decide +kernel⟩
  refine F.ok sc (fun vs H Q E h => ?_) (fun cdv A outer s H vs Q E hr h => ?_)
  · obtain ⟨a, t0, v, rfl, _⟩ := h
    rfl
  · obtain ⟨a, t0, v, rfl, h, k⟩ := h
    refine ⟨_, pss_cons (ps_expr (pe_qinit rfl T.gG T.rG T.sG T.iG (pa_cons (pv 0) (pa_cons (pv 1) pa_nil)))) (pss_one (ps_qst (pv 0) (pv 1))), ?_⟩
    refine ⟨_, rfl, _, rfl, a, C, t0, [v], rfl, (by decide : 1 ≤ 1000), E0, h, fun t1 n1 e1 => ?_⟩
    refine ⟨_, rfl, _, rfl, a, C, t1, rfl, E0, nF, .inl ⟨upd_same, fun dx n2 e2 => ini1_read h k n1 e1 n2 e2⟩⟩

theorem ok_ini_NotHeld {f C G : Addr} {fd : FuncData} (F : Fun K "__init__" "NotHeld.__init__" (sIni 15) f fd) (T : ErrC K mg G) (E0 : OexC K C) (nF : PySem.W.findIn K (.ref C) "index" = some none) (nG : PySem.W.findIn K (.ref C) "paper" = some none) : FnOk P w K mg base CX0 1 f fd ["self", "index", "paper"] (spIni2 K C "index" "paper") := by
  have sc : FnScope ["self", "index", "paper"] ["self", "index", "paper"] (defScope (sIni 15)) := ⟨rfl, rfl, rfl, by decide +kernel, rfl, by decide +kernel, by decide +kernel⟩
  refine F.ok sc (fun vs H Q E h => ?_) (fun cdv A outer s H vs Q E hr h => ?_)
  · obtain ⟨a, t0, v, u, rfl, _⟩ := h
    rfl
  · obtain ⟨a, t0, v, u, rfl, h, k⟩ := h
    refine ⟨_, pss_cons (ps_expr (pe_qinit rfl T.gG T.rG T.sG T.iG (pa_cons (pv 0) (pa_cons (pv 1) (pa_cons (pv 2) pa_nil))))) (pss_cons (ps_qst (pv 0) (pv 1)) (pss_one (ps_qst (pv 0) (pv 2)))), ?_⟩
    refine ⟨_, rfl, _, rfl, _, rfl, a, C, t0, [v, u], rfl, (by decide : 2 ≤ 1000), E0, h, fun t1 n1 e1 => ?_⟩
    refine ⟨_, rfl, _, rfl, a, C, t1, rfl, E0, nF, .inl ⟨upd_same, fun dx n2 e2 => ?_⟩⟩
    have e3 : dx ≠ t1 := fun e => by
      rw [e, upd_ne e1, upd_same] at n2
      cases n2
    refine ⟨_, rfl, _, rfl, a, C, t1, rfl, E0, nG, .inr ⟨dx, [("index", v)], upd_same, by rw [upd_ne e2, upd_same], (by decide : 1 ≤ 900), ?_⟩⟩
    have n3 : H dx = none := by
      rw [upd_ne e2, upd_ne e3] at n2
      exact n2
    refine k _ (fun b o hb e => ?_) ⟨dx, t1, n3, n1, by rw [upd_ne (Ne.symm e2), upd_same], upd_same, by rw [upd_ne (Ne.symm e3), upd_ne e1, upd_ne (Ne.symm e3), upd_ne e1, upd_same]⟩
    have q : upd (upd H t1 (.tup [v, u])) a (exq a C none t1) b = some o := by rw [upd_ne hb, upd_ne (ne_of_none e n1)]; exact e
    rw [upd_ne (ne_of_none q n2), upd_ne hb, upd_ne (ne_of_none q n2)]
    exact q
end
/-- C(e), C(e, e'): an exception, made -/
def rErr (C : Addr) (g : List V → Option (List (Str × V))) : List V → Hp → VK → Prop := fun vs H1 Q => ∃ fs, g vs = some fs ∧ ∀ a H2, Same H1 H2 → H1 a = none → ErrN H1 H2 a C fs vs → Q (.ref a) H2
def g1 (f : Str) : List V → Option (List (Str × V))
  | [v] => some [(f, v)]
  | _ => none
def g2 (f g : Str) : List V → Option (List (Str × V))
  | [v, u] => some [(g, u), (f, v)]
  | _ => none
theorem same_made {H1 H2 : Hp} {a : Addr} {o : HO} (n : H1 a = none) (k : ∀ b u, b ≠ a → upd H1 a o b = some u → H2 b = some u) : Same H1 H2 := fun b u e => k b u (ne_of_none e n) (by rw [upd_ne (ne_of_none e n)]; exact e)
section
variable {X : Cx} {o e : Expr} {es : List Expr} {to te : TE} {ta : TA} {f n : Str} {p p' p1 p2 pos : Pos}
theorem pe_mkR {R : List V → Hp → VK → Prop} {x : Str} {C fI : Addr} {k : Nat} {fd : FuncData} {ps : List Str} {sp : Sp} (T : OexC X.K C) (iC : PySem.W.findIn X.K (.ref C) "__init__" = some (some (.ref fI))) (tI : PySem.W.typeIn X.K (.ref fI) = some (.type "function"))
    (F1 : FnOk X.prog X.w X.K X.mg X.base CX0 k fI fd ps sp) (hr : Room (k + 1) X.A) (hb : Binds X.K fd ps []) (hg : Gl X x) (hm : X.mg x = some (.ref C)) (ha : PA X (e :: es) ta) (hR : ∀ vs H1 Q, R vs H1 Q → vs.length ≤ 1000 ∧ ∀ a t0, H1 a = none → sp (.ref a :: vs) (upd H1 a (exq a C none t0)) (fun v H2 => v = .non ∧ Q (.ref a) H2) E0)
    (hdb : (x == ("__debug__" : Str)) = false := by decide) (he : starEach (e :: es) X.env = (false, eval e X.env) :: starEach es X.env := by rfl) (hpl : (backTo pos (starEach es X.env)).any (·.1) = false := by rfl) :
    PE X (.Call (.Name x p) (e :: es) [] pos) (fun σ H Q => ta σ H fun vs H1 => R vs H1 Q) := by
  refine ⟨fun pins s σ H Q I h => ?_⟩
  obtain ⟨nm, q, N, bs, bm, sn, sub, ab, col, dd, k0, k1, k2, k3, k5, hC, hbm⟩ := T.cls
  refine wpAny_Call_Name_kw (ld_glob I hg hm ?_ hdb)
  refine PySem.W.callWith_K (h₀ := X.base) I.ok.mod.kin T.kC (thn (ha.run pos pins s σ H _ I h) fun us s1 ⟨vs, H1, I1, r1, q0⟩ => ⟨I1.kIn, ?_⟩) he hpl
  obtain ⟨hz, q1⟩ := hR _ _ _ q0
  show wpAny _ _ (call (.ref C) us) _ _ _
  obtain ⟨hp, g, dr, tk, os⟩ := s1
  have hsz : hp.objs.size ≤ hp.objs.size + 1 := Nat.le_succ _
  have hn : H1 (hp.objs.size + 1) = none := I1.hok.fresh hsz
  have hq := q1 (hp.objs.size + 1) hp.objs.size hn
  have kk : ∀ b o, hp.get? b = some o → ((hp.push (PySem.W.kdv_tup us)).push (PySem.HandSPX.excO C hp.objs.size)).get? b = some o := fun b o e => Heap.get?_push_of_some _ (Heap.get?_push_of_some _ e)
  have hget : ((hp.push (PySem.W.kdv_tup us)).push (PySem.HandSPX.excO C hp.objs.size)).get? (hp.objs.size + 1) = some (PySem.HandSPX.excO C hp.objs.size) := by heap_get
  have I2 : Inv X pins σ (upd H1 (hp.objs.size + 1) (exq (hp.objs.size + 1) C none hp.objs.size)) ⟨(hp.push (PySem.W.kdv_tup us)).push (PySem.HandSPX.excO C hp.objs.size), g, dr, tk, os⟩ :=
    I1.laid (t' := tk) (a := hp.objs.size + 1) (o := exq (hp.objs.size + 1) C none hp.objs.size) (h' := (hp.push (PySem.W.kdv_tup us)).push (PySem.HandSPX.excO C hp.objs.size)) kk hsz (exq_ok hget)
  have r2 : Vals (V.ref (hp.objs.size + 1) :: vs) (Value.ref (hp.objs.size + 1) :: us) := .cons rfl r1
  have hl : (Value.ref (hp.objs.size + 1) :: us).length = ps.length := by
    have e := r2.length
    rw [F1.len _ _ _ _ hq] at e
    exact e.symm
  have hus : us.length ≤ sizeLine := by
    rw [← Paired.length r1, sizeLine_eq]
    omega
  have hb2 := hb ⟨(hp.push (PySem.W.kdv_tup us)).push (PySem.HandSPX.excO C hp.objs.size), g, dr, tk, os⟩ (Value.ref (hp.objs.size + 1) :: us) I2.kIn (by rw [List.append_nil]; exact hl)
  rw [List.append_nil] at hb2
  refine wpAny_call (PySem.HandSPX.call_own F.excBase_ValueError (fun Y => PySem.HandSPX.refsVE_contains Y bm hbm) (I1.kIn _ _ hC) (PySem.W.looks_findIn I1.kIn iC) (fun self => PySem.W.bind_fn I1.kIn self tI) hus
    (codeAny_mono (F1.run _ X.stack _ _ ⟨Value.ref (hp.objs.size + 1) :: us, []⟩ (Value.ref (hp.objs.size + 1) :: us) _ _ E0 (hr.make C us []) (I2.env0.make C us []) hb2 r2 hq) fun r s' hq' => ?_))
  cases r with
  | error er => exact False.elim hq'
  | ok fl =>
    cases fl with
    | ret u =>
      obtain ⟨v, H', I3, rv, ev, q3⟩ := I2.after hq'
      subst ev
      exact ⟨rv, ⟨V.ref (hp.objs.size + 1), H', I3, rfl, q3⟩⟩
    | next => exact False.elim hq'
    | brk => exact False.elim hq'
    | cont => exact False.elim hq'
end
section
variable {X : Cx} {e : Expr} {es : List Expr} {ta : TA} {p pos : Pos} {x : Str} {C fI : Addr} {fd : FuncData} {f g : Str} {k : Nat}
def tErr (C : Addr) (g : List V → Option (List (Str × V))) (ta : TA) : TE := fun σ H Q => ta σ H fun vs H1 => rErr C g vs H1 Q
theorem pe_err1 (T : OexC X.K C) (iC : PySem.W.findIn X.K (.ref C) "__init__" = some (some (.ref fI))) (tI : PySem.W.typeIn X.K (.ref fI) = some (.type "function")) (F1 : FnOk X.prog X.w X.K X.mg X.base CX0 k fI fd ["self", f] (spIni1 X.K C f)) (hr : Room (k + 1) X.A)
    (hb : Binds X.K fd ["self", f] []) (hg : Gl X x) (hm : X.mg x = some (.ref C)) (ha : PA X (e :: es) ta) (hdb : (x == ("__debug__" : Str)) = false := by decide)
    (he : starEach (e :: es) X.env = (false, eval e X.env) :: starEach es X.env := by rfl) (hpl : (backTo pos (starEach es X.env)).any (·.1) = false := by rfl) :
    PE X (.Call (.Name x p) (e :: es) [] pos) (tErr C (g1 f) ta) :=
  pe_mkR (R := rErr C (g1 f)) T iC tI F1 hr hb hg hm ha (fun vs H1 Q ⟨fs, e1, q⟩ => by
    match vs, e1 with
    | [v], e1 =>
      cases e1
      exact ⟨(by decide : 1 ≤ 1000), fun a t0 n => ⟨a, t0, v, rfl, upd_same, fun H' k e => ⟨rfl, q a H' (same_made n k) n e.of⟩⟩⟩) hdb he hpl
theorem pe_err2 (T : OexC X.K C) (iC : PySem.W.findIn X.K (.ref C) "__init__" = some (some (.ref fI))) (tI : PySem.W.typeIn X.K (.ref fI) = some (.type "function")) (F1 : FnOk X.prog X.w X.K X.mg X.base CX0 k fI fd ["self", f, g] (spIni2 X.K C f g)) (hr : Room (k + 1) X.A)
    (hb : Binds X.K fd ["self", f, g] []) (hg : Gl X x) (hm : X.mg x = some (.ref C)) (ha : PA X (e :: es) ta) (hdb : (x == ("__debug__" : Str)) = false := by decide)
    (he : starEach (e :: es) X.env = (false, eval e X.env) :: starEach es X.env := by rfl) (hpl : (backTo pos (starEach es X.env)).any (·.1) = false := by rfl) :
    PE X (.Call (.Name x p) (e :: es) [] pos) (tErr C (g2 f g) ta) :=
  pe_mkR (R := rErr C (g2 f g)) T iC tI F1 hr hb hg hm ha (fun vs H1 Q ⟨fs, e1, q⟩ => by
    match vs, e1 with
    | [v, u], e1 =>
      cases e1
      exact ⟨(by decide : 2 ≤ 1000), fun a t0 n => ⟨a, t0, v, u, rfl, upd_same, fun H' k e => ⟨rfl, q a H' (same_made n k) n e.of⟩⟩⟩) hdb he hpl
end
end Gy

namespace Gy
open PySem L2 PySem.Spec PyProof.Rows
section
variable {X : Cx} {pins : List (Addr × Obj)} {σ : L2.St} {H : Hp} {s : Shared}
theorem exd_ne_own {d : Addr} {fs : List (Str × V)} {x : Addr} : exd d fs ≠ .own x := exd_own
/-- an exception's dict, told as such -/
theorem Inv.swap {d : Addr} {fs : List (Str × V)} (I : Inv X pins σ H s) (e : H d = some (exd d fs)) : Inv X pins σ (upd H d (.xd fs)) s := by
  obtain ⟨mA, hns, rel⟩ := exd_at I.hok e
  have U : Un X.fs [] H (upd H d (.xd fs)) s.heap s.heap := {
    keep := fun b o q n _ _ => q
    slot := fun b o q n _ _ => ⟨o.slots, q⟩
    free := fun b o q n _ => by rw [upd_ne (fun z => by rw [z, e] at n; cases n)]; exact n
    there := fun b o q _ => ⟨o, q⟩
    tups := fun b xs q => by rw [upd_ne (at_ne e q exd_tup)]; exact q
    frzs := fun b o v q => by rw [upd_ne (at_ne e q exd_frz)]; exact q
    tbls := fun b ps q => ⟨#[], by rw [upd_ne (at_ne e q exd_tbl), q]; simp⟩ }
  have J := I.un (t' := s.toks) U fun b o q => by
    by_cases hb : b = d
    · subst hb
      rw [upd_same] at q
      cases q
      exact ⟨mA, hns, rel⟩
    · rw [upd_ne hb] at q
      exact (I.hok b o q).stay (fun c v hc z => z) (fun c hc => by rw [upd_ne (at_ne e hc exd_own)]; exact hc) (fun c xs hc => by rw [upd_ne (at_ne e hc exd_tup)]; exact hc)
  exact J
/-- an expression whose value is a new exception, raised -/
def rExq (K : PySem.W.Frag) (H0 : Hp) : V → Hp → XK → Prop := fun x H Q => ∃ a C d t, x = .ref a ∧ H0 a = none ∧ H a = some (exq a C d t) ∧ ExQ K C ∧ ((d = none ∧ Q (.ref C) none (delH H a)) ∨ ∃ dd fs, d = some dd ∧ H dd = some (exd dd fs) ∧ Q (.ref C) (some dd) (upd (delH H a) dd (.xd fs)))
theorem pmk_exq (K : PySem.W.Frag) (H0 : Hp) {e : Expr} {te : TE} (hK : X.K = K) (hH : X.H_0 = H0) (hx : X.ex = []) (he : PE X e te) :
    PMk X e (fun σ H Q => te σ H fun x H1 => rExq K H0 x H1 Q) := by
  subst hK hH
  intro pins s σ H Q I h
  refine wpAny_mono (he.run pins s σ H _ I h) (fun u s1 hu => ?_) fun _ _ x => x
  obtain ⟨v, H1, I1, r1, a, C, d, t, rfl, h0, ha, T, q⟩ := hu
  cases r1
  have hr : Raises X (.ref C) := raises_own T.oex.exC T.oex.tyC
  have ho := exq_at I1.hok ha
  obtain ⟨G, gs, ga, J⟩ := I1.untrack (φ := fun h => h.get? a = some ({ cls := .ref C, dict := d, data := .fields #[.ref t, .none, .none, .none, .bool false, .none] } : Obj)) ha (fr0_none h0) hx
  rcases q with ⟨rfl, q⟩ | ⟨dd, fs, rfl, ed, q⟩
  · exact ⟨a, _, _, { s1 with heap := G }, delH H1 a, .ref C, none, rfl, J, gs, ga, ho, ⟨rfl, rfl⟩, rfl, rfl, delH_same, rfl, I1.bare, hr, q⟩
  · have hda : dd ≠ a := fun z => by
      rw [z, ha] at ed
      obtain ⟨mA, hns, _⟩ := exd_at (h := s1.heap) (H := upd H1 a (exd a fs)) (dx := a) (fs := fs) (fun b o q => by
        by_cases hb : b = a
        · subst hb
          rw [upd_same] at q
          cases q
          have := I1.hok b _ ha
          rw [Option.some.inj ed] at this
          exact this.stay (fun _ _ _ z => z) (fun c hc => by
            by_cases hcb : c = b
            · rw [hcb, ha] at hc
              exact absurd (Option.some.inj hc) exq_own
            · rw [upd_ne hcb]; exact hc) (fun c xs hc => by
            by_cases hcb : c = b
            · rw [hcb, ha] at hc
              exact absurd (Option.some.inj hc) exq_tup
            · rw [upd_ne hcb]; exact hc)
        · rw [upd_ne hb] at q
          exact (I1.hok b o q).stay (fun _ _ _ z => z) (fun c hc => by
            by_cases hcb : c = a
            · rw [hcb, ha] at hc
              exact absurd (Option.some.inj hc) exq_own
            · rw [upd_ne hcb]; exact hc) (fun c xs hc => by
            by_cases hcb : c = a
            · rw [hcb, ha] at hc
              exact absurd (Option.some.inj hc) exq_tup
            · rw [upd_ne hcb]; exact hc)) upd_same
      obtain ⟨o, es, ep, e1, e2, _⟩ := hns
      rw [ho] at e1
      have z2 := Option.some.inj e1
      subst z2
      cases e2
    have ed' : delH H1 a dd = some (exd dd fs) := by rw [delH_ne hda]; exact ed
    have J2 := Inv.swap J ed'
    exact ⟨a, _, _, { s1 with heap := G }, upd (delH H1 a) dd (.xd fs), .ref C, some dd, rfl, J2, gs, ga, ho, ⟨rfl, rfl⟩, rfl, rfl, by rw [upd_ne (Ne.symm hda)]; exact delH_same, rfl, I1.bare, hr, q⟩
end
end Gy

namespace Gy
open PySem L2 PySem.Spec PyProof.Rows
open PySem.GyRX (ShowC)
mutual
theorem Rp.same {K : PySem.W.Frag} {H H' : Hp} (s : Same H H') : ∀ {v : V} {d : D}, Rp K H v d → Rp K H' v d
  | _, _, .non => .non
  | _, _, .bl b => .bl b
  | _, _, .int i => .int i
  | _, _, .str x => .str x
  | _, _, .lst e r => .lst (s _ _ e) (RpAll.same s r)
  | _, _, .tup e r => .tup (s _ _ e) (RpAll.same s r)
  | _, _, .dic e l r => .dic (s _ _ e) l (RpAll.same s r)
  | _, _, .exc e e2 e3 T m q => .exc (s _ _ e) (fun dd z => let ⟨fs, y⟩ := e2 dd z; ⟨fs, s _ _ y⟩) (s _ _ e3) T m q
theorem RpAll.same {K : PySem.W.Frag} {H H' : Hp} (s : Same H H') : ∀ {vs : List V} {ds : List D}, RpAll K H vs ds → RpAll K H' vs ds
  | _, _, .nil => .nil
  | _, _, .cons r rs => .cons (Rp.same s r) (RpAll.same s rs)
end
/-- a datum that may be shown, with room to spare -/
def Good (K : PySem.W.Frag) (H : Hp) (v : V) (d : D) : Prop := Rp K H v d ∧ d.ok = true ∧ d.shown.length ≤ 100000 ∧ d.depth ≤ 20
theorem Good.same {K : PySem.W.Frag} {H H' : Hp} {v : V} {d : D} (g : Good K H v d) (s : Same H H') : Good K H' v d := ⟨Rp.same s g.1, g.2⟩
theorem sizeLine_big : 1000000 ≤ sizeLine := by show 1000000 ≤ sizeLine; decide
theorem Good.alike {K : PySem.W.Frag} {H : Hp} {v : V} {d : D} (g : Good K H v d) : Alike K H v v :=
  ⟨d, g.1, g.1, g.2.1, Nat.le_trans g.2.2.1 (Nat.le_trans (by decide) sizeLine_big), Nat.le_trans g.2.2.2 (by decide), .inl rfl⟩
/-- two lists of the same good things, few -/
inductive Goods (K : PySem.W.Frag) (H : Hp) : List V → List D → Prop
  | nil : Goods K H [] []
  | cons {v : V} {vs : List V} {d : D} {ds : List D} : Good K H v d → Goods K H vs ds → Goods K H (v :: vs) (d :: ds)
theorem Goods.rp {K : PySem.W.Frag} {H : Hp} : ∀ {vs : List V} {ds : List D}, Goods K H vs ds → RpAll K H vs ds ∧ D.okAll ds = true ∧ ((D.shownAll ds).map (·.length)).sum ≤ 100000 * vs.length ∧ D.depthAll ds ≤ 20 ∧ ds.length = vs.length
  | _, _, .nil => ⟨.nil, rfl, Nat.zero_le _, Nat.zero_le _, rfl⟩
  | _, _, .cons g gs => by
    obtain ⟨h1, h2, h3, h4, h5⟩ := gs.rp
    obtain ⟨g1, g2, g3, g4⟩ := g
    refine ⟨.cons g1 h1, by simp [D.okAll, g2, h2], ?_, by simp only [D.depthAll]; omega, by simp [h5]⟩
    simp only [D.shownAll, List.map_cons, List.sum_cons, List.length_cons]
    omega
theorem Goods.same {K : PySem.W.Frag} {H H' : Hp} (s : Same H H') : ∀ {vs : List V} {ds : List D}, Goods K H vs ds → Goods K H' vs ds
  | _, _, .nil => .nil
  | _, _, .cons g gs => .cons (g.same s) (gs.same s)
theorem Goods.alike {K : PySem.W.Frag} {H : Hp} {a b : Addr} {vs : List V} {ds : List D} (g : Goods K H vs ds) (hl : vs.length ≤ 9) (ha : H a = some (.lst vs)) (hb : H b = some (.lst vs)) : Alike K H (.ref a) (.ref b) := by
  obtain ⟨h1, h2, h3, h4, h5⟩ := g.rp
  refine ⟨.lst ds, .lst ha h1, .lst hb h1, by simpa [D.ok] using h2, ?_, by simp only [D.depth]; omega, .inr ⟨a, b, vs, ds, rfl, rfl, ha, hb, h1⟩⟩
  simp only [D.shown]
  refine Nat.le_trans (listText_len_le _) (Nat.le_trans ?_ sizeLine_big)
  rw [shownAll_len, h5]
  omega
/-- isinstance(e, c), e the exception that a suite holds -/
def rIsX (K : PySem.W.Frag) (a : Addr) (cls : Value) (d : Option Addr) : List V → Hp → VK → Prop := fun xs H Q => ∃ (C : Addr) (c : V) (cv : Value) (b : Bool), xs = [.ref a, c] ∧ cls = .ref C ∧ ExQ K C ∧ (∀ dd, d = some dd → ∃ fs, H dd = some (.xd fs)) ∧
  (∀ u, RelV c u → u = cv) ∧ PySem.W.kitOne K (.ref C) cv = some b ∧ Q (.bl b) H
theorem call_isX {X : Cx} {a : Addr} {oe : Obj} {cls : Value} {d : Option Addr} {pn : List (Addr × Obj)} (hz : Zc cls d oe) (hf : ∃ vs, oe.data = .fields vs) : CallR (X.suite a ((a, oe) :: pn)) (.builtin "isinstance") (rIsX X.K a cls d) := by
  intro pins s σ H xs us Q I r h
  obtain ⟨C, c, cv, b, rfl, ec, T, ed, hcv, e, q⟩ := h
  subst ec
  cases r with
  | cons rx rr =>
    cases rr with
    | cons rt rr =>
      cases rr
      cases rx
      have ec := hcv _ rt
      subst ec
      obtain ⟨hget, _⟩ := I.pin (a, oe) (List.mem_append.mpr (.inl List.mem_cons_self))
      obtain ⟨vs, hv⟩ := hf
      have hcl : (PySem.W.clsIn X.K C).isSome = true := by
        obtain ⟨nm, q, N, bs, bm, sn, sub, ab, col, dd, k0, k1, k2, k3, k5, hC, hbm⟩ := T.oex.cls
        unfold PySem.W.clsIn
        rw [hC] <;> rfl
      have J : ∃ od, PySem.W.InstAt s.heap a oe C od := by
        cases d with
        | none => exact ⟨none, hget, hz.1, by unfold PySem.W.notCls; rw [hv] <;> rfl, by rw [hz.2]; trivial⟩
        | some dd =>
          obtain ⟨fs, ed⟩ := ed dd rfl
          obtain ⟨mA, hns, hr⟩ := (show ObjOk X.prog X.w H s.heap dd (.xd fs) from I.hok dd _ ed)
          obtain ⟨od, ho, hl⟩ := lookIn_ns hns
          exact ⟨some od, hget, hz.1, by unfold PySem.W.notCls; rw [hv] <;> rfl, by rw [hz.2]; exact ho⟩
      obtain ⟨od, J⟩ := J
      exact PySem.W.kia_one (PySem.W.kitx_exc hcl T.ga T.gg T.oex.exC T.cl T.cn T.ct T.cm) I.kIn J e (fun z => nomatch z) fun tk => ⟨.bl b, H, I.kept (t' := tk) fun _ _ z => z, rfl, q⟩
end Gy

namespace Gy
open PySem L2 PySem.Spec PyProof.Rows
open PySem.GyRX (ShowC)
abbrev sCaught : Stmt := top 32
def NoGuardC (A : Around) : Prop := A.guards = some [] ∧ A.handled = none
/-- a class whose __init__ stores one thing f: all that a call of it wants -/
structure Mk1 (P : Program) (w : World) (K : PySem.W.Frag) (mg : Str → Option Value) (base : Heap) (x : Str) (C : Addr) (f : Str) : Prop where
  g : mg x = some (.ref C)
  q : ExQ K C
  nf : PySem.W.findIn K (.ref C) f = some none
  ini : ∃ (fI : Addr) (fd : FuncData), PySem.W.findIn K (.ref C) "__init__" = some (some (.ref fI)) ∧ PySem.W.typeIn K (.ref fI) = some (.type "function") ∧ FnOk P w K mg base CX0 1 fI fd ["self", f] (spIni1 K C f) ∧ L2.Binds K fd ["self", f] []
structure Mk2 (P : Program) (w : World) (K : PySem.W.Frag) (mg : Str → Option Value) (base : Heap) (x : Str) (C : Addr) (f f' : Str) : Prop where
  g : mg x = some (.ref C)
  q : ExQ K C
  nf : PySem.W.findIn K (.ref C) f = some none
  ng : PySem.W.findIn K (.ref C) f' = some none
  ini : ∃ (fI : Addr) (fd : FuncData), PySem.W.findIn K (.ref C) "__init__" = some (some (.ref fI)) ∧ PySem.W.typeIn K (.ref fI) = some (.type "function") ∧ FnOk P w K mg base CX0 1 fI fd ["self", f, f'] (spIni2 K C f f') ∧ L2.Binds K fd ["self", f, f'] []
structure Mk0 (K : PySem.W.Frag) (mg : Str → Option Value) (x : Str) (C : Addr) : Prop where
  g : mg x = some (.ref C)
  q : ExQ K C
  x : ∃ bmB, ExcBaseFacts "ValueError" "ValueError.__new__" "ValueError.__init__" bmB ∧ PySem.W.excIn K C bmB "ValueError.__new__" = true
section
variable {X : Cx} {e : Expr} {es : List Expr} {ta : TA} {p pos : Pos} {x : Str} {C : Addr} {f g : Str}
theorem pe_mk1 (M : Mk1 X.prog X.w X.K X.mg X.base x C f) (hr : Room 2 X.A) (hg : Gl X x) (ha : PA X (e :: es) ta) (hdb : (x == ("__debug__" : Str)) = false := by decide)
    (he : starEach (e :: es) X.env = (false, eval e X.env) :: starEach es X.env := by rfl) (hpl : (backTo pos (starEach es X.env)).any (·.1) = false := by rfl) : PE X (.Call (.Name x p) (e :: es) [] pos) (tErr C (g1 f) ta) := by
  obtain ⟨fI, fd, h1, h2, h3, h4⟩ := M.ini
  exact pe_err1 M.q.oex h1 h2 h3 hr h4 hg M.g ha hdb he hpl
theorem pe_mk2 (M : Mk2 X.prog X.w X.K X.mg X.base x C f g) (hr : Room 2 X.A) (hg : Gl X x) (ha : PA X (e :: es) ta) (hdb : (x == ("__debug__" : Str)) = false := by decide)
    (he : starEach (e :: es) X.env = (false, eval e X.env) :: starEach es X.env := by rfl) (hpl : (backTo pos (starEach es X.env)).any (·.1) = false := by rfl) : PE X (.Call (.Name x p) (e :: es) [] pos) (tErr C (g2 f g) ta) := by
  obtain ⟨fI, fd, h1, h2, h3, h4⟩ := M.ini
  exact pe_err2 M.q.oex h1 h2 h3 hr h4 hg M.g ha hdb he hpl
theorem pe_mk0 (M : Mk0 X.K X.mg x C) (hg : Gl X x) (hdb : (x == ("__debug__" : Str)) = false := by decide) : PE X (.Call (.Name x p) [] [] pos) (tMkQ0 C) := by
  obtain ⟨bmB, h1, h2⟩ := M.x
  exact pe_mkq0 h1 h2 M.q.oex.kC hg M.g hdb
end
structure TxtC (P : Program) (w : World) (K : PySem.W.Frag) (mg : Str → Option Value) (base : Heap) (G CU CH CN : Addr) : Prop where
  gG : mg "GoneError" = some (.ref G)
  U : Mk1 P w K mg base "Untold" CU "last"
  Hh : Mk2 P w K mg base "NotHeld" CH "index" "paper"
  N : Mk0 K mg "NoCommand" CN
  isi : mg "isinstance" = none
  ve : mg "ValueError" = none
  eU : PySem.W.exmOne K (.ref CU) (.ref G) = some true
  eH : PySem.W.exmOne K (.ref CH) (.ref CH) = some true
  eN : PySem.W.exmOne K (.ref CN) (.ref G) = some true
  kU : PySem.W.kitOne K (.ref CU) (.ref CU) = some true
  kN : PySem.W.kitOne K (.ref CN) (.ref CN) = some true
  kV : PySem.W.kitOne K (.ref CN) (.type "ValueError") = some true
def xfc {K : PySem.W.Frag} {C : Addr} (T : ExQ K C) : XfC K C := ⟨T.ga, T.gg, T.oex.exC, T.hd⟩
def tAl (K : PySem.W.Frag) (t : TA) : TE := fun σ H Q => t σ H fun vs H1 => spAlike K vs H1 Q E0
def tRs (K : PySem.W.Frag) (H0 : Hp) (te : TE) (W : WX) : TS := fun _ σ H => te σ H fun x H1 => rExq K H0 x H1 fun cls d H' => W cls d σ H'
theorem ps_raiseQ {X : Cx} {K : PySem.W.Frag} {H0 : Hp} {W : WX} {e : Expr} {te : TE} {pos : Pos} (hc : X.calm = true) (tk : Takes X W) (hK : X.K = K) (hH : X.H_0 = H0) (hx : X.ex = []) (he : PE X e te) : PS X (.Raise (some e) none pos) (tRs K H0 te W) :=
  ps_raise hc tk (pmk_exq K H0 hK hH hx he)
def tIsX (K : PySem.W.Frag) (a : Addr) (cls : Value) (d : Option Addr) (c : V) : TE := tCB (rIsX K a cls d) (tCons (tVar 2) (tCons (tC c) tNil))
def tApp (K : PySem.W.Frag) (te : TE) : TS := tDrop (tBM K "list" rAppend (tVar 1) (tCons te tNil))
/-- behind a raise: what stood ahead of the making stands -/
theorem raised_same {H H2 : Hp} {e dd : Addr} {fs : List (Str × V)} (s : Same H H2) (he : H e = none) (hd : H dd = none) : Same H (upd (delH H2 e) dd (.xd fs)) := fun b o h => by
  have h1 : b ≠ e := ne_of_none h he
  have h2 : b ≠ dd := ne_of_none h hd
  rw [upd_ne h2, delH_ne h1]
  exact s _ _ h
theorem del_same' {H H2 : Hp} {e : Addr} (s : Same H H2) (he : H e = none) : Same H (delH H2 e) := fun b o h => by
  rw [delH_ne (ne_of_none h he)]
  exact s _ _ h
theorem same_new {H H1 : Hp} {p : Addr} {o : HO} (s : Same H H1) (hp : H1 p = none) : Same H (upd H1 p o) := fun b u h => by
  rw [upd_ne (ne_of_none (s _ _ h) hp)]
  exact s _ _ h
theorem same_put {H H1 : Hp} {p : Addr} {o : HO} (s : Same H H1) (hp : H p = none) : Same H (upd H1 p o) := fun b u h => by
  rw [upd_ne (ne_of_none h hp)]
  exact s _ _ h
def spCaught (K : PySem.W.Frag) : Sp := fun vs H Q _ => ∃ (v : V) (d : D), vs = [v] ∧ Good K H v d ∧ ∀ H', Same H H' → Q (.bl true) H'
section
variable {P : Program} {w : World} {K : PySem.W.Frag} {mg : Str → Option Value} {base : Heap}
theorem scCaught : FnScope ["_law_value", "_law_caught", "_law_error"] ["_law_value"] (defScope sCaught) := ⟨rfl, rfl, rfl, by decide +kernel, rfl, by decide +kernel, by decide +kernel⟩
theorem ok_caught {f fA G CU CH CN : Addr} {fd fdA : FuncData} (F : Fun K "_law_are_caught" "_law_are_caught" sCaught f fd) (T : TxtC P w K mg base G CU CH CN)
    (FA : Fun K "_law_alike" "_law_alike" sAlike fA fdA) (zR : mg "repr" = none) (gA : mg "_law_alike" = some (.ref fA)) (bA : L2.Binds K fdA ["_law_found", "_law_due"] []) :
    FnG NoGuardC P w K mg base 4 f fd ["_law_value"] (spCaught K) := by
  have GA : FnG NoGuard P w K mg base 1 fA fdA ["_law_found", "_law_due"] (spAlike K) := ok_alike FA zR
  refine fn_ofG (c := true) F scCaught (fun A h _ => h.2) (fun vs H Q E h => ?_) (fun cdv A outer s H vs Q E hG hr h => ?_)
  · obtain ⟨v, d, rfl, _⟩ := h
    rfl
  · obtain ⟨v, d, rfl, gv, k⟩ := h
    have nd := scCaught.nd
    have hg : (A.deeper (envOfC "_law_are_caught" (defScope sCaught) s.heap.objs.size f cdv)).guards = some [] := hG.1
    have hR : Room 3 (A.deeper (envOfC "_law_are_caught" (defScope sCaught) s.heap.objs.size f cdv)) := ⟨hG.2, hr.dp, hr.un⟩
    have hR2 := hR.mono (by decide : 2 ≤ 3)
    have hr1 := hr.mono (by decide : 1 ≤ 3)
    have hrS : ∀ a : Addr, RoomH 1 ((A.deeper (envOfC "_law_are_caught" (defScope sCaught) s.heap.objs.size f cdv)).mark (some (.ref a))) := fun a => ⟨hr1.dp, hr1.un⟩
    have hgS : ∀ a : Addr, NoGuard ((A.deeper (envOfC "_law_are_caught" (defScope sCaught) s.heap.objs.size f cdv)).mark (some (.ref a))) := fun a => hg
    refine ⟨_, pss_cons (ps_set (i := 1) nd rfl (Or.inl rfl) (pe_lst pa_nil))
      (pss_cons (ps_try_as (i := 2) (tb := tRs K H (tErr CU (g1 "last") (tCons (tVar 0) tNil))) (ts := fun a cls d => tApp K (tAndV (tIsX K a cls d (.ref CU)) (tAl K (tCons (tXf a cls d CU "last" (tVar 2)) (tCons (tVar 0) tNil))))) (Wout := fun _ _ _ _ => False) rfl rfl nd rfl rfl ⟨rfl, by decide, Or.inl T.gG⟩ takes0
        (fun W pn xe tk _ => pss_one (ps_raiseQ rfl tk rfl rfl rfl (pe_mk1 T.U hR2 rfl (pa_cons (pv 0) pa_nil))))
        (fun a oe cls d pn hz hf => pss_one (ps_expr (by exact (pe_bm PySem.F.plainAttrs_list PySem.F.slot_list_append PySem.F.type_list_append mt_append (pv 1) (pa_cons
          (pe_and (pe_callB (call_isX hz hf) (by rfl) T.isi (by decide +kernel) (pa_cons (pv 2) (pa_cons (pe_glob rfl T.U.g rfl) pa_nil)))
            (pe_one (pe_callG GA (hrS a) (hgS a) rfl gA FA.kp bA (pa_cons (pe_xf (xfc T.U.q) T.U.nf hz hf (pv 2)) (pa_cons (pv 0) pa_nil))))) pa_nil))))))
      (pss_cons (ps_try_as (i := 2) (tb := tRs K H (tErr CH (g2 "index" "paper") (tCons (tVar 0) (tCons (tC (.int 7)) tNil)))) (ts := fun a cls d => tApp K (tAl K (tCons (tLst (tCons (tXf a cls d CH "index" (tVar 2)) (tCons (tXf a cls d CH "paper" (tVar 2)) tNil))) (tCons (tLst (tCons (tVar 0) (tCons (tC (.int 7)) tNil))) tNil)))) (Wout := fun _ _ _ _ => False) rfl rfl nd rfl rfl ⟨rfl, by decide, Or.inl T.Hh.g⟩ takes0
        (fun W pn xe tk _ => pss_one (ps_raiseQ rfl tk rfl rfl rfl (pe_mk2 T.Hh hR2 rfl (pa_cons (pv 0) (pa_cons pe_int pa_nil)))))
        (fun a oe cls d pn hz hf => pss_one (ps_expr (by exact (pe_bm PySem.F.plainAttrs_list PySem.F.slot_list_append PySem.F.type_list_append mt_append (pv 1) (pa_cons
          (pe_callG GA (hrS a) (hgS a) rfl gA FA.kp bA (pa_cons (pe_lst (pa_cons (pe_xf (xfc T.Hh.q) T.Hh.nf hz hf (pv 2)) (pa_cons (pe_xf (xfc T.Hh.q) T.Hh.ng hz hf (pv 2)) pa_nil))) (pa_cons (pe_lst (pa_cons (pv 0) (pa_cons pe_int pa_nil))) pa_nil))) pa_nil))))))
      (pss_cons (ps_try_as (i := 2) (tb := tRs K H (tMkQ0 CN)) (ts := fun a cls d => tApp K (tAndV (tIsX K a cls d (.ty "ValueError")) (tIsX K a cls d (.ref CN)))) (Wout := fun _ _ _ _ => False) rfl rfl nd rfl rfl ⟨rfl, by decide, Or.inl T.gG⟩ takes0
        (fun W pn xe tk _ => pss_one (ps_raiseQ rfl tk rfl rfl rfl (pe_mk0 T.N rfl)))
        (fun a oe cls d pn hz hf => pss_one (ps_expr (by exact (pe_bm PySem.F.plainAttrs_list PySem.F.slot_list_append PySem.F.type_list_append mt_append (pv 1) (pa_cons
          (pe_and (pe_callB (call_isX hz hf) (by rfl) T.isi (by decide +kernel) (pa_cons (pv 2) (pa_cons (pe_bltn rfl T.ve (by decide +kernel) rfl) pa_nil)))
            (pe_one (pe_callB (call_isX hz hf) (by rfl) T.isi (by decide +kernel) (pa_cons (pv 2) (pa_cons (pe_glob rfl T.N.g rfl) pa_nil))))) pa_nil))))))
      (pss_one (ps_ret (pe_cmpR (op_eqD (hR.units)) (pv 1) (pe_lst (pa_cons pe_bl (pa_cons pe_bl (pa_cons pe_bl pa_nil)))) (nomark _))))))), ?_⟩
    refine ⟨Nat.zero_le _, fun p hp => ?_⟩
    have s0 : Same H (upd H p (.lst [])) := same_new (Same.refl H) hp
    have h0 : upd H p (.lst []) p = some (.lst []) := upd_same
    show tSeq _ _ _ [some v, some (.ref p), none] (upd H p (.lst []))
    generalize upd H p (.lst []) = H0 at s0 h0
    -- the first
    refine ⟨_, rfl, [("last", v)], rfl, fun e H2 s2 n2 ⟨dd, t, nd, _, he, hd, ht⟩ => ?_⟩
    refine ⟨e, CU, some dd, t, rfl, s0.free n2, he, T.U.q, .inr ⟨dd, _, rfl, hd, true, T.eU, fun _ a ha => ?_, fun q => Bool.noConfusion q⟩⟩
    have s3 := raised_same (fs := [("last", v)]) s2 n2 nd
    have hdd : upd (delH H2 e) dd (.xd [("last", v)]) dd = some (.xd [("last", v)]) := upd_same
    generalize upd (delH H2 e) dd (.xd [("last", v)]) = H3 at s3 hdd ha
    have h3 := s3 _ _ h0
    have g3 := gv.same (s0.trans s3)
    refine ⟨_, rfl, .inl ⟨rfl, _, SqL.of h3⟩, ?_⟩
    refine ⟨_, rfl, CU, _, .ref CU, true, rfl, rfl, T.U.q, (fun dd' q => by cases q; exact ⟨_, hdd⟩), (fun u r => r), T.kU, true, rfl, iteT ?_⟩
    refine ⟨_, rfl, rfl, rfl, dd, _, v, rfl, hdd, rfl, _, rfl, v, v, rfl, g3.alike, ?_⟩
    refine ⟨p, _, _, rfl, rfl, h3, by show 0 < sizeLine; decide, ?_⟩
    have s4 := same_put (s0.trans s3) (p := p) (o := .lst ([] ++ [V.bl true])) hp
    have h4 : upd H3 p (.lst ([] ++ [V.bl true])) p = some (.lst [V.bl true]) := upd_same
    dsimp only
    show tSeq _ _ _ [some v, some (.ref p), none] (upd H3 p (.lst ([] ++ [V.bl true])))
    generalize upd H3 p (.lst ([] ++ [V.bl true])) = H4 at s4 h4
    -- the second
    refine ⟨_, rfl, [("paper", .int 7), ("index", v)], rfl, fun e5 H5 s5 n5 ⟨dd5, t5, nd5, _, he5, hd5, ht5⟩ => ?_⟩
    refine ⟨e5, CH, some dd5, t5, rfl, s4.free n5, he5, T.Hh.q, .inr ⟨dd5, _, rfl, hd5, true, T.eH, fun _ a5 ha5 => ?_, fun q => Bool.noConfusion q⟩⟩
    have s6 := raised_same (fs := [("paper", .int 7), ("index", v)]) s5 n5 nd5
    have hdd6 : upd (delH H5 e5) dd5 (.xd [("paper", .int 7), ("index", v)]) dd5 = some (.xd [("paper", .int 7), ("index", v)]) := upd_same
    generalize upd (delH H5 e5) dd5 (.xd [("paper", .int 7), ("index", v)]) = H6 at s6 hdd6 ha5
    have h6 := s6 _ _ h4
    have g6 := gv.same (s4.trans s6)
    have l1 : ([("paper", V.int 7), ("index", v)] : List (Str × V)).lookup ("index" : Str) = some v := by
      rw [lookup_put, if_neg (by decide +kernel), lookup_put, if_pos rfl]
    have l2 : ([("paper", V.int 7), ("index", v)] : List (Str × V)).lookup ("paper" : Str) = some (V.int 7) := by
      rw [lookup_put, if_pos rfl]
    refine ⟨_, rfl, .inl ⟨rfl, _, SqL.of h6⟩, ?_⟩
    refine ⟨_, rfl, rfl, rfl, dd5, _, v, rfl, hdd6, l1, _, rfl, rfl, rfl, dd5, _, .int 7, rfl, hdd6, l2, by show 2 ≤ sizeLine; decide, fun p7 np7 => ?_⟩
    refine ⟨_, rfl, by show 2 ≤ sizeLine; decide, fun p8 np8 => ?_⟩
    have s7 : Same H6 (upd H6 p7 (.lst [v, .int 7])) := same_new (Same.refl H6) np7
    have h7 : upd H6 p7 (.lst [v, .int 7]) p7 = some (.lst [v, .int 7]) := upd_same
    generalize upd H6 p7 (.lst [v, .int 7]) = H7 at s7 h7 np8
    have s8 : Same H7 (upd H7 p8 (.lst [v, .int 7])) := same_new (Same.refl H7) np8
    have h8 : upd H7 p8 (.lst [v, .int 7]) p8 = some (.lst [v, .int 7]) := upd_same
    generalize upd H7 p8 (.lst [v, .int 7]) = H8 at s8 h8
    have s68 := s7.trans s8
    have g8 : Goods K H8 [v, .int 7] [d, .int 7] := .cons (g6.same s68) (.cons ⟨.int 7, by decide, by decide +kernel, by decide⟩ .nil)
    refine ⟨_, _, rfl, g8.alike (by show 2 ≤ 9; decide) (s8 _ _ h7) h8, ?_⟩
    refine ⟨p, _, _, rfl, rfl, s68 _ _ h6, by show 1 < sizeLine; decide, ?_⟩
    have s9 := same_put (s4.trans (s6.trans s68)) (p := p) (o := .lst ([V.bl true] ++ [V.bl true])) hp
    have h9 : upd H8 p (.lst ([V.bl true] ++ [V.bl true])) p = some (.lst [V.bl true, V.bl true]) := upd_same
    dsimp only
    show tSeq _ _ _ [some v, some (.ref p), none] (upd H8 p (.lst ([V.bl true] ++ [V.bl true])))
    generalize upd H8 p (.lst ([V.bl true] ++ [V.bl true])) = H9 at s9 h9
    -- the third
    intro e10 t10 n10
    refine ⟨e10, CN, none, t10, rfl, s9.free n10, upd_same, T.N.q, .inl ⟨rfl, true, T.eN, fun _ a10 ha10 => ?_, fun q => Bool.noConfusion q⟩⟩
    have s10 := del_same' (same_new (Same.refl H9) (o := exq e10 CN none t10) n10) n10
    generalize delH (upd H9 e10 (exq e10 CN none t10)) e10 = H10 at s10 ha10
    have h10 := s10 _ _ h9
    refine ⟨_, rfl, .inl ⟨rfl, _, SqL.of h10⟩, ?_⟩
    refine ⟨_, rfl, CN, _, .type "ValueError", true, rfl, rfl, T.N.q, (fun dd' q => nomatch q), (fun u r => r), T.kV, true, rfl, iteT ?_⟩
    refine ⟨_, rfl, CN, _, .ref CN, true, rfl, rfl, T.N.q, (fun dd' q => nomatch q), (fun u r => r), T.kN, ?_⟩
    refine ⟨p, _, _, rfl, rfl, h10, by show 2 < sizeLine; decide, ?_⟩
    have s11 := same_put (s9.trans s10) (p := p) (o := .lst ([V.bl true, V.bl true] ++ [V.bl true])) hp
    have h11 : upd H10 p (.lst ([V.bl true, V.bl true] ++ [V.bl true])) p = some (.lst [V.bl true, V.bl true, V.bl true]) := upd_same
    dsimp only
    show tRet _ _ [some v, some (.ref p), none] (upd H10 p (.lst ([V.bl true, V.bl true] ++ [V.bl true])))
    generalize upd H10 p (.lst ([V.bl true, V.bl true] ++ [V.bl true])) = H11 at s11 h11
    refine ⟨_, rfl, by show 3 ≤ sizeLine; decide, fun p12 np12 => ?_⟩
    have s12 : Same H11 (upd H11 p12 (.lst [.bl true, .bl true, .bl true])) := same_new (Same.refl H11) np12
    have h12 : upd H11 p12 (.lst [V.bl true, .bl true, .bl true]) p12 = some (.lst [.bl true, .bl true, .bl true]) := upd_same
    generalize upd H11 p12 (.lst [V.bl true, .bl true, .bl true]) = H12 at s12 h12
    have D3 : ∀ {q : Addr}, H12 q = some (.lst [V.bl true, .bl true, .bl true]) → Dp K H12 (.ref q) (.list [.bool true, .bool true, .bool true]) := fun h => .lst (SqL.of h) (.cons (.bl _) (.cons (.bl _) (.cons (.bl _) .nil)))
    exact ⟨_, _, D3 (s12 _ _ h11), D3 h12, rfl, rfl, k _ (s11.trans s12)⟩
end
end Gy

namespace Gy
open PySem L2 PySem.Spec PyProof.Rows
open PySem.GyRX (ShowC)
/-- what was new since H1, as it is in H2, stands in H' -/
def Keeps (H1 H2 H' : Hp) : Prop := ∀ x o, H1 x = none → H2 x = some o → H' x = some o
theorem Keeps.refl (H1 H2 : Hp) : Keeps H1 H2 H2 := fun _ _ _ h => h
/-- v is the datum d, all of it new since H1, as of H2 -/
def Own (K : PySem.W.Frag) (H1 H2 : Hp) (v : V) (d : D) : Prop := ∀ H', Keeps H1 H2 H' → Rp K H' v d
def OwnAll (K : PySem.W.Frag) (H1 H2 : Hp) (vs : List V) (ds : List D) : Prop := ∀ H', Keeps H1 H2 H' → RpAll K H' vs ds
theorem Keeps.later {H1 H2 H3 H' : Hp} (s : Same H2 H3) (k : Keeps H1 H3 H') : Keeps H1 H2 H' := fun x o n h => k x o n (s _ _ h)
theorem Keeps.sooner {H0 H1 H2 H' : Hp} (s : Same H0 H1) (k : Keeps H0 H2 H') : Keeps H1 H2 H' := fun x o n h => k x o (by
  cases e : H0 x with
  | none => rfl
  | some u =>
    rw [s _ _ e] at n
    cases n) h
theorem Own.later {K : PySem.W.Frag} {H1 H2 H3 : Hp} {v : V} {d : D} (h : Own K H1 H2 v d) (s : Same H2 H3) : Own K H1 H3 v d := fun H' k => h H' (k.later s)
theorem Own.sooner {K : PySem.W.Frag} {H0 H1 H2 : Hp} {v : V} {d : D} (h : Own K H1 H2 v d) (s : Same H0 H1) : Own K H0 H2 v d := fun H' k => h H' (k.sooner s)
theorem OwnAll.later {K : PySem.W.Frag} {H1 H2 H3 : Hp} {v : List V} {d : List D} (h : OwnAll K H1 H2 v d) (s : Same H2 H3) : OwnAll K H1 H3 v d := fun H' k => h H' (k.later s)
theorem OwnAll.sooner {K : PySem.W.Frag} {H0 H1 H2 : Hp} {v : List V} {d : List D} (h : OwnAll K H1 H2 v d) (s : Same H0 H1) : OwnAll K H0 H2 v d := fun H' k => h H' (k.sooner s)
theorem OwnAll.cons {K : PySem.W.Frag} {H1 H2 : Hp} {v : V} {d : D} {vs : List V} {ds : List D} (h : Own K H1 H2 v d) (hs : OwnAll K H1 H2 vs ds) : OwnAll K H1 H2 (v :: vs) (d :: ds) := fun H' k => .cons (h H' k) (hs H' k)
theorem OwnAll.nil {K : PySem.W.Frag} {H1 H2 : Hp} : OwnAll K H1 H2 [] [] := fun _ _ => .nil
theorem OwnAll.len {K : PySem.W.Frag} {H1 H2 : Hp} {vs : List V} {ds : List D} (h : OwnAll K H1 H2 vs ds) : vs.length = ds.length := (h H2 (Keeps.refl _ _)).len
theorem RpAll.append {K : PySem.W.Frag} {H : Hp} : ∀ {vs ws : List V} {ds es : List D}, RpAll K H vs ds → RpAll K H ws es → RpAll K H (vs ++ ws) (ds ++ es)
  | _, _, _, _, .nil, h => h
  | _, _, _, _, .cons r rs, h => .cons r (RpAll.append rs h)
theorem OwnAll.append {K : PySem.W.Frag} {H1 H2 : Hp} {vs ws : List V} {ds es : List D} (h : OwnAll K H1 H2 vs ds) (h' : OwnAll K H1 H2 ws es) : OwnAll K H1 H2 (vs ++ ws) (ds ++ es) := fun H' k => (h H' k).append (h' H' k)
theorem Own.lst {K : PySem.W.Frag} {H1 H2 : Hp} {p : Addr} {vs : List V} {ds : List D} (h : OwnAll K H1 H2 vs ds) (np : H1 p = none) (np2 : H2 p = none) : Own K H1 (upd H2 p (.lst vs)) (.ref p) (.lst ds) := fun H' k =>
  .lst (k p _ np upd_same) (h H' (k.later fun b o e => by rw [upd_ne (ne_of_none e np2)]; exact e))
theorem Own.tup {K : PySem.W.Frag} {H1 H2 : Hp} {p : Addr} {vs : List V} {ds : List D} (h : OwnAll K H1 H2 vs ds) (np : H1 p = none) (np2 : H2 p = none) : Own K H1 (upd H2 p (.tup vs)) (.ref p) (.tup ds) := fun H' k =>
  .tup (k p _ np upd_same) (h H' (k.later fun b o e => by rw [upd_ne (ne_of_none e np2)]; exact e))
theorem Own.dic0 {K : PySem.W.Frag} {H : Hp} {p : Addr} (np : H p = none) : Own K H (upd H p (.dK [])) (.ref p) (.dic [] []) := fun H' k =>
  .dic (ks := []) (xs := []) (k p _ np upd_same) rfl .nil
theorem Own.dic1 {K : PySem.W.Frag} {H H2 : Hp} {p : Addr} {x : Str} {v : V} {d : D} (h : Own K (upd H p (.dK [])) H2 v d) (np : H p = none) : Own K H (upd H2 p (.dK (mergeK [] [(Sum.inr x, v)]))) (.ref p) (.dic [x] [d]) := fun H' k =>
  .dic (ks := [x]) (xs := [v]) (k p _ np upd_same) rfl (.cons (h H' fun y o n e => by
    have ne : y ≠ p := fun z => by rw [z, upd_same] at n; cases n
    rw [upd_ne ne] at n
    exact k y o n (by rw [upd_ne ne]; exact e)) .nil)
/-- members of what is own -/
theorem OwnAll.mem {K : PySem.W.Frag} {H1 H2 : Hp} {v : V} : ∀ {vs : List V} {ds : List D}, OwnAll K H1 H2 vs ds → v ∈ vs → ∃ d ∈ ds, Own K H1 H2 v d
  | [], _, _, m => absurd m List.not_mem_nil
  | x :: vs, ds, h, m => by
    cases ds with
    | nil =>
      have := h.len
      simp at this
    | cons d ds =>
      rcases List.mem_cons.mp m with e | m
      · refine ⟨d, List.mem_cons_self, fun H' k => ?_⟩
        have q := h H' k
        cases q with
        | cons r _ => rw [e]; exact r
      · obtain ⟨d', hd, ho⟩ := OwnAll.mem (vs := vs) (ds := ds) (fun H' k => by
          have q := h H' k
          cases q with
          | cons _ rs => exact rs) m
        exact ⟨d', List.mem_cons_of_mem _ hd, ho⟩
/-! ### written data -/
mutual
inductive Lit : Expr → D → Prop
  | non {j : Nat} {pos : Pos} : Lit (.Constant .none j pos) .non
  | bl {b : Bool} {j : Nat} {pos : Pos} : Lit (.Constant (.bool b) j pos) (.bl b)
  | int {i : Int} {j : Nat} {pos : Pos} : Lit (.Constant (.int i) j pos) (.int i)
  | str {x : Str} {j : Nat} {pos : Pos} : Lit (.Constant (.str x) j pos) (.str x)
  | neg {i : Int} {j : Nat} {pos pos' : Pos} : Lit (.UnaryOp .USub (.Constant (.int i) j pos) pos') (.int (-i))
  | pow {a b : Int} {j k : Nat} {p1 p2 pos : Pos} : CPow a b → Lit (.BinOp (.Constant (.int a) j p1) .Pow (.Constant (.int b) k p2) pos) (.int (a ^ b.toNat))
  | lst {es : List Expr} {ds : List D} {pos : Pos} : Lits es ds → ds.length ≤ 1000 → Lit (.List es pos) (.lst ds)
  | tup {es : List Expr} {ds : List D} {k : Nat} {pos : Pos} : Lits es ds → ds.length ≤ 1000 → Lit (.Tuple es k pos) (.tup ds)
  | dic0 {pos : Pos} : Lit (.Dict [] [] pos) (.dic [] [])
  | dic1 {x : Str} {e : Expr} {d : D} {j : Nat} {p pos : Pos} : Lit e d → Lit (.Dict [some (.Constant (.str x) j p)] [e] pos) (.dic [x] [d])
inductive Lits : List Expr → List D → Prop
  | nil : Lits [] []
  | cons {e : Expr} {es : List Expr} {d : D} {ds : List D} : Lit e d → Lits es ds → Lits (e :: es) (d :: ds)
end
def tLit (K : PySem.W.Frag) (d : D) : TE := fun _ H Q => ∀ v H', Same H H' → Own K H H' v d → Q v H'
def tLits (K : PySem.W.Frag) (ds : List D) : TA := fun _ H Q => ∀ vs H', Same H H' → OwnAll K H H' vs ds → Q vs H'
theorem PA.imp {X : Cx} {es : List Expr} {t t' : TA} (h : PA X es t) (k : ∀ σ H Q, t' σ H Q → t σ H Q) : PA X es t' := ⟨fun pos pins s σ H Q I q => h.run pos pins s σ H Q I (k _ _ _ q)⟩
theorem lit_const {X : Cx} {e : Expr} {v : V} {d : D} (h : PE X e (tC v)) (r : ∀ H, Rp X.K H v d) : PE X e (tLit X.K d) := PE.imp h fun σ H Q q => q v H (Same.refl H) fun H' _ => r H'
mutual
theorem pe_lit {X : Cx} (hs : ∀ (e : Expr) (es : List Expr) (d : D), Lit e d → starEach (e :: es) X.env = (false, eval e X.env) :: starEach es X.env) : ∀ {e : Expr} {d : D}, Lit e d → PE X e (tLit X.K d)
  | _, _, .non => lit_const pe_non fun _ => .non
  | _, _, .bl => lit_const pe_bl fun _ => .bl _
  | _, _, .int => lit_const pe_int fun _ => .int _
  | _, _, .str => lit_const pe_str fun _ => .str _
  | _, _, .neg => PE.imp (pe_un un_neg pe_int) fun σ H Q q => ⟨_, rfl, q _ H (Same.refl H) fun H' _ => .int _⟩
  | _, _, .pow h => PE.imp (pe_op op_pow pe_int pe_int) fun σ H Q q => ⟨_, _, rfl, rfl, h, q _ H (Same.refl H) fun H' _ => .int _⟩
  | _, _, .lst h hl => PE.imp (pe_lst (pa_lit hs h)) fun σ H Q q vs H' s o => ⟨by rw [o.len, sizeLine_eq]; omega, fun p np => q _ _ (same_new s np) (Own.lst o (s.free np) np)⟩
  | _, _, .tup h hl => PE.imp (pe_tup (pa_lit hs h)) fun σ H Q q vs H' s o => ⟨by rw [o.len, sizeLine_eq]; omega, fun p np => q _ _ (same_new s np) (Own.tup o (s.free np) np)⟩
  | _, _, .dic0 => PE.imp pe_dnewK fun σ H Q q p np => q _ _ (same_new (Same.refl H) np) (Own.dic0 np)
  | _, _, .dic1 h => PE.imp (pe_disp (pps_cons pe_str (pe_lit hs h) pps_nil) (by rfl) (by rfl) (fun z => by cases z) (by show 1 ≤ 15; decide)) fun σ H Q q p np v H2 s2 o2 => by
    have e2 := s2 p _ upd_same
    exact ⟨e2, [(Sum.inr _, v)], rfl, by show 1 ≤ 15; decide, q _ _ (same_put ((same_new (Same.refl H) np).trans s2) np) (Own.dic1 o2 np)⟩
theorem pa_lit {X : Cx} (hs : ∀ (e : Expr) (es : List Expr) (d : D), Lit e d → starEach (e :: es) X.env = (false, eval e X.env) :: starEach es X.env) : ∀ {es : List Expr} {ds : List D}, Lits es ds → PA X es (tLits X.K ds)
  | _, _, .nil => PA.imp pa_nil fun σ H Q q => q _ H (Same.refl H) OwnAll.nil
  | _, _, .cons h t => PA.imp (pa_cons (pe_lit hs h) (pa_lit hs t) (hs _ _ _ h)) fun σ H Q q v H1 s1 o1 vs H2 s2 o2 => q _ _ (s1.trans s2) (OwnAll.cons (o1.later s2) (o2.sooner s1))
end
theorem lit_star {X : Cx} : ∀ (e : Expr) (es : List Expr) (d : D), Lit e d → starEach (e :: es) X.env = (false, eval e X.env) :: starEach es X.env := fun e es d h => by
  cases h <;> rfl
end Gy

namespace Gy
open PySem L2 PySem.Spec PyProof.Rows
open PySem.GyRX (ShowC)
theorem Own.lst_inv {K : PySem.W.Frag} {H H' : Hp} {v : V} {ds : List D} (h : Own K H H' v (.lst ds)) : ∃ a xs, v = .ref a ∧ H a = none ∧ H' a = some (.lst xs) ∧ OwnAll K H H' xs ds := by
  have h0 := h (fun x => match H x with | none => H' x | some _ => none) (fun x o n e => by simp only [n]; exact e)
  cases h0 with
  | @lst a xs _ e r =>
    have na : H a = none := by
      cases q : H a with
      | none => rfl
      | some u => simp only [q] at e; cases e
    simp only [na] at e
    refine ⟨a, xs, rfl, na, e, fun H'' k => ?_⟩
    have e2 := k a _ na e
    have r2 := h H'' k
    cases r2 with
    | lst e3 r3 =>
      rw [e2] at e3
      cases e3
      exact r3
/-! ### the text's own data -/
abbrev sOdd : Stmt := top 29
def bodyAt (s : Stmt) (i : Nat) : Stmt := (defBody s).getD i (.Pass ⟨0, 0, 0, 0⟩)
def valOf : Stmt → Expr
  | .Assign _ v _ => v
  | .Return (some v) _ => v
  | _ => .Constant .none 0 ⟨0, 0, 0, 0⟩
def rhsOf : Expr → Expr
  | .BinOp _ _ r _ => r
  | e => e
def ts (s : Str) : D := .str s
def odd1 : List D := [.non, .bl true, .bl false, .int 0, .int 1, .int 2, .int 9, .int (-1), .int 10, .int 13, .int (10 ^ 39), .str "a", .str "p", .str "row", .str "kind", .str "", .str "A", .str "abcdefghi", .str "a b"]
def odd2 : List D := [.tup [], .lst [], .dic [] [], .tup [.str "a"], .lst [.str "a"], .tup [.non], .tup [.str "a", .int 0], .tup [.str "p", .int 0], .tup [.str "p", .bl true], .tup [.str "p", .int (-1)], .dic ["a"] [.int 0], .tup [.tup []]]
def odd3 : List D := [.tup [.str "row", .str "a", .int 1, .int 9], .tup [.str "kind", .str "p", .int 1, .int 1, .int 9], .tup [.str "row", .str "a", .int 5, .int 9], .tup [.str "row", .str "a", .int 1, .int 10], .lst [.lst [.str "a"]]]
def odd4 : List D := [.tup [.str "kind", .str "p", .int 0, .int 1, .int 9], .tup [.str "kind", .str "p", .int 10, .int 1, .int 9], .tup [.str "row", .str "a", .int 1, .int 1, .int 9], .lst [.str "row", .str "a", .int 1, .int 9]]
def odd5 : List D := [.tup [.str "row", .str "a", .bl true, .int 9], .tup [.str "kind", .str "a", .int 1, .int 9]]
local macro_rules | `(tactic| walk_at "lit") => `(tactic| (repeat' (first
  | exact Lits.nil | refine Lits.cons ?_ ?_ | exact Lit.non | exact Lit.bl | exact Lit.int | exact Lit.str | exact Lit.neg | exact Lit.pow (by show (0 : Int) ≤ 39 ∧ (39 : Int) ≤ 1000000 ∧ (10 : Int).natAbs < 2 ^ 64; decide) | exact Lit.dic0 | refine Lit.dic1 ?_ | refine Lit.lst ?_ ?_ | refine Lit.tup ?_ ?_ | exact Nat.le_of_ble_eq_true rfl)))
theorem lit1 : Lit (valOf (bodyAt sOdd 0)) (.lst odd1) := by unfold odd1; walk_at "lit"
theorem lit2 : Lit (rhsOf (valOf (bodyAt sOdd 1))) (.lst odd2) := by unfold odd2; walk_at "lit"
theorem lit3 : Lit (rhsOf (valOf (bodyAt sOdd 2))) (.lst odd3) := by unfold odd3; walk_at "lit"
theorem lit4 : Lit (rhsOf (valOf (bodyAt sOdd 3))) (.lst odd4) := by unfold odd4; walk_at "lit"
theorem lit5 : Lit (rhsOf (valOf (bodyAt sOdd 4))) (.lst odd5) := by unfold odd5; walk_at "lit"
def odds : List D := (((odd1 ++ odd2) ++ odd3) ++ odd4) ++ odd5
/-- few and short -/
def D.top : D → Bool
  | .exc _ _ => false
  | _ => true
def D.few (d : D) : Bool := (d.ok && d.top) && (decide (d.shown.length ≤ 20000) && decide (d.depth ≤ 10))
theorem odds_few : odds.all D.few = true := by decide +kernel
theorem odds_len : odds.length = 42 := by decide +kernel
def spOdd (K : PySem.W.Frag) : Sp := fun vs H Q _ => ∃ b c, vs = [.ref b] ∧ BagC c H b ∧ ∀ (v : V) (H' : Hp), Ext b H H' → BagC c H' b → (∃ d, Own K H H' v d ∧ d.few = true) → Q v H'
theorem ext_same {b : Addr} {H H' : Hp} (s : Same H H') : Ext b H H' := fun a o _ h => s a o h
theorem BagC.same {b c : Addr} {H H' : Hp} (h : BagC c H b) (s : Same H H') : BagC c H' b := by
  obtain ⟨x0, x1, x2, ns, h⟩ := h
  exact ⟨x0, x1, x2, ns, s _ _ h.hb, s _ _ h.hc, h.p0, h.p1, h.q1, h.p2, h.pc, h.lc⟩
theorem Own.ext {K : PySem.W.Frag} {b : Addr} {H1 H2 H3 : Hp} {v : V} {d : D} {o : HO} (h : Own K H1 H2 v d) (hb : H1 b = some o) (s : Ext b H2 H3) : Own K H1 H3 v d := fun H' k => h H' fun x u n e => k x u n (s x u (fun z => by rw [z, hb] at n; cases n) e)
/-- a list of this call's own, with what it holds -/
def Acc (K : PySem.W.Frag) (H H1 : Hp) (v : V) (ds : List D) : Prop := Same H H1 ∧ ∃ a xs, v = .ref a ∧ H a = none ∧ H1 a = some (.lst xs) ∧ OwnAll K H H1 xs ds
theorem Acc.cat {K : PySem.W.Frag} {H H1 H2 : Hp} {v u : V} {ds es : List D} {Q : V → Hp → Prop} (h : Acc K H H1 v ds) (hl : ds.length + es.length ≤ 1000) (s : Same H1 H2) (o : Own K H1 H2 u (.lst es))
    (k : ∀ v' H3, Acc K H H3 v' (ds ++ es) → Q v' H3) : rCat v u H2 Q := by
  obtain ⟨s0, a, xs, rfl, na, ea, w⟩ := h
  obtain ⟨b, zs, rfl, nb, eb, wb⟩ := o.lst_inv
  refine ⟨a, b, xs, zs, rfl, rfl, s _ _ ea, eb, by rw [w.len, wb.len, sizeLine_eq]; omega, fun p np => k _ _ ?_⟩
  have st := s0.trans s
  have nu : Same H2 (upd H2 p (.lst (xs ++ zs))) := same_new (Same.refl H2) np
  exact ⟨st.trans nu, p, _, rfl, st.free np, upd_same, ((w.later s).append (wb.sooner s0)).later nu⟩
section
variable {P : Program} {w : World} {K : PySem.W.Frag} {mg : Str → Option Value} {base : Heap}
theorem scOdd : FnScope ["_law_bag_here", "_law_some_here"] ["_law_bag_here"] (defScope sOdd) := ⟨rfl, rfl, rfl, by decide +kernel, rfl, by decide +kernel, by decide +kernel⟩
theorem ok_odd {f fS fT : Addr} {fd fdS fdT : FuncData} (F : Fun K "_law_odd" "_law_odd" sOdd f fd) (T : TxtB K mg fT) (FT : Fun K "_law_take" "_law_take" sTake fT fdT) (bT : L2.Binds K fdT ["_law_bag_here", "_law_upto"] [])
    (FS : Fun K "_law_some" "_law_some" sSome fS fdS) (gS : mg "_law_some" = some (.ref fS)) (bS : L2.Binds K fdS ["_law_bag_here", "_law_things"] []) : FnOk P w K mg base CX0 3 f fd ["_law_bag_here"] (spOdd K) := by
  have GS : FnOk P w K mg base CX0 2 fS fdS ["_law_bag_here", "_law_things"] (spSome K) := ok_some FS T FT bT
  refine F.ok scOdd (fun vs H Q E h => ?_) (fun cdv A outer s H vs Q E hr h => ?_)
  · obtain ⟨b, c, rfl, _⟩ := h
    rfl
  · obtain ⟨b, c, rfl, B, k⟩ := h
    have nd := scOdd.nd
    refine ⟨_, pss_cons (ps_set (i := 1) nd rfl (Or.inl rfl) (pe_lit lit_star lit1)) (pss_cons (ps_set (i := 1) nd rfl (Or.inl rfl) (pe_op op_cat (pv 1) (pe_lit lit_star lit2)))
      (pss_cons (ps_set (i := 1) nd rfl (Or.inl rfl) (pe_op op_cat (pv 1) (pe_lit lit_star lit3))) (pss_cons (ps_set (i := 1) nd rfl (Or.inl rfl) (pe_op op_cat (pv 1) (pe_lit lit_star lit4)))
      (pss_cons (ps_set (i := 1) nd rfl (Or.inl rfl) (pe_op op_cat (pv 1) (pe_lit lit_star lit5)))
      (pss_one (ps_ret (pe_call GS hr rfl gS FS.kp bS .nil pass0 (pa_cons (pv 0) (pa_cons (pv 1) pa_nil))))))))), ?_⟩
    intro v0 H1 s1 o1
    obtain ⟨a1, xs1, rfl, n1, e1, w1⟩ := o1.lst_inv
    refine ⟨_, rfl, fun u H2 s2 o2 => Acc.cat (ds := odd1) (es := odd2) ⟨s1, a1, xs1, rfl, n1, e1, w1⟩ (Nat.le_of_ble_eq_true rfl) s2 o2 fun v2 H3 A2 => ?_⟩
    refine ⟨_, rfl, fun u H4 s4 o4 => A2.cat (es := odd3) (Nat.le_of_ble_eq_true rfl) s4 o4 fun v3 H5 A3 => ?_⟩
    refine ⟨_, rfl, fun u H6 s6 o6 => A3.cat (es := odd4) (Nat.le_of_ble_eq_true rfl) s6 o6 fun v4 H7 A4 => ?_⟩
    refine ⟨_, rfl, fun u H8 s8 o8 => A4.cat (es := odd5) (Nat.le_of_ble_eq_true rfl) s8 o8 fun v5 H9 A5 => ?_⟩
    obtain ⟨s9, a, xs, rfl, na, ea, w⟩ := A5
    have hn : xs.length = 42 := w.len.trans odds_len
    have hb : ∃ o, H b = some o := by
      obtain ⟨x0, x1, x2, ns, hB⟩ := B
      exact ⟨_, hB.hb⟩
    obtain ⟨ob, hb⟩ := hb
    have nab : a ≠ b := fun z => by rw [z, hb] at na; cases na
    refine ⟨_, rfl, _, rfl, b, c, a, xs, rfl, nab, ea, by omega, by omega, B.same s9, fun v H' hv e B' => k v H' (fun x o n h => e x o n (s9 _ _ h)) B' ?_⟩
    obtain ⟨d, hd, ho⟩ := w.mem hv
    exact ⟨d, ho.ext hb e, List.all_eq_true.mp odds_few d hd⟩
end
end Gy

namespace Gy
open PySem L2 PySem.Spec PyProof.Rows
open PySem.GyRX (ShowC)
/-- what isn't there now wasn't there then -/
def Dom (B H : Hp) : Prop := ∀ a, H a = none → B a = none
theorem Dom.later {B H H' : Hp} (h : Dom B H) (s : Same H H') : Dom B H' := fun a n => h a (s.free n)
theorem Dom.of_same {B H : Hp} (s : Same B H) : Dom B H := fun a n => s.free n
theorem Keeps.of_same {B H H' : Hp} (s : Same H H') : Keeps B H H' := fun x o _ h => s x o h
/-- an exception, new since B -/
def Made (B H : Hp) (u : V) (C : Addr) (fs : List (Str × V)) : Prop := ∃ e t0 d, u = .ref e ∧ B e = none ∧ H e = some (exq e C d t0) ∧ ((d = none ∧ fs = []) ∨ ∃ dd, d = some dd ∧ B dd = none ∧ H dd = some (exd dd fs))
theorem Made.keep {B H H' : Hp} {u : V} {C : Addr} {fs : List (Str × V)} (m : Made B H u C fs) (k : Keeps B H H') : Made B H' u C fs := by
  obtain ⟨e, t0, d, h1, h2, h3, h4⟩ := m
  refine ⟨e, t0, d, h1, h2, k _ _ h2 h3, ?_⟩
  rcases h4 with h | ⟨dd, h5, h6, h7⟩
  · exact .inl h
  · exact .inr ⟨dd, h5, h6, k _ _ h6 h7⟩
theorem Made.later {B H H' : Hp} {u : V} {C : Addr} {fs : List (Str × V)} (m : Made B H u C fs) (s : Same H H') : Made B H' u C fs := m.keep (.of_same s)
theorem Made.base {B B' H : Hp} {u : V} {C : Addr} {fs : List (Str × V)} (m : Made B H u C fs) (h : ∀ a o, B a = none → H a = some o → B' a = none) : Made B' H u C fs := by
  obtain ⟨e, t0, d, h1, h2, h3, h4⟩ := m
  refine ⟨e, t0, d, h1, h _ _ h2 h3, h3, ?_⟩
  rcases h4 with q | ⟨dd, h5, h6, h7⟩
  · exact .inl q
  · exact .inr ⟨dd, h5, h _ _ h6 h7, h7⟩
/-- a row: an error, a list of what it holds, a list of what it has to hold -/
def RowR (B H : Hp) (r : V) (t : Addr × List (Str × V) × List V) : Prop := ∃ p u a b, r = .ref p ∧ B p = none ∧ H p = some (.tup [u, .ref a, .ref b]) ∧ Made B H u t.1 t.2.1 ∧ B a = none ∧ H a = some (.lst t.2.2) ∧ B b = none ∧ H b = some (.lst t.2.2)
theorem RowR.keep {B H H' : Hp} {r : V} {t : Addr × List (Str × V) × List V} (m : RowR B H r t) (k : Keeps B H H') : RowR B H' r t := by
  obtain ⟨p, u, a, b, h1, h2, h3, h4, h5, h6, h7, h8⟩ := m
  exact ⟨p, u, a, b, h1, h2, k _ _ h2 h3, h4.keep k, h5, k _ _ h5 h6, h7, k _ _ h7 h8⟩
theorem RowR.later {B H H' : Hp} {r : V} {t : Addr × List (Str × V) × List V} (m : RowR B H r t) (s : Same H H') : RowR B H' r t := m.keep (.of_same s)
theorem RowR.base {B B' H : Hp} {r : V} {t : Addr × List (Str × V) × List V} (m : RowR B H r t) (h : ∀ a o, B a = none → H a = some o → B' a = none) : RowR B' H r t := by
  obtain ⟨p, u, a, b, h1, h2, h3, h4, h5, h6, h7, h8⟩ := m
  exact ⟨p, u, a, b, h1, h _ _ h2 h3, h3, h4.base h, h _ _ h5 h6, h6, h _ _ h7 h8, h8⟩
abbrev Rows (B H : Hp) (rs : List V) (ts : List (Addr × List (Str × V) × List V)) : Prop := Paired (RowR B H) rs ts
theorem Rows.keep {B H H' : Hp} {rs : List V} {ts : List (Addr × List (Str × V) × List V)} (m : Rows B H rs ts) (k : Keeps B H H') : Rows B H' rs ts := Paired.mapP m fun _ _ x => x.keep k
theorem Rows.app {B H : Hp} {rs rs' : List V} {ts ts' : List (Addr × List (Str × V) × List V)} (h : Rows B H rs ts) (h' : Rows B H rs' ts') : Rows B H (rs ++ rs') (ts ++ ts') := by
  induction h with
  | nil => exact h'
  | cons a _ ih => exact .cons a ih
/-- the base of what comes behind the found list -/
def bse (H0 : Hp) (p : Addr) : Hp := upd H0 p (.lst [])
structure Fnd (H0 H : Hp) (p : Addr) (ts : List (Addr × List (Str × V) × List V)) : Prop where
  np : H0 p = none
  same : Same H0 H
  dom : Dom (bse H0 p) H
  rows : ∃ rs, H p = some (.lst rs) ∧ Rows (bse H0 p) H rs ts
theorem Fnd.later {H0 H H' : Hp} {p : Addr} {ts : List (Addr × List (Str × V) × List V)} (f : Fnd H0 H p ts) (s : Same H H') : Fnd H0 H' p ts := by
  obtain ⟨h1, h2, h3, rs, h4, h5⟩ := f
  exact ⟨h1, h2.trans s, h3.later s, rs, s _ _ h4, h5.keep (.of_same s)⟩
theorem bse_ne {H0 : Hp} {p a : Addr} (h : bse H0 p a = none) : a ≠ p := fun z => by
  rw [z] at h
  unfold bse at h
  rw [upd_same] at h
  cases h
theorem Keeps.bse {H0 H : Hp} {p : Addr} {o : HO} : Keeps (bse H0 p) H (upd H p o) := fun x o n h => by rw [upd_ne (bse_ne n)]; exact h
theorem Fnd.app {H0 H : Hp} {p : Addr} {ts ts' : List (Addr × List (Str × V) × List V)} {rs rs' : List V} (f : Fnd H0 H p ts) (e : H p = some (.lst rs)) (R : Rows (bse H0 p) H rs' ts') : Fnd H0 (upd H p (.lst (rs ++ rs'))) p (ts ++ ts') := by
  obtain ⟨h1, h2, h3, rs0, h4, h5⟩ := f
  rw [e] at h4
  cases h4
  refine ⟨h1, same_put h2 h1, fun a n => ?_, _, upd_same, (h5.app R).keep .bse⟩
  by_cases z : a = p
  · rw [z, upd_same] at n
    cases n
  · rw [upd_ne z] at n
    exact h3 _ n
theorem Fnd.len {H0 H : Hp} {p : Addr} {ts : List (Addr × List (Str × V) × List V)} {rs : List V} (f : Fnd H0 H p ts) (e : H p = some (.lst rs)) : rs.length = ts.length := by
  obtain ⟨h1, h2, h3, rs0, h4, h5⟩ := f
  rw [e] at h4
  cases h4
  exact h5.length
/-- the first list -/
theorem Fnd.new {H0 H : Hp} {p : Addr} {ts : List (Addr × List (Str × V) × List V)} {rs : List V} (s : Same H0 H) (R : Rows H0 H rs ts) (np : H p = none) : Fnd H0 (upd H p (.lst rs)) p ts := by
  have n0 := s.free np
  have st : Same H (upd H p (.lst rs)) := same_new (Same.refl H) np
  refine ⟨n0, s.trans st, fun a n => ?_, rs, upd_same, Paired.mapP R fun r t m => (m.base fun a o n e => ?_).later st⟩
  · by_cases z : a = p
    · rw [z, upd_same] at n
      cases n
    · rw [upd_ne z] at n
      unfold bse
      rw [upd_ne z]
      exact s.free n
  · unfold bse
    rw [upd_ne (ne_of_none e np)]
    exact n
/-- what was made ahead of the list -/
theorem Made.tobse {H0 H : Hp} {p : Addr} {u : V} {C : Addr} {fs : List (Str × V)} (m : Made H0 H u C fs) (np : H p = none) : Made (bse H0 p) H u C fs := m.base fun a o n e => by
  unfold bse
  rw [upd_ne (ne_of_none e np)]
  exact n
/-! ### readings -/
def tRow1 (K : PySem.W.Frag) (i : Nat) (f : Str) : TE := tTup (tCons (tVar i) (tCons (tLst (tCons (tQfld K f (tVar i)) tNil)) (tCons (tLst (tCons (tVar 0) tNil)) tNil)))
section
variable {K : PySem.W.Frag} {B H : Hp} {σ : L2.St} {Q : VK} {C : Addr} {f g : Str} {v o u w : V}
theorem mk1_read (hd : Dom B H) (h0 : σ[0]? = some (some v)) (k : ∀ u H', Same H H' → Made B H' u C [(f, v)] → Q u H') : tErr C (g1 f) (tCons (tVar 0) tNil) σ H Q := by
  refine ⟨_, h0, [(f, v)], rfl, fun e H2 s2 n2 ⟨dd, t, n3, _, he, hdd, _⟩ => k _ _ s2 ⟨e, t, some dd, rfl, hd _ n2, he, .inr ⟨dd, rfl, hd _ n3, hdd⟩⟩⟩
theorem mk2_read (hd : Dom B H) (h0 : σ[0]? = some (some v)) (h1 : σ[1]? = some (some o)) (k : ∀ u H', Same H H' → Made B H' u C [(g, o), (f, v)] → Q u H') : tErr C (g2 f g) (tCons (tVar 0) (tCons (tVar 1) tNil)) σ H Q := by
  refine ⟨_, h0, _, h1, [(g, o), (f, v)], rfl, fun e H2 s2 n2 ⟨dd, t, n3, _, he, hdd, _⟩ => k _ _ s2 ⟨e, t, some dd, rfl, hd _ n2, he, .inr ⟨dd, rfl, hd _ n3, hdd⟩⟩⟩
theorem mk0_read (hd : Dom B H) (k : ∀ u H', Same H H' → Made B H' u C [] → Q u H') : tMkQ0 C σ H Q :=
  fun a t0 n => k _ _ (same_new (Same.refl H) n) ⟨a, t0, none, rfl, hd _ n, upd_same, .inl ⟨rfl, rfl⟩⟩
theorem Made.fld {σ : L2.St} {i : Nat} {fs : List (Str × V)} (m : Made B H u C fs) (T : ExQ K C) (nf : PySem.W.findIn K (.ref C) f = some none) (l : fs.lookup f = some w) (hi : σ[i]? = some (some u)) (q : Q w H) : tQfld K f (tVar i) σ H Q := by
  obtain ⟨e, t0, d, rfl, _, he, h⟩ := m
  rcases h with ⟨_, rfl⟩ | ⟨dd, rfl, _, hd⟩
  · cases l
  · exact ⟨_, hi, e, C, dd, t0, fs, w, rfl, T, nf, he, hd, l, q⟩
theorem row1_read {i : Nat} {fs : List (Str × V)} (hd : Dom B H) (m : Made B H u C fs) (T : ExQ K C) (nf : PySem.W.findIn K (.ref C) f = some none) (l : fs.lookup f = some v) (hi : σ[i]? = some (some u)) (h0 : σ[0]? = some (some v))
    (k : ∀ r H', Same H H' → RowR B H' r (C, fs, [v]) → Q r H') : tRow1 K i f σ H Q := by
  refine ⟨_, hi, m.fld T nf l hi ⟨by show 1 ≤ sizeLine; decide, fun a na => ⟨_, h0, by show 1 ≤ sizeLine; decide, fun b nb => ⟨by show 3 ≤ sizeLine; decide, fun p np => ?_⟩⟩⟩⟩
  have s1 : Same H (upd H a (.lst [v])) := same_new (Same.refl H) na
  have s2 : Same (upd H a (.lst [v])) (upd (upd H a (.lst [v])) b (.lst [v])) := same_new (Same.refl _) nb
  have s3 : Same (upd (upd H a (.lst [v])) b (.lst [v])) (upd (upd (upd H a (.lst [v])) b (.lst [v])) p (.tup [u, .ref a, .ref b])) := same_new (Same.refl _) np
  exact k _ _ (s1.trans (s2.trans s3)) ⟨p, u, a, b, rfl, (hd.later (s1.trans s2)) _ np, upd_same, m.later (s1.trans (s2.trans s3)), hd _ na, s3 _ _ (s2 _ _ upd_same), (hd.later s1) _ nb, s3 _ _ upd_same⟩
end
end Gy

namespace Gy
open PySem L2 PySem.Spec PyProof.Rows
open PySem.GyRX (ShowC)
def tRow2 (K : PySem.W.Frag) (i : Nat) (f g : Str) : TE := tTup (tCons (tVar i) (tCons (tLst (tCons (tQfld K f (tVar i)) (tCons (tQfld K g (tVar i)) tNil))) (tCons (tLst (tCons (tVar 0) (tCons (tVar 1) tNil))) tNil)))
def tRow0 (i : Nat) : TE := tTup (tCons (tVar i) (tCons (tLst tNil) (tCons (tLst tNil) tNil)))
section
variable {K : PySem.W.Frag} {B H : Hp} {σ : L2.St} {Q : VK} {C : Addr} {f g : Str} {v o u w : V}
theorem row2_read {i : Nat} {fs : List (Str × V)} (hd : Dom B H) (m : Made B H u C fs) (T : ExQ K C) (nf : PySem.W.findIn K (.ref C) f = some none) (ng : PySem.W.findIn K (.ref C) g = some none) (l : fs.lookup f = some v) (l2 : fs.lookup g = some o) (hi : σ[i]? = some (some u)) (h0 : σ[0]? = some (some v)) (h1 : σ[1]? = some (some o))
    (k : ∀ r H', Same H H' → RowR B H' r (C, fs, [v, o]) → Q r H') : tRow2 K i f g σ H Q := by
  delta tRow2 tTup
  dsimp only [tCons, tLst, tNil]
  refine ⟨_, hi, ?_⟩
  refine m.fld (K := K) T nf l hi ?_
  refine m.fld (K := K) T ng l2 hi ?_
  refine ⟨by show 2 ≤ sizeLine; decide, fun a na => ⟨_, h0, _, h1, by show 2 ≤ sizeLine; decide, fun b nb => ⟨by show 3 ≤ sizeLine; decide, fun p np => ?_⟩⟩⟩
  have s1 : Same H (upd H a (.lst [v, o])) := same_new (Same.refl H) na
  have s2 : Same (upd H a (.lst [v, o])) (upd (upd H a (.lst [v, o])) b (.lst [v, o])) := same_new (Same.refl _) nb
  have s3 : Same (upd (upd H a (.lst [v, o])) b (.lst [v, o])) (upd (upd (upd H a (.lst [v, o])) b (.lst [v, o])) p (.tup [u, .ref a, .ref b])) := same_new (Same.refl _) np
  exact k _ _ (s1.trans (s2.trans s3)) ⟨p, u, a, b, rfl, (hd.later (s1.trans s2)) _ np, upd_same, m.later (s1.trans (s2.trans s3)), hd _ na, s3 _ _ (s2 _ _ upd_same), (hd.later s1) _ nb, s3 _ _ upd_same⟩
theorem row0_read {i : Nat} {fs : List (Str × V)} (hd : Dom B H) (m : Made B H u C fs) (hi : σ[i]? = some (some u))
    (k : ∀ r H', Same H H' → RowR B H' r (C, fs, []) → Q r H') : tRow0 i σ H Q := by
  refine ⟨_, hi, ⟨by show 0 ≤ sizeLine; decide, fun a na => ⟨by show 0 ≤ sizeLine; decide, fun b nb => ⟨by show 3 ≤ sizeLine; decide, fun p np => ?_⟩⟩⟩⟩
  have s1 : Same H (upd H a (.lst [])) := same_new (Same.refl H) na
  have s2 : Same (upd H a (.lst [])) (upd (upd H a (.lst [])) b (.lst [])) := same_new (Same.refl _) nb
  have s3 : Same (upd (upd H a (.lst [])) b (.lst [])) (upd (upd (upd H a (.lst [])) b (.lst [])) p (.tup [u, .ref a, .ref b])) := same_new (Same.refl _) np
  exact k _ _ (s1.trans (s2.trans s3)) ⟨p, u, a, b, rfl, (hd.later (s1.trans s2)) _ np, upd_same, m.later (s1.trans (s2.trans s3)), hd _ na, s3 _ _ (s2 _ _ upd_same), (hd.later s1) _ nb, s3 _ _ upd_same⟩
end
theorem paired_at {α β : Type} {F : α → β → Prop} : ∀ {l₁ : List α} {l₂ : List β} {i : Nat} {a : α}, Paired F l₁ l₂ → l₁[i]? = some a → ∃ b, l₂[i]? = some b ∧ F a b
  | _, _, _, _, .nil, h => by simp at h
  | _, _, 0, _, .cons p _, h => by
    simp only [List.getElem?_cons_zero, Option.some.injEq] at h
    subst h
    exact ⟨_, rfl, p⟩
  | _, _, i + 1, _, .cons _ ps, h => paired_at (i := i) ps (by simpa using h)
theorem take_next {α : Type} {l r : List α} {i : Nat} {a : α} (h : l[i]? = some a) : (r ++ l.take i) ++ [a] = r ++ l.take (i + 1) := by
  rw [List.append_assoc, List.take_succ, h]
  rfl

def Makes (te : TE) (σ : L2.St) (B : Hp) (t : Addr × List (Str × V) × List V) : Prop := ∀ H Q, Dom B H → (∀ u H', Same H H' → Made B H' u t.1 t.2.1 → Q u H') → te σ H Q
def MakesA (ta : TA) (σ : L2.St) (B : Hp) (ts : List (Addr × List (Str × V) × List V)) : Prop := ∀ H Q, Dom B H → (∀ us H', Same H H' → Paired (fun u t => Made B H' u t.1 t.2.1) us ts → Q us H') → ta σ H Q
def RowE (te : TE) (σ : L2.St) (B H : Hp) (t : Addr × List (Str × V) × List V) : Prop := ∀ H1 Q, Same H H1 → (∀ r H2, Same H1 H2 → RowR B H2 r t → Q r H2) → te σ H1 Q
def RowA (ta : TA) (σ : L2.St) (B H : Hp) (ts : List (Addr × List (Str × V) × List V)) : Prop := ∀ H1 Q, Same H H1 → (∀ rs H2, Same H1 H2 → Rows B H2 rs ts → Q rs H2) → ta σ H1 Q
section
variable {B H : Hp} {σ : L2.St} {t t1 t2 t3 : Addr × List (Str × V) × List V} {ts : List (Addr × List (Str × V) × List V)} {te : TE} {ta : TA}
theorem MakesA.nil : MakesA tNil σ B [] := fun H Q _ k => k [] H (Same.refl H) .nil
theorem MakesA.cons (h : Makes te σ B t) (h' : MakesA ta σ B ts) : MakesA (tCons te ta) σ B (t :: ts) := fun H Q d k =>
  h H _ d fun u H1 s1 m => h' H1 _ (d.later s1) fun us H2 s2 ms => k _ _ (s1.trans s2) (.cons (m.later s2) ms)
theorem RowA.nil : RowA tNil σ B H [] := fun H1 Q _ k => k [] H1 (Same.refl H1) .nil
theorem RowA.cons (h : RowE te σ B H t) (h' : RowA ta σ B H ts) : RowA (tCons te ta) σ B H (t :: ts) := fun H0 Q s0 k =>
  h H0 _ s0 fun u H1 s1 m => h' H1 _ (s0.trans s1) fun us H2 s2 ms => k _ _ (s1.trans s2) (.cons (m.later s2) ms)
end
section
variable {K : PySem.W.Frag} {B H H0 : Hp} {σ : L2.St} {C : Addr} {f g : Str} {v o u w : V} {h r : List V}
theorem mk1 (h0 : σ[0]? = some (some v)) : Makes (tErr C (g1 f) (tCons (tVar 0) tNil)) σ B (C, [(f, v)], h) := fun H Q d k => mk1_read d h0 k
theorem mk2 (h0 : σ[0]? = some (some v)) (h1 : σ[1]? = some (some o)) : Makes (tErr C (g2 f g) (tCons (tVar 0) (tCons (tVar 1) tNil))) σ B (C, [(g, o), (f, v)], h) := fun H Q d k => mk2_read d h0 h1 k
theorem mk0 : Makes (tMkQ0 C) σ B (C, [], h) := fun H Q d k => mk0_read d k
theorem re1 {i : Nat} {fs : List (Str × V)} (hd : Dom B H) (m : Made B H u C fs) (T : ExQ K C) (nf : PySem.W.findIn K (.ref C) f = some none) (l : fs.lookup f = some v) (hi : σ[i]? = some (some u)) (h0 : σ[0]? = some (some v)) : RowE (tRow1 K i f) σ B H (C, fs, [v]) :=
  fun H1 Q s k => row1_read (hd.later s) (m.later s) T nf l hi h0 k
theorem re2 {i : Nat} {fs : List (Str × V)} (hd : Dom B H) (m : Made B H u C fs) (T : ExQ K C) (nf : PySem.W.findIn K (.ref C) f = some none) (ng : PySem.W.findIn K (.ref C) g = some none) (l : fs.lookup f = some v) (l2 : fs.lookup g = some o) (hi : σ[i]? = some (some u)) (h0 : σ[0]? = some (some v)) (h1 : σ[1]? = some (some o)) : RowE (tRow2 K i f g) σ B H (C, fs, [v, o]) :=
  fun H1 Q s k => row2_read (hd.later s) (m.later s) T nf ng l l2 hi h0 h1 k
theorem re0 {i : Nat} {fs : List (Str × V)} (hd : Dom B H) (m : Made B H u C fs) (hi : σ[i]? = some (some u)) : RowE (tRow0 i) σ B H (C, fs, []) :=
  fun H1 Q s k => row0_read (hd.later s) (m.later s) hi k
end
/-! ### statements -/
section
variable {K : PySem.W.Frag} {B H H0 : Hp} {σ : L2.St} {D : Ends} {rest : TS} {ta : TA} {te : TE} {t t1 t2 t3 : Addr × List (Str × V) × List V} {ts ts' : List (Addr × List (Str × V) × List V)} {p : Addr}
theorem st_par3 {i j l : Nat} (d : Dom B H) (h : MakesA ta σ B [t1, t2, t3]) (k : ∀ u1 u2 u3 H', Same H H' → Made B H' u1 t1.1 t1.2.1 → Made B H' u2 t2.1 t2.2.1 → Made B H' u3 t3.1 t3.2.1 → rest D (((σ.set i (some u1)).set j (some u2)).set l (some u3)) H') :
    tSeq (tPar3 i j l ta) rest D σ H := h H _ d fun us H' s m => by
  cases m with
  | cons m1 m => cases m with
    | cons m2 m => cases m with
      | cons m3 m =>
        cases m
        exact ⟨_, _, _, rfl, k _ _ _ _ s m1 m2 m3⟩
theorem st_par2 {i j : Nat} (d : Dom B H) (h : MakesA ta σ B [t1, t2]) (k : ∀ u1 u2 H', Same H H' → Made B H' u1 t1.1 t1.2.1 → Made B H' u2 t2.1 t2.2.1 → rest D ((σ.set i (some u1)).set j (some u2)) H') :
    tSeq (tPar i j ta) rest D σ H := h H _ d fun us H' s m => by
  cases m with
  | cons m1 m => cases m with
    | cons m2 m =>
      cases m
      exact ⟨_, _, rfl, k _ _ _ s m1 m2⟩
theorem st_par4 {a b c e : Nat} {t4 : Addr × List (Str × V) × List V} (d : Dom B H) (h : MakesA ta σ B [t1, t2, t3, t4]) (k : ∀ u1 u2 u3 u4 H', Same H H' → Made B H' u1 t1.1 t1.2.1 → Made B H' u2 t2.1 t2.2.1 → Made B H' u3 t3.1 t3.2.1 → Made B H' u4 t4.1 t4.2.1 → rest D ((((σ.set a (some u1)).set b (some u2)).set c (some u3)).set e (some u4)) H') :
    tSeq (tAsg (tTup ta) (gTup K 4 (gCons (gName a) (gCons (gName b) (gCons (gName c) (gCons (gName e) gNil)))))) rest D σ H := h H _ d fun us H' s m => by
  cases m with
  | cons m1 m => cases m with
    | cons m2 m => cases m with
      | cons m3 m => cases m with
        | cons m4 m =>
          cases m
          refine ⟨by show 4 ≤ sizeLine; decide, fun p np => ?_⟩
          have st : ∀ o, Same H' (upd H' p o) := fun o => same_new (Same.refl H') np
          exact ⟨p, _, rfl, SqT.of upd_same, rfl, _, _, rfl, _, _, rfl, _, _, rfl, _, _, rfl, rfl, k _ _ _ _ _ (s.trans (st _)) (m1.later (st _)) (m2.later (st _)) (m3.later (st _)) (m4.later (st _))⟩
theorem st_found (s0 : Same H0 H) (hl : ts.length ≤ 1000) (h : RowA ta σ H0 H ts) (k : ∀ p H1 H', Same H H1 → H1 p = none → Same H1 H' → Fnd H0 H' p ts → rest D (σ.set 5 (some (.ref p))) H') : tSeq (tAsg (tLst ta) (gName 5)) rest D σ H :=
  h H _ (Same.refl H) fun rs H1 s1 R => ⟨by rw [R.length, sizeLine_eq]; omega, fun p np => k _ _ _ s1 np (same_new (Same.refl H1) np) (Fnd.new (s0.trans s1) R np)⟩
theorem st_ext (h5 : σ[5]? = some (some (.ref p))) (F : Fnd H0 H p ts) (hl : ts.length + ts'.length ≤ 1000) (h : RowA ta σ (bse H0 p) H ts') (k : ∀ H', Keeps (bse H0 p) H H' → Fnd H0 H' p (ts ++ ts') → rest D σ H') :
    tSeq (tDrop (tBM K "list" rExtend (tVar 5) (tCons (tLst ta) tNil))) rest D σ H := by
  obtain ⟨rs0, e0, R0⟩ := F.rows
  refine ⟨_, h5, .inl ⟨rfl, _, SqL.of e0⟩, h H _ (Same.refl H) fun rs H1 s1 R => ?_⟩
  have F1 := F.later s1
  have e1 := s1 _ _ e0
  refine ⟨by rw [R.length, sizeLine_eq]; omega, fun q nq => ?_⟩
  have s2 : Same H1 (upd H1 q (.lst rs)) := same_new (Same.refl H1) nq
  refine ⟨p, q, _, rs, rfl, rfl, s2 _ _ e1, upd_same, by rw [F.len e0, R.length, sizeLine_eq]; omega, k _ (fun x o n e => ?_) ((F1.later s2).app (s2 _ _ e1) (R.keep (.of_same s2)))⟩
  rw [upd_ne (bse_ne n)]
  exact s2 _ _ (s1 _ _ e)
theorem app_read {Q : L2.St → Hp → Prop} (h5 : σ[5]? = some (some (.ref p))) (F : Fnd H0 H p ts) (hl : ts.length ≤ 1000) (h : RowE te σ (bse H0 p) H t) (k : ∀ H', Keeps (bse H0 p) H H' → Fnd H0 H' p (ts ++ [t]) → Q σ H') :
    tBM K "list" rAppend (tVar 5) (tCons te tNil) σ H fun _ H1 => Q σ H1 := by
  obtain ⟨rs0, e0, R0⟩ := F.rows
  refine ⟨_, h5, .inl ⟨rfl, _, SqL.of e0⟩, h H _ (Same.refl H) fun r H1 s1 R => ?_⟩
  have F1 := F.later s1
  have e1 := s1 _ _ e0
  have ll := F.len e0
  refine ⟨p, _, r, rfl, rfl, e1, by rw [sizeLine_eq]; omega, k _ (fun x o n e => ?_) (F1.app e1 (.cons R .nil))⟩
  rw [upd_ne (bse_ne n)]
  exact s1 _ _ e
theorem st_app (h5 : σ[5]? = some (some (.ref p))) (F : Fnd H0 H p ts) (hl : ts.length ≤ 1000) (h : RowE te σ (bse H0 p) H t) (k : ∀ H', Keeps (bse H0 p) H H' → Fnd H0 H' p (ts ++ [t]) → rest D σ H') :
    tSeq (tDrop (tBM K "list" rAppend (tVar 5) (tCons te tNil))) rest D σ H := app_read (Q := rest D) h5 F hl h k
/-- over a tuple of new exceptions -/
theorem st_loop (h5 : σ[5]? = some (some (.ref p))) (h6 : 6 < σ.length) (F : Fnd H0 H p ts) (hl : ts.length + ts'.length ≤ 900) (h : MakesA ta σ (bse H0 p) ts')
    (hb : ∀ t ∈ ts', ∀ u H1, Dom (bse H0 p) H1 → Made (bse H0 p) H1 u t.1 t.2.1 → ∀ y, RowE te ((σ.set 6 y).set 6 (some u)) (bse H0 p) H1 t)
    (k : ∀ x H', Keeps (bse H0 p) H H' → Fnd H0 H' p (ts ++ ts') → rest D (σ.set 6 x) H') :
    tSeq (tFor (iTup K (tTup ta)) (gName 6) (tDrop (tBM K "list" rAppend (tVar 5) (tCons te tNil)))) rest D σ H := by
  refine h H _ F.dom fun us H1 s1 M => ?_
  have hu := M.length
  refine ⟨by rw [hu, sizeLine_eq]; omega, fun q nq => ?_⟩
  have s2 : Same H1 (upd H1 q (.tup us)) := same_new (Same.refl H1) nq
  have e2 : upd H1 q (.tup us) q = some (.tup us) := upd_same
  generalize upd H1 q (.tup us) = H2 at s2 e2
  have F2 := (F.later s1).later s2
  have nq0 : bse H0 p q = none := (F.later s1).dom _ nq
  refine ⟨q, rfl, ⟨_, SqT.of e2⟩, for_tup (xs := us) (fun i σ' H' => (∃ x, σ' = σ.set 6 x) ∧ Keeps (bse H0 p) H2 H' ∧ Fnd H0 H' p (ts ++ ts'.take i)) ⟨⟨σ[6], by simp⟩, Keeps.refl _ _, by simpa using F2⟩ (fun i σ' H' _ ⟨_, kk, _⟩ => SqT.of (kk _ _ nq0 e2)) ?_ ?_⟩
  · rintro i x σ' H' hi ⟨⟨y, rfl⟩, kk, F3⟩
    obtain ⟨t, ht, m⟩ := paired_at M hi
    have hm := hb t (List.mem_of_getElem? ht) x H' F3.dom ((m.later s2).keep kk) y
    have hlt : i < us.length := (List.getElem?_eq_some_iff.mp hi).1
    refine app_read (Q := fun σ' H' => (∃ x, σ' = σ.set 6 x) ∧ Keeps (bse H0 p) H2 H' ∧ Fnd H0 H' p (ts ++ ts'.take (i + 1))) (by simpa using h5) F3 (by rw [List.length_append, List.length_take]; omega) hm fun H'' k2 F4 => ⟨⟨some x, by simp⟩, fun a o n e => k2 _ _ n (kk _ _ n e), ?_⟩
    rw [take_next ht] at F4
    exact F4
  · rintro σ' H' ⟨⟨y, rfl⟩, kk, F3⟩
    refine k y H' (fun a o n e => kk _ _ n (s2 _ _ (s1 _ _ e))) ?_
    have e : ts'.take us.length = ts' := by rw [hu]; exact List.take_length
    rw [e] at F3
    exact F3
end

structure TxtF (P : Program) (w : World) (K : PySem.W.Frag) (mg : Str → Option Value) (base : Heap) (C : Nat → Addr) : Prop where
  m0 : Mk1 P w K mg base "BadDeed" (C 0) "index"
  m1 : Mk1 P w K mg base "NoGround" (C 1) "index"
  m2 : Mk1 P w K mg base "NoIndex" (C 2) "index"
  m3 : Mk1 P w K mg base "NoKind" (C 3) "name"
  m4 : Mk1 P w K mg base "NoName" (C 4) "name"
  m5 : Mk1 P w K mg base "NotEver" (C 5) "name"
  m6 : Mk1 P w K mg base "Unlike" (C 6) "name"
  m7 : Mk1 P w K mg base "Barred" (C 7) "until"
  m8 : Mk1 P w K mg base "NoDial" (C 8) "dial"
  m9 : Mk1 P w K mg base "NoLot" (C 9) "rows"
  m10 : Mk1 P w K mg base "NoText" (C 10) "line"
  m11 : Mk2 P w K mg base "NotHeld" (C 11) "index" "paper"
  m12 : Mk1 P w K mg base "NotMet" (C 12) "place"
  m13 : Mk1 P w K mg base "TooMany" (C 13) "most"
  m14 : Mk1 P w K mg base "Untold" (C 14) "last"
  m15 : Mk1 P w K mg base "Wrong" (C 15) "place"
  m16 : Mk0 K mg "NoCommand" (C 16)
  m17 : Mk0 K mg "NoDeed" (C 17)
  m18 : Mk0 K mg "NoNews" (C 18)
  m19 : Mk0 K mg "NotMorning" (C 19)
  m20 : Mk0 K mg "NotTimed" (C 20)
  m21 : Mk0 K mg "Nothing" (C 21)
abbrev Tb := List (Addr × List (Str × V) × List V)
def tb0 (C : Nat → Addr) (v o : V) : Tb := [(C 0, [("index", v)], [v]), (C 1, [("index", v)], [v]), (C 2, [("index", v)], [v])]
def tb1 (C : Nat → Addr) (v o : V) : Tb := [(C 3, [("name", v)], [v]), (C 4, [("name", v)], [v]), (C 5, [("name", v)], [v]), (C 6, [("name", v)], [v])]
def tb2 (C : Nat → Addr) (v o : V) : Tb := [(C 7, [("until", v)], [v]), (C 8, [("dial", v)], [v]), (C 9, [("rows", v)], [v])]
def tb3 (C : Nat → Addr) (v o : V) : Tb := [(C 10, [("line", v)], [v]), (C 11, [("paper", o), ("index", v)], [v, o])]
def tb4 (C : Nat → Addr) (v o : V) : Tb := [(C 12, [("place", v)], [v]), (C 13, [("most", v)], [v]), (C 14, [("last", v)], [v])]
def tb5 (C : Nat → Addr) (v o : V) : Tb := [(C 15, [("place", v)], [v])]
def tb6 (C : Nat → Addr) (v o : V) : Tb := [(C 16, [], []), (C 17, [], []), (C 18, [], []), (C 19, [], []), (C 20, [], []), (C 21, [], [])]
def tabs (C : Nat → Addr) (v o : V) : Tb := (((((tb0 C v o ++ tb1 C v o) ++ tb2 C v o) ++ tb3 C v o) ++ tb4 C v o) ++ tb5 C v o) ++ tb6 C v o
def spFields (C : Nat → Addr) : Sp := fun vs H Q _ => ∃ v o, vs = [v, o] ∧ ∀ p H', Same H H' → Fnd H H' p (tabs C v o) → Q (.ref p) H'
abbrev sFields : Stmt := top 30
section
variable {P : Program} {w : World} {K : PySem.W.Frag} {mg : Str → Option Value} {base : Heap}
theorem scFields : FnScope ["_law_value", "_law_other", "_law_first", "_law_second", "_law_third", "_law_found", "_law_error", "_law_barred", "_law_dial", "_law_lot", "_law_text", "_law_held", "_law_met", "_law_many", "_law_untold", "_law_wrong"] ["_law_value", "_law_other"] (defScope sFields) := ⟨rfl, rfl, rfl, by decide +kernel, rfl, by decide +kernel, by decide +kernel⟩
theorem ok_fields {f : Addr} {fd : FuncData} {C : Nat → Addr} (F : Fun K "_law_with_fields" "_law_with_fields" sFields f fd) (T : TxtF P w K mg base C) : FnOk P w K mg base CX0 3 f fd ["_law_value", "_law_other"] (spFields C) := by
  refine F.ok scFields (fun vs H Q E h => ?_) (fun cdv A outer s H vs Q E hr h => ?_)
  · obtain ⟨v, o, rfl, _⟩ := h
    rfl
  · obtain ⟨v, o, rfl, k⟩ := h
    have nd := scFields.nd
    refine ⟨_, (pss_cons (ps_par3 (i := 2) (j := 3) (l := 4) rfl nd rfl rfl rfl (by decide) (by decide) (by decide) rfl rfl rfl (pa_cons (pe_mk1 T.m0 hr rfl (pa_cons (pv 0) pa_nil)) (pa_cons (pe_mk1 T.m1 hr rfl (pa_cons (pv 0) pa_nil)) (pa_cons (pe_mk1 T.m2 hr rfl (pa_cons (pv 0) pa_nil)) pa_nil))) (by rfl))
      (pss_cons (ps_set (i := 5) nd rfl (Or.inl rfl) (pe_lst (pa_cons (pe_tup (pa_cons (pv 2) (pa_cons (pe_lst (pa_cons (pe_qfld (pv 2)) pa_nil)) (pa_cons (pe_lst (pa_cons (pv 0) pa_nil)) pa_nil)))) (pa_cons (pe_tup (pa_cons (pv 3) (pa_cons (pe_lst (pa_cons (pe_qfld (pv 3)) pa_nil)) (pa_cons (pe_lst (pa_cons (pv 0) pa_nil)) pa_nil)))) (pa_cons (pe_tup (pa_cons (pv 4) (pa_cons (pe_lst (pa_cons (pe_qfld (pv 4)) pa_nil)) (pa_cons (pe_lst (pa_cons (pv 0) pa_nil)) pa_nil)))) pa_nil)))))
      (pss_cons (ps_for PassesOwn.never rfl (pi_tup (pe_tup (pa_cons (pe_mk1 T.m3 hr rfl (pa_cons (pv 0) pa_nil)) (pa_cons (pe_mk1 T.m4 hr rfl (pa_cons (pv 0) pa_nil)) (pa_cons (pe_mk1 T.m5 hr rfl (pa_cons (pv 0) pa_nil)) (pa_cons (pe_mk1 T.m6 hr rfl (pa_cons (pv 0) pa_nil)) pa_nil)))))) (pg_name (i := 6) nd rfl (Or.inl rfl)) (pss_one (ps_expr (by exact (pe_bm PySem.F.plainAttrs_list PySem.F.slot_list_append PySem.F.type_list_append mt_append (pv 5) (pa_cons (pe_tup (pa_cons (pv 6) (pa_cons (pe_lst (pa_cons (pe_qfld (pv 6)) pa_nil)) (pa_cons (pe_lst (pa_cons (pv 0) pa_nil)) pa_nil)))) pa_nil))))))
      (pss_cons (ps_asg (pe_tup (pa_cons (pe_mk1 T.m7 hr rfl (pa_cons (pv 0) pa_nil)) (pa_cons (pe_mk1 T.m8 hr rfl (pa_cons (pv 0) pa_nil)) (pa_cons (pe_mk1 T.m9 hr rfl (pa_cons (pv 0) pa_nil)) (pa_cons (pe_mk1 T.m10 hr rfl (pa_cons (pv 0) pa_nil)) pa_nil))))) (pg_tup rfl (pgs_cons (pg_name (i := 7) nd rfl (Or.inl rfl)) (pgs_cons (pg_name (i := 8) nd rfl (Or.inl rfl)) (pgs_cons (pg_name (i := 9) nd rfl (Or.inl rfl)) (pgs_cons (pg_name (i := 10) nd rfl (Or.inl rfl)) pgs_nil))))))
      (pss_cons (ps_expr (by exact (pe_bm PySem.F.plainAttrs_list PySem.F.slot_list_extend PySem.F.type_list_extend mt_extend (pv 5) (pa_cons (pe_lst (pa_cons (pe_tup (pa_cons (pv 7) (pa_cons (pe_lst (pa_cons (pe_qfld (pv 7)) pa_nil)) (pa_cons (pe_lst (pa_cons (pv 0) pa_nil)) pa_nil)))) (pa_cons (pe_tup (pa_cons (pv 8) (pa_cons (pe_lst (pa_cons (pe_qfld (pv 8)) pa_nil)) (pa_cons (pe_lst (pa_cons (pv 0) pa_nil)) pa_nil)))) (pa_cons (pe_tup (pa_cons (pv 9) (pa_cons (pe_lst (pa_cons (pe_qfld (pv 9)) pa_nil)) (pa_cons (pe_lst (pa_cons (pv 0) pa_nil)) pa_nil)))) pa_nil)))) pa_nil))))
      (pss_cons (ps_par3 (i := 11) (j := 12) (l := 13) rfl nd rfl rfl rfl (by decide) (by decide) (by decide) rfl rfl rfl (pa_cons (pe_mk2 T.m11 hr rfl (pa_cons (pv 0) (pa_cons (pv 1) pa_nil))) (pa_cons (pe_mk1 T.m12 hr rfl (pa_cons (pv 0) pa_nil)) (pa_cons (pe_mk1 T.m13 hr rfl (pa_cons (pv 0) pa_nil)) pa_nil))) (by rfl))
      (pss_cons (ps_expr (by exact (pe_bm PySem.F.plainAttrs_list PySem.F.slot_list_extend PySem.F.type_list_extend mt_extend (pv 5) (pa_cons (pe_lst (pa_cons (pe_tup (pa_cons (pv 10) (pa_cons (pe_lst (pa_cons (pe_qfld (pv 10)) pa_nil)) (pa_cons (pe_lst (pa_cons (pv 0) pa_nil)) pa_nil)))) (pa_cons (pe_tup (pa_cons (pv 11) (pa_cons (pe_lst (pa_cons (pe_qfld (pv 11)) (pa_cons (pe_qfld (pv 11)) pa_nil))) (pa_cons (pe_lst (pa_cons (pv 0) (pa_cons (pv 1) pa_nil))) pa_nil)))) pa_nil))) pa_nil))))
      (pss_cons (ps_par (i := 14) (j := 15) rfl nd rfl rfl (by decide) rfl rfl (pa_cons (pe_mk1 T.m14 hr rfl (pa_cons (pv 0) pa_nil)) (pa_cons (pe_mk1 T.m15 hr rfl (pa_cons (pv 0) pa_nil)) pa_nil)) (by rfl))
      (pss_cons (ps_expr (by exact (pe_bm PySem.F.plainAttrs_list PySem.F.slot_list_extend PySem.F.type_list_extend mt_extend (pv 5) (pa_cons (pe_lst (pa_cons (pe_tup (pa_cons (pv 12) (pa_cons (pe_lst (pa_cons (pe_qfld (pv 12)) pa_nil)) (pa_cons (pe_lst (pa_cons (pv 0) pa_nil)) pa_nil)))) (pa_cons (pe_tup (pa_cons (pv 13) (pa_cons (pe_lst (pa_cons (pe_qfld (pv 13)) pa_nil)) (pa_cons (pe_lst (pa_cons (pv 0) pa_nil)) pa_nil)))) (pa_cons (pe_tup (pa_cons (pv 14) (pa_cons (pe_lst (pa_cons (pe_qfld (pv 14)) pa_nil)) (pa_cons (pe_lst (pa_cons (pv 0) pa_nil)) pa_nil)))) pa_nil)))) pa_nil))))
      (pss_cons (ps_expr (by exact (pe_bm PySem.F.plainAttrs_list PySem.F.slot_list_append PySem.F.type_list_append mt_append (pv 5) (pa_cons (pe_tup (pa_cons (pv 15) (pa_cons (pe_lst (pa_cons (pe_qfld (pv 15)) pa_nil)) (pa_cons (pe_lst (pa_cons (pv 0) pa_nil)) pa_nil)))) pa_nil))))
      (pss_cons (ps_for PassesOwn.never rfl (pi_tup (pe_tup (pa_cons (pe_mk0 T.m16 rfl) (pa_cons (pe_mk0 T.m17 rfl) (pa_cons (pe_mk0 T.m18 rfl) (pa_cons (pe_mk0 T.m19 rfl) (pa_cons (pe_mk0 T.m20 rfl) (pa_cons (pe_mk0 T.m21 rfl) pa_nil)))))))) (pg_name (i := 6) nd rfl (Or.inl rfl)) (pss_one (ps_expr (by exact (pe_bm PySem.F.plainAttrs_list PySem.F.slot_list_append PySem.F.type_list_append mt_append (pv 5) (pa_cons (pe_tup (pa_cons (pv 6) (pa_cons (pe_lst pa_nil) (pa_cons (pe_lst pa_nil) pa_nil)))) pa_nil))))))
      (pss_one (ps_ret (pv 5)))))))))))))), ?_⟩
    have lIx : ([("paper", o), ("index", v)] : List (Str × V)).lookup ("index" : Str) = some v := by
      rw [lookup_put, if_neg (by decide +kernel), lookup_put, if_pos rfl]
    refine st_par3 (B := H) (t1 := (C 0, [("index", v)], [v])) (t2 := (C 1, [("index", v)], [v])) (t3 := (C 2, [("index", v)], [v])) (Dom.of_same (Same.refl H)) (.cons (mk1 rfl) (.cons (mk1 rfl) (.cons (mk1 rfl) .nil))) fun u0 u1 u2 H1 s1 m0 m1 m2 => ?_
    have d1 := Dom.of_same s1
    show tSeq _ _ _ [some v, some o, some u0, some u1, some u2, none, none, none, none, none, none, none, none, none, none, none] H1
    refine st_found (ts := tb0 C v o) s1 (Nat.le_of_ble_eq_true rfl) (.cons (re1 d1 m0 T.m0.q T.m0.nf rfl rfl rfl) (.cons (re1 d1 m1 T.m1.q T.m1.nf rfl rfl rfl) (.cons (re1 d1 m2 T.m2.q T.m2.nf rfl rfl rfl) .nil))) fun p H2 H3 s2 np s3 F0 => ?_
    show tSeq _ _ _ [some v, some o, some u0, some u1, some u2, some (.ref p), none, none, none, none, none, none, none, none, none, none] H3
    refine st_loop (ts' := tb1 C v o) rfl (Nat.le_of_ble_eq_true rfl) F0 (Nat.le_of_ble_eq_true rfl) (.cons (mk1 rfl) (.cons (mk1 rfl) (.cons (mk1 rfl) (.cons (mk1 rfl) .nil)))) (fun t ht u H1 d m y => by
      unfold tb1 at ht
      simp only [List.mem_cons, List.not_mem_nil, or_false] at ht
      rcases ht with rfl | rfl | rfl | rfl
      · exact re1 d m T.m3.q T.m3.nf rfl rfl rfl
      · exact re1 d m T.m4.q T.m4.nf rfl rfl rfl
      · exact re1 d m T.m5.q T.m5.nf rfl rfl rfl
      · exact re1 d m T.m6.q T.m6.nf rfl rfl rfl) fun x4 H4 k4 F1 => ?_
    show tSeq _ _ _ [some v, some o, some u0, some u1, some u2, some (.ref p), x4, none, none, none, none, none, none, none, none, none] H4
    refine st_par4 (B := bse H p) (t1 := (C 7, [("until", v)], [v])) (t2 := (C 8, [("dial", v)], [v])) (t3 := (C 9, [("rows", v)], [v])) (t4 := (C 10, [("line", v)], [v])) F1.dom (.cons (mk1 rfl) (.cons (mk1 rfl) (.cons (mk1 rfl) (.cons (mk1 rfl) .nil)))) fun u7 u8 u9 u10 H5 s5 m7 m8 m9 m10 => ?_
    show tSeq _ _ _ [some v, some o, some u0, some u1, some u2, some (.ref p), x4, some u7, some u8, some u9, some u10, none, none, none, none, none] H5
    replace F1 := F1.later s5
    refine st_ext (ts' := tb2 C v o) rfl F1 (Nat.le_of_ble_eq_true rfl) (.cons (re1 F1.dom m7 T.m7.q T.m7.nf rfl rfl rfl) (.cons (re1 F1.dom m8 T.m8.q T.m8.nf rfl rfl rfl) (.cons (re1 F1.dom m9 T.m9.q T.m9.nf rfl rfl rfl) .nil))) fun H6 k6 F2 => ?_
    show tSeq _ _ _ [some v, some o, some u0, some u1, some u2, some (.ref p), x4, some u7, some u8, some u9, some u10, none, none, none, none, none] H6
    refine st_par3 (B := bse H p) (t1 := (C 11, [("paper", o), ("index", v)], [v, o])) (t2 := (C 12, [("place", v)], [v])) (t3 := (C 13, [("most", v)], [v])) F2.dom (.cons (mk2 rfl rfl) (.cons (mk1 rfl) (.cons (mk1 rfl) .nil))) fun u11 u12 u13 H7 s7 m11 m12 m13 => ?_
    show tSeq _ _ _ [some v, some o, some u0, some u1, some u2, some (.ref p), x4, some u7, some u8, some u9, some u10, some u11, some u12, some u13, none, none] H7
    replace F2 := F2.later s7
    replace m10 := (m10.keep k6).later s7
    refine st_ext (ts' := tb3 C v o) rfl F2 (Nat.le_of_ble_eq_true rfl) (.cons (re1 F2.dom m10 T.m10.q T.m10.nf rfl rfl rfl) (.cons (re2 F2.dom m11 T.m11.q T.m11.nf T.m11.ng lIx rfl rfl rfl rfl) .nil)) fun H8 k8 F3 => ?_
    show tSeq _ _ _ [some v, some o, some u0, some u1, some u2, some (.ref p), x4, some u7, some u8, some u9, some u10, some u11, some u12, some u13, none, none] H8
    refine st_par2 (B := bse H p) (t1 := (C 14, [("last", v)], [v])) (t2 := (C 15, [("place", v)], [v])) F3.dom (.cons (mk1 rfl) (.cons (mk1 rfl) .nil)) fun u14 u15 H9 s9 m14 m15 => ?_
    show tSeq _ _ _ [some v, some o, some u0, some u1, some u2, some (.ref p), x4, some u7, some u8, some u9, some u10, some u11, some u12, some u13, some u14, some u15] H9
    replace F3 := F3.later s9
    replace m12 := (m12.keep k8).later s9
    replace m13 := (m13.keep k8).later s9
    refine st_ext (ts' := tb4 C v o) rfl F3 (Nat.le_of_ble_eq_true rfl) (.cons (re1 F3.dom m12 T.m12.q T.m12.nf rfl rfl rfl) (.cons (re1 F3.dom m13 T.m13.q T.m13.nf rfl rfl rfl) (.cons (re1 F3.dom m14 T.m14.q T.m14.nf rfl rfl rfl) .nil))) fun H10 k10 F4 => ?_
    show tSeq _ _ _ [some v, some o, some u0, some u1, some u2, some (.ref p), x4, some u7, some u8, some u9, some u10, some u11, some u12, some u13, some u14, some u15] H10
    refine st_app rfl F4 (Nat.le_of_ble_eq_true rfl) (re1 F4.dom (m15.keep k10) T.m15.q T.m15.nf rfl rfl rfl) fun H11 k11 F5 => ?_
    show tSeq _ _ _ [some v, some o, some u0, some u1, some u2, some (.ref p), x4, some u7, some u8, some u9, some u10, some u11, some u12, some u13, some u14, some u15] H11
    refine st_loop (ts' := tb6 C v o) rfl (Nat.le_of_ble_eq_true rfl) F5 (Nat.le_of_ble_eq_true rfl) (.cons mk0 (.cons mk0 (.cons mk0 (.cons mk0 (.cons mk0 (.cons mk0 .nil)))))) (fun t ht u H1 d m y => by
      unfold tb6 at ht
      simp only [List.mem_cons, List.not_mem_nil, or_false] at ht
      rcases ht with rfl | rfl | rfl | rfl | rfl | rfl
      · exact re0 d m rfl
      · exact re0 d m rfl
      · exact re0 d m rfl
      · exact re0 d m rfl
      · exact re0 d m rfl
      · exact re0 d m rfl) fun x12 H12 k12 F6 => ?_
    exact ⟨_, rfl, k p H12 F6.same F6⟩
end
end Gy

namespace Gy
open PySem L2 PySem.Spec PyProof.Rows
open PySem.GyRX (ShowC)
def IsE (te : TE) (σ : L2.St) (H0 : Hp) (b : Bool) : Prop := ∀ H Q, Same H0 H → Q (.bl b) H → te σ H Q
def IsA (ta : TA) (σ : L2.St) (H0 : Hp) (bs : List V) : Prop := ∀ H Q, Same H0 H → Q bs H → ta σ H Q
section
variable {K : PySem.W.Frag} {B H H0 : Hp} {σ : L2.St} {D : Ends} {rest : TS} {ta : TA} {te : TE} {b : Bool} {bs cs : List V} {p : Addr}
theorem IsA.nil : IsA tNil σ H0 [] := fun H Q _ k => k
theorem IsA.cons (h : IsE te σ H0 b) (h' : IsA ta σ H0 bs) : IsA (tCons te ta) σ H0 (.bl b :: bs) := fun H Q s k => h H _ s (h' H _ s k)
theorem is_read {C C' : Addr} {fs : List (Str × V)} {u : V} (m : Made B H0 u C fs) (T : ExQ K C) (h0 : σ[0]? = some (some u)) (hk : PySem.W.kitOne K (.ref C) (.ref C') = some b) : IsE (tCB (rIsQ K) (tCons (tVar 0) (tCons (tC (.ref C')) tNil))) σ H0 b := fun H Q s k => by
  obtain ⟨e, t0, d, rfl, h2, h3, h4⟩ := m
  refine ⟨_, h0, e, C, t0, d, _, .ref C', b, rfl, T, s _ _ h3, fun dd z => ?_, fun u r => r, hk, k⟩
  rcases h4 with ⟨rfl, _⟩ | ⟨d', rfl, h5, h6⟩
  · cases z
  · cases z
    exact ⟨fs, s _ _ h6⟩
theorem st_told (hl : bs.length ≤ 100) (h : IsA ta σ H0 bs) (k : ∀ p H', H0 p = none → Same H0 H' → H' p = some (.lst bs) → rest D (σ.set 1 (some (.ref p))) H') : tSeq (tAsg (tLst ta) (gName 1)) rest D σ H0 :=
  h H0 _ (Same.refl H0) ⟨by rw [sizeLine_eq]; omega, fun p np => k _ _ np (same_new (Same.refl H0) np) upd_same⟩
theorem st_more (h1 : σ[1]? = some (some (.ref p))) (np : H0 p = none) (s : Same H0 H) (e : H p = some (.lst bs)) (hl : bs.length + cs.length ≤ 100) (h : IsA ta σ H0 cs) (k : ∀ H', Same H0 H' → H' p = some (.lst (bs ++ cs)) → rest D σ H') :
    tSeq (tDrop (tBM K "list" rExtend (tVar 1) (tCons (tLst ta) tNil))) rest D σ H := by
  refine ⟨_, h1, .inl ⟨rfl, _, SqL.of e⟩, h H _ s ⟨by rw [sizeLine_eq]; omega, fun q nq => ?_⟩⟩
  have s2 : Same H (upd H q (.lst cs)) := same_new (Same.refl H) nq
  exact ⟨p, q, _, cs, rfl, rfl, s2 _ _ e, upd_same, by rw [sizeLine_eq]; omega, k _ (same_put (s.trans s2) np) upd_same⟩
theorem st_last (h1 : σ[1]? = some (some (.ref p))) (np : H0 p = none) (s : Same H0 H) (e : H p = some (.lst bs)) (hl : bs.length ≤ 100) (h : IsE te σ H0 b) (k : ∀ H', Same H0 H' → H' p = some (.lst (bs ++ [.bl b])) → rest D σ H') :
    tSeq (tDrop (tBM K "list" rAppend (tVar 1) (tCons te tNil))) rest D σ H :=
  ⟨_, h1, .inl ⟨rfl, _, SqL.of e⟩, h H _ s ⟨p, _, _, rfl, rfl, e, by rw [sizeLine_eq]; omega, k _ (same_put s np) upd_same⟩⟩
end
structure TxtJ (K : PySem.W.Frag) (mg : Str → Option Value) (C : Nat → Addr) : Prop where
  isi : mg "isinstance" = none
  rng : mg "range" = none
  len : mg "len" = none
  q : ∀ i, i < 22 → ExQ K (C i)
  kit : ∀ i j, i < 22 → j < 22 → PySem.W.kitOne K (.ref (C i)) (.ref (C j)) = some (decide (i = j))
  g0 : mg "BadDeed" = some (.ref (C 0))
  g1 : mg "NoGround" = some (.ref (C 1))
  g2 : mg "NoIndex" = some (.ref (C 2))
  g3 : mg "NoKind" = some (.ref (C 3))
  g4 : mg "NoName" = some (.ref (C 4))
  g5 : mg "NotEver" = some (.ref (C 5))
  g6 : mg "Unlike" = some (.ref (C 6))
  g7 : mg "Barred" = some (.ref (C 7))
  g8 : mg "NoDial" = some (.ref (C 8))
  g9 : mg "NoLot" = some (.ref (C 9))
  g10 : mg "NoText" = some (.ref (C 10))
  g11 : mg "NotHeld" = some (.ref (C 11))
  g12 : mg "NotMet" = some (.ref (C 12))
  g13 : mg "TooMany" = some (.ref (C 13))
  g14 : mg "Untold" = some (.ref (C 14))
  g15 : mg "Wrong" = some (.ref (C 15))
  g16 : mg "NoCommand" = some (.ref (C 16))
  g17 : mg "NoDeed" = some (.ref (C 17))
  g18 : mg "NoNews" = some (.ref (C 18))
  g19 : mg "NotMorning" = some (.ref (C 19))
  g20 : mg "NotTimed" = some (.ref (C 20))
  g21 : mg "Nothing" = some (.ref (C 21))
def spClasses (C : Nat → Addr) : Sp := fun vs H Q _ => ∃ u i B fs, vs = [u] ∧ i < 22 ∧ Made B H u (C i) fs ∧ ∀ p H', Same H H' → H p = none → H' p = some (.lst [.int (i : Nat)]) → Q (.ref p) H'
abbrev sClasses : Stmt := top 31
section
variable {P : Program} {w : World} {K : PySem.W.Frag} {mg : Str → Option Value} {base : Heap}
theorem scClasses : FnScope ["_law_error", "_law_told", "_law_k"] ["_law_error"] (defScope sClasses) := ⟨rfl, rfl, rfl, by decide +kernel, rfl, by decide +kernel, by decide +kernel⟩
theorem ok_classes {f : Addr} {fd : FuncData} {C : Nat → Addr} (F : Fun K "_law_classes_of" "_law_classes_of" sClasses f fd) (T : TxtJ K mg C) : FnOk P w K mg base CX0 1 f fd ["_law_error"] (spClasses C) := by
  refine F.ok scClasses (fun vs H Q E h => ?_) (fun cdv A outer s H vs Q E hr h => ?_)
  · obtain ⟨u, i, B, fs, rfl, _⟩ := h
    rfl
  · obtain ⟨u, i, B, fs, rfl, hi, m, k⟩ := h
    have nd := scClasses.nd
    refine ⟨_, (pss_cons (ps_set (i := 1) nd rfl (Or.inr rfl) (pe_lst (pa_cons (pe_callB call_isQ (by rfl) T.isi (by decide +kernel) (pa_cons (pv 0) (pa_cons (pe_glob (v := .ref (C 0)) rfl T.g0 rfl) pa_nil))) (pa_cons (pe_callB call_isQ (by rfl) T.isi (by decide +kernel) (pa_cons (pv 0) (pa_cons (pe_glob (v := .ref (C 1)) rfl T.g1 rfl) pa_nil))) (pa_cons (pe_callB call_isQ (by rfl) T.isi (by decide +kernel) (pa_cons (pv 0) (pa_cons (pe_glob (v := .ref (C 2)) rfl T.g2 rfl) pa_nil))) pa_nil)))))
      (pss_cons (ps_expr (by exact (pe_bm PySem.F.plainAttrs_list PySem.F.slot_list_extend PySem.F.type_list_extend mt_extend (pv 1) (pa_cons (pe_lst (pa_cons (pe_callB call_isQ (by rfl) T.isi (by decide +kernel) (pa_cons (pv 0) (pa_cons (pe_glob (v := .ref (C 3)) rfl T.g3 rfl) pa_nil))) (pa_cons (pe_callB call_isQ (by rfl) T.isi (by decide +kernel) (pa_cons (pv 0) (pa_cons (pe_glob (v := .ref (C 4)) rfl T.g4 rfl) pa_nil))) (pa_cons (pe_callB call_isQ (by rfl) T.isi (by decide +kernel) (pa_cons (pv 0) (pa_cons (pe_glob (v := .ref (C 5)) rfl T.g5 rfl) pa_nil))) pa_nil)))) pa_nil))))
      (pss_cons (ps_expr (by exact (pe_bm PySem.F.plainAttrs_list PySem.F.slot_list_extend PySem.F.type_list_extend mt_extend (pv 1) (pa_cons (pe_lst (pa_cons (pe_callB call_isQ (by rfl) T.isi (by decide +kernel) (pa_cons (pv 0) (pa_cons (pe_glob (v := .ref (C 6)) rfl T.g6 rfl) pa_nil))) (pa_cons (pe_callB call_isQ (by rfl) T.isi (by decide +kernel) (pa_cons (pv 0) (pa_cons (pe_glob (v := .ref (C 7)) rfl T.g7 rfl) pa_nil))) (pa_cons (pe_callB call_isQ (by rfl) T.isi (by decide +kernel) (pa_cons (pv 0) (pa_cons (pe_glob (v := .ref (C 8)) rfl T.g8 rfl) pa_nil))) pa_nil)))) pa_nil))))
      (pss_cons (ps_expr (by exact (pe_bm PySem.F.plainAttrs_list PySem.F.slot_list_extend PySem.F.type_list_extend mt_extend (pv 1) (pa_cons (pe_lst (pa_cons (pe_callB call_isQ (by rfl) T.isi (by decide +kernel) (pa_cons (pv 0) (pa_cons (pe_glob (v := .ref (C 9)) rfl T.g9 rfl) pa_nil))) (pa_cons (pe_callB call_isQ (by rfl) T.isi (by decide +kernel) (pa_cons (pv 0) (pa_cons (pe_glob (v := .ref (C 10)) rfl T.g10 rfl) pa_nil))) (pa_cons (pe_callB call_isQ (by rfl) T.isi (by decide +kernel) (pa_cons (pv 0) (pa_cons (pe_glob (v := .ref (C 11)) rfl T.g11 rfl) pa_nil))) pa_nil)))) pa_nil))))
      (pss_cons (ps_expr (by exact (pe_bm PySem.F.plainAttrs_list PySem.F.slot_list_extend PySem.F.type_list_extend mt_extend (pv 1) (pa_cons (pe_lst (pa_cons (pe_callB call_isQ (by rfl) T.isi (by decide +kernel) (pa_cons (pv 0) (pa_cons (pe_glob (v := .ref (C 12)) rfl T.g12 rfl) pa_nil))) (pa_cons (pe_callB call_isQ (by rfl) T.isi (by decide +kernel) (pa_cons (pv 0) (pa_cons (pe_glob (v := .ref (C 13)) rfl T.g13 rfl) pa_nil))) (pa_cons (pe_callB call_isQ (by rfl) T.isi (by decide +kernel) (pa_cons (pv 0) (pa_cons (pe_glob (v := .ref (C 14)) rfl T.g14 rfl) pa_nil))) pa_nil)))) pa_nil))))
      (pss_cons (ps_expr (by exact (pe_bm PySem.F.plainAttrs_list PySem.F.slot_list_extend PySem.F.type_list_extend mt_extend (pv 1) (pa_cons (pe_lst (pa_cons (pe_callB call_isQ (by rfl) T.isi (by decide +kernel) (pa_cons (pv 0) (pa_cons (pe_glob (v := .ref (C 15)) rfl T.g15 rfl) pa_nil))) (pa_cons (pe_callB call_isQ (by rfl) T.isi (by decide +kernel) (pa_cons (pv 0) (pa_cons (pe_glob (v := .ref (C 16)) rfl T.g16 rfl) pa_nil))) (pa_cons (pe_callB call_isQ (by rfl) T.isi (by decide +kernel) (pa_cons (pv 0) (pa_cons (pe_glob (v := .ref (C 17)) rfl T.g17 rfl) pa_nil))) pa_nil)))) pa_nil))))
      (pss_cons (ps_expr (by exact (pe_bm PySem.F.plainAttrs_list PySem.F.slot_list_extend PySem.F.type_list_extend mt_extend (pv 1) (pa_cons (pe_lst (pa_cons (pe_callB call_isQ (by rfl) T.isi (by decide +kernel) (pa_cons (pv 0) (pa_cons (pe_glob (v := .ref (C 18)) rfl T.g18 rfl) pa_nil))) (pa_cons (pe_callB call_isQ (by rfl) T.isi (by decide +kernel) (pa_cons (pv 0) (pa_cons (pe_glob (v := .ref (C 19)) rfl T.g19 rfl) pa_nil))) (pa_cons (pe_callB call_isQ (by rfl) T.isi (by decide +kernel) (pa_cons (pv 0) (pa_cons (pe_glob (v := .ref (C 20)) rfl T.g20 rfl) pa_nil))) pa_nil)))) pa_nil))))
      (pss_cons (ps_expr (by exact (pe_bm PySem.F.plainAttrs_list PySem.F.slot_list_append PySem.F.type_list_append mt_append (pv 1) (pa_cons (pe_callB call_isQ (by rfl) T.isi (by decide +kernel) (pa_cons (pv 0) (pa_cons (pe_glob (v := .ref (C 21)) rfl T.g21 rfl) pa_nil))) pa_nil))))
      (pss_one (ps_ret (pe_lc (own := [("_law_k", 2)]) (g := gName 2) (tt := tB (tOp (rIxL K) (tVar 1) (tVar 2))) rfl nd (pi_range1 (by rfl) T.rng (pa_cons (pe_callB call_len_seq (by rfl) T.len PySem.boot_len (pa_cons (pv 1) pa_nil)) pa_nil))
        (blkOk_by (own := [("_law_k", 2)]) (N := ["_law_error", "_law_told", "_law_k"]) (sc := defScope sClasses) (by decide +kernel))
        (fun _ _ _ _ _ => pg_name (i := 2) nd rfl (Or.inl rfl)) (fun _ _ _ _ _ => pts_one (pt_val (pe_ix ix_list (pv 1) (pv 2) (fun _ _ => rfl)))) (fun _ _ _ _ _ => pv 2)))))))))))), ?_⟩
    refine st_told (Nat.le_of_ble_eq_true rfl) (.cons (is_read m (T.q i hi) rfl (T.kit i 0 hi (by decide))) (.cons (is_read m (T.q i hi) rfl (T.kit i 1 hi (by decide))) (.cons (is_read m (T.q i hi) rfl (T.kit i 2 hi (by decide))) .nil))) fun p H1 np s1 e1 => ?_
    show tSeq _ _ _ [some u, some (.ref p), none] H1
    refine st_more (p := p) rfl np s1 e1 (Nat.le_of_ble_eq_true rfl) (.cons (is_read m (T.q i hi) rfl (T.kit i 3 hi (by decide))) (.cons (is_read m (T.q i hi) rfl (T.kit i 4 hi (by decide))) (.cons (is_read m (T.q i hi) rfl (T.kit i 5 hi (by decide))) .nil))) fun H2 s2 e2 => ?_
    refine st_more (p := p) rfl np s2 e2 (Nat.le_of_ble_eq_true rfl) (.cons (is_read m (T.q i hi) rfl (T.kit i 6 hi (by decide))) (.cons (is_read m (T.q i hi) rfl (T.kit i 7 hi (by decide))) (.cons (is_read m (T.q i hi) rfl (T.kit i 8 hi (by decide))) .nil))) fun H3 s3 e3 => ?_
    refine st_more (p := p) rfl np s3 e3 (Nat.le_of_ble_eq_true rfl) (.cons (is_read m (T.q i hi) rfl (T.kit i 9 hi (by decide))) (.cons (is_read m (T.q i hi) rfl (T.kit i 10 hi (by decide))) (.cons (is_read m (T.q i hi) rfl (T.kit i 11 hi (by decide))) .nil))) fun H4 s4 e4 => ?_
    refine st_more (p := p) rfl np s4 e4 (Nat.le_of_ble_eq_true rfl) (.cons (is_read m (T.q i hi) rfl (T.kit i 12 hi (by decide))) (.cons (is_read m (T.q i hi) rfl (T.kit i 13 hi (by decide))) (.cons (is_read m (T.q i hi) rfl (T.kit i 14 hi (by decide))) .nil))) fun H5 s5 e5 => ?_
    refine st_more (p := p) rfl np s5 e5 (Nat.le_of_ble_eq_true rfl) (.cons (is_read m (T.q i hi) rfl (T.kit i 15 hi (by decide))) (.cons (is_read m (T.q i hi) rfl (T.kit i 16 hi (by decide))) (.cons (is_read m (T.q i hi) rfl (T.kit i 17 hi (by decide))) .nil))) fun H6 s6 e6 => ?_
    refine st_more (p := p) rfl np s6 e6 (Nat.le_of_ble_eq_true rfl) (.cons (is_read m (T.q i hi) rfl (T.kit i 18 hi (by decide))) (.cons (is_read m (T.q i hi) rfl (T.kit i 19 hi (by decide))) (.cons (is_read m (T.q i hi) rfl (T.kit i 20 hi (by decide))) .nil))) fun H7 s7 e7 => ?_
    refine st_last (p := p) rfl np s7 e7 (Nat.le_of_ble_eq_true rfl) (is_read m (T.q i hi) rfl (T.kit i 21 hi (by decide))) fun H8 s8 e8 => ?_
    replace e8 : H8 p = some (.lst ((List.range 22).map fun j => V.bl (decide (i = j)))) := e8
    generalize hz : ((List.range 22).map fun j => V.bl (decide (i = j))) = zs at e8
    have zl : zs.length = 22 := by rw [← hz]; simp
    have zg : ∀ j, j < 22 → zs[j]? = some (V.bl (decide (i = j))) := fun j hj => by
      rw [← hz, List.getElem?_map, List.getElem?_range hj]
      rfl
    refine ⟨_, rfl, p, zs, rfl, .inl (SqL.of e8), _, rfl, by omega, by omega, fun D nD => ?_⟩
    have hD : p ≠ D := ne_of_none e8 nD
    have ez : ((zs.length : Nat) : Int).toNat = 22 := by rw [zl]; rfl
    rw [ez]
    refine lc_range (fun j H' => Same H8 H' ∧ H' D = some (.lst (if i < j then [V.int (i : Nat)] else []))) ⟨same_new (Same.refl H8) nD, by rw [upd_same, if_neg (by omega)]⟩ ?_ ?_
    · rintro j H' hj ⟨s', e'⟩
      refine ⟨rfl, _, rfl, _, rfl, p, zs, _, _, rfl, rfl, SqL.of (s' _ _ e8), (by rw [Int.zero_add]; exact atI_nat (zg j hj)), decide (i = j), rfl, ?_⟩
      by_cases hij : i = j
      · rw [decide_eq_true hij]
        subst hij
        refine iteT ?_
        rw [if_neg (by omega)] at e'
        refine ⟨_, rfl, [], e', by show 0 < sizeLine; decide, same_put s' nD, ?_⟩
        rw [upd_same, if_pos (by omega), Int.zero_add]
        rfl
      · rw [decide_eq_false hij]
        refine (if_neg Bool.false_ne_true).mpr ⟨s', ?_⟩
        rw [e']
        by_cases h' : i < j
        · rw [if_pos h', if_pos (by omega)]
        · rw [if_neg h', if_neg (by omega)]
    · rintro H' ⟨s', e'⟩
      rw [if_pos hi] at e'
      exact k D H' (s8.trans s') (s8.free nD) e'
end
end Gy

namespace Gy
open PySem L2 PySem.Spec PyProof.Rows
open PySem.GyRX (ShowC)
/-! ### a list that is made longer -/
mutual
theorem Rp.dep {K : PySem.W.Frag} {H : Hp} : ∀ {v : V} {d d' : D}, Rp K H v d → Rp K H v d' → d.depth = d'.depth
  | _, _, _, .non, q => by cases q; rfl
  | _, _, _, .bl b, q => by cases q; rfl
  | _, _, _, .int i, q => by cases q; rfl
  | _, _, _, .str x, q => by cases q; rfl
  | _, _, _, .lst e r, q => by
    cases q with
    | lst e' r' =>
      rw [e] at e'
      cases e'
      simp only [D.depth, RpAll.dep r r']
    | tup e' _ => rw [e] at e'; cases e'
    | dic e' _ _ => rw [e] at e'; cases e'
    | exc e' _ _ _ _ _ => rw [e] at e'; exact absurd (Option.some.inj e').symm exq_lst
  | _, _, _, .tup e r, q => by
    cases q with
    | lst e' r' => rw [e] at e'; cases e'
    | tup e' r' =>
      rw [e] at e'
      cases e'
      simp only [D.depth, RpAll.dep r r']
    | dic e' _ _ => rw [e] at e'; cases e'
    | exc e' _ _ _ _ _ => rw [e] at e'; exact absurd (Option.some.inj e').symm exq_tup
  | _, _, _, .dic e l r, q => by
    cases q with
    | lst e' r' => rw [e] at e'; cases e'
    | tup e' r' => rw [e] at e'; cases e'
    | dic e' l' r' =>
      rw [e] at e'
      injection e' with e'
      injection e' with e'
      obtain ⟨h1, h2⟩ := zip_keys l l' e'
      subst h1
      subst h2
      simp only [D.depth, RpAll.dep r r']
    | exc e' _ _ _ _ _ => rw [e] at e'; exact absurd (Option.some.inj e').symm exq_dK
  | _, _, _, .exc e _ _ _ _ _, q => by
    cases q with
    | lst e' r' => rw [e] at e'; exact absurd (Option.some.inj e') exq_lst
    | tup e' r' => rw [e] at e'; exact absurd (Option.some.inj e') exq_tup
    | dic e' _ _ => rw [e] at e'; exact absurd (Option.some.inj e') exq_dK
    | exc _ _ _ _ _ _ => rfl
theorem RpAll.dep {K : PySem.W.Frag} {H : Hp} : ∀ {vs : List V} {ds ds' : List D}, RpAll K H vs ds → RpAll K H vs ds' → D.depthAll ds = D.depthAll ds'
  | _, _, _, .nil, q => by cases q; rfl
  | _, _, _, .cons r rs, q => by
    cases q with
    | cons r' rs' => simp only [D.depthAll, Rp.dep r r', RpAll.dep rs rs']
end
section
variable {K : PySem.W.Frag} {H : Hp} {a : Addr} {xs : List V} {ds : List D} {o : HO} (ha : H a = some (.lst xs)) (r0 : RpAll K H xs ds)
include ha r0
mutual
theorem Rp.put : ∀ {v : V} {d : D}, Rp K H v d → d.depth ≤ D.depthAll ds → Rp K (upd H a o) v d
  | _, _, .non, _ => .non
  | _, _, .bl b, _ => .bl b
  | _, _, .int i, _ => .int i
  | _, _, .str x, _ => .str x
  | _, _, .lst (a := a') e r, h => by
    have hne : a' ≠ a := fun z => by
      rw [z, ha] at e
      cases e
      have q := RpAll.dep r0 r
      simp only [D.depth] at h
      omega
    exact .lst (by rw [upd_ne hne]; exact e) (RpAll.put r (by simp only [D.depth] at h; omega))
  | _, _, .tup (a := a') e r, h => by
    have hne : a' ≠ a := fun z => by
      rw [z, ha] at e
      cases e
    exact .tup (by rw [upd_ne hne]; exact e) (RpAll.put r (by simp only [D.depth] at h; omega))
  | _, _, .dic (a := a') e l r, h => by
    have hne : a' ≠ a := fun z => by
      rw [z, ha] at e
      cases e
    exact .dic (by rw [upd_ne hne]; exact e) l (RpAll.put r (by simp only [D.depth] at h; omega))
  | _, _, .exc (a := a') (t0 := t0) e e2 e3 T m q, _ => by
    have hne : a' ≠ a := fun z => by
      rw [z, ha] at e
      exact exq_lst (Option.some.inj e).symm
    have hn3 : t0 ≠ a := fun z => by
      rw [z, ha] at e3
      cases e3
    refine .exc (by rw [upd_ne hne]; exact e) (fun dd z => ?_) (by rw [upd_ne hn3]; exact e3) T m q
    obtain ⟨fs, y⟩ := e2 dd z
    refine ⟨fs, ?_⟩
    rw [upd_ne (fun z' => by
      rw [z', ha] at y
      exact exd_lst (Option.some.inj y).symm)]
    exact y
theorem RpAll.put : ∀ {vs : List V} {es : List D}, RpAll K H vs es → D.depthAll es ≤ D.depthAll ds → RpAll K (upd H a o) vs es
  | _, _, .nil, _ => .nil
  | _, _, .cons r rs, h => .cons (Rp.put r (by simp only [D.depthAll] at h; omega)) (RpAll.put rs (by simp only [D.depthAll] at h; omega))
end
end
theorem Own.more {K : PySem.W.Frag} {B S : Hp} {a : Addr} {xs : List V} {ds : List D} (h : Own K B S (.ref a) (.lst ds)) (e : S a = some (.lst xs)) (n : B a = none) (x : Str) :
    Own K B (upd S a (.lst (xs ++ [.str x]))) (.ref a) (.lst (ds ++ [.str x])) := fun H' k => by
  have e' : H' a = some (.lst (xs ++ [.str x])) := k a _ n upd_same
  have h2 : Rp K (upd H' a (.lst xs)) (.ref a) (.lst ds) := h _ (fun y o ny ey => by
    by_cases hy : y = a
    · subst hy
      rw [upd_same, ← ey, e]
    · rw [upd_ne hy]
      exact k y o ny (by rw [upd_ne hy]; exact ey))
  cases h2 with
  | lst e3 r3 =>
    rw [upd_same] at e3
    cases e3
    have r4 := RpAll.put (o := .lst (xs ++ [.str x])) upd_same r3 r3 (Nat.le_refl _)
    have eq : upd (upd H' a (.lst xs)) a (.lst (xs ++ [.str x])) = H' := by
      funext y
      by_cases hy : y = a
      · subst hy
        rw [upd_same, e']
      · rw [upd_ne hy, upd_ne hy]
    rw [eq] at r4
    exact .lst e' (r4.append (.cons (.str x) .nil))
theorem Keeps.trans {B S H H' : Hp} (k : Keeps B S H) (k' : Keeps B H H') : Keeps B S H' := fun x o n e => k' x o n (k x o n e)
theorem Own.keep {K : PySem.W.Frag} {B S H : Hp} {v : V} {d : D} (h : Own K B S v d) (k : Keeps B S H) : Own K B H v d := fun H' k' => h H' (k.trans k')
theorem Keeps.ext {B H H' : Hp} {b : Addr} (hb : ∃ o, B b = some o) (e : Ext b H H') : Keeps B H H' := fun x o n h => by
  obtain ⟨u, hb⟩ := hb
  exact e x o (fun z => by rw [z, hb] at n; cases n) h
theorem BagC.some {b c : Addr} {H : Hp} (h : BagC c H b) : ∃ o, H b = some o := by
  obtain ⟨x0, x1, x2, ns, h⟩ := h
  exact ⟨_, h.hb⟩
theorem Ext.trans' {b : Addr} {H H1 H2 : Hp} (e : Ext b H H1) (e' : Ext b H1 H2) : Ext b H H2 := fun a o n h => e' a o n (e a o n h)
/-- where the bag stands, a new address is new -/
theorem Ext.dom {b c : Addr} {B H : Hp} (e : Ext b B H) (B' : BagC c H b) : Dom B H := fun a n => by
  cases q : B a with
  | none => rfl
  | some o =>
    by_cases z : a = b
    · obtain ⟨u, hu⟩ := B'.some
      rw [z, hu] at n
      cases n
    · rw [e a o z q] at n
      cases n
theorem Own.base {K : PySem.W.Frag} {B H1 H2 : Hp} {v : V} {d : D} (h : Own K H1 H2 v d) (k : Dom B H1) : Own K B H2 v d := fun H' q => h H' fun x o n e => q x o (k x n) e
/-! ### lengths -/
theorem textFrom_more (t : Str) : ∀ (l : List Str) (k : Nat) (acc : Str), (textFrom k acc (l ++ [t])).length ≤ (textFrom k acc l).length + 2 + t.length
  | [], k, acc => by
    show (acc ++ (if k > 0 then ", " else "" : String) ++ t).length ≤ acc.length + 2 + t.length
    rw [strLen_append, strLen_append]
    have : ((if k > 0 then ", " else "" : String) : Str).length ≤ 2 := by split <;> decide
    omega
  | x :: l, k, acc => textFrom_more t l (k + 1) _
theorem listText_more (l : List Str) (t : Str) : (listText (l ++ [t])).length ≤ (listText l).length + 2 + t.length := by
  unfold listText
  rw [strLen_append, strLen_append]
  have := textFrom_more t l 0 "["
  omega
theorem listText_nil : (listText []).length = 2 := by decide
theorem shownAll_app : ∀ ds es : List D, D.shownAll (ds ++ es) = D.shownAll ds ++ D.shownAll es
  | [], _ => rfl
  | d :: ds, es => by simp only [List.cons_append, D.shownAll, shownAll_app ds es]
theorem okAll_app : ∀ ds es : List D, D.okAll (ds ++ es) = (D.okAll ds && D.okAll es)
  | [], _ => rfl
  | d :: ds, es => by simp only [List.cons_append, D.okAll, okAll_app ds es, Bool.and_assoc]
theorem depthAll_app : ∀ ds es : List D, D.depthAll (ds ++ es) = max (D.depthAll ds) (D.depthAll es)
  | [], es => by simp [D.depthAll]
  | d :: ds, es => by simp only [List.cons_append, D.depthAll, depthAll_app ds es]; omega
/-- fit to be shown -/
def D.fit (n m : Nat) (d : D) : Prop := d.ok = true ∧ d.shown.length ≤ n ∧ d.depth ≤ m
theorem few_fit {d : D} (h : d.few = true) : d.fit 20000 10 ∧ d.top = true := by
  unfold D.few at h
  simp only [Bool.and_eq_true, decide_eq_true_eq] at h
  exact ⟨⟨h.1.1, h.2.1, h.2.2⟩, h.1.2⟩
theorem D.fit.snoc {n m : Nat} {ds : List D} {d : D} (h : (D.lst ds).fit n m) (h' : d.fit n' m') : (D.lst (ds ++ [d])).fit (n + 2 + n') (max m (m' + 1)) := by
  obtain ⟨h1, h2, h3⟩ := h
  obtain ⟨g1, g2, g3⟩ := h'
  refine ⟨?_, ?_, ?_⟩
  · simp only [D.ok] at h1 ⊢
    rw [okAll_app, h1]
    simp [D.okAll, g1]
  · simp only [D.shown] at h2 ⊢
    rw [shownAll_app]
    have := listText_more (D.shownAll ds) d.shown
    simp only [D.shownAll]
    omega
  · simp only [D.depth] at h3 ⊢
    rw [depthAll_app]
    simp only [D.depthAll]
    omega
theorem fit_nil : (D.lst []).fit 2 1 := ⟨rfl, by decide, by decide⟩
theorem fit_more : (D.str "more").fit 10 0 := ⟨rfl, by decide +kernel, Nat.le_refl _⟩
theorem D.fit.mono {n m n' m' : Nat} {d : D} (h : d.fit n m) (h1 : n ≤ n') (h2 : m ≤ m') : d.fit n' m' := ⟨h.1, Nat.le_trans h.2.1 h1, Nat.le_trans h.2.2 h2⟩
theorem D.fit.good {K : PySem.W.Frag} {H : Hp} {v : V} {d : D} (h : d.fit 100000 20) (r : Rp K H v d) : Good K H v d := ⟨r, h⟩
/-! ### isinstance(v, list) -/
structure TxtK (K : PySem.W.Frag) (CW : Addr) : Prop where
  non : PySem.W.kitOne K (.type "NoneType") (.type "list") = some false
  bl : PySem.W.kitOne K (.type "bool") (.type "list") = some false
  int : PySem.W.kitOne K (.type "int") (.type "list") = some false
  str : PySem.W.kitOne K (.type "str") (.type "list") = some false
  lst : PySem.W.kitOne K (.type "list") (.type "list") = some true
  tup : PySem.W.kitOne K (.type "tuple") (.type "list") = some false
  dic : PySem.W.kitOne K (.type "dict") (.type "list") = some false
  exc : PySem.W.kitOne K (.ref CW) (.type "list") = some false
  q : ExQ K CW
  sh : ShowC K CW "Wrong"
  mro : PySem.W.mroIn K CW (.type "object") = some true
  eq : PySem.W.findIn K (.ref CW) "__eq__" = some (some (.builtin "object.__eq__"))
def D.isLst : D → Bool
  | .lst _ => true
  | _ => false
def IsL (K : PySem.W.Frag) (H : Hp) (v : V) (b : Bool) : Prop := (∃ t, TyX K H v t ∧ PySem.W.kitOne K t (.type "list") = some b) ∨ ∃ a C t0 d, v = .ref a ∧ ExQ K C ∧ H a = some (exq a C d t0) ∧ (∀ dd, d = some dd → ∃ fs, H dd = some (exd dd fs)) ∧ PySem.W.kitOne K (.ref C) (.type "list") = some b
def rIsV (K : PySem.W.Frag) : List V → Hp → VK → Prop := fun xs H Q => ∃ v b, xs = [v, .ty "list"] ∧ IsL K H v b ∧ Q (.bl b) H
theorem call_isV {X : Cx} : CallR X (.builtin "isinstance") (rIsV X.K) := by
  intro pins s σ H xs us Q I r h
  obtain ⟨v, b, e, h, q⟩ := h
  rcases h with ⟨t, ty, hk⟩ | ⟨a, C, t0, d, rfl, T, ha, hd, hk⟩
  · exact call_isi pins s σ H xs us Q I r ⟨v, .ty "list", t, .type "list", b, e, .ty _, ty, hk, q⟩
  · exact call_isQ pins s σ H xs us Q I r ⟨a, C, t0, d, .ty "list", .type "list", b, e, T, ha, hd, fun u z => z, hk, q⟩
theorem Rp.isL {K : PySem.W.Frag} {CW : Addr} {H : Hp} {v : V} {d : D} (T : TxtK K CW) (r : Rp K H v d) (h : d.top = true) : IsL K H v d.isLst := by
  cases r with
  | non => exact .inl ⟨_, .base .non, T.non⟩
  | bl b => exact .inl ⟨_, .base (.bl b), T.bl⟩
  | int i => exact .inl ⟨_, .base (.int i), T.int⟩
  | str x => exact .inl ⟨_, .base (.str x), T.str⟩
  | lst e _ => exact .inl ⟨_, .base (.lst e), T.lst⟩
  | tup e _ => exact .inl ⟨_, .base (.tup e), T.tup⟩
  | dic e _ _ => exact .inl ⟨_, .base (.dK e), T.dic⟩
  | exc _ _ _ _ _ _ => cases h
theorem Made.isL {K : PySem.W.Frag} {CW : Addr} {B H : Hp} {v : V} {fs : List (Str × V)} (T : TxtK K CW) (m : Made B H v CW fs) : IsL K H v false := by
  obtain ⟨e, t0, d, rfl, _, h3, h4⟩ := m
  refine .inr ⟨e, CW, t0, d, rfl, T.q, h3, fun dd z => ?_, T.exc⟩
  rcases h4 with ⟨rfl, _⟩ | ⟨d', rfl, _, h6⟩
  · cases z
  · cases z
    exact ⟨fs, h6⟩
end Gy

namespace Gy
open PySem L2 PySem.Spec PyProof.Rows
open PySem.GyRX (ShowC)
/-- a thing of the menu, new since B -/
def VP (K : PySem.W.Frag) (CW : Addr) (B H : Hp) (v : V) : Prop := ∃ d, Own K B H v d ∧ d.fit 30000 12 ∧ (d.top = true ∨ (d.isLst = false ∧ Made B H v CW [("place", .int 0)]))
theorem VP.keep {K : PySem.W.Frag} {CW : Addr} {B H H' : Hp} {v : V} (h : VP K CW B H v) (k : Keeps B H H') : VP K CW B H' v := by
  obtain ⟨d, h1, h2, h3⟩ := h
  exact ⟨d, h1.keep k, h2, h3.imp id fun ⟨m, n⟩ => ⟨m, n.keep k⟩⟩
def ItE (K : PySem.W.Frag) (CW : Addr) (b c : Addr) (B : Hp) (te : TE) (σ : L2.St) : Prop := ∀ H Q, Ext b B H → BagC c H b → (∀ v H', Ext b H H' → BagC c H' b → VP K CW B H' v → Q v H') → te σ H Q
def ItA (K : PySem.W.Frag) (CW : Addr) (b c : Addr) (B : Hp) (n : Nat) (ta : TA) (σ : L2.St) : Prop := ∀ H Q, Ext b B H → BagC c H b → (∀ vs H', Ext b H H' → BagC c H' b → vs.length = n → (∀ v ∈ vs, VP K CW B H' v) → Q vs H') → ta σ H Q
theorem fit_one {d : D} (h : d.fit 20000 10) : (D.lst [d]).fit 30000 12 := (fit_nil.snoc h).mono (by decide) (by decide)
theorem fit_two {d : D} (h : d.fit 20000 10) : (D.lst [.lst [], d]).fit 30000 12 := ((fit_nil.snoc fit_nil).snoc h).mono (by decide) (by decide)
section
variable {K : PySem.W.Frag} {CW b c : Addr} {B H : Hp} {σ : L2.St} {te : TE} {ta : TA} {n : Nat} {D' : Ends} {rest : TS}
theorem ItA.nil : ItA K CW b c B 0 tNil σ := fun H Q e B' k => k [] H (fun a o _ h => h) B' rfl fun v h => absurd h List.not_mem_nil
theorem ItA.cons (hb : ∃ o, B b = some o) (h : ItE K CW b c B te σ) (h' : ItA K CW b c B n ta σ) : ItA K CW b c B (n + 1) (tCons te ta) σ := fun H Q e B' k =>
  h H _ e B' fun v H1 e1 B1 p => h' H1 _ (e.trans' e1) B1 fun vs H2 e2 B2 hl ps => k _ _ (e1.trans' e2) B2 (by rw [List.length_cons, hl]) fun u hu => by
    rcases List.mem_cons.mp hu with z | z
    · rw [z]
      exact p.keep (.ext hb e2)
    · exact ps u z
theorem it_lit {d : D} (h : d.fit 30000 12) (ht : d.top = true) : ItE K CW b c B (tLit K d) σ := fun H Q e B' k v H' s o =>
  k v H' (ext_same s) (B'.same s) ⟨d, o.base (e.dom B'), h, .inl ht⟩
theorem odd_read {H1 : Hp} {Q : VK} (h1 : σ[1]? = some (some (.ref b))) (B' : BagC c H b) (k : ∀ v H' d, Ext b H H' → BagC c H' b → Own K H H' v d → d.few = true → Q v H') : tCall (spOdd K) [] E0 (tCons (tVar 1) tNil) σ H Q :=
  ⟨_, h1, b, c, rfl, B', fun v H' e B2 ⟨d, o, hf⟩ => k v H' d e B2 o hf⟩
theorem it_odd (h1 : σ[1]? = some (some (.ref b))) : ItE K CW b c B (tCall (spOdd K) [] E0 (tCons (tVar 1) tNil)) σ := fun H Q e B' k =>
  odd_read (H1 := H) h1 B' fun v H' d e' B2 o hf => k v H' e' B2 ⟨d, o.base (e.dom B'), (few_fit hf).1.mono (by decide) (by decide), .inl (few_fit hf).2⟩
theorem it_lodd (h1 : σ[1]? = some (some (.ref b))) : ItE K CW b c B (tLst (tCons (tCall (spOdd K) [] E0 (tCons (tVar 1) tNil)) tNil)) σ := fun H Q e B' k =>
  odd_read (H1 := H) h1 B' fun v H' d e' B2 o hf => ⟨by show 1 ≤ sizeLine; decide, fun p np => by
    have ee := e.trans' e'
    have s : Same H' (upd H' p (.lst [v])) := same_new (Same.refl H') np
    have hd := ee.dom B2
    exact k _ _ (e'.trans' (ext_same s)) (B2.same s) ⟨.lst [d], Own.lst (OwnAll.cons (o.base (e.dom B')) OwnAll.nil) (hd _ np) np, fit_one (few_fit hf).1, .inl rfl⟩⟩
theorem it_llodd (h1 : σ[1]? = some (some (.ref b))) : ItE K CW b c B (tLst (tCons (tLst tNil) (tCons (tCall (spOdd K) [] E0 (tCons (tVar 1) tNil)) tNil))) σ := fun H Q e B' k => by
  refine ⟨Nat.zero_le _, fun q nq => ?_⟩
  have s0 : Same H (upd H q (.lst [])) := same_new (Same.refl H) nq
  have o0 : Own K B (upd H q (.lst [])) (.ref q) (.lst []) := Own.lst OwnAll.nil (e.dom B' _ nq) nq
  have B0 := B'.same s0
  have e0 := e.trans' (ext_same s0)
  have hq : upd H q (.lst []) q = some (.lst []) := upd_same
  generalize upd H q (.lst []) = H0 at s0 o0 B0 e0 hq
  refine odd_read (H1 := H) h1 B0 fun v H' d e' B2 o hf => ⟨by show 2 ≤ sizeLine; decide, fun p np => ?_⟩
  have ee := e0.trans' e'
  have s : Same H' (upd H' p (.lst [.ref q, v])) := same_new (Same.refl H') np
  have hd := ee.dom B2
  have nqb : q ≠ b := fun z => by
    obtain ⟨u, hu⟩ := B'.some
    rw [z, hu] at nq
    cases nq
  have o0' : Own K B H' (.ref q) (.lst []) := fun H2 k2 => .lst (k2 _ _ (e.dom B' _ nq) (e' _ _ nqb hq)) .nil
  exact k _ _ (((ext_same s0).trans' e').trans' (ext_same s)) (B2.same s) ⟨.lst [.lst [], d], Own.lst (OwnAll.cons o0' (OwnAll.cons (o.base (e0.dom B0)) OwnAll.nil)) (hd _ np) np, fit_two (few_fit hf).1, .inl rfl⟩
theorem it_wrong (T : TxtK K CW) : ItE K CW b c B (tErr CW (g1 "place") (tCons (tC (.int 0)) tNil)) σ := fun H Q e B' k => by
  refine ⟨[("place", .int 0)], rfl, fun a H2 s2 n2 ⟨dd, t, nd, nt, he, hd, ht⟩ => k _ _ (ext_same s2) (B'.same s2) ⟨.exc "Wrong" 0, fun H' kk => ?_, ⟨by decide, by decide +kernel, by decide⟩, .inr ⟨rfl, ?_⟩⟩⟩
  · have dm := e.dom B'
    exact .exc (kk _ _ (dm _ n2) he) (fun d' z => by cases z; exact ⟨_, kk _ _ (dm _ nd) hd⟩) (kk _ _ (dm _ nt) ht) T.sh T.mro T.eq
  · have dm := e.dom B'
    exact ⟨a, t, some dd, rfl, dm _ n2, he, .inr ⟨dd, rfl, dm _ nd, hd⟩⟩
/-- name = _law_some(bag, [ .. ]) -/
theorem st_menu {i : Nat} (h1 : σ[1]? = some (some (.ref b))) (B' : BagC c H b) (hn : 0 < n) (hn2 : n ≤ 100) (h : ItA K CW b c H n ta σ) (k : ∀ v H', Ext b H H' → BagC c H' b → VP K CW H H' v → rest D' (σ.set i (some v)) H') :
    tSeq (tAsg (tCall (spSome K) [] E0 (tCons (tVar 1) (tCons (tLst ta) tNil))) (gName i)) rest D' σ H := by
  have hb := B'.some
  refine ⟨_, h1, h H _ (fun a o _ z => z) B' fun vs H' e B2 hl ps => ⟨by rw [hl, sizeLine_eq]; omega, fun p np => ?_⟩⟩
  have s : Same H' (upd H' p (.lst vs)) := same_new (Same.refl H') np
  have npb : p ≠ b := fun z => by
    obtain ⟨u, hu⟩ := B2.some
    rw [z, hu] at np
    cases np
  refine ⟨b, c, p, vs, rfl, npb, upd_same, by omega, by omega, B2.same s, fun v H2 hv e2 B3 => k v H2 ((e.trans' (ext_same s)).trans' e2) B3 ?_⟩
  exact ((ps v hv).keep (.of_same s)).keep (.ext hb e2)
end
end Gy

namespace Gy
open PySem L2 PySem.Spec PyProof.Rows
open PySem.GyRX (ShowC)
/-- acc is [[0], [1], ..], none of it at D -/
def LL (H : Hp) (D : Addr) (acc : List V) (n : Nat) : Prop := acc.length = n ∧ ∀ j v, acc[j]? = some v → ∃ q, v = .ref q ∧ q ≠ D ∧ H q = some (.lst [.int (j : Nat)])
theorem LL.snoc {H H' : Hp} {D q : Addr} {acc : List V} {n : Nat} (h : LL H D acc n) (s : ∀ x o, x ≠ D → H x = some o → H' x = some o) (hq : q ≠ D) (e : H' q = some (.lst [.int (n : Nat)])) : LL H' D (acc ++ [.ref q]) (n + 1) := by
  obtain ⟨h1, h2⟩ := h
  refine ⟨by rw [List.length_append, h1]; rfl, fun j v hv => ?_⟩
  by_cases hj : j < n
  · rw [List.getElem?_append_left (by omega)] at hv
    obtain ⟨q', rfl, h3, h4⟩ := h2 j v hv
    exact ⟨q', rfl, h3, s _ _ h3 h4⟩
  · have hj2 : j = n := by
      have := (List.getElem?_eq_some_iff.mp hv).1
      rw [List.length_append, h1] at this
      simp only [List.length_cons, List.length_nil] at this
      omega
    subst hj2
    rw [List.getElem?_append_right (by omega), h1, Nat.sub_self] at hv
    cases hv
    exact ⟨q, rfl, hq, e⟩
theorem LL.same {H H' : Hp} {D : Addr} {acc : List V} {n : Nat} (h : LL H D acc n) (s : Same H H') : LL H' D acc n := ⟨h.1, fun j v hv => by
  obtain ⟨q, h1, h2, h3⟩ := h.2 j v hv
  exact ⟨q, h1, h2, s _ _ h3⟩⟩
theorem dpAll_of {K : PySem.W.Frag} {H : Hp} : ∀ (acc : List V) (k : Nat), (∀ j v, acc[j]? = some v → ∃ q, v = .ref q ∧ H q = some (.lst [.int ((k + j : Nat) : Int)])) → DpAll K H acc ((List.range' k acc.length).map fun i => PyData.list [.int (i : Nat)])
  | [], k, _ => .nil
  | v :: acc, k, h => by
    obtain ⟨q, rfl, e⟩ := h 0 v rfl
    rw [List.length_cons, List.range'_succ, List.map_cons]
    refine .cons (.lst (SqL.of e) (.cons (.int _) .nil)) (dpAll_of acc (k + 1) fun j u hu => ?_)
    obtain ⟨q', rfl, e'⟩ := h (j + 1) u hu
    refine ⟨q', rfl, ?_⟩
    rw [e']
    congr 4
    omega
theorem LL.dp {K : PySem.W.Frag} {H : Hp} {D : Addr} {acc : List V} (h : LL H D acc 22) (e : H D = some (.lst acc)) : Dp K H (.ref D) (.list ((List.range' 0 22).map fun i => PyData.list [.int (i : Nat)])) := by
  obtain ⟨h1, h2⟩ := h
  have q := dpAll_of (K := K) (H := H) acc 0 fun j v hv => by
    obtain ⟨q, rfl, _, e⟩ := h2 j v hv
    exact ⟨q, rfl, by rw [e, Nat.zero_add]⟩
  rw [h1] at q
  exact .lst (SqL.of e) q
abbrev nums : PyData := .list ((List.range' 0 22).map fun i => PyData.list [.int (i : Nat)])
theorem nums_eq : PyData.eqv nums nums = true ∧ SeqAt.shaped nums = true := by decide +kernel
theorem Made.isq {K : PySem.W.Frag} {B H : Hp} {u c : V} {C : Addr} {fs : List (Str × V)} {cv : Value} {b : Bool} {Q : VK} (m : Made B H u C fs) (T : ExQ K C) (hcv : ∀ z, RelV c z → z = cv) (hk : PySem.W.kitOne K (.ref C) cv = some b) (q : Q (.bl b) H) : rIsQ K [u, c] H Q := by
  obtain ⟨e, t0, d, rfl, h2, h3, h4⟩ := m
  refine ⟨e, C, t0, d, c, cv, b, rfl, T, h3, fun dd z => ?_, hcv, hk, q⟩
  rcases h4 with ⟨rfl, _⟩ | ⟨d', rfl, h5, h6⟩
  · cases z
  · cases z
    exact ⟨fs, h6⟩
theorem Made.fldv {K : PySem.W.Frag} {B H : Hp} {u w : V} {C : Addr} {f : Str} {fs : List (Str × V)} {Q : VK} (m : Made B H u C fs) (T : ExQ K C) (nf : PySem.W.findIn K (.ref C) f = some none) (l : fs.lookup f = some w) (q : Q w H) :
    ∃ (a C' d t0 : Addr) (fs' : List (Str × V)) (v : V), u = .ref a ∧ ExQ K C' ∧ PySem.W.findIn K (.ref C') f = some none ∧ H a = some (exq a C' (some d) t0) ∧ H d = some (exd d fs') ∧ fs'.lookup f = some v ∧ Q v H := by
  obtain ⟨e, t0, d, rfl, _, he, h⟩ := m
  rcases h with ⟨_, rfl⟩ | ⟨dd, rfl, _, hd⟩
  · cases l
  · exact ⟨e, C, dd, t0, fs, w, rfl, T, nf, he, hd, l, q⟩
section
variable {K : PySem.W.Frag} {B H : Hp} {σ : L2.St} {Q : VK} {p : Addr} {rs : List V} {ts : List (Addr × List (Str × V) × List V)} {C : Nat → Addr}
theorem rows_at {j : Nat} {t : Addr × List (Str × V) × List V} (R : Rows B H rs ts) (ht : ts[j]? = some t) : ∃ r, rs[j]? = some r ∧ RowR B H r t := by
  induction R generalizing j with
  | nil => simp at ht
  | cons a _ ih =>
    cases j with
    | zero =>
      simp only [List.getElem?_cons_zero, Option.some.injEq] at ht
      subst ht
      exact ⟨_, rfl, a⟩
    | succ j =>
      rw [List.getElem?_cons_succ] at ht
      simpa using ih ht
theorem row_fld {j : Nat} {Cc : Addr} {fs : List (Str × V)} {hs : List V} {f : Str} {w : V} (h5 : σ[5]? = some (some (.ref p))) (e : H p = some (.lst rs)) (R : Rows B H rs ts) (ht : ts[j]? = some (Cc, fs, hs)) (T : ExQ K Cc) (nf : PySem.W.findIn K (.ref Cc) f = some none) (l : fs.lookup f = some w) (q : Q w H) :
    tQfld K f (tOp (rIxT K) (tOp (rIxL K) (tVar 5) (tC (.int (j : Nat)))) (tC (.int 0))) σ H Q := by
  obtain ⟨r, hr, pr, u, a, b, rfl, h2, h3, h4, _⟩ := rows_at R ht
  exact ⟨_, h5, p, rs, _, _, rfl, rfl, SqL.of e, atI_nat hr, pr, _, 0, u, rfl, rfl, SqT.of h3, atI_nat (j := 0) rfl, h4.fldv T nf l q⟩
theorem rd_classes (h5 : σ[5]? = some (some (.ref p))) (h6 : 6 < σ.length) (e : H p = some (.lst rs)) (R : Rows B H rs ts) (hC : ∀ i t, ts[i]? = some t → t.1 = C i) (hn : ts.length = 22)
    (k : ∀ D H' acc, Same H H' → H' D = some (.lst acc) → LL H' D acc 22 → Q (.ref D) H') :
    tLc (iList K (tVar 5)) (gName 6) tYes (tCall (spClasses C) [] E0 (tCons (tOp (rIxT K) (tVar 6) (tC (.int 0))) tNil)) [6] σ H Q := by
  have hrs : rs.length = 22 := R.length.trans hn
  refine ⟨_, h5, p, rfl, ⟨_, SqL.of e⟩, fun D nD => lc_list (K := K) (a := p) (xs := rs) (fun i H' => Same H H' ∧ ∃ acc, H' D = some (.lst acc) ∧ LL H' D acc i) ⟨same_new (Same.refl H) nD, [], upd_same, rfl, fun j v h => by simp at h⟩ (fun i H' _ ⟨s, _⟩ => SqL.of (s _ _ e)) ?_ ?_⟩
  · rintro i x H' hi ⟨s, acc, ea, hl⟩
    obtain ⟨t, ht, m⟩ := paired_at R hi
    obtain ⟨pr, u, a, b, rfl, h2, h3, h4, _⟩ := m.later s
    have hlt : i < 22 := by rw [← hn]; exact (List.getElem?_eq_some_iff.mp ht).1
    refine ⟨by simp [wipe], tyes_go ?_⟩
    refine ⟨_, by simp [wipe, h6], pr, _, 0, u, rfl, rfl, SqT.of h3, atI_nat (j := 0) rfl, u, i, B, t.2.1, rfl, hlt, by rw [← hC i t ht]; exact h4, fun q H2 s2 nq eq => ?_⟩
    have hqD : q ≠ D := fun z => by rw [z, ea] at nq; cases nq
    refine ⟨acc, s2 _ _ ea, by rw [hl.1, sizeLine_eq]; omega, same_put (s.trans s2) nD, _, upd_same, hl.snoc (fun x o hx h => by rw [upd_ne hx]; exact s2 _ _ h) hqD (by rw [upd_ne hqD]; exact eq)⟩
  · rintro H' ⟨s, acc, ea, hl⟩
    rw [hrs] at hl
    exact k D H' acc s ea hl
theorem rd_nums (h7 : 7 < σ.length) (k : ∀ D H' acc, Same H H' → H' D = some (.lst acc) → LL H' D acc 22 → Q (.ref D) H') :
    tLc (iRng1 (tCons (tC (.int 22)) tNil)) (gName 7) tYes (tLst (tCons (tVar 7) tNil)) [7] σ H Q := by
  refine ⟨22, rfl, by decide, by decide, fun D nD => lc_range (n := 22) (fun i H' => Same H H' ∧ ∃ acc, H' D = some (.lst acc) ∧ LL H' D acc i) ⟨same_new (Same.refl H) nD, [], upd_same, rfl, fun j v h => by simp at h⟩ ?_ ?_⟩
  · rintro i H' hi ⟨s, acc, ea, hl⟩
    refine ⟨by simp [wipe], tyes_go ?_⟩
    have hv : ((wipe σ [7]).set 7 (some (V.int (0 + (i : Int)))))[7]? = some (some (V.int (0 + (i : Int)))) := List.getElem?_set_self (by simpa [wipe] using h7)
    refine ⟨_, hv, by show 1 ≤ sizeLine; decide, fun q nq => ?_⟩
    have hqD : q ≠ D := fun z => by rw [z, ea] at nq; cases nq
    have s2 : Same H' (upd H' q (.lst [V.int (0 + (i : Int))])) := same_new (Same.refl H') nq
    refine ⟨acc, s2 _ _ ea, by rw [hl.1, sizeLine_eq]; omega, same_put (s.trans s2) nD, _, upd_same, hl.snoc (fun x o hx h => by rw [upd_ne hx]; exact s2 _ _ h) hqD (by rw [upd_ne hqD, upd_same, Int.zero_add])⟩
  · rintro H' ⟨s, acc, ea, hl⟩
    exact k D H' acc s ea hl
/-- no row whose lists aren't alike -/
theorem rd_unlike (h5 : σ[5]? = some (some (.ref p))) (h6 : 6 < σ.length) (e : H p = some (.lst rs)) (R : Rows B H rs ts) (hg : ∀ t ∈ ts, t.2.2.length ≤ 9 ∧ ∀ H', Same H H' → ∃ ds, Goods K H' t.2.2 ds)
    (k : ∀ D H', Same H H' → H' D = some (.lst []) → Q (.ref D) H') :
    tLc (iList K (tVar 5)) (gName 6) (tNot (tB (tAl K (tCons (tOp (rIxT K) (tVar 6) (tC (.int 1))) (tCons (tOp (rIxT K) (tVar 6) (tC (.int 2))) tNil))))) (tVar 6) [6] σ H Q := by
  refine ⟨_, h5, p, rfl, ⟨_, SqL.of e⟩, fun D nD => lc_list (K := K) (a := p) (xs := rs) (fun i H' => Same H H' ∧ H' D = some (.lst [])) ⟨same_new (Same.refl H) nD, upd_same⟩ (fun i H' _ ⟨s, _⟩ => SqL.of (s _ _ e)) ?_ ?_⟩
  · rintro i x H' hi ⟨s, ea⟩
    obtain ⟨t, ht, m⟩ := paired_at R hi
    obtain ⟨pr, u, a, b, rfl, h2, h3, h4, h5', h6', h7', h8'⟩ := m.later s
    obtain ⟨hl, hg⟩ := hg t (List.mem_of_getElem? ht)
    obtain ⟨ds, g⟩ := hg H' s
    refine ⟨by simp [wipe], ?_⟩
    refine ⟨_, by simp [wipe, h6], pr, _, 1, .ref a, rfl, rfl, SqT.of h3, atI_nat (j := 1) rfl, _, by simp [wipe, h6], pr, _, 2, .ref b, rfl, rfl, SqT.of h3, atI_nat (j := 2) rfl, _, _, rfl, g.alike hl h6' h8', true, rfl, ?_⟩
    exact iteF ⟨s, ea⟩
  · rintro H' ⟨s, ea⟩
    exact k D H' s ea
end
end Gy

namespace Gy
open PySem L2 PySem.Spec PyProof.Rows
open PySem.GyRX (ShowC)
theorem fit_len {n m : Nat} {ds : List D} (h : (D.lst ds).fit n m) : ds.length ≤ n := by
  have q := h.2.1
  simp only [D.shown] at q
  unfold listText at q
  rw [strLen_append] at q
  have z := (textFrom_len (D.shownAll ds) 0 "[").1
  rw [shownAll_len] at z
  have e : ("[" : Str).length = 1 := by decide
  have e2 : ("]" : Str).length = 1 := by decide
  rw [e] at z
  rw [e2] at q
  have e3 : (if 0 > 0 then 0 else 2 : Nat) = 2 := rfl
  omega
section
variable {K : PySem.W.Frag} {H : Hp} {σ : L2.St} {D' : Ends} {rest : TS} {v : V} {d : D} {i : Nat}
theorem st_append {Post : Hp → Prop} (hi : σ[i]? = some (some v)) (h : IsL K H v d.isLst) (r : Rp K H v d) (hf : d.fit 40000 13) (h1 : d.isLst = false → Post H)
    (h2 : ∀ a xs ds, v = .ref a → d = .lst ds → H a = some (.lst xs) → Post (upd H a (.lst (xs ++ [.str "more"])))) (k : ∀ H6, Post H6 → rest D' σ H6) :
    tSeq (tIfS (tB (tCB (rIsV K) (tCons (tVar i) (tCons (tC (.ty "list")) tNil)))) (tDrop (tBM K "list" rAppend (tVar i) (tCons (tC (.str "more")) tNil))) tNext) rest D' σ H := by
  refine ⟨_, hi, v, d.isLst, rfl, h, d.isLst, rfl, ?_⟩
  cases r with
  | @lst a xs ds e ra =>
    refine iteT ⟨_, hi, .inl ⟨rfl, _, SqL.of e⟩, a, xs, _, rfl, rfl, e, ?_, k _ (h2 a xs ds rfl rfl e)⟩
    have := fit_len hf
    rw [ra.len, sizeLine_eq]
    omega
  | non => exact iteF (k _ (h1 rfl))
  | bl b => exact iteF (k _ (h1 rfl))
  | int i => exact iteF (k _ (h1 rfl))
  | str x => exact iteF (k _ (h1 rfl))
  | tup _ _ => exact iteF (k _ (h1 rfl))
  | dic _ _ _ => exact iteF (k _ (h1 rfl))
  | exc _ _ _ _ _ _ => exact iteF (k _ (h1 rfl))
theorem vp_isL {CW : Addr} {B S : Hp} (T : TxtK K CW) (o : Own K B S v d) (h : d.top = true ∨ (d.isLst = false ∧ Made B S v CW [("place", .int 0)])) (k : Keeps B S H) : IsL K H v d.isLst := by
  rcases h with h | ⟨h1, h2⟩
  · exact (o _ k).isL T h
  · rw [h1]
    exact (h2.keep k).isL T
end
/-! ### the state behind the appending -/
theorem BagC.hc {b c : Addr} {H : Hp} (h : BagC c H b) : ∃ o, H c = Option.some o := by
  obtain ⟨x0, x1, x2, ns, h⟩ := h
  exact ⟨_, h.hc⟩
theorem BagC.put {b c a : Addr} {H : Hp} {o : HO} (h : BagC c H b) (h1 : a ≠ b) (h2 : a ≠ c) : BagC c (upd H a o) b := by
  obtain ⟨x0, x1, x2, ns, h⟩ := h
  exact ⟨x0, x1, x2, ns, by rw [upd_ne (Ne.symm h1)]; exact h.hb, by rw [upd_ne (Ne.symm h2)]; exact h.hc, h.p0, h.p1, h.q1, h.p2, h.pc, h.lc⟩
section
variable {K : PySem.W.Frag} {b c p : Addr} {rs : List V} {v o : V} {d e : D} {Ht H2 H4 H5 H7 : Hp}
structure Ctx (K : PySem.W.Frag) (b c p : Addr) (rs : List V) (v o : V) (d e : D) (Ht H2 H4 H5 H7 : Hp) : Prop where
  Bt : BagC c Ht b
  e2 : Ext b Ht H2
  B2 : BagC c H2 b
  ov : Own K Ht H2 v d
  fd : d.fit 30000 12
  e4 : Ext b H2 H4
  B4 : BagC c H4 b
  oo : Own K H2 H4 o e
  fe : e.fit 30000 12
  np : H4 p = none
  s5 : Same H4 H5
  e5 : H5 p = some (.lst rs)
  s7 : Same H5 H7
def P6 (K : PySem.W.Frag) (b c p : Addr) (rs : List V) (v : V) (Ht H2 H4 H5 H6 : Hp) : Prop := ∃ d6 S, Own K Ht S v d6 ∧ d6.fit 40000 13 ∧ (∀ x, H2 x = none → S x = none) ∧ Keeps Ht S H6 ∧ Keeps H2 H4 H6 ∧ Keeps (bse H4 p) H5 H6 ∧ H6 p = some (.lst rs) ∧ BagC c H6 b
def P8 (K : PySem.W.Frag) (b c p : Addr) (rs : List V) (v o : V) (H4 H5 H8 : Hp) : Prop := ∃ d8 e8, Rp K H8 v d8 ∧ d8.fit 40000 13 ∧ Rp K H8 o e8 ∧ e8.fit 40000 13 ∧ Keeps (bse H4 p) H5 H8 ∧ H8 p = some (.lst rs) ∧ BagC c H8 b
theorem Ctx.kv (X : Ctx K b c p rs v o d e Ht H2 H4 H5 H7) : Keeps Ht H2 H7 := (Keeps.ext X.Bt.some X.e4).trans (.of_same (X.s5.trans X.s7))
theorem Ctx.ko (X : Ctx K b c p rs v o d e Ht H2 H4 H5 H7) : Keeps H2 H4 H7 := .of_same (X.s5.trans X.s7)
theorem Ctx.p6 (X : Ctx K b c p rs v o d e Ht H2 H4 H5 H7) : P6 K b c p rs v Ht H2 H4 H5 H7 :=
  ⟨d, H2, X.ov, X.fd.mono (by decide) (by decide), fun _ z => z, X.kv, X.ko, .of_same X.s7, X.s7 _ _ X.e5, X.B4.same (X.s5.trans X.s7)⟩
theorem more_fit {ds : List D} (h : (D.lst ds).fit 30000 12) : (D.lst (ds ++ [.str "more"])).fit 40000 13 := (h.snoc fit_more).mono (by decide) (by decide)
theorem bse_none {H : Hp} {p x : Addr} (h : bse H p x = none) : H x = none := by
  have q := bse_ne h
  unfold bse at h
  rw [upd_ne q] at h
  exact h
theorem ne_at {H : Hp} {x y : Addr} (h : H x = none) (h' : ∃ o, H y = some o) : x ≠ y := fun z => by
  obtain ⟨o, h'⟩ := h'
  rw [z, h'] at h
  cases h
theorem Ctx.p6m (X : Ctx K b c p rs v o d e Ht H2 H4 H5 H7) {a : Addr} {xs : List V} {ds : List D} (hv : v = .ref a) (hd : d = .lst ds) (ha : H7 a = some (.lst xs)) : P6 K b c p rs v Ht H2 H4 H5 (upd H7 a (.lst (xs ++ [.str "more"]))) := by
  subst hv
  subst hd
  obtain ⟨a', xs', ea, na, ha2, _⟩ := X.ov.lst_inv
  cases ea
  have q := X.kv a _ na ha2
  rw [ha] at q
  cases q
  have nab : a ≠ b := ne_at na X.Bt.some
  have nac : a ≠ c := ne_at na X.Bt.hc
  have h4a : H4 a = some (.lst xs) := X.e4 a _ nab ha2
  have npa : p ≠ a := ne_at X.np ⟨_, h4a⟩
  refine ⟨_, upd H2 a (.lst (xs ++ [.str "more"])), X.ov.more ha2 na "more", more_fit X.fd, fun x n => ?_, fun x u n ex => ?_, fun x u n ex => ?_, fun x u n ex => ?_, ?_, (X.B4.same (X.s5.trans X.s7)).put nab nac⟩
  · rw [upd_ne (ne_at n ⟨_, ha2⟩)]
    exact n
  · by_cases hx : x = a
    · subst hx
      rw [upd_same] at ex ⊢
      exact ex
    · rw [upd_ne hx] at ex ⊢
      exact X.kv x u n ex
  · rw [upd_ne (ne_at n ⟨_, ha2⟩)]
    exact X.ko x u n ex
  · rw [upd_ne (ne_at (bse_none n) ⟨_, h4a⟩)]
    exact X.s7 x u ex
  · rw [upd_ne npa]
    exact X.s7 _ _ X.e5
theorem Ctx.p8 {H6 : Hp} (X : Ctx K b c p rs v o d e Ht H2 H4 H5 H7) (h : P6 K b c p rs v Ht H2 H4 H5 H6) : P8 K b c p rs v o H4 H5 H6 := by
  obtain ⟨d6, S, h1, h2, h3, h4, h5, h6, h7, h8⟩ := h
  exact ⟨d6, e, h1 _ h4, h2, X.oo _ h5, X.fe.mono (by decide) (by decide), h6, h7, h8⟩
theorem Ctx.p8m {H6 : Hp} (X : Ctx K b c p rs v o d e Ht H2 H4 H5 H7) (h : P6 K b c p rs v Ht H2 H4 H5 H6) {a : Addr} {xs : List V} {ds : List D} (hv : o = .ref a) (hd : e = .lst ds) (ha : H6 a = some (.lst xs)) : P8 K b c p rs v o H4 H5 (upd H6 a (.lst (xs ++ [.str "more"]))) := by
  subst hv
  subst hd
  obtain ⟨d6, S, h1, h2, h3, h4, h5, h6, h7, h8⟩ := h
  obtain ⟨a', xs', ea, na, ha4, _⟩ := X.oo.lst_inv
  cases ea
  have q := h5 a _ na ha4
  rw [ha] at q
  cases q
  have nab : a ≠ b := ne_at na X.B2.some
  have nac : a ≠ c := ne_at na X.B2.hc
  have npa : p ≠ a := ne_at X.np ⟨_, ha4⟩
  refine ⟨d6, _, h1 _ (fun x u n ex => ?_), h2, X.oo.more ha4 na "more" _ (fun x u n ex => ?_), more_fit X.fe, fun x u n ex => ?_, ?_, h8.put nab nac⟩
  · have hx : x ≠ a := fun z => by
      have := h3 a na
      rw [z, this] at ex
      cases ex
    rw [upd_ne hx]
    exact h4 x u n ex
  · by_cases hx : x = a
    · subst hx
      rw [upd_same] at ex ⊢
      exact ex
    · rw [upd_ne hx] at ex ⊢
      exact h5 x u n ex
  · rw [upd_ne (ne_at (bse_none n) ⟨_, ha4⟩)]
    exact h6 x u n ex
  · rw [upd_ne npa]
    exact h7
end
end Gy

namespace Gy
open PySem L2 PySem.Spec PyProof.Rows
open PySem.GyRX (ShowC)
def spLaw (K : PySem.W.Frag) : Sp := fun vs H Q _ => ∃ (a : Addr) (ns : List Int), vs = [.ref a] ∧ SqL K H a (ns.map V.int) ∧ ∀ H', Q (.bl true) H'
abbrev sLaw : Stmt := top 33
structure Fn (K : PySem.W.Frag) (mg : Str → Option Value) (name : Str) (s : Stmt) (ps : List Str) (f : Addr) (fd : FuncData) : Prop where
  F : Fun K name name s f fd
  g : mg name = some (.ref f)
  b : L2.Binds K fd ps []
structure TxtL (P : Program) (w : World) (K : PySem.W.Frag) (mg : Str → Option Value) (base : Heap) (C : Nat → Addr) (G : Addr) : Prop where
  isi : mg "isinstance" = none
  rng : mg "range" = none
  lst : mg "list" = none
  ve : mg "ValueError" = none
  gG : mg "GoneError" = some (.ref G)
  kG : ∀ i, i < 22 → PySem.W.kitOne K (.ref (C i)) (.ref G) = some true
  kV : ∀ i, i < 22 → PySem.W.kitOne K (.ref (C i)) (.type "ValueError") = some true
  F : TxtF P w K mg base C
  J : TxtJ K mg C
  K : TxtK K (C 15)
theorem Made.parts {B H : Hp} {u : V} {C : Addr} {fs : List (Str × V)} (m : Made B H u C fs) : ∃ e t0 d, u = .ref e ∧ H e = some (exq e C d t0) ∧ ∀ dd, d = some dd → ∃ fs, H dd = some (exd dd fs) := by
  obtain ⟨e, t0, d, rfl, h2, h3, h4⟩ := m
  refine ⟨e, t0, d, rfl, h3, fun dd z => ?_⟩
  rcases h4 with ⟨rfl, _⟩ | ⟨d', rfl, h5, h6⟩
  · cases z
  · cases z
    exact ⟨fs, h6⟩
theorem tabs_C {C : Nat → Addr} {v o : V} : ∀ (i : Nat) (t : Addr × List (Str × V) × List V), (tabs C v o)[i]? = some t → t.1 = C i := fun i t h => by
  have e : (tabs C v o).map (·.1) = (List.range 22).map C := rfl
  have q : ((tabs C v o).map (·.1))[i]? = some t.1 := by rw [List.getElem?_map, h]; rfl
  have hi : i < 22 := (List.getElem?_eq_some_iff.mp h).1
  rw [e, List.getElem?_map, List.getElem?_range hi] at q
  exact (Option.some.inj q).symm
theorem tabs_good {K : PySem.W.Frag} {C : Nat → Addr} {H : Hp} {v o : V} {d e : D} (gv : Good K H v d) (go : Good K H o e) : ∀ t ∈ tabs C v o, t.2.2.length ≤ 9 ∧ ∃ ds, Goods K H t.2.2 ds := by
  have h : ∀ hs ∈ (tabs C v o).map (·.2.2), hs.length ≤ 9 ∧ ∃ ds, Goods K H hs ds := by
    have e : (tabs C v o).map (·.2.2) = [[v], [v], [v], [v], [v], [v], [v], [v], [v], [v], [v], [v, o], [v], [v], [v], [v], [], [], [], [], [], []] := rfl
    rw [e]
    intro hs hm
    have z : hs = [v] ∨ hs = [v, o] ∨ hs = [] := by
      simp only [List.mem_cons, List.not_mem_nil, or_false] at hm
      rcases hm with h | h | h | h | h | h | h | h | h | h | h | h | h | h | h | h | h | h | h | h | h | h <;> simp [h]
    rcases z with rfl | rfl | rfl
    · exact ⟨by show 1 ≤ 9; decide, _, .cons gv .nil⟩
    · exact ⟨by show 2 ≤ 9; decide, _, .cons gv (.cons go .nil)⟩
    · exact ⟨by show 0 ≤ 9; decide, _, .nil⟩
  exact fun t ht => h _ (List.mem_map_of_mem ht)
section
variable {K : PySem.W.Frag} {H : Hp} {σ : L2.St} {D : Ends} {rest w : TS} {t1 t2 t3 t4 t5 : TE} {u : TT} {g : TG} {r : R2}
theorem or_open (h : t1 σ H fun x H1 => t2 σ H1 fun y H2 => r x y H2 fun z H3 => ∃ k, z = .bl k ∧ if k = true then (fun c H4 => if c = true then w { D with nx := rest D } σ H4 else tNext { D with nx := rest D } σ H4) true H3 else u σ H3 fun c H4 => if c = true then w { D with nx := rest D } σ H4 else tNext { D with nx := rest D } σ H4) :
    tSeq (tIfS (tOr (tTest (tOp r t1 t2)) u) w tNext) rest D σ H := h
theorem cmp_open (h : t1 σ H fun x H1 => t2 σ H1 fun y H2 => r x y H2 fun z H3 => ∃ k, z = .bl k ∧ if k = true then w { D with nx := rest D } σ H3 else tNext { D with nx := rest D } σ H3) :
    tSeq (tIfS (tTest (tOp r t1 t2)) w tNext) rest D σ H := h
theorem next_open (h : D.nx σ H) : tNext D σ H := h
theorem five_open (h : t1 σ H fun v1 H1 => t2 σ H1 fun v2 H2 => t3 σ H2 fun v3 H3 => t4 σ H3 fun v4 H4 => t5 σ H4 fun v5 H5 => [v1, v2, v3, v4, v5].length ≤ sizeLine ∧ ∀ p, H5 p = none → g (.ref p) σ (upd H5 p (.lst [v1, v2, v3, v4, v5])) (rest D)) :
    tSeq (tAsg (tLst (tCons t1 (tCons t2 (tCons t3 (tCons t4 (tCons t5 tNil)))))) g) rest D σ H := h
end
def fsOf (t : Addr × List (Str × V) × List V) : List (Str × V) := t.2.1
section
variable {P : Program} {w : World} {K : PySem.W.Frag} {mg : Str → Option Value} {base : Heap}
theorem scLaw : FnScope ["_law_script", "_law_bag_here", "_law_turn", "_law_value", "_law_other", "_law_rows", "_law_row", "_law_k", "_law_error", "_law_held", "_law_due", "_law_again", "_law_one", "_law_two"] ["_law_script"] (defScope sLaw) := ⟨rfl, rfl, rfl, by decide +kernel, rfl, by decide +kernel, by decide +kernel⟩
theorem ok_law {f fB fO fS fF fC fR fA : Addr} {fd fdB fdO fdS fdF fdC fdR fdA : FuncData} {C : Nat → Addr} {G : Addr} (F : Fun K "law" "law" sLaw f fd) (T : TxtL P w K mg base C G)
    (B : Fn K mg "_law_bag" sBag ["_law_script"] fB fdB) (GB : FnOk P w K mg base CX0 1 fB fdB ["_law_script"] (spBag K))
    (O : Fn K mg "_law_odd" sOdd ["_law_bag_here"] fO fdO) (GO : FnOk P w K mg base CX0 3 fO fdO ["_law_bag_here"] (spOdd K))
    (S : Fn K mg "_law_some" sSome ["_law_bag_here", "_law_things"] fS fdS) (GS : FnOk P w K mg base CX0 2 fS fdS ["_law_bag_here", "_law_things"] (spSome K))
    (W : Fn K mg "_law_with_fields" sFields ["_law_value", "_law_other"] fF fdF) (GW : FnOk P w K mg base CX0 3 fF fdF ["_law_value", "_law_other"] (spFields C))
    (L : Fn K mg "_law_classes_of" sClasses ["_law_error"] fC fdC) (GL : FnOk P w K mg base CX0 1 fC fdC ["_law_error"] (spClasses C))
    (R : Fn K mg "_law_are_caught" sCaught ["_law_value"] fR fdR) (GR : FnG NoGuardC P w K mg base 4 fR fdR ["_law_value"] (spCaught K))
    (A' : Fn K mg "_law_alike" sAlike ["_law_found", "_law_due"] fA fdA) (GA : FnG NoGuard P w K mg base 1 fA fdA ["_law_found", "_law_due"] (spAlike K)) :
    FnG NoGuardC P w K mg base 5 f fd ["_law_script"] (spLaw K) := by
  refine fn_ofG (c := true) F scLaw (fun A h _ => h.2) (fun vs H Q E h => ?_) (fun cdv A outer s H vs Q E hG hr h => ?_)
  · obtain ⟨a, ns, rfl, _⟩ := h
    rfl
  · obtain ⟨a, ns, rfl, hS, k⟩ := h
    have nd := scLaw.nd
    have hR : Room 4 (A.deeper (envOfC "law" (defScope sLaw) s.heap.objs.size f cdv)) := ⟨hG.2, hr.dp, hr.un⟩
    have hR3 := hR.mono (by decide : 3 ≤ 4)
    have hR2 := hR.mono (by decide : 2 ≤ 4)
    have hR1 := hR.mono (by decide : 1 ≤ 4)
    have hr1 := hr.mono (by decide : 1 ≤ 4)
    have hGC : NoGuardC (A.deeper (envOfC "law" (defScope sLaw) s.heap.objs.size f cdv)) := hG
    have hGA : NoGuard (A.deeper (envOfC "law" (defScope sLaw) s.heap.objs.size f cdv)) := hG.1
    have hu := hR.units
    refine ⟨_, (pss_cons (ps_set (i := 1) nd rfl (Or.inl rfl) (pe_call GB hR1 rfl B.g B.F.kp B.b .nil pass0 (pa_cons (pv 0) pa_nil)))
      (pss_cons (ps_for PassesOwn.never rfl (pi_range1 rfl T.rng (pa_cons pe_int pa_nil)) (pg_name (i := 2) nd rfl (Or.inl rfl))
      (pss_cons (ps_set (i := 3) nd rfl (Or.inl rfl) (pe_call GS hR2 rfl S.g S.F.kp S.b .nil pass0 (pa_cons (pv 1) (pa_cons (pe_lst (pa_cons (pe_lit lit_star (.lst (.cons .int .nil) (Nat.le_of_ble_eq_true rfl))) (pa_cons (pe_call GO hR3 rfl O.g O.F.kp O.b .nil pass0 (pa_cons (pv 1) pa_nil)) (pa_cons (pe_lst (pa_cons (pe_call GO hR3 rfl O.g O.F.kp O.b .nil pass0 (pa_cons (pv 1) pa_nil)) pa_nil)) (pa_cons (pe_lit lit_star (.dic1 (.lst .nil (Nat.le_of_ble_eq_true rfl)))) (pa_cons (pe_lit lit_star (.tup (.cons .int (.cons (.lst (.cons .int .nil) (Nat.le_of_ble_eq_true rfl)) .nil)) (Nat.le_of_ble_eq_true rfl))) (pa_cons (pe_mk1 T.F.m15 hR2 rfl (pa_cons pe_int pa_nil)) pa_nil))))))) pa_nil))))
      (pss_cons (ps_set (i := 4) nd rfl (Or.inl rfl) (pe_call GS hR2 rfl S.g S.F.kp S.b .nil pass0 (pa_cons (pv 1) (pa_cons (pe_lst (pa_cons (pe_lit lit_star (.lst (.cons .str .nil) (Nat.le_of_ble_eq_true rfl))) (pa_cons (pe_call GO hR3 rfl O.g O.F.kp O.b .nil pass0 (pa_cons (pv 1) pa_nil)) (pa_cons (pe_lst (pa_cons (pe_lst pa_nil) (pa_cons (pe_call GO hR3 rfl O.g O.F.kp O.b .nil pass0 (pa_cons (pv 1) pa_nil)) pa_nil))) (pa_cons (pe_lit lit_star .non) pa_nil))))) pa_nil))))
      (pss_cons (ps_set (i := 5) nd rfl (Or.inl rfl) (pe_call GW hR3 rfl W.g W.F.kp W.b .nil pass0 (pa_cons (pv 3) (pa_cons (pv 4) pa_nil))))
      (pss_cons (ps_if (PW.pt (pw_or (pt_cmpR (op_neD hu) (pe_lc (own := [("_law_row", 6)]) (g := gName 6) (tt := tYes) (te := tCall (spClasses C) [] E0 (tCons (tOp (rIxT K) (tVar 6) (tC (.int 0))) tNil)) rfl nd (pi_list (pv 5)) (blkOk_by (own := [("_law_row", 6)]) (N := ["_law_script", "_law_bag_here", "_law_turn", "_law_value", "_law_other", "_law_rows", "_law_row", "_law_k", "_law_error", "_law_held", "_law_due", "_law_again", "_law_one", "_law_two"]) (sc := defScope sLaw) (by decide +kernel)) (fun _ _ _ _ _ => (pg_name (i := 6) nd rfl (Or.inl rfl))) (fun _ _ _ _ _ => pts_nil) (fun _ _ _ _ _ => (pe_call GL hR1 rfl L.g L.F.kp L.b .nil pass0 (pa_cons (pe_ix ix_tup (pv 6) pe_int (fun _ _ => rfl)) pa_nil)))) (pe_lc (own := [("_law_k", 7)]) (g := gName 7) (tt := tYes) rfl nd (pi_range1 rfl T.rng (pa_cons pe_int pa_nil)) (blkOk_by (own := [("_law_k", 7)]) (N := ["_law_script", "_law_bag_here", "_law_turn", "_law_value", "_law_other", "_law_rows", "_law_row", "_law_k", "_law_error", "_law_held", "_law_due", "_law_again", "_law_one", "_law_two"]) (sc := defScope sLaw) (by decide +kernel)) (fun _ _ _ _ _ => (pg_name (i := 7) nd rfl (Or.inl rfl))) (fun _ _ _ _ _ => pts_nil) (fun _ _ _ _ _ => (pe_lst (pa_cons (pv 7) pa_nil)))) (nomark _)) (pw_or1 (pt_not (pt_val (pe_callG GR hr hGC rfl R.g R.F.kp R.b (pa_cons (pv 3) pa_nil))))))) (pss_one (ps_ret pe_bl)) pss_nil)
      (pss_cons (ps_for PassesOwn.never rfl (pi_list (pv 5)) (pg_tup rfl (pgs_cons (pg_name (i := 8) nd rfl (Or.inl rfl)) (pgs_cons (pg_name (i := 9) nd rfl (Or.inl rfl)) (pgs_cons (pg_name (i := 10) nd rfl (Or.inl rfl)) pgs_nil)))) (pss_one (ps_if (PW.pt (pw_or (pt_not (pt_val (pe_callG GA hr1 hGA rfl A'.g A'.F.kp A'.b (pa_cons (pv 9) (pa_cons (pv 10) pa_nil))))) (pw_or (pt_not (pt_val (pe_callB call_isQ (by rfl) T.isi (by decide +kernel) (pa_cons (pv 8) (pa_cons (pe_glob (v := .ref G) rfl T.gG rfl) pa_nil))))) (pw_or1 (pt_not (pt_val (pe_callB call_isQ (by rfl) T.isi (by decide +kernel) (pa_cons (pv 8) (pa_cons (pe_bltn (v := .ty "ValueError") rfl T.ve (by decide +kernel) rfl) pa_nil))))))))) (pss_one (ps_ret pe_bl)) pss_nil)))
      (pss_cons (ps_if (pt_val (pe_callB call_isV (by rfl) T.isi (by decide +kernel) (pa_cons (pv 3) (pa_cons (pe_bltn (v := .ty "list") rfl T.lst (by decide +kernel) rfl) pa_nil)))) (pss_one (ps_expr (by exact (pe_bm PySem.F.plainAttrs_list PySem.F.slot_list_append PySem.F.type_list_append mt_append (pv 3) (pa_cons pe_str pa_nil))))) pss_nil)
      (pss_cons (ps_if (pt_val (pe_callB call_isV (by rfl) T.isi (by decide +kernel) (pa_cons (pv 4) (pa_cons (pe_bltn (v := .ty "list") rfl T.lst (by decide +kernel) rfl) pa_nil)))) (pss_one (ps_expr (by exact (pe_bm PySem.F.plainAttrs_list PySem.F.slot_list_append PySem.F.type_list_append mt_append (pv 4) (pa_cons pe_str pa_nil))))) pss_nil)
      (pss_cons (ps_if (pt_cmpR (op_neD hu) (pe_lc (own := [("_law_row", 6)]) (g := gName 6) (tt := tNot (tB (tAl K (tCons (tOp (rIxT K) (tVar 6) (tC (.int 1))) (tCons (tOp (rIxT K) (tVar 6) (tC (.int 2))) tNil))))) rfl nd (pi_list (pv 5)) (blkOk_by (own := [("_law_row", 6)]) (N := ["_law_script", "_law_bag_here", "_law_turn", "_law_value", "_law_other", "_law_rows", "_law_row", "_law_k", "_law_error", "_law_held", "_law_due", "_law_again", "_law_one", "_law_two"]) (sc := defScope sLaw) (by decide +kernel)) (fun _ _ _ _ _ => (pg_name (i := 6) nd rfl (Or.inl rfl))) (fun _ _ _ _ _ => pts_one (pt_not (pt_val (pe_callG GA hr1 hGA rfl A'.g A'.F.kp A'.b (pa_cons (pe_ix ix_tup (pv 6) pe_int (fun _ _ => rfl)) (pa_cons (pe_ix ix_tup (pv 6) pe_int (fun _ _ => rfl)) pa_nil)))))) (fun _ _ _ _ _ => pv 6)) (pe_lst pa_nil) (nomark _)) (pss_one (ps_ret pe_bl)) pss_nil)
      (pss_cons (ps_set (i := 11) nd rfl (Or.inl rfl) (pe_lst (pa_cons (pe_qfld (pe_ix ix_tup (pe_ix ix_list (pv 5) pe_int (fun _ _ => rfl)) pe_int (fun _ _ => rfl))) (pa_cons (pe_qfld (pe_ix ix_tup (pe_ix ix_list (pv 5) pe_int (fun _ _ => rfl)) pe_int (fun _ _ => rfl))) (pa_cons (pe_qfld (pe_ix ix_tup (pe_ix ix_list (pv 5) pe_int (fun _ _ => rfl)) pe_int (fun _ _ => rfl))) (pa_cons (pe_qfld (pe_ix ix_tup (pe_ix ix_list (pv 5) pe_int (fun _ _ => rfl)) pe_int (fun _ _ => rfl))) (pa_cons (pe_qfld (pe_ix ix_tup (pe_ix ix_list (pv 5) pe_int (fun _ _ => rfl)) pe_int (fun _ _ => rfl))) pa_nil)))))))
      (pss_cons (ps_if (pt_not (pt_val (pe_callG GA hr1 hGA rfl A'.g A'.F.kp A'.b (pa_cons (pv 11) (pa_cons (pe_lst (pa_cons (pv 3) (pa_cons (pv 3) (pa_cons (pv 3) (pa_cons (pv 4) (pa_cons (pv 3) pa_nil)))))) pa_nil))))) (pss_one (ps_ret pe_bl)) pss_nil)
      (pss_cons (ps_par (i := 12) (j := 13) rfl nd rfl rfl (by decide) rfl rfl (pa_cons (pe_mk1 T.F.m13 hR2 rfl (pa_cons (pe_lst (pa_cons pe_int pa_nil)) pa_nil)) (pa_cons (pe_mk1 T.F.m13 hR2 rfl (pa_cons (pe_lst (pa_cons pe_int pa_nil)) pa_nil)) pa_nil)) (by rfl))
      (pss_one (ps_if (PW.pt (pw_or (pt_cmpR (op_neD hu) (pe_qfld (pv 12)) (pe_lst (pa_cons pe_int pa_nil)) (nomark _)) (pw_or1 (pt_cmpR (op_neD hu) (pe_qfld (pv 13)) (pe_lst (pa_cons pe_int pa_nil)) (nomark _))))) (pss_one (ps_ret pe_bl)) pss_nil))))))))))))))
      (pss_one (ps_ret pe_bl)))), ?_⟩
    refine ⟨_, rfl, a, ns, rfl, hS, fun H1 b s1 nb B1 => ?_⟩
    obtain ⟨c, B1⟩ := B1
    try dsimp only
    show tSeq _ _ _ [some (.ref a), some (.ref b), none, none, none, none, none, none, none, none, none, none, none, none] H1
    refine ⟨3, rfl, by decide, by decide, for_range (n := 3) (fun i σ' H' => BagC c H' b ∧ ∃ x2 x3 x4 x5 x6 x7 x8 x9 x10 x11 x12 x13, σ' = [some (.ref a), some (.ref b), x2, x3, x4, x5, x6, x7, x8, x9, x10, x11, x12, x13]) ⟨B1, none, none, none, none, none, none, none, none, none, none, none, none, rfl⟩ ?_ ?_⟩
    · rintro i σ' Ht hi ⟨Bt, x2, x3, x4, x5, x6, x7, x8, x9, x10, x11, x12, x13, rfl⟩
      try dsimp only
      show tSeq _ _ _ [some (.ref a), some (.ref b), some (.int (0 + (i : Int))), x3, x4, x5, x6, x7, x8, x9, x10, x11, x12, x13] Ht
      have hb := Bt.some
      refine st_menu (c := c) (CW := C 15) (n := 6) rfl Bt (by decide) (by decide) (.cons hb (it_lit ⟨by decide +kernel, by decide +kernel, by decide +kernel⟩ rfl) (.cons hb (it_odd rfl) (.cons hb (it_lodd rfl) (.cons hb (it_lit ⟨by decide +kernel, by decide +kernel, by decide +kernel⟩ rfl) (.cons hb (it_lit ⟨by decide +kernel, by decide +kernel, by decide +kernel⟩ rfl) (.cons hb (it_wrong T.K) .nil)))))) fun v H2 e2 B2 V2 => ?_
      try dsimp only
      show tSeq _ _ _ [some (.ref a), some (.ref b), some (.int (0 + (i : Int))), some v, x4, x5, x6, x7, x8, x9, x10, x11, x12, x13] H2
      have hb2 := B2.some
      refine st_menu (c := c) (CW := C 15) (n := 4) rfl B2 (by decide) (by decide) (.cons hb2 (it_lit ⟨by decide +kernel, by decide +kernel, by decide +kernel⟩ rfl) (.cons hb2 (it_odd rfl) (.cons hb2 (it_llodd rfl) (.cons hb2 (it_lit ⟨by decide +kernel, by decide +kernel, by decide +kernel⟩ rfl) .nil)))) fun o H4 e4 B4 V4 => ?_
      try dsimp only
      show tSeq _ _ _ [some (.ref a), some (.ref b), some (.int (0 + (i : Int))), some v, some o, x5, x6, x7, x8, x9, x10, x11, x12, x13] H4
      obtain ⟨d, od, fd, td⟩ := V2
      obtain ⟨e, oe, fe, te⟩ := V4
      refine ⟨_, rfl, _, rfl, v, o, rfl, fun p H5 s5 F5 => ?_⟩
      try dsimp only
      show tSeq _ _ _ [some (.ref a), some (.ref b), some (.int (0 + (i : Int))), some v, some o, some (.ref p), x6, x7, x8, x9, x10, x11, x12, x13] H5
      obtain ⟨rs, e5, R5⟩ := F5.rows
      have np := F5.np
      refine or_open ?_
      refine rd_classes rfl (by exact Nat.le_of_ble_eq_true rfl) e5 R5 tabs_C rfl fun D1 H6 ac1 s6 a1 p1 => ?_
      refine rd_nums (by exact Nat.le_of_ble_eq_true rfl) fun D2 H7 ac2 s7 a2 p2 => ?_
      refine ⟨nums, nums, (p1.same s7).dp (s7 _ _ a1), p2.dp a2, nums_eq.2, nums_eq.2, _, rfl, ?_⟩
      rw [nums_eq.1]
      refine iteF ?_
      have kv7 : Keeps Ht H2 H7 := (Keeps.ext hb e4).trans (.of_same (s5.trans (s6.trans s7)))
      refine ⟨_, rfl, v, d, rfl, (fd.mono (by decide) (by decide)).good (od _ kv7), fun H8 s8 => ⟨true, rfl, iteF ?_⟩⟩
      refine next_open ?_
      try dsimp only
      show tSeq _ _ _ [some (.ref a), some (.ref b), some (.int (0 + (i : Int))), some v, some o, some (.ref p), x6, x7, x8, x9, x10, x11, x12, x13] H8
      have s58 := s6.trans (s7.trans s8)
      have e8 := s58 _ _ e5
      have R8 : Rows (bse H4 p) H8 rs (tabs C v o) := R5.keep (.of_same s58)
      have X : Ctx K b c p rs v o d e Ht H2 H4 H5 H8 := ⟨Bt, e2, B2, od, fd, e4, B4, oe, fe, np, s5, e5, s58⟩
      have gv8 : Good K H8 v d := (fd.mono (by decide) (by decide)).good (od _ X.kv)
      have go8 : Good K H8 o e := (fe.mono (by decide) (by decide)).good (oe _ X.ko)
      refine ⟨_, rfl, p, rfl, ⟨_, SqL.of e8⟩, for_list (xs := rs) (fun j σ' H' => H' = H8 ∧ ∃ y8 y9 y10, σ' = [some (.ref a), some (.ref b), some (.int (0 + (i : Int))), some v, some o, some (.ref p), x6, x7, y8, y9, y10, x11, x12, x13]) ⟨rfl, x8, x9, x10, rfl⟩ (fun j σ' H' _ ⟨z, _⟩ => by rw [z]; exact SqL.of e8) ?_ ?_⟩
      · rintro j x σ' H' hj ⟨rfl, y8, y9, y10, rfl⟩
        obtain ⟨t, ht, pr, u, ah, ad, rfl, h2, h3, h4, h5, h6, h7, h8⟩ := paired_at R8 hj
        have hlt : j < 22 := (List.getElem?_eq_some_iff.mp ht).1
        rw [tabs_C j t ht] at h4
        obtain ⟨hl, ds, gd⟩ := tabs_good gv8 go8 t (List.mem_of_getElem? ht)
        refine ⟨pr, _, rfl, SqT.of h3, rfl, u, _, rfl, _, _, rfl, _, _, rfl, rfl, ?_⟩
        refine ⟨_, rfl, _, rfl, .ref ah, .ref ad, rfl, gd.alike hl h6 h8, true, rfl, iteF ?_⟩
        obtain ⟨ex, t0, dx, rfl, hx, hdx⟩ := h4.parts
        refine ⟨_, rfl, ex, C j, t0, dx, .ref G, .ref G, true, rfl, T.J.q j hlt, hx, hdx, fun z r => r, T.kG j hlt, true, rfl, iteF ?_⟩
        refine ⟨_, rfl, ex, C j, t0, dx, .ty "ValueError", .type "ValueError", true, rfl, T.J.q j hlt, hx, hdx, fun z r => r, T.kV j hlt, true, rfl, iteF ?_⟩
        exact ⟨rfl, _, _, _, rfl⟩
      · rintro σ' H' ⟨rfl, y8, y9, y10, rfl⟩
        try dsimp only
        show tSeq _ _ _ [some (.ref a), some (.ref b), some (.int (0 + (i : Int))), some v, some o, some (.ref p), x6, x7, y8, y9, y10, x11, x12, x13] H'
        refine st_append (Post := P6 K b c p rs v Ht H2 H4 H5) rfl (vp_isL T.K od td X.kv) (od _ X.kv) (fd.mono (by decide) (by decide)) (fun _ => X.p6) (fun a xs ds h1 h2 h3 => X.p6m h1 h2 h3) fun H9 P9 => ?_
        have ko : Keeps H2 H4 H9 := by
          obtain ⟨d6, S, q1, q2, q3, q4, q5, _⟩ := P9
          exact q5
        refine st_append (Post := P8 K b c p rs v o H4 H5) rfl (vp_isL T.K oe te ko) (oe _ ko) (fe.mono (by decide) (by decide)) (fun _ => X.p8 P9) (fun a xs ds h1 h2 h3 => X.p8m P9 h1 h2 h3) fun H10 P10 => ?_
        try dsimp only
        show tSeq _ _ _ [some (.ref a), some (.ref b), some (.int (0 + (i : Int))), some v, some o, some (.ref p), x6, x7, y8, y9, y10, x11, x12, x13] H10
        obtain ⟨d8, e8', rv, fv, ro, fo, kr, ep, B10⟩ := P10
        have R10 : Rows (bse H4 p) H10 rs (tabs C v o) := R5.keep kr
        have gv : Good K H10 v d8 := (fv.mono (by decide) (by decide)).good rv
        have go : Good K H10 o e8' := (fo.mono (by decide) (by decide)).good ro
        refine cmp_open ?_
        refine rd_unlike rfl (by exact Nat.le_of_ble_eq_true rfl) ep R10 (fun t ht => ⟨(tabs_good gv go t ht).1, fun H' s => (tabs_good (gv.same s) (go.same s) t ht).2⟩) fun D3 H11 s11 e11 => ?_
        refine ⟨Nat.zero_le _, fun D4 n4 => ?_⟩
        have s12 : Same H11 (upd H11 D4 (.lst [])) := same_new (Same.refl H11) n4
        have e12 : upd H11 D4 (.lst []) D4 = some (.lst []) := upd_same
        generalize upd H11 D4 (.lst []) = H12 at s12 e12
        refine ⟨.list [], .list [], .lst (SqL.of (s12 _ _ e11)) .nil, .lst (SqL.of e12) .nil, rfl, rfl, _, rfl, ?_⟩
        rw [show PyData.eqv (.list []) (.list []) = true from by decide +kernel]
        refine iteF ?_
        refine next_open ?_
        try dsimp only
        show tSeq _ _ _ [some (.ref a), some (.ref b), some (.int (0 + (i : Int))), some v, some o, some (.ref p), x6, x7, y8, y9, y10, x11, x12, x13] H12
        have s1012 := s11.trans s12
        have ep12 := s1012 _ _ ep
        have R12 : Rows (bse H4 p) H12 rs (tabs C v o) := R10.keep (.of_same s1012)
        have lIx : ([("paper", o), ("index", v)] : List (Str × V)).lookup ("index" : Str) = some v := by
          rw [lookup_put, if_neg (by decide +kernel), lookup_put, if_pos rfl]
        refine five_open ?_
        refine row_fld (j := 0) (w := v) rfl ep12 R12 rfl T.F.m0.q T.F.m0.nf rfl ?_
        refine row_fld (j := 3) (w := v) rfl ep12 R12 rfl T.F.m3.q T.F.m3.nf rfl ?_
        refine row_fld (j := 11) (w := v) rfl ep12 R12 rfl T.F.m11.q T.F.m11.nf lIx ?_
        refine row_fld (j := 11) (w := o) rfl ep12 R12 rfl T.F.m11.q T.F.m11.ng rfl ?_
        refine row_fld (j := 14) (w := v) rfl ep12 R12 rfl T.F.m14.q T.F.m14.nf rfl ?_
        refine ⟨by show 5 ≤ sizeLine; decide, fun D5 n5 => ?_⟩
        try dsimp only
        show tSeq _ _ _ [some (.ref a), some (.ref b), some (.int (0 + (i : Int))), some v, some o, some (.ref p), x6, x7, y8, y9, y10, some (.ref D5), x12, x13] (upd H12 D5 (.lst [v, v, v, o, v]))
        have s13 : Same H12 (upd H12 D5 (.lst [v, v, v, o, v])) := same_new (Same.refl H12) n5
        have e13 : upd H12 D5 (.lst [v, v, v, o, v]) D5 = some (.lst [v, v, v, o, v]) := upd_same
        generalize upd H12 D5 (.lst [v, v, v, o, v]) = H13 at s13 e13
        refine ⟨_, rfl, _, rfl, _, rfl, _, rfl, _, rfl, _, rfl, by show 5 ≤ sizeLine; decide, fun D6 n6 => ?_⟩
        have s14 : Same H13 (upd H13 D6 (.lst [v, v, v, o, v])) := same_new (Same.refl H13) n6
        have e14 : upd H13 D6 (.lst [v, v, v, o, v]) D6 = some (.lst [v, v, v, o, v]) := upd_same
        generalize upd H13 D6 (.lst [v, v, v, o, v]) = H14 at s14 e14
        have s1014 := s1012.trans (s13.trans s14)
        have gs : Goods K H14 [v, v, v, o, v] [d8, d8, d8, e8', d8] := .cons (gv.same s1014) (.cons (gv.same s1014) (.cons (gv.same s1014) (.cons (go.same s1014) (.cons (gv.same s1014) .nil))))
        refine ⟨_, _, rfl, gs.alike (by show 5 ≤ 9; decide) (s14 _ _ e13) e14, true, rfl, iteF ?_⟩
        refine next_open ?_
        try dsimp only
        show tSeq _ _ _ [some (.ref a), some (.ref b), some (.int (0 + (i : Int))), some v, some o, some (.ref p), x6, x7, y8, y9, y10, some (.ref D5), x12, x13] H14
        refine ⟨by show 1 ≤ sizeLine; decide, fun q1 n1 => ?_⟩
        have s15 : Same H14 (upd H14 q1 (.lst [.int 1])) := same_new (Same.refl H14) n1
        have e15 : upd H14 q1 (.lst [V.int 1]) q1 = some (.lst [.int 1]) := upd_same
        generalize upd H14 q1 (.lst [V.int 1]) = H15 at s15 e15
        refine ⟨[("most", .ref q1)], rfl, fun m1 H16 s16 n16 ⟨d1, t1, nd1, _, hm1, hd1, _⟩ => ?_⟩
        have M1 : Made H15 H16 (.ref m1) (C 13) [("most", .ref q1)] := ⟨m1, t1, some d1, rfl, n16, hm1, .inr ⟨d1, rfl, nd1, hd1⟩⟩
        refine ⟨by show 1 ≤ sizeLine; decide, fun q2 n2 => ?_⟩
        have s17 : Same H16 (upd H16 q2 (.lst [.int 2])) := same_new (Same.refl H16) n2
        have e17 : upd H16 q2 (.lst [V.int 2]) q2 = some (.lst [.int 2]) := upd_same
        generalize upd H16 q2 (.lst [V.int 2]) = H17 at s17 e17
        refine ⟨[("most", .ref q2)], rfl, fun m2 H18 s18 n18 ⟨d2, t2, nd2, _, hm2, hd2, _⟩ => ?_⟩
        have M2 : Made H17 H18 (.ref m2) (C 13) [("most", .ref q2)] := ⟨m2, t2, some d2, rfl, n18, hm2, .inr ⟨d2, rfl, nd2, hd2⟩⟩
        refine ⟨_, _, rfl, ?_⟩
        try dsimp only
        show tIfS _ _ _ _ [some (.ref a), some (.ref b), some (.int (0 + (i : Int))), some v, some o, some (.ref p), x6, x7, y8, y9, y10, some (.ref D5), some (.ref m1), some (.ref m2)] H18
        have M1' := M1.later (s17.trans s18)
        refine ⟨_, rfl, M1'.fldv T.F.m13.q T.F.m13.nf rfl ⟨by show 1 ≤ sizeLine; decide, fun q3 n3 => ?_⟩⟩
        have s19 : Same H18 (upd H18 q3 (.lst [.int 1])) := same_new (Same.refl H18) n3
        have e19 : upd H18 q3 (.lst [V.int 1]) q3 = some (.lst [.int 1]) := upd_same
        generalize upd H18 q3 (.lst [V.int 1]) = H19 at s19 e19
        have e15' := s19 _ _ (s18 _ _ (s17 _ _ (s16 _ _ e15)))
        refine ⟨.list [.int 1], .list [.int 1], .lst (SqL.of e15') (.cons (.int 1) .nil), .lst (SqL.of e19) (.cons (.int 1) .nil), rfl, rfl, _, rfl, ?_⟩
        rw [show PyData.eqv (.list [.int 1]) (.list [.int 1]) = true from by decide +kernel]
        refine iteF ?_
        have M2' := M2.later s19
        refine ⟨_, rfl, M2'.fldv T.F.m13.q T.F.m13.nf rfl ⟨by show 1 ≤ sizeLine; decide, fun q4 n4' => ?_⟩⟩
        have s20 : Same H19 (upd H19 q4 (.lst [.int 2])) := same_new (Same.refl H19) n4'
        have e20 : upd H19 q4 (.lst [V.int 2]) q4 = some (.lst [.int 2]) := upd_same
        generalize upd H19 q4 (.lst [V.int 2]) = H20 at s20 e20
        have e17' := s20 _ _ (s19 _ _ (s18 _ _ e17))
        refine ⟨.list [.int 2], .list [.int 2], .lst (SqL.of e17') (.cons (.int 2) .nil), .lst (SqL.of e20) (.cons (.int 2) .nil), rfl, rfl, _, rfl, ?_⟩
        rw [show PyData.eqv (.list [.int 2]) (.list [.int 2]) = true from by decide +kernel]
        refine iteF ?_
        refine ⟨((((B10.same s1014).same (s15.trans s16)).same (s17.trans s18)).same (s19.trans s20)), ?_⟩
        exact ⟨_, _, _, _, _, _, _, _, _, _, _, _, rfl⟩
    · rintro σ' H' ⟨B', _⟩
      exact k H'
end
end Gy

namespace Gy
open PySem L2 PySem.Spec PyProof.Rows
/-- what the law sees of the script's list: a thing that stays, if the written part has it not -/
def seen (K : PySem.W.Frag) (a : Addr) (ob : Obj) (xs : List V) : Hp := fun b => if b = a then (match K.lookup a with
  | none => some (.frz ob (.lst xs))
  | some _ => none) else none
theorem seen_some {K : PySem.W.Frag} {a b : Addr} {ob : Obj} {xs : List V} {u : HO} (h : seen K a ob xs b = some u) : b = a ∧ K.lookup a = none ∧ u = .frz ob (.lst xs) := by
  unfold seen at h
  by_cases e : b = a
  · rw [if_pos e] at h
    cases q : K.lookup a with
    | none =>
      rw [q] at h
      exact ⟨e, rfl, (Option.some.inj h).symm⟩
    | some o =>
      rw [q] at h
      cases h
  · rw [if_neg e] at h
    cases h
theorem seen_dict {K : PySem.W.Frag} {a b : Addr} {ob o : Obj} {xs : List V} {h : Heap} {its : Array Value} {n : Nat} {es : Array DictEntry} {ep : Nat} (ea : h.get? a = some ob) (da : ob.data = .seq its n) (eb : h.get? b = some o) (db : o.data = .dict es ep) : seen K a ob xs b = none := by
  cases q : seen K a ob xs b with
  | none => rfl
  | some u =>
    obtain ⟨z, _⟩ := seen_some q
    rw [z, ea] at eb
    cases eb
    rw [da] at db
    cases db
theorem hid_ns {h : Heap} {H : Hp} {b : Addr} {m : Str → Option Value} (n : ∀ {o : Obj} {es : Array DictEntry} {ep : Nat}, h.get? b = some o → o.data = .dict es ep → H b = none) (x : h.Ns b m) : (hidT h H).Ns b m := by
  obtain ⟨o, es, ep, e, d, r⟩ := x
  exact ⟨o, es, ep, hidT_get e (n e d), d, r⟩
/-- the law's call: what its promise says, at the top -/
theorem head_call {P : Program} {w : World} {K : PySem.W.Frag} {mg mb : Str → Option Value} {f a : Addr} {fd : FuncData} {s : Shared} {vs : List Value} {ns : List Int}
    (kin : K.In s.heap) (gl : s.heap.Ns mainGlobals mg) (bl : s.heap.Ns builtinsNs mb) (bb : ∀ x : Str, x ≠ "__name__" → mb x = bootBuiltins x) (lim : s.heap.NoLimit) (gn : s.gens = #[])
    (obj : s.heap.get? a = some { cls := .type "list", data := .seq vs.toArray }) (hint : IntsAre vs ns) (len : ns.length ≤ sizeLine) (bind : ∀ u : Value, BindsTo s fd ⟨[u], []⟩ [("_law_script", u)])
    (F : ∀ base : Heap, K.In base → base.Ns mainGlobals mg → FnG NoGuardC P w K mg base 5 f fd ["_law_script"] (spLaw K)) :
    codeAny (model P w) callerA (.call (.ref f) ⟨[.ref a], []⟩) (fun r s' => r = .ok (.ret (.bool true)) ∧ OldK s.heap s'.heap ∧ s'.os = s.os ∧ AllBare s'.gens) s := by
  have lv := hint.length
  have rv : Vals (ns.map V.int) vs := L2.vals_ints hint
  generalize hS : seen K a { cls := .type "list", data := .seq vs.toArray } (ns.map V.int) = S
  have back : ∀ {b : Addr} {u : HO}, S b = some u → b = a ∧ K.lookup a = none ∧ u = .frz { cls := .type "list", data := .seq vs.toArray } (.lst (ns.map V.int)) := fun {b u} z => seen_some (by rw [hS]; exact z)
  have dct : ∀ {b : Addr} {o : Obj} {es : Array DictEntry} {ep : Nat}, s.heap.get? b = some o → o.data = .dict es ep → S b = none := fun e d => by
    rw [← hS]
    exact seen_dict obj rfl e d
  have ok : HOk P w S s.heap := fun b u z => by
    obtain ⟨rfl, _, rfl⟩ := back z
    exact ⟨obj, by rw [List.length_map]; exact len, vs, _, rv, obj⟩
  have list : SqL K S a (ns.map V.int) := by
    cases q : K.lookup a with
    | none => exact .inl (.inr ⟨_, by rw [← hS]; unfold seen; rw [if_pos rfl, q]⟩)
    | some o =>
      have e := kin a o q
      rw [obj] at e
      cases e
      exact .inr ⟨_, vs.toArray, _, q, rfl, rfl, rfl, by rw [List.size_toArray, lv]; exact len, rv⟩
  have kin' : K.In (hidT s.heap S) := fun b o e => hidT_get (kin b o e) (by
    cases q : S b with
    | none => rfl
    | some u =>
      obtain ⟨rfl, z, _⟩ := back q
      rw [e] at z
      cases z)
  obtain ⟨ml, l1, l2⟩ := lim
  have gl' : (hidT s.heap S).Ns mainGlobals mg := hid_ns dct gl
  have md : Mod K mg (hidT s.heap S) := {
    kin := kin'
    glob := gl'
    blt := ⟨mb, hid_ns dct bl, bb⟩
    nolimit := ⟨ml, hid_ns dct l1, l2⟩ }
  have none_in : ∀ b : Addr, b ∈ frs [] → S b = none := fun b hb => absurd (show b ∈ ([] : List Addr) from hb) List.not_mem_nil
  have en : Env0 P w K mg (hidT s.heap S) callerA [] s S := {
    frames := rfl
    mod := md
    bs := fun b o e => of_hidT e
    bsz := Nat.le_of_eq (hidT_size _ _)
    funs := trivial
    frf := none_in
    hok := ok
    bare := .of_eq gn }
  have room : RoomH 5 callerA := ⟨by decide, by decide⟩
  refine codeAny_mono ((F _ kin' gl').run callerA [] s S ⟨[.ref a], []⟩ [.ref a] [.ref a] (fun v _ => v = .bl true) (fun _ _ _ => False) room ⟨rfl, rfl⟩ en (bind (.ref a)) (.cons rfl .nil) ⟨a, ns, rfl, list, fun _ => rfl⟩) ?_
  intro r s' z
  match r, z with
  | .ok (.ret u), z =>
    obtain ⟨v, S', os, br, un, ok', rv', ev⟩ := z
    have e : v = .bl true := ev
    rw [e] at rv'
    have eu : u = Value.bool true := rv'
    refine ⟨by rw [eu], .of_keep fun b o g => ?_, os, br⟩
    cases q : S b with
    | none => exact un.keep b o g q (fun y => absurd (show b ∈ ([] : List Addr) from y) List.not_mem_nil) List.not_mem_nil
    | some t =>
      obtain ⟨rfl, _, rfl⟩ := back q
      have q' := un.frzs _ _ _ q
      have g1 := (ok _ _ q).1
      have g2 := (ok' _ _ q').1
      rw [g1] at g
      cases g
      exact g2
end Gy

namespace Gy
open PySem L2 PySem.Spec PyProof.Rows
open PySem.GyRX (ShowC)
/-! ### what the program's top has left, told as truths -/
def exB (K : PySem.W.Frag) (C : Addr) : Bool :=
  (decide (PySem.W.findIn K (.ref C) "__setattr__" = some (some (.builtin "object.__setattr__"))) && decide (PySem.W.subIn K (.ref C) (.type "BaseException") = some true) && decide (PySem.W.typeIn K (.ref C) = some (.type "type")) && PySem.W.keepIn K (.ref C)) &&
  (decide (PySem.W.findIn K (.ref C) "__getattribute__" = some (some (.builtin "BaseException.__getattribute__"))) && decide (PySem.W.findIn K (.ref C) "__getattr__" = some none) && PySem.W.hasDictIn K C && decide (PySem.W.findIn K (.ref C) "__class__" = some (some (.builtin "object.__class__")))) &&
  (decide (PySem.W.specialIn K (.builtin "object.__class__") "__get__" = some (some (.builtin "getset_descriptor.__get__"))) && decide (PySem.W.takesIn K (.builtin "object.__class__") = some true) && decide (PySem.W.mroIn K C (.type "object") = some true))
def Shape (K : PySem.W.Frag) (C : Addr) : Prop := ∃ nm q N bs bm sn sub ab col dd k0 k1 k2 k3 k5, K.lookup C = some (excClassObj nm q C N bs bm true sn sub ab col dd k0 k1 k2 k3 k5 "ValueError.__new__") ∧ PySem.HandSPX.refsVE bm = true
theorem exq_of {K : PySem.W.Frag} {C : Addr} (h : Shape K C) (b : exB K C = true) : ExQ K C := by
  unfold exB at b
  simp only [Bool.and_eq_true, decide_eq_true_eq] at b
  obtain ⟨⟨⟨⟨⟨b1, b2⟩, b3⟩, b4⟩, ⟨⟨b5, b6⟩, b7⟩, b8⟩, ⟨b9, b10⟩, b11⟩ := b
  exact ⟨⟨h, b1, b2, b3, b4⟩, b5, b6, b7, b8, b9, b10, b11⟩
def kitB (K : PySem.W.Frag) (Cs : List Addr) : Bool := (List.range 22).all fun i => (List.range 22).all fun j => decide (PySem.W.kitOne K (.ref (Cs.getD i 0)) (.ref (Cs.getD j 0)) = some (decide (i = j)))
def upB (K : PySem.W.Frag) (G : Addr) (Cs : List Addr) : Bool := (List.range 22).all fun i => decide (PySem.W.kitOne K (.ref (Cs.getD i 0)) (.ref G) = some true) && decide (PySem.W.kitOne K (.ref (Cs.getD i 0)) (.type "ValueError") = some true) && exB K (Cs.getD i 0)
def lsB (K : PySem.W.Frag) (W : Addr) : Bool :=
  (decide (PySem.W.kitOne K (.type "NoneType") (.type "list") = some false) && decide (PySem.W.kitOne K (.type "bool") (.type "list") = some false) && decide (PySem.W.kitOne K (.type "int") (.type "list") = some false) && decide (PySem.W.kitOne K (.type "str") (.type "list") = some false)) &&
  (decide (PySem.W.kitOne K (.type "list") (.type "list") = some true) && decide (PySem.W.kitOne K (.type "tuple") (.type "list") = some false) && decide (PySem.W.kitOne K (.type "dict") (.type "list") = some false) && decide (PySem.W.kitOne K (.ref W) (.type "list") = some false)) &&
  ((match PySem.W.clsIn K W with
    | some cd => decide (Str.ofString ((cd.name.toString.cutAt '.').getLastD "") = ("Wrong" : Str))
    | none => false) && decide (PySem.W.findIn K (.ref W) "__repr__" = some (some (.builtin "BaseException.__repr__"))) && decide (PySem.W.findIn K (.ref W) "__eq__" = some (some (.builtin "object.__eq__"))))
def excB (K : PySem.W.Frag) (G U H N : Addr) : Bool :=
  decide (PySem.W.exmOne K (.ref U) (.ref G) = some true) && decide (PySem.W.exmOne K (.ref H) (.ref H) = some true) && decide (PySem.W.exmOne K (.ref N) (.ref G) = some true) && decide (PySem.W.kitOne K (.ref U) (.ref U) = some true) && decide (PySem.W.kitOne K (.ref N) (.ref N) = some true) && decide (PySem.W.kitOne K (.ref N) (.type "ValueError") = some true)
def veB : List Value := [.type "ValueError", .type "Exception", .type "BaseException", .type "object"]
def bare6 (K : PySem.W.Frag) (Cs : List Addr) : Bool := (List.range 6).all fun i => PySem.W.excIn K (Cs.getD (16 + i) 0) veB "ValueError.__new__"
section
variable {P : Program} {w : World} {K : PySem.W.Frag} {mg : Str → Option Value} {base : Heap}
theorem txtK_of {W : Addr} (b : lsB K W = true) (q : ExQ K W) : TxtK K W := by
  unfold lsB at b
  simp only [Bool.and_eq_true, decide_eq_true_eq] at b
  obtain ⟨⟨⟨⟨⟨b1, b2⟩, b3⟩, b4⟩, ⟨⟨b5, b6⟩, b7⟩, b8⟩, ⟨b9, b10⟩, b11⟩ := b
  refine ⟨b1, b2, b3, b4, b5, b6, b7, b8, q, ⟨?_, b10, q.oex.exC⟩, q.cm, b11⟩
  cases h : PySem.W.clsIn K W with
  | none => rw [h] at b9; cases b9
  | some cd =>
    rw [h] at b9
    exact ⟨cd, rfl, of_decide_eq_true b9⟩
/-- a class with its __init__ -/
structure Own1 (K : PySem.W.Frag) (mg : Str → Option Value) (x qual : Str) (st : Stmt) (ps : List Str) (C : Addr) : Prop where
  g : mg x = some (.ref C)
  sh : Shape K C
  nf : ∀ f ∈ ps.tail, PySem.W.findIn K (.ref C) f = some none
  ini : ∃ (fI : Addr) (fd : FuncData), PySem.W.findIn K (.ref C) "__init__" = some (some (.ref fI)) ∧ PySem.W.typeIn K (.ref fI) = some (.type "function") ∧ Fun K "__init__" qual st fI fd ∧ L2.Binds K fd ps []
theorem all_mk {h : Heap} {fa G : Addr} (X : K.In h) (G' : h.Ns mainGlobals mg) (hfa : mg "law" = some (.ref fa))
    {C0 : Addr} {nm0 q0 : Str} {N0 : Addr} {bs0 : List Value} {sn0 : List Str} {sub0 : List Value} {ab0 : Bool} {col0 : Option Bool} {dd0 : Option Addr} {u0 v0 w0 x0 y0 : Option Value}
    {f0 : Addr} {od0 an0 : Option Addr} {sl0 : Array (Option Value)} {oc0 kV0 dc0 pm0 cd0 ct0 : Value}
    {C1 : Addr} {nm1 q1 : Str} {N1 : Addr} {bs1 : List Value} {sn1 : List Str} {sub1 : List Value} {ab1 : Bool} {col1 : Option Bool} {dd1 : Option Addr} {u1 v1 w1 x1 y1 : Option Value}
    {f1 : Addr} {od1 an1 : Option Addr} {sl1 : Array (Option Value)} {oc1 kV1 dc1 pm1 cd1 ct1 : Value}
    {C2 : Addr} {nm2 q2 : Str} {N2 : Addr} {bs2 : List Value} {sn2 : List Str} {sub2 : List Value} {ab2 : Bool} {col2 : Option Bool} {dd2 : Option Addr} {u2 v2 w2 x2 y2 : Option Value}
    {f2 : Addr} {od2 an2 : Option Addr} {sl2 : Array (Option Value)} {oc2 kV2 dc2 pm2 cd2 ct2 : Value}
    {C3 : Addr} {nm3 q3 : Str} {N3 : Addr} {bs3 : List Value} {sn3 : List Str} {sub3 : List Value} {ab3 : Bool} {col3 : Option Bool} {dd3 : Option Addr} {u3 v3 w3 x3 y3 : Option Value}
    {f3 : Addr} {od3 an3 : Option Addr} {sl3 : Array (Option Value)} {oc3 kV3 dc3 pm3 cd3 ct3 : Value}
    {C4 : Addr} {nm4 q4 : Str} {N4 : Addr} {bs4 : List Value} {sn4 : List Str} {sub4 : List Value} {ab4 : Bool} {col4 : Option Bool} {dd4 : Option Addr} {u4 v4 w4 x4 y4 : Option Value}
    {f4 : Addr} {od4 an4 : Option Addr} {sl4 : Array (Option Value)} {oc4 kV4 dc4 pm4 cd4 ct4 : Value}
    {C5 : Addr} {nm5 q5 : Str} {N5 : Addr} {bs5 : List Value} {sn5 : List Str} {sub5 : List Value} {ab5 : Bool} {col5 : Option Bool} {dd5 : Option Addr} {u5 v5 w5 x5 y5 : Option Value}
    {f5 : Addr} {od5 an5 : Option Addr} {sl5 : Array (Option Value)} {oc5 kV5 dc5 pm5 cd5 ct5 : Value}
    {C6 : Addr} {nm6 q6 : Str} {N6 : Addr} {bs6 : List Value} {sn6 : List Str} {sub6 : List Value} {ab6 : Bool} {col6 : Option Bool} {dd6 : Option Addr} {u6 v6 w6 x6 y6 : Option Value}
    {f6 : Addr} {od6 an6 : Option Addr} {sl6 : Array (Option Value)} {oc6 kV6 dc6 pm6 cd6 ct6 : Value}
    {C7 : Addr} {nm7 q7 : Str} {N7 : Addr} {bs7 : List Value} {sn7 : List Str} {sub7 : List Value} {ab7 : Bool} {col7 : Option Bool} {dd7 : Option Addr} {u7 v7 w7 x7 y7 : Option Value}
    {f7 : Addr} {od7 an7 : Option Addr} {sl7 : Array (Option Value)} {oc7 kV7 dc7 pm7 cd7 ct7 : Value}
    {C8 : Addr} {nm8 q8 : Str} {N8 : Addr} {bs8 : List Value} {sn8 : List Str} {sub8 : List Value} {ab8 : Bool} {col8 : Option Bool} {dd8 : Option Addr} {u8 v8 w8 x8 y8 : Option Value}
    {f8 : Addr} {od8 an8 : Option Addr} {sl8 : Array (Option Value)} {oc8 kV8 dc8 pm8 cd8 ct8 : Value}
    {C9 : Addr} {nm9 q9 : Str} {N9 : Addr} {bs9 : List Value} {sn9 : List Str} {sub9 : List Value} {ab9 : Bool} {col9 : Option Bool} {dd9 : Option Addr} {u9 v9 w9 x9 y9 : Option Value}
    {f9 : Addr} {od9 an9 : Option Addr} {sl9 : Array (Option Value)} {oc9 kV9 dc9 pm9 cd9 ct9 : Value}
    {C10 : Addr} {nm10 q10 : Str} {N10 : Addr} {bs10 : List Value} {sn10 : List Str} {sub10 : List Value} {ab10 : Bool} {col10 : Option Bool} {dd10 : Option Addr} {u10 v10 w10 x10 y10 : Option Value}
    {f10 : Addr} {od10 an10 : Option Addr} {sl10 : Array (Option Value)} {oc10 kV10 dc10 pm10 cd10 ct10 : Value}
    {C11 : Addr} {nm11 q11 : Str} {N11 : Addr} {bs11 : List Value} {sn11 : List Str} {sub11 : List Value} {ab11 : Bool} {col11 : Option Bool} {dd11 : Option Addr} {u11 v11 w11 x11 y11 : Option Value}
    {f11 : Addr} {od11 an11 : Option Addr} {sl11 : Array (Option Value)} {oc11 kV11 dc11 pm11 cd11 ct11 : Value}
    {C12 : Addr} {nm12 q12 : Str} {N12 : Addr} {bs12 : List Value} {sn12 : List Str} {sub12 : List Value} {ab12 : Bool} {col12 : Option Bool} {dd12 : Option Addr} {u12 v12 w12 x12 y12 : Option Value}
    {f12 : Addr} {od12 an12 : Option Addr} {sl12 : Array (Option Value)} {oc12 kV12 dc12 pm12 cd12 ct12 : Value}
    {C13 : Addr} {nm13 q13 : Str} {N13 : Addr} {bs13 : List Value} {sn13 : List Str} {sub13 : List Value} {ab13 : Bool} {col13 : Option Bool} {dd13 : Option Addr} {u13 v13 w13 x13 y13 : Option Value}
    {f13 : Addr} {od13 an13 : Option Addr} {sl13 : Array (Option Value)} {oc13 kV13 dc13 pm13 cd13 ct13 : Value}
    {C14 : Addr} {nm14 q14 : Str} {N14 : Addr} {bs14 : List Value} {sn14 : List Str} {sub14 : List Value} {ab14 : Bool} {col14 : Option Bool} {dd14 : Option Addr} {u14 v14 w14 x14 y14 : Option Value}
    {f14 : Addr} {od14 an14 : Option Addr} {sl14 : Array (Option Value)} {oc14 kV14 dc14 pm14 cd14 ct14 : Value}
    {C15 : Addr} {nm15 q15 : Str} {N15 : Addr} {bs15 : List Value} {sn15 : List Str} {sub15 : List Value} {ab15 : Bool} {col15 : Option Bool} {dd15 : Option Addr} {u15 v15 w15 x15 y15 : Option Value}
    {f15 : Addr} {od15 an15 : Option Addr} {sl15 : Array (Option Value)} {oc15 kV15 dc15 pm15 cd15 ct15 : Value}
    {C16 : Addr} {nm16 q16 : Str} {N16 : Addr} {bs16 : List Value} {sn16 : List Str} {sub16 : List Value} {ab16 : Bool} {col16 : Option Bool} {dd16 : Option Addr} {u16 v16 w16 x16 y16 : Option Value}
    {C17 : Addr} {nm17 q17 : Str} {N17 : Addr} {bs17 : List Value} {sn17 : List Str} {sub17 : List Value} {ab17 : Bool} {col17 : Option Bool} {dd17 : Option Addr} {u17 v17 w17 x17 y17 : Option Value}
    {C18 : Addr} {nm18 q18 : Str} {N18 : Addr} {bs18 : List Value} {sn18 : List Str} {sub18 : List Value} {ab18 : Bool} {col18 : Option Bool} {dd18 : Option Addr} {u18 v18 w18 x18 y18 : Option Value}
    {C19 : Addr} {nm19 q19 : Str} {N19 : Addr} {bs19 : List Value} {sn19 : List Str} {sub19 : List Value} {ab19 : Bool} {col19 : Option Bool} {dd19 : Option Addr} {u19 v19 w19 x19 y19 : Option Value}
    {C20 : Addr} {nm20 q20 : Str} {N20 : Addr} {bs20 : List Value} {sn20 : List Str} {sub20 : List Value} {ab20 : Bool} {col20 : Option Bool} {dd20 : Option Addr} {u20 v20 w20 x20 y20 : Option Value}
    {C21 : Addr} {nm21 q21 : Str} {N21 : Addr} {bs21 : List Value} {sn21 : List Str} {sub21 : List Value} {ab21 : Bool} {col21 : Option Bool} {dd21 : Option Addr} {u21 v21 w21 x21 y21 : Option Value}
    {fB : Addr} {odB anB : Option Addr} {slB : Array (Option Value)} {ocB kVB dcB pmB cdB ctB : Value}
    {fT : Addr} {odT anT : Option Addr} {slT : Array (Option Value)} {ocT kVT dcT pmT cdT ctT : Value}
    {fS : Addr} {odS anS : Option Addr} {slS : Array (Option Value)} {ocS kVS dcS pmS cdS ctS : Value}
    {fA : Addr} {odA anA : Option Addr} {slA : Array (Option Value)} {ocA kVA dcA pmA cdA ctA : Value}
    {fO : Addr} {odO anO : Option Addr} {slO : Array (Option Value)} {ocO kVO dcO pmO cdO ctO : Value}
    {fF : Addr} {odF anF : Option Addr} {slF : Array (Option Value)} {ocF kVF dcF pmF cdF ctF : Value}
    {fC : Addr} {odC anC : Option Addr} {slC : Array (Option Value)} {ocC kVC dcC pmC cdC ctC : Value}
    {fR : Addr} {odR anR : Option Addr} {slR : Array (Option Value)} {ocR kVR dcR pmR cdR ctR : Value}
    {fL : Addr} {odL anL : Option Addr} {slL : Array (Option Value)} {ocL kVL dcL pmL cdL ctL : Value}
    (gG : PySem.W.nsIn K mainGlobals "GoneError" = some (some (.ref G)))
    (rG : PySem.W.readsIn K G (.type "type") = true) (sG : PySem.W.specialIn K (.ref G) "__getattribute__" = some (some (.builtin "type.__getattribute__"))) (iG : PySem.W.findCls K (.ref G) (.type "type") "__init__" = some (.val (.builtin "ValueError.__init__")))
    (a0 : PySem.W.nsIn K mainGlobals "BadDeed" = some (some (.ref C0)))
    (x0L : K.lookup C0 = some (excClassObj nm0 q0 C0 N0 bs0 [.ref G, .type "ValueError", .type "Exception", .type "BaseException", .type "object"] true sn0 sub0 ab0 col0 dd0 u0 v0 w0 x0 y0 "ValueError.__new__"))
    (j0 : PySem.W.findIn K (.ref C0) "__init__" = some (some (.ref f0)))
    (t0 : PySem.W.typeIn K (.ref f0) = some (.type "function"))
    (l0 : K.lookup f0 = some ⟨oc0, od0, .func (PySem.W.fnOf "__init__" "BadDeed.__init__" (defArgs (sIni 2)) (defBody (sIni 2)) (defScope (sIni 2)) .none kV0 dc0 pm0 an0 cd0 ct0), sl0⟩) (c0 : PySem.W.codeIn K cd0 "BadDeed.__init__" = true) (k0 : PySem.W.keepIn K (.ref f0) = true)
    (n0index : PySem.W.findIn K (.ref C0) "index" = some none)
    (a1 : PySem.W.nsIn K mainGlobals "NoGround" = some (some (.ref C1)))
    (x1L : K.lookup C1 = some (excClassObj nm1 q1 C1 N1 bs1 [.ref G, .type "ValueError", .type "Exception", .type "BaseException", .type "object"] true sn1 sub1 ab1 col1 dd1 u1 v1 w1 x1 y1 "ValueError.__new__"))
    (j1 : PySem.W.findIn K (.ref C1) "__init__" = some (some (.ref f1)))
    (t1 : PySem.W.typeIn K (.ref f1) = some (.type "function"))
    (l1 : K.lookup f1 = some ⟨oc1, od1, .func (PySem.W.fnOf "__init__" "NoGround.__init__" (defArgs (sIni 7)) (defBody (sIni 7)) (defScope (sIni 7)) .none kV1 dc1 pm1 an1 cd1 ct1), sl1⟩) (c1 : PySem.W.codeIn K cd1 "NoGround.__init__" = true) (k1 : PySem.W.keepIn K (.ref f1) = true)
    (n1index : PySem.W.findIn K (.ref C1) "index" = some none)
    (a2 : PySem.W.nsIn K mainGlobals "NoIndex" = some (some (.ref C2)))
    (x2L : K.lookup C2 = some (excClassObj nm2 q2 C2 N2 bs2 [.ref G, .type "ValueError", .type "Exception", .type "BaseException", .type "object"] true sn2 sub2 ab2 col2 dd2 u2 v2 w2 x2 y2 "ValueError.__new__"))
    (j2 : PySem.W.findIn K (.ref C2) "__init__" = some (some (.ref f2)))
    (t2 : PySem.W.typeIn K (.ref f2) = some (.type "function"))
    (l2 : K.lookup f2 = some ⟨oc2, od2, .func (PySem.W.fnOf "__init__" "NoIndex.__init__" (defArgs (sIni 8)) (defBody (sIni 8)) (defScope (sIni 8)) .none kV2 dc2 pm2 an2 cd2 ct2), sl2⟩) (c2 : PySem.W.codeIn K cd2 "NoIndex.__init__" = true) (k2 : PySem.W.keepIn K (.ref f2) = true)
    (n2index : PySem.W.findIn K (.ref C2) "index" = some none)
    (a3 : PySem.W.nsIn K mainGlobals "NoKind" = some (some (.ref C3)))
    (x3L : K.lookup C3 = some (excClassObj nm3 q3 C3 N3 bs3 [.ref G, .type "ValueError", .type "Exception", .type "BaseException", .type "object"] true sn3 sub3 ab3 col3 dd3 u3 v3 w3 x3 y3 "ValueError.__new__"))
    (j3 : PySem.W.findIn K (.ref C3) "__init__" = some (some (.ref f3)))
    (t3 : PySem.W.typeIn K (.ref f3) = some (.type "function"))
    (l3 : K.lookup f3 = some ⟨oc3, od3, .func (PySem.W.fnOf "__init__" "NoKind.__init__" (defArgs (sIni 9)) (defBody (sIni 9)) (defScope (sIni 9)) .none kV3 dc3 pm3 an3 cd3 ct3), sl3⟩) (c3 : PySem.W.codeIn K cd3 "NoKind.__init__" = true) (k3 : PySem.W.keepIn K (.ref f3) = true)
    (n3name : PySem.W.findIn K (.ref C3) "name" = some none)
    (a4 : PySem.W.nsIn K mainGlobals "NoName" = some (some (.ref C4)))
    (x4L : K.lookup C4 = some (excClassObj nm4 q4 C4 N4 bs4 [.ref G, .type "ValueError", .type "Exception", .type "BaseException", .type "object"] true sn4 sub4 ab4 col4 dd4 u4 v4 w4 x4 y4 "ValueError.__new__"))
    (j4 : PySem.W.findIn K (.ref C4) "__init__" = some (some (.ref f4)))
    (t4 : PySem.W.typeIn K (.ref f4) = some (.type "function"))
    (l4 : K.lookup f4 = some ⟨oc4, od4, .func (PySem.W.fnOf "__init__" "NoName.__init__" (defArgs (sIni 11)) (defBody (sIni 11)) (defScope (sIni 11)) .none kV4 dc4 pm4 an4 cd4 ct4), sl4⟩) (c4 : PySem.W.codeIn K cd4 "NoName.__init__" = true) (k4 : PySem.W.keepIn K (.ref f4) = true)
    (n4name : PySem.W.findIn K (.ref C4) "name" = some none)
    (a5 : PySem.W.nsIn K mainGlobals "NotEver" = some (some (.ref C5)))
    (x5L : K.lookup C5 = some (excClassObj nm5 q5 C5 N5 bs5 [.ref G, .type "ValueError", .type "Exception", .type "BaseException", .type "object"] true sn5 sub5 ab5 col5 dd5 u5 v5 w5 x5 y5 "ValueError.__new__"))
    (j5 : PySem.W.findIn K (.ref C5) "__init__" = some (some (.ref f5)))
    (t5 : PySem.W.typeIn K (.ref f5) = some (.type "function"))
    (l5 : K.lookup f5 = some ⟨oc5, od5, .func (PySem.W.fnOf "__init__" "NotEver.__init__" (defArgs (sIni 14)) (defBody (sIni 14)) (defScope (sIni 14)) .none kV5 dc5 pm5 an5 cd5 ct5), sl5⟩) (c5 : PySem.W.codeIn K cd5 "NotEver.__init__" = true) (k5 : PySem.W.keepIn K (.ref f5) = true)
    (n5name : PySem.W.findIn K (.ref C5) "name" = some none)
    (a6 : PySem.W.nsIn K mainGlobals "Unlike" = some (some (.ref C6)))
    (x6L : K.lookup C6 = some (excClassObj nm6 q6 C6 N6 bs6 [.ref G, .type "ValueError", .type "Exception", .type "BaseException", .type "object"] true sn6 sub6 ab6 col6 dd6 u6 v6 w6 x6 y6 "ValueError.__new__"))
    (j6 : PySem.W.findIn K (.ref C6) "__init__" = some (some (.ref f6)))
    (t6 : PySem.W.typeIn K (.ref f6) = some (.type "function"))
    (l6 : K.lookup f6 = some ⟨oc6, od6, .func (PySem.W.fnOf "__init__" "Unlike.__init__" (defArgs (sIni 21)) (defBody (sIni 21)) (defScope (sIni 21)) .none kV6 dc6 pm6 an6 cd6 ct6), sl6⟩) (c6 : PySem.W.codeIn K cd6 "Unlike.__init__" = true) (k6 : PySem.W.keepIn K (.ref f6) = true)
    (n6name : PySem.W.findIn K (.ref C6) "name" = some none)
    (a7 : PySem.W.nsIn K mainGlobals "Barred" = some (some (.ref C7)))
    (x7L : K.lookup C7 = some (excClassObj nm7 q7 C7 N7 bs7 [.ref G, .type "ValueError", .type "Exception", .type "BaseException", .type "object"] true sn7 sub7 ab7 col7 dd7 u7 v7 w7 x7 y7 "ValueError.__new__"))
    (j7 : PySem.W.findIn K (.ref C7) "__init__" = some (some (.ref f7)))
    (t7 : PySem.W.typeIn K (.ref f7) = some (.type "function"))
    (l7 : K.lookup f7 = some ⟨oc7, od7, .func (PySem.W.fnOf "__init__" "Barred.__init__" (defArgs (sIni 3)) (defBody (sIni 3)) (defScope (sIni 3)) .none kV7 dc7 pm7 an7 cd7 ct7), sl7⟩) (c7 : PySem.W.codeIn K cd7 "Barred.__init__" = true) (k7 : PySem.W.keepIn K (.ref f7) = true)
    (n7until : PySem.W.findIn K (.ref C7) "until" = some none)
    (a8 : PySem.W.nsIn K mainGlobals "NoDial" = some (some (.ref C8)))
    (x8L : K.lookup C8 = some (excClassObj nm8 q8 C8 N8 bs8 [.ref G, .type "ValueError", .type "Exception", .type "BaseException", .type "object"] true sn8 sub8 ab8 col8 dd8 u8 v8 w8 x8 y8 "ValueError.__new__"))
    (j8 : PySem.W.findIn K (.ref C8) "__init__" = some (some (.ref f8)))
    (t8 : PySem.W.typeIn K (.ref f8) = some (.type "function"))
    (l8 : K.lookup f8 = some ⟨oc8, od8, .func (PySem.W.fnOf "__init__" "NoDial.__init__" (defArgs (sIni 6)) (defBody (sIni 6)) (defScope (sIni 6)) .none kV8 dc8 pm8 an8 cd8 ct8), sl8⟩) (c8 : PySem.W.codeIn K cd8 "NoDial.__init__" = true) (k8 : PySem.W.keepIn K (.ref f8) = true)
    (n8dial : PySem.W.findIn K (.ref C8) "dial" = some none)
    (a9 : PySem.W.nsIn K mainGlobals "NoLot" = some (some (.ref C9)))
    (x9L : K.lookup C9 = some (excClassObj nm9 q9 C9 N9 bs9 [.ref G, .type "ValueError", .type "Exception", .type "BaseException", .type "object"] true sn9 sub9 ab9 col9 dd9 u9 v9 w9 x9 y9 "ValueError.__new__"))
    (j9 : PySem.W.findIn K (.ref C9) "__init__" = some (some (.ref f9)))
    (t9 : PySem.W.typeIn K (.ref f9) = some (.type "function"))
    (l9 : K.lookup f9 = some ⟨oc9, od9, .func (PySem.W.fnOf "__init__" "NoLot.__init__" (defArgs (sIni 10)) (defBody (sIni 10)) (defScope (sIni 10)) .none kV9 dc9 pm9 an9 cd9 ct9), sl9⟩) (c9 : PySem.W.codeIn K cd9 "NoLot.__init__" = true) (k9 : PySem.W.keepIn K (.ref f9) = true)
    (n9rows : PySem.W.findIn K (.ref C9) "rows" = some none)
    (a10 : PySem.W.nsIn K mainGlobals "NoText" = some (some (.ref C10)))
    (x10L : K.lookup C10 = some (excClassObj nm10 q10 C10 N10 bs10 [.ref G, .type "ValueError", .type "Exception", .type "BaseException", .type "object"] true sn10 sub10 ab10 col10 dd10 u10 v10 w10 x10 y10 "ValueError.__new__"))
    (j10 : PySem.W.findIn K (.ref C10) "__init__" = some (some (.ref f10)))
    (t10 : PySem.W.typeIn K (.ref f10) = some (.type "function"))
    (l10 : K.lookup f10 = some ⟨oc10, od10, .func (PySem.W.fnOf "__init__" "NoText.__init__" (defArgs (sIni 13)) (defBody (sIni 13)) (defScope (sIni 13)) .none kV10 dc10 pm10 an10 cd10 ct10), sl10⟩) (c10 : PySem.W.codeIn K cd10 "NoText.__init__" = true) (k10 : PySem.W.keepIn K (.ref f10) = true)
    (n10line : PySem.W.findIn K (.ref C10) "line" = some none)
    (a11 : PySem.W.nsIn K mainGlobals "NotHeld" = some (some (.ref C11)))
    (x11L : K.lookup C11 = some (excClassObj nm11 q11 C11 N11 bs11 [.ref G, .type "ValueError", .type "Exception", .type "BaseException", .type "object"] true sn11 sub11 ab11 col11 dd11 u11 v11 w11 x11 y11 "ValueError.__new__"))
    (j11 : PySem.W.findIn K (.ref C11) "__init__" = some (some (.ref f11)))
    (t11 : PySem.W.typeIn K (.ref f11) = some (.type "function"))
    (l11 : K.lookup f11 = some ⟨oc11, od11, .func (PySem.W.fnOf "__init__" "NotHeld.__init__" (defArgs (sIni 15)) (defBody (sIni 15)) (defScope (sIni 15)) .none kV11 dc11 pm11 an11 cd11 ct11), sl11⟩) (c11 : PySem.W.codeIn K cd11 "NotHeld.__init__" = true) (k11 : PySem.W.keepIn K (.ref f11) = true)
    (n11index : PySem.W.findIn K (.ref C11) "index" = some none)
    (n11paper : PySem.W.findIn K (.ref C11) "paper" = some none)
    (a12 : PySem.W.nsIn K mainGlobals "NotMet" = some (some (.ref C12)))
    (x12L : K.lookup C12 = some (excClassObj nm12 q12 C12 N12 bs12 [.ref G, .type "ValueError", .type "Exception", .type "BaseException", .type "object"] true sn12 sub12 ab12 col12 dd12 u12 v12 w12 x12 y12 "ValueError.__new__"))
    (j12 : PySem.W.findIn K (.ref C12) "__init__" = some (some (.ref f12)))
    (t12 : PySem.W.typeIn K (.ref f12) = some (.type "function"))
    (l12 : K.lookup f12 = some ⟨oc12, od12, .func (PySem.W.fnOf "__init__" "NotMet.__init__" (defArgs (sIni 16)) (defBody (sIni 16)) (defScope (sIni 16)) .none kV12 dc12 pm12 an12 cd12 ct12), sl12⟩) (c12 : PySem.W.codeIn K cd12 "NotMet.__init__" = true) (k12 : PySem.W.keepIn K (.ref f12) = true)
    (n12place : PySem.W.findIn K (.ref C12) "place" = some none)
    (a13 : PySem.W.nsIn K mainGlobals "TooMany" = some (some (.ref C13)))
    (x13L : K.lookup C13 = some (excClassObj nm13 q13 C13 N13 bs13 [.ref G, .type "ValueError", .type "Exception", .type "BaseException", .type "object"] true sn13 sub13 ab13 col13 dd13 u13 v13 w13 x13 y13 "ValueError.__new__"))
    (j13 : PySem.W.findIn K (.ref C13) "__init__" = some (some (.ref f13)))
    (t13 : PySem.W.typeIn K (.ref f13) = some (.type "function"))
    (l13 : K.lookup f13 = some ⟨oc13, od13, .func (PySem.W.fnOf "__init__" "TooMany.__init__" (defArgs (sIni 20)) (defBody (sIni 20)) (defScope (sIni 20)) .none kV13 dc13 pm13 an13 cd13 ct13), sl13⟩) (c13 : PySem.W.codeIn K cd13 "TooMany.__init__" = true) (k13 : PySem.W.keepIn K (.ref f13) = true)
    (n13most : PySem.W.findIn K (.ref C13) "most" = some none)
    (a14 : PySem.W.nsIn K mainGlobals "Untold" = some (some (.ref C14)))
    (x14L : K.lookup C14 = some (excClassObj nm14 q14 C14 N14 bs14 [.ref G, .type "ValueError", .type "Exception", .type "BaseException", .type "object"] true sn14 sub14 ab14 col14 dd14 u14 v14 w14 x14 y14 "ValueError.__new__"))
    (j14 : PySem.W.findIn K (.ref C14) "__init__" = some (some (.ref f14)))
    (t14 : PySem.W.typeIn K (.ref f14) = some (.type "function"))
    (l14 : K.lookup f14 = some ⟨oc14, od14, .func (PySem.W.fnOf "__init__" "Untold.__init__" (defArgs (sIni 22)) (defBody (sIni 22)) (defScope (sIni 22)) .none kV14 dc14 pm14 an14 cd14 ct14), sl14⟩) (c14 : PySem.W.codeIn K cd14 "Untold.__init__" = true) (k14 : PySem.W.keepIn K (.ref f14) = true)
    (n14last : PySem.W.findIn K (.ref C14) "last" = some none)
    (a15 : PySem.W.nsIn K mainGlobals "Wrong" = some (some (.ref C15)))
    (x15L : K.lookup C15 = some (excClassObj nm15 q15 C15 N15 bs15 [.ref G, .type "ValueError", .type "Exception", .type "BaseException", .type "object"] true sn15 sub15 ab15 col15 dd15 u15 v15 w15 x15 y15 "ValueError.__new__"))
    (j15 : PySem.W.findIn K (.ref C15) "__init__" = some (some (.ref f15)))
    (t15 : PySem.W.typeIn K (.ref f15) = some (.type "function"))
    (l15 : K.lookup f15 = some ⟨oc15, od15, .func (PySem.W.fnOf "__init__" "Wrong.__init__" (defArgs (sIni 23)) (defBody (sIni 23)) (defScope (sIni 23)) .none kV15 dc15 pm15 an15 cd15 ct15), sl15⟩) (c15 : PySem.W.codeIn K cd15 "Wrong.__init__" = true) (k15 : PySem.W.keepIn K (.ref f15) = true)
    (n15place : PySem.W.findIn K (.ref C15) "place" = some none)
    (a16 : PySem.W.nsIn K mainGlobals "NoCommand" = some (some (.ref C16)))
    (x16L : K.lookup C16 = some (excClassObj nm16 q16 C16 N16 bs16 [.ref G, .type "ValueError", .type "Exception", .type "BaseException", .type "object"] true sn16 sub16 ab16 col16 dd16 u16 v16 w16 x16 y16 "ValueError.__new__"))
    (a17 : PySem.W.nsIn K mainGlobals "NoDeed" = some (some (.ref C17)))
    (x17L : K.lookup C17 = some (excClassObj nm17 q17 C17 N17 bs17 [.ref G, .type "ValueError", .type "Exception", .type "BaseException", .type "object"] true sn17 sub17 ab17 col17 dd17 u17 v17 w17 x17 y17 "ValueError.__new__"))
    (a18 : PySem.W.nsIn K mainGlobals "NoNews" = some (some (.ref C18)))
    (x18L : K.lookup C18 = some (excClassObj nm18 q18 C18 N18 bs18 [.ref G, .type "ValueError", .type "Exception", .type "BaseException", .type "object"] true sn18 sub18 ab18 col18 dd18 u18 v18 w18 x18 y18 "ValueError.__new__"))
    (a19 : PySem.W.nsIn K mainGlobals "NotMorning" = some (some (.ref C19)))
    (x19L : K.lookup C19 = some (excClassObj nm19 q19 C19 N19 bs19 [.ref G, .type "ValueError", .type "Exception", .type "BaseException", .type "object"] true sn19 sub19 ab19 col19 dd19 u19 v19 w19 x19 y19 "ValueError.__new__"))
    (a20 : PySem.W.nsIn K mainGlobals "NotTimed" = some (some (.ref C20)))
    (x20L : K.lookup C20 = some (excClassObj nm20 q20 C20 N20 bs20 [.ref G, .type "ValueError", .type "Exception", .type "BaseException", .type "object"] true sn20 sub20 ab20 col20 dd20 u20 v20 w20 x20 y20 "ValueError.__new__"))
    (a21 : PySem.W.nsIn K mainGlobals "Nothing" = some (some (.ref C21)))
    (x21L : K.lookup C21 = some (excClassObj nm21 q21 C21 N21 bs21 [.ref G, .type "ValueError", .type "Exception", .type "BaseException", .type "object"] true sn21 sub21 ab21 col21 dd21 u21 v21 w21 x21 y21 "ValueError.__new__"))
    (aB : PySem.W.nsIn K mainGlobals "_law_bag" = some (some (.ref fB)))
    (lB : K.lookup fB = some ⟨ocB, odB, .func (PySem.W.fnOf "_law_bag" "_law_bag" (defArgs sBag) (defBody sBag) (defScope sBag) .none kVB dcB pmB anB cdB ctB), slB⟩) (cB : PySem.W.codeIn K cdB "_law_bag" = true) (kB : PySem.W.keepIn K (.ref fB) = true)
    (aT : PySem.W.nsIn K mainGlobals "_law_take" = some (some (.ref fT)))
    (lT : K.lookup fT = some ⟨ocT, odT, .func (PySem.W.fnOf "_law_take" "_law_take" (defArgs sTake) (defBody sTake) (defScope sTake) .none kVT dcT pmT anT cdT ctT), slT⟩) (cT : PySem.W.codeIn K cdT "_law_take" = true) (kT : PySem.W.keepIn K (.ref fT) = true)
    (aS : PySem.W.nsIn K mainGlobals "_law_some" = some (some (.ref fS)))
    (lS : K.lookup fS = some ⟨ocS, odS, .func (PySem.W.fnOf "_law_some" "_law_some" (defArgs sSome) (defBody sSome) (defScope sSome) .none kVS dcS pmS anS cdS ctS), slS⟩) (cS : PySem.W.codeIn K cdS "_law_some" = true) (kS : PySem.W.keepIn K (.ref fS) = true)
    (aA : PySem.W.nsIn K mainGlobals "_law_alike" = some (some (.ref fA)))
    (lA : K.lookup fA = some ⟨ocA, odA, .func (PySem.W.fnOf "_law_alike" "_law_alike" (defArgs sAlike) (defBody sAlike) (defScope sAlike) .none kVA dcA pmA anA cdA ctA), slA⟩) (cA : PySem.W.codeIn K cdA "_law_alike" = true) (kA : PySem.W.keepIn K (.ref fA) = true)
    (aO : PySem.W.nsIn K mainGlobals "_law_odd" = some (some (.ref fO)))
    (lO : K.lookup fO = some ⟨ocO, odO, .func (PySem.W.fnOf "_law_odd" "_law_odd" (defArgs sOdd) (defBody sOdd) (defScope sOdd) .none kVO dcO pmO anO cdO ctO), slO⟩) (cO : PySem.W.codeIn K cdO "_law_odd" = true) (kO : PySem.W.keepIn K (.ref fO) = true)
    (aF : PySem.W.nsIn K mainGlobals "_law_with_fields" = some (some (.ref fF)))
    (lF : K.lookup fF = some ⟨ocF, odF, .func (PySem.W.fnOf "_law_with_fields" "_law_with_fields" (defArgs sFields) (defBody sFields) (defScope sFields) .none kVF dcF pmF anF cdF ctF), slF⟩) (cF : PySem.W.codeIn K cdF "_law_with_fields" = true) (kF : PySem.W.keepIn K (.ref fF) = true)
    (aC : PySem.W.nsIn K mainGlobals "_law_classes_of" = some (some (.ref fC)))
    (lC : K.lookup fC = some ⟨ocC, odC, .func (PySem.W.fnOf "_law_classes_of" "_law_classes_of" (defArgs sClasses) (defBody sClasses) (defScope sClasses) .none kVC dcC pmC anC cdC ctC), slC⟩) (cC : PySem.W.codeIn K cdC "_law_classes_of" = true) (kC : PySem.W.keepIn K (.ref fC) = true)
    (aR : PySem.W.nsIn K mainGlobals "_law_are_caught" = some (some (.ref fR)))
    (lR : K.lookup fR = some ⟨ocR, odR, .func (PySem.W.fnOf "_law_are_caught" "_law_are_caught" (defArgs sCaught) (defBody sCaught) (defScope sCaught) .none kVR dcR pmR anR cdR ctR), slR⟩) (cR : PySem.W.codeIn K cdR "_law_are_caught" = true) (kR : PySem.W.keepIn K (.ref fR) = true)
    (aL : PySem.W.nsIn K mainGlobals "law" = some (some (.ref fL)))
    (lL : K.lookup fL = some ⟨ocL, odL, .func (PySem.W.fnOf "law" "law" (defArgs sLaw) (defBody sLaw) (defScope sLaw) .none kVL dcL pmL anL cdL ctL), slL⟩) (cL : PySem.W.codeIn K cdL "law" = true) (kL : PySem.W.keepIn K (.ref fL) = true)
    (zint : PySem.W.nsIn K mainGlobals "int" = some none)
    (zabs : PySem.W.nsIn K mainGlobals "abs" = some none)
    (zlen : PySem.W.nsIn K mainGlobals "len" = some none)
    (zrepr : PySem.W.nsIn K mainGlobals "repr" = some none)
    (zisinstance : PySem.W.nsIn K mainGlobals "isinstance" = some none)
    (zrange : PySem.W.nsIn K mainGlobals "range" = some none)
    (zlist : PySem.W.nsIn K mainGlobals "list" = some none)
    (zValueError : PySem.W.nsIn K mainGlobals "ValueError" = some none)
    (bK : kitB K [C0, C1, C2, C3, C4, C5, C6, C7, C8, C9, C10, C11, C12, C13, C14, C15, C16, C17, C18, C19, C20, C21] = true)
    (bU : upB K G [C0, C1, C2, C3, C4, C5, C6, C7, C8, C9, C10, C11, C12, C13, C14, C15, C16, C17, C18, C19, C20, C21] = true)
    (bL : lsB K C15 = true)
    (bX : excB K G C14 C11 C16 = true)
    (b6 : bare6 K [C0, C1, C2, C3, C4, C5, C6, C7, C8, C9, C10, C11, C12, C13, C14, C15, C16, C17, C18, C19, C20, C21] = true) :
    ∃ fd : FuncData, (∀ (s : Shared) (v : Value), BindsTo s fd ⟨[v], []⟩ [("_law_script", v)]) ∧ ∀ base : Heap, K.In base → base.Ns mainGlobals mg → FnG NoGuardC P w K mg base 5 fa fd ["_law_script"] (spLaw K) := by
  have e := hfa.symm.trans (PySem.W.mg_of X G' aL)
  cases e
  have m : ∀ {x : Str} {v : Value}, PySem.W.nsIn K mainGlobals x = some (some v) → mg x = some v := fun q => PySem.W.mg_of X G' q
  have z : ∀ {x : Str}, PySem.W.nsIn K mainGlobals x = some none → mg x = none := fun q => PySem.W.mg_none_of X G' q
  have TE : ErrC K mg G := ⟨m gG, rG, sG, iG⟩
  unfold upB at bU
  simp only [List.all_eq_true, Bool.and_eq_true, decide_eq_true_eq, List.mem_range] at bU
  unfold kitB at bK
  simp only [List.all_eq_true, decide_eq_true_eq, List.mem_range] at bK
  unfold excB at bX
  simp only [Bool.and_eq_true, decide_eq_true_eq] at bX
  unfold bare6 at b6
  simp only [List.all_eq_true, List.mem_range] at b6
  obtain ⟨⟨⟨⟨⟨tx1, tx2⟩, tx3⟩, tx4⟩, tx5⟩, tx6⟩ := bX
  have E0 : ExQ K C0 := exq_of ⟨nm0, q0, N0, bs0, _, sn0, sub0, ab0, col0, dd0, u0, v0, w0, x0, y0, x0L, rfl⟩ (bU 0 (by decide)).2
  have F0 := fun_mk (st := sIni 2) l0 c0 k0
  have B0 := F0.binds (ps := ["self", "index"]) fun _ _ _ _ _ _ us hl => match us, hl with | [_, _], _ => rfl
  have M0 : ∀ base, Mk1 P w K mg base "BadDeed" C0 "index" := fun base => ⟨m a0, E0, n0index, f0, _, j0, t0, ok_ini_BadDeed F0 TE E0.oex n0index, B0⟩
  have E1 : ExQ K C1 := exq_of ⟨nm1, q1, N1, bs1, _, sn1, sub1, ab1, col1, dd1, u1, v1, w1, x1, y1, x1L, rfl⟩ (bU 1 (by decide)).2
  have F1 := fun_mk (st := sIni 7) l1 c1 k1
  have B1 := F1.binds (ps := ["self", "index"]) fun _ _ _ _ _ _ us hl => match us, hl with | [_, _], _ => rfl
  have M1 : ∀ base, Mk1 P w K mg base "NoGround" C1 "index" := fun base => ⟨m a1, E1, n1index, f1, _, j1, t1, ok_ini_NoGround F1 TE E1.oex n1index, B1⟩
  have E2 : ExQ K C2 := exq_of ⟨nm2, q2, N2, bs2, _, sn2, sub2, ab2, col2, dd2, u2, v2, w2, x2, y2, x2L, rfl⟩ (bU 2 (by decide)).2
  have F2 := fun_mk (st := sIni 8) l2 c2 k2
  have B2 := F2.binds (ps := ["self", "index"]) fun _ _ _ _ _ _ us hl => match us, hl with | [_, _], _ => rfl
  have M2 : ∀ base, Mk1 P w K mg base "NoIndex" C2 "index" := fun base => ⟨m a2, E2, n2index, f2, _, j2, t2, ok_ini_NoIndex F2 TE E2.oex n2index, B2⟩
  have E3 : ExQ K C3 := exq_of ⟨nm3, q3, N3, bs3, _, sn3, sub3, ab3, col3, dd3, u3, v3, w3, x3, y3, x3L, rfl⟩ (bU 3 (by decide)).2
  have F3 := fun_mk (st := sIni 9) l3 c3 k3
  have B3 := F3.binds (ps := ["self", "name"]) fun _ _ _ _ _ _ us hl => match us, hl with | [_, _], _ => rfl
  have M3 : ∀ base, Mk1 P w K mg base "NoKind" C3 "name" := fun base => ⟨m a3, E3, n3name, f3, _, j3, t3, ok_ini_NoKind F3 TE E3.oex n3name, B3⟩
  have E4 : ExQ K C4 := exq_of ⟨nm4, q4, N4, bs4, _, sn4, sub4, ab4, col4, dd4, u4, v4, w4, x4, y4, x4L, rfl⟩ (bU 4 (by decide)).2
  have F4 := fun_mk (st := sIni 11) l4 c4 k4
  have B4 := F4.binds (ps := ["self", "name"]) fun _ _ _ _ _ _ us hl => match us, hl with | [_, _], _ => rfl
  have M4 : ∀ base, Mk1 P w K mg base "NoName" C4 "name" := fun base => ⟨m a4, E4, n4name, f4, _, j4, t4, ok_ini_NoName F4 TE E4.oex n4name, B4⟩
  have E5 : ExQ K C5 := exq_of ⟨nm5, q5, N5, bs5, _, sn5, sub5, ab5, col5, dd5, u5, v5, w5, x5, y5, x5L, rfl⟩ (bU 5 (by decide)).2
  have F5 := fun_mk (st := sIni 14) l5 c5 k5
  have B5 := F5.binds (ps := ["self", "name"]) fun _ _ _ _ _ _ us hl => match us, hl with | [_, _], _ => rfl
  have M5 : ∀ base, Mk1 P w K mg base "NotEver" C5 "name" := fun base => ⟨m a5, E5, n5name, f5, _, j5, t5, ok_ini_NotEver F5 TE E5.oex n5name, B5⟩
  have E6 : ExQ K C6 := exq_of ⟨nm6, q6, N6, bs6, _, sn6, sub6, ab6, col6, dd6, u6, v6, w6, x6, y6, x6L, rfl⟩ (bU 6 (by decide)).2
  have F6 := fun_mk (st := sIni 21) l6 c6 k6
  have B6 := F6.binds (ps := ["self", "name"]) fun _ _ _ _ _ _ us hl => match us, hl with | [_, _], _ => rfl
  have M6 : ∀ base, Mk1 P w K mg base "Unlike" C6 "name" := fun base => ⟨m a6, E6, n6name, f6, _, j6, t6, ok_ini_Unlike F6 TE E6.oex n6name, B6⟩
  have E7 : ExQ K C7 := exq_of ⟨nm7, q7, N7, bs7, _, sn7, sub7, ab7, col7, dd7, u7, v7, w7, x7, y7, x7L, rfl⟩ (bU 7 (by decide)).2
  have F7 := fun_mk (st := sIni 3) l7 c7 k7
  have B7 := F7.binds (ps := ["self", "until"]) fun _ _ _ _ _ _ us hl => match us, hl with | [_, _], _ => rfl
  have M7 : ∀ base, Mk1 P w K mg base "Barred" C7 "until" := fun base => ⟨m a7, E7, n7until, f7, _, j7, t7, ok_ini_Barred F7 TE E7.oex n7until, B7⟩
  have E8 : ExQ K C8 := exq_of ⟨nm8, q8, N8, bs8, _, sn8, sub8, ab8, col8, dd8, u8, v8, w8, x8, y8, x8L, rfl⟩ (bU 8 (by decide)).2
  have F8 := fun_mk (st := sIni 6) l8 c8 k8
  have B8 := F8.binds (ps := ["self", "dial"]) fun _ _ _ _ _ _ us hl => match us, hl with | [_, _], _ => rfl
  have M8 : ∀ base, Mk1 P w K mg base "NoDial" C8 "dial" := fun base => ⟨m a8, E8, n8dial, f8, _, j8, t8, ok_ini_NoDial F8 TE E8.oex n8dial, B8⟩
  have E9 : ExQ K C9 := exq_of ⟨nm9, q9, N9, bs9, _, sn9, sub9, ab9, col9, dd9, u9, v9, w9, x9, y9, x9L, rfl⟩ (bU 9 (by decide)).2
  have F9 := fun_mk (st := sIni 10) l9 c9 k9
  have B9 := F9.binds (ps := ["self", "rows"]) fun _ _ _ _ _ _ us hl => match us, hl with | [_, _], _ => rfl
  have M9 : ∀ base, Mk1 P w K mg base "NoLot" C9 "rows" := fun base => ⟨m a9, E9, n9rows, f9, _, j9, t9, ok_ini_NoLot F9 TE E9.oex n9rows, B9⟩
  have E10 : ExQ K C10 := exq_of ⟨nm10, q10, N10, bs10, _, sn10, sub10, ab10, col10, dd10, u10, v10, w10, x10, y10, x10L, rfl⟩ (bU 10 (by decide)).2
  have F10 := fun_mk (st := sIni 13) l10 c10 k10
  have B10 := F10.binds (ps := ["self", "line"]) fun _ _ _ _ _ _ us hl => match us, hl with | [_, _], _ => rfl
  have M10 : ∀ base, Mk1 P w K mg base "NoText" C10 "line" := fun base => ⟨m a10, E10, n10line, f10, _, j10, t10, ok_ini_NoText F10 TE E10.oex n10line, B10⟩
  have E11 : ExQ K C11 := exq_of ⟨nm11, q11, N11, bs11, _, sn11, sub11, ab11, col11, dd11, u11, v11, w11, x11, y11, x11L, rfl⟩ (bU 11 (by decide)).2
  have F11 := fun_mk (st := sIni 15) l11 c11 k11
  have B11 := F11.binds (ps := ["self", "index", "paper"]) fun _ _ _ _ _ _ us hl => match us, hl with | [_, _, _], _ => rfl
  have M11 : ∀ base, Mk2 P w K mg base "NotHeld" C11 "index" "paper" := fun base => ⟨m a11, E11, n11index, n11paper, f11, _, j11, t11, ok_ini_NotHeld F11 TE E11.oex n11index n11paper, B11⟩
  have E12 : ExQ K C12 := exq_of ⟨nm12, q12, N12, bs12, _, sn12, sub12, ab12, col12, dd12, u12, v12, w12, x12, y12, x12L, rfl⟩ (bU 12 (by decide)).2
  have F12 := fun_mk (st := sIni 16) l12 c12 k12
  have B12 := F12.binds (ps := ["self", "place"]) fun _ _ _ _ _ _ us hl => match us, hl with | [_, _], _ => rfl
  have M12 : ∀ base, Mk1 P w K mg base "NotMet" C12 "place" := fun base => ⟨m a12, E12, n12place, f12, _, j12, t12, ok_ini_NotMet F12 TE E12.oex n12place, B12⟩
  have E13 : ExQ K C13 := exq_of ⟨nm13, q13, N13, bs13, _, sn13, sub13, ab13, col13, dd13, u13, v13, w13, x13, y13, x13L, rfl⟩ (bU 13 (by decide)).2
  have F13 := fun_mk (st := sIni 20) l13 c13 k13
  have B13 := F13.binds (ps := ["self", "most"]) fun _ _ _ _ _ _ us hl => match us, hl with | [_, _], _ => rfl
  have M13 : ∀ base, Mk1 P w K mg base "TooMany" C13 "most" := fun base => ⟨m a13, E13, n13most, f13, _, j13, t13, ok_ini_TooMany F13 TE E13.oex n13most, B13⟩
  have E14 : ExQ K C14 := exq_of ⟨nm14, q14, N14, bs14, _, sn14, sub14, ab14, col14, dd14, u14, v14, w14, x14, y14, x14L, rfl⟩ (bU 14 (by decide)).2
  have F14 := fun_mk (st := sIni 22) l14 c14 k14
  have B14 := F14.binds (ps := ["self", "last"]) fun _ _ _ _ _ _ us hl => match us, hl with | [_, _], _ => rfl
  have M14 : ∀ base, Mk1 P w K mg base "Untold" C14 "last" := fun base => ⟨m a14, E14, n14last, f14, _, j14, t14, ok_ini_Untold F14 TE E14.oex n14last, B14⟩
  have E15 : ExQ K C15 := exq_of ⟨nm15, q15, N15, bs15, _, sn15, sub15, ab15, col15, dd15, u15, v15, w15, x15, y15, x15L, rfl⟩ (bU 15 (by decide)).2
  have F15 := fun_mk (st := sIni 23) l15 c15 k15
  have B15 := F15.binds (ps := ["self", "place"]) fun _ _ _ _ _ _ us hl => match us, hl with | [_, _], _ => rfl
  have M15 : ∀ base, Mk1 P w K mg base "Wrong" C15 "place" := fun base => ⟨m a15, E15, n15place, f15, _, j15, t15, ok_ini_Wrong F15 TE E15.oex n15place, B15⟩
  have E16 : ExQ K C16 := exq_of ⟨nm16, q16, N16, bs16, _, sn16, sub16, ab16, col16, dd16, u16, v16, w16, x16, y16, x16L, rfl⟩ (bU 16 (by decide)).2
  have M16 : Mk0 K mg "NoCommand" C16 := ⟨m a16, E16, veB, PySem.F.excBase_ValueError, b6 0 (by decide)⟩
  have E17 : ExQ K C17 := exq_of ⟨nm17, q17, N17, bs17, _, sn17, sub17, ab17, col17, dd17, u17, v17, w17, x17, y17, x17L, rfl⟩ (bU 17 (by decide)).2
  have M17 : Mk0 K mg "NoDeed" C17 := ⟨m a17, E17, veB, PySem.F.excBase_ValueError, b6 1 (by decide)⟩
  have E18 : ExQ K C18 := exq_of ⟨nm18, q18, N18, bs18, _, sn18, sub18, ab18, col18, dd18, u18, v18, w18, x18, y18, x18L, rfl⟩ (bU 18 (by decide)).2
  have M18 : Mk0 K mg "NoNews" C18 := ⟨m a18, E18, veB, PySem.F.excBase_ValueError, b6 2 (by decide)⟩
  have E19 : ExQ K C19 := exq_of ⟨nm19, q19, N19, bs19, _, sn19, sub19, ab19, col19, dd19, u19, v19, w19, x19, y19, x19L, rfl⟩ (bU 19 (by decide)).2
  have M19 : Mk0 K mg "NotMorning" C19 := ⟨m a19, E19, veB, PySem.F.excBase_ValueError, b6 3 (by decide)⟩
  have E20 : ExQ K C20 := exq_of ⟨nm20, q20, N20, bs20, _, sn20, sub20, ab20, col20, dd20, u20, v20, w20, x20, y20, x20L, rfl⟩ (bU 20 (by decide)).2
  have M20 : Mk0 K mg "NotTimed" C20 := ⟨m a20, E20, veB, PySem.F.excBase_ValueError, b6 4 (by decide)⟩
  have E21 : ExQ K C21 := exq_of ⟨nm21, q21, N21, bs21, _, sn21, sub21, ab21, col21, dd21, u21, v21, w21, x21, y21, x21L, rfl⟩ (bU 21 (by decide)).2
  have M21 : Mk0 K mg "Nothing" C21 := ⟨m a21, E21, veB, PySem.F.excBase_ValueError, b6 5 (by decide)⟩
  have FB := fun_mk (st := sBag) lB cB kB
  have BB := FB.binds (ps := ["_law_script"]) fun _ _ _ _ _ _ us hl => match us, hl with | [_], _ => rfl
  have FT := fun_mk (st := sTake) lT cT kT
  have BT := FT.binds (ps := ["_law_bag_here", "_law_upto"]) fun _ _ _ _ _ _ us hl => match us, hl with | [_, _], _ => rfl
  have FS := fun_mk (st := sSome) lS cS kS
  have BS := FS.binds (ps := ["_law_bag_here", "_law_things"]) fun _ _ _ _ _ _ us hl => match us, hl with | [_, _], _ => rfl
  have FA := fun_mk (st := sAlike) lA cA kA
  have BA := FA.binds (ps := ["_law_found", "_law_due"]) fun _ _ _ _ _ _ us hl => match us, hl with | [_, _], _ => rfl
  have FO := fun_mk (st := sOdd) lO cO kO
  have BO := FO.binds (ps := ["_law_bag_here"]) fun _ _ _ _ _ _ us hl => match us, hl with | [_], _ => rfl
  have FF := fun_mk (st := sFields) lF cF kF
  have BF := FF.binds (ps := ["_law_value", "_law_other"]) fun _ _ _ _ _ _ us hl => match us, hl with | [_, _], _ => rfl
  have FC := fun_mk (st := sClasses) lC cC kC
  have BC := FC.binds (ps := ["_law_error"]) fun _ _ _ _ _ _ us hl => match us, hl with | [_], _ => rfl
  have FR := fun_mk (st := sCaught) lR cR kR
  have BR := FR.binds (ps := ["_law_value"]) fun _ _ _ _ _ _ us hl => match us, hl with | [_], _ => rfl
  have TA : TxtA mg := ⟨z zint, z zabs, z zlen⟩
  have TB : TxtB K mg fT := ⟨TA, m aT, kT⟩
  have TF : ∀ base, TxtF P w K mg base (fun i => [C0, C1, C2, C3, C4, C5, C6, C7, C8, C9, C10, C11, C12, C13, C14, C15, C16, C17, C18, C19, C20, C21].getD i 0) := fun base => ⟨M0 base, M1 base, M2 base, M3 base, M4 base, M5 base, M6 base, M7 base, M8 base, M9 base, M10 base, M11 base, M12 base, M13 base, M14 base, M15 base, M16, M17, M18, M19, M20, M21⟩
  have EQ : ∀ i, i < 22 → ExQ K ([C0, C1, C2, C3, C4, C5, C6, C7, C8, C9, C10, C11, C12, C13, C14, C15, C16, C17, C18, C19, C20, C21].getD i 0) := fun i hi => by
    match i, hi with
    | 0, _ => exact E0 | 1, _ => exact E1 | 2, _ => exact E2 | 3, _ => exact E3 | 4, _ => exact E4 | 5, _ => exact E5 | 6, _ => exact E6 | 7, _ => exact E7 | 8, _ => exact E8 | 9, _ => exact E9 | 10, _ => exact E10 | 11, _ => exact E11 | 12, _ => exact E12 | 13, _ => exact E13 | 14, _ => exact E14 | 15, _ => exact E15 | 16, _ => exact E16 | 17, _ => exact E17 | 18, _ => exact E18 | 19, _ => exact E19 | 20, _ => exact E20 | 21, _ => exact E21
    | n + 22, hi => omega
  have TJ : TxtJ K mg (fun i => [C0, C1, C2, C3, C4, C5, C6, C7, C8, C9, C10, C11, C12, C13, C14, C15, C16, C17, C18, C19, C20, C21].getD i 0) := ⟨z zisinstance, z zrange, z zlen, EQ, fun i j hi hj => bK i hi j hj, m a0, m a1, m a2, m a3, m a4, m a5, m a6, m a7, m a8, m a9, m a10, m a11, m a12, m a13, m a14, m a15, m a16, m a17, m a18, m a19, m a20, m a21⟩
  have TK : TxtK K C15 := txtK_of bL E15
  have TC : ∀ base, TxtC P w K mg base G C14 C11 C16 := fun base => ⟨m gG, M14 base, M11 base, M16, z zisinstance, z zValueError, tx1, tx2, tx3, tx4, tx5, tx6⟩
  have TL : ∀ base, TxtL P w K mg base (fun i => [C0, C1, C2, C3, C4, C5, C6, C7, C8, C9, C10, C11, C12, C13, C14, C15, C16, C17, C18, C19, C20, C21].getD i 0) G := fun base => ⟨z zisinstance, z zrange, z zlist, z zValueError, m gG, fun i hi => (bU i hi).1.1, fun i hi => (bU i hi).1.2, TF base, TJ, TK⟩
  exact ⟨_, fun s v => .of_eq rfl, fun base _ _ => ok_law (fun_mk (st := sLaw) lL cL kL) (TL base)
    ⟨FB, m aB, BB⟩ (ok_bag FB TA) ⟨FO, m aO, BO⟩ (ok_odd FO TB FT BT FS (m aS) BS) ⟨FS, m aS, BS⟩ (ok_some FS TB FT BT) ⟨FF, m aF, BF⟩ (ok_fields FF (TF base)) ⟨FC, m aC, BC⟩ (ok_classes FC TJ) ⟨FR, m aR, BR⟩ (ok_caught FR (TC base) FA (z zrepr) (m aA) BA) ⟨FA, m aA, BA⟩ (ok_alike FA (z zrepr))⟩
end
end Gy

namespace Gy
open PySem L2 PySem.Spec PyProof.Rows
/-- the walk of the law's row -/
theorem walk {l : PySem.W.OpenLaw} {q : Program} {loose : List Str} {XP : (Str → Option Value) → Heap → Prop} {YP : World → Heap → Prop} {d : DefRec} {K : Params → PySem.W.Frag} (most : l.most = some 63) (dfl : d.params.defaults = [])
    (inn : ∀ (w : World) (h : Heap), YP w h → (K w.params).In h)
    (F : ∀ (w : World) (mg : Str → Option Value) (fa : Addr) (h : Heap), (K w.params).In h → h.Ns mainGlobals mg → mg d.name = some (.ref fa) →
      ∃ fd : FuncData, (∀ (s : Shared) (v : Value), BindsTo s fd ⟨[v], []⟩ [("_law_script", v)]) ∧ ∀ base : Heap, (K w.params).In base → base.Ns mainGlobals mg → FnG NoGuardC l.prog w (K w.params) mg base 5 fa fd ["_law_script"] (spLaw (K w.params))) :
    PySem.W.WalkO q loose XP YP l.row.toRowW d [] (fun f vs => PySem.call f vs) := by
  refine Att.attach_call most dfl fun w t s mg mb fa o pm cd doc a vs ns G Y ho hd hcd hmg obj hint len gn => ?_
  have kx := inn w _ Y
  obtain ⟨fd, bind, promise⟩ := F w mg fa _ kx G.T.g hmg
  exact head_call kx G.T.g G.T.b G.T.builtins G.T.nolimit gn obj hint (Nat.le_trans len (by decide)) (fun u => bind s u) promise
end Gy

open PySem PySem.W PyProof.Rows in
set_option maxRecDepth 100000 in
set_option maxHeartbeats 0 in
theorem PySem.Challenge.cw_goneyet_k11_errors_apart_holds : PySem.Challenge.rw_goneyet_k11_errors_apart.Holds := by
  w_on; o_law; k_head; (case hw => w_witness2)
  k_fill
  refine Gy.walk (l := PySem.Challenge.rw_goneyet_k11_errors_apart) rfl rfl (fun w h Y => PySem.W.kIn_of Y) ?F
  case F =>
    intro w mg fa h KX G hmg
    refine' Gy.all_mk KX G hmg ?gG ?rG ?sG ?iG ?a0 ?x0L ?j0 ?t0 ?l0 ?c0 ?k0 ?n0index ?a1 ?x1L ?j1 ?t1 ?l1 ?c1 ?k1 ?n1index ?a2 ?x2L ?j2 ?t2 ?l2 ?c2 ?k2 ?n2index ?a3 ?x3L ?j3 ?t3 ?l3 ?c3 ?k3 ?n3name ?a4 ?x4L ?j4 ?t4 ?l4 ?c4 ?k4 ?n4name ?a5 ?x5L ?j5 ?t5 ?l5 ?c5 ?k5 ?n5name ?a6 ?x6L ?j6 ?t6 ?l6 ?c6 ?k6 ?n6name ?a7 ?x7L ?j7 ?t7 ?l7 ?c7 ?k7 ?n7until ?a8 ?x8L ?j8 ?t8 ?l8 ?c8 ?k8 ?n8dial ?a9 ?x9L ?j9 ?t9 ?l9 ?c9 ?k9 ?n9rows ?a10 ?x10L ?j10 ?t10 ?l10 ?c10 ?k10 ?n10line ?a11 ?x11L ?j11 ?t11 ?l11 ?c11 ?k11 ?n11index ?n11paper ?a12 ?x12L ?j12 ?t12 ?l12 ?c12 ?k12 ?n12place ?a13 ?x13L ?j13 ?t13 ?l13 ?c13 ?k13 ?n13most ?a14 ?x14L ?j14 ?t14 ?l14 ?c14 ?k14 ?n14last ?a15 ?x15L ?j15 ?t15 ?l15 ?c15 ?k15 ?n15place ?a16 ?x16L ?a17 ?x17L ?a18 ?x18L ?a19 ?x19L ?a20 ?x20L ?a21 ?x21L ?aB ?lB ?cB ?kB ?aT ?lT ?cT ?kT ?aS ?lS ?cS ?kS ?aA ?lA ?cA ?kA ?aO ?lO ?cO ?kO ?aF ?lF ?cF ?kF ?aC ?lC ?cC ?kC ?aR ?lR ?cR ?kR ?aL ?lL ?cL ?kL ?zint ?zabs ?zlen ?zrepr ?zisinstance ?zrange ?zlist ?zValueError ?bK ?bU ?bL ?bX ?b6
    (case gG => k_is); (case rG => k_is); (case sG => k_is); (case iG => k_is); (case a0 => k_is); (case x0L => k_is)
    (case j0 => k_is); (case t0 => k_is); (case l0 => k_is); (case c0 => k_is); (case k0 => k_is); (case n0index => k_is)
    (case a1 => k_is); (case x1L => k_is); (case j1 => k_is); (case t1 => k_is); (case l1 => k_is); (case c1 => k_is)
    (case k1 => k_is); (case n1index => k_is); (case a2 => k_is); (case x2L => k_is); (case j2 => k_is); (case t2 => k_is)
    (case l2 => k_is); (case c2 => k_is); (case k2 => k_is); (case n2index => k_is); (case a3 => k_is); (case x3L => k_is)
    (case j3 => k_is); (case t3 => k_is); (case l3 => k_is); (case c3 => k_is); (case k3 => k_is); (case n3name => k_is)
    (case a4 => k_is); (case x4L => k_is); (case j4 => k_is); (case t4 => k_is); (case l4 => k_is); (case c4 => k_is)
    (case k4 => k_is); (case n4name => k_is); (case a5 => k_is); (case x5L => k_is); (case j5 => k_is); (case t5 => k_is)
    (case l5 => k_is); (case c5 => k_is); (case k5 => k_is); (case n5name => k_is); (case a6 => k_is); (case x6L => k_is)
    (case j6 => k_is); (case t6 => k_is); (case l6 => k_is); (case c6 => k_is); (case k6 => k_is); (case n6name => k_is)
    (case a7 => k_is); (case x7L => k_is); (case j7 => k_is); (case t7 => k_is); (case l7 => k_is); (case c7 => k_is)
    (case k7 => k_is); (case n7until => k_is); (case a8 => k_is); (case x8L => k_is); (case j8 => k_is); (case t8 => k_is)
    (case l8 => k_is); (case c8 => k_is); (case k8 => k_is); (case n8dial => k_is); (case a9 => k_is); (case x9L => k_is)
    (case j9 => k_is); (case t9 => k_is); (case l9 => k_is); (case c9 => k_is); (case k9 => k_is); (case n9rows => k_is)
    (case a10 => k_is); (case x10L => k_is); (case j10 => k_is); (case t10 => k_is); (case l10 => k_is); (case c10 => k_is)
    (case k10 => k_is); (case n10line => k_is); (case a11 => k_is); (case x11L => k_is); (case j11 => k_is); (case t11 => k_is)
    (case l11 => k_is); (case c11 => k_is); (case k11 => k_is); (case n11index => k_is); (case n11paper => k_is); (case a12 => k_is)
    (case x12L => k_is); (case j12 => k_is); (case t12 => k_is); (case l12 => k_is); (case c12 => k_is); (case k12 => k_is)
    (case n12place => k_is); (case a13 => k_is); (case x13L => k_is); (case j13 => k_is); (case t13 => k_is); (case l13 => k_is)
    (case c13 => k_is); (case k13 => k_is); (case n13most => k_is); (case a14 => k_is); (case x14L => k_is); (case j14 => k_is)
    (case t14 => k_is); (case l14 => k_is); (case c14 => k_is); (case k14 => k_is); (case n14last => k_is); (case a15 => k_is)
    (case x15L => k_is); (case j15 => k_is); (case t15 => k_is); (case l15 => k_is); (case c15 => k_is); (case k15 => k_is)
    (case n15place => k_is); (case a16 => k_is); (case x16L => k_is); (case a17 => k_is); (case x17L => k_is); (case a18 => k_is)
    (case x18L => k_is); (case a19 => k_is); (case x19L => k_is); (case a20 => k_is); (case x20L => k_is); (case a21 => k_is)
    (case x21L => k_is); (case aB => k_is); (case lB => k_is); (case cB => k_is); (case kB => k_is); (case aT => k_is)
    (case lT => k_is); (case cT => k_is); (case kT => k_is); (case aS => k_is); (case lS => k_is); (case cS => k_is)
    (case kS => k_is); (case aA => k_is); (case lA => k_is); (case cA => k_is); (case kA => k_is); (case aO => k_is)
    (case lO => k_is); (case cO => k_is); (case kO => k_is); (case aF => k_is); (case lF => k_is); (case cF => k_is)
    (case kF => k_is); (case aC => k_is); (case lC => k_is); (case cC => k_is); (case kC => k_is); (case aR => k_is)
    (case lR => k_is); (case cR => k_is); (case kR => k_is); (case aL => k_is); (case lL => k_is); (case cL => k_is)
    (case kL => k_is); (case zint => k_is); (case zabs => k_is); (case zlen => k_is); (case zrepr => k_is); (case zisinstance => k_is)
    (case zrange => k_is); (case zlist => k_is); (case zValueError => k_is)
    (case bK => kernel_rfl)
    (case bU => kernel_rfl)
    (case bL => kernel_rfl)
    (case bX => kernel_rfl)
    (case b6 => kernel_rfl)

