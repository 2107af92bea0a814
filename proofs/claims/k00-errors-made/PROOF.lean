import PyProof.Rows.All
import Wide.All
import OpenK.AllK
import Wide.FinOn
import HandS.ForMost
import HandS.Exc
import HandS.ExcInit
import HandS.ExcIs
import HandS.Lambda
import HandS.EndTab
import HandS.Defaults
import HandS.IsInst
import HandS.HeadHook4
import HandS.Evl
import HandS.ExcValue
import HandS.ExcField
import HandS.SortKw
import PySem.Challenge.RW_goeson_k00_errors_made
import KE.KExcIs
import HandS.Head2
import KE.KStateDown
import Lean
import HandS.Head0
import HandS.Head1
import HandS.HeadEnd
set_option Elab.async false
set_option maxRecDepth 100000
set_option maxHeartbeats 4000000
namespace K00
open PySem L2
def top (i : Nat) : Stmt := PySem.Challenge.pw_goeson_k00_errors_made.main.body.getD i (.Pass ⟨0, 0, 0, 0⟩)
abbrev sStart : Stmt := top 53
abbrev sBelow : Stmt := top 54
abbrev sMixed : Stmt := top 55

/-! the stream of draws -/
/-- all but the stream at st and its cells at c stay -/
def Kp (st c : Addr) (H H' : Hp) : Prop := ∀ a o, H a = some o → a ≠ st → a ≠ c → H' a = some o
theorem Kp.refl (st c : Addr) (H : Hp) : Kp st c H H := fun _ _ h _ _ => h
theorem Kp.trans {st c : Addr} {H H1 H2 : Hp} (a : Kp st c H H1) (b : Kp st c H1 H2) : Kp st c H H2 := fun x o h n1 n2 => b x o (a x o h n1 n2) n1 n2
/-- the stream at st, its cells at c, at most k draws made -/
structure Strm (H : Hp) (st c : Addr) (k : Nat) : Prop where
  at_ : ∃ (ns : List Int) (b n m : Int), H st = some (.lst [.ref c, .int b, .int n, .int m]) ∧ H c = some (.lst (ns.map V.int)) ∧ 0 ≤ b ∧ 0 ≤ n ∧ n ≤ (k : Int) ∧ 0 ≤ m ∧ m < 2147483647
theorem Strm.ne {H : Hp} {st c : Addr} {k : Nat} (S : Strm H st c k) : st ≠ c := by
  obtain ⟨ns, b, n, m, h1, h2, _⟩ := S.at_
  intro e
  rw [e, h2] at h1
  have h3 := Option.some.inj h1
  injection h3 with h4
  cases ns with
  | nil => cases h4
  | cons z r =>
    rw [List.map_cons] at h4
    injection h4 with h5 _
    cases h5
theorem Strm.keep {H H' : Hp} {st c : Addr} {k : Nat} (S : Strm H st c k) (h : ∀ a o, H a = some o → H' a = some o) : Strm H' st c k := by
  obtain ⟨ns, b, n, m, h1, h2, r⟩ := S.at_
  exact ⟨ns, b, n, m, h _ _ h1, h _ _ h2, r⟩
def spStart (K : PySem.W.Frag) : Sp := fun vs H Q _ => ∃ (a : Addr) (ns : List Int), vs = [.ref a] ∧ SqL K H a (ns.map V.int) ∧
  ∀ (st c : Addr) (H' : Hp), Same H H' → H st = none → H c = none → Strm H' st c 0 → Q (.ref st) H'
def spBelow : Sp := fun vs H Q _ => ∃ (st c : Addr) (k : Nat) (many : Int), vs = [.ref st, .int many] ∧ 1 ≤ many ∧ many < 1073741824 ∧ Strm H st c k ∧ k < 1099511627776 ∧
  ∀ (r : Int) (H' : Hp), 0 ≤ r → r < many → Strm H' st c (k + 1) → Kp st c H H' → Q (.int r) H'
section
variable {P : Program} {w : World} {K : PySem.W.Frag} {mg : Str → Option Value} {base : Heap}
theorem scStart : FnScope ["script"] ["script"] (defScope sStart) := ⟨rfl, rfl, rfl, by decide +kernel, rfl, by decide +kernel, by decide +kernel⟩
theorem ok_start {f : Addr} {fd : FuncData} (F : Fun K "_law_start" "_law_start" sStart f fd) (ml : mg "list" = none) : FnOk P w K mg base CX0 1 f fd ["script"] (spStart K) := by
  refine F.ok scStart (fun vs H Q E h => ?_) (fun cdv A outer s H vs Q E hr h => ?_)
  · obtain ⟨a, ns, rfl, _⟩ := h
    rfl
  · obtain ⟨a, ns, rfl, hS, k⟩ := h
    refine ⟨_, pss_one (ps_ret (pe_lst (pa_cons (pe_callTy call_list_of rfl ml PyProof.Rows.boot_list (pa_cons (pv 0) pa_nil)) (pa_cons pe_int (pa_cons pe_int (pa_cons pe_int pa_nil)))))), ?_⟩
    refine ⟨_, rfl, a, _, rfl, Or.inl hS, fun c hc => ⟨by show 4 ≤ sizeLine; decide, fun st hst => ?_⟩⟩
    have e1 : st ≠ c := fun e => by rw [e, upd_same] at hst; cases hst
    have hst0 : H st = none := by rw [upd_ne e1] at hst; exact hst
    refine k st c _ (fun b o e => ?_) hst0 hc ⟨ns, 0, 0, 43, upd_same, ?_, by decide, by decide, by decide, by decide, by decide⟩
    · rw [upd_ne (ne_of_none e hst0), upd_ne (ne_of_none e hc)]
      exact e
    · rw [upd_ne (Ne.symm e1)]
      exact upd_same
end
end K00
set_option Elab.async false
set_option maxRecDepth 100000
set_option maxHeartbeats 4000000
namespace K00
open PySem L2
/-- the four places of the stream -/
abbrev S4 (c : Addr) (b n m : Int) : HO := .lst [.ref c, .int b, .int n, .int m]
/-- ahead of a turn of the draw's loop -/
structure BW (H0 : Hp) (st c : Addr) (k : Nat) (many : Int) (d : Nat) (σ : St) (H : Hp) : Prop where
  at_ : ∃ (ns : List Int) (b n m : Int) (v : Option V), σ = [some (.ref st), some (.int many), v, none, none] ∧ H st = some (S4 c b n m) ∧ H c = some (.lst (ns.map V.int)) ∧ 0 ≤ b ∧ 0 ≤ n ∧ n ≤ (k : Int) + 1 ∧ 0 ≤ m ∧ m < 2147483647 ∧ ns.length = d
  kp : Kp st c H0 H
theorem emod_in (x : Int) {q : Int} (h : 0 < q) : 0 ≤ x % q ∧ x % q < q := ⟨Int.emod_nonneg x (by omega), Int.emod_lt_of_pos x h⟩
theorem dpAll_ints {K : PySem.W.Frag} {H : Hp} : ∀ ns : List Int, DpAll K H (ns.map V.int) (ns.map PyData.int)
  | [] => .nil
  | n :: r => .cons (.int n) (dpAll_ints r)
theorem canLay_ints : ∀ ns : List Int, PyData.canLayAll0 (ns.map PyData.int) = true
  | [] => rfl
  | _ :: r => canLay_ints r
theorem depth_ints : ∀ ns : List Int, PyData.depthAll (ns.map PyData.int) = 0
  | [] => rfl
  | n :: r => by
    show max (PyData.depth (.int n)) (PyData.depthAll (r.map PyData.int)) = 0
    rw [depth_ints r]
    rfl
theorem shaped_ints (ns : List Int) : SeqAt.shaped (.list (ns.map PyData.int)) = true := by
  have h1 : PyData.canLay0 (.list (ns.map PyData.int)) = true := canLay_ints ns
  have h2 : PyData.depth (.list (ns.map PyData.int)) = 1 := by
    show PyData.depthAll (ns.map PyData.int) + 1 = 1
    rw [depth_ints]
  unfold SeqAt.shaped
  rw [h1, h2]
  rfl
section
variable {P : Program} {w : World} {K : PySem.W.Frag} {mg : Str → Option Value} {base : Heap}
theorem scBelow : FnScope ["stream", "many", "cell", "digit", "mixed"] ["stream", "many"] (defScope sBelow) := ⟨rfl, rfl, rfl, by decide +kernel, rfl, by decide +kernel, by decide +kernel⟩
theorem ok_below {f : Addr} {fd : FuncData} (F : Fun K "_law_below" "_law_below" sBelow f fd) (mi : mg "int" = none) : FnOk P w K mg base CX0 1 f fd ["stream", "many"] spBelow := by
  refine F.ok scBelow (fun vs H Q E h => ?_) (fun cdv A outer s H vs Q E hr h => ?_)
  · obtain ⟨st, c, k, many, rfl, _⟩ := h
    rfl
  · obtain ⟨st, c, k, many, rfl, m1, m2, S, hk, q⟩ := h
    have ne := S.ne
    obtain ⟨ns, b, n, m, h1, h2, hb, hn0, hn, hm0, hm⟩ := S.at_
    have hu : A.units + 3 + 64 < cLine := by have := hr.units; exact this
    refine ⟨_, pss_cons (ps_asg (pe_op op_add (pe_ix ix_list (pv 0) pe_int (fun _ _ => rfl)) pe_int) (pg_sub (pv 0) pe_int set_list))
      (Evl.pss_cut (ps_while PassesOwn.never (pw_and (pt_cmpR op_eq (pe_ix ix_list (pv 0) pe_int (fun _ _ => rfl)) pe_int (nomark _)) (pw_and1 (pt_cmpR (op_neD hu) (pe_ix ix_list (pv 0) pe_int (fun _ _ => rfl)) (pe_lst pa_nil) (nomark _)))).pt
        (pss_cons (ps_set (i := 2) scBelow.nd rfl (Or.inl rfl) (pe_bm PySem.F.plainAttrs_list PySem.F.slot_list_pop PySem.F.type_list_pop mt_popAt (pe_ix ix_list (pv 0) pe_int (fun _ _ => rfl)) (pa_cons pe_int pa_nil)))
        (pss_cons (ps_asg (pe_op op_mod (pe_callTy call_int1 rfl mi PyProof.Rows.boot_int (pa_cons (pe_op op_add (pe_op op_add (pe_op op_mul (pe_ix ix_list (pv 0) pe_int (fun _ _ => rfl)) pe_int) (pv 2)) pe_int) pa_nil)) pe_int) (pg_sub (pv 0) pe_int set_list))
        (pss_one (ps_asg (pe_ifExp (pt_cmpR op_ge (pv 2) (pe_op op_pow pe_int pe_int) (nomark _)) (pv 2) pe_int) (pg_sub (pv 0) pe_int set_list))))))
      (pss_cons (ps_if (pt_cmpR op_gt (pe_ix ix_list (pv 0) pe_int (fun _ _ => rfl)) pe_int (nomark _))
        (pss_cons (ps_set (i := 3) scBelow.nd rfl (Or.inl rfl) (pe_op op_mod (pe_callTy call_int1 rfl mi PyProof.Rows.boot_int (pa_cons (pe_ix ix_list (pv 0) pe_int (fun _ _ => rfl)) pa_nil)) (pv 1)))
        (pss_cons (ps_asg (pe_op op_fdiv (pe_ix ix_list (pv 0) pe_int (fun _ _ => rfl)) (pv 1)) (pg_sub (pv 0) pe_int set_list))
        (pss_one (ps_ret (pv 3))))) pss_nil)
      (pss_cons (ps_set (i := 4) scBelow.nd rfl (Or.inl rfl) (pe_op op_mod (pe_callTy call_int1 rfl mi PyProof.Rows.boot_int (pa_cons (pe_op op_pow (pe_op op_add (pe_op op_add (pe_ix ix_list (pv 0) pe_int (fun _ _ => rfl)) (pe_op op_mul pe_int (pe_ix ix_list (pv 0) pe_int (fun _ _ => rfl)))) pe_int) pe_int) pa_nil)) pe_int))
      (pss_one (ps_ret (pe_op op_mod (pe_op op_mod (pe_callTy call_int1 rfl mi PyProof.Rows.boot_int (pa_cons (pe_op op_pow (pe_op op_add (pe_op op_add (pe_op op_mul (pv 4) pe_int) (pe_op op_mul pe_int (pe_ix ix_list (pv 0) pe_int (fun _ _ => rfl)))) pe_int) pe_int) pa_nil)) pe_int) (pv 1))))))), ?_⟩
    -- stream[2] = stream[2] + 1
    refine ⟨.ref st, rfl, st, _, 2, .int n, rfl, rfl, SqL.of h1, rfl, n, 1, rfl, rfl, .ref st, rfl, st, _, 2, 2, rfl, rfl, h1, rfl, ?_⟩
    refine ⟨fun σ H1 => ∃ d, BW H st c k many d σ H1, ⟨BW H st c k many, ⟨ns.length, ⟨ns, b, n + 1, m, none, rfl, upd_same, by rw [upd_ne (Ne.symm ne)]; exact h2, hb, by omega, by omega, hm0, hm, rfl⟩, fun a o e n1 n2 => by rw [upd_ne n1]; exact e⟩, ?_⟩, ?_⟩
    · rintro d σ H1 ⟨⟨ns1, b1, n1, p1, v, rfl, g1, g2, gb, gn0, gn, gm0, gm, rfl⟩, kp⟩
      refine ⟨.ref st, rfl, st, _, 1, .int b1, rfl, rfl, SqL.of g1, rfl, rfl, _, rfl, ?_⟩
      refine ite2 (fun hc => ?_) (fun hc => ?_)
      · refine ⟨.ref st, rfl, st, _, 0, .ref c, rfl, rfl, SqL.of g1, rfl, by show 0 ≤ sizeLine; decide, fun p hp => ?_⟩
        have ext : ∀ a o, H1 a = some o → upd H1 p (.lst []) a = some o := fun a o e => by rw [upd_ne (ne_of_none e hp)]; exact e
        have ec := ext _ _ g2
        have es := ext _ _ g1
        have kp2 : Kp st c H (upd H1 p (.lst [])) := fun a o e x y => ext _ _ (kp a o e x y)
        refine ⟨.list (ns1.map PyData.int), .list [], .lst (SqL.of ec) (dpAll_ints _), .lst (SqL.of upd_same) .nil, shaped_ints _, rfl, _, rfl, ?_⟩
        cases ns1 with
        | nil =>
          exact ⟨_, ⟨[], b1, n1, p1, v, rfl, es, ec, gb, gn0, gn, gm0, gm, rfl⟩, kp2⟩
        | cons z r =>
          refine ⟨fun σ' H' => ∃ m', m' < (z :: r).length ∧ BW H st c k many m' σ' H', fun _ _ h => h, ?_⟩
          -- cell = stream[0].pop(0)
          refine ⟨.ref st, rfl, st, _, 0, .ref c, rfl, rfl, SqL.of es, rfl, Or.inl ⟨rfl, _, SqL.of ec⟩, c, _, 0, 0, .int z, rfl, rfl, ec, by decide, by decide, PyProof.Rows.seqIndex?_zero (by simp), rfl, ?_⟩
          have ec2 : upd (upd H1 p (.lst [])) c (.lst (((z :: r).map V.int).eraseIdx 0)) c = some (.lst (r.map V.int)) := upd_same
          have es2 : upd (upd H1 p (.lst [])) c (.lst (((z :: r).map V.int).eraseIdx 0)) st = some (S4 c b1 n1 p1) := by rw [upd_ne ne]; exact es
          have w1 : (2 : Int) ^ 64 = 18446744073709551616 := by decide
          -- stream[3] = ..
          refine ⟨.ref st, rfl, st, _, 3, .int p1, rfl, rfl, SqL.of es2, rfl, p1, 69031, rfl, rfl, Or.inl ⟨by omega, by omega⟩, .int z, rfl, _, z, rfl, rfl, _, 13, rfl, rfl, Or.inl ⟨_, rfl, _, 2147483647, rfl, rfl, by show (0 : Int) < 2147483647; decide, .ref st, rfl, st, _, 3, 3, rfl, rfl, es2, rfl, ?_⟩⟩
          -- stream[1] = ..
          have b4 := emod_in (p1 * 69031 + z + 13) (q := 2147483647) (by decide)
          have ten : (10 : Int) ^ (18 : Int).toNat = 1000000000000000000 := by decide
          refine ⟨.int z, rfl, 10, 18, rfl, rfl, ⟨by decide, by decide, by decide⟩, z, _, rfl, rfl, _, rfl, ?_⟩
          have last : ∀ y : Int, 0 ≤ y → gSub (tVar 0) (tC (.int 1)) rSetL (.int y) [some (.ref st), some (.int many), some (.int z), none, none] (upd (upd (upd H1 p (.lst [])) c (.lst (((z :: r).map V.int).eraseIdx 0))) st (S4 c b1 n1 ((p1 * 69031 + z + 13) % 2147483647)))
              (fun σ' H' => ∃ m', m' < (z :: r).length ∧ BW H st c k many m' σ' H') := fun y hy => by
            refine ⟨.ref st, rfl, st, _, 1, 1, rfl, rfl, upd_same, rfl, r.length, by show r.length < r.length + 1; omega, ⟨r, y, n1, _, some (.int z), rfl, upd_same, ?_, hy, gn0, gn, b4.1, b4.2, rfl⟩, fun a o e x1 y1 => ?_⟩
            · rw [upd_ne (Ne.symm ne), upd_ne (Ne.symm ne)]
              exact ec2
            · rw [upd_ne x1, upd_ne x1, upd_ne y1]
              exact kp2 a o e x1 y1
          refine ite2 (fun h18 => ⟨.int z, rfl, last z ?_⟩) (fun h18 => last 0 (by decide))
          have h19 := of_decide_eq_true h18
          rw [ten] at h19
          omega
      · exact ⟨_, ⟨ns1, b1, n1, p1, v, rfl, g1, g2, gb, gn0, gn, gm0, gm, rfl⟩, kp⟩
    · rintro σ H2 ⟨d, ⟨ns1, b1, n1, p1, v, rfl, e1, e2, gb, gn0, gn, gm0, gm, rfl⟩, kp2⟩
      refine ⟨.ref st, rfl, st, _, 1, .int b1, rfl, rfl, SqL.of e1, rfl, b1, 0, rfl, rfl, _, rfl, ?_⟩
      refine ite2 (fun hc => ?_) (fun hc => ?_)
      · have hc := of_decide_eq_true hc
        refine ⟨.ref st, rfl, st, _, 1, .int b1, rfl, rfl, SqL.of e1, rfl, Or.inl ⟨b1, rfl, .int many, rfl, b1, many, rfl, rfl, by omega, ?_⟩⟩
        refine ⟨.ref st, rfl, st, _, 1, .int b1, rfl, rfl, SqL.of e1, rfl, .int many, rfl, b1, many, rfl, rfl, ⟨by omega, m2⟩, .ref st, rfl, st, _, 1, 1, rfl, rfl, e1, rfl, .int (b1 % many), rfl, ?_⟩
        refine q _ _ (emod_in b1 (by omega)).1 (emod_in b1 (by omega)).2 ⟨ns1, b1 / many, n1, p1, upd_same, by rw [upd_ne (Ne.symm ne)]; exact e2, Int.ediv_nonneg gb (by omega), gn0, by omega, gm0, gm⟩ fun a o e x y => by rw [upd_ne x]; exact kp2 a o e x y
      · have w1 : (2 : Int) ^ 64 = 18446744073709551616 := by decide
        have w2 : (2 : Nat) ^ 64 = 18446744073709551616 := by decide
        refine ⟨.ref st, rfl, st, _, 3, .int p1, rfl, rfl, SqL.of e1, rfl, .ref st, rfl, st, _, 2, .int n1, rfl, rfl, SqL.of e1, rfl, 9049, n1, rfl, rfl, Or.inl ⟨by omega, by omega⟩, p1, 9049 * n1, rfl, rfl, _, _, rfl, rfl,
          p1 + 9049 * n1 + 130073, 5, rfl, rfl, ⟨by decide, by decide, by rw [w2]; omega⟩, Or.inl ⟨_, rfl, _, 2147483629, rfl, rfl, by show (0 : Int) < 2147483629; decide, ?_⟩⟩
        have b4 := emod_in ((p1 + 9049 * n1 + 130073) ^ (5 : Int).toNat) (q := 2147483629) (by decide)
        obtain ⟨x, hx⟩ : ∃ x, x = (p1 + 9049 * n1 + 130073) ^ (5 : Int).toNat % 2147483629 := ⟨_, rfl⟩
        rw [← hx] at b4
        refine ⟨.int x, by rw [hx]; rfl, x, 44089, rfl, rfl, Or.inl ⟨by omega, by omega⟩, .ref st, rfl, st, _, 2, .int n1, rfl, rfl, SqL.of e1, rfl, 60077, n1, rfl, rfl, Or.inl ⟨by omega, by omega⟩, x * 44089, 60077 * n1, rfl, rfl, _, _, rfl, rfl,
          x * 44089 + 60077 * n1 + 47, 3, rfl, rfl, ⟨by decide, by decide, by rw [w2]; omega⟩, Or.inl ⟨_, rfl, _, 1000000007, rfl, rfl, by show (0 : Int) < 1000000007; decide, .int many, rfl, _, many, rfl, rfl, by omega, ?_⟩⟩
        exact q _ _ (emod_in _ (by omega)).1 (emod_in _ (by omega)).2 ⟨ns1, b1, n1, p1, e1, e2, gb, gn0, by omega, gm0, gm⟩ kp2
end
end K00
set_option Elab.async false
set_option maxRecDepth 100000
set_option maxHeartbeats 4000000
namespace K00
open PySem L2
def spMixed (K : PySem.W.Frag) : Sp := fun vs H Q _ => ∃ (st c a : Addr) (k : Nat) (xs : List V), vs = [.ref st, .ref a] ∧ Strm H st c k ∧ k + xs.length < 1099511627776 ∧ (SqL K H a xs ∨ SqT K H a xs) ∧ xs.length ≤ 100000 ∧
  ∀ (ys : List V) (p : Addr) (H' : Hp), ys.Perm xs → H p = none → H' p = some (.lst ys) → Strm H' st c (k + xs.length) → Kp st c H H' → Q (.ref p) H'
/-- ahead of the i-th draw: l what is left, D what is drawn -/
structure MW (H0 : Hp) (st c l D : Addr) (k : Nat) (xs : List V) (i : Nat) (H : Hp) : Prop where
  at_ : ∃ acc rest : List V, H l = some (.lst rest) ∧ H D = some (.lst acc) ∧ (acc ++ rest).Perm xs ∧ acc.length = i
  str : Strm H st c (k + i)
  kp : Kp st c H0 H
theorem erase_perm {α : Type} : ∀ (l : List α) (i : Nat) (h : i < l.length), (l[i] :: l.eraseIdx i).Perm l
  | a :: l, 0, _ => List.Perm.refl _
  | a :: l, i + 1, h => (List.Perm.swap a _ _).trans (List.Perm.cons a (erase_perm l i (Nat.lt_of_succ_lt_succ h)))
section
variable {P : Program} {w : World} {K : PySem.W.Frag} {mg : Str → Option Value} {base : Heap}
theorem scMixed : FnScope ["stream", "some", "left", "k"] ["stream", "some"] (defScope sMixed) := ⟨rfl, rfl, rfl, by decide +kernel, rfl, by decide +kernel, by decide +kernel⟩
theorem ok_mixed {f fB : Addr} {fd fdB : FuncData} (F : Fun K "_law_mixed" "_law_mixed" sMixed f fd) (G : FnOk P w K mg base CX0 1 fB fdB ["stream", "many"] spBelow) (FB : Fun K "_law_below" "_law_below" sBelow fB fdB) (bB : Binds K fdB ["stream", "many"] [])
    (gB : mg "_law_below" = some (.ref fB)) (ml : mg "list" = none) (mr : mg "range" = none) (mn : mg "len" = none) : FnOk P w K mg base CX0 2 f fd ["stream", "some"] (spMixed K) := by
  refine F.ok scMixed (fun vs H Q E h => ?_) (fun cdv A outer s H vs Q E hr h => ?_)
  · obtain ⟨st, c, a, k, xs, rfl, _⟩ := h
    rfl
  · obtain ⟨st, c, a, k, xs, rfl, S, hk, hq, hl, q⟩ := h
    refine ⟨_, pss_cons (ps_set (i := 2) scMixed.nd rfl (Or.inr rfl) (pe_callTy call_list_of rfl ml PyProof.Rows.boot_list (pa_cons (pv 1) pa_nil)))
      (pss_one (ps_ret (pe_lc (own := [("k", 3)]) (g := gName 3) (tt := tYes) (te := tBM K "list" rPopAt (tVar 2) (tCons (tCall spBelow [] E0 (tCons (tVar 0) (tCons (tCB (Evl.rLenS K) (tCons (tVar 2) tNil)) tNil))) tNil)) rfl scMixed.nd (pi_range1 rfl mr (pa_cons (pe_callB call_len_seq (by rfl) mn PySem.boot_len (pa_cons (pv 2) pa_nil)) pa_nil)) (blkOk_by (N := ["stream", "some", "left", "k"]) (sc := defScope sMixed) (by decide +kernel))
        (fun _ _ _ _ _ => pg_name (i := 3) scMixed.nd rfl (Or.inl rfl)) (fun _ _ _ _ _ => pts_nil)
        (fun _ _ _ _ _ => pe_bm PySem.F.plainAttrs_list PySem.F.slot_list_pop PySem.F.type_list_pop mt_popAt (pv 2) (pa_cons (pe_call G hr (by rfl) gB FB.kp bB .nil pass0 (pa_cons (pv 0) (pa_cons (pe_callB call_len_seq (by rfl) mn PySem.boot_len (pa_cons (pv 2) pa_nil)) pa_nil))) pa_nil))))), ?_⟩
    refine ⟨.ref a, rfl, a, xs, rfl, hq, fun l hl0 => ?_⟩
    refine ⟨.ref l, rfl, l, xs, rfl, Or.inl (SqL.of upd_same), xs.length, rfl, by omega, by omega, fun D hD => ?_⟩
    have nlD : l ≠ D := fun e => by rw [← e, upd_same] at hD; cases hD
    have hD0 : H D = none := by rw [upd_ne (Ne.symm nlD)] at hD; exact hD
    have ne := S.ne
    have old : ∀ b o, H b = some o → b ≠ l ∧ b ≠ D := fun b o e => ⟨ne_of_none e hl0, ne_of_none e hD0⟩
    obtain ⟨os, hos⟩ : ∃ o, H st = some o := by obtain ⟨_, _, _, _, h1, _⟩ := S.at_; exact ⟨_, h1⟩
    obtain ⟨oc, hoc⟩ : ∃ o, H c = some o := by obtain ⟨_, _, _, _, _, h1, _⟩ := S.at_; exact ⟨_, h1⟩
    have nsl := (old _ _ hos).1
    have nsD := (old _ _ hos).2
    have ncl := (old _ _ hoc).1
    have ncD := (old _ _ hoc).2
    have ext0 : ∀ b o, H b = some o → upd (upd H l (.lst xs)) D (.lst []) b = some o := fun b o e => by rw [upd_ne (old _ _ e).2, upd_ne (old _ _ e).1]; exact e
    refine lc_range (lo := 0) (n := xs.length) (MW H st c l D k xs) ⟨⟨[], xs, by rw [upd_ne nlD]; exact upd_same, upd_same, by simp, rfl⟩, S.keep ext0, fun b o e _ _ => ext0 b o e⟩ (fun i H1 hi ⟨⟨acc, rest, g1, g2, pm, ln⟩, S1, kp⟩ => ?_) (fun H1 ⟨⟨acc, rest, g1, g2, pm, ln⟩, S1, kp⟩ => ?_)
    · have lr : rest.length = xs.length - i := by have := pm.length_eq; rw [List.length_append, ln] at this; omega
      refine ⟨rfl, .ref l, rfl, Or.inl ⟨rfl, _, SqL.of g1⟩, .ref st, rfl, .ref l, rfl, l, rest, rfl, Or.inl (SqL.of g1), st, c, k + i, rest.length, rfl, by omega, by omega, S1, by omega, fun r H2 r0 r1 S2 kp2 => ?_⟩
      have hl2 := kp2 _ _ g1 (Ne.symm nsl) (Ne.symm ncl)
      have hD2 := kp2 _ _ g2 (Ne.symm nsD) (Ne.symm ncD)
      obtain ⟨j, ej⟩ : ∃ j : Nat, r = (j : Int) := ⟨r.toNat, by omega⟩
      subst ej
      have hj : j < rest.length := by omega
      refine ⟨l, rest, (j : Int), j, rest[j], rfl, rfl, hl2, by omega, by omega, by rw [PySem.seqIndex_of (by omega) (by omega)]; rfl, List.getElem?_eq_getElem hj, acc, by rw [upd_ne (Ne.symm nlD)]; exact hD2, ?_, ?_⟩
      · rw [ln, sizeLine_eq]; omega
      · refine ⟨⟨acc ++ [rest[j]], rest.eraseIdx j, by rw [upd_ne nlD]; exact upd_same, upd_same, ?_, by rw [List.length_append, ln]; rfl⟩, ?_, fun b o e n1 n2 => ?_⟩
        · refine List.Perm.trans ?_ pm
          rw [List.append_assoc]
          exact List.Perm.append_left acc (erase_perm rest j hj)
        · obtain ⟨ns, b, n, m, h1, h2, r⟩ := S2.at_
          exact ⟨ns, b, n, m, by rw [upd_ne nsD, upd_ne nsl]; exact h1, by rw [upd_ne ncD, upd_ne ncl]; exact h2, r⟩
        · rw [upd_ne (old _ _ e).2, upd_ne (old _ _ e).1]
          exact kp2 _ _ (kp b o e n1 n2) n1 n2
    · have lr : rest.length = 0 := by have := pm.length_eq; rw [List.length_append, ln] at this; omega
      have er : rest = [] := List.length_eq_zero_iff.mp lr
      subst er
      rw [List.append_nil] at pm
      exact q acc D H1 pm hD0 g2 S1 kp
end
end K00
set_option Elab.async false
set_option maxRecDepth 100000
set_option maxHeartbeats 4000000
set_option linter.all false
/-! C(k = v, ..) of an own exception class: the keywords go through to its own __init__ -/
namespace ExKw
open PySem Builtin Builtin.ObjectAttr PySem.HandSPX
section
variable {M : Model} {A : Around} {E : Value → Shared → Prop} {h : Heap} {g : Array GenState} {d : Drawn} {t : Nat} {os : OsState}
variable {nm q : Str} {C N : Addr} {bs bm : List Value} {sn : List Str} {sub : List Value} {ab : Bool} {col : Option Bool} {dd : Option Addr} {k0 k1 k2 k3 k5 : Option Value} {kw : List (Str × Value)} {rest : List Value}
abbrev clsO (nm q : Str) (C N : Addr) (bs bm : List Value) (sn : List Str) (sub : List Value) (ab : Bool) (col : Option Bool) (dd : Option Addr) (k0 k1 k2 k3 k5 : Option Value) : Obj :=
  excClassObj nm q C N bs bm true sn sub ab col dd k0 k1 k2 k3 k5 "ValueError.__new__"
theorem check_new (hbm : refsVE bm = true) {Q : Unit → Shared → Prop} (hC : h.get? C = some (clsO nm q C N bs bm sn sub ab col dd k0 k1 k2 k3 k5)) (hq : Q () ⟨h, g, d, t, os⟩) :
    wpAny M A (checkBuiltinCall "ValueError.__new__" ⟨.ref C :: rest, kw⟩) Q E ⟨h, g, d, t, os⟩ := by
  have F := F.excBase_ValueError
  have hT := refsVE_contains "ValueError" bm hbm
  have hin : (Value.ref C :: bm).contains (.type "ValueError") = true := by rw [List.contains_cons, hT, F.hasB, Bool.or_true]
  have := F.noStar
  simp only [checkBuiltinCall, F.newKind, F.newSplit, F.newRow]
  repeat (first | refine wpAny_loadPart_at hC ?_ | (refine wpAny_isSubtype_exc hC ?_; rw [hin]) | refine wpAny_staticBase_exc hC ?_ | refine wpAny_madeBy_exc hC ?_ | simp only [bne_self_eq_false, Bool.false_eq_true, if_false] | wp_step)
  exact hq
theorem check_call {Q : Unit → Shared → Prop} (hC : h.get? C = some (clsO nm q C N bs bm sn sub ab col dd k0 k1 k2 k3 k5)) (hq : Q () ⟨h, g, d, t, os⟩) :
    wpAny M A (checkBuiltinCall "type.__call__" ⟨.ref C :: rest, kw⟩) Q E ⟨h, g, d, t, os⟩ := by
  have q3 := tc_sub
  have q4 : (⟨h, g, d, t, os⟩ : Shared).TypeIs (.ref C) "type" := ⟨_, hC, rfl⟩
  simp only [checkBuiltinCall, tc_kind, tc_split]
  repeat (any_goals (first | assumption | with_reducible refine wpAny_loadPart_at hC ?_ | with_reducible refine wpAny_onRaise ?_ | with_reducible refine wpAny_map ?_ | wp_step))
end
section
variable {prog : Program} {w : World} {A : Around} {E : Value → Shared → Prop} {R : Result → Shared → Prop} {h : Heap} {g : Array GenState} {d : Drawn} {t : Nat} {os : OsState}
variable {nm q : Str} {C N fI : Addr} {bs bm : List Value} {sn : List Str} {sub : List Value} {ab : Bool} {col : Option Bool} {dd : Option Addr} {k0 k1 k2 k3 k5 : Option Value} {kw : List (Str × Value)} {rest : List Value}
theorem new_kw (hbm : refsVE bm = true) (hC : h.get? C = some (clsO nm q C N bs bm sn sub ab col dd k0 k1 k2 k3 k5)) (hz : rest.length ≤ sizeLine)
    (hq : R (.ok (.ret (.ref (h.objs.size + 1)))) ⟨(h.push (W.kdv_tup rest)).push (excO C h.objs.size), g, d, t, os⟩) :
    codeAny (model prog w) A (.builtin "ValueError.__new__" ⟨.ref C :: rest, kw⟩) R ⟨h, g, d, t, os⟩ := by
  have F := F.excBase_ValueError
  have := F.ends
  have in1 : (Value.ref C :: bm).contains (.type "ValueError") = true := by rw [List.contains_cons, refsVE_contains "ValueError" bm hbm, F.hasB, Bool.or_true]
  have in2 : (Value.ref C :: bm).contains (.type "AttributeError") = false := by rw [List.contains_cons, refsVE_contains "AttributeError" bm hbm, F.noAttr]; rfl
  have in3 : (Value.ref C :: bm).contains (.type "NameError") = false := by rw [List.contains_cons, refsVE_contains "NameError" bm hbm, F.noName]; rfl
  refine codeAny_builtinAt F.entry ?_
  unfold Builtin.«BaseException.__new__»
  refine wpAt_bind ?_
  show wpAt _ _ _ (stack >>= _) _ _ _
  refine wpAt_bind (wpAt_stack fun p below => wpAt_of_wpAny ?_)
  wp_walk
  refine wpAt_of_wpAny ?_
  rw [F.owner]
  repeat (first | with_reducible refine wpAny_madeHere_exc F.canon hC ?_ | with_reducible refine wpAny_loadPart_at hC ?_ | (with_reducible refine wpAny_isSubtype_exc hC ?_; first | rw [in1] | rw [in2] | rw [in3]) | wp_step)
  show R _ _
  rw [Heap.size_push]
  exact hq
theorem type_kw (hbm : refsVE bm = true) {Q : Fin → Shared → Prop} (hC : h.get? C = some (clsO nm q C N bs bm sn sub ab col dd k0 k1 k2 k3 k5)) (hi : W.Looks (model prog w) h (typeLookup (.ref C) "__init__") (some (.ref fI)))
    (hb : ∀ self, W.Looks (model prog w) h (bindSpecial (.ref fI) self) (.ref fI, [self])) (hz : rest.length ≤ sizeLine)
    (hq : codeAny (model prog w) A (.call (.ref fI) ⟨.ref (h.objs.size + 1) :: rest, kw⟩) (fun r s' => match r with | .ok (.ret v) => v = .none ∧ Q (.done (.ret (.ref (h.objs.size + 1)))) s' | .ok _ => False | .error e => E e s')
      ⟨(h.push (W.kdv_tup rest)).push (excO C h.objs.size), g, d, t, os⟩) :
    wpAny (model prog w) A (Builtin.«type.__call__» ⟨.ref C :: rest, kw⟩) Q E ⟨h, g, d, t, os⟩ := by
  repeat (first | with_reducible refine wpAny_loadPart_at hC ?_ | with_reducible refine wpAny_madeBy_exc hC ?_ | wp_step)
  refine codeAny_call_builtin_code (Code.quiet_builtin _ F.excBase_ValueError.quiet) (check_new hbm hC ?_)
  refine new_kw hbm hC hz ?_
  show wpAny _ _ _ _ _ _
  have k : ∀ b o, h.get? b = some o → ((h.push (W.kdv_tup rest)).push (excO C h.objs.size)).get? b = some o := fun b o e => Heap.get?_push_of_some _ (Heap.get?_push_of_some _ e)
  have hC1 := k _ _ hC
  have he : ((h.push (W.kdv_tup rest)).push (excO C h.objs.size)).get? (h.objs.size + 1) = some (excO C h.objs.size) := by heap_get
  have hself : (Value.ref C :: bm).contains (.ref C) = true := by simp
  unfold isInstance
  repeat (first | with_reducible refine wpAny_loadPart_at he ?_ | (with_reducible refine wpAny_isSubtype_exc hC1 ?_; rw [hself]) | wp_step)
  show wpAny _ _ (typeLookup (.ref C) _) _ _ _
  refine (hi.keeps k).at ?_
  refine wpAny_holding (wpAny_bind (((hb (.ref (h.objs.size + 1))).keeps k).at ?_))
  refine wpAny_bind (wpAny_call (codeAny_mono hq fun r s' z => ?_))
  rcases r with e | (v | _ | _ | _) <;> first | exact z | exact z.elim | skip
  obtain ⟨rfl, z⟩ := z
  first
    | exact wpAny_pure (wpAny_pure z)
    | (wp_walk; exact z)
theorem call_kw (hbm : refsVE bm = true) (hC : h.get? C = some (clsO nm q C N bs bm sn sub ab col dd k0 k1 k2 k3 k5)) (hi : W.Looks (model prog w) h (typeLookup (.ref C) "__init__") (some (.ref fI)))
    (hb : ∀ self, W.Looks (model prog w) h (bindSpecial (.ref fI) self) (.ref fI, [self])) (hz : rest.length ≤ sizeLine)
    (hq : codeAny (model prog w) (A.under (.builtin "type.__call__" ⟨.ref C :: rest, kw⟩)) (.call (.ref fI) ⟨.ref (h.objs.size + 1) :: rest, kw⟩) (W.InitBack (h.objs.size + 1) R)
      ⟨(h.push (W.kdv_tup rest)).push (excO C h.objs.size), g, d, t, os⟩) :
    codeAny (model prog w) A (.call (.ref C) ⟨rest, kw⟩) R ⟨h, g, d, t, os⟩ := by
  have q1 := tc_lookup
  have q2 := tc_bind (.ref C)
  have q4 : (⟨h, g, d, t, os⟩ : Shared).TypeIs (.ref C) "type" := ⟨_, hC, rfl⟩
  refine codeAny_of_tree ?_
  show wpAny _ _ (callAny (.ref C) _) _ _ _
  repeat (any_goals (first | assumption | with_reducible refine wpAny_loadPart_at hC ?_ | wp_step))
  refine ⟨rfl, ?_⟩
  refine codeAny_call_builtin_at (Code.quiet_builtin _ (by decide +kernel)) entry_typeCall (check_call hC (type_kw hbm hC hi hb hz ?_))
  refine codeAny_mono hq fun r s' z => ?_
  rcases r with e | (v | _ | _ | _) <;> exact z
end
end ExKw
set_option Elab.async false
set_option maxRecDepth 100000
set_option maxHeartbeats 4000000
set_option linter.all false
/-! own exceptions as values: made, their fields read, isinstance of them -/
namespace XV
open PySem PySem.Spec PyProof.Rows L2
section
variable {X : Cx} {CX : CXT} {k : Nat} {fI C : Addr} {fd : FuncData} {ps ks : List Str} {sp : Sp} {dvs : List V} {ds : List Value} {E : XK} {x : Str} {p pos : Pos} {e : Expr} {es : List Expr} {kws : List Keyword} {ta tk : TA} {g : List Value → List Value → List Value} {gV : List V → List V → List V}
/-- C(e, ..), C's own __init__ keeping sp: the new exception -/
def tExn (C : Addr) (sp : Sp) (E : XK) (ta : TA) : TE := fun σ H Q => ta σ H fun vs H1 => vs.length ≤ 1000 ∧ ∀ a, H1 a = none → sp (.ref a :: vs) (upd H1 a (exo a C none)) (fun v H2 => v = .non ∧ Q (.ref a) H2) E
/-- C(k = v, ..) -/
def tExnK (C : Addr) (sp : Sp) (gV : List V → List V → List V) (E : XK) (tk : TA) : TE := fun σ H Q => tk σ H fun zs H1 => ∀ a, H1 a = none → sp (gV [.ref a] zs) (upd H1 a (exo a C none)) (fun v H2 => v = .non ∧ Q (.ref a) H2) E
/-- what the rules ask of the class -/
structure XCls (K : PySem.W.Frag) (C fI : Addr) : Prop where
  ox : OexC K C
  ini : PySem.W.findIn K (.ref C) "__init__" = some (some (.ref fI))
  ty : PySem.W.typeIn K (.ref fI) = some (.type "function")
/-- the class called, however: what __init__ makes of the new exception -/
theorem run_exn {pins : List (Addr × Obj)} {σ : L2.St} {H : Hp} {s : Shared} {Q : VK} {us uz : List Value} {vz : List V} {kw : List (Str × Value)} (T : XCls X.K C fI) (F : FnOk X.prog X.w X.K X.mg X.base CX k fI fd ps sp) (hr : Room (k + 1) X.A) (hx : Passes CX X E)
    (I : Inv X pins σ H s) (hz : us.length ≤ sizeLine) (a : Addr) (ea : a = s.heap.objs.size + 1) (hb : ∀ s', X.K.In s'.heap → BindsTo s' fd ⟨.ref a :: us, kw⟩ (ps.zip uz)) (r : Vals vz uz)
    (h : sp vz (upd H a (exo a C none)) (fun v H2 => v = .non ∧ Q (.ref a) H2) E) : wpAny (model X.prog X.w) X.A (call (.ref C) us kw) (EP X pins σ Q) X.xe s := by
  obtain ⟨nm, q, N, bs, bm, sn, sub, ab, col, dd, k0, k1, k2, k3, k5, hC, hbm⟩ := T.ox.cls
  subst ea
  obtain ⟨hp, gs, dr, tk, os⟩ := s
  have hsz : hp.objs.size ≤ hp.objs.size + 1 := Nat.le_succ _
  have kk : ∀ b o, hp.get? b = some o → ((hp.push (PySem.W.kdv_tup us)).push (PySem.HandSPX.excO C hp.objs.size)).get? b = some o := fun b o e => Heap.get?_push_of_some _ (Heap.get?_push_of_some _ e)
  have he : ((hp.push (PySem.W.kdv_tup us)).push (PySem.HandSPX.excO C hp.objs.size)).get? (hp.objs.size + 1) = some (PySem.HandSPX.excO C hp.objs.size) := by heap_get
  have I2 : Inv X pins σ (upd H (hp.objs.size + 1) (exo (hp.objs.size + 1) C none)) ⟨(hp.push (PySem.W.kdv_tup us)).push (PySem.HandSPX.excO C hp.objs.size), gs, dr, tk, os⟩ :=
    I.laid (t' := tk) (a := hp.objs.size + 1) (o := exo (hp.objs.size + 1) C none) (h' := (hp.push (PySem.W.kdv_tup us)).push (PySem.HandSPX.excO C hp.objs.size)) kk hsz (exo_ok he)
  refine wpAny_call (ExKw.call_kw hbm (I.kIn _ _ hC) (PySem.W.looks_findIn I.kIn T.ini) (fun self => PySem.W.bind_fn I.kIn self T.ty) hz ?_)
  refine codeAny_mono (F.run _ X.stack _ _ ⟨.ref (hp.objs.size + 1) :: us, kw⟩ uz vz _ E (hr.make C us kw) (I2.env0.make C us kw) (hb _ I2.kIn) r h) fun r s' hq => ?_
  cases r with
  | error er => exact hx pins σ _ _ er s' I2 hq
  | ok fl =>
    cases fl with
    | ret u =>
      obtain ⟨v, H', I3, rv, ev, q3⟩ := I2.after hq
      subst ev
      exact ⟨rv, ⟨.ref (hp.objs.size + 1), H', I3, rfl, q3⟩⟩
    | next => exact False.elim hq
    | brk => exact False.elim hq
    | cont => exact False.elim hq
theorem pe_exn (T : XCls X.K C fI) (F : FnOk X.prog X.w X.K X.mg X.base CX k fI fd ps sp) (hr : Room (k + 1) X.A) (hb : Binds X.K fd ps []) (hx : Passes CX X E) (hg : Gl X x) (hm : X.mg x = some (.ref C)) (ha : PA X (e :: es) ta)
    (hdb : (x == ("__debug__" : Str)) = false := by decide) (he : starEach (e :: es) X.env = (false, eval e X.env) :: starEach es X.env := by rfl) (hpl : (backTo pos (starEach es X.env)).any (·.1) = false := by rfl) :
    PE X (.Call (.Name x p) (e :: es) [] pos) (tExn C sp E ta) := by
  refine ⟨fun pins s σ H Q I h => ?_⟩
  refine wpAny_Call_Name_kw (ld_glob I hg hm ?_ hdb)
  refine PySem.W.callWith_K (h₀ := X.base) I.ok.mod.kin T.ox.kC (thn (ha.run pos pins s σ H _ I h) fun us s1 ⟨vs, H1, I1, r1, hz, q1⟩ => ⟨I1.kIn, ?_⟩) he hpl
  have hq := q1 (s1.heap.objs.size + 1) (I1.hok.fresh (Nat.le_succ _))
  have r2 : Vals (V.ref (s1.heap.objs.size + 1) :: vs) (Value.ref (s1.heap.objs.size + 1) :: us) := .cons rfl r1
  have hl : (Value.ref (s1.heap.objs.size + 1) :: us ++ []).length = ps.length := by
    rw [List.append_nil, ← r2.length]
    exact F.len _ _ _ _ hq
  refine run_exn (kw := []) T F hr hx I1 ?_ _ rfl (fun s' K' => ?_) r2 hq
  · show us.length ≤ sizeLine
    rw [← Paired.length r1, sizeLine_eq]
    omega
  · have z := hb s' (Value.ref (s1.heap.objs.size + 1) :: us) K' hl
    rw [List.append_nil] at z
    exact z
theorem pe_exnK (T : XCls X.K C fI) (F : FnOk X.prog X.w X.K X.mg X.base CX k fI fd ps sp) (hr : Room (k + 1) X.A) (hb : KBinds X.K fd ps ks g gV) (hx : Passes CX X E) (hg : Gl X x) (hm : X.mg x = some (.ref C)) (hkw : PK X kws tk)
    (hall : (backToKw pos (keywordEach kws X.env)).all (·.1.isSome) = true := by rfl) (hks : (backToKw pos (keywordEach kws X.env)).filterMap (·.1) = ks := by rfl) (hdb : (x == ("__debug__" : Str)) = false := by decide)
    (hpl : ((backTo pos (starEach [] X.env)).any (·.1) || (backToKw pos (keywordEach kws X.env)).any (·.1.isNone)) = false := by rfl) :
    PE X (.Call (.Name x p) [] kws pos) (tExnK C sp gV E tk) := by
  refine ⟨fun pins s σ H Q I h => ?_⟩
  refine wpAny_Call_Name_kw (ld_glob I hg hm ?_ hdb)
  refine PySem.W.callWith_KW0 (h₀ := X.base) I.ok.mod.kin T.ox.kC hall ?_ hpl
  refine thn (hkw.run pos pins s σ H _ I h) fun ws s1 ⟨zs, H1, I1, rz, q1⟩ => ⟨I1.kIn, ?_⟩
  rw [hks]
  have hq := q1 (s1.heap.objs.size + 1) (I1.hok.fresh (Nat.le_succ _))
  have r1 : Vals [V.ref (s1.heap.objs.size + 1)] [Value.ref (s1.heap.objs.size + 1)] := .cons rfl .nil
  have r2 := hb.rel r1 rz
  have hl : (g [Value.ref (s1.heap.objs.size + 1)] ws).length = ps.length := by
    rw [← r2.length]
    exact F.len _ _ _ _ hq
  exact run_exn (us := []) T F hr hx I1 (Nat.zero_le _) _ rfl (fun s' K' => hb.to s' _ ws K' hl) r2 hq
/-- C(), C without own __init__ -/
theorem pe_exn0 (q : PySem.W.excIn X.K C [.type "ValueError", .type "Exception", .type "BaseException", .type "object"] "ValueError.__new__" = true) (kC : PySem.W.keepIn X.K (.ref C) = true) (hg : Gl X x) (hm : X.mg x = some (.ref C)) (hdb : (x == ("__debug__" : Str)) = false := by decide) :
    PE X (.Call (.Name x p) [] [] pos) (fun _ H Q => ∀ a, H a = none → Q (.ref a) (upd H a (exo a C none))) := by
  refine ⟨fun pins s σ H Q I h => ?_⟩
  refine wpAny_Call_Name_kw (ld_glob I hg hm ?_ hdb)
  refine PySem.W.callWith_K0 I.kIn kC ?_
  obtain ⟨bm, N, nm, qn, bs, hdct, sn, sub, ab, col, dd, k0, k1, k2, k3, k5, mN, hC, hN, hni, T⟩ := exc_obj I.kIn q
  refine wpAny_call_exc_subT F.excBase_ValueError T hC hN hni (fun h' a hm => ?_) (Nat.zero_le _)
  obtain ⟨t, ht, h2⟩ := hm.there
  have hn : H a = none := I.hok.gone hm.new
  refine ⟨.ref a, upd H a (exo a C none), I.laidN hm.keeps hm.new hn (exo_ok ht), rfl, h a hn⟩
end
end XV
set_option Elab.async false
set_option maxRecDepth 100000
set_option maxHeartbeats 4000000
set_option linter.all false
/-! an own exception that is told: its fields, isinstance -/
namespace XV
open PySem PySem.Spec PyProof.Rows L2
/-- e is an exception of the class at C with the fields fs -/
def ExV (H : Hp) (e C : Addr) (fs : List (Str × V)) : Prop := ∃ d, H e = some (exo e C (some d)) ∧ H d = some (exd d fs)
/-- e is an exception of the class at C, whatever its fields -/
def ExA (H : Hp) (e C : Addr) : Prop := ∃ d, H e = some (exo e C d) ∧ ∀ dx, d = some dx → ∃ fs, H dx = some (exd dx fs)
theorem ExV.any {H : Hp} {e C : Addr} {fs : List (Str × V)} (h : ExV H e C fs) : ExA H e C := by
  obtain ⟨d, h1, h2⟩ := h
  exact ⟨some d, h1, fun dx z => by cases z; exact ⟨fs, h2⟩⟩
theorem ExV.keep {H H' : Hp} {e C : Addr} {fs : List (Str × V)} (h : ExV H e C fs) (k : ∀ b o, H b = some o → H' b = some o) : ExV H' e C fs := by
  obtain ⟨d, h1, h2⟩ := h
  exact ⟨d, k _ _ h1, k _ _ h2⟩
theorem ExA.keep {H H' : Hp} {e C : Addr} (h : ExA H e C) (k : ∀ b o, H b = some o → H' b = some o) : ExA H' e C := by
  obtain ⟨d, h1, h2⟩ := h
  refine ⟨d, k _ _ h1, fun dx z => ?_⟩
  obtain ⟨fs, h3⟩ := h2 dx z
  exact ⟨fs, k _ _ h3⟩
theorem ex_inst {P : Program} {w : World} {H : Hp} {h : Heap} {e C : Addr} (hok : HOk P w H h) (x : ExA H e C) : ∃ (ox : Obj) (od : Option Obj), PySem.W.InstAt h e ox C od := by
  obtain ⟨d, h1, h2⟩ := x
  obtain ⟨t1, ho⟩ := exo_at hok h1
  cases d with
  | none => exact ⟨_, none, ho, rfl, rfl, trivial⟩
  | some dx =>
    obtain ⟨fs, h3⟩ := h2 dx rfl
    obtain ⟨mA, hns, _⟩ := exd_at hok h3
    obtain ⟨od, hd, _⟩ := lookIn_ns hns
    exact ⟨_, some od, ho, rfl, rfl, hd⟩
section
variable {X : Cx} {e : Expr} {te : TE} {pos : Pos} {n : Str}
/-- isinstance(e, c), e a told exception -/
def rIsX (K : PySem.W.Frag) : List V → Hp → VK → Prop := fun xs H Q => ∃ (a D : Addr) (c : V) (cv : Value) (b : Bool), xs = [.ref a, c] ∧ ClsV c cv ∧ ExA H a D ∧ ExcC K D ∧ PySem.W.kitOne K (.ref D) cv = some b ∧ Q (.bl b) H
theorem call_isX : CallR X (.builtin "isinstance") (rIsX X.K) := by
  intro pins s σ H xs us Q I r h
  obtain ⟨a, D, c, cv, b, rfl, hc, xa, C, hk, q⟩ := h
  cases r with
  | cons r1 rr =>
    cases rr with
    | cons r2 rr =>
      cases rr
      cases r1
      have ec := hc.eq r2
      subst ec
      obtain ⟨ox, od, J⟩ := ex_inst I.hok xa
      have hcl : (PySem.W.clsIn X.K D).isSome = true := by
        obtain ⟨cd, z, _⟩ := PySem.W.any_some C.hd
        rw [z]
        rfl
      exact PySem.W.kia_one (PySem.W.kitx_exc (ox := ox) (od := od) hcl C.hg C.hk C.hs C.ha C.hn C.ht C.hm) I.kIn J hk (fun z => nomatch z) fun tk => ⟨.bl b, H, I.kept (t' := tk) fun _ _ z => z, rfl, q⟩
/-- e.n, e a told exception -/
def tXfd (K : PySem.W.Frag) (n : Str) (te : TE) : TE := fun σ H Q => te σ H fun x H1 => ∃ (a C : Addr) (fs : List (Str × V)) (v : V), x = .ref a ∧ XfC K C ∧ PySem.W.findIn K (.ref C) n = some none ∧ ExV H1 a C fs ∧ fs.lookup n = some v ∧ Q v H1
theorem pe_xfd (he : PE X e te) (hb : attributeBase e n X.env (eval e X.env) = eval e X.env := by rfl) : PE X (.Attribute e n pos) (tXfd X.K n te) := by
  refine ⟨fun pins s σ H Q I h => ?_⟩
  refine attr_of hb (thn (he.run pins s σ H _ I h) fun u s1 hh => ?_)
  obtain ⟨x, H1, I1, rx, a, C, fs, v, ex, T, hno, ⟨d, h1, h2⟩, l, q⟩ := hh
  subst ex
  obtain rfl : u = Value.ref a := rx
  obtain ⟨t1, ho⟩ := exo_at I1.hok h1
  obtain ⟨mA, hns, hr⟩ := exd_at I1.hok h2
  obtain ⟨od, hd, hl⟩ := lookIn_ns hns
  obtain ⟨u, hu, ru⟩ := RelO.some_of (v := v) (o := mA n) (by rw [← l]; exact hr n)
  have J : PySem.W.InstAt s1.heap a { cls := .ref C, dict := some d, data := .fields #[.ref t1, .none, .none, .none, .bool false, .none] } C (some od) := ⟨ho, rfl, rfl, hd⟩
  exact HandSPX.exc_get I1.kIn J T.ga T.gg T.exC (PySem.W.findObj_own T.hdC hno rfl (by rw [hl, hu])) (handed_of ru) ⟨v, H1, I1.tok _, ru, q⟩
end
/-! the own __init__s: each parameter but self is kept under its own name -/
/-- what such an __init__ promises: fn, the fields' names -/
def spInit (K : PySem.W.Frag) (C : Addr) (fn : List Str) : Sp := fun vs H Q _ => ∃ (a : Addr) (ys : List V), vs = .ref a :: ys ∧ ys.length = fn.length ∧ H a = some (exo a C none) ∧
  ∀ (d : Addr) (H' : Hp), H d = none → H' a = some (exo a C (some d)) → H' d = some (exd d (fn.zip ys).reverse) → (∀ b o, H b = some o → b ≠ a → H' b = some o) → Q .non H'
end XV
set_option Elab.async false
set_option maxRecDepth 100000
set_option maxHeartbeats 4000000
set_option linter.all false
/-! a lambda that captures nothing, as a value: made, kept, called -/
namespace LamV
open PySem PySem.Spec PyProof.Rows L2 LamX
/-- at f: a lambda's function object; c' its code object -/
def LamO (f : Addr) (q : Str) (params : Arguments) (body : Expr) (scope : Scope) (c' : Addr) : HO := .ext fun h => ∃ (od : Option Addr) (sl : Array (Option Value)) (pm ctv : Value),
  h.get? f = some (⟨.type "function", od, .func (PySem.W.kla_fn "<lambda>" q params body scope [] pm (.ref c') ctv), sl⟩ : Obj)
theorem lamO_at {P : Program} {w : World} {H : Hp} {h : Heap} {f c' : Addr} {q : Str} {params : Arguments} {body : Expr} {scope : Scope} (hok : HOk P w H h) (e : H f = some (LamO f q params body scope c')) :
    ∃ (od : Option Addr) (sl : Array (Option Value)) (pm ctv : Value), h.get? f = some (⟨.type "function", od, .func (PySem.W.kla_fn "<lambda>" q params body scope [] pm (.ref c') ctv), sl⟩ : Obj) := by
  obtain ⟨z, _, _⟩ := hok f _ e
  exact z
theorem code_at {P : Program} {w : World} {H : Hp} {h : Heap} {c : Addr} {q : Str} (hok : HOk P w H h) (e : H c = some (CodeO c q)) : h.CodeRec (.ref c) q := by
  obtain ⟨⟨oc, vs, t, h1, h2, h3⟩, _, _⟩ := hok c _ e
  exact ⟨c, oc, vs, t, rfl, h1, h2, h3⟩
/-- what a lambda promises, whichever object it is -/
structure LamOk (P : Program) (w : World) (K : PySem.W.Frag) (mg : Str → Option Value) (base : Heap) (k : Nat) (q : Str) (params : Arguments) (body : Expr) (scope : Scope) (ps : List Str) (sp : Sp) : Prop where
  len : ∀ vs H Q E, sp vs H Q E → vs.length = ps.length
  run : ∀ (A : Around) (outer : List Env) (s : Shared) (H : Hp) (f c' : Addr) (us : List Value) (vs : List V) (Q : VK) (E : XK), Room k A → Env0 P w K mg base A outer s H → H f = some (LamO f q params body scope c') → H c' = some (CodeO c' q) → Vals vs us → sp vs H Q E →
    codeAny (model P w) A (.call (.ref f) ⟨us, []⟩) (CR CX0 outer P w H s Q E) s
theorem LamOk.mono {P : Program} {w : World} {K : PySem.W.Frag} {mg : Str → Option Value} {base : Heap} {j k : Nat} {q : Str} {params : Arguments} {body : Expr} {scope : Scope} {ps : List Str} {sp : Sp} (F : LamOk P w K mg base j q params body scope ps sp) (h : j ≤ k) : LamOk P w K mg base k q params body scope ps sp :=
  ⟨F.len, fun A outer s H f c' us vs Q E hr => F.run A outer s H f c' us vs Q E (hr.mono h)⟩
theorem lam_of {P : Program} {w : World} {K : PySem.W.Frag} {mg : Str → Option Value} {base : Heap} {k : Nat} {q : Str} {params : Arguments} {body : Expr} {scope : Scope} {N ps : List Str} {sp : Sp} (S : FnScope N ps scope)
    (hbind : ∀ (pm ct cv : Value) (us : List Value), us.length = ps.length → bindArgs (PySem.W.kla_fn "<lambda>" q params body scope [] pm cv ct) ⟨us, []⟩ = pure (ps.zip us)) (len : ∀ vs H Q E, sp vs H Q E → vs.length = ps.length)
    (hbody : ∀ (A : Around) (outer : List Env) (s : Shared) (H : Hp) (f : Addr) (cd : Value) (vs : List V) (Q : VK) (E : XK), Room k (A.deeper (envOfC q scope s.heap.objs.size f cd)) → sp vs H Q E →
      ∃ t, PE (cxOf CX0 P w K mg base N q scope f cd A outer s H E).nox body t ∧ t (start N vs) H Q) : LamOk P w K mg base (k + 1) q params body scope ps sp := by
  refine ⟨len, fun A outer s H f c' us vs Q E hr e0 hf hc r hsp => ?_⟩
  have hl := len _ _ _ _ hsp
  have lim : s.heap.NoLimit := e0.mod.nolimit.keeps fun b o e => (e0.bs b o e).1
  obtain ⟨od, sl, pm, ctv, ho⟩ := lamO_at e0.hok hf
  have kinds : ∀ y ∈ ps.zip us, scope.names.lookup y.1 = some .local ∨ (scope.names.lookup y.1 = some .cell ∧ ((cellsFrom (s.heap.objs.size + 1) scope.names []).lookup y.1).isSome = true) := fun ⟨n, v⟩ hy => by
    rcases S.par n (List.of_mem_zip hy).1 with z | z
    · exact .inl z
    · exact .inr ⟨z, PySem.W.cellsFrom_some _ _ _ (.inl z)⟩
  refine PySem.W.kla_callFunE hr.depth ho rfl S.co S.gen rfl (code_at e0.hok hc) ?_
  rw [hbind pm ctv (.ref c') us (by rw [← r.length]; exact hl)]
  refine wpAny_pure (wpAny_newFunctionEnv_cells S.kind kinds fun env he s1 x => ?_)
  subst he
  refine ⟨lim.keeps x.toInCall.keep, ?_⟩
  obtain ⟨t, ht, hq⟩ := hbody A outer s H f (.ref c') vs Q E (hr.deeper _) hsp
  have I : Inv (cxOf CX0 P w K mg base N q scope f (.ref c') A outer s H E) [] (start N vs) H s1 := inv_start S hr.hd e0 hl r x
  refine PySem.W.kla_codeExpr (wpAny_mono ((PE.nox ht).run [] s1 (start N vs) H Q I hq) (fun u s' z => ?_) fun e s' z => z)
  obtain ⟨v, H', J, rv, z⟩ := z
  exact ⟨v, H', J.os, J.bare, J.base, J.hok, rv, z⟩
section
variable {X : Cx} {pins : List (Addr × Obj)} {σ : L2.St} {H : Hp} {s : Shared}
/-- the lambda is made, its object kept -/
theorem lam_makeT {T : List (Addr × Str)} {c P : Addr} {params : Arguments} {body : Expr} {scope : Scope} {pos : Pos} {E : Value → Shared → Prop} {Q : Value → Shared → Prop} (I : Inv X pins σ H s) (TB : TabB X.base X.mg c P) (hcode : X.env.code = .ref c)
    (hm : (P, X.env.qual ++ "<lambda>") ∈ T) (hu : ∀ p ∈ T, p.1 = P → p.2 = X.env.qual ++ "<lambda>") (hT : Tabs T H) (hdef : defaultsOf params X.env = ([], [])) (hfree : ∀ y ∈ scope.names, y.2 ≠ .free) (hcl : cloFrom X.env.cells scope.names [] = [])
    (h : ∀ (f c' : Addr) (H1 : Hp) (s' : Shared), Inv X pins σ H1 s' → ExtN H H1 → (∀ b, H1 b = none → H b = none) → Tabs T H1 → H f = none → H1 f = some (LamO f (X.env.qual ++ "<lambda>") params body scope c') → H1 c' = some (CodeO c' (X.env.qual ++ "<lambda>")) → Q (.ref f) s') :
    wpAny (model X.prog X.w) X.A (eval (.Lambda params body scope pos) X.env) Q E s := by
  obtain ⟨ps, hP, ht, ha⟩ := hT _ hm
  refine PySem.W.kla_eval hdef ?_
  have bP : s.heap.BuiltinsAt X.mg P := TB.bm.keeps I.bk
  have hP' : s.heap.get? P = some { cls := .none, data := .fields ps } := I.hok P _ hP
  have hclo : closureFor scope X.env = pure [] := by
    have z := closure_ok (env := X.env) (scope := scope) fun y hy e => absurd e (hfree y hy)
    rw [hcl] at z
    exact z
  -- the function object is laid upon whatever stands
  have lay : ∀ (H1 : Hp) (h' : Heap) (tk : Tok) (pm ctv : Value) (c' : Addr), Inv X pins σ H1 { s with heap := h', toks := tk } → ExtN H H1 → (∀ b, H1 b = none → H b = none) → Tabs T H1 → H1 c' = some (CodeO c' (X.env.qual ++ "<lambda>")) →
      Q (.ref h'.objs.size) { s with heap := h'.push (PySem.W.kla_obj "<lambda>" (X.env.qual ++ "<lambda>") params body scope [] pm c' ctv), toks := tk } := by
    intro H1 h' tk pm ctv c' I1 eN nn T1 hc
    have nF : H1 h'.objs.size = none := I1.hok.fresh (Nat.le_refl _)
    have ho : (h'.push (PySem.W.kla_obj "<lambda>" (X.env.qual ++ "<lambda>") params body scope [] pm c' ctv)).get? h'.objs.size = some (PySem.W.kla_obj "<lambda>" (X.env.qual ++ "<lambda>") params body scope [] pm c' ctv) := Heap.get?_push_size _ rfl
    have I2 : Inv X pins σ (upd H1 h'.objs.size (LamO h'.objs.size (X.env.qual ++ "<lambda>") params body scope c')) { s with heap := h'.push (PySem.W.kla_obj "<lambda>" (X.env.qual ++ "<lambda>") params body scope [] pm c' ctv), toks := tk } := by
      refine I1.laid (a := h'.objs.size) (o := LamO h'.objs.size (X.env.qual ++ "<lambda>") params body scope c') (t' := tk) (h' := h'.push (PySem.W.kla_obj "<lambda>" (X.env.qual ++ "<lambda>") params body scope [] pm c' ctv)) (fun b u e => Heap.get?_push_of_some _ e) (Nat.le_refl _) ?_
      exact ⟨⟨_, _, pm, ctv, ho⟩, ⟨_, ho⟩, fun h1 h2 ⟨od, sl, p, t, z⟩ st => ⟨od, sl, p, t, st _ z⟩⟩
    have ext : ∀ b o, H1 b = some o → upd H1 h'.objs.size (LamO h'.objs.size (X.env.qual ++ "<lambda>") params body scope c') b = some o := fun b o e => (upd_ne (ne_of_none e nF)).trans e
    have gone : ∀ b, upd H1 h'.objs.size (LamO h'.objs.size (X.env.qual ++ "<lambda>") params body scope c') b = none → H1 b = none := fun b e => by
      by_cases hb : b = h'.objs.size
      · rw [hb, upd_same] at e
        cases e
      · rw [upd_ne hb] at e
        exact e
    exact h _ c' _ _ I2 (fun b o e n => ext b o (eN b o e n)) (fun b e => nn b (gone b e)) (T1.ext ext) (nn _ nF) upd_same (ext _ _ hc)
  cases hc : codeAmong pos ps.toList with
  | none =>
    refine PySem.W.kla_makeFunction (mg := X.mg) (c := c) (P := P) (ps := ps) hclo I.ok.glob (I.mod.glob.keeps I.bk) hcode (TB.code.keeps I.bk) hP' ht hc TB.gP bP fun c' ctv h' tk hx hge hlt hrec htb => ?_
    obtain ⟨c2, oc, vs, t, e2, hoc, hd, hv⟩ := hrec
    cases e2
    have nC : H c' = none := I.hok.fresh hge
    have I1 := inv_table (t' := tk) (more := #[rawInt pos.line, rawInt pos.col, .ref c']) (h' := h') I hP (fun b o hb e => hx b o hb e) htb hge ⟨oc, vs, t, hoc, hd, hv⟩
    have hE : ExtN H (upd (upd H P (.tbl (ps ++ #[rawInt pos.line, rawInt pos.col, .ref c']))) c' (CodeO c' (X.env.qual ++ "<lambda>"))) := fun b o e n => by
      rw [upd_ne (ne_of_none e nC), upd_ne (fun z => n ps (Option.some.inj (e.symm.trans (by rw [z]; exact hP))))]
      exact e
    have eL : (ps ++ #[rawInt pos.line, rawInt pos.col, .ref c']).toList = ps.toList ++ [rawInt pos.line, rawInt pos.col, .ref c'] := by simp
    refine lay _ h' tk _ ctv c' I1 hE (fun b e => ?_) (fun p hp => ?_) upd_same
    · by_cases hb : b = c'
      · rw [hb, upd_same] at e
        cases e
      · rw [upd_ne hb] at e
        by_cases hb2 : b = P
        · rw [hb2, upd_same] at e
          cases e
        · rw [upd_ne hb2] at e
          exact e
    · by_cases hb : p.1 = P
      · rw [hu p hp hb, hb]
        refine ⟨_, by rw [upd_ne (ne_of_none hP nC), upd_same], by rw [eL]; exact PySem.TriplesOk_snoc _ _ _ _ ht, fun p' cv hcv => ?_⟩
        rw [eL] at hcv
        rcases among_app _ ht hcv with z | z
        · obtain ⟨c0, e1, e2⟩ := ha p' cv z
          exact ⟨c0, e1, hE _ _ e2 codeO_ne⟩
        · exact ⟨c', z, upd_same⟩
      · obtain ⟨ps', a1, a2, a3⟩ := hT p hp
        refine ⟨ps', by rw [upd_ne (ne_of_none a1 nC), upd_ne hb]; exact a1, a2, fun p' cv hcv => ?_⟩
        obtain ⟨c0, e1, e2⟩ := a3 p' cv hcv
        exact ⟨c0, e1, hE _ _ e2 codeO_ne⟩
  | some cv =>
    obtain ⟨c', e, hco⟩ := ha pos cv hc
    subst e
    refine PySem.W.kla_makeFunctionHit (mg := X.mg) (c := c) (P := P) (ps := ps) hclo I.ok.glob (I.mod.glob.keeps I.bk) hcode (TB.code.keeps I.bk) hP' ht hc bP fun ctv h' tk hx hsz => ?_
    exact lay H h' tk _ ctv c' (I.kept hx) (ExtN.refl H) (fun b e => e) hT hco
/-- lambda ..: body -/
def tLamV (T : List (Addr × Str)) (q : Str) (params : Arguments) (body : Expr) (scope : Scope) : TE := fun _ H Q => Tabs T H ∧ ∀ (f c' : Addr) (H1 : Hp), ExtN H H1 → (∀ b, H1 b = none → H b = none) → Tabs T H1 → H f = none → H1 f = some (LamO f q params body scope c') → H1 c' = some (CodeO c' q) → Q (.ref f) H1
theorem pe_lamV {T : List (Addr × Str)} {c P : Addr} {params : Arguments} {body : Expr} {scope : Scope} {pos : Pos} (TB : TabB X.base X.mg c P) (hcode : X.env.code = .ref c) (hm : (P, X.env.qual ++ "<lambda>") ∈ T) (hu : ∀ p ∈ T, p.1 = P → p.2 = X.env.qual ++ "<lambda>")
    (hdef : defaultsOf params X.env = ([], []) := by rfl) (hfree : ∀ y ∈ scope.names, y.2 ≠ .free := by decide +kernel) (hcl : cloFrom X.env.cells scope.names [] = [] := by rfl) : PE X (.Lambda params body scope pos) (tLamV T (X.env.qual ++ "<lambda>") params body scope) := by
  refine ⟨fun pins s σ H Q I h => ?_⟩
  obtain ⟨hT, h⟩ := h
  exact lam_makeT I TB hcode hm hu hT hdef hfree hcl fun f c' H1 s' I1 eN nn T1 f0 f1 c1 => ⟨.ref f, H1, I1, rfl, h f c' H1 eN nn T1 f0 f1 c1⟩
/-- x(e, ..), x a slot's name that holds a lambda -/
def tCallV (P : Program) (w : World) (K : PySem.W.Frag) (mg : Str → Option Value) (base : Heap) (k i : Nat) (t : TA) : TE := fun σ H Q => ∃ (f c' : Addr) (q : Str) (params : Arguments) (body : Expr) (scope : Scope) (ps : List Str) (sp : Sp), σ[i]? = some (some (.ref f)) ∧ LamOk P w K mg base k q params body scope ps sp ∧
  t σ H fun vs H1 => H1 f = some (LamO f q params body scope c') ∧ H1 c' = some (CodeO c' q) ∧ sp vs H1 Q E0
theorem pe_callV {k i : Nat} {x : Str} {p pos : Pos} {e : Expr} {es : List Expr} {t : TA} (hr : Room k X.A) (hN : X.N[i]? = some x) (hv : Vis X.env.scope x) (ha : PA X (e :: es) t)
    (hf : ∀ (pins : List (Addr × Obj)) (s : Shared) (σ : L2.St) (H : Hp), Inv X pins σ H s → True := by intros; trivial)
    (hdb : (x == ("__debug__" : Str)) = false := by decide) (hcd : (x == ("__classdict__" : Str)) = false := by decide)
    (he : starEach (e :: es) X.env = (false, eval e X.env) :: starEach es X.env := by rfl) (hpl : (backTo pos (starEach es X.env)).any (·.1) = false := by rfl) (hold : ∀ (f c' : Addr) (q : Str) (params : Arguments) (body : Expr) (scope : Scope) (H H1 : Hp), H f = some (LamO f q params body scope c') → H1 f = some (LamO f q params body scope c') → True := by intros; trivial) :
    PE X (.Call (.Name x p) (e :: es) [] pos) (fun σ H Q => (∃ (f c' : Addr) (q : Str) (params : Arguments) (body : Expr) (scope : Scope), σ[i]? = some (some (.ref f)) ∧ H f = some (LamO f q params body scope c')) ∧ tCallV X.prog X.w X.K X.mg X.base k i t σ H Q) := by
  refine ⟨fun pins s σ H Q I h => ?_⟩
  obtain ⟨⟨f0, c0, q0, pa0, bo0, sc0, hs0, hf0⟩, f, c', q, params, body, scope, ps, sp, hs, LK, ht⟩ := h
  have ef : f0 = f := by
    rw [hs] at hs0
    have z := Option.some.inj (Option.some.inj hs0)
    injection z with z
    exact z.symm
  subst ef
  refine wpAny_Call_Name_kw (thn ((pe_var (pos := p) hN hv hdb hcd).run pins s σ H (fun v H1 => v = .ref f0 ∧ H1 = H) I ⟨.ref f0, hs, rfl, rfl⟩) fun u s1 ⟨v, H1, I1, r1, q1⟩ => ?_)
  obtain ⟨ev, eH⟩ := q1
  subst ev
  rw [eH] at I1
  obtain rfl : u = Value.ref f0 := r1
  obtain ⟨od, sl, pm, ctv, ho⟩ := lamO_at I1.hok hf0
  refine PySem.W.callWith_F ⟨_, _, _, _, ho⟩ (thn (ha.run pos pins s1 σ H _ I1 ht) fun us s2 ⟨vs, H2, I2, r2, hf2, hc2, hsp⟩ => ?_) he hpl
  obtain ⟨od2, sl2, pm2, ctv2, ho2⟩ := lamO_at I2.hok hf2
  refine ⟨⟨_, _, _, _, ho2⟩, wpAny_call (codeAny_mono (LK.run X.A X.stack s2 H2 f0 c' us vs Q E0 hr I2.env0 hf2 hc2 r2 hsp) fun r s' hq => ?_)⟩
  cases r with
  | error e => exact False.elim hq
  | ok fl =>
    cases fl with
    | ret u => exact I2.after hq
    | next => exact False.elim hq
    | brk => exact False.elim hq
    | cont => exact False.elim hq
end
end LamV
set_option Elab.async false
set_option maxRecDepth 100000
set_option maxHeartbeats 4000000
set_option linter.all false
/-! repr of nested data (lists, tuples, dicts of texts); defs that show things: their guards are empty -/
namespace ReprV
open PySem PySem.Spec PyProof.Rows L2
mutual
inductive DV (K : PySem.W.Frag) (H : Hp) : V → PyData → Prop
  | non : DV K H .non .none
  | bl (b : Bool) : DV K H (.bl b) (.bool b)
  | int (i : Int) : DV K H (.int i) (.int i)
  | str (x : Str) : DV K H (.str x) (.str x)
  | lst {a : Addr} {xs : List V} {ds : List PyData} : H a = some (.lst xs) → DVAll K H xs ds → DV K H (.ref a) (.list ds)
  | tup {a : Addr} {xs : List V} {ds : List PyData} : SqT K H a xs → DVAll K H xs ds → DV K H (.ref a) (.tuple ds)
  | dic {a : Addr} {kvs : List (Key × V)} {ds : List (PyData × PyData)} : H a = some (.dK kvs) → DVKv K H kvs ds → DV K H (.ref a) (.dict ds)
inductive DVAll (K : PySem.W.Frag) (H : Hp) : List V → List PyData → Prop
  | nil : DVAll K H [] []
  | cons {v : V} {vs : List V} {d : PyData} {ds : List PyData} : DV K H v d → DVAll K H vs ds → DVAll K H (v :: vs) (d :: ds)
inductive DVKv (K : PySem.W.Frag) (H : Hp) : List (Key × V) → List (PyData × PyData) → Prop
  | nil : DVKv K H [] []
  | cons {k : Key} {v : V} {vs : List (Key × V)} {d : PyData} {ds : List (PyData × PyData)} : DV K H v d → DVKv K H vs ds → DVKv K H ((k, v) :: vs) ((k.elim PyData.int PyData.str, d) :: ds)
end
def encK (k : Key) : PyData := k.elim PyData.int PyData.str
theorem sqT_keep {K : PySem.W.Frag} {H H' : Hp} {a : Addr} {xs : List V} (k : LamX.ExtN H H') (h : SqT K H a xs) : SqT K H' a xs := by
  rcases h with (h | ⟨o, h⟩) | h
  · exact .inl (.inl (k _ _ h fun _ z => nomatch z))
  · exact .inl (.inr ⟨o, k _ _ h fun _ z => nomatch z⟩)
  · exact .inr h
mutual
theorem DV.keep {K : PySem.W.Frag} {H H' : Hp} (k : LamX.ExtN H H') : ∀ (d : PyData) (v : V), DV K H v d → DV K H' v d
  | .none, _, h => by
    cases h
    exact .non
  | .bool b, _, h => by
    cases h
    exact .bl b
  | .int i, _, h => by
    cases h
    exact .int i
  | .str x, _, h => by
    cases h
    exact .str x
  | .list ds, _, h => by
    cases h with
    | lst ha hs => exact .lst (k _ _ ha fun _ z => nomatch z) (DVAll.keep k ds _ hs)
  | .tuple ds, _, h => by
    cases h with
    | tup ha hs => exact .tup (sqT_keep k ha) (DVAll.keep k ds _ hs)
  | .dict ds, _, h => by
    cases h with
    | dic ha hs => exact .dic (k _ _ ha fun _ z => nomatch z) (DVKv.keep k ds _ hs)
theorem DVAll.keep {K : PySem.W.Frag} {H H' : Hp} (k : LamX.ExtN H H') : ∀ (ds : List PyData) (vs : List V), DVAll K H vs ds → DVAll K H' vs ds
  | [], _, h => by
    cases h
    exact .nil
  | d :: ds, _, h => by
    cases h with
    | cons h1 h2 => exact .cons (DV.keep k d _ h1) (DVAll.keep k ds _ h2)
theorem DVKv.keep {K : PySem.W.Frag} {H H' : Hp} (k : LamX.ExtN H H') : ∀ (ds : List (PyData × PyData)) (vs : List (Key × V)), DVKv K H vs ds → DVKv K H' vs ds
  | [], _, h => by
    cases h
    exact .nil
  | (_, d) :: ds, _, h => by
    cases h with
    | cons h1 h2 => exact .cons (DV.keep k d _ h1) (DVKv.keep k ds _ h2)
end
section
variable {X : Cx} {pins : List (Addr × Obj)} {σ : L2.St} {H : Hp} {s : Shared}
theorem keyRead {h : Heap} : ∀ (k : Key) (key : Value), (mixKind X.prog X.w).is k key = true → Reads h key (encK k) [] := fun k key e => by
  cases k with
  | inl i =>
    cases key <;> first | (cases e; done) | skip
    rename_i j t
    have z : (j == i) = true := e
    rw [← eq_of_beq z]
    exact .int _ _
  | inr x =>
    cases key <;> first | (cases e; done) | skip
    rename_i j t
    have z : (j == x) = true := e
    rw [← eq_of_beq z]
    exact .str _ _
mutual
theorem DV.reads (I : Inv X pins σ H s) : ∀ (d : PyData) (v : V) (u : Value), DV X.K H v d → RelV v u → ∃ as, Reads s.heap u d as ∧ ∀ b ∈ as, H b ≠ none
  | .none, _, _, h, r => by
    cases h
    cases r
    exact ⟨_, Reads.none, fun _ z => nomatch z⟩
  | .bool b, _, _, h, r => by
    cases h
    cases r
    exact ⟨_, Reads.bool b, fun _ z => nomatch z⟩
  | .int i, _, _, h, r => by
    cases h
    obtain ⟨t, rfl⟩ := r
    exact ⟨_, Reads.int i t, fun _ z => nomatch z⟩
  | .str x, _, _, h, r => by
    cases h
    obtain ⟨t, rfl⟩ := r
    exact ⟨_, Reads.str x t, fun _ z => nomatch z⟩
  | .list ds, _, _, h, r => by
    cases h with
    | lst hs ha =>
      cases r
      obtain ⟨its, rv, ⟨o, n, ho, hc, _, hd⟩, _⟩ := I.list (.inl (.inl hs))
      obtain ⟨as, hr, hh⟩ := DV.readsAll I ds _ its ha rv
      refine ⟨_, Reads.list ho hc hd hr, fun b hb => ?_⟩
      rcases List.mem_cons.mp hb with z | z
      · rw [z, hs]
        exact fun q => nomatch q
      · exact hh b z
  | .tuple ds, _, _, h, r => by
    cases h with
    | tup hs ha =>
      cases r
      obtain ⟨its, rv, ⟨o, ho, hc, n, hd⟩, _⟩ := I.tuple hs
      obtain ⟨as, hr, hh⟩ := DV.readsAll I ds _ its ha rv
      exact ⟨_, Reads.tuple ho hc hd hr, hh⟩
  | .dict ds, _, _, h, r => by
    cases h with
    | dic hs ha =>
      cases r
      obtain ⟨_, _, vs, rv, hd⟩ := (show ObjOk X.prog X.w H s.heap _ (.dK _) from I.hok _ _ hs)
      obtain ⟨as, hr, hh⟩ := DV.readsKv I ds _ vs ha rv
      refine ⟨_, PyProof.V.reads_dictOf (enc := encK) keyRead hd hr, fun b hb => ?_⟩
      rcases List.mem_cons.mp hb with z | z
      · rw [z, hs]
        exact fun q => nomatch q
      · exact hh b z
theorem DV.readsAll (I : Inv X pins σ H s) : ∀ (ds : List PyData) (vs : List V) (us : List Value), DVAll X.K H vs ds → Vals vs us → ∃ as, ReadsAll s.heap us ds as ∧ ∀ b ∈ as, H b ≠ none
  | [], _, _, h, r => by
    cases h
    cases r
    exact ⟨_, ReadsAll.nil, fun _ z => nomatch z⟩
  | d :: ds, _, _, h, r => by
    cases h with
    | cons h1 h2 =>
      cases r with
      | cons r1 r2 =>
        obtain ⟨as, q1, k1⟩ := DV.reads I d _ _ h1 r1
        obtain ⟨bs, q2, k2⟩ := DV.readsAll I ds _ _ h2 r2
        refine ⟨_, ReadsAll.cons q1 q2, fun b hb => ?_⟩
        rcases List.mem_append.mp hb with z | z
        · exact k1 b z
        · exact k2 b z
theorem DV.readsKv (I : Inv X pins σ H s) : ∀ (ds : List (PyData × PyData)) (vs : List (Key × V)) (us : List (Key × Value)), DVKv X.K H vs ds → KV vs us → ∃ as, PyProof.V.PairsRead s.heap encK us ds as ∧ ∀ b ∈ as, H b ≠ none
  | [], _, _, h, r => by
    cases h
    cases r
    exact ⟨_, PyProof.V.PairsRead.nil, fun _ z => nomatch z⟩
  | (_, d) :: ds, _, _, h, r => by
    cases h with
    | cons h1 h2 =>
      cases r with
      | @cons _ q _ _ r1 r2 =>
        obtain ⟨k', u⟩ := q
        obtain ⟨e, r1⟩ := r1
        have e : _ = k' := e
        subst e
        obtain ⟨as, q1, k1⟩ := DV.reads I d _ _ h1 r1
        obtain ⟨bs, q2, k2⟩ := DV.readsKv I ds _ _ h2 r2
        refine ⟨_, PyProof.V.PairsRead.cons q1 q2, fun b hb => ?_⟩
        rcases List.mem_append.mp hb with z | z
        · exact k1 b z
        · exact k2 b z
end
end
section
variable {X : Cx}
/-- repr(a), a a list, tuple or dict of data -/
def rReprDV (K : PySem.W.Frag) : List V → Hp → VK → Prop := fun xs H Q => ∃ (a : Addr) (d : PyData), xs = [.ref a] ∧ DV K H (.ref a) d ∧ d.showable = true ∧ d.depth ≤ 40 ∧ d.shown.length ≤ sizeLine ∧ Q (.str d.shown) H
theorem call_reprDV (hg : X.A.guards = some []) (hu : X.A.units + 64 < cLine) (hsm : ∃ o, X.base.get? sysModules = some o) : CallR X (.builtin "repr") (rReprDV X.K) := by
  intro pins s σ H xs us Q I r h
  obtain ⟨a, d, rfl, hd, hs, hdp, hz, q⟩ := h
  obtain ⟨u, rfl, r1⟩ := vals1 r
  cases r1
  obtain ⟨as, hr, hh⟩ := DV.reads I d _ _ hd rfl
  obtain ⟨o, ho⟩ := hsm
  refine repr_of_reads' (h₀ := s.heap) hr hs (fun _ z => hh _ z (I.bs _ _ ho).2) hg (by omega) (fun _ _ e => e) (fun h' u tk hk => ?_) hz
  exact ⟨.str _, H, I.kept hk, ⟨u, rfl⟩, q⟩
end
/-! defs whose guards are empty -/
structure FnG (P : Program) (w : World) (K : PySem.W.Frag) (mg : Str → Option Value) (base : Heap) (k : Nat) (f : Addr) (fd : FuncData) (ps : List Str) (sp : Sp) : Prop where
  len : ∀ vs H Q E, sp vs H Q E → vs.length = ps.length
  run : ∀ (A : Around) (outer : List Env) (s : Shared) (H : Hp) (args : Args) (us : List Value) (vs : List V) (Q : VK) (E : XK), Room k A → A.guards = some [] → Env0 P w K mg base A outer s H → BindsTo s fd args (ps.zip us) → Vals vs us → sp vs H Q E →
    codeAny (model P w) A (.call (.ref f) args) (CR CX0 outer P w H s Q E) s
theorem FnG.mono {P : Program} {w : World} {K : PySem.W.Frag} {mg : Str → Option Value} {base : Heap} {j k : Nat} {f : Addr} {fd : FuncData} {ps : List Str} {sp : Sp} (F : FnG P w K mg base j f fd ps sp) (h : j ≤ k) :
    FnG P w K mg base k f fd ps sp := ⟨F.len, fun A outer s H args us vs Q E hr => F.run A outer s H args us vs Q E (hr.mono h)⟩
section
variable {P : Program} {w : World} {K : PySem.W.Frag} {mg : Str → Option Value} {base : Heap}
theorem fun_okG {x qual : Str} {st : Stmt} {f : Addr} {fd : FuncData} {N ps : List Str} {k : Nat} {sp : Sp} (F : Fun K x qual st f fd) (S : FnScope N ps (defScope st)) (len : ∀ vs H Q E, sp vs H Q E → vs.length = ps.length)
    (hbody : ∀ (cdv : Value) (A : Around) (outer : List Env) (s : Shared) (H : Hp) (vs : List V) (Q : VK) (E : XK), Room k (A.deeper (envOfC qual (defScope st) s.heap.objs.size f cdv)) → A.guards = some [] → sp vs H Q E →
      ∃ t, PSs (cxOf CX0 P w K mg base N qual (defScope st) f cdv A outer s H E).nox (defBody st) t ∧ t { nx := fun _ H' => Q .non H', rt := Q } (start N vs) H) : FnG P w K mg base (k + 1) f fd ps sp := by
  obtain ⟨oc, od, kV, doc, pm, an, cdv, ct, osl, rfl, lk, hcd⟩ := F.ex
  refine ⟨len, fun A outer s H args us vs Q E hr hg e0 hb r hsp => ?_⟩
  refine LamX.run_ofS lk hcd S hr e0 hb r (len _ _ _ _ hsp) fun hr2 => ?_
  obtain ⟨t, h, q⟩ := hbody cdv A outer s H vs Q E hr2 hg hsp
  exact ⟨t, h.nox, q⟩
end
section
variable {X : Cx} {k : Nat} {f : Addr} {fd : FuncData} {ps : List Str} {sp : Sp} {x : Str} {p pos : Pos} {e : Expr} {es : List Expr} {t : TA}
theorem pe_callG (F : FnG X.prog X.w X.K X.mg X.base k f fd ps sp) (hr : Room k X.A) (hgd : X.A.guards = some []) (hg : Gl X x) (hm : X.mg x = some (.ref f)) (hk : PySem.W.keepIn X.K (.ref f) = true) (hb : Binds X.K fd ps [])
    (ha : PA X (e :: es) t) (hdb : (x == ("__debug__" : Str)) = false := by decide) (he : starEach (e :: es) X.env = (false, eval e X.env) :: starEach es X.env := by rfl) (hpl : (backTo pos (starEach es X.env)).any (·.1) = false := by rfl) :
    PE X (.Call (.Name x p) (e :: es) [] pos) (tCall sp [] E0 t) := by
  refine ⟨fun pins s σ H Q I h => ?_⟩
  refine wpAny_Call_Name_kw (ld_glob I hg hm ?_ hdb)
  refine PySem.W.callWith_K (h₀ := X.base) I.ok.mod.kin hk (thn (ha.run pos pins s σ H _ I h) fun us s1 ⟨vs, H1, I1, r, q⟩ => ⟨I1.kIn, ?_⟩) he hpl
  have q : sp (vs ++ []) H1 Q E0 := q
  rw [List.append_nil] at q
  have hl : us.length = ps.length := by rw [← r.length]; exact F.len _ _ _ _ q
  have hb' := hb s1 us I1.kIn (by rw [List.append_nil]; exact hl)
  rw [List.append_nil] at hb'
  refine wpAny_call (codeAny_mono (F.run X.A X.stack s1 H1 ⟨us, []⟩ us vs Q E0 hr hgd I1.env0 hb' r q) fun r s' hq => ?_)
  cases r with
  | error e => exact False.elim hq
  | ok fl =>
    cases fl with
    | ret u => exact I1.after hq
    | next => exact False.elim hq
    | brk => exact False.elim hq
    | cont => exact False.elim hq
end
end ReprV
set_option Elab.async false
set_option maxRecDepth 100000
set_option maxHeartbeats 4000000
set_option linter.all false
/-! the fifty classes: their names, fields, and what their own __init__s keep (printed by gen_cls.py) -/
namespace K00
open PySem PySem.Spec PyProof.Rows L2 XV
def cns : List Str := [("BadDeed" : Str), ("BadFirst" : Str), ("BadForm" : Str), ("BadKind" : Str), ("BadKinds" : Str), ("BadLeading" : Str), ("BadLists" : Str), ("BadLot" : Str), ("BadLots" : Str), ("BadMany" : Str), ("BadName" : Str), ("BadNames" : Str), ("BadNetwork" : Str), ("BadNumbers" : Str), ("BadOpen" : Str), ("BadOther" : Str), ("BadPairs" : Str), ("BadParting" : Str), ("BadParts" : Str), ("BadPlaces" : Str), ("BadPoint" : Str), ("BadPoints" : Str), ("BadQuarrel" : Str), ("BadQuestion" : Str), ("BadSaying" : Str), ("BadSecond" : Str), ("BadSome" : Str), ("BadTable" : Str), ("BadText" : Str), ("BadThird" : Str), ("BadTold" : Str), ("BadTriangle" : Str), ("BadTriangles" : Str), ("BadTurns" : Str), ("BadType" : Str), ("BadWay" : Str), ("BadWeb" : Str), ("Caught" : Str), ("Full" : Str), ("NoAgain" : Str), ("NoBack" : Str), ("NoRow" : Str), ("NotAgreed" : Str), ("NotAlways" : Str), ("NotLed" : Str), ("NotLet" : Str), ("NotOn" : Str), ("NotWatched" : Str), ("TooMany" : Str), ("Watched" : Str), ("WebError" : Str)]
def fls : List (List Str) := [[("index" : Str)], [("thing" : Str)], [("thing" : Str)], [("thing" : Str)], [("thing" : Str)], [("thing" : Str)], [("thing" : Str)], [("thing" : Str)], [("index" : Str)], [("thing" : Str)], [("thing" : Str)], [("thing" : Str)], [("thing" : Str)], [("thing" : Str)], [("names" : Str)], [("thing" : Str)], [("thing" : Str)], [("thing" : Str)], [("index" : Str)], [("thing" : Str)], [("thing" : Str)], [("thing" : Str)], [("thing" : Str)], [("thing" : Str)], [("thing" : Str)], [("thing" : Str)], [("thing" : Str)], [("thing" : Str)], [("line" : Str)], [("thing" : Str)], [("thing" : Str)], [("thing" : Str)], [("index" : Str)], [("thing" : Str)], [("thing" : Str)], [("index" : Str)], [("thing" : Str)], [("name" : Str)], [("many" : Str)], [], [], [("kind" : Str)], [("first" : Str), ("second" : Str)], [], [], [("first" : Str), ("second" : Str), ("third" : Str)], [], [("name" : Str)], [("many" : Str)], [("name" : Str)]]
def cn (k : Nat) : Str := cns.getD k ""
def fl (k : Nat) : List Str := fls.getD k []
def clsBody : Stmt → List Stmt
  | .ClassDef _ _ _ b _ _ _ _ _ _ _ => b
  | _ => []
def iSt (k : Nat) : Stmt := (clsBody (top (k + 2))).getD 0 (.Pass ⟨0, 0, 0, 0⟩)
def cA (K : PySem.W.Frag) (k : Nat) : Addr := He.ga K (cn k)
def iA (K : PySem.W.Frag) (k : Nat) : Addr := He.ma K (cA K k) "__init__"
def iQ (k : Nat) : Str := cn k ++ ".__init__"
def gR {α : Type} (us ws : List α) : List α := match us with
  | [a] => a :: ws.reverse
  | _ => []
/-- what is asked of the classes of the text -/
structure CF (K : PySem.W.Frag) (mg : Str → Option Value) : Prop where
  mg : ∀ k, k < 51 → mg (cn k) = some (.ref (cA K k))
  exc : ∀ k, k < 51 → ExcC K (cA K k)
  xf : ∀ k, k < 51 → XfC K (cA K k)
  non : ∀ k, k < 50 → ∀ f ∈ fl k, PySem.W.findIn K (.ref (cA K k)) f = some none
  ini : ∀ k, k < 50 → fl k ≠ [] → XCls K (cA K k) (iA K k)
  ex0 : ∀ k, k < 51 → fl k = [] → PySem.W.excIn K (cA K k) [.type "ValueError", .type "Exception", .type "BaseException", .type "object"] "ValueError.__new__" = true ∧ PySem.W.keepIn K (.ref (cA K k)) = true
  fun_ : ∀ k, k < 50 → fl k ≠ [] → ∃ fd, Fun K "__init__" (iQ k) (iSt k) (iA K k) fd
  kit : ∀ j k, j < 51 → k < 51 → PySem.W.kitOne K (.ref (cA K j)) (.ref (cA K k)) = some (decide (j = k) || decide (k = 50))
  kitB : ∀ j, j < 51 → PySem.W.kitOne K (.ref (cA K j)) (.type "ValueError") = some true ∧ PySem.W.kitOne K (.ref (cA K j)) (.type "LookupError") = some false ∧ PySem.W.kitOne K (.ref (cA K j)) (.type "ArithmeticError") = some false ∧ PySem.W.kitOne K (.ref (cA K j)) (.type "TypeError") = some false
theorem fun_of {K : PySem.W.Frag} {x qual : Str} {st : Stmt} {f : Addr} {fd : FuncData} (F : FunD K x qual (defArgs st) (defBody st) (defScope st) [] [] f fd) : Fun K x qual st f fd := by
  obtain ⟨oc, od, dV, kV, doc, pm, an, cdv, ct, osl, rfl, lk, hcd, hD, hK⟩ := F.ex
  rcases hD with ⟨_, rfl⟩ | ⟨e, _⟩
  · exact ⟨⟨oc, od, kV, doc, pm, an, cdv, ct, osl, rfl, lk, hcd⟩, F.kp⟩
  · exact absurd rfl e
/-- an own __init__ keeps its promise, and how it is called -/
structure IniOk (P : Program) (w : World) (K : PySem.W.Frag) (mg : Str → Option Value) (base : Heap) (k : Nat) (fd : FuncData) : Prop where
  ok : FnOk P w K mg base CX0 1 (iA K k) fd (("self" : Str) :: fl k) (spInit K (cA K k) (fl k))
  bn : Binds K fd (("self" : Str) :: fl k) []
  kb : KBinds K fd (("self" : Str) :: fl k) (fl k).reverse gR gR
section
variable {P : Program} {w : World} {K : PySem.W.Frag} {mg : Str → Option Value} {base : Heap}
theorem gR_rel {vs : List V} {us : List Value} {zs : List V} {ws : List Value} (r : Vals vs us) (z : Vals zs ws) : Vals (gR vs zs) (gR us ws) := by
  cases r with
  | nil => exact .nil
  | cons a b =>
    cases b with
    | nil => exact .cons a z.reverse
    | cons c d => exact .nil
theorem kb_of {st : Stmt} {q : Str} {f : Addr} {fd : FuncData} {ks : List Str} (F : Fun K "__init__" q st f fd)
    (h : ∀ (kV doc pm : Value) (an : Option Addr) (cdv ct : Value) (a : Value) (ws : List Value), ws.length = ks.length → bindArgs (PySem.W.fnOf "__init__" q (defArgs st) (defBody st) (defScope st) .none kV doc pm an cdv ct) ⟨[a], ks.reverse.zip ws⟩ = pure ((("self" : Str) :: ks).zip (a :: ws.reverse))) :
    KBinds K fd (("self" : Str) :: ks) ks.reverse gR gR := by
  obtain ⟨oc, od, kV, doc, pm, an, cdv, ct, osl, rfl, lk, hcd⟩ := F.ex
  refine ⟨fun s us ws _ hl => ?_, gR_rel⟩
  match us, hl with
  | [a], hl =>
    refine .of_eq ?_
    exact h kV doc pm an cdv ct a ws (by simpa [gR] using hl)
  | [], hl => simp [gR] at hl
  | _ :: _ :: _, hl => simp [gR] at hl
theorem ini1 {k : Nat} {n : Str} {fd : FuncData} (cf : CF K mg) (hk : k < 50) (e : fl k = [n]) (F : Fun K "__init__" (iQ k) (iSt k) (iA K k) fd) (S : FnScope ["self", n] ["self", n] (defScope (iSt k)))
    (hb : ∀ (cdv : Value) (A : Around) (outer : List Env) (s : Shared) (H : Hp) (E : XK), PSs (cxOf CX0 P w K mg base ["self", n] (iQ k) (defScope (iSt k)) (iA K k) cdv A outer s H E).nox (defBody (iSt k)) (tOst K n (tVar 0) (tVar 1))) :
    FnOk P w K mg base CX0 1 (iA K k) fd ["self", n] (spInit K (cA K k) [n]) := by
  refine F.ok S (fun vs H Q E h => ?_) (fun cdv A outer s H vs Q E hr h => ⟨_, hb cdv A outer s H E, ?_⟩)
  · obtain ⟨a, ys, rfl, hl, _⟩ := h
    simpa using hl
  · obtain ⟨a, ys, rfl, hl, ha, q⟩ := h
    match ys, hl with
    | [y], _ =>
      refine ⟨y, rfl, .ref a, rfl, a, cA K k, rfl, (cf.ini k hk (by rw [e]; exact List.cons_ne_nil _ _)).ox, cf.non k hk n (by rw [e]; exact List.mem_cons_self), Or.inl ⟨ha, fun dx hd hn => ?_⟩⟩
      exact q dx _ hd upd_same (by rw [upd_ne hn]; exact upd_same) (fun b o hb n => by rw [upd_ne n, upd_ne (ne_of_none hb hd)]; exact hb)
theorem ini2 {k : Nat} {n m : Str} {fd : FuncData} (cf : CF K mg) (hk : k < 50) (e : fl k = [n, m]) (F : Fun K "__init__" (iQ k) (iSt k) (iA K k) fd) (S : FnScope ["self", n, m] ["self", n, m] (defScope (iSt k)))
    (hb : ∀ (cdv : Value) (A : Around) (outer : List Env) (s : Shared) (H : Hp) (E : XK), PSs (cxOf CX0 P w K mg base ["self", n, m] (iQ k) (defScope (iSt k)) (iA K k) cdv A outer s H E).nox (defBody (iSt k)) (tSeq (tOst K n (tVar 0) (tVar 1)) (tOst K m (tVar 0) (tVar 2)))) :
    FnOk P w K mg base CX0 1 (iA K k) fd ["self", n, m] (spInit K (cA K k) [n, m]) := by
  refine F.ok S (fun vs H Q E h => ?_) (fun cdv A outer s H vs Q E hr h => ⟨_, hb cdv A outer s H E, ?_⟩)
  · obtain ⟨a, ys, rfl, hl, _⟩ := h
    simpa using hl
  · obtain ⟨a, ys, rfl, hl, ha, q⟩ := h
    match ys, hl with
    | [y, z], _ =>
      have ox := (cf.ini k hk (by rw [e]; exact List.cons_ne_nil _ _)).ox
      refine ⟨y, rfl, .ref a, rfl, a, cA K k, rfl, ox, cf.non k hk n (by rw [e]; exact List.mem_cons_self), Or.inl ⟨ha, fun dx hd hn => ?_⟩⟩
      refine ⟨z, rfl, .ref a, rfl, a, cA K k, rfl, ox, cf.non k hk m (by rw [e]; exact List.mem_cons_of_mem _ List.mem_cons_self), Or.inr ⟨dx, [(n, y)], upd_same, by rw [upd_ne hn]; exact upd_same, by show 1 ≤ 900; omega, ?_⟩⟩
      exact q dx _ hd (by rw [upd_ne (Ne.symm hn)]; exact upd_same) upd_same (fun b o hb n => by rw [upd_ne (ne_of_none hb hd), upd_ne n, upd_ne (ne_of_none hb hd)]; exact hb)
theorem ini3 {k : Nat} {n m l : Str} {fd : FuncData} (cf : CF K mg) (hk : k < 50) (e : fl k = [n, m, l]) (F : Fun K "__init__" (iQ k) (iSt k) (iA K k) fd) (S : FnScope ["self", n, m, l] ["self", n, m, l] (defScope (iSt k)))
    (hb : ∀ (cdv : Value) (A : Around) (outer : List Env) (s : Shared) (H : Hp) (E : XK), PSs (cxOf CX0 P w K mg base ["self", n, m, l] (iQ k) (defScope (iSt k)) (iA K k) cdv A outer s H E).nox (defBody (iSt k)) (tSeq (tOst K n (tVar 0) (tVar 1)) (tSeq (tOst K m (tVar 0) (tVar 2)) (tOst K l (tVar 0) (tVar 3))))) :
    FnOk P w K mg base CX0 1 (iA K k) fd ["self", n, m, l] (spInit K (cA K k) [n, m, l]) := by
  refine F.ok S (fun vs H Q E h => ?_) (fun cdv A outer s H vs Q E hr h => ⟨_, hb cdv A outer s H E, ?_⟩)
  · obtain ⟨a, ys, rfl, hl, _⟩ := h
    simpa using hl
  · obtain ⟨a, ys, rfl, hl, ha, q⟩ := h
    match ys, hl with
    | [y, z, x], _ =>
      have ox := (cf.ini k hk (by rw [e]; exact List.cons_ne_nil _ _)).ox
      refine ⟨y, rfl, .ref a, rfl, a, cA K k, rfl, ox, cf.non k hk n (by rw [e]; exact List.mem_cons_self), Or.inl ⟨ha, fun dx hd hn => ?_⟩⟩
      refine ⟨z, rfl, .ref a, rfl, a, cA K k, rfl, ox, cf.non k hk m (by rw [e]; exact List.mem_cons_of_mem _ List.mem_cons_self), Or.inr ⟨dx, [(n, y)], upd_same, by rw [upd_ne hn]; exact upd_same, by show 1 ≤ 900; omega, ?_⟩⟩
      refine ⟨x, rfl, .ref a, rfl, a, cA K k, rfl, ox, cf.non k hk l (by rw [e]; exact List.mem_cons_of_mem _ (List.mem_cons_of_mem _ List.mem_cons_self)), Or.inr ⟨dx, [(m, z), (n, y)], by rw [upd_ne (Ne.symm hn)]; exact upd_same, upd_same, by show 2 ≤ 900; omega, ?_⟩⟩
      exact q dx _ hd (by rw [upd_ne (Ne.symm hn), upd_ne (Ne.symm hn)]; exact upd_same) upd_same (fun b o hb n => by rw [upd_ne (ne_of_none hb hd), upd_ne (ne_of_none hb hd), upd_ne n, upd_ne (ne_of_none hb hd)]; exact hb)
theorem io0 {fd : FuncData} (cf : CF K mg) (F : Fun K "__init__" (iQ 0) (iSt 0) (iA K 0) fd) : IniOk P w K mg base 0 fd :=
  ⟨ini1 cf (by decide) rfl F ⟨rfl, rfl, rfl, by decide +kernel, rfl, by decide +kernel, by decide +kernel⟩ (fun _ _ _ _ _ _ => pss_one (ps_ost (pv 0) (pv 1))), F.binds (fun _ _ _ _ _ _ us hl => match us, hl with | [_, _], _ => rfl), kb_of F (fun _ _ _ _ _ _ _ ws hl => match ws, hl with | [_], _ => rfl)⟩
theorem io1 {fd : FuncData} (cf : CF K mg) (F : Fun K "__init__" (iQ 1) (iSt 1) (iA K 1) fd) : IniOk P w K mg base 1 fd :=
  ⟨ini1 cf (by decide) rfl F ⟨rfl, rfl, rfl, by decide +kernel, rfl, by decide +kernel, by decide +kernel⟩ (fun _ _ _ _ _ _ => pss_one (ps_ost (pv 0) (pv 1))), F.binds (fun _ _ _ _ _ _ us hl => match us, hl with | [_, _], _ => rfl), kb_of F (fun _ _ _ _ _ _ _ ws hl => match ws, hl with | [_], _ => rfl)⟩
theorem io2 {fd : FuncData} (cf : CF K mg) (F : Fun K "__init__" (iQ 2) (iSt 2) (iA K 2) fd) : IniOk P w K mg base 2 fd :=
  ⟨ini1 cf (by decide) rfl F ⟨rfl, rfl, rfl, by decide +kernel, rfl, by decide +kernel, by decide +kernel⟩ (fun _ _ _ _ _ _ => pss_one (ps_ost (pv 0) (pv 1))), F.binds (fun _ _ _ _ _ _ us hl => match us, hl with | [_, _], _ => rfl), kb_of F (fun _ _ _ _ _ _ _ ws hl => match ws, hl with | [_], _ => rfl)⟩
theorem io3 {fd : FuncData} (cf : CF K mg) (F : Fun K "__init__" (iQ 3) (iSt 3) (iA K 3) fd) : IniOk P w K mg base 3 fd :=
  ⟨ini1 cf (by decide) rfl F ⟨rfl, rfl, rfl, by decide +kernel, rfl, by decide +kernel, by decide +kernel⟩ (fun _ _ _ _ _ _ => pss_one (ps_ost (pv 0) (pv 1))), F.binds (fun _ _ _ _ _ _ us hl => match us, hl with | [_, _], _ => rfl), kb_of F (fun _ _ _ _ _ _ _ ws hl => match ws, hl with | [_], _ => rfl)⟩
theorem io4 {fd : FuncData} (cf : CF K mg) (F : Fun K "__init__" (iQ 4) (iSt 4) (iA K 4) fd) : IniOk P w K mg base 4 fd :=
  ⟨ini1 cf (by decide) rfl F ⟨rfl, rfl, rfl, by decide +kernel, rfl, by decide +kernel, by decide +kernel⟩ (fun _ _ _ _ _ _ => pss_one (ps_ost (pv 0) (pv 1))), F.binds (fun _ _ _ _ _ _ us hl => match us, hl with | [_, _], _ => rfl), kb_of F (fun _ _ _ _ _ _ _ ws hl => match ws, hl with | [_], _ => rfl)⟩
theorem io5 {fd : FuncData} (cf : CF K mg) (F : Fun K "__init__" (iQ 5) (iSt 5) (iA K 5) fd) : IniOk P w K mg base 5 fd :=
  ⟨ini1 cf (by decide) rfl F ⟨rfl, rfl, rfl, by decide +kernel, rfl, by decide +kernel, by decide +kernel⟩ (fun _ _ _ _ _ _ => pss_one (ps_ost (pv 0) (pv 1))), F.binds (fun _ _ _ _ _ _ us hl => match us, hl with | [_, _], _ => rfl), kb_of F (fun _ _ _ _ _ _ _ ws hl => match ws, hl with | [_], _ => rfl)⟩
theorem io6 {fd : FuncData} (cf : CF K mg) (F : Fun K "__init__" (iQ 6) (iSt 6) (iA K 6) fd) : IniOk P w K mg base 6 fd :=
  ⟨ini1 cf (by decide) rfl F ⟨rfl, rfl, rfl, by decide +kernel, rfl, by decide +kernel, by decide +kernel⟩ (fun _ _ _ _ _ _ => pss_one (ps_ost (pv 0) (pv 1))), F.binds (fun _ _ _ _ _ _ us hl => match us, hl with | [_, _], _ => rfl), kb_of F (fun _ _ _ _ _ _ _ ws hl => match ws, hl with | [_], _ => rfl)⟩
theorem io7 {fd : FuncData} (cf : CF K mg) (F : Fun K "__init__" (iQ 7) (iSt 7) (iA K 7) fd) : IniOk P w K mg base 7 fd :=
  ⟨ini1 cf (by decide) rfl F ⟨rfl, rfl, rfl, by decide +kernel, rfl, by decide +kernel, by decide +kernel⟩ (fun _ _ _ _ _ _ => pss_one (ps_ost (pv 0) (pv 1))), F.binds (fun _ _ _ _ _ _ us hl => match us, hl with | [_, _], _ => rfl), kb_of F (fun _ _ _ _ _ _ _ ws hl => match ws, hl with | [_], _ => rfl)⟩
theorem io8 {fd : FuncData} (cf : CF K mg) (F : Fun K "__init__" (iQ 8) (iSt 8) (iA K 8) fd) : IniOk P w K mg base 8 fd :=
  ⟨ini1 cf (by decide) rfl F ⟨rfl, rfl, rfl, by decide +kernel, rfl, by decide +kernel, by decide +kernel⟩ (fun _ _ _ _ _ _ => pss_one (ps_ost (pv 0) (pv 1))), F.binds (fun _ _ _ _ _ _ us hl => match us, hl with | [_, _], _ => rfl), kb_of F (fun _ _ _ _ _ _ _ ws hl => match ws, hl with | [_], _ => rfl)⟩
theorem io9 {fd : FuncData} (cf : CF K mg) (F : Fun K "__init__" (iQ 9) (iSt 9) (iA K 9) fd) : IniOk P w K mg base 9 fd :=
  ⟨ini1 cf (by decide) rfl F ⟨rfl, rfl, rfl, by decide +kernel, rfl, by decide +kernel, by decide +kernel⟩ (fun _ _ _ _ _ _ => pss_one (ps_ost (pv 0) (pv 1))), F.binds (fun _ _ _ _ _ _ us hl => match us, hl with | [_, _], _ => rfl), kb_of F (fun _ _ _ _ _ _ _ ws hl => match ws, hl with | [_], _ => rfl)⟩
theorem io10 {fd : FuncData} (cf : CF K mg) (F : Fun K "__init__" (iQ 10) (iSt 10) (iA K 10) fd) : IniOk P w K mg base 10 fd :=
  ⟨ini1 cf (by decide) rfl F ⟨rfl, rfl, rfl, by decide +kernel, rfl, by decide +kernel, by decide +kernel⟩ (fun _ _ _ _ _ _ => pss_one (ps_ost (pv 0) (pv 1))), F.binds (fun _ _ _ _ _ _ us hl => match us, hl with | [_, _], _ => rfl), kb_of F (fun _ _ _ _ _ _ _ ws hl => match ws, hl with | [_], _ => rfl)⟩
theorem io11 {fd : FuncData} (cf : CF K mg) (F : Fun K "__init__" (iQ 11) (iSt 11) (iA K 11) fd) : IniOk P w K mg base 11 fd :=
  ⟨ini1 cf (by decide) rfl F ⟨rfl, rfl, rfl, by decide +kernel, rfl, by decide +kernel, by decide +kernel⟩ (fun _ _ _ _ _ _ => pss_one (ps_ost (pv 0) (pv 1))), F.binds (fun _ _ _ _ _ _ us hl => match us, hl with | [_, _], _ => rfl), kb_of F (fun _ _ _ _ _ _ _ ws hl => match ws, hl with | [_], _ => rfl)⟩
theorem io12 {fd : FuncData} (cf : CF K mg) (F : Fun K "__init__" (iQ 12) (iSt 12) (iA K 12) fd) : IniOk P w K mg base 12 fd :=
  ⟨ini1 cf (by decide) rfl F ⟨rfl, rfl, rfl, by decide +kernel, rfl, by decide +kernel, by decide +kernel⟩ (fun _ _ _ _ _ _ => pss_one (ps_ost (pv 0) (pv 1))), F.binds (fun _ _ _ _ _ _ us hl => match us, hl with | [_, _], _ => rfl), kb_of F (fun _ _ _ _ _ _ _ ws hl => match ws, hl with | [_], _ => rfl)⟩
theorem io13 {fd : FuncData} (cf : CF K mg) (F : Fun K "__init__" (iQ 13) (iSt 13) (iA K 13) fd) : IniOk P w K mg base 13 fd :=
  ⟨ini1 cf (by decide) rfl F ⟨rfl, rfl, rfl, by decide +kernel, rfl, by decide +kernel, by decide +kernel⟩ (fun _ _ _ _ _ _ => pss_one (ps_ost (pv 0) (pv 1))), F.binds (fun _ _ _ _ _ _ us hl => match us, hl with | [_, _], _ => rfl), kb_of F (fun _ _ _ _ _ _ _ ws hl => match ws, hl with | [_], _ => rfl)⟩
theorem io14 {fd : FuncData} (cf : CF K mg) (F : Fun K "__init__" (iQ 14) (iSt 14) (iA K 14) fd) : IniOk P w K mg base 14 fd :=
  ⟨ini1 cf (by decide) rfl F ⟨rfl, rfl, rfl, by decide +kernel, rfl, by decide +kernel, by decide +kernel⟩ (fun _ _ _ _ _ _ => pss_one (ps_ost (pv 0) (pv 1))), F.binds (fun _ _ _ _ _ _ us hl => match us, hl with | [_, _], _ => rfl), kb_of F (fun _ _ _ _ _ _ _ ws hl => match ws, hl with | [_], _ => rfl)⟩
theorem io15 {fd : FuncData} (cf : CF K mg) (F : Fun K "__init__" (iQ 15) (iSt 15) (iA K 15) fd) : IniOk P w K mg base 15 fd :=
  ⟨ini1 cf (by decide) rfl F ⟨rfl, rfl, rfl, by decide +kernel, rfl, by decide +kernel, by decide +kernel⟩ (fun _ _ _ _ _ _ => pss_one (ps_ost (pv 0) (pv 1))), F.binds (fun _ _ _ _ _ _ us hl => match us, hl with | [_, _], _ => rfl), kb_of F (fun _ _ _ _ _ _ _ ws hl => match ws, hl with | [_], _ => rfl)⟩
theorem io16 {fd : FuncData} (cf : CF K mg) (F : Fun K "__init__" (iQ 16) (iSt 16) (iA K 16) fd) : IniOk P w K mg base 16 fd :=
  ⟨ini1 cf (by decide) rfl F ⟨rfl, rfl, rfl, by decide +kernel, rfl, by decide +kernel, by decide +kernel⟩ (fun _ _ _ _ _ _ => pss_one (ps_ost (pv 0) (pv 1))), F.binds (fun _ _ _ _ _ _ us hl => match us, hl with | [_, _], _ => rfl), kb_of F (fun _ _ _ _ _ _ _ ws hl => match ws, hl with | [_], _ => rfl)⟩
theorem io17 {fd : FuncData} (cf : CF K mg) (F : Fun K "__init__" (iQ 17) (iSt 17) (iA K 17) fd) : IniOk P w K mg base 17 fd :=
  ⟨ini1 cf (by decide) rfl F ⟨rfl, rfl, rfl, by decide +kernel, rfl, by decide +kernel, by decide +kernel⟩ (fun _ _ _ _ _ _ => pss_one (ps_ost (pv 0) (pv 1))), F.binds (fun _ _ _ _ _ _ us hl => match us, hl with | [_, _], _ => rfl), kb_of F (fun _ _ _ _ _ _ _ ws hl => match ws, hl with | [_], _ => rfl)⟩
theorem io18 {fd : FuncData} (cf : CF K mg) (F : Fun K "__init__" (iQ 18) (iSt 18) (iA K 18) fd) : IniOk P w K mg base 18 fd :=
  ⟨ini1 cf (by decide) rfl F ⟨rfl, rfl, rfl, by decide +kernel, rfl, by decide +kernel, by decide +kernel⟩ (fun _ _ _ _ _ _ => pss_one (ps_ost (pv 0) (pv 1))), F.binds (fun _ _ _ _ _ _ us hl => match us, hl with | [_, _], _ => rfl), kb_of F (fun _ _ _ _ _ _ _ ws hl => match ws, hl with | [_], _ => rfl)⟩
theorem io19 {fd : FuncData} (cf : CF K mg) (F : Fun K "__init__" (iQ 19) (iSt 19) (iA K 19) fd) : IniOk P w K mg base 19 fd :=
  ⟨ini1 cf (by decide) rfl F ⟨rfl, rfl, rfl, by decide +kernel, rfl, by decide +kernel, by decide +kernel⟩ (fun _ _ _ _ _ _ => pss_one (ps_ost (pv 0) (pv 1))), F.binds (fun _ _ _ _ _ _ us hl => match us, hl with | [_, _], _ => rfl), kb_of F (fun _ _ _ _ _ _ _ ws hl => match ws, hl with | [_], _ => rfl)⟩
theorem io20 {fd : FuncData} (cf : CF K mg) (F : Fun K "__init__" (iQ 20) (iSt 20) (iA K 20) fd) : IniOk P w K mg base 20 fd :=
  ⟨ini1 cf (by decide) rfl F ⟨rfl, rfl, rfl, by decide +kernel, rfl, by decide +kernel, by decide +kernel⟩ (fun _ _ _ _ _ _ => pss_one (ps_ost (pv 0) (pv 1))), F.binds (fun _ _ _ _ _ _ us hl => match us, hl with | [_, _], _ => rfl), kb_of F (fun _ _ _ _ _ _ _ ws hl => match ws, hl with | [_], _ => rfl)⟩
theorem io21 {fd : FuncData} (cf : CF K mg) (F : Fun K "__init__" (iQ 21) (iSt 21) (iA K 21) fd) : IniOk P w K mg base 21 fd :=
  ⟨ini1 cf (by decide) rfl F ⟨rfl, rfl, rfl, by decide +kernel, rfl, by decide +kernel, by decide +kernel⟩ (fun _ _ _ _ _ _ => pss_one (ps_ost (pv 0) (pv 1))), F.binds (fun _ _ _ _ _ _ us hl => match us, hl with | [_, _], _ => rfl), kb_of F (fun _ _ _ _ _ _ _ ws hl => match ws, hl with | [_], _ => rfl)⟩
theorem io22 {fd : FuncData} (cf : CF K mg) (F : Fun K "__init__" (iQ 22) (iSt 22) (iA K 22) fd) : IniOk P w K mg base 22 fd :=
  ⟨ini1 cf (by decide) rfl F ⟨rfl, rfl, rfl, by decide +kernel, rfl, by decide +kernel, by decide +kernel⟩ (fun _ _ _ _ _ _ => pss_one (ps_ost (pv 0) (pv 1))), F.binds (fun _ _ _ _ _ _ us hl => match us, hl with | [_, _], _ => rfl), kb_of F (fun _ _ _ _ _ _ _ ws hl => match ws, hl with | [_], _ => rfl)⟩
theorem io23 {fd : FuncData} (cf : CF K mg) (F : Fun K "__init__" (iQ 23) (iSt 23) (iA K 23) fd) : IniOk P w K mg base 23 fd :=
  ⟨ini1 cf (by decide) rfl F ⟨rfl, rfl, rfl, by decide +kernel, rfl, by decide +kernel, by decide +kernel⟩ (fun _ _ _ _ _ _ => pss_one (ps_ost (pv 0) (pv 1))), F.binds (fun _ _ _ _ _ _ us hl => match us, hl with | [_, _], _ => rfl), kb_of F (fun _ _ _ _ _ _ _ ws hl => match ws, hl with | [_], _ => rfl)⟩
theorem io24 {fd : FuncData} (cf : CF K mg) (F : Fun K "__init__" (iQ 24) (iSt 24) (iA K 24) fd) : IniOk P w K mg base 24 fd :=
  ⟨ini1 cf (by decide) rfl F ⟨rfl, rfl, rfl, by decide +kernel, rfl, by decide +kernel, by decide +kernel⟩ (fun _ _ _ _ _ _ => pss_one (ps_ost (pv 0) (pv 1))), F.binds (fun _ _ _ _ _ _ us hl => match us, hl with | [_, _], _ => rfl), kb_of F (fun _ _ _ _ _ _ _ ws hl => match ws, hl with | [_], _ => rfl)⟩
theorem io25 {fd : FuncData} (cf : CF K mg) (F : Fun K "__init__" (iQ 25) (iSt 25) (iA K 25) fd) : IniOk P w K mg base 25 fd :=
  ⟨ini1 cf (by decide) rfl F ⟨rfl, rfl, rfl, by decide +kernel, rfl, by decide +kernel, by decide +kernel⟩ (fun _ _ _ _ _ _ => pss_one (ps_ost (pv 0) (pv 1))), F.binds (fun _ _ _ _ _ _ us hl => match us, hl with | [_, _], _ => rfl), kb_of F (fun _ _ _ _ _ _ _ ws hl => match ws, hl with | [_], _ => rfl)⟩
theorem io26 {fd : FuncData} (cf : CF K mg) (F : Fun K "__init__" (iQ 26) (iSt 26) (iA K 26) fd) : IniOk P w K mg base 26 fd :=
  ⟨ini1 cf (by decide) rfl F ⟨rfl, rfl, rfl, by decide +kernel, rfl, by decide +kernel, by decide +kernel⟩ (fun _ _ _ _ _ _ => pss_one (ps_ost (pv 0) (pv 1))), F.binds (fun _ _ _ _ _ _ us hl => match us, hl with | [_, _], _ => rfl), kb_of F (fun _ _ _ _ _ _ _ ws hl => match ws, hl with | [_], _ => rfl)⟩
theorem io27 {fd : FuncData} (cf : CF K mg) (F : Fun K "__init__" (iQ 27) (iSt 27) (iA K 27) fd) : IniOk P w K mg base 27 fd :=
  ⟨ini1 cf (by decide) rfl F ⟨rfl, rfl, rfl, by decide +kernel, rfl, by decide +kernel, by decide +kernel⟩ (fun _ _ _ _ _ _ => pss_one (ps_ost (pv 0) (pv 1))), F.binds (fun _ _ _ _ _ _ us hl => match us, hl with | [_, _], _ => rfl), kb_of F (fun _ _ _ _ _ _ _ ws hl => match ws, hl with | [_], _ => rfl)⟩
theorem io28 {fd : FuncData} (cf : CF K mg) (F : Fun K "__init__" (iQ 28) (iSt 28) (iA K 28) fd) : IniOk P w K mg base 28 fd :=
  ⟨ini1 cf (by decide) rfl F ⟨rfl, rfl, rfl, by decide +kernel, rfl, by decide +kernel, by decide +kernel⟩ (fun _ _ _ _ _ _ => pss_one (ps_ost (pv 0) (pv 1))), F.binds (fun _ _ _ _ _ _ us hl => match us, hl with | [_, _], _ => rfl), kb_of F (fun _ _ _ _ _ _ _ ws hl => match ws, hl with | [_], _ => rfl)⟩
theorem io29 {fd : FuncData} (cf : CF K mg) (F : Fun K "__init__" (iQ 29) (iSt 29) (iA K 29) fd) : IniOk P w K mg base 29 fd :=
  ⟨ini1 cf (by decide) rfl F ⟨rfl, rfl, rfl, by decide +kernel, rfl, by decide +kernel, by decide +kernel⟩ (fun _ _ _ _ _ _ => pss_one (ps_ost (pv 0) (pv 1))), F.binds (fun _ _ _ _ _ _ us hl => match us, hl with | [_, _], _ => rfl), kb_of F (fun _ _ _ _ _ _ _ ws hl => match ws, hl with | [_], _ => rfl)⟩
theorem io30 {fd : FuncData} (cf : CF K mg) (F : Fun K "__init__" (iQ 30) (iSt 30) (iA K 30) fd) : IniOk P w K mg base 30 fd :=
  ⟨ini1 cf (by decide) rfl F ⟨rfl, rfl, rfl, by decide +kernel, rfl, by decide +kernel, by decide +kernel⟩ (fun _ _ _ _ _ _ => pss_one (ps_ost (pv 0) (pv 1))), F.binds (fun _ _ _ _ _ _ us hl => match us, hl with | [_, _], _ => rfl), kb_of F (fun _ _ _ _ _ _ _ ws hl => match ws, hl with | [_], _ => rfl)⟩
theorem io31 {fd : FuncData} (cf : CF K mg) (F : Fun K "__init__" (iQ 31) (iSt 31) (iA K 31) fd) : IniOk P w K mg base 31 fd :=
  ⟨ini1 cf (by decide) rfl F ⟨rfl, rfl, rfl, by decide +kernel, rfl, by decide +kernel, by decide +kernel⟩ (fun _ _ _ _ _ _ => pss_one (ps_ost (pv 0) (pv 1))), F.binds (fun _ _ _ _ _ _ us hl => match us, hl with | [_, _], _ => rfl), kb_of F (fun _ _ _ _ _ _ _ ws hl => match ws, hl with | [_], _ => rfl)⟩
theorem io32 {fd : FuncData} (cf : CF K mg) (F : Fun K "__init__" (iQ 32) (iSt 32) (iA K 32) fd) : IniOk P w K mg base 32 fd :=
  ⟨ini1 cf (by decide) rfl F ⟨rfl, rfl, rfl, by decide +kernel, rfl, by decide +kernel, by decide +kernel⟩ (fun _ _ _ _ _ _ => pss_one (ps_ost (pv 0) (pv 1))), F.binds (fun _ _ _ _ _ _ us hl => match us, hl with | [_, _], _ => rfl), kb_of F (fun _ _ _ _ _ _ _ ws hl => match ws, hl with | [_], _ => rfl)⟩
theorem io33 {fd : FuncData} (cf : CF K mg) (F : Fun K "__init__" (iQ 33) (iSt 33) (iA K 33) fd) : IniOk P w K mg base 33 fd :=
  ⟨ini1 cf (by decide) rfl F ⟨rfl, rfl, rfl, by decide +kernel, rfl, by decide +kernel, by decide +kernel⟩ (fun _ _ _ _ _ _ => pss_one (ps_ost (pv 0) (pv 1))), F.binds (fun _ _ _ _ _ _ us hl => match us, hl with | [_, _], _ => rfl), kb_of F (fun _ _ _ _ _ _ _ ws hl => match ws, hl with | [_], _ => rfl)⟩
theorem io34 {fd : FuncData} (cf : CF K mg) (F : Fun K "__init__" (iQ 34) (iSt 34) (iA K 34) fd) : IniOk P w K mg base 34 fd :=
  ⟨ini1 cf (by decide) rfl F ⟨rfl, rfl, rfl, by decide +kernel, rfl, by decide +kernel, by decide +kernel⟩ (fun _ _ _ _ _ _ => pss_one (ps_ost (pv 0) (pv 1))), F.binds (fun _ _ _ _ _ _ us hl => match us, hl with | [_, _], _ => rfl), kb_of F (fun _ _ _ _ _ _ _ ws hl => match ws, hl with | [_], _ => rfl)⟩
theorem io35 {fd : FuncData} (cf : CF K mg) (F : Fun K "__init__" (iQ 35) (iSt 35) (iA K 35) fd) : IniOk P w K mg base 35 fd :=
  ⟨ini1 cf (by decide) rfl F ⟨rfl, rfl, rfl, by decide +kernel, rfl, by decide +kernel, by decide +kernel⟩ (fun _ _ _ _ _ _ => pss_one (ps_ost (pv 0) (pv 1))), F.binds (fun _ _ _ _ _ _ us hl => match us, hl with | [_, _], _ => rfl), kb_of F (fun _ _ _ _ _ _ _ ws hl => match ws, hl with | [_], _ => rfl)⟩
theorem io36 {fd : FuncData} (cf : CF K mg) (F : Fun K "__init__" (iQ 36) (iSt 36) (iA K 36) fd) : IniOk P w K mg base 36 fd :=
  ⟨ini1 cf (by decide) rfl F ⟨rfl, rfl, rfl, by decide +kernel, rfl, by decide +kernel, by decide +kernel⟩ (fun _ _ _ _ _ _ => pss_one (ps_ost (pv 0) (pv 1))), F.binds (fun _ _ _ _ _ _ us hl => match us, hl with | [_, _], _ => rfl), kb_of F (fun _ _ _ _ _ _ _ ws hl => match ws, hl with | [_], _ => rfl)⟩
theorem io37 {fd : FuncData} (cf : CF K mg) (F : Fun K "__init__" (iQ 37) (iSt 37) (iA K 37) fd) : IniOk P w K mg base 37 fd :=
  ⟨ini1 cf (by decide) rfl F ⟨rfl, rfl, rfl, by decide +kernel, rfl, by decide +kernel, by decide +kernel⟩ (fun _ _ _ _ _ _ => pss_one (ps_ost (pv 0) (pv 1))), F.binds (fun _ _ _ _ _ _ us hl => match us, hl with | [_, _], _ => rfl), kb_of F (fun _ _ _ _ _ _ _ ws hl => match ws, hl with | [_], _ => rfl)⟩
theorem io38 {fd : FuncData} (cf : CF K mg) (F : Fun K "__init__" (iQ 38) (iSt 38) (iA K 38) fd) : IniOk P w K mg base 38 fd :=
  ⟨ini1 cf (by decide) rfl F ⟨rfl, rfl, rfl, by decide +kernel, rfl, by decide +kernel, by decide +kernel⟩ (fun _ _ _ _ _ _ => pss_one (ps_ost (pv 0) (pv 1))), F.binds (fun _ _ _ _ _ _ us hl => match us, hl with | [_, _], _ => rfl), kb_of F (fun _ _ _ _ _ _ _ ws hl => match ws, hl with | [_], _ => rfl)⟩
theorem io41 {fd : FuncData} (cf : CF K mg) (F : Fun K "__init__" (iQ 41) (iSt 41) (iA K 41) fd) : IniOk P w K mg base 41 fd :=
  ⟨ini1 cf (by decide) rfl F ⟨rfl, rfl, rfl, by decide +kernel, rfl, by decide +kernel, by decide +kernel⟩ (fun _ _ _ _ _ _ => pss_one (ps_ost (pv 0) (pv 1))), F.binds (fun _ _ _ _ _ _ us hl => match us, hl with | [_, _], _ => rfl), kb_of F (fun _ _ _ _ _ _ _ ws hl => match ws, hl with | [_], _ => rfl)⟩
theorem io42 {fd : FuncData} (cf : CF K mg) (F : Fun K "__init__" (iQ 42) (iSt 42) (iA K 42) fd) : IniOk P w K mg base 42 fd :=
  ⟨ini2 cf (by decide) rfl F ⟨rfl, rfl, rfl, by decide +kernel, rfl, by decide +kernel, by decide +kernel⟩ (fun _ _ _ _ _ _ => pss_cons (ps_ost (pv 0) (pv 1)) (pss_one (ps_ost (pv 0) (pv 2)))), F.binds (fun _ _ _ _ _ _ us hl => match us, hl with | [_, _, _], _ => rfl), kb_of F (fun _ _ _ _ _ _ _ ws hl => match ws, hl with | [_, _], _ => rfl)⟩
theorem io45 {fd : FuncData} (cf : CF K mg) (F : Fun K "__init__" (iQ 45) (iSt 45) (iA K 45) fd) : IniOk P w K mg base 45 fd :=
  ⟨ini3 cf (by decide) rfl F ⟨rfl, rfl, rfl, by decide +kernel, rfl, by decide +kernel, by decide +kernel⟩ (fun _ _ _ _ _ _ => pss_cons (ps_ost (pv 0) (pv 1)) (pss_cons (ps_ost (pv 0) (pv 2)) (pss_one (ps_ost (pv 0) (pv 3))))), F.binds (fun _ _ _ _ _ _ us hl => match us, hl with | [_, _, _, _], _ => rfl), kb_of F (fun _ _ _ _ _ _ _ ws hl => match ws, hl with | [_, _, _], _ => rfl)⟩
theorem io47 {fd : FuncData} (cf : CF K mg) (F : Fun K "__init__" (iQ 47) (iSt 47) (iA K 47) fd) : IniOk P w K mg base 47 fd :=
  ⟨ini1 cf (by decide) rfl F ⟨rfl, rfl, rfl, by decide +kernel, rfl, by decide +kernel, by decide +kernel⟩ (fun _ _ _ _ _ _ => pss_one (ps_ost (pv 0) (pv 1))), F.binds (fun _ _ _ _ _ _ us hl => match us, hl with | [_, _], _ => rfl), kb_of F (fun _ _ _ _ _ _ _ ws hl => match ws, hl with | [_], _ => rfl)⟩
theorem io48 {fd : FuncData} (cf : CF K mg) (F : Fun K "__init__" (iQ 48) (iSt 48) (iA K 48) fd) : IniOk P w K mg base 48 fd :=
  ⟨ini1 cf (by decide) rfl F ⟨rfl, rfl, rfl, by decide +kernel, rfl, by decide +kernel, by decide +kernel⟩ (fun _ _ _ _ _ _ => pss_one (ps_ost (pv 0) (pv 1))), F.binds (fun _ _ _ _ _ _ us hl => match us, hl with | [_, _], _ => rfl), kb_of F (fun _ _ _ _ _ _ _ ws hl => match ws, hl with | [_], _ => rfl)⟩
theorem io49 {fd : FuncData} (cf : CF K mg) (F : Fun K "__init__" (iQ 49) (iSt 49) (iA K 49) fd) : IniOk P w K mg base 49 fd :=
  ⟨ini1 cf (by decide) rfl F ⟨rfl, rfl, rfl, by decide +kernel, rfl, by decide +kernel, by decide +kernel⟩ (fun _ _ _ _ _ _ => pss_one (ps_ost (pv 0) (pv 1))), F.binds (fun _ _ _ _ _ _ us hl => match us, hl with | [_, _], _ => rfl), kb_of F (fun _ _ _ _ _ _ _ ws hl => match ws, hl with | [_], _ => rfl)⟩
theorem ini_all (cf : CF K mg) : ∀ k, k < 50 → fl k ≠ [] → ∃ fd, IniOk P w K mg base k fd := by
  intro k hk hf
  obtain ⟨fd, F⟩ := cf.fun_ k hk hf
  refine ⟨fd, ?_⟩
  by_cases h0 : k = 0
  · subst h0
    exact io0 cf F
  by_cases h1 : k = 1
  · subst h1
    exact io1 cf F
  by_cases h2 : k = 2
  · subst h2
    exact io2 cf F
  by_cases h3 : k = 3
  · subst h3
    exact io3 cf F
  by_cases h4 : k = 4
  · subst h4
    exact io4 cf F
  by_cases h5 : k = 5
  · subst h5
    exact io5 cf F
  by_cases h6 : k = 6
  · subst h6
    exact io6 cf F
  by_cases h7 : k = 7
  · subst h7
    exact io7 cf F
  by_cases h8 : k = 8
  · subst h8
    exact io8 cf F
  by_cases h9 : k = 9
  · subst h9
    exact io9 cf F
  by_cases h10 : k = 10
  · subst h10
    exact io10 cf F
  by_cases h11 : k = 11
  · subst h11
    exact io11 cf F
  by_cases h12 : k = 12
  · subst h12
    exact io12 cf F
  by_cases h13 : k = 13
  · subst h13
    exact io13 cf F
  by_cases h14 : k = 14
  · subst h14
    exact io14 cf F
  by_cases h15 : k = 15
  · subst h15
    exact io15 cf F
  by_cases h16 : k = 16
  · subst h16
    exact io16 cf F
  by_cases h17 : k = 17
  · subst h17
    exact io17 cf F
  by_cases h18 : k = 18
  · subst h18
    exact io18 cf F
  by_cases h19 : k = 19
  · subst h19
    exact io19 cf F
  by_cases h20 : k = 20
  · subst h20
    exact io20 cf F
  by_cases h21 : k = 21
  · subst h21
    exact io21 cf F
  by_cases h22 : k = 22
  · subst h22
    exact io22 cf F
  by_cases h23 : k = 23
  · subst h23
    exact io23 cf F
  by_cases h24 : k = 24
  · subst h24
    exact io24 cf F
  by_cases h25 : k = 25
  · subst h25
    exact io25 cf F
  by_cases h26 : k = 26
  · subst h26
    exact io26 cf F
  by_cases h27 : k = 27
  · subst h27
    exact io27 cf F
  by_cases h28 : k = 28
  · subst h28
    exact io28 cf F
  by_cases h29 : k = 29
  · subst h29
    exact io29 cf F
  by_cases h30 : k = 30
  · subst h30
    exact io30 cf F
  by_cases h31 : k = 31
  · subst h31
    exact io31 cf F
  by_cases h32 : k = 32
  · subst h32
    exact io32 cf F
  by_cases h33 : k = 33
  · subst h33
    exact io33 cf F
  by_cases h34 : k = 34
  · subst h34
    exact io34 cf F
  by_cases h35 : k = 35
  · subst h35
    exact io35 cf F
  by_cases h36 : k = 36
  · subst h36
    exact io36 cf F
  by_cases h37 : k = 37
  · subst h37
    exact io37 cf F
  by_cases h38 : k = 38
  · subst h38
    exact io38 cf F
  by_cases h39 : k = 39
  · subst h39
    exact absurd rfl hf
  by_cases h40 : k = 40
  · subst h40
    exact absurd rfl hf
  by_cases h41 : k = 41
  · subst h41
    exact io41 cf F
  by_cases h42 : k = 42
  · subst h42
    exact io42 cf F
  by_cases h43 : k = 43
  · subst h43
    exact absurd rfl hf
  by_cases h44 : k = 44
  · subst h44
    exact absurd rfl hf
  by_cases h45 : k = 45
  · subst h45
    exact io45 cf F
  by_cases h46 : k = 46
  · subst h46
    exact absurd rfl hf
  by_cases h47 : k = 47
  · subst h47
    exact io47 cf F
  by_cases h48 : k = 48
  · subst h48
    exact io48 cf F
  by_cases h49 : k = 49
  · subst h49
    exact io49 cf F
  exact absurd hk (by omega)
end
end K00
set_option Elab.async false
set_option maxRecDepth 100000
set_option maxHeartbeats 4000000
set_option linter.all false
/-! a row of made errors: (mine, twin, field, due) -/
namespace K00
open PySem PySem.Spec PyProof.Rows L2 XV LamV LamX
/-! ### a def whose code object is known -/
structure FunC (K : PySem.W.Frag) (x qual : Str) (st : Stmt) (f : Addr) (fd : FuncData) (c : Addr) : Prop where
  ex : ∃ (oc : Value) (od : Option Addr) (kV doc pm : Value) (an : Option Addr) (ct : Value) (osl : Array (Option Value)),
    fd = PySem.W.fnOf x qual (defArgs st) (defBody st) (defScope st) .none kV doc pm an (.ref c) ct ∧ K.lookup f = some ⟨oc, od, .func fd, osl⟩ ∧ PySem.W.codeIn K (.ref c) qual = true
  kp : PySem.W.keepIn K (.ref f) = true
theorem FunC.fun_ {K : PySem.W.Frag} {x qual : Str} {st : Stmt} {f : Addr} {fd : FuncData} {c : Addr} (F : FunC K x qual st f fd c) : Fun K x qual st f fd := by
  obtain ⟨oc, od, kV, doc, pm, an, ct, osl, h1, h2, h3⟩ := F.ex
  exact ⟨⟨oc, od, kV, doc, pm, an, .ref c, ct, osl, h1, h2, h3⟩, F.kp⟩
section
variable {P : Program} {w : World} {K : PySem.W.Frag} {mg : Str → Option Value} {base : Heap}
theorem FunC.ok {x qual : Str} {st : Stmt} {f : Addr} {fd : FuncData} {c : Addr} {N ps : List Str} {k : Nat} {sp : Sp} (F : FunC K x qual st f fd c) (S : FnScope N ps (defScope st)) (len : ∀ vs H Q E, sp vs H Q E → vs.length = ps.length)
    (hbody : ∀ (A : Around) (outer : List Env) (s : Shared) (H : Hp) (vs : List V) (Q : VK) (E : XK), Room k (A.deeper (envOfC qual (defScope st) s.heap.objs.size f (.ref c))) → sp vs H Q E →
      ∃ t, PSs (cxOf CX0 P w K mg base N qual (defScope st) f (.ref c) A outer s H E).nox (defBody st) t ∧ t { nx := fun _ H' => Q .non H', rt := Q } (start N vs) H) : FnOk P w K mg base CX0 (k + 1) f fd ps sp := by
  obtain ⟨oc, od, kV, doc, pm, an, ct, osl, rfl, lk, hcd⟩ := F.ex
  refine fn_of lk hcd S len fun A outer s H vs Q E hr hsp => ?_
  obtain ⟨t, h, q⟩ := hbody A outer s H vs Q E hr hsp
  exact ⟨t, h.nox, q⟩
end
/-! ### from word to word -/
def RS (X : Cx) (st : Stmt) (A B : L2.St → Hp → Prop) : Prop := ∃ t, PS X st t ∧ ∀ D σ H, A σ H → (∀ σ' H', B σ' H' → D.nx σ' H') → t D σ H
def RB (X : Cx) (body : List Stmt) (A : L2.St → Hp → Prop) (R : V → Hp → Prop) : Prop := ∃ t, PSs X body t ∧ ∀ D σ H, A σ H → (∀ v H', R v H' → D.rt v H') → t D σ H
section
variable {X : Cx} {st : Stmt} {rest : List Stmt} {A B : L2.St → Hp → Prop} {R : V → Hp → Prop}
theorem rb_cons (h1 : RS X st A B) (h2 : RB X rest B R) : RB X (st :: rest) A R := by
  obtain ⟨t, p, h⟩ := h1
  obtain ⟨u, q, g⟩ := h2
  exact ⟨tSeq t u, pss_cons p q, fun D σ H a r => h _ σ H a fun σ' H' b => g D σ' H' b r⟩
theorem rs_of {t : TS} (p : PS X st t) (h : ∀ D σ H, A σ H → (∀ σ' H', B σ' H' → D.nx σ' H') → t D σ H) : RS X st A B := ⟨t, p, h⟩
theorem rb_ret {e : Expr} {te : TE} {pos : Pos} (p : PE X e te) (h : ∀ σ H (Q : VK), A σ H → (∀ v H', R v H' → Q v H') → te σ H Q) : RB X [.Return (some e) pos] A R :=
  ⟨_, pss_one (ps_ret p), fun D σ H a r => h σ H D.rt a r⟩
end
/-! ### what stays -/
abbrev Ext (H H' : Hp) : Prop := ∀ b o, H b = some o → H' b = some o
def hid (F : Addr) (H : Hp) : Hp := fun b => if b = F then none else H b
theorem hid_ne {F b : Addr} {H : Hp} (h : b ≠ F) : hid F H b = H b := if_neg h
theorem hid_get {F b : Addr} {H : Hp} {o : HO} (h : hid F H b = some o) : H b = some o ∧ b ≠ F := by
  unfold hid at h
  by_cases e : b = F
  · rw [if_pos e] at h
    cases h
  · rw [if_neg e] at h
    exact ⟨h, e⟩
theorem hid_lt {F : Addr} {H : Hp} : Ext (hid F H) H := fun b o h => (hid_get h).1
theorem hid_mono {F : Addr} {H H' : Hp} (e : ExtN H H') : ExtN (hid F H) (hid F H') := fun b o h n => by
  obtain ⟨h1, h2⟩ := hid_get h
  rw [hid_ne h2]
  exact e b o h1 n
theorem exo_tbl {e C : Addr} {d : Option Addr} (ps : Array Value) : exo e C d ≠ .tbl ps := fun z => by
  have z' : HO.ext _ = HO.tbl ps := z
  cases z'
theorem exd_tbl {d : Addr} {fs : List (Str × V)} (ps : Array Value) : exd d fs ≠ .tbl ps := fun z => by
  have z' : HO.ext _ = HO.tbl ps := z
  cases z'
theorem lamO_tbl {f c' : Addr} {q : Str} {params : Arguments} {body : Expr} {scope : Scope} (ps : Array Value) : LamO f q params body scope c' ≠ .tbl ps := fun z => by
  have z' : HO.ext _ = HO.tbl ps := z
  cases z'
theorem ExV.keepN {H H' : Hp} {e C : Addr} {fs : List (Str × V)} (h : ExV H e C fs) (k : ExtN H H') : ExV H' e C fs := by
  obtain ⟨d, h1, h2⟩ := h
  exact ⟨d, k _ _ h1 exo_tbl, k _ _ h2 exd_tbl⟩
theorem ExA.keepN {H H' : Hp} {e C : Addr} (h : ExA H e C) (k : ExtN H H') : ExA H' e C := by
  obtain ⟨d, h1, h2⟩ := h
  refine ⟨d, k _ _ h1 exo_tbl, fun dx z => ?_⟩
  obtain ⟨fs, h3⟩ := h2 dx z
  exact ⟨fs, k _ _ h3 exd_tbl⟩
/-- e is an error of class k made of xs -/
structure FE (K : PySem.W.Frag) (k : Nat) (H : Hp) (e : Addr) (xs : List V) : Prop where
  a : ExA H e (cA K k)
  v : fl k ≠ [] → ExV H e (cA K k) ((fl k).zip xs).reverse
theorem FE.keepN {K : PySem.W.Frag} {k : Nat} {H H' : Hp} {e : Addr} {xs : List V} (h : FE K k H e xs) (x : ExtN H H') : FE K k H' e xs := ⟨ExA.keepN h.a x, fun n => ExV.keepN (h.v n) x⟩
/-- objects that are lists are left out -/
theorem FE.hid {K : PySem.W.Frag} {k : Nat} {H : Hp} {e F : Addr} {xs vs : List V} (h : FE K k H e xs) (hF : H F = some (.lst vs)) : FE K k (hid F H) e xs := by
  have nx : ∀ {b C : Addr} {d : Option Addr}, H b = some (exo b C d) → b ≠ F := fun {b C d} z q => by
    rw [q, hF] at z
    have z' : HO.lst vs = HO.ext _ := Option.some.inj z
    cases z'
  have nd : ∀ {b : Addr} {fs : List (Str × V)}, H b = some (exd b fs) → b ≠ F := fun {b fs} z q => by
    rw [q, hF] at z
    have z' : HO.lst vs = HO.ext _ := Option.some.inj z
    cases z'
  refine ⟨?_, fun n => ?_⟩
  · obtain ⟨d, h1, h2⟩ := h.a
    refine ⟨d, by rw [hid_ne (nx h1)]; exact h1, fun dx z => ?_⟩
    obtain ⟨fs, h3⟩ := h2 dx z
    exact ⟨fs, by rw [hid_ne (nd h3)]; exact h3⟩
  · obtain ⟨d, h1, h2⟩ := h.v n
    exact ⟨d, by rw [hid_ne (nx h1)]; exact h1, by rw [hid_ne (nd h2)]; exact h2⟩
/-! ### the lambdas -/
def spLamF (K : PySem.W.Frag) (k : Nat) : Sp := fun vs H Q _ => ∃ (e : Addr) (xs : List V), vs = [.ref e] ∧ FE K k H e xs ∧ xs.length = (fl k).length ∧ ∀ (l : Addr) (H' : Hp), H l = none → H' l = some (.lst xs) → Ext H H' → Q (.ref l) H'
def eAr (p : Pos) : Arguments := { posonlyargs := [], args := [{ arg := "e", annotation := none, pos := p }], vararg := none, kwonlyargs := [], kw_defaults := [], kwarg := none, defaults := [] }
def eSc : Scope := { kind := .function, names := [("e", .local)], isGenerator := false, isCoroutine := false, more := [] }
theorem eScope : FnScope ["e"] ["e"] eSc := ⟨rfl, rfl, rfl, by decide +kernel, rfl, by decide +kernel, by decide +kernel⟩
section
variable {P : Program} {w : World} {K : PySem.W.Frag} {mg : Str → Option Value} {base : Heap} {k : Nat} {q : Str} {p0 p1 p2 p3 p4 p5 p6 p7 : Pos}
theorem ext_new {H : Hp} {l : Addr} {o : HO} (h : H l = none) : Ext H (upd H l o) := fun b u e => by
  rw [upd_ne (ne_of_none e h)]
  exact e
theorem lam0 (hf : fl k = []) : LamOk P w K mg base 1 q (eAr p0) (.List [] p1) eSc ["e"] (spLamF K k) := by
  refine lam_of eScope (fun _ _ _ us hl => match us, hl with | [_], _ => rfl) (fun vs H Q E h => ?_) fun A outer s H f cd vs Q E hr h => ?_
  · obtain ⟨e, xs, rfl, _⟩ := h
    rfl
  · obtain ⟨e, xs, rfl, fe, hl, q⟩ := h
    rw [hf] at hl
    have hx : xs = [] := List.length_eq_zero_iff.mp hl
    subst hx
    exact ⟨_, pe_lst pa_nil, by show (0 : Nat) ≤ sizeLine; omega, fun l h0 => q l _ h0 upd_same (ext_new h0)⟩
theorem lam1 {n : Str} (cf : CF K mg) (hk : k < 50) (hf : fl k = [n]) : LamOk P w K mg base 1 q (eAr p0) (.List [.Attribute (.Name "e" p1) n p2] p3) eSc ["e"] (spLamF K k) := by
  refine lam_of eScope (fun _ _ _ us hl => match us, hl with | [_], _ => rfl) (fun vs H Q E h => ?_) fun A outer s H f cd vs Q E hr h => ?_
  · obtain ⟨e, xs, rfl, _⟩ := h
    rfl
  · obtain ⟨e, xs, rfl, fe, hl, q⟩ := h
    rw [hf] at hl
    match xs, hl with
    | [x], _ =>
      have fv := fe.v (by rw [hf]; exact List.cons_ne_nil _ _)
      rw [hf] at fv
      refine ⟨_, pe_lst (pa_cons (pe_xfd (pv 0)) pa_nil), .ref e, rfl, e, cA K k, [(n, x)], x, rfl, cf.xf k (by omega), cf.non k hk n (by rw [hf]; exact List.mem_cons_self), fv, by simp [List.lookup], by show (1 : Nat) ≤ sizeLine; decide, fun l h0 => q l _ h0 upd_same (ext_new h0)⟩
theorem lam2 (cf : CF K mg) (hk : k < 50) (hf : fl k = [("first" : Str), ("second" : Str)]) : LamOk P w K mg base 1 q (eAr p0) (.List [.Attribute (.Name "e" p1) "first" p2, .Attribute (.Name "e" p3) "second" p4] p5) eSc ["e"] (spLamF K k) := by
  refine lam_of eScope (fun _ _ _ us hl => match us, hl with | [_], _ => rfl) (fun vs H Q E h => ?_) fun A outer s H f cd vs Q E hr h => ?_
  · obtain ⟨e, xs, rfl, _⟩ := h
    rfl
  · obtain ⟨e, xs, rfl, fe, hl, q⟩ := h
    rw [hf] at hl
    match xs, hl with
    | [x, y], _ =>
      have fv := fe.v (by rw [hf]; exact List.cons_ne_nil _ _)
      rw [hf] at fv
      refine ⟨_, pe_lst (pa_cons (pe_xfd (pv 0)) (pa_cons (pe_xfd (pv 0)) pa_nil)), .ref e, rfl, e, cA K k, [("second", y), ("first", x)], x, rfl, cf.xf k (by omega), cf.non k hk "first" (by rw [hf]; exact List.mem_cons_self), fv, rfl, ?_⟩
      exact ⟨.ref e, rfl, e, cA K k, [("second", y), ("first", x)], y, rfl, cf.xf k (by omega), cf.non k hk "second" (by rw [hf]; exact List.mem_cons_of_mem _ List.mem_cons_self), fv, rfl, by show (2 : Nat) ≤ sizeLine; decide, fun l h0 => q l _ h0 upd_same (ext_new h0)⟩
theorem lam3 (cf : CF K mg) (hk : k < 50) (hf : fl k = [("first" : Str), ("second" : Str), ("third" : Str)]) : LamOk P w K mg base 1 q (eAr p0) (.List [.Attribute (.Name "e" p1) "first" p2, .Attribute (.Name "e" p3) "second" p4, .Attribute (.Name "e" p5) "third" p6] p7) eSc ["e"] (spLamF K k) := by
  refine lam_of eScope (fun _ _ _ us hl => match us, hl with | [_], _ => rfl) (fun vs H Q E h => ?_) fun A outer s H f cd vs Q E hr h => ?_
  · obtain ⟨e, xs, rfl, _⟩ := h
    rfl
  · obtain ⟨e, xs, rfl, fe, hl, q⟩ := h
    rw [hf] at hl
    match xs, hl with
    | [x, y, z], _ =>
      have fv := fe.v (by rw [hf]; exact List.cons_ne_nil _ _)
      rw [hf] at fv
      refine ⟨_, pe_lst (pa_cons (pe_xfd (pv 0)) (pa_cons (pe_xfd (pv 0)) (pa_cons (pe_xfd (pv 0)) pa_nil))), .ref e, rfl, e, cA K k, [("third", z), ("second", y), ("first", x)], x, rfl, cf.xf k (by omega), cf.non k hk "first" (by rw [hf]; exact List.mem_cons_self), fv, rfl, ?_⟩
      refine ⟨.ref e, rfl, e, cA K k, [("third", z), ("second", y), ("first", x)], y, rfl, cf.xf k (by omega), cf.non k hk "second" (by rw [hf]; exact List.mem_cons_of_mem _ List.mem_cons_self), fv, rfl, ?_⟩
      exact ⟨.ref e, rfl, e, cA K k, [("third", z), ("second", y), ("first", x)], z, rfl, cf.xf k (by omega), cf.non k hk "third" (by rw [hf]; exact List.mem_cons_of_mem _ (List.mem_cons_of_mem _ List.mem_cons_self)), fv, rfl, by show (3 : Nat) ≤ sizeLine; decide, fun l h0 => q l _ h0 upd_same (ext_new h0)⟩
end
/-! ### rows -/
/-- v is the row of class k, made of xs -/
structure RowV (P : Program) (w : World) (K : PySem.W.Frag) (mg : Str → Option Value) (base : Heap) (H : Hp) (k : Nat) (xs : List V) (v : V) : Prop where
  at_ : ∃ (t e1 e2 fn c' due : Addr) (q : Str) (pa : Arguments) (bo : Expr) (sc : Scope), v = .ref t ∧ H t = some (.tup [.ref e1, .ref e2, .ref fn, .ref due]) ∧ FE K k H e1 xs ∧ FE K k H e2 xs ∧ H fn = some (LamO fn q pa bo sc c') ∧ H c' = some (CodeO c' q) ∧
    LamOk P w K mg base 1 q pa bo sc ["e"] (spLamF K k) ∧ H due = some (.lst xs)
theorem RowV.keepN {P : Program} {w : World} {K : PySem.W.Frag} {mg : Str → Option Value} {base : Heap} {H H' : Hp} {k : Nat} {xs : List V} {v : V} (h : RowV P w K mg base H k xs v) (x : ExtN H H') : RowV P w K mg base H' k xs v := by
  obtain ⟨t, e1, e2, fn, c', due, q, pa, bo, sc, h0, h1, h2, h3, h4, h5, h6, h7⟩ := h.at_
  exact ⟨t, e1, e2, fn, c', due, q, pa, bo, sc, h0, x _ _ h1 (fun _ z => nomatch z), h2.keepN x, h3.keepN x, x _ _ h4 lamO_tbl, x _ _ h5 codeO_ne, h6, x _ _ h7 (fun _ z => nomatch z)⟩
/-- an expression that tells an error of class k made of xs -/
def Mk (K : PySem.W.Frag) (k : Nat) (xs : List V) (te : TE) (σ : L2.St) (H0 : Hp) : Prop := ∀ H, ExtN H0 H → ∀ Q : VK, (∀ e H', Ext H H' → FE K k H' e xs → Q (.ref e) H') → te σ H Q
/-- so many values of x, y, z -/
def due (vx vy vz : V) (k : Nat) : List V := [vx, vy, vz].take (fl k).length
/-- ahead of the i-th row of classes lo, lo + 1, ..: F the list found -/
structure MI (P : Program) (w : World) (K : PySem.W.Frag) (mg : Str → Option Value) (base : Heap) (T : List (Addr × Str)) (H0 : Hp) (F : Addr) (vx vy vz : V) (lo i : Nat) (σ : L2.St) (H : Hp) : Prop where
  s0 : σ[0]? = some (some vx)
  s1 : σ[1]? = some (some vy)
  s2 : σ[2]? = some (some vz)
  s3 : σ[3]? = some (some (.ref F))
  sl : lo = 36 → 4 < σ.length
  rows : ∃ vs : List V, H F = some (.lst vs) ∧ vs.length = i ∧ ∀ j v, vs[j]? = some v → RowV P w K mg base (hid F H) (lo + j) (due vx vy vz (lo + j)) v
  tb : Tabs T H
  ext : ExtN H0 (hid F H)
def rowT (K : PySem.W.Frag) (T : List (Addr × Str)) (q : Str) (pa : Arguments) (bo : Expr) (sc : Scope) (t1 t2 : TE) (tl : TA) : TS :=
  tDrop (tBM K "list" rAppend (tVar 3) (tCons (tTup (tCons t1 (tCons t2 (tCons (tLamV T q pa bo sc) (tCons (tLst tl) tNil))))) tNil))
section
variable {P : Program} {w : World} {K : PySem.W.Frag} {mg : Str → Option Value} {base : Heap} {X : Cx} {st : Stmt} {T : List (Addr × Str)} {q : Str} {pa : Arguments} {bo : Expr} {sc : Scope} {t1 t2 : TE} {tl : TA} {H0 : Hp} {F : Addr} {vx vy vz : V} {lo i : Nat}
theorem row_of {A : L2.St → Hp → Prop} (hi : i < 60) (p : PS X st (rowT K T q pa bo sc t1 t2 tl)) (hA : ∀ σ H, A σ H → ∃ F, MI P w K mg base T H0 F vx vy vz lo i σ H) (m1 : ∀ σ H, A σ H → Mk K (lo + i) (due vx vy vz (lo + i)) t1 σ H) (m2 : ∀ σ H, A σ H → Mk K (lo + i) (due vx vy vz (lo + i)) t2 σ H)
    (L : LamOk P w K mg base 1 q pa bo sc ["e"] (spLamF K (lo + i))) (hl : ∀ σ H F, MI P w K mg base T H0 F vx vy vz lo i σ H → ∀ H' Q, Q (due vx vy vz (lo + i)) H' → tl σ H' Q) (hf : (fl (lo + i)).length ≤ 3) :
    RS X st A (fun σ H => ∃ F, MI P w K mg base T H0 F vx vy vz lo (i + 1) σ H) := by
  refine rs_of p fun D σ H a k => ?_
  obtain ⟨F, M⟩ := hA σ H a
  obtain ⟨vs, hF, hlen, hr⟩ := M.rows
  have tbF : ∀ ps, HO.lst vs ≠ .tbl ps := fun _ z => nomatch z
  have dl : (due vx vy vz (lo + i)).length ≤ 3 := by
    unfold due
    rw [List.length_take]
    exact Nat.le_trans (Nat.min_le_right _ _) (Nat.le_refl _)
  refine ⟨.ref F, M.s3, Or.inl ⟨rfl, vs, SqL.of hF⟩, ?_⟩
  refine m1 σ H a H (ExtN.refl H) _ fun e1 H1 x1 f1 => m2 σ H a H1 (ExtN.of x1) _ fun e2 H2 x2 f2 => ⟨?_, fun fn c' H3 x3 n3 t3 f0 f3 c3 => ?_⟩
  · exact (M.tb.ext x1).ext x2
  · refine hl σ H F M _ _ ⟨Nat.le_trans dl (by decide), fun du hd => ⟨by show 4 ≤ sizeLine; decide, fun t ht => ?_⟩⟩
    have x3' : ExtN H H3 := ((ExtN.of x1).trans (ExtN.of x2)).trans x3
    have hF3 : H3 F = some (.lst vs) := x3' _ _ hF tbF
    have nFd : F ≠ du := ne_of_none hF3 hd
    have x4 : Ext H3 (upd H3 du (.lst (due vx vy vz (lo + i)))) := ext_new hd
    have x5 : Ext (upd H3 du (.lst (due vx vy vz (lo + i)))) (upd (upd H3 du (.lst (due vx vy vz (lo + i)))) t (.tup [.ref e1, .ref e2, .ref fn, .ref du])) := ext_new ht
    have hF5 := x5 _ _ (x4 _ _ hF3)
    refine ⟨F, vs, .ref t, rfl, rfl, hF5, ?_, ?_⟩
    · rw [hlen, sizeLine_eq]
      omega
    · refine k σ _ ⟨F, M.s0, M.s1, M.s2, M.s3, M.sl, ⟨_, upd_same, by rw [List.length_append, hlen]; rfl, fun j v hj => ?_⟩, ?_, ?_⟩
      · have hh : hid F (upd (upd (upd H3 du (.lst (due vx vy vz (lo + i)))) t (.tup [.ref e1, .ref e2, .ref fn, .ref du])) F (.lst (vs ++ [.ref t]))) = hid F (upd (upd H3 du (.lst (due vx vy vz (lo + i)))) t (.tup [.ref e1, .ref e2, .ref fn, .ref du])) := by
          funext b
          unfold hid
          by_cases e : b = F
          · rw [if_pos e, if_pos e]
          · rw [if_neg e, if_neg e, upd_ne e]
        rw [hh]
        have xx : ExtN H (upd (upd H3 du (.lst (due vx vy vz (lo + i)))) t (.tup [.ref e1, .ref e2, .ref fn, .ref du])) := (x3'.trans (ExtN.of x4)).trans (ExtN.of x5)
        by_cases hji : j < vs.length
        · rw [List.getElem?_append_left hji] at hj
          exact (hr j v hj).keepN (hid_mono xx)
        · have hjl : j = vs.length := by
            have := (List.getElem?_eq_some_iff.mp hj).1
            rw [List.length_append, List.length_singleton] at this
            omega
          subst hjl
          rw [List.getElem?_append_right (Nat.le_refl _), Nat.sub_self] at hj
          have ev : v = .ref t := (Option.some.inj hj).symm
          subst ev
          rw [hlen]
          have nt : t ≠ F := fun z => by
            rw [z, x4 _ _ hF3] at ht
            cases ht
          have nf : fn ≠ F := fun z => by
            rw [z, hF3] at f3
            have z' : HO.lst vs = HO.ext _ := Option.some.inj f3
            cases z'
          have nc : c' ≠ F := fun z => by
            rw [z, hF3] at c3
            have z' : HO.lst vs = HO.ext _ := Option.some.inj c3
            cases z'
          have y1 : ExtN H1 (upd (upd H3 du (.lst (due vx vy vz (lo + i)))) t (.tup [.ref e1, .ref e2, .ref fn, .ref du])) := (((ExtN.of x2).trans x3).trans (ExtN.of x4)).trans (ExtN.of x5)
          have y2 : ExtN H2 (upd (upd H3 du (.lst (due vx vy vz (lo + i)))) t (.tup [.ref e1, .ref e2, .ref fn, .ref du])) := (x3.trans (ExtN.of x4)).trans (ExtN.of x5)
          exact ⟨t, e1, e2, fn, c', du, q, pa, bo, sc, rfl, by rw [hid_ne nt]; exact upd_same, (f1.keepN y1).hid hF5, (f2.keepN y2).hid hF5, by rw [hid_ne nf]; exact x5 _ _ (x4 _ _ f3), by rw [hid_ne nc]; exact x5 _ _ (x4 _ _ c3), L, by rw [hid_ne (Ne.symm nFd)]; exact x5 _ _ upd_same⟩
      · intro p hp
        obtain ⟨ps, a1, a2, a3⟩ := (t3.ext x4).ext x5 p hp
        have np : p.1 ≠ F := fun z => by
          rw [z, hF5] at a1
          cases a1
        refine ⟨ps, by rw [upd_ne np]; exact a1, a2, fun pos cv hc => ?_⟩
        obtain ⟨c0, b1, b2⟩ := a3 pos cv hc
        refine ⟨c0, b1, ?_⟩
        rw [upd_ne fun z => ?_]
        · exact b2
        · rw [z, hF5] at b2
          have z' : HO.lst vs = HO.ext _ := Option.some.inj b2
          cases z'
      · have hh : hid F (upd (upd (upd H3 du (.lst (due vx vy vz (lo + i)))) t (.tup [.ref e1, .ref e2, .ref fn, .ref du])) F (.lst (vs ++ [.ref t]))) = hid F (upd (upd H3 du (.lst (due vx vy vz (lo + i)))) t (.tup [.ref e1, .ref e2, .ref fn, .ref du])) := by
          funext b
          unfold hid
          by_cases e : b = F
          · rw [if_pos e, if_pos e]
          · rw [if_neg e, if_neg e, upd_ne e]
        rw [hh]
        exact M.ext.trans (hid_mono ((x3'.trans (ExtN.of x4)).trans (ExtN.of x5)))
end
end K00
set_option Elab.async false
set_option maxRecDepth 100000
set_option maxHeartbeats 4000000
set_option linter.all false
/-! the three defs that make errors (printed by gen_made.py) -/
namespace K00
open PySem PySem.Spec PyProof.Rows L2 XV LamV LamX
section
variable {K : PySem.W.Frag} {k : Nat} {σ : L2.St} {H0 : Hp} {xs : List V}
theorem mk_exn {ta : TA} (hx : xs.length = (fl k).length) (hl : xs.length ≤ 1000) (ha : ∀ H (Q : List V → Hp → Prop), Q xs H → ta σ H Q) : Mk K k xs (tExn (cA K k) (spInit K (cA K k) (fl k)) E0 ta) σ H0 := fun H x Q q => by
  refine ha _ _ ⟨hl, fun a h0 => ⟨a, xs, rfl, hx, upd_same, fun d H' hd h1 h2 h3 => ⟨rfl, ?_⟩⟩⟩
  have v : ExV H' a (cA K k) ((fl k).zip xs).reverse := ⟨d, h1, h2⟩
  exact q a H' (fun b o hb => h3 b o (by rw [upd_ne (ne_of_none hb h0)]; exact hb) (ne_of_none hb h0)) ⟨v.any, fun _ => v⟩
theorem mk_exnK {tk : TA} (hx : xs.length = (fl k).length) (hk : ∀ H (Q : List V → Hp → Prop), Q xs.reverse H → tk σ H Q) : Mk K k xs (tExnK (cA K k) (spInit K (cA K k) (fl k)) gR E0 tk) σ H0 := fun H x Q q => by
  refine hk _ _ fun a h0 => ?_
  refine ⟨a, xs, by show V.ref a :: xs.reverse.reverse = _; rw [List.reverse_reverse], hx, upd_same, fun d H' hd h1 h2 h3 => ⟨rfl, ?_⟩⟩
  have v : ExV H' a (cA K k) ((fl k).zip xs).reverse := ⟨d, h1, h2⟩
  exact q a H' (fun b o hb => h3 b o (by rw [upd_ne (ne_of_none hb h0)]; exact hb) (ne_of_none hb h0)) ⟨v.any, fun _ => v⟩
theorem mk_exn0 (hf : fl k = []) : Mk K k xs (fun _ H Q => ∀ a, H a = none → Q (.ref a) (upd H a (exo a (cA K k) none))) σ H0 := fun H x Q q a h0 =>
  q a _ (ext_new h0) ⟨⟨none, upd_same, fun dx z => nomatch z⟩, fun n => absurd hf n⟩
theorem ta1 {vx : V} (h : σ[0]? = some (some vx)) : ∀ H (Q : List V → Hp → Prop), Q [vx] H → tCons (tVar 0) tNil σ H Q := fun H Q q => ⟨vx, h, q⟩
end
section
variable {X : Cx} {k : Nat} {fd : FuncData} {p pos : Pos} {e : Expr} {es : List Expr} {kws : List Keyword} {ta tk : TA}
theorem p_exn {x : Str} (cf : CF X.K X.mg) (hk : k < 50) (hf : fl k ≠ []) (I : IniOk X.prog X.w X.K X.mg X.base k fd) (hr : Room 2 X.A) (hx : x = cn k) (hg : Gl X x) (ha : PA X (e :: es) ta)
    (hdb : (x == ("__debug__" : Str)) = false := by decide) (he : starEach (e :: es) X.env = (false, eval e X.env) :: starEach es X.env := by rfl) (hpl : (backTo pos (starEach es X.env)).any (·.1) = false := by rfl) :
    PE X (.Call (.Name x p) (e :: es) [] pos) (tExn (cA X.K k) (spInit X.K (cA X.K k) (fl k)) E0 ta) :=
  pe_exn (cf.ini k hk hf) I.ok hr I.bn pass0 hg (by rw [hx]; exact cf.mg k (by omega)) ha hdb he hpl
theorem p_exnK {x : Str} (cf : CF X.K X.mg) (hk : k < 50) (hf : fl k ≠ []) (I : IniOk X.prog X.w X.K X.mg X.base k fd) (hr : Room 2 X.A) (hx : x = cn k) (hg : Gl X x) (hkw : PK X kws tk)
    (hall : (backToKw pos (keywordEach kws X.env)).all (·.1.isSome) = true := by rfl) (hks : (backToKw pos (keywordEach kws X.env)).filterMap (·.1) = (fl k).reverse := by rfl) (hdb : (x == ("__debug__" : Str)) = false := by decide)
    (hpl : ((backTo pos (starEach [] X.env)).any (·.1) || (backToKw pos (keywordEach kws X.env)).any (·.1.isNone)) = false := by rfl) :
    PE X (.Call (.Name x p) [] kws pos) (tExnK (cA X.K k) (spInit X.K (cA X.K k) (fl k)) gR E0 tk) :=
  pe_exnK (cf.ini k hk hf) I.ok hr I.kb pass0 hg (by rw [hx]; exact cf.mg k (by omega)) hkw hall hks hdb hpl
theorem p_exn0 {x : Str} (cf : CF X.K X.mg) (hk : k < 51) (hf : fl k = []) (hx : x = cn k) (hg : Gl X x) (hdb : (x == ("__debug__" : Str)) = false := by decide) :
    PE X (.Call (.Name x p) [] [] pos) (fun _ H Q => ∀ a, H a = none → Q (.ref a) (upd H a (exo a (cA X.K k) none))) :=
  pe_exn0 (cf.ex0 k hk hf).1 (cf.ex0 k hk hf).2 hg (by rw [hx]; exact cf.mg k hk) hdb
end
/-- n rows of classes lo, lo + 1, .. -/
def Made (P : Program) (w : World) (K : PySem.W.Frag) (mg : Str → Option Value) (base : Heap) (lo n : Nat) (vx vy vz : V) (H : Hp) (vs : List V) : Prop := vs.length = n ∧ ∀ j v, vs[j]? = some v → RowV P w K mg base H (lo + j) (due vx vy vz (lo + j)) v
theorem Made.keepN {P : Program} {w : World} {K : PySem.W.Frag} {mg : Str → Option Value} {base : Heap} {lo n : Nat} {vx vy vz : V} {H H' : Hp} {vs : List V} (m : Made P w K mg base lo n vx vy vz H vs) (x : ExtN H H') : Made P w K mg base lo n vx vy vz H' vs :=
  ⟨m.1, fun j v h => (m.2 j v h).keepN x⟩
def spMade (P : Program) (w : World) (K : PySem.W.Frag) (mg : Str → Option Value) (base : Heap) (T : List (Addr × Str)) (lo n : Nat) : Sp := fun vs H Q _ => ∃ vx vy vz : V, vs = [vx, vy, vz] ∧ Tabs T H ∧
  ∀ (F : Addr) (ws : List V) (H' : Hp), ExtN H H' → Tabs T H' → H' F = some (.lst ws) → Made P w K mg base lo n vx vy vz H' ws → Q (.ref F) H'
section
variable {P : Program} {w : World} {K : PySem.W.Frag} {mg : Str → Option Value} {base : Heap} {T : List (Addr × Str)} {H0 : Hp} {F : Addr} {vx vy vz : V} {lo i n : Nat} {σ : L2.St} {H : Hp}
theorem mi_start {N : List Str} (h0 : (start N [vx, vy, vz])[0]? = some (some vx)) (h1 : (start N [vx, vy, vz])[1]? = some (some vy)) (h2 : (start N [vx, vy, vz])[2]? = some (some vz)) (hN : 3 < (start N [vx, vy, vz]).length) (hM : lo = 36 → 4 < (start N [vx, vy, vz]).length) (tb : Tabs T H) (hF : H F = none) :
    MI P w K mg base T H F vx vy vz lo 0 ((start N [vx, vy, vz]).set 3 (some (.ref F))) (upd H F (.lst [])) := by
  refine ⟨by rw [List.getElem?_set_ne (by decide)]; exact h0, by rw [List.getElem?_set_ne (by decide)]; exact h1, by rw [List.getElem?_set_ne (by decide)]; exact h2, by rw [List.getElem?_set_self hN], fun z => by rw [List.length_set]; exact hM z, ⟨[], upd_same, rfl, fun j v h => by simp at h⟩, tb.ext (ext_new hF), fun b o e _ => ?_⟩
  have n := ne_of_none e hF
  rw [hid_ne n, upd_ne n]
  exact e
theorem mi_end (M : MI P w K mg base T H0 F vx vy vz lo n σ H) : ∃ ws, H F = some (.lst ws) ∧ Made P w K mg base lo n vx vy vz H ws ∧ ExtN H0 H := by
  obtain ⟨vs, h1, h2, h3⟩ := M.rows
  exact ⟨vs, h1, ⟨h2, fun j v h => (h3 j v h).keepN (ExtN.of hid_lt)⟩, M.ext.trans (ExtN.of hid_lt)⟩
theorem mi_named {H' : Hp} {e : Addr} {xs : List V} (hlo : lo = 36) (M : MI P w K mg base T H0 F vx vy vz lo n σ H) (x : Ext H H') (fe : FE K 45 H' e xs) :
    MI P w K mg base T H0 F vx vy vz lo n (σ.set 4 (some (.ref e))) H' ∧ ∃ e', (σ.set 4 (some (.ref e)))[4]? = some (some (.ref e')) ∧ FE K 45 H' e' xs := by
  obtain ⟨vs, h1, h2, h3⟩ := M.rows
  refine ⟨⟨by rw [List.getElem?_set_ne (by decide)]; exact M.s0, by rw [List.getElem?_set_ne (by decide)]; exact M.s1, by rw [List.getElem?_set_ne (by decide)]; exact M.s2, by rw [List.getElem?_set_ne (by decide)]; exact M.s3, fun z => by rw [List.length_set]; exact M.sl z, ⟨vs, x _ _ h1, h2, fun j v h => (h3 j v h).keepN (hid_mono (ExtN.of x))⟩, M.tb.ext x, M.ext.trans (hid_mono (ExtN.of x))⟩, e, by rw [List.getElem?_set_self (M.sl hlo)], fe⟩
end
abbrev sMade_a : Stmt := top 56
theorem scMade_a : FnScope ["x", "y", "z", "found"] ["x", "y", "z"] (defScope sMade_a) := ⟨rfl, rfl, rfl, by decide +kernel, rfl, by decide +kernel, by decide +kernel⟩
section
variable {P : Program} {w : World} {K : PySem.W.Frag} {mg : Str → Option Value} {base : Heap} {T : List (Addr × Str)}
theorem ok_made_a {f c tp : Addr} {fd : FuncData} (F : FunC K "_law_made_a" "_law_made_a" sMade_a f fd c) (cf : CF K mg) (TB : TabB base mg c tp) (hm : (tp, ("_law_made_a" : Str) ++ ".<locals>." ++ "<lambda>") ∈ T) (hu : ∀ p ∈ T, p.1 = tp → p.2 = ("_law_made_a" : Str) ++ ".<locals>." ++ "<lambda>") :
    FnOk P w K mg base CX0 3 f fd ["x", "y", "z"] (spMade P w K mg base T 0 18) := by
  refine F.ok scMade_a (fun vs H Q E h => ?_) (fun A outer s H vs Q E hr h => ?_)
  · obtain ⟨vx, vy, vz, rfl, _⟩ := h
    rfl
  · obtain ⟨vx, vy, vz, rfl, tb, q⟩ := h
    obtain ⟨fd0, I0⟩ := ini_all (P := P) (w := w) (base := base) cf 0 (by decide) (List.cons_ne_nil _ _)
    obtain ⟨fd1, I1⟩ := ini_all (P := P) (w := w) (base := base) cf 1 (by decide) (List.cons_ne_nil _ _)
    obtain ⟨fd2, I2⟩ := ini_all (P := P) (w := w) (base := base) cf 2 (by decide) (List.cons_ne_nil _ _)
    obtain ⟨fd3, I3⟩ := ini_all (P := P) (w := w) (base := base) cf 3 (by decide) (List.cons_ne_nil _ _)
    obtain ⟨fd4, I4⟩ := ini_all (P := P) (w := w) (base := base) cf 4 (by decide) (List.cons_ne_nil _ _)
    obtain ⟨fd5, I5⟩ := ini_all (P := P) (w := w) (base := base) cf 5 (by decide) (List.cons_ne_nil _ _)
    obtain ⟨fd6, I6⟩ := ini_all (P := P) (w := w) (base := base) cf 6 (by decide) (List.cons_ne_nil _ _)
    obtain ⟨fd7, I7⟩ := ini_all (P := P) (w := w) (base := base) cf 7 (by decide) (List.cons_ne_nil _ _)
    obtain ⟨fd8, I8⟩ := ini_all (P := P) (w := w) (base := base) cf 8 (by decide) (List.cons_ne_nil _ _)
    obtain ⟨fd9, I9⟩ := ini_all (P := P) (w := w) (base := base) cf 9 (by decide) (List.cons_ne_nil _ _)
    obtain ⟨fd10, I10⟩ := ini_all (P := P) (w := w) (base := base) cf 10 (by decide) (List.cons_ne_nil _ _)
    obtain ⟨fd11, I11⟩ := ini_all (P := P) (w := w) (base := base) cf 11 (by decide) (List.cons_ne_nil _ _)
    obtain ⟨fd12, I12⟩ := ini_all (P := P) (w := w) (base := base) cf 12 (by decide) (List.cons_ne_nil _ _)
    obtain ⟨fd13, I13⟩ := ini_all (P := P) (w := w) (base := base) cf 13 (by decide) (List.cons_ne_nil _ _)
    obtain ⟨fd14, I14⟩ := ini_all (P := P) (w := w) (base := base) cf 14 (by decide) (List.cons_ne_nil _ _)
    obtain ⟨fd15, I15⟩ := ini_all (P := P) (w := w) (base := base) cf 15 (by decide) (List.cons_ne_nil _ _)
    obtain ⟨fd16, I16⟩ := ini_all (P := P) (w := w) (base := base) cf 16 (by decide) (List.cons_ne_nil _ _)
    obtain ⟨fd17, I17⟩ := ini_all (P := P) (w := w) (base := base) cf 17 (by decide) (List.cons_ne_nil _ _)
    have body : RB (cxOf CX0 P w K mg base ["x", "y", "z", "found"] "_law_made_a" (defScope sMade_a) f (.ref c) A outer s H E).nox ((defBody sMade_a).drop 1) (fun σ H' => ∃ F0, MI P w K mg base T H F0 vx vy vz 0 0 σ H') (fun v H' => ∃ F0 ws, v = .ref F0 ∧ Tabs T H' ∧ H' F0 = some (.lst ws) ∧ Made P w K mg base 0 18 vx vy vz H' ws ∧ ExtN H H') :=
      (rb_cons (row_of (P := P) (w := w) (mg := mg) (base := base) (T := T) (H0 := H) (vx := vx) (vy := vy) (vz := vz) (lo := 0) (i := 0) (by decide) (ps_expr (pe_bm PySem.F.plainAttrs_list PySem.F.slot_list_append PySem.F.type_list_append mt_append (pv 3) (pa_cons (pe_tup (pa_cons (p_exn (k := 0) cf (by decide) (List.cons_ne_nil _ _) I0 hr rfl rfl (pa_cons (pv 0) pa_nil)) (pa_cons (p_exnK (k := 0) cf (by decide) (List.cons_ne_nil _ _) I0 hr rfl rfl (pk_cons (pv 0) pk_nil)) (pa_cons (pe_lamV TB rfl hm hu) (pa_cons (pe_lst (pa_cons (pv 0) pa_nil)) pa_nil))))) pa_nil)))
        (fun σ H M => M) (fun σ H ⟨F0, M⟩ => mk_exn (k := 0) rfl (by show 1 ≤ 1000; decide) (fun H' Q q => ⟨_, M.s0, q⟩)) (fun σ H ⟨F0, M⟩ => mk_exnK (k := 0) rfl (fun H' Q q => ⟨_, M.s0, q⟩)) (lam1 cf (by decide) rfl) (fun σ H F0 M H' Q q => ⟨_, M.s0, q⟩) (by decide))
      (rb_cons (row_of (P := P) (w := w) (mg := mg) (base := base) (T := T) (H0 := H) (vx := vx) (vy := vy) (vz := vz) (lo := 0) (i := 1) (by decide) (ps_expr (pe_bm PySem.F.plainAttrs_list PySem.F.slot_list_append PySem.F.type_list_append mt_append (pv 3) (pa_cons (pe_tup (pa_cons (p_exn (k := 1) cf (by decide) (List.cons_ne_nil _ _) I1 hr rfl rfl (pa_cons (pv 0) pa_nil)) (pa_cons (p_exnK (k := 1) cf (by decide) (List.cons_ne_nil _ _) I1 hr rfl rfl (pk_cons (pv 0) pk_nil)) (pa_cons (pe_lamV TB rfl hm hu) (pa_cons (pe_lst (pa_cons (pv 0) pa_nil)) pa_nil))))) pa_nil)))
        (fun σ H M => M) (fun σ H ⟨F0, M⟩ => mk_exn (k := 1) rfl (by show 1 ≤ 1000; decide) (fun H' Q q => ⟨_, M.s0, q⟩)) (fun σ H ⟨F0, M⟩ => mk_exnK (k := 1) rfl (fun H' Q q => ⟨_, M.s0, q⟩)) (lam1 cf (by decide) rfl) (fun σ H F0 M H' Q q => ⟨_, M.s0, q⟩) (by decide))
      (rb_cons (row_of (P := P) (w := w) (mg := mg) (base := base) (T := T) (H0 := H) (vx := vx) (vy := vy) (vz := vz) (lo := 0) (i := 2) (by decide) (ps_expr (pe_bm PySem.F.plainAttrs_list PySem.F.slot_list_append PySem.F.type_list_append mt_append (pv 3) (pa_cons (pe_tup (pa_cons (p_exn (k := 2) cf (by decide) (List.cons_ne_nil _ _) I2 hr rfl rfl (pa_cons (pv 0) pa_nil)) (pa_cons (p_exnK (k := 2) cf (by decide) (List.cons_ne_nil _ _) I2 hr rfl rfl (pk_cons (pv 0) pk_nil)) (pa_cons (pe_lamV TB rfl hm hu) (pa_cons (pe_lst (pa_cons (pv 0) pa_nil)) pa_nil))))) pa_nil)))
        (fun σ H M => M) (fun σ H ⟨F0, M⟩ => mk_exn (k := 2) rfl (by show 1 ≤ 1000; decide) (fun H' Q q => ⟨_, M.s0, q⟩)) (fun σ H ⟨F0, M⟩ => mk_exnK (k := 2) rfl (fun H' Q q => ⟨_, M.s0, q⟩)) (lam1 cf (by decide) rfl) (fun σ H F0 M H' Q q => ⟨_, M.s0, q⟩) (by decide))
      (rb_cons (row_of (P := P) (w := w) (mg := mg) (base := base) (T := T) (H0 := H) (vx := vx) (vy := vy) (vz := vz) (lo := 0) (i := 3) (by decide) (ps_expr (pe_bm PySem.F.plainAttrs_list PySem.F.slot_list_append PySem.F.type_list_append mt_append (pv 3) (pa_cons (pe_tup (pa_cons (p_exn (k := 3) cf (by decide) (List.cons_ne_nil _ _) I3 hr rfl rfl (pa_cons (pv 0) pa_nil)) (pa_cons (p_exnK (k := 3) cf (by decide) (List.cons_ne_nil _ _) I3 hr rfl rfl (pk_cons (pv 0) pk_nil)) (pa_cons (pe_lamV TB rfl hm hu) (pa_cons (pe_lst (pa_cons (pv 0) pa_nil)) pa_nil))))) pa_nil)))
        (fun σ H M => M) (fun σ H ⟨F0, M⟩ => mk_exn (k := 3) rfl (by show 1 ≤ 1000; decide) (fun H' Q q => ⟨_, M.s0, q⟩)) (fun σ H ⟨F0, M⟩ => mk_exnK (k := 3) rfl (fun H' Q q => ⟨_, M.s0, q⟩)) (lam1 cf (by decide) rfl) (fun σ H F0 M H' Q q => ⟨_, M.s0, q⟩) (by decide))
      (rb_cons (row_of (P := P) (w := w) (mg := mg) (base := base) (T := T) (H0 := H) (vx := vx) (vy := vy) (vz := vz) (lo := 0) (i := 4) (by decide) (ps_expr (pe_bm PySem.F.plainAttrs_list PySem.F.slot_list_append PySem.F.type_list_append mt_append (pv 3) (pa_cons (pe_tup (pa_cons (p_exn (k := 4) cf (by decide) (List.cons_ne_nil _ _) I4 hr rfl rfl (pa_cons (pv 0) pa_nil)) (pa_cons (p_exnK (k := 4) cf (by decide) (List.cons_ne_nil _ _) I4 hr rfl rfl (pk_cons (pv 0) pk_nil)) (pa_cons (pe_lamV TB rfl hm hu) (pa_cons (pe_lst (pa_cons (pv 0) pa_nil)) pa_nil))))) pa_nil)))
        (fun σ H M => M) (fun σ H ⟨F0, M⟩ => mk_exn (k := 4) rfl (by show 1 ≤ 1000; decide) (fun H' Q q => ⟨_, M.s0, q⟩)) (fun σ H ⟨F0, M⟩ => mk_exnK (k := 4) rfl (fun H' Q q => ⟨_, M.s0, q⟩)) (lam1 cf (by decide) rfl) (fun σ H F0 M H' Q q => ⟨_, M.s0, q⟩) (by decide))
      (rb_cons (row_of (P := P) (w := w) (mg := mg) (base := base) (T := T) (H0 := H) (vx := vx) (vy := vy) (vz := vz) (lo := 0) (i := 5) (by decide) (ps_expr (pe_bm PySem.F.plainAttrs_list PySem.F.slot_list_append PySem.F.type_list_append mt_append (pv 3) (pa_cons (pe_tup (pa_cons (p_exn (k := 5) cf (by decide) (List.cons_ne_nil _ _) I5 hr rfl rfl (pa_cons (pv 0) pa_nil)) (pa_cons (p_exnK (k := 5) cf (by decide) (List.cons_ne_nil _ _) I5 hr rfl rfl (pk_cons (pv 0) pk_nil)) (pa_cons (pe_lamV TB rfl hm hu) (pa_cons (pe_lst (pa_cons (pv 0) pa_nil)) pa_nil))))) pa_nil)))
        (fun σ H M => M) (fun σ H ⟨F0, M⟩ => mk_exn (k := 5) rfl (by show 1 ≤ 1000; decide) (fun H' Q q => ⟨_, M.s0, q⟩)) (fun σ H ⟨F0, M⟩ => mk_exnK (k := 5) rfl (fun H' Q q => ⟨_, M.s0, q⟩)) (lam1 cf (by decide) rfl) (fun σ H F0 M H' Q q => ⟨_, M.s0, q⟩) (by decide))
      (rb_cons (row_of (P := P) (w := w) (mg := mg) (base := base) (T := T) (H0 := H) (vx := vx) (vy := vy) (vz := vz) (lo := 0) (i := 6) (by decide) (ps_expr (pe_bm PySem.F.plainAttrs_list PySem.F.slot_list_append PySem.F.type_list_append mt_append (pv 3) (pa_cons (pe_tup (pa_cons (p_exn (k := 6) cf (by decide) (List.cons_ne_nil _ _) I6 hr rfl rfl (pa_cons (pv 0) pa_nil)) (pa_cons (p_exnK (k := 6) cf (by decide) (List.cons_ne_nil _ _) I6 hr rfl rfl (pk_cons (pv 0) pk_nil)) (pa_cons (pe_lamV TB rfl hm hu) (pa_cons (pe_lst (pa_cons (pv 0) pa_nil)) pa_nil))))) pa_nil)))
        (fun σ H M => M) (fun σ H ⟨F0, M⟩ => mk_exn (k := 6) rfl (by show 1 ≤ 1000; decide) (fun H' Q q => ⟨_, M.s0, q⟩)) (fun σ H ⟨F0, M⟩ => mk_exnK (k := 6) rfl (fun H' Q q => ⟨_, M.s0, q⟩)) (lam1 cf (by decide) rfl) (fun σ H F0 M H' Q q => ⟨_, M.s0, q⟩) (by decide))
      (rb_cons (row_of (P := P) (w := w) (mg := mg) (base := base) (T := T) (H0 := H) (vx := vx) (vy := vy) (vz := vz) (lo := 0) (i := 7) (by decide) (ps_expr (pe_bm PySem.F.plainAttrs_list PySem.F.slot_list_append PySem.F.type_list_append mt_append (pv 3) (pa_cons (pe_tup (pa_cons (p_exn (k := 7) cf (by decide) (List.cons_ne_nil _ _) I7 hr rfl rfl (pa_cons (pv 0) pa_nil)) (pa_cons (p_exnK (k := 7) cf (by decide) (List.cons_ne_nil _ _) I7 hr rfl rfl (pk_cons (pv 0) pk_nil)) (pa_cons (pe_lamV TB rfl hm hu) (pa_cons (pe_lst (pa_cons (pv 0) pa_nil)) pa_nil))))) pa_nil)))
        (fun σ H M => M) (fun σ H ⟨F0, M⟩ => mk_exn (k := 7) rfl (by show 1 ≤ 1000; decide) (fun H' Q q => ⟨_, M.s0, q⟩)) (fun σ H ⟨F0, M⟩ => mk_exnK (k := 7) rfl (fun H' Q q => ⟨_, M.s0, q⟩)) (lam1 cf (by decide) rfl) (fun σ H F0 M H' Q q => ⟨_, M.s0, q⟩) (by decide))
      (rb_cons (row_of (P := P) (w := w) (mg := mg) (base := base) (T := T) (H0 := H) (vx := vx) (vy := vy) (vz := vz) (lo := 0) (i := 8) (by decide) (ps_expr (pe_bm PySem.F.plainAttrs_list PySem.F.slot_list_append PySem.F.type_list_append mt_append (pv 3) (pa_cons (pe_tup (pa_cons (p_exn (k := 8) cf (by decide) (List.cons_ne_nil _ _) I8 hr rfl rfl (pa_cons (pv 0) pa_nil)) (pa_cons (p_exnK (k := 8) cf (by decide) (List.cons_ne_nil _ _) I8 hr rfl rfl (pk_cons (pv 0) pk_nil)) (pa_cons (pe_lamV TB rfl hm hu) (pa_cons (pe_lst (pa_cons (pv 0) pa_nil)) pa_nil))))) pa_nil)))
        (fun σ H M => M) (fun σ H ⟨F0, M⟩ => mk_exn (k := 8) rfl (by show 1 ≤ 1000; decide) (fun H' Q q => ⟨_, M.s0, q⟩)) (fun σ H ⟨F0, M⟩ => mk_exnK (k := 8) rfl (fun H' Q q => ⟨_, M.s0, q⟩)) (lam1 cf (by decide) rfl) (fun σ H F0 M H' Q q => ⟨_, M.s0, q⟩) (by decide))
      (rb_cons (row_of (P := P) (w := w) (mg := mg) (base := base) (T := T) (H0 := H) (vx := vx) (vy := vy) (vz := vz) (lo := 0) (i := 9) (by decide) (ps_expr (pe_bm PySem.F.plainAttrs_list PySem.F.slot_list_append PySem.F.type_list_append mt_append (pv 3) (pa_cons (pe_tup (pa_cons (p_exn (k := 9) cf (by decide) (List.cons_ne_nil _ _) I9 hr rfl rfl (pa_cons (pv 0) pa_nil)) (pa_cons (p_exnK (k := 9) cf (by decide) (List.cons_ne_nil _ _) I9 hr rfl rfl (pk_cons (pv 0) pk_nil)) (pa_cons (pe_lamV TB rfl hm hu) (pa_cons (pe_lst (pa_cons (pv 0) pa_nil)) pa_nil))))) pa_nil)))
        (fun σ H M => M) (fun σ H ⟨F0, M⟩ => mk_exn (k := 9) rfl (by show 1 ≤ 1000; decide) (fun H' Q q => ⟨_, M.s0, q⟩)) (fun σ H ⟨F0, M⟩ => mk_exnK (k := 9) rfl (fun H' Q q => ⟨_, M.s0, q⟩)) (lam1 cf (by decide) rfl) (fun σ H F0 M H' Q q => ⟨_, M.s0, q⟩) (by decide))
      (rb_cons (row_of (P := P) (w := w) (mg := mg) (base := base) (T := T) (H0 := H) (vx := vx) (vy := vy) (vz := vz) (lo := 0) (i := 10) (by decide) (ps_expr (pe_bm PySem.F.plainAttrs_list PySem.F.slot_list_append PySem.F.type_list_append mt_append (pv 3) (pa_cons (pe_tup (pa_cons (p_exn (k := 10) cf (by decide) (List.cons_ne_nil _ _) I10 hr rfl rfl (pa_cons (pv 0) pa_nil)) (pa_cons (p_exnK (k := 10) cf (by decide) (List.cons_ne_nil _ _) I10 hr rfl rfl (pk_cons (pv 0) pk_nil)) (pa_cons (pe_lamV TB rfl hm hu) (pa_cons (pe_lst (pa_cons (pv 0) pa_nil)) pa_nil))))) pa_nil)))
        (fun σ H M => M) (fun σ H ⟨F0, M⟩ => mk_exn (k := 10) rfl (by show 1 ≤ 1000; decide) (fun H' Q q => ⟨_, M.s0, q⟩)) (fun σ H ⟨F0, M⟩ => mk_exnK (k := 10) rfl (fun H' Q q => ⟨_, M.s0, q⟩)) (lam1 cf (by decide) rfl) (fun σ H F0 M H' Q q => ⟨_, M.s0, q⟩) (by decide))
      (rb_cons (row_of (P := P) (w := w) (mg := mg) (base := base) (T := T) (H0 := H) (vx := vx) (vy := vy) (vz := vz) (lo := 0) (i := 11) (by decide) (ps_expr (pe_bm PySem.F.plainAttrs_list PySem.F.slot_list_append PySem.F.type_list_append mt_append (pv 3) (pa_cons (pe_tup (pa_cons (p_exn (k := 11) cf (by decide) (List.cons_ne_nil _ _) I11 hr rfl rfl (pa_cons (pv 0) pa_nil)) (pa_cons (p_exnK (k := 11) cf (by decide) (List.cons_ne_nil _ _) I11 hr rfl rfl (pk_cons (pv 0) pk_nil)) (pa_cons (pe_lamV TB rfl hm hu) (pa_cons (pe_lst (pa_cons (pv 0) pa_nil)) pa_nil))))) pa_nil)))
        (fun σ H M => M) (fun σ H ⟨F0, M⟩ => mk_exn (k := 11) rfl (by show 1 ≤ 1000; decide) (fun H' Q q => ⟨_, M.s0, q⟩)) (fun σ H ⟨F0, M⟩ => mk_exnK (k := 11) rfl (fun H' Q q => ⟨_, M.s0, q⟩)) (lam1 cf (by decide) rfl) (fun σ H F0 M H' Q q => ⟨_, M.s0, q⟩) (by decide))
      (rb_cons (row_of (P := P) (w := w) (mg := mg) (base := base) (T := T) (H0 := H) (vx := vx) (vy := vy) (vz := vz) (lo := 0) (i := 12) (by decide) (ps_expr (pe_bm PySem.F.plainAttrs_list PySem.F.slot_list_append PySem.F.type_list_append mt_append (pv 3) (pa_cons (pe_tup (pa_cons (p_exn (k := 12) cf (by decide) (List.cons_ne_nil _ _) I12 hr rfl rfl (pa_cons (pv 0) pa_nil)) (pa_cons (p_exnK (k := 12) cf (by decide) (List.cons_ne_nil _ _) I12 hr rfl rfl (pk_cons (pv 0) pk_nil)) (pa_cons (pe_lamV TB rfl hm hu) (pa_cons (pe_lst (pa_cons (pv 0) pa_nil)) pa_nil))))) pa_nil)))
        (fun σ H M => M) (fun σ H ⟨F0, M⟩ => mk_exn (k := 12) rfl (by show 1 ≤ 1000; decide) (fun H' Q q => ⟨_, M.s0, q⟩)) (fun σ H ⟨F0, M⟩ => mk_exnK (k := 12) rfl (fun H' Q q => ⟨_, M.s0, q⟩)) (lam1 cf (by decide) rfl) (fun σ H F0 M H' Q q => ⟨_, M.s0, q⟩) (by decide))
      (rb_cons (row_of (P := P) (w := w) (mg := mg) (base := base) (T := T) (H0 := H) (vx := vx) (vy := vy) (vz := vz) (lo := 0) (i := 13) (by decide) (ps_expr (pe_bm PySem.F.plainAttrs_list PySem.F.slot_list_append PySem.F.type_list_append mt_append (pv 3) (pa_cons (pe_tup (pa_cons (p_exn (k := 13) cf (by decide) (List.cons_ne_nil _ _) I13 hr rfl rfl (pa_cons (pv 0) pa_nil)) (pa_cons (p_exnK (k := 13) cf (by decide) (List.cons_ne_nil _ _) I13 hr rfl rfl (pk_cons (pv 0) pk_nil)) (pa_cons (pe_lamV TB rfl hm hu) (pa_cons (pe_lst (pa_cons (pv 0) pa_nil)) pa_nil))))) pa_nil)))
        (fun σ H M => M) (fun σ H ⟨F0, M⟩ => mk_exn (k := 13) rfl (by show 1 ≤ 1000; decide) (fun H' Q q => ⟨_, M.s0, q⟩)) (fun σ H ⟨F0, M⟩ => mk_exnK (k := 13) rfl (fun H' Q q => ⟨_, M.s0, q⟩)) (lam1 cf (by decide) rfl) (fun σ H F0 M H' Q q => ⟨_, M.s0, q⟩) (by decide))
      (rb_cons (row_of (P := P) (w := w) (mg := mg) (base := base) (T := T) (H0 := H) (vx := vx) (vy := vy) (vz := vz) (lo := 0) (i := 14) (by decide) (ps_expr (pe_bm PySem.F.plainAttrs_list PySem.F.slot_list_append PySem.F.type_list_append mt_append (pv 3) (pa_cons (pe_tup (pa_cons (p_exn (k := 14) cf (by decide) (List.cons_ne_nil _ _) I14 hr rfl rfl (pa_cons (pv 0) pa_nil)) (pa_cons (p_exnK (k := 14) cf (by decide) (List.cons_ne_nil _ _) I14 hr rfl rfl (pk_cons (pv 0) pk_nil)) (pa_cons (pe_lamV TB rfl hm hu) (pa_cons (pe_lst (pa_cons (pv 0) pa_nil)) pa_nil))))) pa_nil)))
        (fun σ H M => M) (fun σ H ⟨F0, M⟩ => mk_exn (k := 14) rfl (by show 1 ≤ 1000; decide) (fun H' Q q => ⟨_, M.s0, q⟩)) (fun σ H ⟨F0, M⟩ => mk_exnK (k := 14) rfl (fun H' Q q => ⟨_, M.s0, q⟩)) (lam1 cf (by decide) rfl) (fun σ H F0 M H' Q q => ⟨_, M.s0, q⟩) (by decide))
      (rb_cons (row_of (P := P) (w := w) (mg := mg) (base := base) (T := T) (H0 := H) (vx := vx) (vy := vy) (vz := vz) (lo := 0) (i := 15) (by decide) (ps_expr (pe_bm PySem.F.plainAttrs_list PySem.F.slot_list_append PySem.F.type_list_append mt_append (pv 3) (pa_cons (pe_tup (pa_cons (p_exn (k := 15) cf (by decide) (List.cons_ne_nil _ _) I15 hr rfl rfl (pa_cons (pv 0) pa_nil)) (pa_cons (p_exnK (k := 15) cf (by decide) (List.cons_ne_nil _ _) I15 hr rfl rfl (pk_cons (pv 0) pk_nil)) (pa_cons (pe_lamV TB rfl hm hu) (pa_cons (pe_lst (pa_cons (pv 0) pa_nil)) pa_nil))))) pa_nil)))
        (fun σ H M => M) (fun σ H ⟨F0, M⟩ => mk_exn (k := 15) rfl (by show 1 ≤ 1000; decide) (fun H' Q q => ⟨_, M.s0, q⟩)) (fun σ H ⟨F0, M⟩ => mk_exnK (k := 15) rfl (fun H' Q q => ⟨_, M.s0, q⟩)) (lam1 cf (by decide) rfl) (fun σ H F0 M H' Q q => ⟨_, M.s0, q⟩) (by decide))
      (rb_cons (row_of (P := P) (w := w) (mg := mg) (base := base) (T := T) (H0 := H) (vx := vx) (vy := vy) (vz := vz) (lo := 0) (i := 16) (by decide) (ps_expr (pe_bm PySem.F.plainAttrs_list PySem.F.slot_list_append PySem.F.type_list_append mt_append (pv 3) (pa_cons (pe_tup (pa_cons (p_exn (k := 16) cf (by decide) (List.cons_ne_nil _ _) I16 hr rfl rfl (pa_cons (pv 0) pa_nil)) (pa_cons (p_exnK (k := 16) cf (by decide) (List.cons_ne_nil _ _) I16 hr rfl rfl (pk_cons (pv 0) pk_nil)) (pa_cons (pe_lamV TB rfl hm hu) (pa_cons (pe_lst (pa_cons (pv 0) pa_nil)) pa_nil))))) pa_nil)))
        (fun σ H M => M) (fun σ H ⟨F0, M⟩ => mk_exn (k := 16) rfl (by show 1 ≤ 1000; decide) (fun H' Q q => ⟨_, M.s0, q⟩)) (fun σ H ⟨F0, M⟩ => mk_exnK (k := 16) rfl (fun H' Q q => ⟨_, M.s0, q⟩)) (lam1 cf (by decide) rfl) (fun σ H F0 M H' Q q => ⟨_, M.s0, q⟩) (by decide))
      (rb_cons (row_of (P := P) (w := w) (mg := mg) (base := base) (T := T) (H0 := H) (vx := vx) (vy := vy) (vz := vz) (lo := 0) (i := 17) (by decide) (ps_expr (pe_bm PySem.F.plainAttrs_list PySem.F.slot_list_append PySem.F.type_list_append mt_append (pv 3) (pa_cons (pe_tup (pa_cons (p_exn (k := 17) cf (by decide) (List.cons_ne_nil _ _) I17 hr rfl rfl (pa_cons (pv 0) pa_nil)) (pa_cons (p_exnK (k := 17) cf (by decide) (List.cons_ne_nil _ _) I17 hr rfl rfl (pk_cons (pv 0) pk_nil)) (pa_cons (pe_lamV TB rfl hm hu) (pa_cons (pe_lst (pa_cons (pv 0) pa_nil)) pa_nil))))) pa_nil)))
        (fun σ H M => M) (fun σ H ⟨F0, M⟩ => mk_exn (k := 17) rfl (by show 1 ≤ 1000; decide) (fun H' Q q => ⟨_, M.s0, q⟩)) (fun σ H ⟨F0, M⟩ => mk_exnK (k := 17) rfl (fun H' Q q => ⟨_, M.s0, q⟩)) (lam1 cf (by decide) rfl) (fun σ H F0 M H' Q q => ⟨_, M.s0, q⟩) (by decide))
      (rb_ret (pv 3) fun σ H' Q M q' => by
        obtain ⟨F0, M⟩ := M
        obtain ⟨ws, h1, h2, h3⟩ := mi_end M
        exact ⟨.ref F0, M.s3, q' _ _ ⟨F0, ws, rfl, M.tb, h1, h2, h3⟩⟩)))))))))))))))))))
    obtain ⟨t, ht, hh⟩ := body
    refine ⟨_, pss_cons (ps_set (i := 3) scMade_a.nd rfl (Or.inl rfl) (pe_lst pa_nil)) ht, by show (0 : Nat) ≤ sizeLine; omega, fun F0 hF => ?_⟩
    refine hh _ _ _ ⟨F0, mi_start (N := ["x", "y", "z", "found"]) rfl rfl rfl (by show 3 < 4; omega) (fun z => by omega) tb hF⟩ fun v H' ⟨F1, ws, e1, h1, h2, h3, h4⟩ => ?_
    rw [e1]
    exact q F1 ws H' h4 h1 h2 h3
end
abbrev sMade_b : Stmt := top 57
theorem scMade_b : FnScope ["x", "y", "z", "found"] ["x", "y", "z"] (defScope sMade_b) := ⟨rfl, rfl, rfl, by decide +kernel, rfl, by decide +kernel, by decide +kernel⟩
section
variable {P : Program} {w : World} {K : PySem.W.Frag} {mg : Str → Option Value} {base : Heap} {T : List (Addr × Str)}
theorem ok_made_b {f c tp : Addr} {fd : FuncData} (F : FunC K "_law_made_b" "_law_made_b" sMade_b f fd c) (cf : CF K mg) (TB : TabB base mg c tp) (hm : (tp, ("_law_made_b" : Str) ++ ".<locals>." ++ "<lambda>") ∈ T) (hu : ∀ p ∈ T, p.1 = tp → p.2 = ("_law_made_b" : Str) ++ ".<locals>." ++ "<lambda>") :
    FnOk P w K mg base CX0 3 f fd ["x", "y", "z"] (spMade P w K mg base T 18 18) := by
  refine F.ok scMade_b (fun vs H Q E h => ?_) (fun A outer s H vs Q E hr h => ?_)
  · obtain ⟨vx, vy, vz, rfl, _⟩ := h
    rfl
  · obtain ⟨vx, vy, vz, rfl, tb, q⟩ := h
    obtain ⟨fd18, I18⟩ := ini_all (P := P) (w := w) (base := base) cf 18 (by decide) (List.cons_ne_nil _ _)
    obtain ⟨fd19, I19⟩ := ini_all (P := P) (w := w) (base := base) cf 19 (by decide) (List.cons_ne_nil _ _)
    obtain ⟨fd20, I20⟩ := ini_all (P := P) (w := w) (base := base) cf 20 (by decide) (List.cons_ne_nil _ _)
    obtain ⟨fd21, I21⟩ := ini_all (P := P) (w := w) (base := base) cf 21 (by decide) (List.cons_ne_nil _ _)
    obtain ⟨fd22, I22⟩ := ini_all (P := P) (w := w) (base := base) cf 22 (by decide) (List.cons_ne_nil _ _)
    obtain ⟨fd23, I23⟩ := ini_all (P := P) (w := w) (base := base) cf 23 (by decide) (List.cons_ne_nil _ _)
    obtain ⟨fd24, I24⟩ := ini_all (P := P) (w := w) (base := base) cf 24 (by decide) (List.cons_ne_nil _ _)
    obtain ⟨fd25, I25⟩ := ini_all (P := P) (w := w) (base := base) cf 25 (by decide) (List.cons_ne_nil _ _)
    obtain ⟨fd26, I26⟩ := ini_all (P := P) (w := w) (base := base) cf 26 (by decide) (List.cons_ne_nil _ _)
    obtain ⟨fd27, I27⟩ := ini_all (P := P) (w := w) (base := base) cf 27 (by decide) (List.cons_ne_nil _ _)
    obtain ⟨fd28, I28⟩ := ini_all (P := P) (w := w) (base := base) cf 28 (by decide) (List.cons_ne_nil _ _)
    obtain ⟨fd29, I29⟩ := ini_all (P := P) (w := w) (base := base) cf 29 (by decide) (List.cons_ne_nil _ _)
    obtain ⟨fd30, I30⟩ := ini_all (P := P) (w := w) (base := base) cf 30 (by decide) (List.cons_ne_nil _ _)
    obtain ⟨fd31, I31⟩ := ini_all (P := P) (w := w) (base := base) cf 31 (by decide) (List.cons_ne_nil _ _)
    obtain ⟨fd32, I32⟩ := ini_all (P := P) (w := w) (base := base) cf 32 (by decide) (List.cons_ne_nil _ _)
    obtain ⟨fd33, I33⟩ := ini_all (P := P) (w := w) (base := base) cf 33 (by decide) (List.cons_ne_nil _ _)
    obtain ⟨fd34, I34⟩ := ini_all (P := P) (w := w) (base := base) cf 34 (by decide) (List.cons_ne_nil _ _)
    obtain ⟨fd35, I35⟩ := ini_all (P := P) (w := w) (base := base) cf 35 (by decide) (List.cons_ne_nil _ _)
    have body : RB (cxOf CX0 P w K mg base ["x", "y", "z", "found"] "_law_made_b" (defScope sMade_b) f (.ref c) A outer s H E).nox ((defBody sMade_b).drop 1) (fun σ H' => ∃ F0, MI P w K mg base T H F0 vx vy vz 18 0 σ H') (fun v H' => ∃ F0 ws, v = .ref F0 ∧ Tabs T H' ∧ H' F0 = some (.lst ws) ∧ Made P w K mg base 18 18 vx vy vz H' ws ∧ ExtN H H') :=
      (rb_cons (row_of (P := P) (w := w) (mg := mg) (base := base) (T := T) (H0 := H) (vx := vx) (vy := vy) (vz := vz) (lo := 18) (i := 0) (by decide) (ps_expr (pe_bm PySem.F.plainAttrs_list PySem.F.slot_list_append PySem.F.type_list_append mt_append (pv 3) (pa_cons (pe_tup (pa_cons (p_exn (k := 18) cf (by decide) (List.cons_ne_nil _ _) I18 hr rfl rfl (pa_cons (pv 0) pa_nil)) (pa_cons (p_exnK (k := 18) cf (by decide) (List.cons_ne_nil _ _) I18 hr rfl rfl (pk_cons (pv 0) pk_nil)) (pa_cons (pe_lamV TB rfl hm hu) (pa_cons (pe_lst (pa_cons (pv 0) pa_nil)) pa_nil))))) pa_nil)))
        (fun σ H M => M) (fun σ H ⟨F0, M⟩ => mk_exn (k := 18) rfl (by show 1 ≤ 1000; decide) (fun H' Q q => ⟨_, M.s0, q⟩)) (fun σ H ⟨F0, M⟩ => mk_exnK (k := 18) rfl (fun H' Q q => ⟨_, M.s0, q⟩)) (lam1 cf (by decide) rfl) (fun σ H F0 M H' Q q => ⟨_, M.s0, q⟩) (by decide))
      (rb_cons (row_of (P := P) (w := w) (mg := mg) (base := base) (T := T) (H0 := H) (vx := vx) (vy := vy) (vz := vz) (lo := 18) (i := 1) (by decide) (ps_expr (pe_bm PySem.F.plainAttrs_list PySem.F.slot_list_append PySem.F.type_list_append mt_append (pv 3) (pa_cons (pe_tup (pa_cons (p_exn (k := 19) cf (by decide) (List.cons_ne_nil _ _) I19 hr rfl rfl (pa_cons (pv 0) pa_nil)) (pa_cons (p_exnK (k := 19) cf (by decide) (List.cons_ne_nil _ _) I19 hr rfl rfl (pk_cons (pv 0) pk_nil)) (pa_cons (pe_lamV TB rfl hm hu) (pa_cons (pe_lst (pa_cons (pv 0) pa_nil)) pa_nil))))) pa_nil)))
        (fun σ H M => M) (fun σ H ⟨F0, M⟩ => mk_exn (k := 19) rfl (by show 1 ≤ 1000; decide) (fun H' Q q => ⟨_, M.s0, q⟩)) (fun σ H ⟨F0, M⟩ => mk_exnK (k := 19) rfl (fun H' Q q => ⟨_, M.s0, q⟩)) (lam1 cf (by decide) rfl) (fun σ H F0 M H' Q q => ⟨_, M.s0, q⟩) (by decide))
      (rb_cons (row_of (P := P) (w := w) (mg := mg) (base := base) (T := T) (H0 := H) (vx := vx) (vy := vy) (vz := vz) (lo := 18) (i := 2) (by decide) (ps_expr (pe_bm PySem.F.plainAttrs_list PySem.F.slot_list_append PySem.F.type_list_append mt_append (pv 3) (pa_cons (pe_tup (pa_cons (p_exn (k := 20) cf (by decide) (List.cons_ne_nil _ _) I20 hr rfl rfl (pa_cons (pv 0) pa_nil)) (pa_cons (p_exnK (k := 20) cf (by decide) (List.cons_ne_nil _ _) I20 hr rfl rfl (pk_cons (pv 0) pk_nil)) (pa_cons (pe_lamV TB rfl hm hu) (pa_cons (pe_lst (pa_cons (pv 0) pa_nil)) pa_nil))))) pa_nil)))
        (fun σ H M => M) (fun σ H ⟨F0, M⟩ => mk_exn (k := 20) rfl (by show 1 ≤ 1000; decide) (fun H' Q q => ⟨_, M.s0, q⟩)) (fun σ H ⟨F0, M⟩ => mk_exnK (k := 20) rfl (fun H' Q q => ⟨_, M.s0, q⟩)) (lam1 cf (by decide) rfl) (fun σ H F0 M H' Q q => ⟨_, M.s0, q⟩) (by decide))
      (rb_cons (row_of (P := P) (w := w) (mg := mg) (base := base) (T := T) (H0 := H) (vx := vx) (vy := vy) (vz := vz) (lo := 18) (i := 3) (by decide) (ps_expr (pe_bm PySem.F.plainAttrs_list PySem.F.slot_list_append PySem.F.type_list_append mt_append (pv 3) (pa_cons (pe_tup (pa_cons (p_exn (k := 21) cf (by decide) (List.cons_ne_nil _ _) I21 hr rfl rfl (pa_cons (pv 0) pa_nil)) (pa_cons (p_exnK (k := 21) cf (by decide) (List.cons_ne_nil _ _) I21 hr rfl rfl (pk_cons (pv 0) pk_nil)) (pa_cons (pe_lamV TB rfl hm hu) (pa_cons (pe_lst (pa_cons (pv 0) pa_nil)) pa_nil))))) pa_nil)))
        (fun σ H M => M) (fun σ H ⟨F0, M⟩ => mk_exn (k := 21) rfl (by show 1 ≤ 1000; decide) (fun H' Q q => ⟨_, M.s0, q⟩)) (fun σ H ⟨F0, M⟩ => mk_exnK (k := 21) rfl (fun H' Q q => ⟨_, M.s0, q⟩)) (lam1 cf (by decide) rfl) (fun σ H F0 M H' Q q => ⟨_, M.s0, q⟩) (by decide))
      (rb_cons (row_of (P := P) (w := w) (mg := mg) (base := base) (T := T) (H0 := H) (vx := vx) (vy := vy) (vz := vz) (lo := 18) (i := 4) (by decide) (ps_expr (pe_bm PySem.F.plainAttrs_list PySem.F.slot_list_append PySem.F.type_list_append mt_append (pv 3) (pa_cons (pe_tup (pa_cons (p_exn (k := 22) cf (by decide) (List.cons_ne_nil _ _) I22 hr rfl rfl (pa_cons (pv 0) pa_nil)) (pa_cons (p_exnK (k := 22) cf (by decide) (List.cons_ne_nil _ _) I22 hr rfl rfl (pk_cons (pv 0) pk_nil)) (pa_cons (pe_lamV TB rfl hm hu) (pa_cons (pe_lst (pa_cons (pv 0) pa_nil)) pa_nil))))) pa_nil)))
        (fun σ H M => M) (fun σ H ⟨F0, M⟩ => mk_exn (k := 22) rfl (by show 1 ≤ 1000; decide) (fun H' Q q => ⟨_, M.s0, q⟩)) (fun σ H ⟨F0, M⟩ => mk_exnK (k := 22) rfl (fun H' Q q => ⟨_, M.s0, q⟩)) (lam1 cf (by decide) rfl) (fun σ H F0 M H' Q q => ⟨_, M.s0, q⟩) (by decide))
      (rb_cons (row_of (P := P) (w := w) (mg := mg) (base := base) (T := T) (H0 := H) (vx := vx) (vy := vy) (vz := vz) (lo := 18) (i := 5) (by decide) (ps_expr (pe_bm PySem.F.plainAttrs_list PySem.F.slot_list_append PySem.F.type_list_append mt_append (pv 3) (pa_cons (pe_tup (pa_cons (p_exn (k := 23) cf (by decide) (List.cons_ne_nil _ _) I23 hr rfl rfl (pa_cons (pv 0) pa_nil)) (pa_cons (p_exnK (k := 23) cf (by decide) (List.cons_ne_nil _ _) I23 hr rfl rfl (pk_cons (pv 0) pk_nil)) (pa_cons (pe_lamV TB rfl hm hu) (pa_cons (pe_lst (pa_cons (pv 0) pa_nil)) pa_nil))))) pa_nil)))
        (fun σ H M => M) (fun σ H ⟨F0, M⟩ => mk_exn (k := 23) rfl (by show 1 ≤ 1000; decide) (fun H' Q q => ⟨_, M.s0, q⟩)) (fun σ H ⟨F0, M⟩ => mk_exnK (k := 23) rfl (fun H' Q q => ⟨_, M.s0, q⟩)) (lam1 cf (by decide) rfl) (fun σ H F0 M H' Q q => ⟨_, M.s0, q⟩) (by decide))
      (rb_cons (row_of (P := P) (w := w) (mg := mg) (base := base) (T := T) (H0 := H) (vx := vx) (vy := vy) (vz := vz) (lo := 18) (i := 6) (by decide) (ps_expr (pe_bm PySem.F.plainAttrs_list PySem.F.slot_list_append PySem.F.type_list_append mt_append (pv 3) (pa_cons (pe_tup (pa_cons (p_exn (k := 24) cf (by decide) (List.cons_ne_nil _ _) I24 hr rfl rfl (pa_cons (pv 0) pa_nil)) (pa_cons (p_exnK (k := 24) cf (by decide) (List.cons_ne_nil _ _) I24 hr rfl rfl (pk_cons (pv 0) pk_nil)) (pa_cons (pe_lamV TB rfl hm hu) (pa_cons (pe_lst (pa_cons (pv 0) pa_nil)) pa_nil))))) pa_nil)))
        (fun σ H M => M) (fun σ H ⟨F0, M⟩ => mk_exn (k := 24) rfl (by show 1 ≤ 1000; decide) (fun H' Q q => ⟨_, M.s0, q⟩)) (fun σ H ⟨F0, M⟩ => mk_exnK (k := 24) rfl (fun H' Q q => ⟨_, M.s0, q⟩)) (lam1 cf (by decide) rfl) (fun σ H F0 M H' Q q => ⟨_, M.s0, q⟩) (by decide))
      (rb_cons (row_of (P := P) (w := w) (mg := mg) (base := base) (T := T) (H0 := H) (vx := vx) (vy := vy) (vz := vz) (lo := 18) (i := 7) (by decide) (ps_expr (pe_bm PySem.F.plainAttrs_list PySem.F.slot_list_append PySem.F.type_list_append mt_append (pv 3) (pa_cons (pe_tup (pa_cons (p_exn (k := 25) cf (by decide) (List.cons_ne_nil _ _) I25 hr rfl rfl (pa_cons (pv 0) pa_nil)) (pa_cons (p_exnK (k := 25) cf (by decide) (List.cons_ne_nil _ _) I25 hr rfl rfl (pk_cons (pv 0) pk_nil)) (pa_cons (pe_lamV TB rfl hm hu) (pa_cons (pe_lst (pa_cons (pv 0) pa_nil)) pa_nil))))) pa_nil)))
        (fun σ H M => M) (fun σ H ⟨F0, M⟩ => mk_exn (k := 25) rfl (by show 1 ≤ 1000; decide) (fun H' Q q => ⟨_, M.s0, q⟩)) (fun σ H ⟨F0, M⟩ => mk_exnK (k := 25) rfl (fun H' Q q => ⟨_, M.s0, q⟩)) (lam1 cf (by decide) rfl) (fun σ H F0 M H' Q q => ⟨_, M.s0, q⟩) (by decide))
      (rb_cons (row_of (P := P) (w := w) (mg := mg) (base := base) (T := T) (H0 := H) (vx := vx) (vy := vy) (vz := vz) (lo := 18) (i := 8) (by decide) (ps_expr (pe_bm PySem.F.plainAttrs_list PySem.F.slot_list_append PySem.F.type_list_append mt_append (pv 3) (pa_cons (pe_tup (pa_cons (p_exn (k := 26) cf (by decide) (List.cons_ne_nil _ _) I26 hr rfl rfl (pa_cons (pv 0) pa_nil)) (pa_cons (p_exnK (k := 26) cf (by decide) (List.cons_ne_nil _ _) I26 hr rfl rfl (pk_cons (pv 0) pk_nil)) (pa_cons (pe_lamV TB rfl hm hu) (pa_cons (pe_lst (pa_cons (pv 0) pa_nil)) pa_nil))))) pa_nil)))
        (fun σ H M => M) (fun σ H ⟨F0, M⟩ => mk_exn (k := 26) rfl (by show 1 ≤ 1000; decide) (fun H' Q q => ⟨_, M.s0, q⟩)) (fun σ H ⟨F0, M⟩ => mk_exnK (k := 26) rfl (fun H' Q q => ⟨_, M.s0, q⟩)) (lam1 cf (by decide) rfl) (fun σ H F0 M H' Q q => ⟨_, M.s0, q⟩) (by decide))
      (rb_cons (row_of (P := P) (w := w) (mg := mg) (base := base) (T := T) (H0 := H) (vx := vx) (vy := vy) (vz := vz) (lo := 18) (i := 9) (by decide) (ps_expr (pe_bm PySem.F.plainAttrs_list PySem.F.slot_list_append PySem.F.type_list_append mt_append (pv 3) (pa_cons (pe_tup (pa_cons (p_exn (k := 27) cf (by decide) (List.cons_ne_nil _ _) I27 hr rfl rfl (pa_cons (pv 0) pa_nil)) (pa_cons (p_exnK (k := 27) cf (by decide) (List.cons_ne_nil _ _) I27 hr rfl rfl (pk_cons (pv 0) pk_nil)) (pa_cons (pe_lamV TB rfl hm hu) (pa_cons (pe_lst (pa_cons (pv 0) pa_nil)) pa_nil))))) pa_nil)))
        (fun σ H M => M) (fun σ H ⟨F0, M⟩ => mk_exn (k := 27) rfl (by show 1 ≤ 1000; decide) (fun H' Q q => ⟨_, M.s0, q⟩)) (fun σ H ⟨F0, M⟩ => mk_exnK (k := 27) rfl (fun H' Q q => ⟨_, M.s0, q⟩)) (lam1 cf (by decide) rfl) (fun σ H F0 M H' Q q => ⟨_, M.s0, q⟩) (by decide))
      (rb_cons (row_of (P := P) (w := w) (mg := mg) (base := base) (T := T) (H0 := H) (vx := vx) (vy := vy) (vz := vz) (lo := 18) (i := 10) (by decide) (ps_expr (pe_bm PySem.F.plainAttrs_list PySem.F.slot_list_append PySem.F.type_list_append mt_append (pv 3) (pa_cons (pe_tup (pa_cons (p_exn (k := 28) cf (by decide) (List.cons_ne_nil _ _) I28 hr rfl rfl (pa_cons (pv 0) pa_nil)) (pa_cons (p_exnK (k := 28) cf (by decide) (List.cons_ne_nil _ _) I28 hr rfl rfl (pk_cons (pv 0) pk_nil)) (pa_cons (pe_lamV TB rfl hm hu) (pa_cons (pe_lst (pa_cons (pv 0) pa_nil)) pa_nil))))) pa_nil)))
        (fun σ H M => M) (fun σ H ⟨F0, M⟩ => mk_exn (k := 28) rfl (by show 1 ≤ 1000; decide) (fun H' Q q => ⟨_, M.s0, q⟩)) (fun σ H ⟨F0, M⟩ => mk_exnK (k := 28) rfl (fun H' Q q => ⟨_, M.s0, q⟩)) (lam1 cf (by decide) rfl) (fun σ H F0 M H' Q q => ⟨_, M.s0, q⟩) (by decide))
      (rb_cons (row_of (P := P) (w := w) (mg := mg) (base := base) (T := T) (H0 := H) (vx := vx) (vy := vy) (vz := vz) (lo := 18) (i := 11) (by decide) (ps_expr (pe_bm PySem.F.plainAttrs_list PySem.F.slot_list_append PySem.F.type_list_append mt_append (pv 3) (pa_cons (pe_tup (pa_cons (p_exn (k := 29) cf (by decide) (List.cons_ne_nil _ _) I29 hr rfl rfl (pa_cons (pv 0) pa_nil)) (pa_cons (p_exnK (k := 29) cf (by decide) (List.cons_ne_nil _ _) I29 hr rfl rfl (pk_cons (pv 0) pk_nil)) (pa_cons (pe_lamV TB rfl hm hu) (pa_cons (pe_lst (pa_cons (pv 0) pa_nil)) pa_nil))))) pa_nil)))
        (fun σ H M => M) (fun σ H ⟨F0, M⟩ => mk_exn (k := 29) rfl (by show 1 ≤ 1000; decide) (fun H' Q q => ⟨_, M.s0, q⟩)) (fun σ H ⟨F0, M⟩ => mk_exnK (k := 29) rfl (fun H' Q q => ⟨_, M.s0, q⟩)) (lam1 cf (by decide) rfl) (fun σ H F0 M H' Q q => ⟨_, M.s0, q⟩) (by decide))
      (rb_cons (row_of (P := P) (w := w) (mg := mg) (base := base) (T := T) (H0 := H) (vx := vx) (vy := vy) (vz := vz) (lo := 18) (i := 12) (by decide) (ps_expr (pe_bm PySem.F.plainAttrs_list PySem.F.slot_list_append PySem.F.type_list_append mt_append (pv 3) (pa_cons (pe_tup (pa_cons (p_exn (k := 30) cf (by decide) (List.cons_ne_nil _ _) I30 hr rfl rfl (pa_cons (pv 0) pa_nil)) (pa_cons (p_exnK (k := 30) cf (by decide) (List.cons_ne_nil _ _) I30 hr rfl rfl (pk_cons (pv 0) pk_nil)) (pa_cons (pe_lamV TB rfl hm hu) (pa_cons (pe_lst (pa_cons (pv 0) pa_nil)) pa_nil))))) pa_nil)))
        (fun σ H M => M) (fun σ H ⟨F0, M⟩ => mk_exn (k := 30) rfl (by show 1 ≤ 1000; decide) (fun H' Q q => ⟨_, M.s0, q⟩)) (fun σ H ⟨F0, M⟩ => mk_exnK (k := 30) rfl (fun H' Q q => ⟨_, M.s0, q⟩)) (lam1 cf (by decide) rfl) (fun σ H F0 M H' Q q => ⟨_, M.s0, q⟩) (by decide))
      (rb_cons (row_of (P := P) (w := w) (mg := mg) (base := base) (T := T) (H0 := H) (vx := vx) (vy := vy) (vz := vz) (lo := 18) (i := 13) (by decide) (ps_expr (pe_bm PySem.F.plainAttrs_list PySem.F.slot_list_append PySem.F.type_list_append mt_append (pv 3) (pa_cons (pe_tup (pa_cons (p_exn (k := 31) cf (by decide) (List.cons_ne_nil _ _) I31 hr rfl rfl (pa_cons (pv 0) pa_nil)) (pa_cons (p_exnK (k := 31) cf (by decide) (List.cons_ne_nil _ _) I31 hr rfl rfl (pk_cons (pv 0) pk_nil)) (pa_cons (pe_lamV TB rfl hm hu) (pa_cons (pe_lst (pa_cons (pv 0) pa_nil)) pa_nil))))) pa_nil)))
        (fun σ H M => M) (fun σ H ⟨F0, M⟩ => mk_exn (k := 31) rfl (by show 1 ≤ 1000; decide) (fun H' Q q => ⟨_, M.s0, q⟩)) (fun σ H ⟨F0, M⟩ => mk_exnK (k := 31) rfl (fun H' Q q => ⟨_, M.s0, q⟩)) (lam1 cf (by decide) rfl) (fun σ H F0 M H' Q q => ⟨_, M.s0, q⟩) (by decide))
      (rb_cons (row_of (P := P) (w := w) (mg := mg) (base := base) (T := T) (H0 := H) (vx := vx) (vy := vy) (vz := vz) (lo := 18) (i := 14) (by decide) (ps_expr (pe_bm PySem.F.plainAttrs_list PySem.F.slot_list_append PySem.F.type_list_append mt_append (pv 3) (pa_cons (pe_tup (pa_cons (p_exn (k := 32) cf (by decide) (List.cons_ne_nil _ _) I32 hr rfl rfl (pa_cons (pv 0) pa_nil)) (pa_cons (p_exnK (k := 32) cf (by decide) (List.cons_ne_nil _ _) I32 hr rfl rfl (pk_cons (pv 0) pk_nil)) (pa_cons (pe_lamV TB rfl hm hu) (pa_cons (pe_lst (pa_cons (pv 0) pa_nil)) pa_nil))))) pa_nil)))
        (fun σ H M => M) (fun σ H ⟨F0, M⟩ => mk_exn (k := 32) rfl (by show 1 ≤ 1000; decide) (fun H' Q q => ⟨_, M.s0, q⟩)) (fun σ H ⟨F0, M⟩ => mk_exnK (k := 32) rfl (fun H' Q q => ⟨_, M.s0, q⟩)) (lam1 cf (by decide) rfl) (fun σ H F0 M H' Q q => ⟨_, M.s0, q⟩) (by decide))
      (rb_cons (row_of (P := P) (w := w) (mg := mg) (base := base) (T := T) (H0 := H) (vx := vx) (vy := vy) (vz := vz) (lo := 18) (i := 15) (by decide) (ps_expr (pe_bm PySem.F.plainAttrs_list PySem.F.slot_list_append PySem.F.type_list_append mt_append (pv 3) (pa_cons (pe_tup (pa_cons (p_exn (k := 33) cf (by decide) (List.cons_ne_nil _ _) I33 hr rfl rfl (pa_cons (pv 0) pa_nil)) (pa_cons (p_exnK (k := 33) cf (by decide) (List.cons_ne_nil _ _) I33 hr rfl rfl (pk_cons (pv 0) pk_nil)) (pa_cons (pe_lamV TB rfl hm hu) (pa_cons (pe_lst (pa_cons (pv 0) pa_nil)) pa_nil))))) pa_nil)))
        (fun σ H M => M) (fun σ H ⟨F0, M⟩ => mk_exn (k := 33) rfl (by show 1 ≤ 1000; decide) (fun H' Q q => ⟨_, M.s0, q⟩)) (fun σ H ⟨F0, M⟩ => mk_exnK (k := 33) rfl (fun H' Q q => ⟨_, M.s0, q⟩)) (lam1 cf (by decide) rfl) (fun σ H F0 M H' Q q => ⟨_, M.s0, q⟩) (by decide))
      (rb_cons (row_of (P := P) (w := w) (mg := mg) (base := base) (T := T) (H0 := H) (vx := vx) (vy := vy) (vz := vz) (lo := 18) (i := 16) (by decide) (ps_expr (pe_bm PySem.F.plainAttrs_list PySem.F.slot_list_append PySem.F.type_list_append mt_append (pv 3) (pa_cons (pe_tup (pa_cons (p_exn (k := 34) cf (by decide) (List.cons_ne_nil _ _) I34 hr rfl rfl (pa_cons (pv 0) pa_nil)) (pa_cons (p_exnK (k := 34) cf (by decide) (List.cons_ne_nil _ _) I34 hr rfl rfl (pk_cons (pv 0) pk_nil)) (pa_cons (pe_lamV TB rfl hm hu) (pa_cons (pe_lst (pa_cons (pv 0) pa_nil)) pa_nil))))) pa_nil)))
        (fun σ H M => M) (fun σ H ⟨F0, M⟩ => mk_exn (k := 34) rfl (by show 1 ≤ 1000; decide) (fun H' Q q => ⟨_, M.s0, q⟩)) (fun σ H ⟨F0, M⟩ => mk_exnK (k := 34) rfl (fun H' Q q => ⟨_, M.s0, q⟩)) (lam1 cf (by decide) rfl) (fun σ H F0 M H' Q q => ⟨_, M.s0, q⟩) (by decide))
      (rb_cons (row_of (P := P) (w := w) (mg := mg) (base := base) (T := T) (H0 := H) (vx := vx) (vy := vy) (vz := vz) (lo := 18) (i := 17) (by decide) (ps_expr (pe_bm PySem.F.plainAttrs_list PySem.F.slot_list_append PySem.F.type_list_append mt_append (pv 3) (pa_cons (pe_tup (pa_cons (p_exn (k := 35) cf (by decide) (List.cons_ne_nil _ _) I35 hr rfl rfl (pa_cons (pv 0) pa_nil)) (pa_cons (p_exnK (k := 35) cf (by decide) (List.cons_ne_nil _ _) I35 hr rfl rfl (pk_cons (pv 0) pk_nil)) (pa_cons (pe_lamV TB rfl hm hu) (pa_cons (pe_lst (pa_cons (pv 0) pa_nil)) pa_nil))))) pa_nil)))
        (fun σ H M => M) (fun σ H ⟨F0, M⟩ => mk_exn (k := 35) rfl (by show 1 ≤ 1000; decide) (fun H' Q q => ⟨_, M.s0, q⟩)) (fun σ H ⟨F0, M⟩ => mk_exnK (k := 35) rfl (fun H' Q q => ⟨_, M.s0, q⟩)) (lam1 cf (by decide) rfl) (fun σ H F0 M H' Q q => ⟨_, M.s0, q⟩) (by decide))
      (rb_ret (pv 3) fun σ H' Q M q' => by
        obtain ⟨F0, M⟩ := M
        obtain ⟨ws, h1, h2, h3⟩ := mi_end M
        exact ⟨.ref F0, M.s3, q' _ _ ⟨F0, ws, rfl, M.tb, h1, h2, h3⟩⟩)))))))))))))))))))
    obtain ⟨t, ht, hh⟩ := body
    refine ⟨_, pss_cons (ps_set (i := 3) scMade_b.nd rfl (Or.inl rfl) (pe_lst pa_nil)) ht, by show (0 : Nat) ≤ sizeLine; omega, fun F0 hF => ?_⟩
    refine hh _ _ _ ⟨F0, mi_start (N := ["x", "y", "z", "found"]) rfl rfl rfl (by show 3 < 4; omega) (fun z => by omega) tb hF⟩ fun v H' ⟨F1, ws, e1, h1, h2, h3, h4⟩ => ?_
    rw [e1]
    exact q F1 ws H' h4 h1 h2 h3
end
abbrev sMade_c : Stmt := top 58
theorem scMade_c : FnScope ["x", "y", "z", "found", "named"] ["x", "y", "z"] (defScope sMade_c) := ⟨rfl, rfl, rfl, by decide +kernel, rfl, by decide +kernel, by decide +kernel⟩
section
variable {P : Program} {w : World} {K : PySem.W.Frag} {mg : Str → Option Value} {base : Heap} {T : List (Addr × Str)}
theorem ok_made_c {f c tp : Addr} {fd : FuncData} (F : FunC K "_law_made_c" "_law_made_c" sMade_c f fd c) (cf : CF K mg) (TB : TabB base mg c tp) (hm : (tp, ("_law_made_c" : Str) ++ ".<locals>." ++ "<lambda>") ∈ T) (hu : ∀ p ∈ T, p.1 = tp → p.2 = ("_law_made_c" : Str) ++ ".<locals>." ++ "<lambda>") :
    FnOk P w K mg base CX0 3 f fd ["x", "y", "z"] (spMade P w K mg base T 36 14) := by
  refine F.ok scMade_c (fun vs H Q E h => ?_) (fun A outer s H vs Q E hr h => ?_)
  · obtain ⟨vx, vy, vz, rfl, _⟩ := h
    rfl
  · obtain ⟨vx, vy, vz, rfl, tb, q⟩ := h
    obtain ⟨fd36, I36⟩ := ini_all (P := P) (w := w) (base := base) cf 36 (by decide) (List.cons_ne_nil _ _)
    obtain ⟨fd37, I37⟩ := ini_all (P := P) (w := w) (base := base) cf 37 (by decide) (List.cons_ne_nil _ _)
    obtain ⟨fd38, I38⟩ := ini_all (P := P) (w := w) (base := base) cf 38 (by decide) (List.cons_ne_nil _ _)
    obtain ⟨fd41, I41⟩ := ini_all (P := P) (w := w) (base := base) cf 41 (by decide) (List.cons_ne_nil _ _)
    obtain ⟨fd42, I42⟩ := ini_all (P := P) (w := w) (base := base) cf 42 (by decide) (List.cons_ne_nil _ _)
    obtain ⟨fd45, I45⟩ := ini_all (P := P) (w := w) (base := base) cf 45 (by decide) (List.cons_ne_nil _ _)
    obtain ⟨fd47, I47⟩ := ini_all (P := P) (w := w) (base := base) cf 47 (by decide) (List.cons_ne_nil _ _)
    obtain ⟨fd48, I48⟩ := ini_all (P := P) (w := w) (base := base) cf 48 (by decide) (List.cons_ne_nil _ _)
    obtain ⟨fd49, I49⟩ := ini_all (P := P) (w := w) (base := base) cf 49 (by decide) (List.cons_ne_nil _ _)
    have body : RB (cxOf CX0 P w K mg base ["x", "y", "z", "found", "named"] "_law_made_c" (defScope sMade_c) f (.ref c) A outer s H E).nox ((defBody sMade_c).drop 1) (fun σ H' => ∃ F0, MI P w K mg base T H F0 vx vy vz 36 0 σ H') (fun v H' => ∃ F0 ws, v = .ref F0 ∧ Tabs T H' ∧ H' F0 = some (.lst ws) ∧ Made P w K mg base 36 14 vx vy vz H' ws ∧ ExtN H H') :=
      (rb_cons (row_of (P := P) (w := w) (mg := mg) (base := base) (T := T) (H0 := H) (vx := vx) (vy := vy) (vz := vz) (lo := 36) (i := 0) (by decide) (ps_expr (pe_bm PySem.F.plainAttrs_list PySem.F.slot_list_append PySem.F.type_list_append mt_append (pv 3) (pa_cons (pe_tup (pa_cons (p_exn (k := 36) cf (by decide) (List.cons_ne_nil _ _) I36 hr rfl rfl (pa_cons (pv 0) pa_nil)) (pa_cons (p_exnK (k := 36) cf (by decide) (List.cons_ne_nil _ _) I36 hr rfl rfl (pk_cons (pv 0) pk_nil)) (pa_cons (pe_lamV TB rfl hm hu) (pa_cons (pe_lst (pa_cons (pv 0) pa_nil)) pa_nil))))) pa_nil)))
        (fun σ H M => M) (fun σ H ⟨F0, M⟩ => mk_exn (k := 36) rfl (by show 1 ≤ 1000; decide) (fun H' Q q => ⟨_, M.s0, q⟩)) (fun σ H ⟨F0, M⟩ => mk_exnK (k := 36) rfl (fun H' Q q => ⟨_, M.s0, q⟩)) (lam1 cf (by decide) rfl) (fun σ H F0 M H' Q q => ⟨_, M.s0, q⟩) (by decide))
      (rb_cons (row_of (P := P) (w := w) (mg := mg) (base := base) (T := T) (H0 := H) (vx := vx) (vy := vy) (vz := vz) (lo := 36) (i := 1) (by decide) (ps_expr (pe_bm PySem.F.plainAttrs_list PySem.F.slot_list_append PySem.F.type_list_append mt_append (pv 3) (pa_cons (pe_tup (pa_cons (p_exn (k := 37) cf (by decide) (List.cons_ne_nil _ _) I37 hr rfl rfl (pa_cons (pv 0) pa_nil)) (pa_cons (p_exnK (k := 37) cf (by decide) (List.cons_ne_nil _ _) I37 hr rfl rfl (pk_cons (pv 0) pk_nil)) (pa_cons (pe_lamV TB rfl hm hu) (pa_cons (pe_lst (pa_cons (pv 0) pa_nil)) pa_nil))))) pa_nil)))
        (fun σ H M => M) (fun σ H ⟨F0, M⟩ => mk_exn (k := 37) rfl (by show 1 ≤ 1000; decide) (fun H' Q q => ⟨_, M.s0, q⟩)) (fun σ H ⟨F0, M⟩ => mk_exnK (k := 37) rfl (fun H' Q q => ⟨_, M.s0, q⟩)) (lam1 cf (by decide) rfl) (fun σ H F0 M H' Q q => ⟨_, M.s0, q⟩) (by decide))
      (rb_cons (row_of (P := P) (w := w) (mg := mg) (base := base) (T := T) (H0 := H) (vx := vx) (vy := vy) (vz := vz) (lo := 36) (i := 2) (by decide) (ps_expr (pe_bm PySem.F.plainAttrs_list PySem.F.slot_list_append PySem.F.type_list_append mt_append (pv 3) (pa_cons (pe_tup (pa_cons (p_exn (k := 38) cf (by decide) (List.cons_ne_nil _ _) I38 hr rfl rfl (pa_cons (pv 0) pa_nil)) (pa_cons (p_exnK (k := 38) cf (by decide) (List.cons_ne_nil _ _) I38 hr rfl rfl (pk_cons (pv 0) pk_nil)) (pa_cons (pe_lamV TB rfl hm hu) (pa_cons (pe_lst (pa_cons (pv 0) pa_nil)) pa_nil))))) pa_nil)))
        (fun σ H M => M) (fun σ H ⟨F0, M⟩ => mk_exn (k := 38) rfl (by show 1 ≤ 1000; decide) (fun H' Q q => ⟨_, M.s0, q⟩)) (fun σ H ⟨F0, M⟩ => mk_exnK (k := 38) rfl (fun H' Q q => ⟨_, M.s0, q⟩)) (lam1 cf (by decide) rfl) (fun σ H F0 M H' Q q => ⟨_, M.s0, q⟩) (by decide))
      (rb_cons (row_of (P := P) (w := w) (mg := mg) (base := base) (T := T) (H0 := H) (vx := vx) (vy := vy) (vz := vz) (lo := 36) (i := 3) (by decide) (ps_expr (pe_bm PySem.F.plainAttrs_list PySem.F.slot_list_append PySem.F.type_list_append mt_append (pv 3) (pa_cons (pe_tup (pa_cons (p_exn0 (k := 39) cf (by decide) rfl rfl rfl) (pa_cons (p_exn0 (k := 39) cf (by decide) rfl rfl rfl) (pa_cons (pe_lamV TB rfl hm hu) (pa_cons (pe_lst pa_nil) pa_nil))))) pa_nil)))
        (fun σ H M => M) (fun σ H M => mk_exn0 (k := 39) rfl) (fun σ H M => mk_exn0 (k := 39) rfl) (lam0 rfl) (fun σ H F0 M H' Q q => q) (by decide))
      (rb_cons (row_of (P := P) (w := w) (mg := mg) (base := base) (T := T) (H0 := H) (vx := vx) (vy := vy) (vz := vz) (lo := 36) (i := 4) (by decide) (ps_expr (pe_bm PySem.F.plainAttrs_list PySem.F.slot_list_append PySem.F.type_list_append mt_append (pv 3) (pa_cons (pe_tup (pa_cons (p_exn0 (k := 40) cf (by decide) rfl rfl rfl) (pa_cons (p_exn0 (k := 40) cf (by decide) rfl rfl rfl) (pa_cons (pe_lamV TB rfl hm hu) (pa_cons (pe_lst pa_nil) pa_nil))))) pa_nil)))
        (fun σ H M => M) (fun σ H M => mk_exn0 (k := 40) rfl) (fun σ H M => mk_exn0 (k := 40) rfl) (lam0 rfl) (fun σ H F0 M H' Q q => q) (by decide))
      (rb_cons (row_of (P := P) (w := w) (mg := mg) (base := base) (T := T) (H0 := H) (vx := vx) (vy := vy) (vz := vz) (lo := 36) (i := 5) (by decide) (ps_expr (pe_bm PySem.F.plainAttrs_list PySem.F.slot_list_append PySem.F.type_list_append mt_append (pv 3) (pa_cons (pe_tup (pa_cons (p_exn (k := 41) cf (by decide) (List.cons_ne_nil _ _) I41 hr rfl rfl (pa_cons (pv 0) pa_nil)) (pa_cons (p_exnK (k := 41) cf (by decide) (List.cons_ne_nil _ _) I41 hr rfl rfl (pk_cons (pv 0) pk_nil)) (pa_cons (pe_lamV TB rfl hm hu) (pa_cons (pe_lst (pa_cons (pv 0) pa_nil)) pa_nil))))) pa_nil)))
        (fun σ H M => M) (fun σ H ⟨F0, M⟩ => mk_exn (k := 41) rfl (by show 1 ≤ 1000; decide) (fun H' Q q => ⟨_, M.s0, q⟩)) (fun σ H ⟨F0, M⟩ => mk_exnK (k := 41) rfl (fun H' Q q => ⟨_, M.s0, q⟩)) (lam1 cf (by decide) rfl) (fun σ H F0 M H' Q q => ⟨_, M.s0, q⟩) (by decide))
      (rb_cons (row_of (P := P) (w := w) (mg := mg) (base := base) (T := T) (H0 := H) (vx := vx) (vy := vy) (vz := vz) (lo := 36) (i := 6) (by decide) (ps_expr (pe_bm PySem.F.plainAttrs_list PySem.F.slot_list_append PySem.F.type_list_append mt_append (pv 3) (pa_cons (pe_tup (pa_cons (p_exn (k := 42) cf (by decide) (List.cons_ne_nil _ _) I42 hr rfl rfl (pa_cons (pv 0) (pa_cons (pv 1) pa_nil))) (pa_cons (p_exnK (k := 42) cf (by decide) (List.cons_ne_nil _ _) I42 hr rfl rfl (pk_cons (pv 1) (pk_cons (pv 0) pk_nil))) (pa_cons (pe_lamV TB rfl hm hu) (pa_cons (pe_lst (pa_cons (pv 0) (pa_cons (pv 1) pa_nil))) pa_nil))))) pa_nil)))
        (fun σ H M => M) (fun σ H ⟨F0, M⟩ => mk_exn (k := 42) rfl (by show 2 ≤ 1000; decide) (fun H' Q q => ⟨_, M.s0, _, M.s1, q⟩)) (fun σ H ⟨F0, M⟩ => mk_exnK (k := 42) rfl (fun H' Q q => ⟨_, M.s1, _, M.s0, q⟩)) (lam2 cf (by decide) rfl) (fun σ H F0 M H' Q q => ⟨_, M.s0, _, M.s1, q⟩) (by decide))
      (rb_cons (row_of (P := P) (w := w) (mg := mg) (base := base) (T := T) (H0 := H) (vx := vx) (vy := vy) (vz := vz) (lo := 36) (i := 7) (by decide) (ps_expr (pe_bm PySem.F.plainAttrs_list PySem.F.slot_list_append PySem.F.type_list_append mt_append (pv 3) (pa_cons (pe_tup (pa_cons (p_exn0 (k := 43) cf (by decide) rfl rfl rfl) (pa_cons (p_exn0 (k := 43) cf (by decide) rfl rfl rfl) (pa_cons (pe_lamV TB rfl hm hu) (pa_cons (pe_lst pa_nil) pa_nil))))) pa_nil)))
        (fun σ H M => M) (fun σ H M => mk_exn0 (k := 43) rfl) (fun σ H M => mk_exn0 (k := 43) rfl) (lam0 rfl) (fun σ H F0 M H' Q q => q) (by decide))
      (rb_cons (row_of (P := P) (w := w) (mg := mg) (base := base) (T := T) (H0 := H) (vx := vx) (vy := vy) (vz := vz) (lo := 36) (i := 8) (by decide) (ps_expr (pe_bm PySem.F.plainAttrs_list PySem.F.slot_list_append PySem.F.type_list_append mt_append (pv 3) (pa_cons (pe_tup (pa_cons (p_exn0 (k := 44) cf (by decide) rfl rfl rfl) (pa_cons (p_exn0 (k := 44) cf (by decide) rfl rfl rfl) (pa_cons (pe_lamV TB rfl hm hu) (pa_cons (pe_lst pa_nil) pa_nil))))) pa_nil)))
        (fun σ H M => M) (fun σ H M => mk_exn0 (k := 44) rfl) (fun σ H M => mk_exn0 (k := 44) rfl) (lam0 rfl) (fun σ H F0 M H' Q q => q) (by decide))
      (rb_cons (B := fun σ H' => (∃ F0, MI P w K mg base T H F0 vx vy vz 36 9 σ H') ∧ ∃ e, σ[4]? = some (some (.ref e)) ∧ FE K 45 H' e (due vx vy vz 45)) (rs_of (ps_set (i := 4) scMade_c.nd rfl (Or.inl rfl) (p_exnK (k := 45) cf (by decide) (List.cons_ne_nil _ _) I45 hr rfl rfl (pk_cons (pv 2) (pk_cons (pv 1) (pk_cons (pv 0) pk_nil)))))
        fun D σ Hs ⟨F0, M⟩ k => mk_exnK (k := 45) (xs := due vx vy vz 45) (H0 := Hs) rfl (fun H' Q q => ⟨_, M.s2, _, M.s1, _, M.s0, q⟩) Hs (ExtN.refl Hs) _ fun e H' x fe => k _ _ ⟨⟨F0, (mi_named rfl M x fe).1⟩, (mi_named rfl M x fe).2⟩)
      (rb_cons (row_of (P := P) (w := w) (mg := mg) (base := base) (T := T) (H0 := H) (vx := vx) (vy := vy) (vz := vz) (lo := 36) (i := 9) (by decide) (ps_expr (pe_bm PySem.F.plainAttrs_list PySem.F.slot_list_append PySem.F.type_list_append mt_append (pv 3) (pa_cons (pe_tup (pa_cons (p_exn (k := 45) cf (by decide) (List.cons_ne_nil _ _) I45 hr rfl rfl (pa_cons (pv 0) (pa_cons (pv 1) (pa_cons (pv 2) pa_nil)))) (pa_cons (pv 4) (pa_cons (pe_lamV TB rfl hm hu) (pa_cons (pe_lst (pa_cons (pv 0) (pa_cons (pv 1) (pa_cons (pv 2) pa_nil)))) pa_nil))))) pa_nil)))
        (fun σ H M => M.1) (fun σ H ⟨⟨F0, M⟩, _⟩ => mk_exn (k := 45) rfl (by show 3 ≤ 1000; decide) (fun H' Q q => ⟨_, M.s0, _, M.s1, _, M.s2, q⟩)) (fun σ H M H1 x Q q => by obtain ⟨e, h4, fe⟩ := M.2; exact ⟨.ref e, h4, q e H1 (fun _ _ z => z) (fe.keepN x)⟩) (lam3 cf (by decide) rfl) (fun σ H F0 M H' Q q => ⟨_, M.s0, _, M.s1, _, M.s2, q⟩) (by decide))
      (rb_cons (row_of (P := P) (w := w) (mg := mg) (base := base) (T := T) (H0 := H) (vx := vx) (vy := vy) (vz := vz) (lo := 36) (i := 10) (by decide) (ps_expr (pe_bm PySem.F.plainAttrs_list PySem.F.slot_list_append PySem.F.type_list_append mt_append (pv 3) (pa_cons (pe_tup (pa_cons (p_exn0 (k := 46) cf (by decide) rfl rfl rfl) (pa_cons (p_exn0 (k := 46) cf (by decide) rfl rfl rfl) (pa_cons (pe_lamV TB rfl hm hu) (pa_cons (pe_lst pa_nil) pa_nil))))) pa_nil)))
        (fun σ H M => M) (fun σ H M => mk_exn0 (k := 46) rfl) (fun σ H M => mk_exn0 (k := 46) rfl) (lam0 rfl) (fun σ H F0 M H' Q q => q) (by decide))
      (rb_cons (row_of (P := P) (w := w) (mg := mg) (base := base) (T := T) (H0 := H) (vx := vx) (vy := vy) (vz := vz) (lo := 36) (i := 11) (by decide) (ps_expr (pe_bm PySem.F.plainAttrs_list PySem.F.slot_list_append PySem.F.type_list_append mt_append (pv 3) (pa_cons (pe_tup (pa_cons (p_exn (k := 47) cf (by decide) (List.cons_ne_nil _ _) I47 hr rfl rfl (pa_cons (pv 0) pa_nil)) (pa_cons (p_exnK (k := 47) cf (by decide) (List.cons_ne_nil _ _) I47 hr rfl rfl (pk_cons (pv 0) pk_nil)) (pa_cons (pe_lamV TB rfl hm hu) (pa_cons (pe_lst (pa_cons (pv 0) pa_nil)) pa_nil))))) pa_nil)))
        (fun σ H M => M) (fun σ H ⟨F0, M⟩ => mk_exn (k := 47) rfl (by show 1 ≤ 1000; decide) (fun H' Q q => ⟨_, M.s0, q⟩)) (fun σ H ⟨F0, M⟩ => mk_exnK (k := 47) rfl (fun H' Q q => ⟨_, M.s0, q⟩)) (lam1 cf (by decide) rfl) (fun σ H F0 M H' Q q => ⟨_, M.s0, q⟩) (by decide))
      (rb_cons (row_of (P := P) (w := w) (mg := mg) (base := base) (T := T) (H0 := H) (vx := vx) (vy := vy) (vz := vz) (lo := 36) (i := 12) (by decide) (ps_expr (pe_bm PySem.F.plainAttrs_list PySem.F.slot_list_append PySem.F.type_list_append mt_append (pv 3) (pa_cons (pe_tup (pa_cons (p_exn (k := 48) cf (by decide) (List.cons_ne_nil _ _) I48 hr rfl rfl (pa_cons (pv 0) pa_nil)) (pa_cons (p_exnK (k := 48) cf (by decide) (List.cons_ne_nil _ _) I48 hr rfl rfl (pk_cons (pv 0) pk_nil)) (pa_cons (pe_lamV TB rfl hm hu) (pa_cons (pe_lst (pa_cons (pv 0) pa_nil)) pa_nil))))) pa_nil)))
        (fun σ H M => M) (fun σ H ⟨F0, M⟩ => mk_exn (k := 48) rfl (by show 1 ≤ 1000; decide) (fun H' Q q => ⟨_, M.s0, q⟩)) (fun σ H ⟨F0, M⟩ => mk_exnK (k := 48) rfl (fun H' Q q => ⟨_, M.s0, q⟩)) (lam1 cf (by decide) rfl) (fun σ H F0 M H' Q q => ⟨_, M.s0, q⟩) (by decide))
      (rb_cons (row_of (P := P) (w := w) (mg := mg) (base := base) (T := T) (H0 := H) (vx := vx) (vy := vy) (vz := vz) (lo := 36) (i := 13) (by decide) (ps_expr (pe_bm PySem.F.plainAttrs_list PySem.F.slot_list_append PySem.F.type_list_append mt_append (pv 3) (pa_cons (pe_tup (pa_cons (p_exn (k := 49) cf (by decide) (List.cons_ne_nil _ _) I49 hr rfl rfl (pa_cons (pv 0) pa_nil)) (pa_cons (p_exnK (k := 49) cf (by decide) (List.cons_ne_nil _ _) I49 hr rfl rfl (pk_cons (pv 0) pk_nil)) (pa_cons (pe_lamV TB rfl hm hu) (pa_cons (pe_lst (pa_cons (pv 0) pa_nil)) pa_nil))))) pa_nil)))
        (fun σ H M => M) (fun σ H ⟨F0, M⟩ => mk_exn (k := 49) rfl (by show 1 ≤ 1000; decide) (fun H' Q q => ⟨_, M.s0, q⟩)) (fun σ H ⟨F0, M⟩ => mk_exnK (k := 49) rfl (fun H' Q q => ⟨_, M.s0, q⟩)) (lam1 cf (by decide) rfl) (fun σ H F0 M H' Q q => ⟨_, M.s0, q⟩) (by decide))
      (rb_ret (pv 3) fun σ H' Q M q' => by
        obtain ⟨F0, M⟩ := M
        obtain ⟨ws, h1, h2, h3⟩ := mi_end M
        exact ⟨.ref F0, M.s3, q' _ _ ⟨F0, ws, rfl, M.tb, h1, h2, h3⟩⟩))))))))))))))))
    obtain ⟨t, ht, hh⟩ := body
    refine ⟨_, pss_cons (ps_set (i := 3) scMade_c.nd rfl (Or.inl rfl) (pe_lst pa_nil)) ht, by show (0 : Nat) ≤ sizeLine; omega, fun F0 hF => ?_⟩
    refine hh _ _ _ ⟨F0, mi_start (N := ["x", "y", "z", "found", "named"]) rfl rfl rfl (by show 3 < 5; omega) (fun z => by show 4 < 5; omega) tb hF⟩ fun v H' ⟨F1, ws, e1, h1, h2, h3, h4⟩ => ?_
    rw [e1]
    exact q F1 ws H' h4 h1 h2 h3
end
end K00
set_option Elab.async false
set_option maxRecDepth 100000
set_option maxHeartbeats 4000000
set_option linter.all false
/-! what an error is an instance of (printed by gen_kinds.py) -/
namespace K00
open PySem PySem.Spec PyProof.Rows L2 XV LamV LamX ReprV
/-- of n classes from lo on: which is class k -/
def bls (lo n k : Nat) : List V := (List.range n).map fun i => .bl (decide (lo + i = k))
theorem bls_succ (lo n k : Nat) : bls lo (n + 1) k = bls lo n k ++ [.bl (decide (lo + n = k))] := by
  unfold bls
  rw [List.range_succ, List.map_append]
  rfl
theorem bls_len (lo n k : Nat) : (bls lo n k).length = n := by
  unfold bls
  rw [List.length_map, List.length_range]
theorem bls_app (lo n m k : Nat) : bls lo n k ++ bls (lo + n) m k = bls lo (n + m) k := by
  induction m with
  | zero => exact List.append_nil _
  | succ m ih => rw [bls_succ, ← List.append_assoc, ih, ← Nat.add_assoc, bls_succ, Nat.add_assoc]
def spKinds (K : PySem.W.Frag) (lo n : Nat) : Sp := fun vs H Q _ => ∃ (e : Addr) (k : Nat), vs = [.ref e] ∧ k < 51 ∧ ExA H e (cA K k) ∧ ∀ (F : Addr) (H' : Hp), H F = none → H' F = some (.lst (bls lo n k)) → Ext H H' → Q (.ref F) H'
structure KI (K : PySem.W.Frag) (H0 : Hp) (e : Addr) (lo k i : Nat) (σ : L2.St) (H : Hp) : Prop where
  at_ : ∃ F : Addr, σ[0]? = some (some (.ref e)) ∧ σ[1]? = some (some (.ref F)) ∧ H F = some (.lst (bls lo i k)) ∧ H0 F = none ∧ Ext H0 H
def isT (K : PySem.W.Frag) (j : Nat) : TE := tCB (rIsX K) (tCons (tVar 0) (tCons (tC (.ref (cA K j))) tNil))
theorem isT_run {K : PySem.W.Frag} {mg : Str → Option Value} {σ : L2.St} {H : Hp} {Q : VK} {e : Addr} {k j : Nat} (cf : CF K mg) (hk : k < 51) (hj : j < 50) (h0 : σ[0]? = some (some (.ref e))) (x : ExA H e (cA K k)) (q : Q (.bl (decide (j = k))) H) : isT K j σ H Q := by
  refine ⟨.ref e, h0, e, cA K k, .ref (cA K j), .ref (cA K j), decide (j = k), rfl, .own _, x, cf.exc k hk, ?_, q⟩
  rw [cf.kit k j hk (by omega), show decide (j = 50) = false from decide_eq_false (by omega), Bool.or_false]
  by_cases h : j = k
  · rw [decide_eq_true h, decide_eq_true h.symm]
  · rw [decide_eq_false h, decide_eq_false (Ne.symm h)]
section
variable {X : Cx} {j : Nat} {p p1 p2 pos : Pos} {x : Str}
theorem p_is (cf : CF X.K X.mg) (mi : X.mg "isinstance" = none) (hj : j < 51) (hx : x = cn j) (hN : X.N[0]? = some ("e" : Str)) (hv : Vis X.env.scope "e") (hg : Gl X "isinstance") (hg2 : Gl X x) (hdb : (x == ("__debug__" : Str)) = false := by decide)
    (he : starEach [.Name "e" p1, .Name x p2] X.env = (false, eval (.Name "e" p1) X.env) :: starEach [.Name x p2] X.env := by rfl) (he2 : starEach [.Name x p2] X.env = (false, eval (.Name x p2) X.env) :: starEach [] X.env := by rfl) (hpl : (backTo pos (starEach [.Name x p2] X.env)).any (·.1) = false := by rfl) :
    PE X (.Call (.Name "isinstance" p) [.Name "e" p1, .Name x p2] [] pos) (isT X.K j) :=
  pe_callB call_isX hg mi boot_isinstance (pa_cons (pe_var hN hv) (pa_cons (pe_glob hg2 (by rw [hx]; exact cf.mg j hj) rfl hdb) pa_nil)) (he := he) (hpl := hpl)
end
def kindT (K : PySem.W.Frag) (j : Nat) : TS := tDrop (tBM K "list" rExtend (tVar 1) (tCons (tLst (tCons (isT K j) (tCons (isT K (j + 1)) tNil))) tNil))
theorem kind_of {K : PySem.W.Frag} {mg : Str → Option Value} {X : Cx} {st : Stmt} {H0 : Hp} {e : Addr} {lo k i : Nat} (cf : CF K mg) (hk : k < 51) (hi : lo + i + 1 < 50) (x : ExA H0 e (cA K k)) (p : PS X st (kindT K (lo + i))) : RS X st (KI K H0 e lo k i) (KI K H0 e lo k (i + 2)) := by
  refine rs_of p fun D σ H a q => ?_
  obtain ⟨F, s0, s1, hF, f0, ext⟩ := a.at_
  refine ⟨.ref F, s1, Or.inl ⟨rfl, _, SqL.of hF⟩, ?_⟩
  refine isT_run cf hk (by omega) s0 (x.keep ext) (isT_run cf hk (by omega) s0 (x.keep ext) ⟨by show 2 ≤ sizeLine; decide, fun l hl => ?_⟩)
  have nl : F ≠ l := ne_of_none hF hl
  refine ⟨F, l, _, _, rfl, rfl, by rw [upd_ne nl]; exact hF, upd_same, ?_, ?_⟩
  · rw [bls_len, sizeLine_eq]
    show i + 2 ≤ _
    omega
  · refine q σ _ ⟨F, s0, s1, ?_, f0, fun b o hb => ?_⟩
    · rw [upd_same, bls_succ, bls_succ, List.append_assoc]
      rfl
    · rw [upd_ne (ne_of_none hb f0), upd_ne (ne_of_none (ext _ _ hb) hl)]
      exact ext _ _ hb
abbrev sKinds_a : Stmt := top 59
theorem scKinds_a : FnScope ["e", "found"] ["e"] (defScope sKinds_a) := ⟨rfl, rfl, rfl, by decide +kernel, rfl, by decide +kernel, by decide +kernel⟩
theorem ok_kinds_a {P : Program} {w : World} {K : PySem.W.Frag} {mg : Str → Option Value} {base : Heap} {f : Addr} {fd : FuncData} (F : Fun K "_law_kinds_a" "_law_kinds_a" sKinds_a f fd) (cf : CF K mg) (mi : mg "isinstance" = none) :
    FnOk P w K mg base CX0 1 f fd ["e"] (spKinds K 0 18) := by
  refine F.ok scKinds_a (fun vs H Q E h => ?_) (fun cdv A outer s H vs Q E hr h => ?_)
  · obtain ⟨e, k, rfl, _⟩ := h
    rfl
  · obtain ⟨e, k, rfl, hk, x, q⟩ := h
    have body : RB (cxOf CX0 P w K mg base ["e", "found"] "_law_kinds_a" (defScope sKinds_a) f cdv A outer s H E).nox ((defBody sKinds_a).drop 1) (KI K H e 0 k 0) (fun v H' => ∃ F, v = .ref F ∧ H F = none ∧ H' F = some (.lst (bls 0 18 k)) ∧ Ext H H') :=
      (rb_cons (kind_of (lo := 0) (i := 0) cf hk (by decide) x (ps_expr (pe_bm PySem.F.plainAttrs_list PySem.F.slot_list_extend PySem.F.type_list_extend mt_extend (pv 1) (pa_cons (pe_lst (pa_cons (p_is (j := 0) cf mi (by decide) rfl rfl (Or.inl rfl) rfl rfl) (pa_cons (p_is (j := 1) cf mi (by decide) rfl rfl (Or.inl rfl) rfl rfl) pa_nil))) pa_nil))))
      (rb_cons (kind_of (lo := 0) (i := 2) cf hk (by decide) x (ps_expr (pe_bm PySem.F.plainAttrs_list PySem.F.slot_list_extend PySem.F.type_list_extend mt_extend (pv 1) (pa_cons (pe_lst (pa_cons (p_is (j := 2) cf mi (by decide) rfl rfl (Or.inl rfl) rfl rfl) (pa_cons (p_is (j := 3) cf mi (by decide) rfl rfl (Or.inl rfl) rfl rfl) pa_nil))) pa_nil))))
      (rb_cons (kind_of (lo := 0) (i := 4) cf hk (by decide) x (ps_expr (pe_bm PySem.F.plainAttrs_list PySem.F.slot_list_extend PySem.F.type_list_extend mt_extend (pv 1) (pa_cons (pe_lst (pa_cons (p_is (j := 4) cf mi (by decide) rfl rfl (Or.inl rfl) rfl rfl) (pa_cons (p_is (j := 5) cf mi (by decide) rfl rfl (Or.inl rfl) rfl rfl) pa_nil))) pa_nil))))
      (rb_cons (kind_of (lo := 0) (i := 6) cf hk (by decide) x (ps_expr (pe_bm PySem.F.plainAttrs_list PySem.F.slot_list_extend PySem.F.type_list_extend mt_extend (pv 1) (pa_cons (pe_lst (pa_cons (p_is (j := 6) cf mi (by decide) rfl rfl (Or.inl rfl) rfl rfl) (pa_cons (p_is (j := 7) cf mi (by decide) rfl rfl (Or.inl rfl) rfl rfl) pa_nil))) pa_nil))))
      (rb_cons (kind_of (lo := 0) (i := 8) cf hk (by decide) x (ps_expr (pe_bm PySem.F.plainAttrs_list PySem.F.slot_list_extend PySem.F.type_list_extend mt_extend (pv 1) (pa_cons (pe_lst (pa_cons (p_is (j := 8) cf mi (by decide) rfl rfl (Or.inl rfl) rfl rfl) (pa_cons (p_is (j := 9) cf mi (by decide) rfl rfl (Or.inl rfl) rfl rfl) pa_nil))) pa_nil))))
      (rb_cons (kind_of (lo := 0) (i := 10) cf hk (by decide) x (ps_expr (pe_bm PySem.F.plainAttrs_list PySem.F.slot_list_extend PySem.F.type_list_extend mt_extend (pv 1) (pa_cons (pe_lst (pa_cons (p_is (j := 10) cf mi (by decide) rfl rfl (Or.inl rfl) rfl rfl) (pa_cons (p_is (j := 11) cf mi (by decide) rfl rfl (Or.inl rfl) rfl rfl) pa_nil))) pa_nil))))
      (rb_cons (kind_of (lo := 0) (i := 12) cf hk (by decide) x (ps_expr (pe_bm PySem.F.plainAttrs_list PySem.F.slot_list_extend PySem.F.type_list_extend mt_extend (pv 1) (pa_cons (pe_lst (pa_cons (p_is (j := 12) cf mi (by decide) rfl rfl (Or.inl rfl) rfl rfl) (pa_cons (p_is (j := 13) cf mi (by decide) rfl rfl (Or.inl rfl) rfl rfl) pa_nil))) pa_nil))))
      (rb_cons (kind_of (lo := 0) (i := 14) cf hk (by decide) x (ps_expr (pe_bm PySem.F.plainAttrs_list PySem.F.slot_list_extend PySem.F.type_list_extend mt_extend (pv 1) (pa_cons (pe_lst (pa_cons (p_is (j := 14) cf mi (by decide) rfl rfl (Or.inl rfl) rfl rfl) (pa_cons (p_is (j := 15) cf mi (by decide) rfl rfl (Or.inl rfl) rfl rfl) pa_nil))) pa_nil))))
      (rb_cons (kind_of (lo := 0) (i := 16) cf hk (by decide) x (ps_expr (pe_bm PySem.F.plainAttrs_list PySem.F.slot_list_extend PySem.F.type_list_extend mt_extend (pv 1) (pa_cons (pe_lst (pa_cons (p_is (j := 16) cf mi (by decide) rfl rfl (Or.inl rfl) rfl rfl) (pa_cons (p_is (j := 17) cf mi (by decide) rfl rfl (Or.inl rfl) rfl rfl) pa_nil))) pa_nil))))
      (rb_ret (pv 1) fun σ H' Q M q' => by
        obtain ⟨F0, _, s1, h1, h2, h3⟩ := M.at_
        exact ⟨.ref F0, s1, q' _ _ ⟨F0, rfl, h2, h1, h3⟩⟩))))))))))
    obtain ⟨t, ht, hh⟩ := body
    refine ⟨_, pss_cons (ps_set (i := 1) scKinds_a.nd rfl (Or.inl rfl) (pe_lst pa_nil)) ht, by show (0 : Nat) ≤ sizeLine; omega, fun F0 hF => ?_⟩
    exact hh _ _ _ ⟨F0, rfl, rfl, upd_same, hF, ext_new hF⟩ fun v H' ⟨F1, e1, h1, h2, h3⟩ => by rw [e1]; exact q F1 H' h1 h2 h3
abbrev sKinds_b : Stmt := top 60
theorem scKinds_b : FnScope ["e", "found"] ["e"] (defScope sKinds_b) := ⟨rfl, rfl, rfl, by decide +kernel, rfl, by decide +kernel, by decide +kernel⟩
theorem ok_kinds_b {P : Program} {w : World} {K : PySem.W.Frag} {mg : Str → Option Value} {base : Heap} {f : Addr} {fd : FuncData} (F : Fun K "_law_kinds_b" "_law_kinds_b" sKinds_b f fd) (cf : CF K mg) (mi : mg "isinstance" = none) :
    FnOk P w K mg base CX0 1 f fd ["e"] (spKinds K 18 18) := by
  refine F.ok scKinds_b (fun vs H Q E h => ?_) (fun cdv A outer s H vs Q E hr h => ?_)
  · obtain ⟨e, k, rfl, _⟩ := h
    rfl
  · obtain ⟨e, k, rfl, hk, x, q⟩ := h
    have body : RB (cxOf CX0 P w K mg base ["e", "found"] "_law_kinds_b" (defScope sKinds_b) f cdv A outer s H E).nox ((defBody sKinds_b).drop 1) (KI K H e 18 k 0) (fun v H' => ∃ F, v = .ref F ∧ H F = none ∧ H' F = some (.lst (bls 18 18 k)) ∧ Ext H H') :=
      (rb_cons (kind_of (lo := 18) (i := 0) cf hk (by decide) x (ps_expr (pe_bm PySem.F.plainAttrs_list PySem.F.slot_list_extend PySem.F.type_list_extend mt_extend (pv 1) (pa_cons (pe_lst (pa_cons (p_is (j := 18) cf mi (by decide) rfl rfl (Or.inl rfl) rfl rfl) (pa_cons (p_is (j := 19) cf mi (by decide) rfl rfl (Or.inl rfl) rfl rfl) pa_nil))) pa_nil))))
      (rb_cons (kind_of (lo := 18) (i := 2) cf hk (by decide) x (ps_expr (pe_bm PySem.F.plainAttrs_list PySem.F.slot_list_extend PySem.F.type_list_extend mt_extend (pv 1) (pa_cons (pe_lst (pa_cons (p_is (j := 20) cf mi (by decide) rfl rfl (Or.inl rfl) rfl rfl) (pa_cons (p_is (j := 21) cf mi (by decide) rfl rfl (Or.inl rfl) rfl rfl) pa_nil))) pa_nil))))
      (rb_cons (kind_of (lo := 18) (i := 4) cf hk (by decide) x (ps_expr (pe_bm PySem.F.plainAttrs_list PySem.F.slot_list_extend PySem.F.type_list_extend mt_extend (pv 1) (pa_cons (pe_lst (pa_cons (p_is (j := 22) cf mi (by decide) rfl rfl (Or.inl rfl) rfl rfl) (pa_cons (p_is (j := 23) cf mi (by decide) rfl rfl (Or.inl rfl) rfl rfl) pa_nil))) pa_nil))))
      (rb_cons (kind_of (lo := 18) (i := 6) cf hk (by decide) x (ps_expr (pe_bm PySem.F.plainAttrs_list PySem.F.slot_list_extend PySem.F.type_list_extend mt_extend (pv 1) (pa_cons (pe_lst (pa_cons (p_is (j := 24) cf mi (by decide) rfl rfl (Or.inl rfl) rfl rfl) (pa_cons (p_is (j := 25) cf mi (by decide) rfl rfl (Or.inl rfl) rfl rfl) pa_nil))) pa_nil))))
      (rb_cons (kind_of (lo := 18) (i := 8) cf hk (by decide) x (ps_expr (pe_bm PySem.F.plainAttrs_list PySem.F.slot_list_extend PySem.F.type_list_extend mt_extend (pv 1) (pa_cons (pe_lst (pa_cons (p_is (j := 26) cf mi (by decide) rfl rfl (Or.inl rfl) rfl rfl) (pa_cons (p_is (j := 27) cf mi (by decide) rfl rfl (Or.inl rfl) rfl rfl) pa_nil))) pa_nil))))
      (rb_cons (kind_of (lo := 18) (i := 10) cf hk (by decide) x (ps_expr (pe_bm PySem.F.plainAttrs_list PySem.F.slot_list_extend PySem.F.type_list_extend mt_extend (pv 1) (pa_cons (pe_lst (pa_cons (p_is (j := 28) cf mi (by decide) rfl rfl (Or.inl rfl) rfl rfl) (pa_cons (p_is (j := 29) cf mi (by decide) rfl rfl (Or.inl rfl) rfl rfl) pa_nil))) pa_nil))))
      (rb_cons (kind_of (lo := 18) (i := 12) cf hk (by decide) x (ps_expr (pe_bm PySem.F.plainAttrs_list PySem.F.slot_list_extend PySem.F.type_list_extend mt_extend (pv 1) (pa_cons (pe_lst (pa_cons (p_is (j := 30) cf mi (by decide) rfl rfl (Or.inl rfl) rfl rfl) (pa_cons (p_is (j := 31) cf mi (by decide) rfl rfl (Or.inl rfl) rfl rfl) pa_nil))) pa_nil))))
      (rb_cons (kind_of (lo := 18) (i := 14) cf hk (by decide) x (ps_expr (pe_bm PySem.F.plainAttrs_list PySem.F.slot_list_extend PySem.F.type_list_extend mt_extend (pv 1) (pa_cons (pe_lst (pa_cons (p_is (j := 32) cf mi (by decide) rfl rfl (Or.inl rfl) rfl rfl) (pa_cons (p_is (j := 33) cf mi (by decide) rfl rfl (Or.inl rfl) rfl rfl) pa_nil))) pa_nil))))
      (rb_cons (kind_of (lo := 18) (i := 16) cf hk (by decide) x (ps_expr (pe_bm PySem.F.plainAttrs_list PySem.F.slot_list_extend PySem.F.type_list_extend mt_extend (pv 1) (pa_cons (pe_lst (pa_cons (p_is (j := 34) cf mi (by decide) rfl rfl (Or.inl rfl) rfl rfl) (pa_cons (p_is (j := 35) cf mi (by decide) rfl rfl (Or.inl rfl) rfl rfl) pa_nil))) pa_nil))))
      (rb_ret (pv 1) fun σ H' Q M q' => by
        obtain ⟨F0, _, s1, h1, h2, h3⟩ := M.at_
        exact ⟨.ref F0, s1, q' _ _ ⟨F0, rfl, h2, h1, h3⟩⟩))))))))))
    obtain ⟨t, ht, hh⟩ := body
    refine ⟨_, pss_cons (ps_set (i := 1) scKinds_b.nd rfl (Or.inl rfl) (pe_lst pa_nil)) ht, by show (0 : Nat) ≤ sizeLine; omega, fun F0 hF => ?_⟩
    exact hh _ _ _ ⟨F0, rfl, rfl, upd_same, hF, ext_new hF⟩ fun v H' ⟨F1, e1, h1, h2, h3⟩ => by rw [e1]; exact q F1 H' h1 h2 h3
abbrev sKinds_c : Stmt := top 61
theorem scKinds_c : FnScope ["e", "found"] ["e"] (defScope sKinds_c) := ⟨rfl, rfl, rfl, by decide +kernel, rfl, by decide +kernel, by decide +kernel⟩
theorem ok_kinds_c {P : Program} {w : World} {K : PySem.W.Frag} {mg : Str → Option Value} {base : Heap} {f : Addr} {fd : FuncData} (F : Fun K "_law_kinds_c" "_law_kinds_c" sKinds_c f fd) (cf : CF K mg) (mi : mg "isinstance" = none) :
    FnOk P w K mg base CX0 1 f fd ["e"] (spKinds K 36 14) := by
  refine F.ok scKinds_c (fun vs H Q E h => ?_) (fun cdv A outer s H vs Q E hr h => ?_)
  · obtain ⟨e, k, rfl, _⟩ := h
    rfl
  · obtain ⟨e, k, rfl, hk, x, q⟩ := h
    have body : RB (cxOf CX0 P w K mg base ["e", "found"] "_law_kinds_c" (defScope sKinds_c) f cdv A outer s H E).nox ((defBody sKinds_c).drop 1) (KI K H e 36 k 0) (fun v H' => ∃ F, v = .ref F ∧ H F = none ∧ H' F = some (.lst (bls 36 14 k)) ∧ Ext H H') :=
      (rb_cons (kind_of (lo := 36) (i := 0) cf hk (by decide) x (ps_expr (pe_bm PySem.F.plainAttrs_list PySem.F.slot_list_extend PySem.F.type_list_extend mt_extend (pv 1) (pa_cons (pe_lst (pa_cons (p_is (j := 36) cf mi (by decide) rfl rfl (Or.inl rfl) rfl rfl) (pa_cons (p_is (j := 37) cf mi (by decide) rfl rfl (Or.inl rfl) rfl rfl) pa_nil))) pa_nil))))
      (rb_cons (kind_of (lo := 36) (i := 2) cf hk (by decide) x (ps_expr (pe_bm PySem.F.plainAttrs_list PySem.F.slot_list_extend PySem.F.type_list_extend mt_extend (pv 1) (pa_cons (pe_lst (pa_cons (p_is (j := 38) cf mi (by decide) rfl rfl (Or.inl rfl) rfl rfl) (pa_cons (p_is (j := 39) cf mi (by decide) rfl rfl (Or.inl rfl) rfl rfl) pa_nil))) pa_nil))))
      (rb_cons (kind_of (lo := 36) (i := 4) cf hk (by decide) x (ps_expr (pe_bm PySem.F.plainAttrs_list PySem.F.slot_list_extend PySem.F.type_list_extend mt_extend (pv 1) (pa_cons (pe_lst (pa_cons (p_is (j := 40) cf mi (by decide) rfl rfl (Or.inl rfl) rfl rfl) (pa_cons (p_is (j := 41) cf mi (by decide) rfl rfl (Or.inl rfl) rfl rfl) pa_nil))) pa_nil))))
      (rb_cons (kind_of (lo := 36) (i := 6) cf hk (by decide) x (ps_expr (pe_bm PySem.F.plainAttrs_list PySem.F.slot_list_extend PySem.F.type_list_extend mt_extend (pv 1) (pa_cons (pe_lst (pa_cons (p_is (j := 42) cf mi (by decide) rfl rfl (Or.inl rfl) rfl rfl) (pa_cons (p_is (j := 43) cf mi (by decide) rfl rfl (Or.inl rfl) rfl rfl) pa_nil))) pa_nil))))
      (rb_cons (kind_of (lo := 36) (i := 8) cf hk (by decide) x (ps_expr (pe_bm PySem.F.plainAttrs_list PySem.F.slot_list_extend PySem.F.type_list_extend mt_extend (pv 1) (pa_cons (pe_lst (pa_cons (p_is (j := 44) cf mi (by decide) rfl rfl (Or.inl rfl) rfl rfl) (pa_cons (p_is (j := 45) cf mi (by decide) rfl rfl (Or.inl rfl) rfl rfl) pa_nil))) pa_nil))))
      (rb_cons (kind_of (lo := 36) (i := 10) cf hk (by decide) x (ps_expr (pe_bm PySem.F.plainAttrs_list PySem.F.slot_list_extend PySem.F.type_list_extend mt_extend (pv 1) (pa_cons (pe_lst (pa_cons (p_is (j := 46) cf mi (by decide) rfl rfl (Or.inl rfl) rfl rfl) (pa_cons (p_is (j := 47) cf mi (by decide) rfl rfl (Or.inl rfl) rfl rfl) pa_nil))) pa_nil))))
      (rb_cons (kind_of (lo := 36) (i := 12) cf hk (by decide) x (ps_expr (pe_bm PySem.F.plainAttrs_list PySem.F.slot_list_extend PySem.F.type_list_extend mt_extend (pv 1) (pa_cons (pe_lst (pa_cons (p_is (j := 48) cf mi (by decide) rfl rfl (Or.inl rfl) rfl rfl) (pa_cons (p_is (j := 49) cf mi (by decide) rfl rfl (Or.inl rfl) rfl rfl) pa_nil))) pa_nil))))
      (rb_ret (pv 1) fun σ H' Q M q' => by
        obtain ⟨F0, _, s1, h1, h2, h3⟩ := M.at_
        exact ⟨.ref F0, s1, q' _ _ ⟨F0, rfl, h2, h1, h3⟩⟩))))))))
    obtain ⟨t, ht, hh⟩ := body
    refine ⟨_, pss_cons (ps_set (i := 1) scKinds_c.nd rfl (Or.inl rfl) (pe_lst pa_nil)) ht, by show (0 : Nat) ≤ sizeLine; omega, fun F0 hF => ?_⟩
    exact hh _ _ _ ⟨F0, rfl, rfl, upd_same, hF, ext_new hF⟩ fun v H' ⟨F1, e1, h1, h2, h3⟩ => by rw [e1]; exact q F1 H' h1 h2 h3
end K00
set_option Elab.async false
set_option maxRecDepth 100000
set_option maxHeartbeats 4000000
set_option linter.all false
/-! _law_kinds, _law_is_own, _law_are_these -/
namespace K00
open PySem PySem.Spec PyProof.Rows L2 XV LamV LamX ReprV
abbrev sKinds : Stmt := top 62
abbrev sOwn : Stmt := top 63
abbrev sThese : Stmt := top 64
def spOwn (K : PySem.W.Frag) : Sp := fun vs H Q _ => ∃ (e : Addr) (k : Nat), vs = [.ref e, .int (k : Int)] ∧ k < 50 ∧ ExA H e (cA K k) ∧ ∀ H' : Hp, Ext H H' → Q (.bl true) H'
def spThese (K : PySem.W.Frag) : Sp := fun vs H Q _ => ∃ (a b : Addr) (xs : List V) (ds : List PyData), vs = [.ref a, .ref b] ∧ H a = some (.lst xs) ∧ H b = some (.lst xs) ∧ DVAll K H xs ds ∧ (PyData.list ds).showable = true ∧ (PyData.list ds).depth ≤ 40 ∧ (PyData.list ds).shown.length ≤ sizeLine ∧
  Q (.bl true) H
section
variable {P : Program} {w : World} {K : PySem.W.Frag} {mg : Str → Option Value} {base : Heap}
theorem scKinds : FnScope ["e"] ["e"] (defScope sKinds) := ⟨rfl, rfl, rfl, by decide +kernel, rfl, by decide +kernel, by decide +kernel⟩
theorem scOwn : FnScope ["e", "at", "k"] ["e", "at"] (defScope sOwn) := ⟨rfl, rfl, rfl, by decide +kernel, rfl, by decide +kernel, by decide +kernel⟩
theorem scThese : FnScope ["found", "due"] ["found", "due"] (defScope sThese) := ⟨rfl, rfl, rfl, by decide +kernel, rfl, by decide +kernel, by decide +kernel⟩
theorem ok_kinds {f fa fb fc : Addr} {fd fda fdb fdc : FuncData} (F : Fun K "_law_kinds" "_law_kinds" sKinds f fd)
    (Fa : Fun K "_law_kinds_a" "_law_kinds_a" sKinds_a fa fda) (Fb : Fun K "_law_kinds_b" "_law_kinds_b" sKinds_b fb fdb) (Fc : Fun K "_law_kinds_c" "_law_kinds_c" sKinds_c fc fdc) (cf : CF K mg) (mi : mg "isinstance" = none)
    (ga : mg "_law_kinds_a" = some (.ref fa)) (gb : mg "_law_kinds_b" = some (.ref fb)) (gc : mg "_law_kinds_c" = some (.ref fc)) :
    FnOk P w K mg base CX0 2 f fd ["e"] (spKinds K 0 50) := by
  have Ga : FnOk P w K mg base CX0 1 fa fda ["e"] (spKinds K 0 18) := ok_kinds_a Fa cf mi
  have Gb : FnOk P w K mg base CX0 1 fb fdb ["e"] (spKinds K 18 18) := ok_kinds_b Fb cf mi
  have Gc : FnOk P w K mg base CX0 1 fc fdc ["e"] (spKinds K 36 14) := ok_kinds_c Fc cf mi
  have ba : Binds K fda ["e"] [] := Fa.binds fun _ _ _ _ _ _ us hl => match us, hl with | [_], _ => rfl
  have bb : Binds K fdb ["e"] [] := Fb.binds fun _ _ _ _ _ _ us hl => match us, hl with | [_], _ => rfl
  have bc : Binds K fdc ["e"] [] := Fc.binds fun _ _ _ _ _ _ us hl => match us, hl with | [_], _ => rfl
  refine F.ok scKinds (fun vs H Q E h => ?_) (fun cdv A outer s H vs Q E hr h => ?_)
  · obtain ⟨e, k, rfl, _⟩ := h
    rfl
  · obtain ⟨e, k, rfl, hk, x, q⟩ := h
    refine ⟨_, pss_one (ps_ret (pe_op op_cat (pe_op op_cat (pe_call Ga hr rfl ga Fa.kp ba .nil pass0 (pa_cons (pv 0) pa_nil)) (pe_call Gb hr rfl gb Fb.kp bb .nil pass0 (pa_cons (pv 0) pa_nil))) (pe_call Gc hr rfl gc Fc.kp bc .nil pass0 (pa_cons (pv 0) pa_nil)))), ?_⟩
    refine ⟨.ref e, rfl, e, k, rfl, hk, x, fun F1 H1 n1 l1 x1 => ?_⟩
    refine ⟨.ref e, rfl, e, k, rfl, hk, x.keep x1, fun F2 H2 n2 l2 x2 => ?_⟩
    refine ⟨F1, F2, _, _, rfl, rfl, x2 _ _ l1, l2, by rw [bls_len, bls_len, sizeLine_eq]; omega, fun F3 n3 => ?_⟩
    have x3 : Ext H2 (upd H2 F3 (.lst (bls 0 18 k ++ bls 18 18 k))) := ext_new n3
    have x03 : Ext H (upd H2 F3 (.lst (bls 0 18 k ++ bls 18 18 k))) := fun b o h => x3 _ _ (x2 _ _ (x1 _ _ h))
    refine ⟨.ref e, rfl, e, k, rfl, hk, x.keep x03, fun F4 H4 n4 l4 x4 => ?_⟩
    refine ⟨F3, F4, _, _, rfl, rfl, x4 _ _ upd_same, l4, by rw [List.length_append, bls_len, bls_len, bls_len, sizeLine_eq]; omega, fun F5 n5 => ?_⟩
    refine q F5 _ ?_ ?_ fun b o h => ?_
    · cases hH : H F5 with
      | none => rfl
      | some o => exact absurd (x4 _ _ (x03 _ _ hH)) (by rw [n5]; exact fun z => nomatch z)
    · rw [upd_same, bls_app 0 18 18 k, bls_app 0 36 14 k]
    · exact ext_new n5 _ _ (x4 _ _ (x03 _ _ h))
theorem dpAll_bools {H : Hp} : ∀ bs : List Bool, DpAll K H (bs.map V.bl) (bs.map PyData.bool)
  | [] => .nil
  | b :: bs => .cons (.bl b) (dpAll_bools bs)
theorem bls_bools (lo n k : Nat) : bls lo n k = ((List.range n).map fun i => decide (lo + i = k)).map V.bl := by
  unfold bls
  rw [List.map_map]
  rfl
theorem shaped_bools (bs : List Bool) : SeqAt.shaped (.list (bs.map PyData.bool)) = true := by
  have h1 : ∀ cs : List Bool, PyData.canLayAll0 (cs.map PyData.bool) = true := fun cs => by
    induction cs with
    | nil => rfl
    | cons c cs ih => simpa [PyData.canLayAll0, PyData.canLay0] using ih
  have h2 : ∀ cs : List Bool, PyData.depthAll (cs.map PyData.bool) = 0 := fun cs => by
    induction cs with
    | nil => rfl
    | cons c cs ih => simpa [PyData.depthAll, PyData.depth] using ih
  unfold SeqAt.shaped
  simp [PyData.canLay0, PyData.depth, h1, h2]
theorem eqv_bools (bs : List Bool) : PyData.eqv (.list (bs.map PyData.bool)) (.list (bs.map PyData.bool)) = true := by
  show PyData.eqvAll _ _ = true
  induction bs with
  | nil => rfl
  | cons b bs ih =>
    show (PyData.eqv (.bool b) (.bool b) && PyData.eqvAll _ _) = true
    rw [ih, show PyData.eqv (.bool b) (.bool b) = true from by cases b <;> rfl]
    rfl
/-- ahead of the i-th number of the comprehension -/
structure OI (H0 : Hp) (D : Addr) (k i : Nat) (H : Hp) : Prop where
  at_ : H D = some (.lst (bls 0 i k))
  ext : Ext H0 (hid D H)
theorem ok_own {f fk : Addr} {fd fdk : FuncData} (F : Fun K "_law_is_own" "_law_is_own" sOwn f fd) (Fk : Fun K "_law_kinds" "_law_kinds" sKinds fk fdk) (G : FnOk P w K mg base CX0 2 fk fdk ["e"] (spKinds K 0 50)) (cf : CF K mg) (mi : mg "isinstance" = none) (mr : mg "range" = none)
    (mV : mg "ValueError" = none) (mL : mg "LookupError" = none) (mA : mg "ArithmeticError" = none) (mT : mg "TypeError" = none) (gk : mg "_law_kinds" = some (.ref fk)) :
    FnOk P w K mg base CX0 3 f fd ["e", "at"] (spOwn K) := by
  have bk : Binds K fdk ["e"] [] := Fk.binds fun _ _ _ _ _ _ us hl => match us, hl with | [_], _ => rfl
  refine F.ok scOwn (fun vs H Q E h => ?_) (fun cdv A outer s H vs Q E hr h => ?_)
  · obtain ⟨e, k, rfl, _⟩ := h
    rfl
  · obtain ⟨e, k, rfl, hk, x, q⟩ := h
    have hu : A.units + 3 + 64 < cLine := by have := hr.units; exact this
    refine ⟨_, pss_cons (ps_if (PW.pt (pw_or (pt_not (pt_val (p_is (j := 50) cf mi (by decide) rfl rfl (Or.inl rfl) rfl rfl))) (pw_or1 (pt_not (pt_val (pe_callB call_isX rfl mi boot_isinstance (pa_cons (pv 0) (pa_cons (pe_bltn (v := .ty "ValueError") rfl mV (by decide +kernel) rfl) pa_nil)))))))) (pss_one (ps_ret pe_bl)) pss_nil)
      (pss_cons (ps_if (PW.pt (pw_or (pt_val (pe_callB call_isX rfl mi boot_isinstance (pa_cons (pv 0) (pa_cons (pe_bltn (v := .ty "LookupError") rfl mL (by decide +kernel) rfl) pa_nil)))) (pw_or (pt_val (pe_callB call_isX rfl mi boot_isinstance (pa_cons (pv 0) (pa_cons (pe_bltn (v := .ty "ArithmeticError") rfl mA (by decide +kernel) rfl) pa_nil))))
        (pw_or1 (pt_val (pe_callB call_isX rfl mi boot_isinstance (pa_cons (pv 0) (pa_cons (pe_bltn (v := .ty "TypeError") rfl mT (by decide +kernel) rfl) pa_nil)))))))) (pss_one (ps_ret pe_bl)) pss_nil)
      (pss_one (ps_ret (pe_cmpR (op_eqD hu) (pe_call G (hr.mono (by decide)) rfl gk Fk.kp bk .nil pass0 (pa_cons (pv 0) pa_nil))
        (pe_lc (own := [("k", 2)]) (g := gName 2) (tt := tYes) (te := tOp rEq (tVar 2) (tVar 1)) rfl scOwn.nd (pi_range1 rfl mr (pa_cons pe_int pa_nil)) (blkOk_by (N := ["e", "at", "k"]) (sc := defScope sOwn) (by decide +kernel))
          (fun _ _ _ _ _ => pg_name (i := 2) scOwn.nd rfl (Or.inl rfl)) (fun _ _ _ _ _ => pts_nil) (fun _ _ _ _ _ => pe_cmpR op_eq (pv 2) (pv 1) (nomark _))) (nomark _))))), ?_⟩
    have kb := cf.kitB k (by omega)
    have ec := cf.exc k (by omega)
    refine ⟨.ref e, rfl, e, cA K k, .ref (cA K 50), .ref (cA K 50), true, rfl, .own _, x, ec, ?_, true, rfl, ?_⟩
    · show PySem.W.kitOne K (.ref (cA K k)) (.ref (cA K 50)) = some true
      rw [cf.kit k 50 (by omega) (by decide), show decide ((50 : Nat) = 50) = true from rfl, Bool.or_true]
    refine ⟨.ref e, rfl, e, cA K k, _, _, true, rfl, .ty _, x, ec, kb.1, true, rfl, ?_⟩
    refine ⟨.ref e, rfl, e, cA K k, _, _, false, rfl, .ty _, x, ec, kb.2.1, false, rfl, ?_⟩
    refine ⟨.ref e, rfl, e, cA K k, _, _, false, rfl, .ty _, x, ec, kb.2.2.1, false, rfl, ?_⟩
    refine ⟨.ref e, rfl, e, cA K k, _, _, false, rfl, .ty _, x, ec, kb.2.2.2, false, rfl, ?_⟩
    refine ⟨.ref e, rfl, e, k, rfl, by omega, x, fun F1 H1 n1 l1 x1 => ?_⟩
    refine ⟨50, rfl, by decide, by decide, fun D hD => ?_⟩
    refine lc_range (lo := 0) (n := 50) (OI H1 D k) ⟨upd_same, fun b o h => ?_⟩ (fun i H2 hi ⟨h1, h2⟩ => ?_) (fun H2 ⟨h1, h2⟩ => ?_)
    · rw [hid_ne (ne_of_none h hD)]
      exact ext_new hD _ _ h
    · refine ⟨rfl, ?_⟩
      refine ⟨.int (0 + (i : Int)), rfl, .int (k : Int), rfl, rfl, bls 0 i k, h1, by rw [bls_len, sizeLine_eq]; omega, ?_, fun b o h => ?_⟩
      · rw [upd_same, bls_succ]
        have e1 : decide (V.int (0 + (i : Int)) = V.int (k : Int)) = decide (0 + i = k) := by
          by_cases c : i = k
          · subst c
            rw [decide_eq_true (show 0 + i = i by omega), decide_eq_true (show V.int (0 + (i : Int)) = V.int (i : Int) by rw [Int.zero_add])]
          · rw [decide_eq_false (show ¬ 0 + i = k by omega), decide_eq_false (fun z => by injection z with z; omega)]
        rw [e1]
      · obtain ⟨h3, h4⟩ := hid_get (h2 b o h)
        rw [hid_ne h4, upd_ne h4]
        exact h3
    · have hF : H2 F1 = some (.lst (bls 0 50 k)) := hid_lt _ _ (h2 _ _ l1)
      rw [bls_bools] at hF h1
      refine ⟨_, _, .lst (SqL.of hF) (dpAll_bools _), .lst (SqL.of h1) (dpAll_bools _), shaped_bools _, shaped_bools _, ?_⟩
      rw [eqv_bools]
      exact q H2 fun b o h => hid_lt _ _ (h2 _ _ (x1 _ _ h))
theorem ok_these {f : Addr} {fd : FuncData} (F : Fun K "_law_are_these" "_law_are_these" sThese f fd) (mr : mg "repr" = none) (ml : mg "len" = none) (hs : ∃ o, base.get? sysModules = some o) : FnG P w K mg base 1 f fd ["found", "due"] (spThese K) := by
  refine fun_okG F scThese (fun vs H Q E h => ?_) (fun cdv A outer s H vs Q E hr hg h => ?_)
  · obtain ⟨a, b, xs, ds, rfl, _⟩ := h
    rfl
  · obtain ⟨a, b, xs, ds, rfl, ha, hb, hd, h1, h2, h3, q⟩ := h
    have hu : A.units + 3 + 64 < cLine := by have := hr.units; exact this
    refine ⟨_, pss_one (ps_ret (pe_and (pe_cmpR op_eq (pe_callB (call_reprDV hg hu hs) rfl mr (by decide +kernel) (pa_cons (pv 0) pa_nil)) (pe_callB (call_reprDV hg hu hs) rfl mr (by decide +kernel) (pa_cons (pv 1) pa_nil)) (nomark _))
      (pe_one (pe_cmpR op_eq (pe_callB call_len_seq rfl ml PySem.boot_len (pa_cons (pv 0) pa_nil)) (pe_callB call_len_seq rfl ml PySem.boot_len (pa_cons (pv 1) pa_nil)) (nomark _))))), ?_⟩
    refine ⟨.ref a, rfl, a, .list ds, rfl, .lst ha hd, h1, h2, h3, ?_⟩
    refine ⟨.ref b, rfl, b, .list ds, rfl, .lst hb hd, h1, h2, h3, rfl, true, by rw [decide_eq_true rfl], ?_⟩
    refine ⟨.ref a, rfl, a, xs, rfl, Or.inl (SqL.of ha), .ref b, rfl, b, xs, rfl, Or.inl (SqL.of hb), rfl, ?_⟩
    rw [decide_eq_true rfl]
    exact q
end
end K00
set_option Elab.async false
set_option maxRecDepth 100000
set_option maxHeartbeats 4000000
set_option linter.all false
/-! the law: what it shows, its stream and its lot of things -/
namespace K00
open PySem PySem.Spec PyProof.Rows L2 XV LamV LamX ReprV
abbrev sLaw : Stmt := top 65
abbrev NL : List Str := ["script", "stream", "some", "turn", "x", "y", "z", "made", "at", "mine", "twin", "field", "due", "held", "base"]
theorem scLaw : FnScope NL ["script"] (defScope sLaw) := ⟨rfl, rfl, rfl, by decide +kernel, rfl, by decide +kernel, by decide +kernel⟩
def lstm (i : Nat) : Stmt := (defBody sLaw).getD i (.Pass ⟨0, 0, 0, 0⟩)
/-! ### shown in few signs -/
def OkV (K : PySem.W.Frag) (H : Hp) (v : V) : Prop := ∃ d, DV K H v d ∧ d.showable = true ∧ d.depth ≤ 4 ∧ d.shown.length ≤ 40
theorem OkV.keepN {K : PySem.W.Frag} {H H' : Hp} {v : V} (h : OkV K H v) (x : ExtN H H') : OkV K H' v := by
  obtain ⟨d, h1, h2⟩ := h
  exact ⟨d, DV.keep x d v h1, h2⟩
theorem textFrom_le : ∀ (ts : List Str) (k : Nat) (acc : Str), (textFrom k acc ts).length ≤ acc.length + (ts.map fun t => t.length + 2).sum
  | [], k, acc => Nat.le_refl _
  | t :: r, k, acc => by
    show (textFrom (k + 1) (acc ++ (if k > 0 then ", " else "" : String) ++ t) r).length ≤ _
    refine Nat.le_trans (textFrom_le r (k + 1) _) ?_
    rw [strLen_append, strLen_append, List.map_cons, List.sum_cons]
    have e : ∀ b : Bool, (Str.ofString (if b = true then ", " else "")).length ≤ 2 := fun b => by cases b <;> decide
    have e2 : (Str.ofString (if k > 0 then ", " else "" : String)).length ≤ 2 := by
      by_cases h : k > 0
      · rw [if_pos h]
        decide
      · rw [if_neg h]
        decide
    omega
theorem data_all {K : PySem.W.Frag} {H : Hp} : ∀ xs : List V, (∀ v ∈ xs, OkV K H v) → ∃ ds, DVAll K H xs ds ∧ PyData.showableAll ds = true ∧ PyData.depthAll ds ≤ 4 ∧ ((PyData.shownAll ds).map fun t => t.length + 2).sum ≤ 42 * xs.length
  | [], _ => ⟨[], .nil, rfl, Nat.zero_le _, Nat.zero_le _⟩
  | v :: r, h => by
    obtain ⟨d, h1, h2, h3, h4⟩ := h v List.mem_cons_self
    obtain ⟨ds, g1, g2, g3, g4⟩ := data_all r fun u hu => h u (List.mem_cons_of_mem _ hu)
    refine ⟨d :: ds, .cons h1 g1, ?_, ?_, ?_⟩
    · show (PyData.showable d && PyData.showableAll ds) = true
      rw [h2, g2]
      rfl
    · show max (PyData.depth d) (PyData.depthAll ds) ≤ 4
      omega
    · show ((PyData.shown d :: PyData.shownAll ds).map fun t => t.length + 2).sum ≤ _
      rw [List.map_cons, List.sum_cons, List.length_cons]
      omega
theorem these_data {K : PySem.W.Frag} {H : Hp} {xs : List V} (h : ∀ v ∈ xs, OkV K H v) (hl : xs.length ≤ 3) : ∃ ds, DVAll K H xs ds ∧ (PyData.list ds).showable = true ∧ (PyData.list ds).depth ≤ 40 ∧ (PyData.list ds).shown.length ≤ sizeLine := by
  obtain ⟨ds, g1, g2, g3, g4⟩ := data_all xs h
  refine ⟨ds, g1, g2, ?_, ?_⟩
  · show PyData.depthAll ds + 1 ≤ 40
    omega
  · show (textFrom 0 "[" (PyData.shownAll ds) ++ "]").length ≤ _
    rw [strLen_append]
    have := textFrom_le (PyData.shownAll ds) 0 "["
    have e1 : (Str.ofString "[").length = 1 := by decide
    have e2 : (Str.ofString "]").length = 1 := by decide
    rw [sizeLine_eq]
    omega
/-! ### the lot of things -/
def ho (st c : Addr) (H : Hp) : Hp := hid st (hid c H)
theorem ho_of {st c b : Addr} {H : Hp} (h1 : b ≠ st) (h2 : b ≠ c) : ho st c H b = H b := by
  unfold ho
  rw [hid_ne h1, hid_ne h2]
theorem ho_get {st c b : Addr} {H : Hp} {o : HO} (h : ho st c H b = some o) : H b = some o ∧ b ≠ st ∧ b ≠ c := by
  obtain ⟨h1, h2⟩ := hid_get h
  obtain ⟨h3, h4⟩ := hid_get h1
  exact ⟨h3, h2, h4⟩
theorem ho_kp {st c : Addr} {H H' : Hp} (k : Kp st c H H') : ExtN (ho st c H) (ho st c H') := fun b o h _ => by
  obtain ⟨h1, h2, h3⟩ := ho_get h
  rw [ho_of h2 h3]
  exact k _ _ h1 h2 h3
theorem ho_mono {st c : Addr} {H H' : Hp} (k : ExtN H H') : ExtN (ho st c H) (ho st c H') := hid_mono (hid_mono k)
theorem ho_lt {st c : Addr} {H : Hp} : ExtN (ho st c H) H := fun b o h _ => (ho_get h).1
/-- the law's stream and its lot of things, k draws made -/
structure Lot (K : PySem.W.Frag) (T : List (Addr × Str)) (k : Nat) (σ : L2.St) (H : Hp) : Prop where
  sl : σ.length = 15
  at_ : ∃ (st c sm : Addr) (xs : List V), σ[1]? = some (some (.ref st)) ∧ σ[2]? = some (some (.ref sm)) ∧ Strm H st c k ∧ ho st c H sm = some (.lst xs) ∧ xs.length = 15 ∧ ∀ v ∈ xs, OkV K (ho st c H) v
  tb : Tabs T H
theorem Lot.keep {K : PySem.W.Frag} {T : List (Addr × Str)} {k : Nat} {σ σ' : L2.St} {H H' : Hp} (L : Lot K T k σ H) (x : ExtN H H') (tb : Tabs T H') (hs : σ'.length = 15) (h1 : σ'[1]? = σ[1]?) (h2 : σ'[2]? = σ[2]?) : Lot K T k σ' H' := by
  obtain ⟨st, c, sm, xs, a1, a2, a3, a4, a5, a6⟩ := L.at_
  refine ⟨hs, ⟨st, c, sm, xs, h1.trans a1, h2.trans a2, ?_, ho_mono x _ _ a4 (fun _ z => nomatch z), a5, fun v hv => (a6 v hv).keepN (ho_mono x)⟩, tb⟩
  obtain ⟨ns, b, n, m, b1, b2, r⟩ := a3.at_
  exact ⟨ns, b, n, m, x _ _ b1 (fun _ z => nomatch z), x _ _ b2 (fun _ z => nomatch z), r⟩
section
variable {P : Program} {w : World} {K : PySem.W.Frag} {mg : Str → Option Value} {base : Heap} {T : List (Addr × Str)} {f : Addr} {cdv : Value} {A : Around} {outer : List Env} {s : Shared} {H0 : Hp} {E : XK}
abbrev XL (P : Program) (w : World) (K : PySem.W.Frag) (mg : Str → Option Value) (base : Heap) (f : Addr) (cdv : Value) (A : Around) (outer : List Env) (s : Shared) (H0 : Hp) (E : XK) : Cx := (cxOf CX0 P w K mg base NL "law" (defScope sLaw) f cdv A outer s H0 E).nox
theorem law_start {fs : Addr} {fds : FuncData} (hr : Room 4 (XL P w K mg base f cdv A outer s H0 E).A) (Fs : Fun K "_law_start" "_law_start" sStart fs fds) (ml : mg "list" = none) (gs : mg "_law_start" = some (.ref fs)) :
    RS (XL P w K mg base f cdv A outer s H0 E) (lstm 0) (fun σ H => σ.length = 15 ∧ Tabs T H ∧ ∃ (a : Addr) (ns : List Int), σ[0]? = some (some (.ref a)) ∧ SqL K H a (ns.map V.int)) (fun σ H => σ.length = 15 ∧ Tabs T H ∧ ∃ st c, σ[1]? = some (some (.ref st)) ∧ Strm H st c 0) := by
  have G : FnOk P w K mg base CX0 1 fs fds ["script"] (spStart K) := ok_start Fs ml
  have b : Binds K fds ["script"] [] := Fs.binds fun _ _ _ _ _ _ us hl => match us, hl with | [_], _ => rfl
  refine rs_of (ps_set (i := 1) scLaw.nd rfl (Or.inl rfl) (pe_call G (hr.mono (by decide)) rfl gs Fs.kp b .nil pass0 (pa_cons (pv 0) pa_nil))) fun D σ H ⟨hl, tb, a, ns, h0, hS⟩ k => ?_
  refine ⟨.ref a, h0, a, ns, rfl, hS, fun st c H' x hst hc S => ?_⟩
  exact k _ _ ⟨by rw [List.length_set]; exact hl, tb.ext x, st, c, by rw [List.getElem?_set_self (by omega)], S⟩
end
end K00
set_option Elab.async false
set_option maxRecDepth 100000
set_option maxHeartbeats 4000000
set_option linter.all false
/-! the law's lot of things is made -/
namespace K00
open PySem PySem.Spec PyProof.Rows L2 XV LamV LamX ReprV
section
variable {P : Program} {w : World} {K : PySem.W.Frag} {mg : Str → Option Value} {base : Heap} {T : List (Addr × Str)} {f : Addr} {cdv : Value} {A : Around} {outer : List Env} {s : Shared} {H0 : Hp} {E : XK}
theorem ok_non {H : Hp} : OkV K H .non := ⟨.none, .non, rfl, Nat.zero_le _, by decide +kernel⟩
theorem ok_bl {H : Hp} (b : Bool) : OkV K H (.bl b) := ⟨.bool b, .bl b, rfl, Nat.zero_le _, by cases b <;> decide +kernel⟩
theorem ok_int {H : Hp} (i : Int) (h1 : i.natAbs.log2 < 1920 := by decide +kernel) (h2 : (PyData.int i).shown.length ≤ 40 := by decide +kernel) : OkV K H (.int i) := ⟨.int i, .int i, decide_eq_true h1, Nat.zero_le _, h2⟩
theorem ok_str {H : Hp} (x : Str) (h2 : (PyData.str x).shown.length ≤ 40 := by decide +kernel) : OkV K H (.str x) := ⟨.str x, .str x, rfl, Nat.zero_le _, h2⟩
theorem lot_end {σ : L2.St} {H : Hp} {st c sm a1 a2 a3 a4 a5 a6 : Addr} (hl : σ.length = 15) (tb : Tabs T H) (hst : σ[1]? = some (some (.ref st))) (hsm : σ[2]? = some (some (.ref sm))) (S : Strm H st c 0)
    (n1 : a1 ≠ st ∧ a1 ≠ c) (n2 : a2 ≠ st ∧ a2 ≠ c) (n3 : a3 ≠ st ∧ a3 ≠ c) (n4 : a4 ≠ st ∧ a4 ≠ c) (n5 : a5 ≠ st ∧ a5 ≠ c) (n6 : a6 ≠ st ∧ a6 ≠ c) (nm : sm ≠ st ∧ sm ≠ c)
    (h1 : H a1 = some (.lst [.int 1, .str "b"])) (h2 : H a2 = some (.tup [.int 2, .non])) (h3 : H a3 = some (.dK [(Sum.inr "a", .int 1)])) (h4 : H a4 = some (.lst [.str "x"])) (h5 : H a5 = some (.lst [.ref a4])) (h6 : H a6 = some (.tup [.str "s", .int 3]))
    (hm : H sm = some (.lst [.non, .int 5, .int (-1), .bl true, .str "a", .str "", .ref a1, .ref a2, .ref a3, .ref a5, .int 100000000, .ref a6, .bl false, .int 0, .int 1])) : Lot K T 0 σ H := by
  have d1 : OkV K (ho st c H) (.ref a1) := ⟨.list [.int 1, .str "b"], .lst (by rw [ho_of n1.1 n1.2]; exact h1) (.cons (.int 1) (.cons (.str "b") .nil)), by decide +kernel, by decide +kernel, by decide +kernel⟩
  have d2 : OkV K (ho st c H) (.ref a2) := ⟨.tuple [.int 2, .none], .tup (SqT.of (by rw [ho_of n2.1 n2.2]; exact h2)) (.cons (.int 2) (.cons .non .nil)), by decide +kernel, by decide +kernel, by decide +kernel⟩
  have d3 : OkV K (ho st c H) (.ref a3) := ⟨.dict [(.str "a", .int 1)], .dic (by rw [ho_of n3.1 n3.2]; exact h3) (.cons (.int 1) .nil), by decide +kernel, by decide +kernel, by decide +kernel⟩
  have d5 : OkV K (ho st c H) (.ref a5) := ⟨.list [.list [.str "x"]], .lst (by rw [ho_of n5.1 n5.2]; exact h5) (.cons (.lst (by rw [ho_of n4.1 n4.2]; exact h4) (.cons (.str "x") .nil)) .nil), by decide +kernel, by decide +kernel, by decide +kernel⟩
  have d6 : OkV K (ho st c H) (.ref a6) := ⟨.tuple [.str "s", .int 3], .tup (SqT.of (by rw [ho_of n6.1 n6.2]; exact h6)) (.cons (.str "s") (.cons (.int 3) .nil)), by decide +kernel, by decide +kernel, by decide +kernel⟩
  refine ⟨hl, ⟨st, c, sm, _, hst, hsm, S, by rw [ho_of nm.1 nm.2]; exact hm, rfl, fun v hv => ?_⟩, tb⟩
  simp only [List.mem_cons, List.not_mem_nil, or_false] at hv
  rcases hv with rfl | rfl | rfl | rfl | rfl | rfl | rfl | rfl | rfl | rfl | rfl | rfl | rfl | rfl | rfl
  · exact ok_non
  · exact ok_int 5
  · exact ok_int (-1)
  · exact ok_bl true
  · exact ok_str "a"
  · exact ok_str ""
  · exact d1
  · exact d2
  · exact d3
  · exact d5
  · exact ok_int 100000000
  · exact d6
  · exact ok_bl false
  · exact ok_int 0
  · exact ok_int 1
theorem law_some (hr : Room 4 (XL P w K mg base f cdv A outer s H0 E).A) :
    RS (XL P w K mg base f cdv A outer s H0 E) (lstm 1) (fun σ H => σ.length = 15 ∧ Tabs T H ∧ ∃ st c, σ[1]? = some (some (.ref st)) ∧ Strm H st c 0) (Lot K T 0) := by
  refine rs_of (ps_set (i := 2) scLaw.nd rfl (Or.inl rfl) (pe_lst (pa_cons pe_non (pa_cons pe_int (pa_cons (pe_un un_neg pe_int) (pa_cons pe_bl (pa_cons pe_str (pa_cons pe_str (pa_cons (pe_lst (pa_cons pe_int (pa_cons pe_str pa_nil))) (pa_cons (pe_tup (pa_cons pe_int (pa_cons pe_non pa_nil))) (pa_cons (pe_disp (pps_cons pe_str pe_int pps_nil) rfl rfl (List.cons_ne_nil _ _) (by decide)) (pa_cons (pe_lst (pa_cons (pe_lst (pa_cons pe_str pa_nil)) pa_nil)) (pa_cons (pe_op op_pow pe_int pe_int) (pa_cons (pe_tup (pa_cons pe_str (pa_cons pe_int pa_nil))) (pa_cons pe_bl (pa_cons pe_int (pa_cons pe_int pa_nil))))))))))))))))) fun D σ H ⟨hl, tb, st, c, hst, S⟩ k => ?_
  have sz : ∀ n : Nat, n ≤ 1000 → n ≤ sizeLine := fun n h => Nat.le_trans h (by decide)
  refine ⟨1, rfl, sz _ (by decide), fun a1 n1 => ?_⟩
  refine ⟨sz _ (by decide), fun a2 n2 => fun a3 n3 => ⟨upd_same, [(Sum.inr "a", .int 1)], rfl, by decide, sz _ (by decide), fun a4 n4 => ⟨sz 1 (by decide), fun a5 n5 => ?_⟩⟩⟩
  refine ⟨10, 8, rfl, rfl, ⟨by decide, by decide, by decide⟩, sz _ (by decide), fun a6 n6 => ⟨sz 15 (by decide), fun sm nm => ?_⟩⟩
  have em : mergeK ([] : List (Key × V)) ([(Sum.inr "a", V.int 1)] : List (Key × V)) = ([(Sum.inr "a", V.int 1)] : List (Key × V)) := by rfl
  rw [em] at n4 n5 n6 nm ⊢
  have ten : (10 : Int) ^ (8 : Int).toNat = 100000000 := by decide
  dsimp only
  rw [ten]
  obtain ⟨H1, e1⟩ : ∃ H1, H1 = upd H a1 (.lst [.int 1, .str "b"]) := ⟨_, rfl⟩
  rw [← e1] at n2 n3 n4 n5 n6 nm ⊢
  obtain ⟨H2, e2⟩ : ∃ H2, H2 = upd H1 a2 (.tup [.int 2, .non]) := ⟨_, rfl⟩
  rw [← e2] at n3 n4 n5 n6 nm ⊢
  rw [upd_upd] at n4 n5 n6 nm ⊢
  obtain ⟨H3, e3⟩ : ∃ H3, H3 = upd H2 a3 (.dK [(Sum.inr "a", .int 1)]) := ⟨_, rfl⟩
  rw [← e3] at n4 n5 n6 nm ⊢
  obtain ⟨H4, e4⟩ : ∃ H4, H4 = upd H3 a4 (.lst [.str "x"]) := ⟨_, rfl⟩
  rw [← e4] at n5 n6 nm ⊢
  obtain ⟨H5, e5⟩ : ∃ H5, H5 = upd H4 a5 (.lst [.ref a4]) := ⟨_, rfl⟩
  rw [← e5] at n6 nm ⊢
  obtain ⟨H6, e6⟩ : ∃ H6, H6 = upd H5 a6 (.tup [.str "s", .int 3]) := ⟨_, rfl⟩
  rw [← e6] at nm ⊢
  have x1 : Ext H H1 := by rw [e1]; exact ext_new n1
  have x2 : Ext H1 H2 := by rw [e2]; exact ext_new n2
  have x3 : Ext H2 H3 := by rw [e3]; exact ext_new n3
  have x4 : Ext H3 H4 := by rw [e4]; exact ext_new n4
  have x5 : Ext H4 H5 := by rw [e5]; exact ext_new n5
  have x6 : Ext H5 H6 := by rw [e6]; exact ext_new n6
  obtain ⟨os, hos⟩ : ∃ o, H st = some o := by obtain ⟨_, _, _, _, h1, _⟩ := S.at_; exact ⟨_, h1⟩
  obtain ⟨oc, hoc⟩ : ∃ o, H c = some o := by obtain ⟨_, _, _, _, _, h1, _⟩ := S.at_; exact ⟨_, h1⟩
  have y2 : Ext H H2 := fun b o h => x2 _ _ (x1 _ _ h)
  have y3 : Ext H H3 := fun b o h => x3 _ _ (y2 _ _ h)
  have y4 : Ext H H4 := fun b o h => x4 _ _ (y3 _ _ h)
  have y5 : Ext H H5 := fun b o h => x5 _ _ (y4 _ _ h)
  have y6 : Ext H H6 := fun b o h => x6 _ _ (y5 _ _ h)
  have x7 : Ext H6 (upd H6 sm (.lst [.non, .int 5, .int (-1), .bl true, .str "a", .str "", .ref a1, .ref a2, .ref a3, .ref a5, .int 100000000, .ref a6, .bl false, .int 0, .int 1])) := ext_new nm
  have y7 := fun b o h => x7 b o (y6 _ _ h)
  have ne : ∀ {G : Hp} {a : Addr}, Ext H G → G a = none → a ≠ st ∧ a ≠ c := fun x n => ⟨fun z => absurd (x _ _ hos) (by rw [← z, n]; exact fun q => nomatch q), fun z => absurd (x _ _ hoc) (by rw [← z, n]; exact fun q => nomatch q)⟩
  refine k _ _ (lot_end (sm := sm) (a4 := a4) (by rw [List.length_set]; exact hl) (tb.ext y7) (by rw [List.getElem?_set_ne (by decide)]; exact hst) (by rw [List.getElem?_set_self (by omega)]) (S.keep y7) (ne (fun _ _ h => h) n1) (ne x1 n2) (ne y2 n3) (ne y3 n4) (ne y4 n5) (ne y5 n6) (ne y6 nm) ?_ ?_ ?_ ?_ ?_ ?_ upd_same)
  · exact x7 _ _ (x6 _ _ (x5 _ _ (x4 _ _ (x3 _ _ (x2 _ _ (by rw [e1]; exact upd_same))))))
  · exact x7 _ _ (x6 _ _ (x5 _ _ (x4 _ _ (x3 _ _ (by rw [e2]; exact upd_same)))))
  · exact x7 _ _ (x6 _ _ (x5 _ _ (x4 _ _ (by rw [e3]; exact upd_same))))
  · exact x7 _ _ (x6 _ _ (x5 _ _ (by rw [e4]; exact upd_same)))
  · exact x7 _ _ (x6 _ _ (by rw [e5]; exact upd_same))
  · exact x7 _ _ (by rw [e6]; exact upd_same)
end
end K00
set_option Elab.async false
set_option maxRecDepth 100000
set_option maxHeartbeats 4000000
set_option linter.all false
/-! the law's turns -/
namespace K00
open PySem PySem.Spec PyProof.Rows L2 XV LamV LamX ReprV
/-- the defs that the law calls -/
structure LE (P : Program) (w : World) (K : PySem.W.Frag) (mg : Str → Option Value) (base : Heap) (T : List (Addr × Str)) where
  (fm fa fb fc fo ft fk : Addr)
  (dm da db dc do_ dt dk : FuncData)
  cf : CF K mg
  Fm : Fun K "_law_mixed" "_law_mixed" sMixed fm dm
  Gm : FnOk P w K mg base CX0 2 fm dm ["stream", "some"] (spMixed K)
  Fa : Fun K "_law_made_a" "_law_made_a" sMade_a fa da
  Ga : FnOk P w K mg base CX0 3 fa da ["x", "y", "z"] (spMade P w K mg base T 0 18)
  Fb : Fun K "_law_made_b" "_law_made_b" sMade_b fb db
  Gb : FnOk P w K mg base CX0 3 fb db ["x", "y", "z"] (spMade P w K mg base T 18 18)
  Fc : Fun K "_law_made_c" "_law_made_c" sMade_c fc dc
  Gc : FnOk P w K mg base CX0 3 fc dc ["x", "y", "z"] (spMade P w K mg base T 36 14)
  Fo : Fun K "_law_is_own" "_law_is_own" sOwn fo do_
  Go : FnOk P w K mg base CX0 3 fo do_ ["e", "at"] (spOwn K)
  Ft : Fun K "_law_are_these" "_law_are_these" sThese ft dt
  Gt : FnG P w K mg base 1 ft dt ["found", "due"] (spThese K)
  Fk : Fun K "_law_kinds" "_law_kinds" sKinds fk dk
  Gk : FnOk P w K mg base CX0 2 fk dk ["e"] (spKinds K 0 50)
  gm : mg "_law_mixed" = some (.ref fm)
  ga : mg "_law_made_a" = some (.ref fa)
  gb : mg "_law_made_b" = some (.ref fb)
  gc : mg "_law_made_c" = some (.ref fc)
  go : mg "_law_is_own" = some (.ref fo)
  gt : mg "_law_are_these" = some (.ref ft)
  gk : mg "_law_kinds" = some (.ref fk)
  mr : mg "range" = none
  me : mg "enumerate" = none
  mi : mg "isinstance" = none
  mV : mg "ValueError" = none
section
variable {P : Program} {w : World} {K : PySem.W.Frag} {mg : Str → Option Value} {base : Heap} {T : List (Addr × Str)} {f : Addr} {cdv : Value} {A : Around} {outer : List Env} {s : Shared} {H0 : Hp} {E : XK}
/-- over the pairs of a list that the body leaves as it is -/
theorem for_enum {a : Addr} {xs : List V} {g : TG} {tb : TS} {D : Ends} {σ : L2.St} {H : Hp} (Pv : Nat → L2.St → Hp → Prop) (h0 : Pv 0 σ H) (hl : ∀ i σ H, i ≤ xs.length → Pv i σ H → SqL K H a xs)
    (hs : ∀ i x σ H t, xs[i]? = some x → Pv i σ H → H t = none → g (.ref t) σ (upd H t (.tup [.int (i : Nat), x])) fun σ2 H2 => tb { D with nx := Pv (i + 1), ct := Pv (i + 1), bk := D.nx } σ2 H2) (hd : ∀ σ H, Pv xs.length σ H → D.nx σ H) :
    ∃ W : Nat → Nat → L2.St → Hp → Prop, (∃ m, W 0 m σ H) ∧ ∀ i m σ H, W i m σ H →
      ((Ite K a).stop i H ∧ D.nx σ H) ∨ ((Ite K a).go i H ∧ ∃ N : L2.St → Hp → Prop, (∀ σ' H', N σ' H' → ∃ m', m' < m ∧ W (i + 1) m' σ' H') ∧ ∀ x H', (Ite K a).yld i H x H' → g x σ H' fun σ2 H2 => tb { D with nx := N, ct := N, bk := D.nx } σ2 H2) := by
  refine ⟨fun i m σ H => m = xs.length - i ∧ i ≤ xs.length ∧ Pv i σ H, ⟨xs.length, by simp, Nat.zero_le _, h0⟩, ?_⟩
  rintro i m σ H ⟨rfl, hi, p⟩
  have q := hl i σ H hi p
  by_cases hlt : i < xs.length
  · refine .inr ⟨⟨xs, xs[i], q, by simp [hlt]⟩, Pv (i + 1), fun σ' H' p' => ⟨xs.length - (i + 1), by omega, rfl, hlt, p'⟩, fun x H' y => ?_⟩
    obtain ⟨t, y, e1, e2, e3, e4⟩ := y
    subst e1 e3
    exact hs i y σ H t (e4 xs q) p e2
  · have e : i = xs.length := by omega
    subst e
    exact .inl ⟨⟨xs, q, Nat.le_refl _⟩, hd σ H p⟩
/-! ### made = .. -/
def madeT (P : Program) (w : World) (K : PySem.W.Frag) (mg : Str → Option Value) (base : Heap) (T : List (Addr × Str)) (i j k : Nat) : TE :=
  tOp rCat (tOp rCat (tCall (spMade P w K mg base T 0 18) [] E0 (tCons (tVar i) (tCons (tVar j) (tCons (tVar k) tNil)))) (tCall (spMade P w K mg base T 18 18) [] E0 (tCons (tVar i) (tCons (tVar j) (tCons (tVar k) tNil)))))
    (tCall (spMade P w K mg base T 36 14) [] E0 (tCons (tVar i) (tCons (tVar j) (tCons (tVar k) tNil))))
theorem made_app {n m : Nat} {vx vy vz : V} {H : Hp} {as bs : List V} (a : Made P w K mg base 0 n vx vy vz H as) (b : Made P w K mg base n m vx vy vz H bs) : Made P w K mg base 0 (n + m) vx vy vz H (as ++ bs) := by
  refine ⟨by rw [List.length_append, a.1, b.1], fun j v h => ?_⟩
  by_cases hj : j < as.length
  · rw [List.getElem?_append_left hj] at h
    exact a.2 j v h
  · rw [List.getElem?_append_right (by omega)] at h
    have q := b.2 _ _ h
    rw [show n + (j - as.length) = 0 + j by rw [a.1] at hj ⊢; omega] at q
    exact q
theorem made_run {i j k : Nat} {σ : L2.St} {H : Hp} {Q : VK} {vx vy vz : V} (h1 : σ[i]? = some (some vx)) (h2 : σ[j]? = some (some vy)) (h3 : σ[k]? = some (some vz)) (tb : Tabs T H)
    (q : ∀ m ws H', ExtN H H' → Tabs T H' → H' m = some (.lst ws) → Made P w K mg base 0 50 vx vy vz H' ws → Q (.ref m) H') : madeT P w K mg base T i j k σ H Q := by
  refine ⟨vx, h1, vy, h2, vz, h3, vx, vy, vz, rfl, tb, fun F1 ws1 H1 x1 t1 l1 m1 => ?_⟩
  refine ⟨vx, h1, vy, h2, vz, h3, vx, vy, vz, rfl, t1, fun F2 ws2 H2 x2 t2 l2 m2 => ?_⟩
  refine ⟨F1, F2, ws1, ws2, rfl, rfl, x2 _ _ l1 (fun _ z => nomatch z), l2, by rw [m1.1, m2.1, sizeLine_eq]; omega, fun F3 n3 => ?_⟩
  have x3 : Ext H2 (upd H2 F3 (.lst (ws1 ++ ws2))) := ext_new n3
  refine ⟨vx, h1, vy, h2, vz, h3, vx, vy, vz, rfl, t2.ext x3, fun F4 ws4 H4 x4 t4 l4 m4 => ?_⟩
  refine ⟨F3, F4, ws1 ++ ws2, ws4, rfl, rfl, x4 _ _ upd_same (fun _ z => nomatch z), l4, by rw [List.length_append, m1.1, m2.1, m4.1, sizeLine_eq]; omega, fun F5 n5 => ?_⟩
  have x5 : Ext H4 (upd H4 F5 (.lst (ws1 ++ ws2 ++ ws4))) := ext_new n5
  have y2 := (ExtN.of x3).trans (x4.trans (ExtN.of x5))
  exact q F5 _ _ (x1.trans (x2.trans y2)) (t4.ext x5) upd_same (made_app (made_app (m1.keepN (x2.trans y2)) (m2.keepN y2)) (m4.keepN (ExtN.of x5)))
theorem pe_made {i j k : Nat} {x y z : Str} {p1 p2 p3 p4 p5 p6 p7 p8 p9 q1 q2 q3 r1 r2 r3 s1 s2 : Pos} (L : LE P w K mg base T) (hr : Room 3 (XL P w K mg base f cdv A outer s H0 E).A)
    (hx : PE (XL P w K mg base f cdv A outer s H0 E) (.Name x p1) (tVar i)) (hy : PE (XL P w K mg base f cdv A outer s H0 E) (.Name y p2) (tVar j)) (hz : PE (XL P w K mg base f cdv A outer s H0 E) (.Name z p3) (tVar k))
    (hx2 : PE (XL P w K mg base f cdv A outer s H0 E) (.Name x p4) (tVar i)) (hy2 : PE (XL P w K mg base f cdv A outer s H0 E) (.Name y p5) (tVar j)) (hz2 : PE (XL P w K mg base f cdv A outer s H0 E) (.Name z p6) (tVar k))
    (hx3 : PE (XL P w K mg base f cdv A outer s H0 E) (.Name x p7) (tVar i)) (hy3 : PE (XL P w K mg base f cdv A outer s H0 E) (.Name y p8) (tVar j)) (hz3 : PE (XL P w K mg base f cdv A outer s H0 E) (.Name z p9) (tVar k)) :
    PE (XL P w K mg base f cdv A outer s H0 E) (.BinOp (.BinOp (.Call (.Name "_law_made_a" q1) [.Name x p1, .Name y p2, .Name z p3] [] r1) .Add (.Call (.Name "_law_made_b" q2) [.Name x p4, .Name y p5, .Name z p6] [] r2) s1) .Add (.Call (.Name "_law_made_c" q3) [.Name x p7, .Name y p8, .Name z p9] [] r3) s2) (madeT P w K mg base T i j k) := by
  have ba : Binds K L.da ["x", "y", "z"] [] := L.Fa.binds fun _ _ _ _ _ _ us hl => match us, hl with | [_, _, _], _ => rfl
  have bb : Binds K L.db ["x", "y", "z"] [] := L.Fb.binds fun _ _ _ _ _ _ us hl => match us, hl with | [_, _, _], _ => rfl
  have bc : Binds K L.dc ["x", "y", "z"] [] := L.Fc.binds fun _ _ _ _ _ _ us hl => match us, hl with | [_, _, _], _ => rfl
  exact pe_op op_cat (pe_op op_cat (pe_call L.Ga hr rfl L.ga L.Fa.kp ba .nil pass0 (pa_cons hx (pa_cons hy (pa_cons hz pa_nil)))) (pe_call L.Gb hr rfl L.gb L.Fb.kp bb .nil pass0 (pa_cons hx2 (pa_cons hy2 (pa_cons hz2 pa_nil))))) (pe_call L.Gc hr rfl L.gc L.Fc.kp bc .nil pass0 (pa_cons hx3 (pa_cons hy3 (pa_cons hz3 pa_nil))))
/-! ### not _law_are_these(field(mine), due) or not _law_are_these(field(twin), due) -/
def fldT (P : Program) (w : World) (K : PySem.W.Frag) (mg : Str → Option Value) (base : Heap) (j : Nat) : TE := fun σ H Q => (∃ (f c' : Addr) (q : Str) (params : Arguments) (body : Expr) (scope : Scope), σ[11]? = some (some (.ref f)) ∧ H f = some (LamO f q params body scope c')) ∧ tCallV P w K mg base 1 11 (tCons (tVar j) tNil) σ H Q
def theseT (P : Program) (w : World) (K : PySem.W.Frag) (mg : Str → Option Value) (base : Heap) : TT :=
  tOr (tNot (tB (tCall (spThese K) [] E0 (tCons (fldT P w K mg base 9) (tCons (tVar 12) tNil))))) (tNot (tB (tCall (spThese K) [] E0 (tCons (fldT P w K mg base 10) (tCons (tVar 12) tNil)))))
/-- a row taken apart -/
structure Row4 (P : Program) (w : World) (K : PySem.W.Frag) (mg : Str → Option Value) (base : Heap) (σ : L2.St) (H : Hp) (k : Nat) (xs : List V) : Prop where
  at_ : ∃ (e1 e2 fn c' due : Addr) (q : Str) (pa : Arguments) (bo : Expr) (sc : Scope), σ[9]? = some (some (.ref e1)) ∧ σ[10]? = some (some (.ref e2)) ∧ σ[11]? = some (some (.ref fn)) ∧ σ[12]? = some (some (.ref due)) ∧ FE K k H e1 xs ∧ FE K k H e2 xs ∧ H fn = some (LamO fn q pa bo sc c') ∧ H c' = some (CodeO c' q) ∧
    LamOk P w K mg base 1 q pa bo sc ["e"] (spLamF K k) ∧ H due = some (.lst xs)
theorem Row4.keepN {σ : L2.St} {H H' : Hp} {k : Nat} {xs : List V} (h : Row4 P w K mg base σ H k xs) (x : ExtN H H') : Row4 P w K mg base σ H' k xs := by
  obtain ⟨e1, e2, fn, c', due, q, pa, bo, sc, a1, a2, a3, a4, h2, h3, h4, h5, h6, h7⟩ := h.at_
  exact ⟨e1, e2, fn, c', due, q, pa, bo, sc, a1, a2, a3, a4, h2.keepN x, h3.keepN x, x _ _ h4 lamO_tbl, x _ _ h5 codeO_ne, h6, x _ _ h7 (fun _ z => nomatch z)⟩
theorem these_run {σ : L2.St} {H : Hp} {Q : Bool → Hp → Prop} {k : Nat} {xs : List V} (R : Row4 P w K mg base σ H k xs) (hl : xs.length = (fl k).length) (hl3 : xs.length ≤ 3) (ok : ∀ v ∈ xs, OkV K H v) (q : ∀ H', Ext H H' → Q false H') : theseT P w K mg base σ H Q := by
  have one : ∀ (j : Nat) (H1 : Hp) (e : Addr) (Q' : Bool → Hp → Prop), Row4 P w K mg base σ H1 k xs → σ[j]? = some (some (.ref e)) → FE K k H1 e xs → (∀ v ∈ xs, OkV K H1 v) → (∀ H', Ext H1 H' → Q' true H') →
      tB (tCall (spThese K) [] E0 (tCons (fldT P w K mg base j) (tCons (tVar 12) tNil))) σ H1 Q' := fun j H1 e Q' R1 he fe ok1 q' => by
    obtain ⟨e1, e2, fn, c', due, qn, pa, bo, sc, a1, a2, a3, a4, h2, h3, h4, h5, h6, h7⟩ := R1.at_
    refine ⟨⟨fn, c', qn, pa, bo, sc, a3, h4⟩, fn, c', qn, pa, bo, sc, ["e"], _, a3, h6, .ref e, he, h4, h5, e, xs, rfl, fe, hl, fun l H2 nl hl2 x2 => ?_⟩
    obtain ⟨ds, d1, d2, d3, d4⟩ := these_data (H := H2) (fun v hv => (ok1 v hv).keepN (ExtN.of x2)) hl3
    exact ⟨.ref due, a4, l, due, xs, ds, rfl, hl2, x2 _ _ h7, d1, d2, d3, d4, true, rfl, q' H2 x2⟩
  obtain ⟨e1, e2, fn, c', due, qn, pa, bo, sc, a1, a2, a3, a4, h2, h3, h4, h5, h6, h7⟩ := R.at_
  refine one 9 H e1 _ R a1 h2 ok fun H1 x1 => ?_
  refine iteF ?_
  exact one 10 H1 e2 _ (R.keepN (ExtN.of x1)) a2 (h3.keepN (ExtN.of x1)) (fun v hv => (ok v hv).keepN (ExtN.of x1)) fun H2 x2 => q H2 fun b o h => x2 _ _ (x1 _ _ h)
end
end K00
set_option Elab.async false
set_option maxRecDepth 100000
set_option maxHeartbeats 4000000
set_option linter.all false
/-! the law's loops -/
namespace K00
open PySem PySem.Spec PyProof.Rows L2 XV LamV LamX ReprV
/-- with a ghost -/
def RSG {α : Type} (X : Cx) (st : Stmt) (A B : α → L2.St → Hp → Prop) : Prop := ∃ t, PS X st t ∧ ∀ g D σ H, A g σ H → (∀ σ' H', B g σ' H' → D.nx σ' H') → t D σ H
def RN {α : Type} (X : Cx) (body : List Stmt) (A B : α → L2.St → Hp → Prop) : Prop := ∃ t, PSs X body t ∧ ∀ g D σ H, A g σ H → (∀ σ' H', B g σ' H' → D.nx σ' H') → t D σ H
section
variable {α : Type} {X : Cx} {st : Stmt} {rest : List Stmt} {A B C : α → L2.St → Hp → Prop}
theorem rsg_of {t : TS} (p : PS X st t) (h : ∀ g D σ H, A g σ H → (∀ σ' H', B g σ' H' → D.nx σ' H') → t D σ H) : RSG X st A B := ⟨t, p, h⟩
theorem rn_one (h : RSG X st A B) : RN X [st] A B := by
  obtain ⟨t, p, h⟩ := h
  exact ⟨t, pss_one p, h⟩
theorem rn_cons (h1 : RSG X st A B) (h2 : RN X rest B C) : RN X (st :: rest) A C := by
  obtain ⟨t, p, h⟩ := h1
  obtain ⟨u, q, k⟩ := h2
  exact ⟨tSeq t u, pss_cons p q, fun g D σ H a r => h g _ σ H a fun σ' H' b => k g D σ' H' b r⟩
end
theorem tabs_kp {T : List (Addr × Str)} {st c : Addr} {k : Nat} {H H' : Hp} (tb : Tabs T H) (S : Strm H st c k) (x : Kp st c H H') : Tabs T H' := fun p hp => by
  obtain ⟨ns, b, n, m, h1, h2, _⟩ := S.at_
  obtain ⟨ps, a1, a2, a3⟩ := tb p hp
  refine ⟨ps, x _ _ a1 (fun z => ?_) (fun z => ?_), a2, fun pos cv hc => ?_⟩
  · rw [z, h1] at a1
    cases a1
  · rw [z, h2] at a1
    cases a1
  · obtain ⟨c0, b1, b2⟩ := a3 pos cv hc
    refine ⟨c0, b1, x _ _ b2 (fun z => ?_) fun z => ?_⟩
    · rw [z, h1] at b2
      have z' : HO.lst _ = HO.ext _ := Option.some.inj b2
      cases z'
    · rw [z, h2] at b2
      have z' : HO.lst _ = HO.ext _ := Option.some.inj b2
      cases z'
section
variable {P : Program} {w : World} {K : PySem.W.Frag} {mg : Str → Option Value} {base : Heap} {T : List (Addr × Str)} {f : Addr} {cdv : Value} {A : Around} {outer : List Env} {s : Shared} {H0 : Hp} {E : XK}
structure T1 (K : PySem.W.Frag) (T : List (Addr × Str)) (k : Nat) (σ : L2.St) (H : Hp) : Prop where
  lot : Lot K T k σ H
  at_ : ∃ vx vy vz, σ[4]? = some (some vx) ∧ σ[5]? = some (some vy) ∧ σ[6]? = some (some vz) ∧ OkV K H vx ∧ OkV K H vy ∧ OkV K H vz
structure T2 (P : Program) (w : World) (K : PySem.W.Frag) (mg : Str → Option Value) (base : Heap) (T : List (Addr × Str)) (k : Nat) (σ : L2.St) (H : Hp) : Prop where
  lot : Lot K T k σ H
  at_ : ∃ vx vy vz m ws, σ[7]? = some (some (.ref m)) ∧ H m = some (.lst ws) ∧ Made P w K mg base 0 50 vx vy vz H ws ∧ OkV K H vx ∧ OkV K H vy ∧ OkV K H vz
def turnB : List Stmt := match lstm 2 with
  | .For _ _ b _ _ => b
  | _ => []
def tst (i : Nat) : Stmt := turnB.getD i (.Pass ⟨0, 0, 0, 0⟩)
theorem cut3 (v0 v1 v2 : V) (r : List V) (h : r.length = 12) : cutV (v0 :: v1 :: v2 :: r) none (some 3) = [v0, v1, v2] := by
  have e : (v0 :: v1 :: v2 :: r).length = 15 := by simp [h]
  unfold cutV
  rw [e]
  rfl
theorem law_xyz (L : LE P w K mg base T) (hr : Room 4 (XL P w K mg base f cdv A outer s H0 E).A) :
    RSG (XL P w K mg base f cdv A outer s H0 E) (tst 0) (fun k σ H => k ≤ 100 ∧ Lot K T k σ H) (fun k => T1 K T (k + 15)) := by
  have bm : Binds K L.dm ["stream", "some"] [] := L.Fm.binds fun _ _ _ _ _ _ us hl => match us, hl with | [_, _], _ => rfl
  refine rsg_of (ps_asg (pe_slice sl_list (pe_call L.Gm (hr.mono (by decide)) rfl L.gm L.Fm.kp bm .nil pass0 (pa_cons (pv 1) (pa_cons (pv 2) pa_nil))) po_none (po_some pe_int)) (pg_lst (n := 3) rfl (pgs_cons (pg_name (i := 4) scLaw.nd rfl (Or.inl rfl)) (pgs_cons (pg_name (i := 5) scLaw.nd rfl (Or.inl rfl)) (pgs_cons (pg_name (i := 6) scLaw.nd rfl (Or.inl rfl)) pgs_nil))))) fun k D σ H ⟨hk, M⟩ q => ?_
  obtain ⟨st, c, sm, xs, a1, a2, a3, a4, a5, a6⟩ := M.at_
  obtain ⟨b1, b2, b3⟩ := ho_get a4
  refine ⟨.ref st, a1, .ref sm, a2, st, c, sm, k, xs, rfl, a3, by omega, .inl (SqL.of b1), by omega, fun ys p H1 pm hp hl S1 kp => ?_⟩
  have ly : ys.length = 15 := pm.length_eq.trans a5
  match ys, ly with
  | v0 :: v1 :: v2 :: r, ly =>
    refine ⟨3, rfl, p, _, rfl, SqL.of hl, fun p2 hp2 => ?_⟩
    rw [cut3 v0 v1 v2 r (by simpa using ly)]
    have x2 : Ext H1 (upd H1 p2 (.lst [v0, v1, v2])) := ext_new hp2
    have ok : ∀ v ∈ v0 :: v1 :: v2 :: r, OkV K (upd H1 p2 (.lst [v0, v1, v2])) v := fun v hv => (((a6 v (pm.mem_iff.mp hv)).keepN (ho_kp kp)).keepN ho_lt).keepN (ExtN.of x2)
    refine ⟨p2, [v0, v1, v2], rfl, SqL.of upd_same, rfl, v0, _, rfl, v1, _, rfl, v2, _, rfl, rfl, q _ _ ⟨⟨?_, ⟨st, c, sm, xs, ?_, ?_, ?_, ?_, a5, fun v hv => ?_⟩, ?_⟩, v0, v1, v2, ?_, ?_, ?_, ok v0 List.mem_cons_self, ok v1 (List.mem_cons_of_mem _ List.mem_cons_self), ok v2 (List.mem_cons_of_mem _ (List.mem_cons_of_mem _ List.mem_cons_self))⟩⟩
    · rw [List.length_set, List.length_set, List.length_set]
      exact M.sl
    · rw [List.getElem?_set_ne (by decide), List.getElem?_set_ne (by decide), List.getElem?_set_ne (by decide)]
      exact a1
    · rw [List.getElem?_set_ne (by decide), List.getElem?_set_ne (by decide), List.getElem?_set_ne (by decide)]
      exact a2
    · rw [a5] at S1
      exact S1.keep x2
    · exact ho_mono (ExtN.of x2) _ _ (ho_kp kp _ _ a4 (fun _ z => nomatch z)) (fun _ z => nomatch z)
    · exact ((a6 v hv).keepN (ho_kp kp)).keepN (ho_mono (ExtN.of x2))
    · exact (tabs_kp M.tb a3 kp).ext x2
    · rw [List.getElem?_set_ne (by decide), List.getElem?_set_ne (by decide), List.getElem?_set_self (by rw [M.sl]; decide)]
    · rw [List.getElem?_set_ne (by decide), List.getElem?_set_self (by rw [List.length_set, M.sl]; decide)]
    · rw [List.getElem?_set_self (by rw [List.length_set, List.length_set, M.sl]; decide)]
theorem law_made (L : LE P w K mg base T) (hr : Room 4 (XL P w K mg base f cdv A outer s H0 E).A) : RSG (XL P w K mg base f cdv A outer s H0 E) (tst 1) (fun k => T1 K T (k + 15)) (fun k => T2 P w K mg base T (k + 15)) := by
  refine rsg_of (ps_set (i := 7) scLaw.nd rfl (Or.inl rfl) (pe_made L (hr.mono (by decide)) (pv 4) (pv 5) (pv 6) (pv 4) (pv 5) (pv 6) (pv 4) (pv 5) (pv 6))) fun k D σ H M q => ?_
  obtain ⟨vx, vy, vz, a1, a2, a3, o1, o2, o3⟩ := M.at_
  refine made_run a1 a2 a3 M.lot.tb fun m ws H1 x tb hm hw => q _ _ ⟨M.lot.keep x tb (by rw [List.length_set]; exact M.lot.sl) (by rw [List.getElem?_set_ne (by decide)]) (by rw [List.getElem?_set_ne (by decide)]), vx, vy, vz, m, ws, ?_, hm, hw, o1.keepN x, o2.keepN x, o3.keepN x⟩
  rw [List.getElem?_set_self (by rw [M.lot.sl]; decide)]
end
end K00
set_option Elab.async false
set_option maxRecDepth 100000
set_option maxHeartbeats 4000000
set_option linter.all false
/-! the law's inner loop, its turns -/
namespace K00
open PySem PySem.Spec PyProof.Rows L2 XV LamV LamX ReprV
theorem fl3 : ∀ k, (fl k).length ≤ 3 := by
  intro k
  by_cases h : k < 50
  · have : ∀ i : Fin 50, (fl i.val).length ≤ 3 := by decide +kernel
    exact this ⟨k, h⟩
  · have e : fl k = [] := by
      unfold fl
      rw [List.getD_eq_getElem?_getD, List.getElem?_eq_none (by show 50 ≤ k; omega)]
      rfl
    rw [e]
    exact Nat.zero_le _
theorem due_len (vx vy vz : V) (k : Nat) : (due vx vy vz k).length = (fl k).length := by
  unfold due
  rw [List.length_take]
  exact Nat.min_eq_left (fl3 k)
theorem due_mem {vx vy vz v : V} {k : Nat} (h : v ∈ due vx vy vz k) : v = vx ∨ v = vy ∨ v = vz := by
  have := List.mem_of_mem_take h
  simpa using this
section
variable {P : Program} {w : World} {K : PySem.W.Frag} {mg : Str → Option Value} {base : Heap} {T : List (Addr × Str)} {f : Addr} {cdv : Value} {A : Around} {outer : List Env} {s : Shared} {H0 : Hp} {E : XK}
/-- the two tests of the loops -/
theorem pt_these {p1 p2 p3 p4 p5 q1 q2 q3 q4 q5 r1 r2 r3 r4 r5 : Pos} (L : LE P w K mg base T) (hr : Room 4 (XL P w K mg base f cdv A outer s H0 E).A) (hg : A.guards = some []) :
    PT (XL P w K mg base f cdv A outer s H0 E) (.BoolOp .Or [.UnaryOp .Not (.Call (.Name "_law_are_these" p1) [.Call (.Name "field" p2) [.Name "mine" p3] [] p4, .Name "due" p5] [] r1) r2, .UnaryOp .Not (.Call (.Name "_law_are_these" q1) [.Call (.Name "field" q2) [.Name "twin" q3] [] q4, .Name "due" q5] [] r3) r4] r5) (theseT P w K mg base) := by
  have bt : Binds K L.dt ["found", "due"] [] := L.Ft.binds fun _ _ _ _ _ _ us hl => match us, hl with | [_, _], _ => rfl
  exact PW.pt (pw_or (pt_not (pt_val (pe_callG L.Gt (hr.mono (by decide)) hg rfl L.gt L.Ft.kp bt (pa_cons (pe_callV (i := 11) (k := 1) (hr.mono (by decide)) rfl (Or.inl rfl) (pa_cons (pv 9) pa_nil)) (pa_cons (pv 12) pa_nil)))))
    (pw_or1 (pt_not (pt_val (pe_callG L.Gt (hr.mono (by decide)) hg rfl L.gt L.Ft.kp bt (pa_cons (pe_callV (i := 11) (k := 1) (hr.mono (by decide)) rfl (Or.inl rfl) (pa_cons (pv 10) pa_nil)) (pa_cons (pv 12) pa_nil)))))))
/-- ahead of the i-th row: what stands when the loop begins stays -/
structure EI (P : Program) (w : World) (K : PySem.W.Frag) (mg : Str → Option Value) (base : Heap) (T : List (Addr × Str)) (k : Nat) (vx vy vz : V) (m : Addr) (ws : List V) (σ : L2.St) (H : Hp) : Prop where
  lot : Lot K T k σ H
  hm : H m = some (.lst ws)
  made : Made P w K mg base 0 50 vx vy vz H ws
  ok : OkV K H vx ∧ OkV K H vy ∧ OkV K H vz
theorem EI.keep {k : Nat} {vx vy vz : V} {m : Addr} {ws : List V} {σ σ' : L2.St} {H H' : Hp} (M : EI P w K mg base T k vx vy vz m ws σ H) (x : Ext H H') (hs : σ'.length = 15) (h1 : σ'[1]? = σ[1]?) (h2 : σ'[2]? = σ[2]?) : EI P w K mg base T k vx vy vz m ws σ' H' :=
  ⟨M.lot.keep (ExtN.of x) (M.lot.tb.ext x) hs h1 h2, x _ _ M.hm, M.made.keepN (ExtN.of x), M.ok.1.keepN (ExtN.of x), M.ok.2.1.keepN (ExtN.of x), M.ok.2.2.keepN (ExtN.of x)⟩
theorem EI.due_ok {k i : Nat} {vx vy vz : V} {m : Addr} {ws : List V} {σ : L2.St} {H : Hp} (M : EI P w K mg base T k vx vy vz m ws σ H) : ∀ v ∈ due vx vy vz i, OkV K H v := fun v hv => by
  rcases due_mem hv with e | e | e
  · rw [e]
    exact M.ok.1
  · rw [e]
    exact M.ok.2.1
  · rw [e]
    exact M.ok.2.2
def ownT (K : PySem.W.Frag) : TT := tOr (tNot (tB (tCall (spOwn K) [] E0 (tCons (tVar 9) (tCons (tVar 8) tNil))))) (tNot (tB (tCall (spOwn K) [] E0 (tCons (tVar 10) (tCons (tVar 8) tNil)))))
theorem own_run {σ : L2.St} {H : Hp} {Q : Bool → Hp → Prop} {k : Nat} {xs : List V} (R : Row4 P w K mg base σ H k xs) (hk : k < 50) (h8 : σ[8]? = some (some (.int (k : Int)))) (q : ∀ H', Ext H H' → Q false H') : ownT K σ H Q := by
  obtain ⟨e1, e2, fn, c', du, qn, pa, bo, sc, a1, a2, a3, a4, h2, h3, h4, h5, h6, h7⟩ := R.at_
  refine ⟨.ref e1, a1, .int k, h8, e1, k, rfl, hk, h2.a, fun H1 x1 => ⟨true, rfl, iteF ?_⟩⟩
  exact ⟨.ref e2, a2, .int k, h8, e2, k, rfl, hk, h3.a.keep x1, fun H2 x2 => ⟨true, rfl, q H2 fun b o h => x2 _ _ (x1 _ _ h)⟩⟩
theorem row4_of {σ : L2.St} {H : Hp} {k : Nat} {xs : List V} {e1 e2 fn c' du : Addr} {q : Str} {pa : Arguments} {bo : Expr} {sc : Scope} (hl : σ.length = 15)
    (h2 : FE K k H e1 xs) (h3 : FE K k H e2 xs) (h4 : H fn = some (LamO fn q pa bo sc c')) (h5 : H c' = some (CodeO c' q)) (h6 : LamOk P w K mg base 1 q pa bo sc ["e"] (spLamF K k)) (h7 : H du = some (.lst xs)) :
    Row4 P w K mg base ((((σ.set 9 (some (.ref e1))).set 10 (some (.ref e2))).set 11 (some (.ref fn))).set 12 (some (.ref du))) H k xs := by
  refine ⟨e1, e2, fn, c', du, q, pa, bo, sc, ?_, ?_, ?_, ?_, h2, h3, h4, h5, h6, h7⟩
  · rw [List.getElem?_set_ne (by decide), List.getElem?_set_ne (by decide), List.getElem?_set_ne (by decide), List.getElem?_set_self (by rw [hl]; decide)]
  · rw [List.getElem?_set_ne (by decide), List.getElem?_set_ne (by decide), List.getElem?_set_self (by rw [List.length_set, hl]; decide)]
  · rw [List.getElem?_set_ne (by decide), List.getElem?_set_self (by rw [List.length_set, List.length_set, hl]; decide)]
  · rw [List.getElem?_set_self (by rw [List.length_set, List.length_set, List.length_set, hl]; decide)]
theorem law_enum (L : LE P w K mg base T) (hr : Room 4 (XL P w K mg base f cdv A outer s H0 E).A) (hg : A.guards = some []) : RSG (XL P w K mg base f cdv A outer s H0 E) (tst 2) (fun k => T2 P w K mg base T (k + 15)) (fun k => Lot K T (k + 15)) := by
  have bo : Binds K L.do_ ["e", "at"] [] := L.Fo.binds fun _ _ _ _ _ _ us hl => match us, hl with | [_, _], _ => rfl
  have p : PS (XL P w K mg base f cdv A outer s H0 E) (tst 2) (tFor (iEnum K (tCons (tVar 7) tNil)) (gTup K 2 (gCons (gName 8) (gCons (gTup K 4 (gCons (gName 9) (gCons (gName 10) (gCons (gName 11) (gCons (gName 12) gNil))))) gNil)))
      (tSeq (tIfS (ownT K) (tRet (tC (.bl false))) tNext) (tIfS (theseT P w K mg base) (tRet (tC (.bl false))) tNext))) :=
    ps_for PassesOwn.never rfl (pi_enum rfl L.me (pa_cons (pv 7) pa_nil)) (pg_tup (n := 2) rfl (pgs_cons (pg_name (i := 8) scLaw.nd rfl (Or.inl rfl)) (pgs_cons (pg_tup (n := 4) rfl (pgs_cons (pg_name (i := 9) scLaw.nd rfl (Or.inl rfl)) (pgs_cons (pg_name (i := 10) scLaw.nd rfl (Or.inl rfl)) (pgs_cons (pg_name (i := 11) scLaw.nd rfl (Or.inl rfl)) (pgs_cons (pg_name (i := 12) scLaw.nd rfl (Or.inl rfl)) pgs_nil))))) pgs_nil)))
      (pss_cons (ps_if (PW.pt (pw_or (pt_not (pt_val (pe_call L.Go (hr.mono (by decide)) rfl L.go L.Fo.kp bo .nil pass0 (pa_cons (pv 9) (pa_cons (pv 8) pa_nil))))) (pw_or1 (pt_not (pt_val (pe_call L.Go (hr.mono (by decide)) rfl L.go L.Fo.kp bo .nil pass0 (pa_cons (pv 10) (pa_cons (pv 8) pa_nil)))))))) (pss_one (ps_ret pe_bl)) pss_nil)
        (pss_one (ps_if (pt_these L hr hg) (pss_one (ps_ret pe_bl)) pss_nil)))
  refine rsg_of p fun k D σ H M q => ?_
  obtain ⟨vx, vy, vz, m, ws, a7, hm, md, o1, o2, o3⟩ := M.at_
  refine ⟨.ref m, a7, m, ws, rfl, SqL.of hm, ?_⟩
  refine for_enum (fun i σ' H' => EI P w K mg base T (k + 15) vx vy vz m ws σ' H') ⟨M.lot, hm, md, o1, o2, o3⟩ (fun i σ' H' _ I => SqL.of I.hm) (fun i v σ' H' t hv I ht => ?_) (fun σ' H' I => q _ _ I.lot)
  have hi : i < 50 := by
    have := (List.getElem?_eq_some_iff.mp hv).1
    rw [I.made.1] at this
    exact this
  have x1 : Ext H' (upd H' t (.tup [.int (i : Nat), v])) := ext_new ht
  have R := (I.made.2 i v hv).keepN (ExtN.of x1)
  rw [Nat.zero_add] at R
  obtain ⟨u, e1, e2, fn, c', du, qn, pa, bo', sc, rfl, h1, h2, h3, h4, h5, h6, h7⟩ := R.at_
  refine ⟨t, _, rfl, SqT.of upd_same, rfl, .int (i : Nat), _, rfl, .ref u, _, rfl, u, _, rfl, SqT.of h1, rfl, .ref e1, _, rfl, .ref e2, _, rfl, .ref fn, _, rfl, .ref du, _, rfl, rfl, rfl, ?_⟩
  have hl : (σ'.set 8 (some (.int (i : Nat)))).length = 15 := by rw [List.length_set]; exact I.lot.sl
  have R4 := row4_of (P := P) (w := w) (mg := mg) (base := base) hl h2 h3 h4 h5 h6 h7
  have J := I.keep x1 (σ' := ((((σ'.set 8 (some (.int (i : Nat)))).set 9 (some (.ref e1))).set 10 (some (.ref e2))).set 11 (some (.ref fn))).set 12 (some (.ref du))) (by rw [List.length_set, List.length_set, List.length_set, List.length_set]; exact hl)
    (by rw [List.getElem?_set_ne (by decide), List.getElem?_set_ne (by decide), List.getElem?_set_ne (by decide), List.getElem?_set_ne (by decide), List.getElem?_set_ne (by decide)])
    (by rw [List.getElem?_set_ne (by decide), List.getElem?_set_ne (by decide), List.getElem?_set_ne (by decide), List.getElem?_set_ne (by decide), List.getElem?_set_ne (by decide)])
  refine own_run R4 hi ?_ fun H2 x2 => iteF ?_
  · rw [List.getElem?_set_ne (by decide), List.getElem?_set_ne (by decide), List.getElem?_set_ne (by decide), List.getElem?_set_ne (by decide), List.getElem?_set_self (by rw [I.lot.sl]; decide)]
  · have J2 := J.keep x2 J.lot.sl rfl rfl
    exact these_run (R4.keepN (ExtN.of x2)) (due_len vx vy vz i) (by rw [due_len]; exact fl3 i) J2.due_ok fun H3 x3 => iteF (J2.keep x3 J.lot.sl rfl rfl)
theorem law_turns (L : LE P w K mg base T) (hr : Room 4 (XL P w K mg base f cdv A outer s H0 E).A) (hg : A.guards = some []) : RS (XL P w K mg base f cdv A outer s H0 E) (lstm 2) (Lot K T 0) (Lot K T 30) := by
  obtain ⟨t, p, h⟩ := rn_cons (law_xyz (f := f) (cdv := cdv) (outer := outer) (s := s) (H0 := H0) (E := E) L hr) (rn_cons (law_made L hr) (rn_one (law_enum L hr hg)))
  have p' : PS (XL P w K mg base f cdv A outer s H0 E) (lstm 2) (tFor (iRng1 (tCons (tC (.int 2)) tNil)) (gName 3) t) := ps_for PassesOwn.never rfl (pi_range1 rfl L.mr (pa_cons pe_int pa_nil)) (pg_name (i := 3) scLaw.nd rfl (Or.inl rfl)) p
  refine rs_of p' fun D σ H M q => ?_
  refine ⟨2, rfl, by decide, by decide, ?_⟩
  refine for_range (lo := 0) (n := 2) (fun i σ' H' => Lot K T (15 * i) σ' H') M (fun i σ' H' hi I => ?_) (fun σ' H' I => q _ _ I)
  refine h (15 * i) _ _ _ ⟨by omega, I.keep (ExtN.refl _) I.tb (by rw [List.length_set]; exact I.sl) (by rw [List.getElem?_set_ne (by decide)]) (by rw [List.getElem?_set_ne (by decide)])⟩ fun σ2 H2 J => ?_
  rw [show 15 * (i + 1) = 15 * i + 15 by omega]
  exact J
end
end K00
set_option Elab.async false
set_option maxRecDepth 100000
set_option maxHeartbeats 4000000
set_option linter.all false
/-! the law's end -/
namespace K00
open PySem PySem.Spec PyProof.Rows L2 XV LamV LamX ReprV
section
variable {P : Program} {w : World} {K : PySem.W.Frag} {mg : Str → Option Value} {base : Heap} {T : List (Addr × Str)} {f : Addr} {cdv : Value} {A : Around} {outer : List Env} {s : Shared} {H0 : Hp} {E : XK}
theorem RowV.hid {H : Hp} {k : Nat} {xs ys : List V} {v : V} {h : Addr} (R : RowV P w K mg base H k xs v) (hh : H h = some (.lst ys)) (ne : xs ≠ ys) : RowV P w K mg base (hid h H) k xs v := by
  obtain ⟨t, e1, e2, fn, c', due, q, pa, bo, sc, h0, h1, h2, h3, h4, h5, h6, h7⟩ := R.at_
  have n1 : t ≠ h := fun z => by
    rw [z, hh] at h1
    cases h1
  have n4 : fn ≠ h := fun z => by
    rw [z, hh] at h4
    have z' : HO.lst ys = HO.ext _ := Option.some.inj h4
    cases z'
  have n5 : c' ≠ h := fun z => by
    rw [z, hh] at h5
    have z' : HO.lst ys = HO.ext _ := Option.some.inj h5
    cases z'
  have n7 : due ≠ h := fun z => by
    rw [z, hh] at h7
    have z' : HO.lst ys = HO.lst xs := Option.some.inj h7
    injection z' with z'
    exact ne z'.symm
  exact ⟨t, e1, e2, fn, c', due, q, pa, bo, sc, h0, by rw [hid_ne n1]; exact h1, h2.hid hh, h3.hid hh, by rw [hid_ne n4]; exact h4, by rw [hid_ne n5]; exact h5, h6, by rw [hid_ne n7]; exact h7⟩
theorem hid_upd {h : Addr} {H : Hp} {o : HO} : ExtN (hid h H) (upd H h o) := fun b u e _ => by
  obtain ⟨e1, e2⟩ := hid_get e
  rw [upd_ne e2]
  exact e1
theorem tabs_upd {H : Hp} {h : Addr} {ys zs : List V} (tb : Tabs T H) (hh : H h = some (.lst ys)) : Tabs T (upd H h (.lst zs)) := fun p hp => by
  obtain ⟨ps, a1, a2, a3⟩ := tb p hp
  refine ⟨ps, ?_, a2, fun pos cv hc => ?_⟩
  · rw [upd_ne fun z => ?_]
    · exact a1
    · rw [z, hh] at a1
      cases a1
  · obtain ⟨c0, b1, b2⟩ := a3 pos cv hc
    refine ⟨c0, b1, ?_⟩
    rw [upd_ne fun z => ?_]
    · exact b2
    · rw [z, hh] at b2
      have z' : HO.lst ys = HO.ext _ := Option.some.inj b2
      cases z'
structure U0 (T : List (Addr × Str)) (σ : L2.St) (H : Hp) : Prop where
  sl : σ.length = 15
  tb : Tabs T H
structure U1 (T : List (Addr × Str)) (σ : L2.St) (H : Hp) : Prop where
  u : U0 T σ H
  at_ : ∃ h, σ[13]? = some (some (.ref h)) ∧ H h = some (.lst [.str "v"])
structure U2 (P : Program) (w : World) (K : PySem.W.Frag) (mg : Str → Option Value) (base : Heap) (T : List (Addr × Str)) (σ : L2.St) (H : Hp) : Prop where
  u : U0 T σ H
  at_ : ∃ h m ws, σ[13]? = some (some (.ref h)) ∧ H h = some (.lst [.str "v"]) ∧ σ[7]? = some (some (.ref m)) ∧ H m = some (.lst ws) ∧ Made P w K mg base 0 50 (.ref h) (.ref h) (.ref h) H ws
structure U3 (P : Program) (w : World) (K : PySem.W.Frag) (mg : Str → Option Value) (base : Heap) (T : List (Addr × Str)) (σ : L2.St) (H : Hp) : Prop where
  u : U0 T σ H
  at_ : ∃ h m ws, σ[7]? = some (some (.ref m)) ∧ H m = some (.lst ws) ∧ Made P w K mg base 0 50 (.ref h) (.ref h) (.ref h) H ws ∧ OkV K H (.ref h)
theorem law_held : RS (XL P w K mg base f cdv A outer s H0 E) (lstm 3) (Lot K T 30) (U1 T) := by
  refine rs_of (ps_set (i := 13) scLaw.nd rfl (Or.inl rfl) (pe_lst (pa_cons pe_str pa_nil))) fun D σ H M q => ?_
  refine ⟨by show 1 ≤ sizeLine; decide, fun h n => q _ _ ⟨⟨by rw [List.length_set]; exact M.sl, M.tb.ext (ext_new n)⟩, h, by rw [List.getElem?_set_self (by rw [M.sl]; decide)], upd_same⟩⟩
theorem law_made2 (L : LE P w K mg base T) (hr : Room 4 (XL P w K mg base f cdv A outer s H0 E).A) : RS (XL P w K mg base f cdv A outer s H0 E) (lstm 4) (U1 T) (U2 P w K mg base T) := by
  refine rs_of (ps_set (i := 7) scLaw.nd rfl (Or.inl rfl) (pe_made L (hr.mono (by decide)) (pv 13) (pv 13) (pv 13) (pv 13) (pv 13) (pv 13) (pv 13) (pv 13) (pv 13))) fun D σ H M q => ?_
  obtain ⟨h, a, b⟩ := M.at_
  refine made_run a a a M.u.tb fun m ws H1 x tb hm hw => q _ _ ⟨⟨by rw [List.length_set]; exact M.u.sl, tb⟩, h, m, ws, ?_, x _ _ b (fun _ z => nomatch z), ?_, hm, hw⟩
  · rw [List.getElem?_set_ne (by decide)]
    exact a
  · rw [List.getElem?_set_self (by rw [M.u.sl]; decide)]
theorem law_more : RS (XL P w K mg base f cdv A outer s H0 E) (lstm 5) (U2 P w K mg base T) (U3 P w K mg base T) := by
  refine rs_of (ps_expr (pe_bm PySem.F.plainAttrs_list PySem.F.slot_list_append PySem.F.type_list_append mt_append (pv 13) (pa_cons pe_str pa_nil))) fun D σ H M q => ?_
  obtain ⟨h, m, ws, a1, a2, a3, a4, a5⟩ := M.at_
  have nm : m ≠ h := fun z => by
    rw [z, a2] at a4
    have z' : HO.lst [V.str "v"] = HO.lst ws := Option.some.inj a4
    injection z' with z'
    have := a5.1
    rw [← z'] at this
    cases this
  refine ⟨.ref h, a1, Or.inl ⟨rfl, _, SqL.of a2⟩, h, [.str "v"], .str "w", rfl, rfl, a2, by show 1 < sizeLine; decide, ?_⟩
  refine q _ _ ⟨⟨M.u.sl, tabs_upd M.u.tb a2⟩, h, m, ws, a3, by rw [upd_ne nm]; exact a4, ⟨a5.1, fun j v hv => ((a5.2 j v hv).hid a2 fun z => ?_).keepN hid_upd⟩, ?_⟩
  · unfold due at z
    have fl' := fl3 (0 + j)
    revert z
    generalize (fl (0 + j)).length = n at fl'
    match n, fl' with
    | 0, _ => exact fun z => nomatch z
    | 1, _ => exact fun z => nomatch z
    | 2, _ => exact fun z => nomatch z
    | 3, _ => exact fun z => nomatch z
  · exact ⟨.list [.str "v", .str "w"], .lst upd_same (.cons (.str "v") (.cons (.str "w") .nil)), by decide +kernel, by decide +kernel, by decide +kernel⟩
theorem law_loop2 (L : LE P w K mg base T) (hr : Room 4 (XL P w K mg base f cdv A outer s H0 E).A) (hg : A.guards = some []) : RS (XL P w K mg base f cdv A outer s H0 E) (lstm 6) (U3 P w K mg base T) (fun σ H => σ.length = 15) := by
  have p : PS (XL P w K mg base f cdv A outer s H0 E) (lstm 6) (tFor (iList K (tVar 7)) (gTup K 4 (gCons (gName 9) (gCons (gName 10) (gCons (gName 11) (gCons (gName 12) gNil))))) (tIfS (theseT P w K mg base) (tRet (tC (.bl false))) tNext)) :=
    ps_for PassesOwn.never rfl (pi_list (pv 7)) (pg_tup (n := 4) rfl (pgs_cons (pg_name (i := 9) scLaw.nd rfl (Or.inl rfl)) (pgs_cons (pg_name (i := 10) scLaw.nd rfl (Or.inl rfl)) (pgs_cons (pg_name (i := 11) scLaw.nd rfl (Or.inl rfl)) (pgs_cons (pg_name (i := 12) scLaw.nd rfl (Or.inl rfl)) pgs_nil)))))
      (pss_one (ps_if (pt_these L hr hg) (pss_one (ps_ret pe_bl)) pss_nil))
  refine rs_of p fun D σ H M q => ?_
  obtain ⟨h, m, ws, a7, hm, md, ok⟩ := M.at_
  refine ⟨.ref m, a7, m, rfl, ⟨ws, SqL.of hm⟩, ?_⟩
  refine for_list (fun i σ' H' => σ'.length = 15 ∧ Ext H H') ⟨M.u.sl, fun _ _ e => e⟩ (fun i σ' H' _ I => SqL.of (I.2 _ _ hm)) (fun i v σ' H' hv I => ?_) (fun σ' H' I => q _ _ I.1)
  have R := (md.2 i v hv).keepN (ExtN.of I.2)
  rw [Nat.zero_add] at R
  obtain ⟨u, e1, e2, fn, c', du, qn, pa, bo', sc, rfl, h1, h2, h3, h4, h5, h6, h7⟩ := R.at_
  refine ⟨u, _, rfl, SqT.of h1, rfl, .ref e1, _, rfl, .ref e2, _, rfl, .ref fn, _, rfl, .ref du, _, rfl, rfl, ?_⟩
  have R4 := row4_of (P := P) (w := w) (mg := mg) (base := base) I.1 h2 h3 h4 h5 h6 h7
  refine these_run R4 (due_len _ _ _ i) (by rw [due_len]; exact fl3 i) (fun v hv => ?_) fun H3 x3 => iteF ⟨?_, fun b o e => x3 _ _ (I.2 _ _ e)⟩
  · have ok' := ok.keepN (ExtN.of I.2)
    rcases due_mem hv with e | e | e
    · rw [e]
      exact ok'
    · rw [e]
      exact ok'
    · rw [e]
      exact ok'
  · rw [List.length_set, List.length_set, List.length_set, List.length_set]
    exact I.1
theorem law_base (L : LE P w K mg base T) : RS (XL P w K mg base f cdv A outer s H0 E) (lstm 7) (fun σ H => σ.length = 15) (fun σ H => ∃ e, σ[14]? = some (some (.ref e)) ∧ ExA H e (cA K 50)) := by
  refine rs_of (ps_set (i := 14) scLaw.nd rfl (Or.inl rfl) (p_exn0 (k := 50) L.cf (by decide) rfl rfl rfl)) fun D σ H M q => ?_
  exact fun e n => q _ _ ⟨e, by rw [List.getElem?_set_self (by rw [M]; decide)], none, upd_same, fun dx z => nomatch z⟩
theorem law_ret (L : LE P w K mg base T) (hr : Room 4 (XL P w K mg base f cdv A outer s H0 E).A) : RB (XL P w K mg base f cdv A outer s H0 E) [lstm 8] (fun σ H => ∃ e, σ[14]? = some (some (.ref e)) ∧ ExA H e (cA K 50)) (fun v H => v = .bl true) := by
  have bk : Binds K L.dk ["e"] [] := L.Fk.binds fun _ _ _ _ _ _ us hl => match us, hl with | [_], _ => rfl
  refine rb_ret (pe_and (pe_callB call_isX rfl L.mi boot_isinstance (pa_cons (pv 14) (pa_cons (pe_bltn (v := .ty "ValueError") rfl L.mV (by decide +kernel) rfl) pa_nil))) (pe_one (pe_cmpR op_notIn_seq pe_bl (pe_call L.Gk (hr.mono (by decide)) rfl L.gk L.Fk.kp bk .nil pass0 (pa_cons (pv 14) pa_nil)) rfl))) fun σ H Q ⟨e, h14, x⟩ q => ?_
  refine ⟨.ref e, h14, e, cA K 50, _, _, true, rfl, .ty _, x, L.cf.exc 50 (by decide), (L.cf.kitB 50 (by decide)).1, true, rfl, iteT ?_⟩
  refine ⟨.ref e, h14, e, 50, rfl, by decide, x, fun F H1 n l x1 => ⟨F, _, rfl, Or.inl (SqL.of l), rfl, by decide +kernel, q _ _ ?_⟩⟩
  have e1 : inV (.bl true) (bls 0 50 50) = false := by decide +kernel
  rw [e1]
  rfl
end
end K00
set_option Elab.async false
set_option maxRecDepth 100000
set_option maxHeartbeats 4000000
set_option linter.all false
/-! the law keeps its promise -/
namespace K00
open PySem PySem.Spec PyProof.Rows L2 XV LamV LamX ReprV
def spLaw (K : PySem.W.Frag) (T : List (Addr × Str)) : Sp := fun vs H Q _ => ∃ (a : Addr) (ns : List Int), vs = [.ref a] ∧ SqL K H a (ns.map V.int) ∧ Tabs T H ∧ ∀ H' : Hp, Q (.bl true) H'
section
variable {P : Program} {w : World} {K : PySem.W.Frag} {mg : Str → Option Value} {base : Heap} {T : List (Addr × Str)}
theorem ok_law {f fs : Addr} {fd fds : FuncData} (F : Fun K "law" "law" sLaw f fd) (L : LE P w K mg base T) (Fs : Fun K "_law_start" "_law_start" sStart fs fds) (ml : mg "list" = none) (gs : mg "_law_start" = some (.ref fs)) :
    FnG P w K mg base 5 f fd ["script"] (spLaw K T) := by
  refine fun_okG F scLaw (fun vs H Q E h => ?_) (fun cdv A outer s H vs Q E hr hg h => ?_)
  · obtain ⟨a, ns, rfl, _⟩ := h
    rfl
  · obtain ⟨a, ns, rfl, hS, tb, q⟩ := h
    have body : RB (XL P w K mg base f cdv A outer s H E) [lstm 0, lstm 1, lstm 2, lstm 3, lstm 4, lstm 5, lstm 6, lstm 7, lstm 8] (fun σ H => σ.length = 15 ∧ Tabs T H ∧ ∃ (a : Addr) (ns : List Int), σ[0]? = some (some (.ref a)) ∧ SqL K H a (ns.map V.int)) (fun v H => v = .bl true) :=
      rb_cons (law_start hr Fs ml gs) (rb_cons (law_some hr) (rb_cons (law_turns L hr hg) (rb_cons law_held (rb_cons (law_made2 L hr) (rb_cons law_more (rb_cons (law_loop2 L hr hg) (rb_cons (law_base L) (law_ret L hr))))))))
    obtain ⟨t, p, hh⟩ := body
    refine ⟨t, p, hh _ _ _ ⟨rfl, tb, a, ns, rfl, hS⟩ fun v H' e => ?_⟩
    rw [e]
    exact q H'
end
end K00
set_option Elab.async false
set_option maxRecDepth 100000
set_option maxHeartbeats 4000000
set_option linter.all false
/-! the call of a law that shows things, over tables of code objects: as the harness calls it, no guard stands -/
namespace EndG
open PySem PySem.Spec PyProof.Rows L2 LamX ReprV
section
variable {K : PySem.W.Frag} {cs : List (Addr × Addr)} {a : Addr} {vs : List Value} {ns : List Int} {hp : Heap}
/-- tracked at the call: the tables, and the script where it is not of the fragment -/
def tr (K : PySem.W.Frag) (cs : List (Addr × Addr)) (a : Addr) (vs : List Value) (ns : List Int) : Hp := fun b =>
  if b ∈ cs.map Prod.snd then some (.tbl #[])
  else if b = a ∧ K.lookup a = none then some (.frz { cls := .type "list", data := .seq vs.toArray } (.lst (ns.map V.int))) else none
theorem tr_tab {p : Addr × Addr} (hp : p ∈ cs) : tr K cs a vs ns p.2 = some (.tbl #[]) := if_pos (List.mem_map_of_mem hp)
theorem tr_cases {b : Addr} {u : HO} (e : tr K cs a vs ns b = some u) : (b ∈ cs.map Prod.snd ∧ u = .tbl #[]) ∨ (b = a ∧ K.lookup a = none ∧ u = .frz { cls := .type "list", data := .seq vs.toArray } (.lst (ns.map V.int))) := by
  unfold tr at e
  by_cases h : b ∈ cs.map Prod.snd
  · rw [if_pos h] at e
    exact .inl ⟨h, (Option.some.inj e).symm⟩
  · rw [if_neg h] at e
    by_cases h2 : b = a ∧ K.lookup a = none
    · rw [if_pos h2] at e
      exact .inr ⟨h2.1, h2.2, (Option.some.inj e).symm⟩
    · rw [if_neg h2] at e
      cases e
variable (T0 : ∀ p ∈ cs, hp.get? p.2 = some { cls := .none, data := .fields #[] }) (A0 : hp.get? a = some { cls := .type "list", data := .seq vs.toArray })
include T0 A0
theorem tr_here {b : Addr} {o : Obj} (e : hp.get? b = some o) (h1 : ∀ us n, o.data ≠ .seq us n) (h2 : o.data ≠ .fields #[]) : tr K cs a vs ns b = none := by
  cases q : tr K cs a vs ns b with
  | none => rfl
  | some u =>
    rcases tr_cases q with ⟨z, _⟩ | ⟨z, _, _⟩
    · obtain ⟨p, hm, rfl⟩ := List.mem_map.mp z
      rw [T0 p hm] at e
      exact absurd (congrArg Obj.data (Option.some.inj e)).symm h2
    · rw [z, A0] at e
      exact absurd (congrArg Obj.data (Option.some.inj e)).symm (h1 _ _)
theorem a_tab : a ∉ cs.map Prod.snd := fun z => by
  obtain ⟨p, hm, e⟩ := List.mem_map.mp z
  have h := T0 p hm
  rw [e, A0] at h
  cases h
theorem tr_ok {P : Program} {w : World} (hi : IntsAre vs ns) (hl : ns.length ≤ sizeLine) : HOk P w (tr K cs a vs ns) hp := fun b u e => by
  rcases tr_cases e with ⟨z, rfl⟩ | ⟨rfl, _, rfl⟩
  · obtain ⟨p, hm, rfl⟩ := List.mem_map.mp z
    exact T0 p hm
  · exact ⟨A0, by rw [List.length_map]; exact hl, vs, _, vals_ints hi, A0⟩
theorem tr_script (hK : K.In hp) (hi : IntsAre vs ns) (hl : ns.length ≤ sizeLine) : SqL K (tr K cs a vs ns) a (ns.map V.int) := by
  cases q : K.lookup a with
  | none => exact .inl (.inr ⟨_, (if_neg (a_tab T0 A0)).trans (if_pos ⟨rfl, q⟩)⟩)
  | some o =>
    have e := hK a o q
    rw [A0] at e
    cases e
    exact .inr ⟨_, vs.toArray, _, q, rfl, rfl, rfl, by rw [List.size_toArray, hi.length]; exact hl, by simpa using vals_ints hi⟩
theorem base_ns {b : Addr} {m : Str → Option Value} (h : hp.Ns b m) : (hidT hp (tr K cs a vs ns)).Ns b m := by
  obtain ⟨o, es, ep, e, d, r⟩ := h
  exact ⟨o, es, ep, hidT_get e (tr_here T0 A0 e (fun us n z => by rw [d] at z; cases z) fun z => by rw [d] at z; cases z), d, r⟩
theorem base_in (hK : K.In hp) (nT : ∀ p ∈ cs, K.lookup p.2 = none) : K.In (hidT hp (tr K cs a vs ns)) := fun b o e => hidT_get (hK b o e) (by
  cases q : tr K cs a vs ns b with
  | none => rfl
  | some u =>
    rcases tr_cases q with ⟨z, _⟩ | ⟨z, k, _⟩
    · obtain ⟨p, hm, rfl⟩ := List.mem_map.mp z
      rw [nT p hm] at e
      cases e
    · rw [z, k] at e
      cases e)
theorem base_tab {mg : Str → Option Value} (hns : hp.Ns mainGlobals mg) (C : ∀ p ∈ cs, PySem.W.CodeHd hp p.1 p.2)
    (hbm : ∃ (bm : Addr) (ob : Obj), mg "__builtins__" = some (.ref bm) ∧ bm ≠ builtinsNs ∧ hp.get? bm = some ob ∧ ob.cls = .type "module" ∧ ob.dict = some builtinsNs ∧ ob.data = .plain) {p : Addr × Addr} (hm : p ∈ cs) : TabB (hidT hp (tr K cs a vs ns)) mg p.1 p.2 := by
  have t := T0 p hm
  obtain ⟨og, es, ep, eg, dg, _⟩ := hns
  refine ⟨?_, ?_, fun z => ?_⟩
  · obtain ⟨o, us, file, tf, flags, tg, inF, text, tt, e1, r1, r2, r3, rest⟩ := C p hm
    refine ⟨o, us, file, tf, flags, tg, inF, text, tt, hidT_get e1 (tr_here T0 A0 e1 (fun _ _ z => ?_) fun z => ?_), r1, r2, r3, rest⟩
    · rw [r2] at z
      cases z
    · rw [r2] at z
      cases z
      simp at r3
  · obtain ⟨bm, ob, b1, b2, b3, b4, b5, b6⟩ := hbm
    refine ⟨bm, ob, b1, b2, fun z => ?_, fun z => ?_, hidT_get b3 (tr_here T0 A0 b3 (fun _ _ z => ?_) fun z => ?_), b4, b5, b6⟩
    · rw [z, eg] at b3
      cases b3
      rw [dg] at b6
      cases b6
    · rw [z, t] at b3
      cases b3
      cases b6
    · rw [b6] at z
      cases z
    · rw [b6] at z
      cases z
  · rw [z, t] at eg
    cases eg
    cases dg
end
theorem call_endG {P : Program} {w : World} {K : PySem.W.Frag} {mg mb : Str → Option Value} {k : Nat} {fa a : Addr} {cs : List (Addr × Addr)} {fd : FuncData} {x : Str} {sp : Sp} {s₁ : Shared} {vs : List Value} {ns : List Int}
    (hK : K.In s₁.heap) (hns : s₁.heap.Ns mainGlobals mg) (hb : s₁.heap.Ns builtinsNs mb) (hbb : ∀ y : Str, y ≠ "__name__" → mb y = bootBuiltins y) (hlim : s₁.heap.NoLimit) (hg : s₁.gens = #[]) (hmod : ∃ mm, s₁.heap.Ns sysModules mm)
    (T0 : ∀ p ∈ cs, s₁.heap.get? p.2 = some { cls := .none, data := .fields #[] }) (nT : ∀ p ∈ cs, K.lookup p.2 = none) (C : ∀ p ∈ cs, PySem.W.CodeHd s₁.heap p.1 p.2)
    (hbm : ∃ (bm : Addr) (ob : Obj), mg "__builtins__" = some (.ref bm) ∧ bm ≠ builtinsNs ∧ s₁.heap.get? bm = some ob ∧ ob.cls = .type "module" ∧ ob.dict = some builtinsNs ∧ ob.data = .plain)
    (A0 : s₁.heap.get? a = some { cls := .type "list", data := .seq vs.toArray }) (hi : IntsAre vs ns) (hl : ns.length ≤ sizeLine) (hr : Room k callerA)
    (F : ∀ base : Heap, K.In base → base.Ns mainGlobals mg → (∃ o, base.get? sysModules = some o) → (∀ p ∈ cs, TabB base mg p.1 p.2) → FnG P w K mg base k fa fd [x] sp) (hbind : ∀ (s : Shared) (u : Value), BindsTo s fd ⟨[u], []⟩ [(x, u)])
    (hsp : ∀ H : Hp, (∀ p ∈ cs, H p.2 = some (.tbl #[])) → SqL K H a (ns.map V.int) → sp [.ref a] H (fun v _ => v = .bl true) E0) :
    codeAny (model P w) callerA (.call (.ref fa) ⟨[.ref a], []⟩) (fun r s' => r = .ok (.ret (.bool true)) ∧ OldK s₁.heap s'.heap ∧ s'.os = s₁.os ∧ AllBare s'.gens) s₁ := by
  have hKb : K.In (hidT s₁.heap (tr K cs a vs ns)) := base_in T0 A0 hK nT
  have gB : (hidT s₁.heap (tr K cs a vs ns)).Ns mainGlobals mg := base_ns T0 A0 hns
  have hM : L2.Mod K mg (hidT s₁.heap (tr K cs a vs ns)) := ⟨hKb, gB, ⟨mb, base_ns T0 A0 hb, hbb⟩, by
    obtain ⟨mc, h1, h2⟩ := hlim
    exact ⟨mc, base_ns T0 A0 h1, h2⟩⟩
  have hs : ∃ o, (hidT s₁.heap (tr K cs a vs ns)).get? sysModules = some o := by
    obtain ⟨mm, h⟩ := hmod
    obtain ⟨o, _, _, e, _⟩ := base_ns (K := K) (ns := ns) T0 A0 h
    exact ⟨o, e⟩
  have e0 : Env0 P w K mg (hidT s₁.heap (tr K cs a vs ns)) callerA [] s₁ (tr K cs a vs ns) := ⟨rfl, hM, fun _ _ => of_hidT, Nat.le_of_eq (hidT_size _ _), trivial, fun b z => (List.not_mem_nil (show b ∈ ([] : List Addr) from z)).elim, tr_ok T0 A0 hi hl, .of_eq hg⟩
  have G := F _ hKb gB hs fun p => base_tab T0 A0 hns C hbm
  refine codeAny_mono (G.run callerA [] s₁ _ ⟨[.ref a], []⟩ [.ref a] [.ref a] _ E0 hr rfl e0 (hbind s₁ (.ref a)) (.cons rfl .nil) (hsp _ (fun p => tr_tab) (tr_script T0 A0 hK hi hl))) fun r s' h => ?_
  cases r with
  | error e => exact False.elim h
  | ok fl =>
    cases fl with
    | next => exact False.elim h
    | brk => exact False.elim h
    | cont => exact False.elim h
    | ret u =>
      obtain ⟨v, H', os, bare, un, ok', rv, rfl⟩ := h
      obtain rfl : u = Value.bool true := rv
      -- what each old object is behind the call
      have each : ∀ b o, s₁.heap.get? b = some o → s'.heap.get? b = some o ∨ ∃ p ∈ cs, b = p.2 ∧ ∃ more : Array Value, s'.heap.get? b = some { cls := .none, data := .fields more } := fun b o e => by
        cases q : tr K cs a vs ns b with
        | none => exact .inl (un.keep b o e q (fun z => (List.not_mem_nil (show b ∈ ([] : List Addr) from z)).elim) (by simp))
        | some u =>
          rcases tr_cases q with ⟨z, rfl⟩ | ⟨rfl, _, rfl⟩
          · obtain ⟨p, hm, rfl⟩ := List.mem_map.mp z
            obtain ⟨more, z2⟩ := un.tbls p.2 #[] q
            exact .inr ⟨p, hm, rfl, _, ok' p.2 _ z2⟩
          · have e2 := (ok' b _ (un.frzs b _ _ q)).1
            rw [A0] at e
            rw [← e]
            exact .inl e2
      refine ⟨rfl, ⟨fun b o e => ?_, fun b o e => ?_⟩, os, bare⟩
      · rcases each b o e with z | ⟨p, hm, rfl, more, z⟩
        · exact .inl z
        · rw [T0 p hm] at e
          cases e
          exact .inr (.inl ⟨((C p hm).tab (T0 p hm)).isCodeTable, rfl, #[], more, rfl, by rw [Array.empty_append]; exact z⟩)
      · rcases each b o e with z | ⟨p, hm, rfl, more, z⟩
        · exact ⟨o, z⟩
        · exact ⟨_, z⟩
/-- what is known of such a law at the head's heap -/
def AtG (l : PySem.W.OpenLaw) (w : World) (K : PySem.W.Frag) (k : Nat) (x : Str) (mg : Str → Option Value) (fa : Addr) (h : Heap) : Prop :=
  ∃ (fd : FuncData) (cs : List (Addr × Addr)) (sp : Sp), (∀ p ∈ cs, h.get? p.2 = some { cls := .none, data := .fields #[] }) ∧ (∀ p ∈ cs, K.lookup p.2 = none) ∧ (∀ p ∈ cs, PySem.W.CodeHd h p.1 p.2) ∧ (∀ (s : Shared) (u : Value), BindsTo s fd ⟨[u], []⟩ [(x, u)]) ∧
    (∀ (H : Hp) (a : Addr) (ns : List Int), (∀ p ∈ cs, H p.2 = some (.tbl #[])) → SqL K H a (ns.map V.int) → sp [.ref a] H (fun v _ => v = .bl true) E0) ∧
    ∀ base : Heap, K.In base → base.Ns mainGlobals mg → (∃ o, base.get? sysModules = some o) → (∀ p ∈ cs, TabB base mg p.1 p.2) → FnG l.prog w K mg base k fa fd [x] sp
theorem walk_ofG {l : PySem.W.OpenLaw} {n k : Nat} {q : Program} {loose : List Str} {XP : (Str → Option Value) → Heap → Prop} {YP : World → Heap → Prop} {d : DefRec} {x : Str}
    (hn : l.most = some n) (hn2 : n ≤ sizeLine) (hdf : d.params.defaults = []) (hq : importsNone q = true) (hr : Room k callerA)
    (F : ∀ (w : World) (mg : Str → Option Value) (fa : Addr) (h : Heap), YP w h → h.Ns mainGlobals mg → mg d.name = some (.ref fa) → ∃ K : PySem.W.Frag, K.In h ∧ AtG l w K k x mg fa h) :
    PySem.W.WalkO q loose XP YP l.row.toRowW d [] (fun f vs => PySem.call f vs) := by
  refine Att.attach_callB hn hdf fun w s₀ s₁ mg mb fa o pm cdd dc a us is G Y e1 e2 e3 hmg A0 hi hlen _ hg => ?_
  obtain ⟨K, hK, fd, cs, sp, T0, nT, C, hbind, hsp, hF⟩ := F w mg fa _ Y G.T.g hmg
  obtain ⟨mm, hm, _⟩ := (G.T.seer hq).mods
  exact call_endG hK G.T.g G.T.b G.T.builtins G.T.nolimit hg ⟨mm, hm⟩ T0 nT C G.T.bmain A0 hi (Nat.le_trans hlen hn2) hr hF hbind fun H h1 h2 => hsp H a is h1 h2
end EndG
set_option Elab.async false
set_option linter.all false
set_option maxRecDepth 100000
set_option maxHeartbeats 4000000
/-! a Hook whose fragment is picked by names: the classes cls, the defs funs, the methods meths -/
namespace HkA
open PySem PySem.Spec PyProof.Rows L2 He
/-- the namespace of the class at C -/
def nsOf (K : PySem.W.Frag) (C : Addr) : Addr := match K.lookup C with
  | some ⟨_, _, .cls cd, _⟩ => cd.ns
  | _ => 0
def pick1 (g : Addr → Option Obj) (xs : List Str) : List Addr := mainGlobals :: xs.map (ga (frG g [mainGlobals]))
def pick2 (g : Addr → Option Obj) (cls : List Str) (funs : List Defn) (as : List Addr) : List Addr := as ++ (cls.map (fun x => nsOf (frG g as) (ga (frG g as) x)) ++ funs.map (codeOf (frG g as)))
def pick3 (g : Addr → Option Obj) (meths : List Defn) (as : List Addr) : List Addr := as ++ meths.map (fAd (frG g as))
def pick4 (g : Addr → Option Obj) (meths : List Defn) (as : List Addr) : List Addr := as ++ meths.map (codeOf (frG g as))
def asN (cls : List Str) (funs meths : List Defn) (g : Addr → Option Obj) : List Addr := pick4 g meths (pick3 g meths (pick2 g cls funs (pick1 g (cls ++ funs.map Prod.fst))))
section
variable (asF : (Addr → Option Obj) → List Addr) (fa : List Fa) (fn : List DefD) (ts : List Tab) (tf : List Defn) (ex : PySem.W.Frag → Bool)
def obsA (g : Addr → Option Obj) : AlX := (obsT fa fn ts (frT g (asF g)), ex (frT g (asF g)) && tabsB g tf (frT g (asF g)))
variable {asF fa fn ts tf ex}
theorem saysA {w : World} {h : Heap} (e : obsA asF fa fn ts tf ex h.get? = valX fn ts w) : SaysX fa fn ts tf ex w h (frT h.get? (asF h.get?)) := by
  obtain ⟨b1, b2⟩ := ba (show (ex (frT h.get? (asF h.get?)) && tabsB h.get? tf (frT h.get? (asF h.get?))) = true from congrArg Prod.snd e)
  have each : ∀ p ∈ tf, PySem.W.codeHdIn (frT h.get? (asF h.get?)) (cT (frT h.get? (asF h.get?)) p).1 (cT (frT h.get? (asF h.get?)) p).2 = true ∧ ∃ o, h.get? (cT (frT h.get? (asF h.get?)) p).2 = some o ∧ emptyTab o = true := fun p hp => by
    obtain ⟨c1, c2⟩ := ba (List.all_eq_true.mp b2 p hp)
    refine ⟨c1, ?_⟩
    split at c2
    · rename_i o q
      exact ⟨o, q, c2⟩
    · cases c2
  refine ⟨congrArg Prod.fst e, b1, fun p hp => (each p hp).1, fun p hp => ?_, fun p hp => ?_⟩
  · obtain ⟨o, q, z⟩ := (each p hp).2
    exact frT_none q z
  · obtain ⟨o, q, z⟩ := (each p hp).2
    rw [q, emptyTab_eq z]
variable (asF fa fn ts tf ex)
def hookA : PySem.W.Hook where
  α := AlX
  obs := fun s => obsA asF fa fn ts tf ex s.heap.get?
  val := valX fn ts
  says := fun w h => ∃ K : PySem.W.Frag, K.In h ∧ SaysX fa fn ts tf ex w h K
  of := fun _ _ e => ⟨_, frT_in, saysA e⟩
  keeps := fun _ _ _ h k => by
    obtain ⟨K, hK, c⟩ := h
    exact ⟨K, hK.keeps k, c.t, c.more, c.hd, c.out, fun p hp => k _ _ (c.empty p hp)⟩
theorem obsA_eq {g : Addr → Option Obj} {s : Shared} (h : ∀ a, g a = s.heap.get? a) : obsA asF fa fn ts tf ex g = (hookA asF fa fn ts tf ex).obs s := by
  have e : g = s.heap.get? := funext h
  rw [e]
  rfl
end
end HkA
set_option Elab.async false
set_option linter.all false
set_option maxRecDepth 100000
set_option maxHeartbeats 0
/-! what the top leaves: the facts of the classes and defs -/
namespace K00
open PySem PySem.Spec PyProof.Rows L2 XV
/-- the class's order of bases -/
def mroC (K : PySem.W.Frag) (k : Nat) : List Value := if k = 50 then .ref (cA K 50) :: He.veBase else .ref (cA K k) :: .ref (cA K 50) :: He.veBase
def shapeB (K : PySem.W.Frag) (k : Nat) : Bool := match K.lookup (cA K k) with
  | some ⟨.type t, _, .cls cd, sl⟩ => decide (t = "type") && (match sl.toList with
    | [_, _, _, _, some (.builtin n), _] => decide (n = "ValueError.__new__") && (!cd.hasDel && (cd.hasDict && (decide (cd.name = cn k) && decide (cd.mro = mroC K k))))
    | _ => false)
  | _ => false
def clsB (K : PySem.W.Frag) (k : Nat) : Bool := shapeB K k && (xfB K (cA K k) && (He.eqO (PySem.W.findIn K (.ref (cA K k)) "__setattr__") (some (some (.builtin "object.__setattr__"))) && (He.eqO (PySem.W.findIn K (.ref (cA K k)) "__class__") (some (some (.builtin "object.__class__"))) &&
  (PySem.W.keepIn K (.ref (cA K k)) && ((fl k).all (fun f => He.eqO (PySem.W.findIn K (.ref (cA K k)) f) (some none)) && (match fl k with
  | [] => PySem.W.excIn K (cA K k) He.veBase "ValueError.__new__"
  | _ :: _ => He.eqO (PySem.W.findIn K (.ref (cA K k)) "__init__") (some (some (.ref (iA K k)))) && decide (PySem.W.typeIn K (.ref (iA K k)) = some (.type "function"))))))))
def tA : He.Defn := ("_law_made_a", none)
def tB : He.Defn := ("_law_made_b", none)
def tC : He.Defn := ("_law_made_c", none)
def apartB (K : PySem.W.Frag) : Bool := !((He.cT K tA).2 == (He.cT K tB).2) && (!((He.cT K tA).2 == (He.cT K tC).2) && !((He.cT K tB).2 == (He.cT K tC).2))
def exB (K : PySem.W.Frag) : Bool := apartB K && (He.eqO (PySem.W.specialIn K (.builtin "object.__class__") "__get__") (some (some (.builtin "getset_descriptor.__get__"))) && (decide (PySem.W.takesIn K (.builtin "object.__class__") = some true) && (List.range 51).all (clsB K)))
def dF (i : Nat) (x : Str) : He.DefD := ⟨(x, none), x, x, defArgs (top i), defBody (top i), defScope (top i), [], []⟩
def dI (k : Nat) : He.DefD := ⟨(cn k, some "__init__"), "__init__", iQ k, defArgs (iSt k), defBody (iSt k), defScope (iSt k), [], []⟩
def fnL : List He.DefD := [dF 53 "_law_start", dF 54 "_law_below", dF 55 "_law_mixed", dF 56 "_law_made_a", dF 57 "_law_made_b", dF 58 "_law_made_c", dF 59 "_law_kinds_a", dF 60 "_law_kinds_b", dF 61 "_law_kinds_c", dF 62 "_law_kinds", dF 63 "_law_is_own", dF 64 "_law_are_these", dF 65 "law"]
def fnI : List He.DefD := ((List.range 50).filter fun k => !(fl k).isEmpty).map dI
def fn : List He.DefD := fnL ++ fnI
def names : List Str := ["_law_start", "_law_below", "_law_mixed", "_law_made_a", "_law_made_b", "_law_made_c", "_law_kinds_a", "_law_kinds_b", "_law_kinds_c", "_law_kinds", "_law_is_own", "_law_are_these"]
def frees : List Str := ["list", "int", "range", "len", "isinstance", "ValueError", "LookupError", "ArithmeticError", "TypeError", "repr", "enumerate"]
def fa : List He.Fa := (cns.map .glo) ++ ((names ++ [("law" : Str)]).map .glo) ++ frees.map .free
def tf : List He.Defn := [tA, tB, tC]
abbrev R : PySem.W.OpenRow := PySem.W.OpenLaw.row PySem.Challenge.rw_goeson_k00_errors_made
abbrev qv : Program := PySem.W.view R.prog [65]
def asK : (Addr → Option Obj) → List Addr := HkA.asN cns (fnL.map fun d => d.at_) (fnI.map fun d => d.at_)
abbrev hk : PySem.W.Hook := HkA.hookA asK fa fn [] tf exB
def ob (s : PySem.W.SharedT) : He.AlX := HkA.obsA asK fa fn [] tf exB (HandSHeadRun.getT s)
theorem ob_eq (s : PySem.W.SharedT) : ob s = hk.obs s.abs := HkA.obsA_eq asK fa fn [] tf exB (HandSHeadRun.getT_eq s)
theorem run (w : World) : HandSHeadRun.RunEq R qv hk ob 20000 ((("__name__" : Str) :: cns) ++ names) w := by
  intro os
  kernel_rfl
end K00
set_option Elab.async false
set_option linter.all false
set_option maxRecDepth 100000
set_option maxHeartbeats 4000000
/-! from the head's Bool to what the walk asks of the classes -/
namespace K00
open PySem PySem.Spec PyProof.Rows L2 XV LamX ReprV
theorem cn_inj {j k : Nat} (hj : j < 51) (hk : k < 51) (h : cn j = cn k) : j = k := by
  have all : ∀ (a b : Fin 51), cn a.val = cn b.val → a.val = b.val := by decide +kernel
  exact all ⟨j, hj⟩ ⟨k, hk⟩ h
def restC (K : PySem.W.Frag) (k : Nat) : List Value := if k = 50 then He.veBase else .ref (cA K 50) :: He.veBase
theorem mroC_eq (K : PySem.W.Frag) (k : Nat) : mroC K k = .ref (cA K k) :: restC K k := by
  unfold mroC restC
  by_cases h : k = 50
  · rw [if_pos h, if_pos h, h]
  · rw [if_neg h, if_neg h]
section
variable {K : PySem.W.Frag} {k : Nat}
theorem shape_of (h : shapeB K k = true) : ∃ q N bs sn sub ab col dd k0 k1 k2 k3 k5, K.lookup (cA K k) = some (excClassObj (cn k) q (cA K k) N bs (restC K k) true sn sub ab col dd k0 k1 k2 k3 k5 "ValueError.__new__") := by
  unfold shapeB at h
  split at h
  · rename_i t dd cd sl ho
    obtain ⟨h1, h2⟩ := He.ba h
    have et : t = "type" := of_decide_eq_true h1
    subst et
    split at h2
    · rename_i k0 k1 k2 k3 n k5 hs
      obtain ⟨h3, h4⟩ := He.ba h2
      obtain ⟨h5, h6⟩ := He.ba h4
      obtain ⟨h7, h8⟩ := He.ba h6
      obtain ⟨h9, h10⟩ := He.ba h8
      have en : n = "ValueError.__new__" := of_decide_eq_true h3
      subst en
      obtain ⟨nm, bs, mro, ns, qn, hd, sn, sub, ab, col, del⟩ := cd
      have e1 : nm = cn k := of_decide_eq_true h9
      have e2 : mro = mroC K k := of_decide_eq_true h10
      rw [mroC_eq] at e2
      have e3 : del = false := by
        cases del with
        | false => rfl
        | true => cases h5
      have e4 : hd = true := h7
      subst e1 e2 e3 e4
      have hsl : sl = #[k0, k1, k2, k3, some (.builtin "ValueError.__new__"), k5] := by
        obtain ⟨l⟩ := sl
        have hs' : l = _ := hs
        rw [hs']
      subst hsl
      exact ⟨qn, ns, bs, sn, sub, ab, col, dd, k0, k1, k2, k3, k5, ho⟩
    · cases h2
  · cases h
theorem sub_of (h : shapeB K k = true) (b : Value) : PySem.W.subIn K (.ref (cA K k)) b = some ((mroC K k).contains b) := by
  obtain ⟨q, N, bs, sn, sub, ab, col, dd, k0, k1, k2, k3, k5, e⟩ := shape_of h
  rw [mroC_eq]
  show PySem.W.mroIn K (cA K k) b = _
  unfold PySem.W.mroIn PySem.W.clsIn
  rw [e]
  rfl
theorem ty_of (h : shapeB K k = true) : PySem.W.typeIn K (.ref (cA K k)) = some (.type "type") ∧ (PySem.W.clsIn K (cA K k)).isSome = true := by
  obtain ⟨q, N, bs, sn, sub, ab, col, dd, k0, k1, k2, k3, k5, e⟩ := shape_of h
  constructor
  · show (K.lookup (cA K k)).map (·.cls) = _
    rw [e]
    rfl
  · unfold PySem.W.clsIn
    rw [e]
    rfl
theorem cA_inj {j : Nat} (hj : j < 51) (hk : k < 51) (h1 : shapeB K j = true) (h2 : shapeB K k = true) (e : cA K j = cA K k) : j = k := by
  obtain ⟨q, N, bs, sn, sub, ab, col, dd, k0, k1, k2, k3, k5, e1⟩ := shape_of h1
  obtain ⟨q', N', bs', sn', sub', ab', col', dd', l0, l1, l2, l3, l5, e2⟩ := shape_of h2
  rw [e, e2] at e1
  have z := congrArg Obj.data (Option.some.inj e1)
  have z2 : (Data.cls { name := cn k, bases := bs', mro := .ref (cA K k) :: restC K k, ns := N', qualname := q', hasDict := true, slotNames := sn', subclasses := sub', abstract := ab', collection := col', hasDel := false }) = Data.cls { name := cn j, bases := bs, mro := .ref (cA K k) :: restC K j, ns := N, qualname := q, hasDict := true, slotNames := sn, subclasses := sub, abstract := ab, collection := col, hasDel := false } := z
  injection z2 with z3
  have z4 := congrArg ClassData.name z3
  exact cn_inj hj hk z4.symm
theorem vt_has : He.veBase.contains (.type "ValueError") = true ∧ He.veBase.contains (.type "BaseException") = true ∧ He.veBase.contains (.type "object") = true ∧ He.veBase.contains (.type "LookupError") = false ∧ He.veBase.contains (.type "ArithmeticError") = false ∧ He.veBase.contains (.type "TypeError") = false := by
  decide +kernel
theorem mro_ty (T : String) : (mroC K k).contains (.type T) = He.veBase.contains (.type T) := by
  have e : ∀ (a : Addr) (l : List Value), (Value.ref a :: l).contains (.type T) = l.contains (.type T) := fun a l => by
    rw [List.contains_cons]
    rfl
  unfold mroC
  by_cases h : k = 50
  · rw [if_pos h, e]
  · rw [if_neg h, e, e]
theorem mro_ref {a : Addr} : (mroC K k).contains (.ref a) = (decide (a = cA K k) || decide (a = cA K 50)) := by
  have e0 : He.veBase.contains (.ref a) = false := by rfl
  have e : ∀ (b : Addr) (l : List Value), (Value.ref b :: l).contains (.ref a) = (decide (a = b) || l.contains (.ref a)) := fun b l => by
    rw [List.contains_cons]
    congr 1
    by_cases h : a = b
    · subst h
      rw [decide_eq_true rfl]
      exact beq_self_eq_true _
    · rw [decide_eq_false h]
      exact beq_eq_false_iff_ne.mpr fun z => h (by injection z)
  unfold mroC
  by_cases h : k = 50
  · rw [if_pos h, e, e0, h, Bool.or_false, Bool.or_self]
  · rw [if_neg h, e, e, e0, Bool.or_false]
theorem kit_ty (h : shapeB K k = true) (T : String) (hm : PySem.W.kitMeta T = true) : PySem.W.kitOne K (.ref (cA K k)) (.type T) = some (He.veBase.contains (.type T)) := by
  unfold PySem.W.kitOne
  rw [if_neg (by simp)]
  show (if PySem.W.kitMeta T = true then PySem.W.subIn K (.ref (cA K k)) (.type T) else none) = _
  rw [if_pos hm, sub_of h, mro_ty]
theorem kit_ref {j : Nat} (hj : j < 51) (hk : k < 51) (h1 : shapeB K j = true) (h2 : shapeB K k = true) (h3 : shapeB K 50 = true) : PySem.W.kitOne K (.ref (cA K j)) (.ref (cA K k)) = some (decide (j = k) || decide (k = 50)) := by
  unfold PySem.W.kitOne
  by_cases e : j = k
  · subst e
    rw [if_pos (beq_self_eq_true _), decide_eq_true rfl]
    rfl
  · have ne : cA K j ≠ cA K k := fun z => e (cA_inj hj hk h1 h2 z)
    rw [if_neg (fun z => ne (by have := beq_iff_eq.mp z; injection this)), decide_eq_false e, Bool.false_or]
    obtain ⟨t1, t2⟩ := ty_of h2
    show (if ((PySem.W.clsIn K (cA K k)).isSome && PySem.W.typeIn K (.ref (cA K k)) == some (.type "type")) = true then PySem.W.subIn K (.ref (cA K j)) (.ref (cA K k)) else none) = _
    rw [t1, t2, if_pos (by rfl), sub_of h1, mro_ref, decide_eq_false (fun z => ne z.symm), Bool.false_or]
    congr 1
    by_cases h : k = 50
    · subst h
      rw [decide_eq_true rfl, decide_eq_true rfl]
    · rw [decide_eq_false h, decide_eq_false fun z => h (cA_inj hk (by decide) h2 h3 z)]
end
section
variable {K : PySem.W.Frag} {mg : Str → Option Value} {h : Heap}
theorem cf_of (X : K.In h) (G : h.Ns mainGlobals mg) (c : He.SaysD fa fn K) (e : exB K = true) : CF K mg := by
  obtain ⟨_, e⟩ := He.ba e
  obtain ⟨g1, e⟩ := He.ba e
  obtain ⟨g2, e⟩ := He.ba e
  have g1 := He.eqO_ok g1
  have g2 : PySem.W.takesIn K (.builtin "object.__class__") = some true := of_decide_eq_true g2
  have all : ∀ k, k < 51 → clsB K k = true := fun k hk => List.all_eq_true.mp e k (List.mem_range.mpr hk)
  have sh : ∀ k, k < 51 → shapeB K k = true := fun k hk => (He.ba (all k hk)).1
  have xf : ∀ k, k < 51 → XfC K (cA K k) := fun k hk => xfB_ok (He.ba (He.ba (all k hk)).2).1
  have t2 : ∀ k, k < 51 → _ := fun k hk => (He.ba (He.ba (all k hk)).2).2
  have sa : ∀ k, k < 51 → PySem.W.findIn K (.ref (cA K k)) "__setattr__" = some (some (.builtin "object.__setattr__")) := fun k hk => He.eqO_ok (He.ba (t2 k hk)).1
  have ca : ∀ k, k < 51 → PySem.W.findIn K (.ref (cA K k)) "__class__" = some (some (.builtin "object.__class__")) := fun k hk => He.eqO_ok (He.ba (He.ba (t2 k hk)).2).1
  have kp : ∀ k, k < 51 → PySem.W.keepIn K (.ref (cA K k)) = true := fun k hk => (He.ba (He.ba (He.ba (t2 k hk)).2).2).1
  have no : ∀ k, k < 51 → ((fl k).all fun f => He.eqO (PySem.W.findIn K (.ref (cA K k)) f) (some none)) = true := fun k hk => (He.ba (He.ba (He.ba (He.ba (t2 k hk)).2).2).2).1
  have la : ∀ k, k < 51 → (match fl k with
    | [] => PySem.W.excIn K (cA K k) He.veBase "ValueError.__new__"
    | _ :: _ => He.eqO (PySem.W.findIn K (.ref (cA K k)) "__init__") (some (some (.ref (iA K k)))) && decide (PySem.W.typeIn K (.ref (iA K k)) = some (.type "function"))) = true := fun k hk => (He.ba (He.ba (He.ba (He.ba (t2 k hk)).2).2).2).2
  have be : ∀ k, k < 51 → PySem.W.subIn K (.ref (cA K k)) (.type "BaseException") = some true := fun k hk => by rw [sub_of (sh k hk), mro_ty, vt_has.2.1]
  refine ⟨fun k hk => ?_, fun k hk => ⟨(xf k hk).ga, (xf k hk).gg, be k hk, (xf k hk).hdC, ca k hk, ?_, g2, ?_⟩, xf, fun k hk f hf => ?_, fun k hk hf => ?_, fun k hk hf => ?_, fun k hk hf => ?_, fun j k hj hk => kit_ref hj hk (sh j hj) (sh k hk) (sh 50 (by decide)), fun j hj => ?_⟩
  · have m : He.Fa.glo (cn k) ∈ fa := by
      refine List.mem_append_left _ (List.mem_append_left _ (List.mem_map.mpr ⟨cn k, ?_, rfl⟩))
      have hl : k < cns.length := hk
      unfold cn
      rw [List.getD_eq_getElem?_getD, List.getElem?_eq_getElem hl]
      exact List.getElem_mem hl
    exact He.glo_ok X G (c.facts m)
  · exact g1
  · have z := sub_of (sh k hk) (.type "object")
    rw [mro_ty, vt_has.2.2.1] at z
    exact z
  · exact He.eqO_ok (List.all_eq_true.mp (no k (by omega)) f hf)
  · have z := la k (by omega)
    cases hfk : fl k with
    | nil => exact absurd hfk hf
    | cons a b =>
      rw [hfk] at z
      obtain ⟨z1, z2⟩ := He.ba z
      obtain ⟨q, N, bs, sn, sub, ab, col, dd, k0, k1, k2, k3, k5, e1⟩ := shape_of (sh k (by omega))
      refine ⟨⟨⟨_, q, N, bs, _, sn, sub, ab, col, dd, k0, k1, k2, k3, k5, e1, ?_⟩, sa k (by omega), be k (by omega), (ty_of (sh k (by omega))).1, kp k (by omega)⟩, He.eqO_ok z1, of_decide_eq_true z2⟩
      unfold restC
      by_cases h50 : k = 50
      · rw [if_pos h50]
        rfl
      · rw [if_neg h50]
        rfl
  · have z := la k hk
    rw [hf] at z
    exact ⟨z, kp k hk⟩
  · have m : dI k ∈ fn := by
      refine List.mem_append_right _ (List.mem_map.mpr ⟨k, List.mem_filter.mpr ⟨List.mem_range.mpr hk, ?_⟩, rfl⟩)
      cases hfk : fl k with
      | nil => exact absurd hfk hf
      | cons a b => rfl
    obtain ⟨fd, F⟩ := c.defs m
    exact ⟨fd, fun_of F⟩
  · refine ⟨?_, ?_, ?_, ?_⟩
    · rw [kit_ty (sh j hj) _ (by decide +kernel), vt_has.1]
    · rw [kit_ty (sh j hj) _ (by decide +kernel), vt_has.2.2.2.1]
    · rw [kit_ty (sh j hj) _ (by decide +kernel), vt_has.2.2.2.2.1]
    · rw [kit_ty (sh j hj) _ (by decide +kernel), vt_has.2.2.2.2.2]
end
end K00
set_option Elab.async false
set_option linter.all false
set_option maxRecDepth 100000
set_option maxHeartbeats 4000000
/-! the law, joined -/
namespace K00
open PySem PySem.Spec PyProof.Rows L2 XV LamX ReprV
section
variable {K : PySem.W.Frag} {mg : Str → Option Value} {h : Heap} {f : Addr}
theorem funC_of {x : Str} {st : Stmt} {f : Addr} {fd : FuncData} (F : Fun K x x st f fd) (hf : f = He.fAd K (x, none)) : FunC K x x st f fd (He.codeOf K (x, none)) := by
  obtain ⟨oc, od, kV, doc, pm, an, cdv, ct, osl, e1, lk, hcd⟩ := F.ex
  obtain ⟨c, rfl⟩ := He.codeIn_ref hcd
  subst e1
  have e : He.codeOf K (x, none) = c := He.codeOf_eq (p := (x, none)) (by rw [← hf]; exact lk) rfl
  rw [e]
  exact ⟨⟨oc, od, kV, doc, pm, an, ct, osl, rfl, lk, hcd⟩, F.kp⟩
def qL (x : Str) : Str := x ++ ".<locals>." ++ "<lambda>"
theorem qL_eq (x : Str) : qL x = x ++ ".<locals>." ++ "<lambda>" := rfl
def TL (K : PySem.W.Frag) : List (Addr × Str) := [((He.cT K tA).2, qL "_law_made_a"), ((He.cT K tB).2, qL "_law_made_b"), ((He.cT K tC).2, qL "_law_made_c")]
theorem apart_of (e : apartB K = true) : (He.cT K tA).2 ≠ (He.cT K tB).2 ∧ (He.cT K tA).2 ≠ (He.cT K tC).2 ∧ (He.cT K tB).2 ≠ (He.cT K tC).2 := by
  obtain ⟨h1, h2⟩ := He.ba e
  obtain ⟨h2, h3⟩ := He.ba h2
  have ne : ∀ {a b : Addr}, (!(a == b)) = true → a ≠ b := fun {a b} z q => by
    subst q
    simp at z
  exact ⟨ne h1, ne h2, ne h3⟩
theorem tabs0 {H : Hp} (z : ∀ p ∈ tf.map (He.cT K), H p.2 = some (.tbl #[])) : Tabs (TL K) H := fun p hp => by
  have one : ∀ q : Addr × Str, q.1 ∈ (tf.map (He.cT K)).map Prod.snd → TabS H q.1 q.2 := fun q hq => by
    obtain ⟨r, hr, e⟩ := List.mem_map.mp hq
    have e2 := z r hr
    rw [e] at e2
    exact ⟨#[], e2, trivial, fun pos cv hc => by cases hc⟩
  refine one p ?_
  simp only [TL, List.mem_cons, List.not_mem_nil, or_false] at hp
  rcases hp with rfl | rfl | rfl
  · exact List.mem_cons_self
  · exact List.mem_cons_of_mem _ List.mem_cons_self
  · exact List.mem_cons_of_mem _ (List.mem_cons_of_mem _ List.mem_cons_self)
theorem at_law {w : World} (X : K.In h) (G : h.Ns mainGlobals mg) (hfa : mg ("law" : Str) = some (.ref f)) (c : He.SaysX fa fn [] tf exB w h K) :
    EndG.AtG PySem.Challenge.rw_goeson_k00_errors_made w K 5 "script" mg f h := by
  have cd := c.t.d
  have cf := cf_of X G cd c.more
  have gl : ∀ x : Str, x ∈ names ++ [("law" : Str)] → mg x = some (.ref (He.ga K x)) := fun x m => He.glo_ok X G (cd.facts (List.mem_append_left _ (List.mem_append_right _ (List.mem_map_of_mem m))))
  have fr : ∀ x : Str, x ∈ frees → mg x = none := fun x m => He.free_ok X G (cd.facts (List.mem_append_right _ (List.mem_map_of_mem m)))
  obtain ⟨d0, F0⟩ := cd.def_ 0 (d := dF 53 "_law_start") rfl
  obtain ⟨d1, F1⟩ := cd.def_ 1 (d := dF 54 "_law_below") rfl
  obtain ⟨d2, F2⟩ := cd.def_ 2 (d := dF 55 "_law_mixed") rfl
  obtain ⟨d3, F3⟩ := cd.def_ 3 (d := dF 56 "_law_made_a") rfl
  obtain ⟨d4, F4⟩ := cd.def_ 4 (d := dF 57 "_law_made_b") rfl
  obtain ⟨d5, F5⟩ := cd.def_ 5 (d := dF 58 "_law_made_c") rfl
  obtain ⟨d6, F6⟩ := cd.def_ 6 (d := dF 59 "_law_kinds_a") rfl
  obtain ⟨d7, F7⟩ := cd.def_ 7 (d := dF 60 "_law_kinds_b") rfl
  obtain ⟨d8, F8⟩ := cd.def_ 8 (d := dF 61 "_law_kinds_c") rfl
  obtain ⟨d9, F9⟩ := cd.def_ 9 (d := dF 62 "_law_kinds") rfl
  obtain ⟨d10, F10⟩ := cd.def_ 10 (d := dF 63 "_law_is_own") rfl
  obtain ⟨d11, F11⟩ := cd.def_ 11 (d := dF 64 "_law_are_these") rfl
  obtain ⟨d12, F12⟩ := cd.def_ 12 (d := dF 65 "law") rfl
  have e := hfa.symm.trans (gl "law" (by decide +kernel))
  cases e
  have b := FunD.bindsA (ps := ["script"]) F12 fun _ _ _ _ _ _ us hl => match us, hl with | [_], _ => rfl
  obtain ⟨a1, a2, a3⟩ := apart_of (He.ba c.more).1
  refine ⟨d12, tf.map (He.cT K), spLaw K (TL K), fun p hp => ?_, fun p hp => ?_, fun p hp => ?_, fun s u => b s [u] rfl, fun H a ns z hS => ⟨a, ns, rfl, hS, tabs0 z, fun _ => rfl⟩, fun base _ _ hs TB => ?_⟩
  · obtain ⟨q, hq, rfl⟩ := List.mem_map.mp hp
    exact c.empty q hq
  · obtain ⟨q, hq, rfl⟩ := List.mem_map.mp hp
    exact c.out q hq
  · obtain ⟨q, hq, rfl⟩ := List.mem_map.mp hp
    exact PySem.W.codeHd_of_K X (c.hd q hq)
  · have mi := fr "isinstance" (by decide +kernel)
    have G1 : FnOk (PySem.Challenge.rw_goeson_k00_errors_made).prog w K mg base CX0 1 _ d1 ["stream", "many"] spBelow := ok_below (fun_of F1) (fr "int" (by decide +kernel))
    have b1 : Binds K d1 ["stream", "many"] [] := (show Fun K "_law_below" "_law_below" sBelow _ d1 from fun_of F1).binds fun _ _ _ _ _ _ us hl => match us, hl with | [_, _], _ => rfl
    have G9 := ok_kinds (P := (PySem.Challenge.rw_goeson_k00_errors_made).prog) (w := w) (base := base) (fun_of F9) (fun_of F6) (fun_of F7) (fun_of F8) cf mi (gl "_law_kinds_a" (by decide +kernel)) (gl "_law_kinds_b" (by decide +kernel)) (gl "_law_kinds_c" (by decide +kernel))
    have tb : ∀ q ∈ tf, TabB base mg (He.cT K q).1 (He.cT K q).2 := fun q hq => TB _ (List.mem_map_of_mem hq)
    refine ok_law (fun_of F12) ⟨_, _, _, _, _, _, _, d2, d3, d4, d5, d10, d11, d9, cf, fun_of F2, ok_mixed (fun_of F2) G1 (fun_of F1) b1 (gl "_law_below" (by decide +kernel)) (fr "list" (by decide +kernel)) (fr "range" (by decide +kernel)) (fr "len" (by decide +kernel)),
      fun_of F3, ok_made_a (funC_of (fun_of F3) rfl) cf (tb tA List.mem_cons_self) List.mem_cons_self (fun p hp e => ?_),
      fun_of F4, ok_made_b (funC_of (fun_of F4) rfl) cf (tb tB (List.mem_cons_of_mem _ List.mem_cons_self)) (List.mem_cons_of_mem _ List.mem_cons_self) (fun p hp e => ?_),
      fun_of F5, ok_made_c (funC_of (fun_of F5) rfl) cf (tb tC (List.mem_cons_of_mem _ (List.mem_cons_of_mem _ List.mem_cons_self))) (List.mem_cons_of_mem _ (List.mem_cons_of_mem _ List.mem_cons_self)) (fun p hp e => ?_),
      fun_of F10, ok_own (fun_of F10) (fun_of F9) G9 cf mi (fr "range" (by decide +kernel)) (fr "ValueError" (by decide +kernel)) (fr "LookupError" (by decide +kernel)) (fr "ArithmeticError" (by decide +kernel)) (fr "TypeError" (by decide +kernel)) (gl "_law_kinds" (by decide +kernel)),
      fun_of F11, ok_these (fun_of F11) (fr "repr" (by decide +kernel)) (fr "len" (by decide +kernel)) hs, fun_of F9, G9, gl "_law_mixed" (by decide +kernel), gl "_law_made_a" (by decide +kernel), gl "_law_made_b" (by decide +kernel), gl "_law_made_c" (by decide +kernel), gl "_law_is_own" (by decide +kernel), gl "_law_are_these" (by decide +kernel), gl "_law_kinds" (by decide +kernel),
      fr "range" (by decide +kernel), fr "enumerate" (by decide +kernel), mi, fr "ValueError" (by decide +kernel)⟩ (fun_of F0) (fr "list" (by decide +kernel)) (gl "_law_start" (by decide +kernel))
    · simp only [TL, List.mem_cons, List.not_mem_nil, or_false] at hp
      rcases hp with rfl | rfl | rfl
      · exact qL_eq _
      · exact absurd e.symm a1
      · exact absurd e.symm a2
    · simp only [TL, List.mem_cons, List.not_mem_nil, or_false] at hp
      rcases hp with rfl | rfl | rfl
      · exact absurd e a1
      · exact qL_eq _
      · exact absurd e.symm a3
    · simp only [TL, List.mem_cons, List.not_mem_nil, or_false] at hp
      rcases hp with rfl | rfl | rfl
      · exact absurd e a2
      · exact absurd e a3
      · exact qL_eq _
end
end K00
open PySem PySem.W PySem.Calls PyProof.Rows
set_option Elab.async false
set_option maxRecDepth 100000 in
set_option maxHeartbeats 0 in
theorem PySem.Challenge.cw_goeson_k00_errors_made_holds : PySem.Challenge.rw_goeson_k00_errors_made.Holds := by
  w_on; o_law
  refine HandSHeadRun.head_any (r := OpenLaw.row PySem.Challenge.rw_goeson_k00_errors_made) (q := K00.qv) (H := K00.hk) (ob := K00.ob) (M := 20000) (loose := (("__name__" : PySem.Str) :: K00.cns) ++ K00.names) (d := HandSHeadRun.topDef (OpenLaw.row PySem.Challenge.rw_goeson_k00_errors_made).prog 65) (kwd := []) K00.ob_eq
    (by kernel_rfl) (fun s => by kernel_rfl) K00.run (by kernel_rfl) (by kernel_rfl) (by kernel_rfl) (by rfl) (by first | assumption | decide +kernel) (by decide +kernel) ⟨rfl, rfl, rfl, rfl, rfl, by decide +kernel⟩ ?hw ?hc
  case hw => w_witness2
  case hc =>
    refine EndG.walk_ofG (l := PySem.Challenge.rw_goeson_k00_errors_made) (n := 63) (k := 5) (x := "script") rfl (by decide) (by kernel_rfl) (by kernel_rfl) ⟨rfl, by decide, by decide⟩ ?_
    intro w mg fa h Y G hmg0
    obtain ⟨K, KX, c⟩ := Y
    have hmg : mg ("law" : PySem.Str) = some (.ref fa) := by
      have e : (HandSHeadRun.topDef (OpenLaw.row PySem.Challenge.rw_goeson_k00_errors_made).prog 65).name = ("law" : PySem.Str) := by kernel_rfl
      rw [← e]
      exact hmg0
    exact ⟨K, KX, K00.at_law KX G hmg c⟩
