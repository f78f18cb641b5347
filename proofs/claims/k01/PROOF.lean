import PyProof.Rows.All
import Wide.All
import OpenK.AllK
import Wide.FinOn
import HandS.ForMost
import HandS.Wide
import HandS.More
import HandS.DictComp
import HandS.Codes
import KE.KDictPairs
import KE.KEqDict
import HandS.IsInst
import KE.KOpsOwn
import PyProof.InstEq
import PyProof.ReprRoads
import HandS.ForExc
import HandS.Lambda
import HandS.ExcInit
import HandS.ExcField
import HandS.ExcIs
import KE.KExcInit
import KE.KExcIs
import HandS.Defaults
import HandS.MakeKwOnly
import PyProof.StrLawsRepr
import PyProof.FitsInt
import HandS.Style
import HandS.NoneIn
import HandS.EndTab
import PySem.Challenge.RW_stepwhere_k01_contexts_told
set_option Elab.async false
set_option linter.all false
set_option maxRecDepth 100000
set_option maxHeartbeats 4000000
namespace Sw
open PySem L2
def top (i : Nat) : Stmt := PySem.Challenge.pw_stepwhere_k01_contexts_told.main.body.getD i (.Pass ⟨0, 0, 0, 0⟩)
abbrev sMixed : Stmt := top 6
def spMixed : Sp := fun vs H Q _ => ∃ (c k : Int), vs = [.int c, .int k] ∧ 0 ≤ k ∧ k ≤ 2 ^ 60 ∧ ∀ r : Int, 0 ≤ r → r < 2147483629 → Q (.int r) H
section
variable {P : Program} {w : World} {K : PySem.W.Frag} {mg : Str → Option Value} {base : Heap}
theorem scMixed : FnScope ["cell", "k"] ["cell", "k"] (defScope sMixed) := ⟨rfl, rfl, rfl, by decide +kernel, rfl, by decide +kernel, by decide +kernel⟩
theorem ok_mixed {f : Addr} {fd : FuncData} (F : Fun K "_law_mixed" "_law_mixed" sMixed f fd) (mi : mg "int" = none) : FnOk P w K mg base CX0 1 f fd ["cell", "k"] spMixed := by
  refine F.ok scMixed (fun vs H Q E h => ?_) (fun cdv A outer s H vs Q E hr h => ?_)
  · obtain ⟨c, k, rfl, _⟩ := h
    rfl
  · obtain ⟨c, k, rfl, k0, k1, q⟩ := h
    refine ⟨_, pss_cons (ps_set (i := 0) scMixed.nd rfl (Or.inl rfl) (pe_op op_mod (pe_callTy call_int1 (by rfl) mi (by decide +kernel) (pa_cons (pv 0) pa_nil)) pe_int))
      (pss_one (ps_ret (pe_op op_mod (pe_op op_mul (pe_op op_mod (pe_op op_add (pe_op op_add (pe_op op_mul (pv 0) (pe_op op_add pe_int (pe_op op_mul (pe_op op_mul pe_int (pv 1)) (pv 1)))) (pe_op op_mul pe_int (pv 1))) pe_int) pe_int) pe_int) pe_int))), ?_⟩
    have hc0 : 0 ≤ c % 2147483647 := Int.emod_nonneg _ (by decide)
    have hc1 : c % 2147483647 < 2147483647 := Int.emod_lt_of_pos _ (by decide)
    refine ⟨_, rfl, .inl ⟨_, rfl, _, _, rfl, rfl, (by show (0 : Int) < 2147483647; decide), ?_⟩⟩
    refine ⟨_, rfl, _, rfl, _, _, rfl, rfl, .inl ⟨by decide, by decide⟩, _, rfl, _, _, rfl, rfl, .inl ⟨by omega, by omega⟩, _, _, rfl, rfl, _, _, rfl, rfl, .inl ⟨by omega, by omega⟩, ?_⟩
    refine ⟨_, rfl, _, _, rfl, rfl, .inl ⟨by decide, by decide⟩, _, _, rfl, rfl, _, _, rfl, rfl, _, _, rfl, rfl, (by show (0 : Int) < 2147483647; decide), ?_⟩
    refine ⟨_, _, rfl, rfl, .inr ⟨by decide, by decide⟩, _, _, rfl, rfl, (by show (0 : Int) < 2147483629; decide), ?_⟩
    exact q _ (Int.emod_nonneg _ (by decide)) (Int.emod_lt_of_pos _ (by decide))
end
end Sw
namespace Sw
open PySem L2
/-- all that was tracked but at ex is as it was -/
def Kp (ex : List Addr) (H H' : Hp) : Prop := ∀ b o, H b = some o → b ∉ ex → H' b = some o
theorem Kp.refl (ex : List Addr) (H : Hp) : Kp ex H H := fun _ _ h _ => h
theorem Kp.trans {ex : List Addr} {H H1 H2 : Hp} (a : Kp ex H H1) (b : Kp ex H1 H2) : Kp ex H H2 := fun c o h n => b c o (a c o h n) n
theorem Kp.mono {ex ex' : List Addr} {H H1 : Hp} (a : Kp ex H H1) (h : ∀ x ∈ ex, x ∈ ex') : Kp ex' H H1 := fun c o e n => a c o e fun z => n (h c z)
theorem Kp.same {H H1 : Hp} (a : Same H H1) (ex : List Addr) : Kp ex H H1 := fun c o h _ => a c o h
theorem Kp.new {ex : List Addr} {H H1 : Hp} {p : Addr} {o : HO} (a : Kp ex H H1) (h : H1 p = none) : Kp ex H (upd H1 p o) := fun c u e n => by
  have q := a c u e n
  rw [upd_ne (ne_of_none q h)]
  exact q
theorem Kp.put {ex : List Addr} {H H1 : Hp} {p : Addr} {o : HO} (a : Kp ex H H1) (h : p ∈ ex) : Kp ex H (upd H1 p o) := fun c u e n => by
  rw [upd_ne (fun z => n (by rw [z]; exact h))]
  exact a c u e n
/-- a list of ints -/
abbrev lI (l : List Int) : HO := .lst (l.map V.int)
abbrev kS (s : Str) : Key := Sum.inr s
def stD (cl lf : Addr) (a : Int) (rm : V) : List (Key × V) := [(kS "cells", .ref cl), (kS "lefts", .ref lf), (kS "at", .int a), (kS "room", rm)]
/-- the state of the draws: at st, its cells at cl, what is left of them at lf, a draws so far -/
structure StAt (H : Hp) (st cl lf : Addr) (rm : V) (a : Int) : Prop where
  d : H st = some (.dK (stD cl lf a rm))
  c : ∃ cs ls : List Int, H cl = some (lI cs) ∧ H lf = some (lI ls) ∧ cs.length = ls.length ∧ 0 < cs.length ∧ cs.length ≤ 63
  a0 : 0 ≤ a
  ne : cl ≠ lf
theorem StAt.keep {H H' : Hp} {ex : List Addr} {st cl lf : Addr} {rm : V} {a : Int} (S : StAt H st cl lf rm a) (k : Kp ex H H') (h1 : st ∉ ex) (h2 : cl ∉ ex) (h3 : lf ∉ ex) : StAt H' st cl lf rm a := by
  obtain ⟨cs, ls, e1, e2, r⟩ := S.c
  exact ⟨k _ _ S.d h1, ⟨cs, ls, k _ _ e1 h2, k _ _ e2 h3, r⟩, S.a0, S.ne⟩
theorem st_cells (cl lf : Addr) (a : Int) (rm : V) : valV (stD cl lf a rm) (kS "cells") = some (.ref cl) := by rfl
theorem st_lefts (cl lf : Addr) (a : Int) (rm : V) : valV (stD cl lf a rm) (kS "lefts") = some (.ref lf) := by rfl
theorem st_at (cl lf : Addr) (a : Int) (rm : V) : valV (stD cl lf a rm) (kS "at") = some (.int a) := by rfl
theorem st_put (cl lf : Addr) (a b : Int) (rm : V) : putK (stD cl lf a rm) (kS "at") (.int b) = stD cl lf b rm := by rfl
abbrev sBegin : Stmt := top 7
abbrev sDraw : Stmt := top 8
end Sw
namespace Sw
open PySem L2
/-- a draw below many -/
def spDraw : Sp := fun vs H Q _ => ∃ (st cl lf : Addr) (rm : V) (a m : Int), vs = [.ref st, .int m] ∧ StAt H st cl lf rm a ∧ a ≤ 2 ^ 50 ∧ 0 < m ∧ m ≤ 10 ^ 60 ∧
  ∀ (r : Int) (H' : Hp), 0 ≤ r → r < m → StAt H' st cl lf rm (a + 1) → Kp [st, lf] H H' → Q (.int r) H'
/-- the calls of one def by name -/
structure Cl (K : PySem.W.Frag) (mg : Str → Option Value) (x : Str) (f : Addr) (fd : FuncData) (ps : List Str) : Prop where
  g : mg x = some (.ref f)
  k : PySem.W.keepIn K (.ref f) = true
  b : Binds K fd ps []
theorem dgk {H : Hp} {a : Addr} {kvs : List (Key × V)} {k : Key} {v : V} (e : H a = some (.dK kvs)) (h : valV kvs k = some v) : DGet H a (kV k) (some v) := h ▸ DGet.k e
section
variable {P : Program} {w : World} {K : PySem.W.Frag} {mg : Str → Option Value} {base : Heap}
theorem scDraw : FnScope ["state", "many", "at", "place", "left", "number"] ["state", "many"] (defScope sDraw) := ⟨rfl, rfl, rfl, by decide +kernel, rfl, by decide +kernel, by decide +kernel⟩
theorem divw {i m : Int} (h0 : 0 < m) (h1 : m ≤ 10 ^ 60) : CDivW i m := wide_div (b := 200) h0 (by
  have e : (10 : Int) ^ 60 < 2 ^ 200 := by decide
  omega) (by decide) (by decide)
theorem ok_draw {f fM : Addr} {fd fdM : FuncData} (F : Fun K "_law_draw" "_law_draw" sDraw f fd) (GM : FnOk P w K mg base CX0 1 fM fdM ["cell", "k"] spMixed) (cM : Cl K mg "_law_mixed" fM fdM ["cell", "k"]) (mi : mg "int" = none) (ml : mg "len" = none) :
    FnOk P w K mg base CX0 2 f fd ["state", "many"] spDraw := by
  refine F.ok scDraw (fun vs H Q E h => ?_) (fun cdv A outer s H vs Q E hr h => ?_)
  · obtain ⟨st, cl, lf, rm, a, m, rfl, _⟩ := h
    rfl
  · obtain ⟨st, cl, lf, rm, a, m, rfl, S, ha, m0, m1, q⟩ := h
    have hu := hu_of hr
    refine ⟨_, pss_cons (ps_set (i := 2) scDraw.nd rfl (Or.inl rfl) (pe_dget hu (pv 0) pe_str (fun _ _ => rfl)))
      (pss_cons (ps_dput hu (pv 0) pe_str (pe_op op_add (pv 2) pe_int) rfl)
      (pss_cons (ps_set (i := 3) scDraw.nd rfl (Or.inl rfl) (pe_op op_mod (pe_callTy call_int1 (by rfl) mi (by decide +kernel) (pa_cons (pv 2) pa_nil)) (pe_callB call_len_seq (by rfl) ml PySem.boot_len (pa_cons (pe_dget hu (pv 0) pe_str (fun _ _ => rfl)) pa_nil))))
      (pss_cons (ps_set (i := 4) scDraw.nd rfl (Or.inl rfl) (pe_ix ix_list (pe_dget hu (pv 0) pe_str (fun _ _ => rfl)) (pv 3) (fun _ _ => rfl)))
      (pss_cons (ps_if (pt_cmpR op_gt (pv 4) pe_int (nomark _))
        (pss_cons (ps_asg (pe_op op_fdivW (pv 4) (pv 1)) (pg_sub (pe_dget hu (pv 0) pe_str (fun _ _ => rfl)) (pv 3) set_list))
          (pss_one (ps_ret (pe_op op_mod (pe_callTy call_int1 (by rfl) mi (by decide +kernel) (pa_cons (pv 4) pa_nil)) (pv 1)))))
        pss_nil)
      (pss_cons (ps_set (i := 5) scDraw.nd rfl (Or.inl rfl) (pe_call GM hr (by rfl) cM.g cM.k cM.b .nil pass0 (pa_cons (pe_call GM hr (by rfl) cM.g cM.k cM.b .nil pass0 (pa_cons (pe_ix ix_list (pe_dget hu (pv 0) pe_str (fun _ _ => rfl)) (pv 3) (fun _ _ => rfl)) (pa_cons (pv 2) pa_nil))) (pa_cons (pe_op op_add pe_int (pv 2)) pa_nil))))
      (pss_one (ps_ret (pe_op op_mod (pe_op op_fdivW (pe_callTy call_int1 (by rfl) mi (by decide +kernel) (pa_cons (pe_op op_add (pe_op op_mul (pv 5) pe_int) (pe_call GM hr (by rfl) cM.g cM.k cM.b .nil pass0 (pa_cons (pv 5) (pa_cons (pe_op op_add pe_int (pv 2)) pa_nil)))) pa_nil)) pe_int) (pv 1))))))))), ?_⟩
    obtain ⟨Sd, ⟨cs, ls, hc, hl, el, l0, l63⟩, a0, nel⟩ := id S
    have n1 : cl ≠ st := ne_of hc Sd (by intro z; cases z)
    have n2 : lf ≠ st := ne_of hl Sd (by intro z; cases z)
    refine ⟨_, rfl, st, .int a, rfl, dgk (k := kS "at") Sd (st_at ..), ?_⟩
    refine ⟨_, rfl, _, _, rfl, rfl, _, rfl, st, _, rfl, DPut.k (k := kS "at") Sd (by show 4 < sizeLine; decide), ?_⟩
    have d1 : (upd H st (.dK (putK (stD cl lf a rm) (kS "at") (.int (a + 1))))) st = some (.dK (stD cl lf (a + 1) rm)) := upd_same
    have c1 : (upd H st (.dK (putK (stD cl lf a rm) (kS "at") (.int (a + 1))))) cl = some (lI cs) := by rw [upd_ne n1]; exact hc
    have l1 : (upd H st (.dK (putK (stD cl lf a rm) (kS "at") (.int (a + 1))))) lf = some (lI ls) := by rw [upd_ne n2]; exact hl
    have k1 : Kp [st, lf] H (upd H st (.dK (putK (stD cl lf a rm) (kS "at") (.int (a + 1))))) := Kp.put (Kp.refl _ _) (by simp)
    generalize (upd H st (.dK (putK (stD cl lf a rm) (kS "at") (.int (a + 1))))) = H1 at d1 c1 l1 k1 ⊢
    have hlen : ((cs.map V.int).length : Int) = (cs.length : Int) := by rw [List.length_map]
    refine ⟨_, rfl, .inl ⟨_, rfl, _, rfl, st, .ref cl, rfl, dgk (k := kS "cells") d1 (st_cells ..), cl, cs.map V.int, rfl, .inl (SqL.of c1), _, _, rfl, rfl, (by show (0 : Int) < ((cs.map V.int).length : Int); omega), ?_⟩⟩
    obtain ⟨j, hj, ej⟩ : ∃ j : Nat, j < ls.length ∧ a % ((cs.map V.int).length : Int) = (j : Int) := by
      rw [hlen]
      have z0 : 0 ≤ a % (cs.length : Int) := Int.emod_nonneg _ (by omega)
      have z1 : a % (cs.length : Int) < (cs.length : Int) := Int.emod_lt_of_pos _ (by omega)
      exact ⟨(a % (cs.length : Int)).toNat, by omega, by omega⟩
    have hlj : (ls.map V.int)[j]? = some (.int ls[j]) := by simp [hj]
    have hcj : (cs.map V.int)[j]? = some (.int (cs[j]'(by omega))) := by simp [el, hj]
    refine ⟨_, rfl, st, .ref lf, rfl, dgk (k := kS "lefts") d1 (st_lefts ..), _, rfl, lf, _, _, _, rfl, rfl, SqL.of l1, (by rw [ej]; exact atI_nat hlj), ?_⟩
    generalize ls[j] = left at hlj ⊢
    refine ⟨_, rfl, _, _, rfl, rfl, _, rfl, ?_⟩
    refine ite2 (fun hp => ?_) (fun hp => ?_)
    · refine ⟨_, rfl, _, rfl, _, _, rfl, rfl, divw m0 m1, ?_⟩
      refine ⟨_, rfl, st, .ref lf, rfl, dgk (k := kS "lefts") d1 (st_lefts ..), _, rfl, lf, _, _, j, rfl, rfl, l1, ?_, ?_⟩
      · rw [ej, List.length_map]
        unfold ixN
        rw [if_pos (by omega), if_pos (by omega)]
        rfl
      refine ⟨_, rfl, .inl ⟨_, rfl, _, rfl, _, _, rfl, rfl, m0, ?_⟩⟩
      refine q _ _ (Int.emod_nonneg _ (by omega)) (Int.emod_lt_of_pos _ m0) ⟨by rw [upd_ne n2.symm]; exact d1, ⟨cs, ls.set j (left / m), by rw [upd_ne nel]; exact c1, ?_, by simp [el], l0, l63⟩, by omega, nel⟩ (Kp.put k1 (by simp))
      rw [upd_same, lI, List.map_set]
    · have S1 : StAt H1 st cl lf rm (a + 1) := ⟨d1, ⟨cs, ls, c1, l1, el, l0, l63⟩, by omega, nel⟩
      refine ⟨_, rfl, st, .ref cl, rfl, dgk (k := kS "cells") d1 (st_cells ..), _, rfl, cl, _, _, _, rfl, rfl, SqL.of c1, (by rw [ej]; exact atI_nat hcj), _, rfl, _, _, rfl, by omega, by omega, fun r1 h1 h2 => ?_⟩
      refine ⟨_, rfl, _, _, rfl, rfl, _, _, rfl, by omega, by omega, fun r2 h3 h4 => ?_⟩
      refine ⟨_, rfl, _, _, rfl, rfl, .inr ⟨by decide, by decide⟩, _, rfl, _, rfl, _, _, rfl, rfl, _, _, rfl, by omega, by omega, fun r3 h5 h6 => ?_⟩
      refine ⟨_, _, rfl, rfl, .inl ⟨_, rfl, _, _, rfl, rfl, divw (by decide) (by decide), _, rfl, _, _, rfl, rfl, m0, ?_⟩⟩
      exact q _ _ (Int.emod_nonneg _ (by omega)) (Int.emod_lt_of_pos _ m0) S1 k1
end
end Sw
namespace Sw
open PySem L2
def spBegin (K : PySem.W.Frag) : Sp := fun vs H Q _ => ∃ (a : Addr) (ns : List Int), vs = [.ref a] ∧ SqL K H a (ns.map V.int) ∧ ns.length ≤ 63 ∧
  ∀ (st cl lf : Addr) (H' : Hp), StAt H' st cl lf (.int 0) 0 → Same H H' → H st = none → H cl = none → H lf = none → Q (.ref st) H'
theorem dp_ints {K : PySem.W.Frag} {H : Hp} : ∀ ns : List Int, DpAll K H (ns.map V.int) (ns.map PyData.int)
  | [] => .nil
  | n :: ns => .cons (.int n) (dp_ints ns)
theorem Same.new {H H1 : Hp} {p : Addr} {o : HO} (a : Same H H1) (h : H1 p = none) : Same H (upd H1 p o) := fun c u e => by
  rw [upd_ne (ne_of_none (a c u e) h)]
  exact a c u e
theorem Same.up {H : Hp} {p : Addr} {o : HO} (h : H p = none) : Same H (upd H p o) := (L2.Same.refl H) |> fun a => Sw.Same.new a h
/-- an object that was not known may change -/
theorem Same.mut {H H1 : Hp} {p : Addr} {o : HO} (a : Same H H1) (h : H p = none) : Same H (upd H1 p o) := fun c u e => by
  rw [upd_ne (ne_of_none e h)]
  exact a c u e
section
variable {X : Cx}
/-- a statement, what is known behind it, the rest -/
def tMids (t u : TS) : TS := fun D σ H => ∃ M : L2.St → Hp → Prop, t { D with nx := M } σ H ∧ ∀ σ' H', M σ' H' → u D σ' H'
theorem pss_mid {st : Stmt} {rest : List Stmt} {t u : TS} (h1 : PS X st t) (h2 : PSs X rest u) : PSs X (st :: rest) (tMids t u) := by
  refine ⟨fun pins s σ H D I h => ?_⟩
  obtain ⟨M, hm, hu⟩ := h
  refine PySem.wpAny_execs_cons (thn (h1.run pins s σ H { D with nx := M } I hm) fun f s1 q => ?_)
  cases f with
  | next =>
    obtain ⟨σ', H', I', q⟩ := q
    exact h2.run pins s1 σ' H' D I' (hu σ' H' q)
  | ret v => exact q
  | brk => exact q
  | cont => exact q
/-- an expression, and what is known of its value -/
def tMid (t : TE) : TE := fun σ H Q => ∃ M : V → Hp → Prop, t σ H M ∧ ∀ v H', M v H' → Q v H'
theorem pe_mid {e : Expr} {t : TE} (h : PE X e t) : PE X e (tMid t) := by
  refine ⟨fun pins s σ H Q I hq => ?_⟩
  obtain ⟨M, hm, hu⟩ := hq
  exact thn (h.run pins s σ H M I hm) fun u s1 ⟨v, H1, I1, r, q⟩ => ⟨v, H1, I1, r, hu v H1 q⟩
end
section
variable {P : Program} {w : World} {K : PySem.W.Frag} {mg : Str → Option Value} {base : Heap}
theorem scBegin : FnScope ["script", "cells", "cell"] ["script"] (defScope sBegin) := ⟨rfl, rfl, rfl, by decide +kernel, rfl, by decide +kernel, by decide +kernel⟩
def lefts (cs : List Int) : List Int := cs.map fun c => if 10 ^ 18 ≤ c then c else 0
theorem ok_begin {f : Addr} {fd : FuncData} (F : Fun K "_law_begin" "_law_begin" sBegin f fd) (ml : mg "list" = none) :
    FnOk P w K mg base CX0 1 f fd ["script"] (spBegin K) := by
  refine F.ok scBegin (fun vs H Q E h => ?_) (fun cdv A outer s H vs Q E hr h => ?_)
  · obtain ⟨a, ns, rfl, _⟩ := h
    rfl
  · obtain ⟨a, ns, rfl, hS, hl, q⟩ := h
    refine ⟨_, pss_cons (ps_set (i := 1) scBegin.nd rfl (Or.inl rfl) (pe_mid (pe_ifExp (pt_cmpR (op_neD hr.units) (pv 0) (pe_lst pa_nil) (nomark _)) (pe_callTy call_list_of (by rfl) ml (by decide +kernel) (pa_cons (pv 0) pa_nil)) (pe_lst (pa_cons pe_int pa_nil)))))
      (pss_one (ps_ret (pe_disp (pps_cons pe_str (pv 1) (pps_cons pe_str
        (pe_lc (own := [("cell", 2)]) (g := gName 2) (tt := tYes) rfl scBegin.nd (pi_list (pv 1)) (blkOk_by (N := ["script", "cells", "cell"]) (sc := defScope sBegin) (by decide +kernel)) (fun _ _ _ _ _ => pg_name (i := 2) scBegin.nd rfl (Or.inl rfl)) (fun _ _ _ _ _ => pts_nil)
          (fun _ _ _ _ _ => pe_ifExp (pt_cmpR op_ge (pv 2) (pe_op op_pow pe_int pe_int) (nomark _)) (pv 2) pe_int))
        (pps_cons pe_str pe_int (pps_cons pe_str pe_int pps_nil)))) (by rfl) (by rfl) (fun z => by cases z) (by decide)))), ?_⟩
    refine ⟨fun v H1 => ∃ (cl : Addr) (cs : List Int), v = .ref cl ∧ cs.length ≤ 63 ∧ 0 < cs.length ∧ H1 cl = some (lI cs) ∧ Same H H1 ∧ H cl = none, ?_, ?_⟩
    · refine ⟨_, rfl, (by show 0 ≤ sizeLine; decide), fun p hp => ?_⟩
      have sp := Same.up (o := .lst []) hp
      refine ⟨_, _, .lst (sp.seq hS) (dp_ints ns), .lst (SqL.of upd_same) .nil, PySem.W.shaped_ints ns, by rfl, _, rfl, ?_⟩
      cases ns with
      | nil => exact iteF ⟨by show 1 ≤ sizeLine; decide, fun l hl => ⟨l, [0], rfl, by decide, by decide, upd_same, Same.new sp hl, sp.free hl⟩⟩
      | cons n ns => exact iteT ⟨_, rfl, a, _, rfl, .inl (sp.seq hS), fun l hl' => ⟨l, n :: ns, rfl, hl, Nat.succ_pos _, upd_same, Same.new sp hl', sp.free hl'⟩⟩
    · rintro v H1 ⟨cl, cs, rfl, c63, c0, hc, s1, nc⟩
      intro st hst
      have s2 : Same H (upd H1 st (.dK [])) := Same.new s1 hst
      have hc2 : (upd H1 st (.dK [])) cl = some (lI cs) := by rw [upd_ne (ne_of_none hc hst)]; exact hc
      refine ⟨_, rfl, _, rfl, cl, rfl, ⟨_, SqL.of hc2⟩, fun D hD => ?_⟩
      refine lc_list (K := K) (a := cl) (xs := cs.map V.int) (fun i H3 => Same H1 H3 ∧ H3 st = some (.dK []) ∧ H3 D = some (lI (lefts (cs.take i)))) ⟨?_, ?_, ?_⟩ (fun i H3 _ ⟨s3, _⟩ => SqL.of (s3 _ _ hc)) ?_ ?_
      · exact Same.new (Same.up hst) hD
      · rw [upd_ne (ne_of_none upd_same hD)]; exact upd_same
      · exact upd_same
      · rintro i x H3 hi ⟨s3, h4, h5⟩
        have hil : i < cs.length := by simpa using (List.getElem?_eq_some_iff.mp hi).1
        obtain rfl : x = V.int cs[i] := by simpa [hil] using hi.symm
        have nD : st ≠ D := ne_of_none upd_same hD
        have take1 : lefts (cs.take (i + 1)) = lefts (cs.take i) ++ [if 10 ^ 18 ≤ cs[i] then cs[i] else 0] := by
          unfold lefts
          rw [List.take_succ_eq_append_getElem hil, List.map_append]
          rfl
        have fin : ∀ y : Int, y = (if 10 ^ 18 ≤ cs[i] then cs[i] else 0) → ∃ acc, H3 D = some (.lst acc) ∧ acc.length < sizeLine ∧ (Same H1 (upd H3 D (.lst (acc ++ [V.int y]))) ∧ (upd H3 D (.lst (acc ++ [V.int y]))) st = some (.dK []) ∧ (upd H3 D (.lst (acc ++ [V.int y]))) D = some (lI (lefts (cs.take (i + 1))))) := fun y ey => by
          refine ⟨_, h5, ?_, Same.mut s3 ((Same.up hst).free hD), by rw [upd_ne nD]; exact h4, ?_⟩
          · have : ((lefts (cs.take i)).map V.int).length ≤ 63 := by simp [lefts]; omega
            exact Nat.lt_of_le_of_lt this (by decide)
          · rw [upd_same, take1, ey]
            simp
        refine ⟨rfl, ?_⟩
        refine ⟨_, rfl, _, _, rfl, rfl, ⟨by decide, by decide, by decide⟩, _, _, rfl, rfl, _, rfl, ?_⟩
        refine ite2 (fun hp => ?_) (fun hp => ?_)
        · have hp' : 10 ^ 18 ≤ cs[i] := by simpa using hp
          exact ⟨_, rfl, fin _ (by rw [if_pos hp'])⟩
        · have hp' : ¬ 10 ^ 18 ≤ cs[i] := by simpa using hp
          exact fin _ (by rw [if_neg hp'])
      · rintro H3 ⟨s3, h4, h5⟩
        refine ⟨h4, [(kS "cells", .ref cl), (kS "lefts", .ref D), (kS "at", .int 0), (kS "room", .int 0)], rfl, (by show 4 ≤ 15; decide), ?_⟩
        rw [List.length_map, List.take_length] at h5
        have nD : D ≠ st := (ne_of_none upd_same hD).symm
        have nc3 : cl ≠ st := ne_of_none hc hst
        refine q st cl D _ ⟨upd_same, ⟨cs, lefts cs, by rw [upd_ne nc3]; exact s3 _ _ hc, by rw [upd_ne nD]; exact h5, by simp [lefts], c0, c63⟩, Int.le_refl 0, ?_⟩ ?_ (s1.free hst) nc (s2.free hD)
        · exact ne_of_none hc ((Same.up hst).free hD)
        · exact Same.mut (s1.trans s3) (s1.free hst)
end
end Sw
namespace Sw
open PySem L2
/-- one to eight letters -/
def nameB (z : Str) : Bool := decide (1 ≤ z.length) && decide (z.length ≤ 8) && z.cps.toList.all fun c => decide (97 ≤ c) && decide (c ≤ 122)
def spName : Sp := fun vs H Q _ => ∃ (st cl lf : Addr) (rm : V) (a : Int), vs = [.ref st] ∧ StAt H st cl lf rm a ∧ a ≤ 2 ^ 49 ∧
  ∀ (z : Str) (a' : Int) (H' : Hp), nameB z = true → StAt H' st cl lf rm a' → a ≤ a' → a' ≤ a + 12 → Kp [st, lf] H H' → Q (.str z) H'
theorem join0 : ∀ ys : List Str, (Str.join Str.empty ys).cps.toList = ys.flatMap (·.cps.toList)
  | [] => rfl
  | [y] => by simp [Str.join]
  | y :: z :: r => by
    have ih := join0 (z :: r)
    simp only [Str.join, List.flatMap_cons] at ih ⊢
    show ((y.cps ++ Str.empty.cps) ++ (Str.join Str.empty (z :: r)).cps).toList = _
    rw [Array.toList_append, Array.toList_append, show (Str.join Str.empty (z :: r)).cps.toList = _ from join0 (z :: r)]
    simp [Str.empty]
/-- the words of the language -/
def ownW : List Str := Txt.split "set hold reset drop show copy within if with guard loop leave yield fail make step close" " " ++ Txt.split "vars piece context token unset used empty over ended shown failed" " "
theorem ownW_ok : ownW.all nameB = true := by decide +kernel
theorem ownW_len : ownW.length = 28 := by decide +kernel
def fewW : List Str := ["x", "y", "a", "b", "c", "t", "g", "ab", "abcdefgh"]
theorem fewW_ok : fewW.all nameB = true := by decide +kernel
def abc : Str := "abcdefghijklmnopqrstuvwxyz"
theorem abc_len : abc.cps.toList.length = 26 := by decide +kernel
theorem abc_len2 : abc.length = 26 := by decide +kernel
theorem abc_ok : (abc.cps.toList.all fun c => decide (97 ≤ c) && decide (c ≤ 122)) = true := by decide +kernel
abbrev sName : Stmt := top 9
/-- an item of a list of n at a place that is drawn below n -/
theorem at_drawn {α : Type} {xs : List α} {r : Int} {n : Nat} (hn : n ≤ xs.length) (h0 : 0 ≤ r) (h1 : r < (n : Int)) : ∃ (v : α) (j : Nat), r = (j : Int) ∧ j < n ∧ xs[j]? = some v ∧ v ∈ xs ∧ atI xs r = some v := by
  have hj : r.toNat < xs.length := by omega
  have e : r = ((r.toNat : Nat) : Int) := by omega
  refine ⟨xs[r.toNat], r.toNat, e, by omega, List.getElem?_eq_getElem hj, List.getElem_mem hj, ?_⟩
  have z : atI xs ((r.toNat : Nat) : Int) = some xs[r.toNat] := atI_nat (List.getElem?_eq_getElem hj)
  rwa [← e] at z
theorem str_at {xs : List Str} {r : Int} {n : Nat} (hn : n ≤ xs.length) (h0 : 0 ≤ r) (h1 : r < (n : Int)) : ∃ v ∈ xs, atI (xs.map V.str) r = some (V.str v) := by
  obtain ⟨v, j, e, hj, hv, hm, _⟩ := at_drawn hn h0 h1
  refine ⟨v, hm, ?_⟩
  rw [e]
  exact atI_nat (by rw [List.getElem?_map, hv]; rfl)
section
variable {P : Program} {w : World} {K : PySem.W.Frag} {mg : Str → Option Value} {base : Heap}
theorem scName : FnScope ["state", "few", "own", "way", "k"] ["state"] (defScope sName) := ⟨rfl, rfl, rfl, by decide +kernel, rfl, by decide +kernel, by decide +kernel⟩
theorem ok_name {f fD : Addr} {fd fdD : FuncData} (F : Fun K "_law_name" "_law_name" sName f fd) (GD : FnOk P w K mg base CX0 2 fD fdD ["state", "many"] spDraw) (cD : Cl K mg "_law_draw" fD fdD ["state", "many"]) (mr : mg "range" = none) :
    FnOk P w K mg base CX0 3 f fd ["state"] spName := by
  refine F.ok scName (fun vs H Q E h => ?_) (fun cdv A outer s H vs Q E hr h => ?_)
  · obtain ⟨st, cl, lf, rm, a, rfl, _⟩ := h
    rfl
  · obtain ⟨st, cl, lf, rm, a, rfl, S, ha, q⟩ := h
    refine ⟨_, pss_mid (ps_set (i := 1) scName.nd rfl (Or.inl rfl) (pe_lst (pa_cons pe_str (pa_cons pe_str (pa_cons pe_str (pa_cons pe_str (pa_cons pe_str (pa_cons pe_str (pa_cons pe_str (pa_cons pe_str (pa_cons pe_str pa_nil)))))))))))
      (pss_mid (ps_set (i := 2) scName.nd rfl (Or.inl rfl) (pe_split pe_str pe_str))
      (pss_mid (ps_set (i := 2) scName.nd rfl (Or.inl rfl) (pe_op op_cat (pv 2) (pe_split pe_str pe_str)))
      (pss_mid (ps_set (i := 3) scName.nd rfl (Or.inl rfl) (pe_call GD hr (by rfl) cD.g cD.k cD.b .nil pass0 (pa_cons (pv 0) (pa_cons pe_int pa_nil))))
      (pss_cons (ps_if (pt_cmpR op_lt (pv 3) pe_int (nomark _))
        (pss_one (ps_ret (pe_ifExp (pt_cmpR op_eq (pv 3) pe_int (nomark _)) (pe_ix ix_list (pv 1) (pe_call GD hr (by rfl) cD.g cD.k cD.b .nil pass0 (pa_cons (pv 0) (pa_cons pe_int pa_nil))) (fun _ _ => rfl)) (pe_ix ix_list (pv 2) (pe_call GD hr (by rfl) cD.g cD.k cD.b .nil pass0 (pa_cons (pv 0) (pa_cons pe_int pa_nil))) (fun _ _ => rfl)))))
        pss_nil)
      (pss_one (ps_ret (pe_join pe_str
        (pe_lc (own := [("k", 4)]) (g := gName 4) (tt := tYes) rfl scName.nd (pi_range1 rfl mr (pa_cons (pe_op op_add pe_int (pe_call GD hr (by rfl) cD.g cD.k cD.b .nil pass0 (pa_cons (pv 0) (pa_cons pe_int pa_nil)))) pa_nil)) (blkOk_by (N := ["state", "few", "own", "way", "k"]) (sc := defScope sName) (by decide +kernel)) (fun _ _ _ _ _ => pg_name (i := 4) scName.nd rfl (Or.inl rfl)) (fun _ _ _ _ _ => pts_nil)
          (fun _ _ _ _ _ => pe_ix ix_str pe_str (pe_call GD hr (by rfl) cD.g cD.k cD.b .nil pass0 (pa_cons (pv 0) (pa_cons pe_int pa_nil))) (fun _ _ => rfl)))))))))), ?_⟩
    obtain ⟨Sd, ⟨cs0, ls0, hc0, hl0, _⟩, _⟩ := id S
    refine ⟨fun σ1 H1 => ∃ p1, σ1 = [some (.ref st), some (.ref p1), none, none, none] ∧ Same H H1 ∧ H p1 = none ∧ H1 p1 = some (.lst (fewW.map V.str)), ?_, ?_⟩
    · exact ⟨(by show 9 ≤ sizeLine; decide), fun p1 n1 => ⟨p1, rfl, Same.up n1, n1, upd_same⟩⟩
    rintro _ H1 ⟨p1, rfl, s1, n1, e1⟩
    refine ⟨fun σ2 H2 => ∃ p2, σ2 = [some (.ref st), some (.ref p1), some (.ref p2), none, none] ∧ Same H1 H2 ∧ H1 p2 = none ∧ H2 p2 = some (.lst ((Txt.split "set hold reset drop show copy within if with guard loop leave yield fail make step close" " ").map V.str)), ?_, ?_⟩
    · exact ⟨⟨_, rfl⟩, _, _, rfl, rfl, by decide, by decide +kernel, fun p2 n2 => ⟨p2, rfl, Same.up n2, n2, upd_same⟩⟩
    rintro _ H2 ⟨p2, rfl, s2, n2, e2⟩
    refine ⟨fun σ3 H3 => ∃ p3, σ3 = [some (.ref st), some (.ref p1), some (.ref p3), none, none] ∧ Same H2 H3 ∧ H2 p3 = none ∧ H3 p3 = some (.lst (ownW.map V.str)), ?_, ?_⟩
    · refine ⟨_, rfl, ⟨_, rfl⟩, _, _, rfl, rfl, by decide, by decide +kernel, fun p3 n3 => ?_⟩
      refine ⟨p2, p3, _, _, rfl, rfl, (by rw [upd_ne (ne_of_none e2 n3)]; exact e2), upd_same, by decide +kernel, fun p4 n4 => ⟨p4, rfl, Same.new (Same.up n3) n4, (Same.up n3).free n4, ?_⟩⟩
      rw [upd_same, ownW, List.map_append]
    rintro _ H3 ⟨p3, rfl, s3, n3, e3⟩
    have s03 : Same H H3 := (s1.trans s2).trans s3
    have e13 : H3 p1 = some (.lst (fewW.map V.str)) := s3 _ _ (s2 _ _ e1)
    have n30 : H p3 = none := (s1.trans s2).free n3
    have S3 : StAt H3 st cl lf rm a := S.keep (Kp.same s03 []) (by simp) (by simp) (by simp)
    have m1 : p1 ∉ [st, lf] := by simp [(ne_of_none Sd n1).symm, (ne_of_none hl0 n1).symm]
    have m3 : p3 ∉ [st, lf] := by simp [(ne_of_none Sd n30).symm, (ne_of_none hl0 n30).symm]
    refine ⟨fun σ4 H4 => ∃ r : Int, σ4 = [some (.ref st), some (.ref p1), some (.ref p3), some (.int r), none] ∧ StAt H4 st cl lf rm (a + 1) ∧ Kp [st, lf] H3 H4, ?_, ?_⟩
    · exact ⟨_, rfl, st, cl, lf, rm, a, 3, rfl, S3, by omega, by decide, by decide, fun r H4 _ _ S4 k4 => ⟨r, rfl, S4, k4⟩⟩
    rintro _ H4 ⟨r, rfl, S4, k4⟩
    have e14 := k4 _ _ e13 m1
    have e34 := k4 _ _ e3 m3
    have k04 : Kp [st, lf] H H4 := (Kp.same s03 _).trans k4
    refine ⟨_, rfl, _, _, rfl, rfl, _, rfl, ?_⟩
    refine ite2 (fun hp => ?_) (fun hp => ?_)
    · refine ⟨_, rfl, rfl, _, rfl, ?_⟩
      refine ite2 (fun hq => ?_) (fun hq => ?_)
      · refine ⟨_, rfl, _, rfl, st, cl, lf, rm, a + 1, 9, rfl, S4, by omega, by decide, by decide, fun r5 H5 h1 h2 S5 k5 => ?_⟩
        obtain ⟨v, hv, ev⟩ := str_at (xs := fewW) (n := 9) (by decide) h1 h2
        refine ⟨p1, _, _, _, rfl, rfl, SqL.of (k5 _ _ e14 m1), ev, ?_⟩
        exact q v _ _ (List.all_eq_true.mp fewW_ok v hv) S5 (by omega) (by omega) (k04.trans k5)
      · refine ⟨_, rfl, _, rfl, st, cl, lf, rm, a + 1, 27, rfl, S4, by omega, by decide, by decide, fun r5 H5 h1 h2 S5 k5 => ?_⟩
        obtain ⟨v, hv, ev⟩ := str_at (xs := ownW) (n := 27) (by rw [ownW_len]; decide) h1 h2
        refine ⟨p3, _, _, _, rfl, rfl, SqL.of (k5 _ _ e34 m3), ev, ?_⟩
        exact q v _ _ (List.all_eq_true.mp ownW_ok v hv) S5 (by omega) (by omega) (k04.trans k5)
    · refine ⟨⟨_, rfl⟩, _, rfl, st, cl, lf, rm, a + 1, 8, rfl, S4, by omega, by decide, by decide, fun n5 H5 h1 h2 S5 k5 => ?_⟩
      refine ⟨_, _, rfl, rfl, (1 + n5), rfl, by omega, by omega, fun D hD => ?_⟩
      obtain ⟨Sd5, ⟨cs5, ls5, hc5, hl5, _⟩, _⟩ := id S5
      have nDs : D ≠ st := (ne_of_none Sd5 hD).symm
      have nDc : D ≠ cl := (ne_of_none hc5 hD).symm
      have nDl : D ≠ lf := (ne_of_none hl5 hD).symm
      have mD : D ∉ [st, lf] := by simp [nDs, nDl]
      have step : ∀ {G : Hp} {o : HO} {a' : Int}, StAt G st cl lf rm a' → StAt (upd G D o) st cl lf rm a' := fun {G o a'} Z => by
        obtain ⟨cs, ls, hc, hl, r⟩ := Z.c
        exact ⟨by rw [upd_ne nDs.symm]; exact Z.d, ⟨cs, ls, by rw [upd_ne nDc.symm]; exact hc, by rw [upd_ne nDl.symm]; exact hl, r⟩, Z.a0, Z.ne⟩
      refine lc_range (lo := 0) (n := (1 + n5).toNat) (fun i G => ∃ (us : List Nat) (a' : Int), us.length = i ∧ (us.all fun c => decide (97 ≤ c) && decide (c ≤ 122)) = true ∧ G D = some (.lst ((us.map fun c => (⟨#[c]⟩ : Str)).map V.str)) ∧ StAt G st cl lf rm a' ∧ a + 2 ≤ a' ∧ a' ≤ a + 2 + i ∧ Kp [st, lf] H5 G) ?_ ?_ ?_
      · exact ⟨[], a + 2, rfl, rfl, upd_same, by have := step (o := .lst []) S5; rwa [show a + 1 + 1 = a + 2 by omega] at this, by omega, by omega, Kp.new (Kp.refl _ _) hD⟩
      · rintro i G hi ⟨us, a', lu, ou, eD, SG, g1, g2, kG⟩
        refine ⟨rfl, ?_⟩
        refine ⟨_, rfl, st, cl, lf, rm, a', 26, rfl, SG, by omega, by decide, by decide, fun r6 G2 r0 r1 SG2 kG2 => ?_⟩
        obtain ⟨c, jc, _, _, _, hm, ev⟩ := at_drawn (xs := abc.cps.toList) (n := 26) (by rw [abc_len]; decide) r0 r1
        refine ⟨_, _, c, rfl, rfl, (by show abc.length ≤ sizeLine; rw [abc_len2]; decide), ev, _, kG2 _ _ eD mD, ?_, ?_⟩
        · have e2 : ((us.map fun c => (⟨#[c]⟩ : Str)).map V.str).length = i := by simp [lu]
          exact Nat.lt_of_le_of_lt (m := 10) (by omega) (by decide)
        · refine ⟨us ++ [c], a' + 1, by simp [lu], ?_, by rw [upd_same]; simp, step SG2, by omega, by omega, fun b o e nb => ?_⟩
          · rw [List.all_append, ou]
            simpa using List.all_eq_true.mp abc_ok c hm
          · rw [upd_ne (ne_of_none e hD)]
            exact kG2 _ _ (kG _ _ e nb) nb
      · rintro G ⟨us, a', lu, ou, eD, SG, g1, g2, kG⟩
        refine ⟨_, D, us.map (fun c => (⟨#[c]⟩ : Str)), rfl, rfl, .inl (SqL.of eD), ?_, ?_⟩
        · have e1 : ((us.map (fun c => (⟨#[c]⟩ : Str))).map (·.length)).sum = us.length := by
            clear eD ou lu
            induction us with
            | nil => rfl
            | cons c us ih => rw [List.map_cons, List.map_cons, List.sum_cons, ih, List.length_cons]; show 1 + us.length = _; omega
          rw [e1]
          show us.length + (us.map (fun c => (⟨#[c]⟩ : Str))).length * 0 ≤ _
          omega
        · have ez : (Txt.join (Str.ofString "") (us.map (fun c => (⟨#[c]⟩ : Str)))).cps.toList = us := by
            rw [show ∀ y parts, Txt.join y parts = Str.join y parts from fun y parts => PySem.StrLaws.glued_eq_join y parts]
            show (Str.join Str.empty _).cps.toList = _
            rw [join0]
            clear eD ou lu
            induction us with
            | nil => rfl
            | cons c us ih => rw [List.map_cons, List.flatMap_cons, ih]; rfl
          refine q _ _ _ ?_ SG (by omega) (by omega) ((k04.trans k5).trans kG)
          unfold nameB
          have el : (Txt.join (Str.ofString "") (us.map (fun c => (⟨#[c]⟩ : Str)))).length = us.length := by
            show (Txt.join (Str.ofString "") (us.map (fun c => (⟨#[c]⟩ : Str)))).cps.size = us.length
            rw [← Array.length_toList, ez]
          rw [ez, ou, el, lu]
          have z1 : 1 ≤ (1 + n5).toNat := by omega
          have z2 : (1 + n5).toNat ≤ 8 := by omega
          simp [z1, z2]
end
end Sw
namespace Sw
open PySem L2
theorem StAt.put {G : Hp} {o : HO} {D st cl lf : Addr} {rm : V} {a : Int} (Z : StAt G st cl lf rm a) (h1 : D ≠ st) (h2 : D ≠ cl) (h3 : D ≠ lf) : StAt (upd G D o) st cl lf rm a := by
  obtain ⟨cs, ls, hc, hl, r⟩ := Z.c
  exact ⟨by rw [upd_ne h1.symm]; exact Z.d, ⟨cs, ls, by rw [upd_ne h2.symm]; exact hc, by rw [upd_ne h3.symm]; exact hl, r⟩, Z.a0, Z.ne⟩
/-- what is not known is none of the state's -/
theorem StAt.apart {G : Hp} {D st cl lf : Addr} {rm : V} {a : Int} (Z : StAt G st cl lf rm a) (h : G D = none) : D ≠ st ∧ D ≠ cl ∧ D ≠ lf := by
  obtain ⟨cs, ls, hc, hl, r⟩ := Z.c
  exact ⟨(ne_of_none Z.d h).symm, (ne_of_none hc h).symm, (ne_of_none hl h).symm⟩
theorem StAt.new {G : Hp} {o : HO} {D st cl lf : Addr} {rm : V} {a : Int} (Z : StAt G st cl lf rm a) (h : G D = none) : StAt (upd G D o) st cl lf rm a :=
  Z.put (Z.apart h).1 (Z.apart h).2.1 (Z.apart h).2.2
theorem StAt.same {G G' : Hp} {st cl lf : Addr} {rm : V} {a : Int} (Z : StAt G st cl lf rm a) (s : Same G G') : StAt G' st cl lf rm a := Z.keep (Kp.same s []) (by simp) (by simp) (by simp)
theorem inV_str (z : Str) : ∀ zs : List Str, inV (.str z) (zs.map V.str) = decide (z ∈ zs)
  | [] => by simp [inV]
  | y :: zs => by
    have ih := inV_str z zs
    unfold inV at ih ⊢
    rw [List.map_cons, List.any_cons, ih]
    by_cases e : y = z
    · subst e; simp [eqV]
    · have e2 : ¬ z = y := fun q => e q.symm
      simp [eqV, e, e2]
theorem flat_strs (zs : List Str) : (zs.map V.str).all flatV = true := by
  rw [List.all_map]
  exact List.all_eq_true.mpr fun _ _ => rfl
theorem nodup_sub_len {α : Type} [DecidableEq α] : ∀ {l m : List α}, l.Nodup → (∀ x ∈ l, x ∈ m) → l.length ≤ m.length
  | [], _, _, _ => Nat.zero_le _
  | x :: l, m, nd, h => by
    have h1 := List.nodup_cons.mp nd
    have hm : x ∈ m := h x (List.mem_cons_self ..)
    have ih := nodup_sub_len (l := l) (m := m.erase x) h1.2 (fun y hy => (List.mem_erase_of_ne (fun e => h1.1 (by rw [← e]; exact hy))).mpr (h y (List.mem_cons_of_mem _ hy)))
    rw [List.length_erase_of_mem hm] at ih
    have : 0 < m.length := List.length_pos_of_mem hm
    rw [List.length_cons]
    omega
/-- the further names -/
def qW : List Str := abc.cps.toList.map fun c => ("q" : Str) ++ (⟨#[c]⟩ : Str)
theorem qW_nd : qW.Nodup := by decide +kernel
theorem qW_ok : qW.all nameB = true := by decide +kernel
theorem qW_len : qW.length = 26 := by decide +kernel
/-- one of the candidates is new -/
theorem cand_new (z : Str) (zs : List Str) (h : zs.length + 1 ≤ 26) : ∃ y r, (z :: qW.take (zs.length + 1)).filter (fun x => !decide (x ∈ zs)) = y :: r := by
  cases e : (z :: qW.take (zs.length + 1)).filter (fun x => !decide (x ∈ zs)) with
  | cons y r => exact ⟨y, r, rfl⟩
  | nil =>
    exfalso
    have h1 : ∀ x ∈ qW.take (zs.length + 1), x ∈ zs := fun x hx => by
      have := List.filter_eq_nil_iff.mp e x (List.mem_cons_of_mem _ hx)
      simpa using this
    have h2 := nodup_sub_len (qW_nd.sublist (List.take_sublist _ _)) h1
    rw [List.length_take, qW_len] at h2
    omega
def spNames : Sp := fun vs H Q _ => ∃ (st cl lf : Addr) (rm : V) (a : Int) (m : Nat), vs = [.ref st, .int (m : Int)] ∧ StAt H st cl lf rm a ∧ a ≤ 2 ^ 48 ∧ m ≤ 25 ∧
  ∀ (p : Addr) (zs : List Str) (a' : Int) (H' : Hp), zs.length = m → zs.Nodup → zs.all nameB = true → H p = none → H' p = some (.lst (zs.map V.str)) → StAt H' st cl lf rm a' → a ≤ a' → a' ≤ a + 12 * m → Kp [st, lf] H H' → Q (.ref p) H'
abbrev sNames : Stmt := top 10
abbrev nNames : List Str := ["state", "many", "found", "k", "name", "some", "j", "one"]
section
variable {P : Program} {w : World} {K : PySem.W.Frag} {mg : Str → Option Value} {base : Heap}
theorem scNames : FnScope nNames ["state", "many"] (defScope sNames) := ⟨rfl, rfl, rfl, by decide +kernel, rfl, by decide +kernel, by decide +kernel⟩
theorem ok_names {f fN : Addr} {fd fdN : FuncData} (F : Fun K "_law_names" "_law_names" sNames f fd) (GN : FnOk P w K mg base CX0 3 fN fdN ["state"] spName) (cN : Cl K mg "_law_name" fN fdN ["state"]) (mr : mg "range" = none) (ml : mg "len" = none) :
    FnOk P w K mg base CX0 4 f fd ["state", "many"] spNames := by
  refine F.ok scNames (fun vs H Q E h => ?_) (fun cdv A outer s H vs Q E hr h => ?_)
  · obtain ⟨st, cl, lf, rm, a, m, rfl, _⟩ := h
    rfl
  · obtain ⟨st, cl, lf, rm, a, m, rfl, S, ha, hm, q⟩ := h
    refine ⟨_, pss_cons (ps_set (i := 2) scNames.nd rfl (Or.inr rfl) (pe_lst pa_nil))
      (pss_cons (ps_for PassesOwn.never rfl (pi_range1 rfl mr (pa_cons (pv 1) pa_nil)) (pg_name (i := 3) scNames.nd rfl (Or.inl rfl))
        (pss_mid (ps_set (i := 4) scNames.nd rfl (Or.inl rfl) (pe_call GN hr (by rfl) cN.g cN.k cN.b .nil pass0 (pa_cons (pv 0) pa_nil)))
        (pss_mid (ps_set (i := 5) scNames.nd rfl (Or.inl rfl) (pe_op op_cat (pe_lst (pa_cons (pv 4) pa_nil))
          (pe_lc (own := [("j", 6)]) (g := gName 6) (tt := tYes) rfl scNames.nd (pi_range1 rfl mr (pa_cons (pe_op op_add (pe_callB call_len_seq (by rfl) ml PySem.boot_len (pa_cons (pv 2) pa_nil)) pe_int) pa_nil)) (blkOk_by (N := nNames) (sc := defScope sNames) (by decide +kernel)) (fun _ _ _ _ _ => pg_name (i := 6) scNames.nd rfl (Or.inl rfl)) (fun _ _ _ _ _ => pts_nil)
            (fun _ _ _ _ _ => pe_op op_add_str pe_str (pe_ix ix_str pe_str (pv 6) (fun _ _ => rfl))))))
        (pss_one (ps_expr (pe_bm PySem.F.plainAttrs_list PySem.F.slot_list_append PySem.F.type_list_append mt_append (pv 2) (pa_cons
          (pe_ix ix_list (pe_lc (own := [("one", 7)]) (g := gName 7) (tt := tTest (tOp (rIn K true) (tVar 7) (tVar 2))) rfl scNames.nd (pi_list (pv 5)) (blkOk_by (N := nNames) (sc := defScope sNames) (by decide +kernel)) (fun _ _ _ _ _ => pg_name (i := 7) scNames.nd rfl (Or.inl rfl)) (fun _ _ _ _ _ => pts_one (pt_cmpR op_notIn_seq (pv 7) (pv 2) (by rfl)))
            (fun _ _ _ _ _ => pv 7)) pe_int (fun _ _ => rfl)) pa_nil)))))))
      (pss_one (ps_ret (pv 2)))), ?_⟩
    refine ⟨(by show 0 ≤ sizeLine; decide), fun p np => ?_⟩
    have ap := S.apart np
    refine ⟨_, rfl, (m : Int), rfl, by omega, by omega, for_range (lo := 0) (n := (m : Int).toNat) (fun i σ G => ∃ (zs : List Str) (a' : Int) (v3 v4 v5 : Option V), σ = [some (.ref st), some (.int (m : Int)), some (.ref p), v3, v4, v5, none, none] ∧
      zs.length = i ∧ zs.Nodup ∧ zs.all nameB = true ∧ G p = some (.lst (zs.map V.str)) ∧ StAt G st cl lf rm a' ∧ a ≤ a' ∧ a' ≤ a + 12 * i ∧ Kp [st, lf] H G) ?_ ?_ ?_⟩
    · exact ⟨[], a, none, none, none, rfl, rfl, List.nodup_nil, rfl, upd_same, S.new np, Int.le_refl _, by omega, Kp.new (Kp.refl _ _) np⟩
    · rintro i _ G hi ⟨zs, a', v3, v4, v5, rfl, lz, nz, oz, ep, SG, g1, g2, kG⟩
      have mp : p ∉ [st, lf] := by simp [ap.1, ap.2.2]
      -- name = _law_name(state)
      refine ⟨fun σ1 G1 => ∃ (z : Str) (a1 : Int), σ1 = [some (.ref st), some (.int (m : Int)), some (.ref p), some (.int (0 + (i : Int))), some (.str z), v5, none, none] ∧ nameB z = true ∧ StAt G1 st cl lf rm a1 ∧ a' ≤ a1 ∧ a1 ≤ a' + 12 ∧ Kp [st, lf] G G1, ?_, ?_⟩
      · exact ⟨_, rfl, st, cl, lf, rm, a', rfl, SG, by omega, fun z a1 G1 h1 h2 h3 h4 h5 => ⟨z, a1, rfl, h1, h2, h3, h4, h5⟩⟩
      rintro _ G1 ⟨z, a1, rfl, oz1, SG1, g3, g4, kG1⟩
      have ep1 := kG1 _ _ ep mp
      -- some = ..
      refine ⟨fun σ2 G2 => ∃ (so : Addr), σ2 = [some (.ref st), some (.int (m : Int)), some (.ref p), some (.int (0 + (i : Int))), some (.str z), some (.ref so), none, none] ∧ Same G1 G2 ∧ G1 so = none ∧ G2 so = some (.lst ((z :: qW.take (zs.length + 1)).map V.str)), ?_, ?_⟩
      · refine ⟨_, rfl, (by show 1 ≤ sizeLine; decide), fun l nl => ?_⟩
        have ep2 : (upd G1 l (.lst [V.str z])) p = some (.lst (zs.map V.str)) := by rw [upd_ne (ne_of_none ep1 nl)]; exact ep1
        refine ⟨_, rfl, p, zs.map V.str, rfl, .inl (SqL.of ep2), _, _, rfl, rfl, (((zs.map V.str).length : Int) + 1), rfl, by omega, ?_, fun D hD => ?_⟩
        · rw [List.length_map]; omega
        · have nlD : l ≠ D := ne_of_none upd_same hD
          refine lc_range (lo := 0) (n := (((zs.map V.str).length : Int) + 1).toNat) (fun j G2 => Same G1 G2 ∧ G2 l = some (.lst [V.str z]) ∧ G2 D = some (.lst ((qW.take j).map V.str))) ⟨Same.new (Same.up nl) hD, by rw [upd_ne nlD]; exact upd_same, upd_same⟩ ?_ ?_
          · rintro j G2 hj ⟨s2, el, eD⟩
            rw [List.length_map] at hj
            have hj2 : j < abc.cps.toList.length := by rw [abc_len]; omega
            refine ⟨rfl, ?_⟩
            refine ⟨_, rfl, abc, _, abc.cps.toList[j], rfl, rfl, (by rw [abc_len2]; decide), ?_, _, _, rfl, rfl, (by show 1 + 1 ≤ sizeLine; decide), _, eD, ?_, Same.mut s2 ((Same.up nl).free hD), by rw [upd_ne nlD]; exact el, ?_⟩
            · rw [show (0 : Int) + (j : Int) = (j : Int) by omega]
              exact atI_nat (List.getElem?_eq_getElem hj2)
            · rw [List.length_map]
              exact Nat.lt_of_le_of_lt (List.length_take_le _ _) (Nat.lt_of_le_of_lt (m := 26) (by omega) (by decide))
            · have hq : j < qW.length := by rw [qW_len]; omega
              rw [upd_same, List.take_succ_eq_append_getElem hq, List.map_append]
              have e : qW[j] = ("q" : Str) ++ (⟨#[abc.cps.toList[j]]⟩ : Str) := by (simp only [qW, List.getElem_map]; rfl)
              rw [e]
              rfl
          · rintro G2 ⟨s2, el, eD⟩
            have e1 : (((zs.map V.str).length : Int) + 1).toNat = zs.length + 1 := by rw [List.length_map]; omega
            rw [e1] at eD
            refine ⟨l, D, _, _, rfl, rfl, el, eD, ?_, fun so hso => ⟨so, rfl, Same.new s2 hso, s2.free hso, ?_⟩⟩
            · rw [List.length_map, List.length_take, qW_len]
              exact Nat.le_trans (m := 100) (by simp; omega) (by decide)
            · rw [upd_same]
              rfl
      rintro _ G2 ⟨so, rfl, s2, nso, eso⟩
      have ep2 := s2 _ _ ep1
      -- found.append(..)
      refine ⟨_, rfl, .inl ⟨rfl, _, SqL.of ep2⟩, _, rfl, so, rfl, ⟨_, SqL.of eso⟩, fun D hD => ?_⟩
      have npD : p ≠ D := ne_of_none ep2 hD
      refine lc_list (K := K) (a := so) (xs := (z :: qW.take (zs.length + 1)).map V.str) (fun j G3 => Same G2 G3 ∧ G3 D = some (.lst ((((z :: qW.take (zs.length + 1)).take j).filter (fun x => !decide (x ∈ zs))).map V.str))) ⟨Same.up hD, upd_same⟩ (fun j G3 _ ⟨s3, _⟩ => SqL.of (s3 _ _ eso)) ?_ ?_
      · rintro j x G3 hj ⟨s3, eD⟩
        have hjl : j < (z :: qW.take (zs.length + 1)).length := by simpa using (List.getElem?_eq_some_iff.mp hj).1
        obtain rfl : x = V.str ((z :: qW.take (zs.length + 1))[j]) := by
          rw [List.getElem?_map, List.getElem?_eq_getElem hjl] at hj
          exact (Option.some.inj hj).symm
        refine ⟨rfl, ?_⟩
        refine ⟨_, rfl, _, rfl, p, _, rfl, .inl (SqL.of (s3 _ _ ep2)), rfl, flat_strs zs, _, rfl, ?_⟩
        have e1 : (z :: qW.take (zs.length + 1)).take (j + 1) = (z :: qW.take (zs.length + 1)).take j ++ [(z :: qW.take (zs.length + 1))[j]] := List.take_succ_eq_append_getElem hjl
        rw [inV_str]
        by_cases hin : (z :: qW.take (zs.length + 1))[j] ∈ zs
        · rw [decide_eq_true hin]
          refine iteF ⟨s3, ?_⟩
          rw [e1, List.filter_append, eD]
          simp [hin]
        · rw [decide_eq_false hin]
          refine iteT ⟨_, rfl, _, eD, ?_, Same.mut s3 hD, ?_⟩
          · rw [List.length_map]
            refine Nat.lt_of_le_of_lt (List.length_filter_le _ _) (Nat.lt_of_le_of_lt (List.length_take_le _ _) (Nat.lt_of_lt_of_le hjl ?_))
            rw [List.length_cons, List.length_take, qW_len]
            exact Nat.le_trans (m := 100) (by omega) (by decide)
          · rw [upd_same, e1, List.filter_append, List.map_append]
            simp [hin]
      · rintro G3 ⟨s3, eD⟩
        rw [List.length_map, List.take_length] at eD
        obtain ⟨y, r, ey⟩ := cand_new z zs (by omega)
        rw [ey] at eD
        have hy : y ∈ (z :: qW.take (zs.length + 1)).filter (fun x => !decide (x ∈ zs)) := by rw [ey]; exact List.mem_cons_self ..
        have hy1 := (List.mem_filter.mp hy)
        have hyn : y ∉ zs := by simpa using hy1.2
        have hyo : nameB y = true := by
          rcases List.mem_cons.mp hy1.1 with e | e
          · rw [e]; exact oz1
          · exact List.all_eq_true.mp qW_ok y (List.mem_of_mem_take e)
        have ep3 := s3 _ _ ep2
        refine ⟨D, _, _, V.str y, rfl, rfl, SqL.of eD, atI_nat (j := 0) rfl, p, _, _, rfl, rfl, ep3, ?_, ?_⟩
        · rw [List.length_map]
          exact Nat.lt_of_le_of_lt (m := 25) (by omega) (by decide)
        · have SG3 : StAt G3 st cl lf rm a1 := (SG1.same s2).same s3
          refine ⟨zs ++ [y], a1, _, _, _, rfl, by simp [lz], ?_, ?_, ?_, SG3.put ap.1 ap.2.1 ap.2.2, by omega, by omega, ?_⟩
          · rw [List.nodup_append]
            exact ⟨nz, by simp, fun x hx y' hy' e => hyn (by rw [List.mem_singleton] at hy'; rw [← hy', ← e]; exact hx)⟩
          · rw [List.all_append, oz]
            simp [hyo]
          · rw [upd_same, List.map_append]
            rfl
          · intro b o e nb
            rw [upd_ne (ne_of_none e np)]
            exact s3 _ _ (s2 _ _ (kG1 _ _ (kG _ _ e nb) nb))
    · rintro _ G ⟨zs, a', v3, v4, v5, rfl, lz, nz, oz, ep, SG, g1, g2, kG⟩
      exact ⟨_, rfl, q p zs a' G (by omega) nz oz np ep SG g1 (by omega) kG⟩
end
end Sw
namespace Sw
open PySem L2 PySem.Spec PyProof.Rows
section
variable {X : Cx}
/-- a tuple that is known to the object and has no dict of its own -/
def TupX (K : PySem.W.Frag) (H : Hp) (a : Addr) (xs : List V) : Prop :=
  (∃ o : Obj, H a = some (.frz o (.tup xs)) ∧ o.dict = none) ∨ (xs = [] ∧ ∃ (o : Obj) (n : Nat), K.lookup a = some o ∧ o.cls = .type "tuple" ∧ o.dict = none ∧ o.data = .seq #[] n)
theorem TupX.seq {K : PySem.W.Frag} {H : Hp} {a : Addr} {xs : List V} (h : TupX K H a xs) : SqT K H a xs := by
  rcases h with ⟨o, e, _⟩ | ⟨rfl, o, n, e1, e2, _, e4⟩
  · exact .inl (.inr ⟨o, e⟩)
  · exact .inr ⟨o, #[], n, e1, e2, e4, Nat.zero_le _, .nil⟩
/-- tuple(l) of a list -/
theorem call_tupleZ : CallR X (.type "tuple") (fun xs H Q => ∃ p ys, xs = [.ref p] ∧ SqL X.K H p ys ∧ ∀ (l : Addr) (o : Obj), H l = none → o.dict = none → Q (.ref l) (upd H l (.frz o (.tup ys)))) := by
  intro pins s σ H xs us Q I r h
  obtain ⟨p, ys, rfl, hq, q⟩ := h
  obtain ⟨u, rfl, rx⟩ := vals1 r
  cases rx
  obtain ⟨its, r', pl, hz⟩ := I.list hq
  have hlen := r'.length
  refine call_tuple_list pl.isList (fun h' kp => ?_) (by simp only [List.size_toArray] <;> omega)
  have I1 : Inv X pins σ H { s with heap := h' } := I.kept (t' := s.toks) kp
  have I2 : Inv X pins σ (upd H h'.objs.size (.frz { cls := .type "tuple", data := .seq its.toArray } (.tup ys))) { s with heap := h'.push { cls := .type "tuple", data := .seq its.toArray } } :=
    I1.laid (t' := s.toks) (fun b o e => Heap.get?_push_of_some _ e) (Nat.le_refl _) ⟨Heap.get?_push_size _ rfl, hz, its, r', IsTup.new _ _⟩
  exact ⟨.ref h'.objs.size, _, I2, rfl, q _ _ (I1.hok.fresh (Nat.le_refl _)) rfl⟩
theorem raws_of {pins : List (Addr × Obj)} {σ : L2.St} {H : Hp} {s : Shared} (I : Inv X pins σ H s) : ∀ {ps : List Addr} {kvs : List (Key × V)}, Paired (fun p kv => SqT X.K H p [kV kv.1, kv.2]) ps kvs →
    ∃ (prs : List (Key × Value)) (raws : List (Value × Value)), KV kvs prs ∧ prs.length = ps.length ∧ raws.length = ps.length ∧
      ∀ (j : Nat) (u v : Value), raws[j]? = some (u, v) → ∃ (b : Addr) (k : Key), ps[j]? = some b ∧ IsTup s.heap b #[u, v] ∧ prs[j]? = some (k, v) ∧ keyIs k u = true
  | _, _, .nil => ⟨[], [], .nil, rfl, rfl, fun j u v e => by simp at e⟩
  | _, _, .cons (a := p) (b := kv) h t => by
    obtain ⟨prs, raws, r, hl, hl2, hp⟩ := raws_of I t
    obtain ⟨its, rv, ht, _⟩ := I.tuple h
    obtain ⟨u, y, ei, ru, ry⟩ := vals2 rv
    subst ei
    refine ⟨(kv.1, y) :: prs, (u, y) :: raws, .cons ⟨rfl, ry⟩ r, by rw [List.length_cons, List.length_cons, hl], by rw [List.length_cons, List.length_cons, hl2], fun j u' v' e => ?_⟩
    cases j with
    | zero =>
      have e' : (u, y) = (u', v') := Option.some.inj e
      cases e'
      exact ⟨p, kv.1, rfl, ht, rfl, kV_is (P := X.prog) (w := X.w) ru⟩
    | succ j =>
      obtain ⟨b, k, e1, e2, e3, e4⟩ := hp j u' v' (by simpa using e)
      exact ⟨b, k, by simpa using e1, e2, by simpa using e3, e4⟩
/-- dict(t) of a tuple of pairs -/
theorem call_dictT (hcalm : X.calm = true) : CallR X (.type "dict") (fun xs H Q => ∃ (a : Addr) (ps : List Addr) (kvs : List (Key × V)), xs = [.ref a] ∧ TupX X.K H a (ps.map V.ref) ∧ Paired (fun p kv => SqT X.K H p [kV kv.1, kv.2]) ps kvs ∧
    ∀ p, H p = none → Q (.ref p) (upd H p (.dK (mergeK [] kvs)))) := by
  intro pins s σ H xs us Q I r q
  obtain ⟨a, ps, kvs, rfl, ht, hp, q⟩ := q
  obtain ⟨u, rfl, rx⟩ := vals1 r
  cases rx
  obtain ⟨prs, raws, rel, hl, hl2, hpr⟩ := raws_of I hp
  obtain ⟨its, rv, pl, hz⟩ := I.tuple ht.seq
  have ei := refs_at rv
  subst ei
  rw [List.length_map] at hz
  have ex : PlainSeq "tuple" s.heap a (ps.map Value.ref).toArray := by
    rcases ht with ⟨o, e, hd⟩ | ⟨e0, o, n, e1, e2, e3, e4⟩
    · obtain ⟨ho, _⟩ := I.hok a _ e
      obtain ⟨o', ho', hc, n, hdat⟩ := pl
      rw [ho] at ho'
      cases ho'
      exact ⟨o, n, ho, hc, hd, hdat⟩
    · have e5 : ps = [] := by simpa using e0
      subst e5
      exact ⟨o, n, I.kIn _ _ e1, e2, e3, e4⟩
  refine PySem.call_dict_pairs (knd := mixKind X.prog X.w) (kvs := prs) (PairArg.tuple a (ps.map Value.ref).toArray (fun j => ps.getD j 0) raws) (I.ok.hd hcalm) ⟨ex, ?_, fun j k v e => ?_⟩ ⟨?_, fun i key v e => ?_⟩ ?_ fun h' tk hd' k => ?_
  · rw [List.size_toArray, List.length_map, hl2]
  · obtain ⟨b, k', e1, e2, e3, e4⟩ := hpr j k v e
    refine ⟨by simp [e1], .inl ?_⟩
    have : ps.getD j 0 = b := by simp [List.getD, e1]
    show s.heap.IsTuple (ps.getD j 0) #[k, v]
    rw [this]
    exact e2
  · rw [hl, hl2]
  · obtain ⟨b, k', e1, e2, e3, e4⟩ := hpr i key v e
    exact ⟨k', e3, e4⟩
  · rw [hl2]; exact hz
  · have hm : (s.heap.objs.size == sysModules) = false := beq_eq_false_iff_ne.mpr (Nat.ne_of_gt I.big)
    have hlen : (mergeK [] kvs).length ≤ sizeLine := by
      refine Nat.le_trans (length_mergeK kvs []) ?_
      rw [List.length_nil, Nat.zero_add, rel.length, hl]
      exact hz
    exact ⟨.ref s.heap.objs.size, upd H s.heap.objs.size (.dK (mergeK [] kvs)), I.laid (t' := tk) (fun b o e => k b o (by simp) e) (Nat.le_refl _) (show ObjOk X.prog X.w _ _ _ (.dK (mergeK [] kvs)) from ⟨hlen, hm, merged [] prs, KV.merge rel .nil, hd'⟩), rfl, q _ (I.hok.fresh (Nat.le_refl _))⟩
end
end Sw
namespace Sw
open PySem L2 PySem.Spec PyProof.Rows
section
variable {X : Cx} {CX : CXT} {k : Nat} {f C : Addr} {fd : FuncData} {ps : List Str} {sp : Sp} {E : XK}
/-- a def that is called from within the machine, below this body -/
theorem run_at {A' : Around} {pins : List (Addr × Obj)} {σ : L2.St} {H : Hp} {s : Shared} {Q : VK} {us : List Value} {vs : List V} (F : FnOk X.prog X.w X.K X.mg X.base CX k f fd ps sp) (hr : Room k A') (hf : A'.frames = X.A.frames) (hb : L2.Binds X.K fd ps []) (hx : Passes CX X E)
    (I : Inv X pins σ H s) (r : Vals vs us) (h : sp vs H Q E) : wpAny (model X.prog X.w) A' (call (.ref f) us) (EP X pins σ Q) X.xe s := by
  have hl : (us ++ []).length = ps.length := by rw [List.append_nil, ← r.length]; exact F.len _ _ _ _ h
  have e := I.env0
  have e0 : Env0 X.prog X.w X.K X.mg X.base A' X.stack s H := ⟨by rw [hf]; exact e.frames, e.mod, e.bs, e.bsz, e.funs, e.frf, e.hok, e.bare⟩
  have bb := hb s us I.kIn hl
  rw [List.append_nil] at bb
  refine wpAny_call (codeAny_mono (F.run A' X.stack s H ⟨us, []⟩ us vs Q E hr e0 bb r h) fun r s' hq => ?_)
  cases r with
  | error e => exact hx pins σ H s e s' I hq
  | ok fl =>
    cases fl with
    | ret u => exact I.after hq
    | next => exact False.elim hq
    | brk => exact False.elim hq
    | cont => exact False.elim hq
/-- an instance of the class at C -/
theorem inst_at {pins : List (Addr × Obj)} {σ : L2.St} {H : Hp} {s : Shared} {a dx : Addr} {fs : List (Str × V)} (I : Inv X pins σ H s) (e : H a = some (.ins C dx fs)) : ∃ ox od, PySem.W.InstAt s.heap a ox C od := by
  obtain ⟨mA, O, _⟩ := ins_get I.hok e
  obtain ⟨od, J, _⟩ := O.look
  exact ⟨_, _, J⟩
/-- x == y by the own __eq__ -/
def rOwnEq (K : PySem.W.Frag) (C : Addr) (sp : Sp) (E : XK) : R2 := fun x y H Q => ∃ (a dx : Addr) (fs : List (Str × V)) (tb : Value), x = .ref a ∧ H a = some (.ins C dx fs) ∧ TyX K H y tb ∧ PySem.W.notFirst K C tb = true ∧ sp [x, y] H (fun v H' => ∃ b, v = .bl b ∧ Q (.bl b) H') E
theorem op_eqOwn (F : FnOk X.prog X.w X.K X.mg X.base CX k f fd ps sp) (m : Meth X.K C "__eq__" f) (hr : Room k X.A) (hb : L2.Binds X.K fd ps []) (hx : Passes CX X E) : OpR X (compareOp .Eq) (rOwnEq X.K C sp E) := by
  intro pins s σ H x y v u Q I rx ry h
  obtain ⟨a, dx, fs, tb, rfl, ea, ty, nf, h⟩ := h
  cases rx
  obtain ⟨ox, od, J⟩ := inst_at I ea
  obtain ⟨P, Z, p, _⟩ := kit_of I ry ty
  obtain ⟨mm, hF⟩ := I.fr
  show wpAny (model X.prog X.w) X.A (richCompare .Eq (.ref a) u) _ _ _
  refine PySem.W.cmp_K (op := .Eq) (tb := tb) hr.units0 hF I.ok.mod.kin J (Z.ty _ _ I.kIn p) nf m.at_ m.fn ?_
  refine wpAny_mono (run_at (vs := [.ref a, y]) F hr rfl hb hx I (.cons (show L2.RelV (.ref a) (.ref a) from rfl) (.cons ry .nil)) h) (fun w s' z => ?_) fun _ _ z => z
  obtain ⟨v', H', I', r', b, rfl, q⟩ := z
  cases r'
  exact ⟨.bl b, H', I', rfl, q⟩
/-- object.__ne__ of an instance with its own __eq__ -/
theorem ne_call {K : PySem.W.Frag} {prog : Program} {w : World} {A : Around} {E : Value → Shared → Prop} {s : Shared} {Q : Value → Shared → Prop} {a : Addr} {u : Value} {ox : Obj} {od : Option Obj} (KX : K.In s.heap) (J : PySem.W.InstAt s.heap a ox C od)
    (he : PySem.W.findIn K (.ref C) "__eq__" = some (some (.ref f))) (hf : PySem.W.isFn K (.ref f) = true) (inst : PySem.W.Looks (model prog w) s.heap (isInstance (.ref a) (.type "object")) true) (hu : A.units + 1 < cLine)
    (h : wpAny (model prog w) A.in1 (call (.ref f) [.ref a, u]) (fun v s' => ∃ r, v = .bool r ∧ Q (.bool (!r)) s') E s) :
    wpAny (model prog w) A (call (.builtin "object.__ne__") [.ref a, u]) Q E s := by
  refine wpAny_call (codeAny_call_builtin PySem.F.cmp_object.ne.plain PySem.F.cmpEntry_ne (@PySem.W.check_slot (model prog w) _ _ s "object.__ne__" "object" "__ne__" (.ref a) [u] [] _ PySem.F.cmpKind_ne PySem.F.cmpSplit_ne inst (PySem.F.cmpArgs_ne _ _) ?_))
  have hu1 : A.in1.units < cLine := hu
  unfold Builtin.«object.__ne__»
  refine wpAny_bind (wpAny_of_eq (a := ((Value.ref a : Value), [u])) (by first | rfl | (simp only [slotArgs]; rfl)) ?_)
  refine wpAny_bind (wpAny_cRoomFor hu1 ?_)
  refine wpAny_bind (PySem.W.ifBound_K KX J he hf (wpAny_mono h (fun v s' hv => ?_) fun _ _ z => z))
  obtain ⟨r, rfl, q⟩ := hv
  show wpAny _ _ (truthy (.bool r) >>= _) _ _ _
  refine wpAny_bind (wpAny_truthy_bool ?_)
  exact wpAny_pure q
theorem ne_own {K : PySem.W.Frag} {prog : Program} {w : World} {A : Around} {E : Value → Shared → Prop} {s : Shared} {Q : Value → Shared → Prop} {a : Addr} {u tb : Value} {ox : Obj} {od : Option Obj} (KX : K.In s.heap) (J : PySem.W.InstAt s.heap a ox C od)
    (hn : PySem.W.findIn K (.ref C) "__ne__" = some (some (.builtin "object.__ne__"))) (hb : PySem.W.Looks (model prog w) s.heap (typeOf u) tb) (nf : PySem.W.notFirst K C tb = true)
    (he : PySem.W.findIn K (.ref C) "__eq__" = some (some (.ref f))) (hf : PySem.W.isFn K (.ref f) = true) (inst : PySem.W.Looks (model prog w) s.heap (isInstance (.ref a) (.type "object")) true) (hu : A.units + 1 < cLine)
    (h : wpAny (model prog w) A.in1 (call (.ref f) [.ref a, u]) (fun v s' => ∃ r, v = .bool r ∧ Q (.bool (!r)) s') E s) :
    wpAny (model prog w) A (richCompare .NotEq (.ref a) u) Q E s := by
  have one : wpAny (model prog w) A (tryCompare (.ref a) "__ne__" u) (fun r s' => ∃ v, r = some v ∧ Q v s') E s := by
    unfold tryCompare
    refine wpAny_bind ?_
    simp only [callSpecialIfBound?, bindSpecialIfBound?]
    refine wpAny_holding (wpAny_bind (wpAny_bind (wpAny_bind (J.type.here ((PySem.W.looks_findIn KX hn).here ?_)))))
    refine wpAny_bind (wpAny_askSetting (wpAny_ite ?_))
    have b1 := PySem.F.cmp_object.ne.bind (.ref a)
    have fin : wpAny (model prog w) A (call (.builtin "object.__ne__") ([.ref a] ++ [u]) >>= fun v => pure (some v)) (fun r s' => wpAny (model prog w) A (match r with | some .notImplemented | none => pure none | some v => pure (some v)) (fun r s' => ∃ v, r = some v ∧ Q v s') E s') E s := by
      refine wpAny_bind (ne_call KX J he hf inst hu (wpAny_mono h (fun v s' hv => ?_) fun _ _ z => z))
      obtain ⟨r, rfl, q⟩ := hv
      exact ⟨r, rfl, wpAny_pure (wpAny_pure ⟨_, rfl, q⟩)⟩
    split
    · rw [b1]
      exact wpAny_bind (wpAny_pure (wpAny_pure (by exact fin)))
    · rw [b1]
      exact wpAny_tryCatch (wpAny_bind (wpAny_pure (wpAny_pure (by exact fin))))
  have hu0 : A.units < cLine := Nat.lt_of_succ_lt hu
  unfold richCompare
  simp only [oneThing_ref, cmpInfo_NotEq]
  refine wpAny_holding (wpAny_bind (wpAny_cRoomFor hu0 ?_))
  refine wpAny_bind (J.type.here (wpAny_bind (hb.here ?_)))
  split
  · rename_i q
    have e : PySem.W.subIn K tb (.ref C) = some false := by
      rcases Bool.or_eq_true_iff.mp nf with e | e
      · rw [beq_iff_eq.mp e] at q; simp at q
      · exact beq_iff_eq.mp e
    refine wpAny_bind ((PySem.W.looks_subIn KX e).here ?_)
    simp only [Bool.false_eq_true, if_false]
    refine wpAny_bind (wpAny_mono one (fun r s' z => ?_) fun _ _ e => e)
    obtain ⟨v, rfl, hq⟩ := z
    exact wpAny_pure hq
  · refine wpAny_bind (wpAny_pure ?_)
    simp only [Bool.false_eq_true, if_false]
    refine wpAny_bind (wpAny_mono one (fun r s' z => ?_) fun _ _ e => e)
    obtain ⟨v, rfl, hq⟩ := z
    exact wpAny_pure hq
/-- x != y by the own __eq__ -/
def rOwnNe (K : PySem.W.Frag) (C : Addr) (sp : Sp) (E : XK) : R2 := fun x y H Q => ∃ (a dx : Addr) (fs : List (Str × V)) (tb : Value), x = .ref a ∧ H a = some (.ins C dx fs) ∧ TyX K H y tb ∧ PySem.W.notFirst K C tb = true ∧ sp [x, y] H (fun v H' => ∃ b, v = .bl b ∧ Q (.bl (!b)) H') E
theorem op_neOwn {k : Nat} {fd : FuncData} (F : FnOk X.prog X.w X.K X.mg X.base CX k f fd ps sp) (m : Meth X.K C "__eq__" f) (hn : PySem.W.findIn X.K (.ref C) "__ne__" = some (some (.builtin "object.__ne__"))) (ho : PySem.W.subIn X.K (.ref C) (.type "object") = some true) (hr : Room (k + 1) X.A) (hb : L2.Binds X.K fd ps []) (hx : Passes CX X E) :
    OpR X (compareOp .NotEq) (rOwnNe X.K C sp E) := by
  intro pins s σ H x y v u Q I rx ry h
  obtain ⟨a, dx, fs, tb, rfl, ea, ty, nf, h⟩ := h
  cases rx
  obtain ⟨ox, od, J⟩ := inst_at I ea
  obtain ⟨P, Z, p, _⟩ := kit_of I ry ty
  have KX := I.kIn
  show wpAny (model X.prog X.w) X.A (richCompare .NotEq (.ref a) u) _ _ _
  refine ne_own KX J hn (Z.ty _ _ KX p) nf m.at_ m.fn (J.type.andThen (PySem.W.looks_subIn KX ho)) (by have := hr.units; omega) ?_
  refine wpAny_mono (run_at (A' := X.A.in1) (vs := [.ref a, y]) F hr.in1 rfl hb hx I (.cons (show L2.RelV (.ref a) (.ref a) from rfl) (.cons ry .nil)) h) (fun w s' z => ?_) fun _ _ z => z
  obtain ⟨v', H', I', r', b, rfl, q⟩ := z
  cases r'
  exact ⟨b, rfl, .bl (!b), H', I', rfl, q⟩
end
end Sw
namespace Sw
open PySem L2 PySem.Spec PyProof.Rows
section
variable {X : Cx} {CX : CXT} {k : Nat} {f C : Addr} {fd : FuncData} {ps : List Str} {sp : Sp} {E : XK}
/-- y in x, y not in x by the own __contains__ -/
def rOwnIn (C : Addr) (sp : Sp) (E : XK) (neg : Bool) : R2 := fun y x H Q => ∃ (a dx : Addr) (fs : List (Str × V)), x = .ref a ∧ H a = some (.ins C dx fs) ∧ sp [x, y] H (fun v H' => ∃ b, v = .bl b ∧ Q (.bl (if neg then !b else b)) H') E
theorem op_inOwn (F : FnOk X.prog X.w X.K X.mg X.base CX k f fd ps sp) (m : Meth X.K C "__contains__" f) (hr : Room k X.A) (hb : L2.Binds X.K fd ps []) (hx : Passes CX X E) : OpR X (compareOp .In) (rOwnIn C sp E false) := by
  intro pins s σ H y x v u Q I ry rx h
  obtain ⟨a, dx, fs, rfl, ea, h⟩ := h
  cases rx
  obtain ⟨ox, od, J⟩ := inst_at I ea
  obtain ⟨mm, hF⟩ := I.fr
  refine PySem.W.in_K hF I.ok.mod.kin J m.at_ m.fn ?_
  refine wpAny_mono (run_at (vs := [.ref a, y]) F hr rfl hb hx I (.cons (show L2.RelV (.ref a) (.ref a) from rfl) (.cons ry .nil)) h) (fun w s' z => ?_) fun _ _ z => z
  obtain ⟨v', H', I', r', b, rfl, q⟩ := z
  cases r'
  exact wpAny_truthy_bool ⟨.bl b, H', I', rfl, q⟩
theorem op_notinOwn (F : FnOk X.prog X.w X.K X.mg X.base CX k f fd ps sp) (m : Meth X.K C "__contains__" f) (hr : Room k X.A) (hb : L2.Binds X.K fd ps []) (hx : Passes CX X E) : OpR X (compareOp .NotIn) (rOwnIn C sp E true) := by
  intro pins s σ H y x v u Q I ry rx h
  obtain ⟨a, dx, fs, rfl, ea, h⟩ := h
  cases rx
  obtain ⟨ox, od, J⟩ := inst_at I ea
  obtain ⟨mm, hF⟩ := I.fr
  refine PySem.W.notIn_K hF I.ok.mod.kin J m.at_ m.fn ?_
  refine wpAny_mono (run_at (vs := [.ref a, y]) F hr rfl hb hx I (.cons (show L2.RelV (.ref a) (.ref a) from rfl) (.cons ry .nil)) h) (fun w s' z => ?_) fun _ _ z => z
  obtain ⟨v', H', I', r', b, rfl, q⟩ := z
  cases r'
  exact wpAny_truthy_bool ⟨.bl (!b), H', I', rfl, q⟩
/-- x[y] by the own __getitem__ -/
def rOwnIx (C : Addr) (sp : Sp) (E : XK) : R2 := fun x y H Q => ∃ (a dx : Addr) (fs : List (Str × V)), x = .ref a ∧ H a = some (.ins C dx fs) ∧ sp [x, y] H Q E
theorem pe_ixOwn {e i : Expr} {te ti : TE} {pos : Pos} (F : FnOk X.prog X.w X.K X.mg X.base CX k f fd ps sp) (m : Meth X.K C "__getitem__" f) (hfi : PySem.W.fnIn X.K f = true) (hr : Room (k + 1) X.A) (hb : L2.Binds X.K fd ps []) (hx : Passes CX X E) (he : PE X e te) (hi : PE X i ti)
    (hs : ∀ v u : Value, subscripted i true v u = runValue (.builtin "lifetime.subscript" ⟨[v, u], []⟩)) : PE X (.Subscript e i pos) (tOp (rOwnIx C sp E) te ti) := by
  refine ⟨fun pins s σ H Q I h => ?_⟩
  refine Subscript_ (binT he hi I h fun v u s2 x y H2 I2 rx ry q => ?_)
  obtain ⟨a, dx, fs, rfl, ea, q⟩ := q
  cases rx
  obtain ⟨ox, od, J⟩ := inst_at I2 ea
  obtain ⟨mm, hF⟩ := I2.fr
  refine PySem.W.sub_K hF I2.ok.mod.kin J m.at_ hfi m.fn ?_ (hs _ _)
  exact run_at (A' := X.A.in1) (vs := [.ref a, y]) F hr.in1 rfl hb hx I2 (.cons (show L2.RelV (.ref a) (.ref a) from rfl) (.cons ry .nil)) q
/-- x[y] = z by the own __setitem__ -/
def rOwnSet (C : Addr) (sp : Sp) (E : XK) : TSet := fun x y z H Q => ∃ (a dx : Addr) (fs : List (Str × V)), x = .ref a ∧ H a = some (.ins C dx fs) ∧ sp [x, y, z] H (fun _ H' => Q H') E
theorem set_own (F : FnOk X.prog X.w X.K X.mg X.base CX k f fd ps sp) (m : Meth X.K C "__setitem__" f) (hq : PySem.W.noSeq X.K C = true) (hr : Room k X.A) (hb : L2.Binds X.K fd ps []) (hx : Passes CX X E) : PSet X (rOwnSet C sp E) := by
  intro pins s σ H x y z xv yv zv Q I rx ry rz h
  obtain ⟨a, dx, fs, rfl, ea, h⟩ := h
  cases rx
  obtain ⟨ox, od, J⟩ := inst_at I ea
  obtain ⟨mm, hF⟩ := I.fr
  refine PySem.W.ksp_setItem hF I.ok.mod.kin J hq m.at_ m.fn ?_
  refine wpAny_mono (run_at (vs := [.ref a, y, z]) F hr rfl hb hx I (.cons (show L2.RelV (.ref a) (.ref a) from rfl) (.cons ry (.cons rz .nil))) h) (fun w s' q => ?_) fun _ _ z => z
  obtain ⟨v', H', I', r', q⟩ := q
  exact ⟨H', I', q⟩
/-- len(x) by the own __len__ -/
def rOwnLen (C : Addr) (sp : Sp) (E : XK) : List V → Hp → VK → Prop := fun xs H Q => ∃ (a dx : Addr) (fs : List (Str × V)), xs = [.ref a] ∧ H a = some (.ins C dx fs) ∧ sp [.ref a] H (fun v H' => ∃ n : Int, v = .int n ∧ 0 ≤ n ∧ n < 2 ^ 63 ∧ Q (.int n) H') E
theorem call_lenOwn (F : FnOk X.prog X.w X.K X.mg X.base CX k f fd ps sp) (m : Meth X.K C "__len__" f) (hr : Room (k + 1) X.A) (hb : L2.Binds X.K fd ps []) (hx : Passes CX X E) : CallR X (.builtin "len") (rOwnLen C sp E) := by
  intro pins s σ H xs us Q I r h
  obtain ⟨a, dx, fs, rfl, ea, h⟩ := h
  obtain ⟨u, rfl, rx⟩ := vals1 r
  cases rx
  obtain ⟨ox, od, J⟩ := inst_at I ea
  obtain ⟨mm, hF⟩ := I.fr
  refine PySem.W.len_K hF I.ok.mod.kin J m.at_ m.fn ?_
  refine wpAny_mono (run_at (A' := X.A.in1) (vs := [.ref a]) F hr.in1 rfl hb hx I (.cons (show L2.RelV (.ref a) (.ref a) from rfl) .nil) h) (fun w s' z => ?_) fun _ _ z => z
  obtain ⟨v', H', I', r', n, rfl, n0, n1, q⟩ := z
  obtain ⟨t, rfl⟩ := r'
  exact ⟨⟨n0, n1⟩, .int n, H', I'.tok _, ⟨_, rfl⟩, q⟩
/-- d == e, d != e of dicts of flat values -/
def hitV (ls : List (Key × V)) (p : Key × V) : Bool := match valV ls p.1 with | some v => eqV p.2 v | none => false
def sameK (ks ls : List (Key × V)) : Bool := ks.length == ls.length && ks.all (hitV ls)
theorem hits_flat {A : Around} {s : Shared} {ls : List (Key × V)} {vb : List (Key × Value)} (rb : KV ls vb) (fl : ∀ k v, valV ls k = some v → flatV v = true) {ks : List (Key × V)} {va : List (Key × Value)} (ra : KV ks va) :
    (∀ p ∈ ks, flatV p.2 = true) → PySem.W.KeqHits A s vb va (ks.all (hitV ls)) := by
  unfold KV at ra
  induction ra with
  | nil => intro _; exact .nil
  | @cons p q ps qs h t ih =>
    intro hp
    obtain ⟨h1, h2⟩ := h
    have f := hp p List.mem_cons_self
    have ih := ih fun p' hm => hp p' (List.mem_cons_of_mem _ hm)
    obtain ⟨k, v⟩ := q
    have h1' : p.1 = k := h1
    rw [List.all_cons]
    have rr := rb.val p.1
    cases e : valV ls p.1 with
    | none =>
      rw [e] at rr
      have hn : valueAt vb k = none := by rw [← h1']; exact RelO.none_of rr
      have z : hitV ls p = false := by unfold hitV; rw [e]
      rw [z, Bool.false_and]
      exact .miss hn
    | some y =>
      rw [e] at rr
      obtain ⟨y', hy, ry⟩ := rr.some_of
      rw [h1'] at hy
      have z : hitV ls p = eqV p.2 y := by unfold hitV; rw [e]
      rw [z]
      exact .hit hy (eqAt_V h2 ry f (fl _ _ e)) ih
def rDictC (neg : Bool) : R2 := fun x y H Q => ∃ a b ks ls, x = .ref a ∧ y = .ref b ∧ H a = some (.dK ks) ∧ H b = some (.dK ls) ∧ (∀ p ∈ ks, flatV p.2 = true) ∧ (∀ p ∈ ls, flatV p.2 = true) ∧ Q (.bl (if neg then !sameK ks ls else sameK ks ls)) H
theorem flat_val {ls : List (Key × V)} (h : ∀ p ∈ ls, flatV p.2 = true) : ∀ k v, valV ls k = some v → flatV v = true := fun k v e => by
  unfold valV at e
  obtain ⟨p, hp, rfl⟩ := Option.map_eq_some_iff.mp e
  exact h p (List.mem_of_find?_eq_some hp)
theorem op_eqDc (hu : X.A.units < cLine) : OpR X (compareOp .Eq) (rDictC false) := by
  intro pins s σ H x y v u Q I rx ry h
  obtain ⟨a, b, ks, ls, rfl, rfl, ea, eb, fa, fb, q⟩ := h
  obtain rfl : v = Value.ref a := rx
  obtain rfl : u = Value.ref b := ry
  obtain ⟨_, ya, va, ra, da⟩ := (show ObjOk X.prog X.w H s.heap a (.dK ks) from I.hok a _ ea)
  obtain ⟨_, yb, vb, rb, db⟩ := (show ObjOk X.prog X.w H s.heap b (.dK ls) from I.hok b _ eb)
  have h1 : ks.length = va.length := ra.length
  have h2 : ls.length = vb.length := rb.length
  exact PySem.W.keq_eq (knd := mixKind X.prog X.w) (r := ks.all (hitV ls)) ya yb da db hu (fun _ => hits_flat rb (flat_val fb) ra fa) (fin_bl I q (by show sameK ks ls = _; unfold sameK; rw [h1, h2]))
theorem op_neDc (hu : X.A.units < cLine) : OpR X (compareOp .NotEq) (rDictC true) := by
  intro pins s σ H x y v u Q I rx ry h
  obtain ⟨a, b, ks, ls, rfl, rfl, ea, eb, fa, fb, q⟩ := h
  obtain rfl : v = Value.ref a := rx
  obtain rfl : u = Value.ref b := ry
  obtain ⟨_, ya, va, ra, da⟩ := (show ObjOk X.prog X.w H s.heap a (.dK ks) from I.hok a _ ea)
  obtain ⟨_, yb, vb, rb, db⟩ := (show ObjOk X.prog X.w H s.heap b (.dK ls) from I.hok b _ eb)
  have h1 : ks.length = va.length := ra.length
  have h2 : ls.length = vb.length := rb.length
  exact PySem.W.keq_ne (knd := mixKind X.prog X.w) (r := ks.all (hitV ls)) ya yb da db hu (fun _ => hits_flat rb (flat_val fb) ra fa) (fin_bl I q (by show (!sameK ks ls) = _; unfold sameK; rw [h1, h2]))
/-- repr(x) of data, where no repr is under way -/
def rRepr (K : PySem.W.Frag) : List V → Hp → VK → Prop := fun xs H Q => ∃ (x : V) (d : PyData), xs = [x] ∧ Dp K H x d ∧ d.showable = true ∧ d.hasDict = false ∧ d.depth ≤ 60 ∧ d.shown.length ≤ sizeLine ∧ Q (.str d.shown) H
theorem call_reprG (hg : X.A.guards = some []) (hu : X.A.units + 64 < cLine) : CallR X (.builtin "repr") (rRepr X.K) := by
  intro pins s σ H xs us Q I r h
  obtain ⟨x, d, rfl, hd, hs, hn, hdp, hz, q⟩ := h
  obtain ⟨u, rfl, rx⟩ := vals1 r
  obtain ⟨as, rd⟩ := Dp.reads I d x u hd rx
  cases hd with
  | non =>
    cases rx
    exact PySem.P.repr_of_none ⟨.str _, H, I.tok _, ⟨_, rfl⟩, by simpa only [PyData.shown] using q⟩
  | bl b =>
    cases rx
    exact PySem.P.repr_of_bool ⟨.str _, H, I.tok _, ⟨_, rfl⟩, by simpa only [PyData.shown] using q⟩
  | int i =>
    obtain ⟨t, rfl⟩ := rx
    exact PySem.P.repr_of_int (by simpa [PyData.showable] using hs) ⟨.str _, H, I.tok _, ⟨_, rfl⟩, by simpa only [PyData.shown] using q⟩
  | str z =>
    obtain ⟨t, rfl⟩ := rx
    exact PySem.P.repr_of_str ⟨.str _, H, I.tok _, ⟨_, rfl⟩, by simpa only [PyData.shown] using q⟩ (by simpa only [PyData.shown] using hz)
  | lst hq ha =>
    cases rx
    exact repr_of_reads' rd hs (by rw [hn]; intro z; cases z) hg (by omega) (fun _ _ e => e) (fun h' u tk kp => ⟨.str _, H, I.kept (t' := tk) kp, ⟨u, rfl⟩, q⟩) hz
  | tup hq ha =>
    cases rx
    exact repr_of_reads' rd hs (by rw [hn]; intro z; cases z) hg (by omega) (fun _ _ e => e) (fun h' u tk kp => ⟨.str _, H, I.kept (t' := tk) kp, ⟨u, rfl⟩, q⟩) hz
end
end Sw
namespace Sw
open PySem L2 PySem.Spec PyProof.Rows
/-- a def's promise where no repr is under way -/
structure FnOkG (P : Program) (w : World) (K : PySem.W.Frag) (mg : Str → Option Value) (base : Heap) (CX : CXT) (k : Nat) (f : Addr) (fd : FuncData) (ps : List Str) (sp : Sp) : Prop where
  len : ∀ vs H Q E, sp vs H Q E → vs.length = ps.length
  run : ∀ (A : Around) (outer : List Env) (s : Shared) (H : Hp) (args : Args) (us : List Value) (vs : List V) (Q : VK) (E : XK), Room k A → A.guards = some [] → Env0 P w K mg base A outer s H → BindsTo s fd args (ps.zip us) → Vals vs us → sp vs H Q E →
    codeAny (model P w) A (.call (.ref f) args) (CR CX outer P w H s Q E) s
section
variable {P : Program} {w : World} {K : PySem.W.Frag} {mg : Str → Option Value} {base : Heap}
theorem okG {x qual : Str} {st : Stmt} {f : Addr} {fd : FuncData} {N ps : List Str} {k : Nat} {sp : Sp} (F : Fun K x qual st f fd) (S : FnScope N ps (defScope st)) (len : ∀ vs H Q E, sp vs H Q E → vs.length = ps.length)
    (hbody : ∀ (cdv : Value) (A : Around) (outer : List Env) (s : Shared) (H : Hp) (vs : List V) (Q : VK) (E : XK), PySem.W.codeIn K cdv qual = true → fd.code = cdv → Room k (A.deeper (envOfC qual (defScope st) s.heap.objs.size f cdv)) → (A.deeper (envOfC qual (defScope st) s.heap.objs.size f cdv)).guards = some [] → sp vs H Q E →
      ∃ t, PSs (cxOf CX0 P w K mg base N qual (defScope st) f cdv A outer s H E).nox (defBody st) t ∧ t { nx := fun _ H' => Q .non H', rt := Q } (L2.start N vs) H) : FnOkG P w K mg base CX0 (k + 1) f fd ps sp := by
  obtain ⟨oc, od, kV, doc, pm, an, cdv, ct, osl, rfl, lk, hcd⟩ := F.ex
  refine ⟨len, fun A outer s H args us vs Q E hr hg e0 hb r hsp => LamX.run_ofS lk hcd S hr e0 hb r (len _ _ _ _ hsp) fun hr' => ?_⟩
  obtain ⟨t, h, q⟩ := hbody cdv A outer s H vs Q E hcd rfl hr' hg hsp
  exact ⟨t, h.nox, q⟩
end
section
variable {X : Cx} {CX : CXT} {k : Nat} {f : Addr} {fd : FuncData} {ps : List Str} {sp : Sp} {E : XK} {x : Str} {p pos : Pos} {e : Expr} {es : List Expr} {t : TA}
theorem pe_callG (F : FnOkG X.prog X.w X.K X.mg X.base CX k f fd ps sp) (hr : Room k X.A) (hgd : X.A.guards = some []) (hg : Gl X x) (hm : X.mg x = some (.ref f)) (hk : PySem.W.keepIn X.K (.ref f) = true) (hb : L2.Binds X.K fd ps []) (hx : Passes CX X E)
    (ha : PA X (e :: es) t) (hdb : (x == ("__debug__" : Str)) = false := by decide) (he : starEach (e :: es) X.env = (false, eval e X.env) :: starEach es X.env := by rfl) (hpl : (backTo pos (starEach es X.env)).any (·.1) = false := by rfl) :
    PE X (.Call (.Name x p) (e :: es) [] pos) (tCall sp [] E t) := by
  refine ⟨fun pins s σ H Q I h => ?_⟩
  refine wpAny_Call_Name_kw (ld_glob I hg hm ?_ hdb)
  refine PySem.W.callWith_K (h₀ := X.base) I.ok.mod.kin hk (thn (ha.run pos pins s σ H _ I h) fun us s1 ⟨vs, H1, I1, r, q⟩ => ⟨I1.kIn, ?_⟩) he hpl
  have q : sp (vs ++ []) H1 Q E := q
  rw [List.append_nil] at q
  have hl : (us ++ []).length = ps.length := by rw [List.append_nil, ← r.length]; exact F.len _ _ _ _ q
  have bb := hb s1 us I1.kIn hl
  rw [List.append_nil] at bb
  show wpAny _ _ (call (.ref f) us) _ _ _
  refine wpAny_call (codeAny_mono (F.run X.A X.stack s1 H1 ⟨us, []⟩ us vs Q E hr hgd I1.env0 bb r q) fun r s' hq => ?_)
  cases r with
  | error e => exact hx pins σ H1 s1 e s' I1 hq
  | ok fl =>
    cases fl with
    | ret u => exact I1.after hq
    | next => exact False.elim hq
    | brk => exact False.elim hq
    | cont => exact False.elim hq
end
end Sw
namespace Sw
open PySem L2 PySem.Spec PyProof.Rows
abbrev rtTail : List Value := [.type "RuntimeError", .type "Exception", .type "BaseException", .type "object"]
/-- what the written part says of an own class straight under RuntimeError -/
structure RtC (K : PySem.W.Frag) (C : Addr) : Prop where
  cls : ∃ nm q N bs sn sub ab col dd k0 k1 k2 k3 k5, K.lookup C = some (excClassObj nm q C N bs rtTail true sn sub ab col dd k0 k1 k2 k3 k5 "RuntimeError.__new__")
  sa : PySem.W.findIn K (.ref C) "__setattr__" = some (some (.builtin "object.__setattr__"))
  exC : PySem.W.subIn K (.ref C) (.type "BaseException") = some true
  tyC : PySem.W.typeIn K (.ref C) = some (.type "type")
  kC : PySem.W.keepIn K (.ref C) = true
section
open Builtin Builtin.ObjectAttr
variable {prog : Program} {w : World} {A : Around} {E : Value → Shared → Prop} {R : Result → Shared → Prop} {hp : Heap} {g : Array GenState} {d : Drawn} {t : Nat} {os : OsState}
theorem rt_contains (X : String) (C : Addr) : (Value.ref C :: rtTail).contains (.type X) = rtTail.contains (.type X) := by
  rw [List.contains_cons]; rfl
/-- the first field of such an exception -/
theorem rt_osa {K : PySem.W.Frag} {name : Str} {tk : Tok} {v : Value} {x C : Addr} {fv : Array Value} {cd : ClassData}
    (X : K.In hp) (hx : hp.get? x = some { cls := .ref C, data := .fields fv }) (hcd : PySem.W.clsIn K C = some cd) (hm : cd.mro = .ref C :: rtTail) (hh : cd.hasDict = true) (ha : PySem.W.findIn K (.ref C) name = some none)
    (hq : ∀ h' tk' dx, (∀ b o, b ≠ x → hp.get? b = some o → h'.get? b = some o) → hp.objs.size ≤ dx → dx ≠ x → h'.get? x = some { cls := .ref C, dict := some dx, data := .fields fv } →
      h'.Ns1 dx (fun y => if y = name then some v else none) → R (.ok (.ret .none)) ⟨h', g, d, tk', os⟩) :
    codeAny (model prog w) A (.call (.builtin "object.__setattr__") ⟨[.ref x, .str name tk, v], []⟩) R ⟨hp, g, d, t, os⟩ := by
  have J : PySem.W.InstAt hp x { cls := .ref C, data := .fields fv } C none := ⟨hx, rfl, rfl, trivial⟩
  have SF := F.store_object
  have xs : x ≠ hp.objs.size := Nat.ne_of_lt (Heap.lt_size hx)
  have sub : PySem.W.Looks (model prog w) hp (isInstance (.ref x) (.type "object")) true := J.type.andThen (PySem.W.looks_mroIn X (by
    unfold PySem.W.mroIn
    rw [hcd, Option.bind_some, hm]
    rfl))
  refine codeAny_call_builtin SF.slot.plain SF.entry (@PySem.W.check_slot (model prog w) _ _ ⟨hp, g, d, t, os⟩ "object.__setattr__" "object" "__setattr__" (.ref x) [.str name tk, v] [] _ SF.kind SF.split sub (SF.args (.ref x) (.str name tk) v) ?_)
  have mr : PySem.W.Looks (model prog w) hp (mroOf (.ref C)) cd.mro := (PySem.W.looks_clsIn X hcd).andThen .now
  have none3 : PySem.W.Looks (model prog w) hp (storeTaker? none) none := .now
  have cl : PySem.W.Looks (model prog w) hp (classData C) cd := PySem.W.looks_clsIn X hcd
  have pass : refuseLoop (.ref x) "__setattr__" cd.mro = pure () := by
    rw [hm, refuseLoop_ref]
    exact F.store_RuntimeError.passes _
  rw [PySem.W.osa_eq, refuse_eq]
  refine wpAny_bind (wpAny_bind (J.type.at (wpAny_bind (mr.at ?_))))
  rw [pass]
  refine wpAny_pure (wpAny_bind (J.type.at (wpAny_bind ((PySem.W.looks_findIn X ha).at (wpAny_bind (none3.at ?_))))))
  show wpAny _ _ (storeInOwnDict (.ref x) (.ref C) (.str name tk) name v false) _ _ _
  obtain ⟨nm, bs, mro, ns, qn, hd, sn, sb, ab, col, del⟩ := cd
  dsimp only at hh
  subst hh
  unfold storeInOwnDict ownDictForStores
  repeat (first | with_reducible refine PySem.HandSPX.store_in_new ?_ ?_ | with_reducible refine wpAny_loadPart_at hx ?_ | with_reducible refine cl.at ?_ | wp_step)
  · exact ⟨_, #[], _, (Heap.get?_update_ne _ _ _ _ xs.symm).trans (Heap.get?_push_at rfl rfl), rfl, fun e he => absurd he (by simp), fun _ => rfl⟩
  · intro h' tk' hn' hs
    have x1 : (hp.push { cls := .type "dict", data := .dict #[] }).get? x = some { cls := .ref C, data := .fields fv } := Heap.get?_push_of_some _ hx
    refine hq h' tk' hp.objs.size (fun b o hb ho => ?_) (Nat.le_refl _) xs.symm ?_ hn'
    · exact (hs.2 b (Nat.ne_of_lt (Heap.lt_size ho))).trans ((Heap.get?_update_ne _ _ _ _ hb).trans (Heap.get?_push_of_some _ ho))
    · exact (hs.2 x xs).trans (Heap.get?_update_self _ x1 rfl)
theorem typ_RT : typeOf (.type "RuntimeError") = pure (.type "type") := by kernel_rfl
end
section
variable {X : Cx} {pins : List (Addr × Obj)} {σ : L2.St} {H : Hp} {s : Shared} {a C dx : Addr} {f : Str} {y : V} {u : Value}
theorem rt_cls {K : PySem.W.Frag} (T : RtC K C) : ∃ cd : ClassData, PySem.W.clsIn K C = some cd ∧ cd.mro = .ref C :: rtTail ∧ cd.hasDict = true := by
  obtain ⟨nm, q, N, bs, sn, sub, ab, col, dd, k0, k1, k2, k3, k5, hC⟩ := T.cls
  exact ⟨{ name := nm, bases := bs, mro := .ref C :: rtTail, ns := N, qualname := q, hasDict := true, slotNames := sn, subclasses := sub, abstract := ab, collection := col, hasDel := false }, by unfold PySem.W.clsIn; rw [hC] <;> rfl, rfl, rfl⟩
/-- self.f = y, the first one -/
theorem rst_new {Q : Unit → Shared → Prop} {E : Value → Shared → Prop} {A : Around} (T : RtC X.K C) (I : Inv X pins σ H s) (e : H a = some (exo a C none)) (hno : PySem.W.findIn X.K (.ref C) f = some none) (ry : L2.RelV y u)
    (h : ∀ dx s', H dx = none → dx ≠ a → Inv X pins σ (upd (upd H dx (exd dx [(f, y)])) a (exo a C (some dx))) s' → Q () s') : wpAny (model X.prog X.w) A (setAttr (.ref a) f u) Q E s := by
  obtain ⟨cd, hcl, hm, hh⟩ := rt_cls T
  obtain ⟨t1, ho⟩ := exo_at I.hok e
  obtain ⟨hp, g, d, t, os⟩ := s
  refine PySem.W.set_plain I.kIn (ox := { cls := .ref C, dict := none, data := .fields #[.ref t1, .none, .none, .none, .bool false, .none] }) (od := none) ⟨ho, rfl, rfl, trivial⟩ T.sa ?_
  refine rt_osa I.kIn ho hcl hm hh hno (fun h' tk' dx k dn dne hx hn => ?_)
  have hnd : H dx = none := I.hok.fresh dn
  have nd : ∀ {b : Addr} {o : Obj}, hp.get? b = some o → b ≠ dx := fun {b o} q => Nat.ne_of_lt (Nat.lt_of_lt_of_le (Heap.lt_size q) dn)
  have na : ∀ {b : Addr}, H b = none → b ≠ a := fun {b} n z => by
    rw [z, e] at n
    cases n
  have un : Un X.fs [] H (upd (upd H dx (exd dx [(f, y)])) a (exo a C (some dx))) hp h' :=
    ⟨fun b o q n _ _ => k b o (na n) q, fun b o q n _ _ => ⟨o.slots, k b o (na n) q⟩, fun b o q n _ => by rw [upd_ne (na n), upd_ne (nd q)]; exact n,
      fun b o q _ => by
        by_cases hb : b = a
        · exact ⟨_, by rw [hb]; exact hx⟩
        · exact ⟨o, k b o hb q⟩,
      fun b xs q => by rw [upd_ne (at_ne e q exo_tup), upd_ne (ne_of_none q hnd)]; exact q, fun b o v q => by rw [upd_ne (at_ne e q exo_frz), upd_ne (ne_of_none q hnd)]; exact q,
      fun b ps q => ⟨#[], by rw [upd_ne (at_ne e q exo_tbl), upd_ne (ne_of_none q hnd), q]; simp⟩⟩
  refine h dx _ hnd dne (I.un (t' := tk') un fun b o q => ?_)
  by_cases hb : b = a
  · subst hb
    rw [upd_same] at q
    cases q
    exact exo_ok hx
  · rw [upd_ne hb] at q
    by_cases hd : b = dx
    · subst hd
      rw [upd_same] at q
      cases q
      exact exd_ok hn (relO_put (fs := []) ry fun g => True.intro)
    · rw [upd_ne hd] at q
      refine (I.hok b o q).stay (fun c v hc z => k c v ?_ z) (fun c hc => by rw [upd_ne (at_ne e hc exo_own), upd_ne (ne_of_none hc hnd)]; exact hc) (fun c xs hc => by rw [upd_ne (at_ne e hc exo_tup), upd_ne (ne_of_none hc hnd)]; exact hc)
      rcases hc with hc | hc
      · rw [hc]
        exact hb
      · exact at_ne e hc exo_own
/-- RuntimeError.__init__(self, ..): nothing of it is told -/
theorem rinit_ok {us : List Value} {Q : Value → Shared → Prop} {E : Value → Shared → Prop} {A : Around} (T : RtC X.K C) (I : Inv X pins σ H s) (e : H a = some (exo a C none)) (hl : us.length ≤ sizeLine) (h : ∀ s', Inv X pins σ H s' → Q .none s') :
    wpAny (model X.prog X.w) A (call (.builtin "RuntimeError.__init__") (.ref a :: us)) Q E s := by
  obtain ⟨nm, q, N, bs, sn, sub, ab, col, dd, k0, k1, k2, k3, k5, hC⟩ := T.cls
  obtain ⟨t1, ho⟩ := exo_at I.hok e
  obtain ⟨hp, g, d, t, os⟩ := s
  refine wpAny_call (PySem.HandSPX.init_base F.excBase_RuntimeError (fun Y => rfl) (I.kIn _ _ hC) ho hl fun h' t2 k hx => ?_)
  have J := I.write (t' := t) (x := a) (e := a) (o := exo a C none) (by rw [e]; exact True.intro) (.inl rfl) k ⟨_, hx⟩ (exo_ok hx)
  have eu : upd H a (exo a C none) = H := by
    funext b
    by_cases hb : b = a
    · rw [hb, upd_same, e]
    · rw [upd_ne hb]
  rw [eu] at J
  exact h _ J
end
end Sw
namespace Sw
open PySem L2 PySem.Spec PyProof.Rows
/-- RuntimeError.__init__(self, ..) -/
def tRtI (K : PySem.W.Frag) (ta : TA) : TE := fun σ H Q => ta σ H fun vs H1 => ∃ (a C : Addr) (ws : List V), vs = .ref a :: ws ∧ ws.length ≤ 1000 ∧ RtC K C ∧ H1 a = some (exo a C none) ∧ Q .non H1
/-- self.f = e, the first field -/
def tRst (K : PySem.W.Frag) (f : Str) (to te : TE) : TS := fun D σ H => te σ H fun y H1 => to σ H1 fun x H2 => ∃ a C : Addr, x = .ref a ∧ RtC K C ∧ PySem.W.findIn K (.ref C) f = some none ∧ H2 a = some (exo a C none) ∧
  ∀ dx, H2 dx = none → dx ≠ a → D.nx σ (upd (upd H2 dx (exd dx [(f, y)])) a (exo a C (some dx)))
section
variable {X : Cx} {o e : Expr} {es : List Expr} {to te : TE} {ta : TA} {f : Str} {p p' p1 p2 pos : Pos}
theorem pe_rtinit {pl : Sem Bool} (hg : Gl X "RuntimeError") (hm : X.mg "RuntimeError" = none) (vV : PySem.W.findCls X.K (.type "RuntimeError") (.type "type") "__init__" = some (.val (.builtin "RuntimeError.__init__"))) (ha : PA X (e :: es) ta)
    (hc : eval (.Call (.Attribute (.Name "RuntimeError" p1) "__init__" p2) (e :: es) [] pos) X.env = (do
      let ov ← eval (.Name "RuntimeError" p1) X.env
      standAt p2.atName
      let (f, first) ← holding [ov] (getMethod ov "__init__" pl)
      callWith pos f first (backTo pos (starEach (e :: es) X.env)) (backToKw pos (keywordEach [] X.env))) := by rfl)
    (he : starEach (e :: es) X.env = (false, eval e X.env) :: starEach es X.env := by rfl) (hpl : (backTo pos (starEach es X.env)).any (·.1) = false := by rfl) :
    PE X (.Call (.Attribute (.Name "RuntimeError" p1) "__init__" p2) (e :: es) [] pos) (tRtI X.K ta) := by
  refine ⟨fun pins s σ H Q I h => ?_⟩
  refine PySem.W.methodCall_KW (ld_blt I hg hm PyProof.Rows.Boot.«RuntimeError» ?_ (by decide) (by decide)) hc
  obtain ⟨m, fr⟩ := I.fr
  refine PySem.W.method_type fr I.ok.mod.kin typ_RT (by decide +kernel) vV (by decide +kernel) ?_
  show wpAny _ _ (callWith pos (Value.builtin "RuntimeError.__init__") [] (backTo pos (starEach (e :: es) X.env)) []) _ _ _
  refine PyProof.Rows.callWith_method1 (thn (ha.run pos pins _ σ H _ (I.tok _) h) fun us s1 ⟨vs, H1, I1, r1, a, C, ws, ev, hl, T, ea, q⟩ => ?_) he hpl
  subst ev
  cases r1 with
  | @cons _ u0 _ ur ra rw' =>
    obtain rfl : u0 = Value.ref a := ra
    have hlen : ur.length ≤ sizeLine := by
      rw [← Paired.length rw', sizeLine_eq]
      omega
    exact rinit_ok T I1 ea hlen fun s' J => ⟨.non, H1, J, rfl, q⟩
theorem ps_rst (ho : PE X o to) (he : PE X e te) (hs : swapsWith e (some (.Attribute o f p')) pos.line X.env = pure false := by rfl) : PS X (.Assign [.Attribute o f p'] e pos) (tRst X.K f to te) := by
  refine ⟨fun pins s σ H D I h => ?_⟩
  refine plainObj_wpAny_Assign_Attribute (thn (he.run pins s σ H _ I h) fun v s1 ⟨y, H1, I1, r1, q1⟩ => thn (ho.run pins s1 σ H1 _ I1 q1) fun u s2 ⟨x, H2, I2, r2, a, C, ex, T, hno, ea, q⟩ => ?_) hs
  subst ex
  obtain rfl : u = Value.ref a := r2
  exact rst_new T I2 ea hno r1 fun dx s' n ne J => ⟨σ, _, J, q dx n ne⟩
/-- C(e, ..), C straight under RuntimeError with its own __init__ -/
theorem pmk_rt {CX : CXT} {x : Str} {C fI : Addr} {k : Nat} {fd : FuncData} {ps : List Str} {sp : Sp} (T : RtC X.K C) (iC : PySem.W.findIn X.K (.ref C) "__init__" = some (some (.ref fI))) (tI : PySem.W.typeIn X.K (.ref fI) = some (.type "function"))
    (F1 : FnOk X.prog X.w X.K X.mg X.base CX k fI fd ps sp) (hr : Room (k + 1) X.A) (hb : L2.Binds X.K fd ps []) (hx : Passes CX X (fun _ _ _ => False)) (hg : Gl X x) (hm : X.mg x = some (.ref C)) (ha : PA X (e :: es) ta)
    (hdb : (x == ("__debug__" : Str)) = false := by decide) (he : starEach (e :: es) X.env = (false, eval e X.env) :: starEach es X.env := by rfl) (hpl : (backTo pos (starEach es X.env)).any (·.1) = false := by rfl) :
    PMk X (.Call (.Name x p) (e :: es) [] pos) (tMkO C sp [] ta) := by
  intro pins s σ H Q I h
  obtain ⟨nm, q, N, bs, sn, sub, ab, col, dd, k0, k1, k2, k3, k5, hC⟩ := T.cls
  refine wpAny_Call_Name_kw (ld_glob I hg hm ?_ hdb)
  refine PySem.W.callWith_K (h₀ := X.base) I.ok.mod.kin T.kC (thn (ha.run pos pins s σ H _ I h) fun us s1 ⟨vs, H1, I1, r1, hz, q1⟩ => ⟨I1.kIn, ?_⟩) he hpl
  show wpAny _ _ (call (.ref C) us) _ _ _
  obtain ⟨hp, g, dr, tk, os⟩ := s1
  have up : hp.objs.size ≤ hp.objs.size + 1 := Nat.le_succ _
  have hq := q1 (hp.objs.size + 1) (I1.hok.fresh up)
  have kk : ∀ b o, hp.get? b = some o → ((hp.push (PySem.W.kdv_tup us)).push (PySem.HandSPX.excO C hp.objs.size)).get? b = some o := fun b o e => Heap.get?_push_of_some _ (Heap.get?_push_of_some _ e)
  have hget : ((hp.push (PySem.W.kdv_tup us)).push (PySem.HandSPX.excO C hp.objs.size)).get? (hp.objs.size + 1) = some (PySem.HandSPX.excO C hp.objs.size) := by heap_get
  have I2 : Inv X pins σ (upd H1 (hp.objs.size + 1) (exo (hp.objs.size + 1) C none)) ⟨(hp.push (PySem.W.kdv_tup us)).push (PySem.HandSPX.excO C hp.objs.size), g, dr, tk, os⟩ := I1.laid (t' := tk) kk up (exo_ok hget)
  rw [List.append_nil] at hq
  have r2 : Vals (V.ref (hp.objs.size + 1) :: vs) (Value.ref (hp.objs.size + 1) :: us) := .cons rfl r1
  have hl : (Value.ref (hp.objs.size + 1) :: us ++ []).length = ps.length := by
    rw [List.append_nil, ← r2.length]
    exact F1.len _ _ _ _ hq
  have bb := hb ⟨(hp.push (PySem.W.kdv_tup us)).push (PySem.HandSPX.excO C hp.objs.size), g, dr, tk, os⟩ (Value.ref (hp.objs.size + 1) :: us) I2.kIn hl
  rw [List.append_nil] at bb
  have hus : us.length ≤ sizeLine := by
    rw [← Paired.length r1, sizeLine_eq]
    omega
  refine wpAny_call (PySem.HandSPX.call_own F.excBase_RuntimeError (fun Y => rfl) (I1.kIn _ _ hC) (PySem.W.looks_findIn I1.kIn iC) (fun self => PySem.W.bind_fn I1.kIn self tI) hus
    (codeAny_mono (F1.run _ X.stack _ _ ⟨Value.ref (hp.objs.size + 1) :: us, []⟩ _ _ _ (fun _ _ _ => False) (hr.make C us []) (I2.env0.make C us []) bb r2 hq) fun r s' hq' => ?_))
  cases r with
  | error er => exact hx pins σ _ _ er s' I2 hq'
  | ok fl =>
    cases fl with
    | ret u =>
      obtain ⟨v, H2, os2, bare2, un2, hok2, rv, ev, d, fs, ea, ed, hd1, q2⟩ := hq'
      subst ev
      obtain ⟨h2, g2, d2, t2, os'⟩ := s'
      exact ⟨rv, mk_end (raises_own T.exC T.tyC) I1 up kk un2 hok2 os2 bare2 ea ed hd1 q2⟩
    | next => exact False.elim hq'
    | brk => exact False.elim hq'
    | cont => exact False.elim hq'
end
end Sw
namespace Sw
open PySem L2 PySem.Spec PyProof.Rows
/-- an exception that was caught and is kept -/
def excT (a : Addr) (cls : Value) (d : Option Addr) : HO := .ext fun h => ∃ oe vs, h.get? a = some oe ∧ Zc cls d oe ∧ oe.data = .fields vs
theorem excT_ok {P : Program} {w : World} {H : Hp} {h : Heap} {a : Addr} {cls : Value} {d : Option Addr} {oe : Obj} {vs : Array Value} (e : h.get? a = some oe) (z : Zc cls d oe) (hd : oe.data = .fields vs) : ObjOk P w H h a (excT a cls d) :=
  ⟨⟨oe, vs, e, z, hd⟩, ⟨_, e⟩, fun h1 h2 ⟨o, vs, e1, e2, e3⟩ k => ⟨o, vs, k _ e1, e2, e3⟩⟩
theorem excT_at {P : Program} {w : World} {H : Hp} {h : Heap} {a b : Addr} {cls : Value} {d : Option Addr} (hok : HOk P w H h) (e : H b = some (excT a cls d)) : ∃ oe vs, h.get? a = some oe ∧ Zc cls d oe ∧ oe.data = .fields vs := by
  have x : ObjOk P w H h b (.ext fun h => ∃ oe vs, h.get? a = some oe ∧ Zc cls d oe ∧ oe.data = .fields vs) := hok b _ e
  exact x.1
section
variable {X : Cx} {pins : List (Addr × Obj)} {σ : L2.St} {H : Hp} {s : Shared}
/-- an object of our own that was not tracked is tracked from now on -/
theorem track {a : Addr} {o : HO} (I : Inv X pins σ H s) (hn : H a = none) (h0 : X.s_0.heap.get? a = none) (hL : a ≠ X.env.locals) (hC : ∀ x c, X.env.cells.lookup x = some c → c ≠ a) (hP : ∀ p ∈ X.pn ++ pins, p.1 ≠ a)
    (new : ObjOk X.prog X.w (upd H a o) s.heap a o) : Inv X pins σ (upd H a o) s := by
  refine ⟨I.ok, I.os, I.bare, ⟨I.base.keep, I.base.slot, fun b ob e n hx => ?_, I.base.there, fun b xs e => ?_, fun b ob u e => ?_, fun b ps e => ?_⟩, I.loc, I.cell, ?_, fun x c e => ?_, fun p hp => ?_, fun b u e => ?_, I.len⟩
  · rw [upd_ne (fun z => by rw [z, h0] at e; cases e)]
    exact I.base.free b ob e n hx
  · have q := I.base.tups b xs e
    rw [upd_ne (ne_of_none q hn)]
    exact q
  · have q := I.base.frzs b ob u e
    rw [upd_ne (ne_of_none q hn)]
    exact q
  · obtain ⟨m, q⟩ := I.base.tbls b ps e
    exact ⟨m, by rw [upd_ne (ne_of_none q hn)]; exact q⟩
  · rw [upd_ne hL.symm]
    exact I.free
  · rw [upd_ne (hC x c e)]
    exact I.freeC x c e
  · obtain ⟨e, n, r⟩ := I.pin p hp
    exact ⟨e, by rw [upd_ne (hP p hp)]; exact n, r⟩
  · by_cases hb : b = a
    · subst hb
      rw [upd_same] at e
      cases e
      exact new
    · rw [upd_ne hb] at e
      exact (I.hok b u e).stay (fun c v _ q => q) (fun c q => by rw [upd_ne (ne_of_none q hn)]; exact q) fun c xs q => by rw [upd_ne (ne_of_none q hn)]; exact q
end
/-- what 'except x as n: k = n' wishes: slot i is n's, slot j is k's -/
def wKeep (K : PySem.W.Frag) (n : Nat) (c : Value) (i j : Nat) (Wout : WX) (D : Ends) : WX := fun cls d σ H => σ.length = n →
  ∃ b, PySem.W.exmOne K cls c = some b ∧ (b = true → ∀ a, H a = none → D.nx (((σ.set i (some (.ref a))).set j (some (.ref a))).set i none) (upd H a (excT a cls d))) ∧ (b = false → Wout cls d σ H)
section
variable {X : Cx} {x n k : Str} {c : Value} {i j : Nat} {body : List Stmt} {np kp vp ap pos pos' : Pos} {tb : WX → TS} {Wout : WX}
theorem ps_try_keep (hs : X.stack = X.env :: X.outer) (hf : X.env.frame = some X.env.locals) (hN : X.N.Nodup) (hi : X.N[i]? = some n) (hln : X.env.kindOf n = some .local) (hj : X.N[j]? = some k) (hlk : X.env.kindOf k = some .local) (hex : X.ex = []) (hc : L2.Names X x c) (tk : Takes X Wout)
    (hb : ∀ (W : WX) (pn : List (Addr × Obj)) (xe : Value → Shared → Prop), Takes (X.tr pn xe) W → PassesOwn (model X.prog X.w) X.A X.env xe → PSs (X.tr pn xe) body (tb W))
    (hsw : swapsWith (.Name n vp) (some (.Name k kp)) ap.line X.env = pure false := by rfl) (hdn : (n == ("__debug__" : Str)) = false := by decide) (hcn : (n == ("__classdict__" : Str)) = false := by decide) :
    PS X (.Try body [.ExceptHandler (some (.Name x np)) (some n) [.Assign [.Name k kp] (.Name n vp) ap] pos'] [] [] pos) (fun D σ H => tb (wKeep X.K X.N.length c i j Wout D) D σ H) := by
  refine ⟨fun pins s σ H D I h => ?_⟩
  have ok := I.ok
  have hfr : X.A.frames = some (X.env :: X.outer) := by rw [ok.frames, hs]
  refine wpAny_Try_except ?_
  refine wpAny_mono ((hb (wKeep X.K X.N.length c i j Wout D) (X.pn ++ pins) (fun e s₁ => wpAny (model X.prog X.w) X.A (noteFrame e X.env) (fun _ s₂ => wpAny (model X.prog X.w) X.A (setFlight e none) (fun _ s₃ =>
    wpAny (model X.prog X.w) X.A (handleBy e X.env [.ExceptHandler (some (.Name x np)) (some n) [.Assign [.Name k kp] (.Name n vp) ap] pos']) (SP X pins D) X.xe s₃) X.xe s₂) X.xe s₁) (fun u s' xx => ?_) PassesOwn.looking).run [] s σ H D (I.toTry _) h) (fun f s1 hsp => ?_) (fun e s1 he => he)
  · obtain ⟨a, B, sI, pins', σ', H', cls, d, rfl, J', nb, up, sky, na, os, ag, hw⟩ := xx
    have J : Inv X pins σ' H' sI := J'.ofTry ok
    obtain ⟨b, hb1, hyes, hno⟩ := hw J.len
    have sky' : Sky B (X.env :: X.outer) a (Zc cls d) X.env.locals s'.heap := by rw [← hs]; exact sky
    show wpAny (model X.prog X.w) X.A (noteFrame (.ref a) X.env) _ _ _
    refine Sky.land Zc.steady hfr hf sky' fun h3 fl3 up3 => ?_
    have J3 : Inv X pins σ' H' { s' with heap := h3 } := J.landed nb fl3.1 (up.trans up3) os ag
    obtain ⟨oe3, vs3, he3, hz3, hd3⟩ := fl3.there
    have Ba : B.get? a = none := fl3.2.1
    have nfr : a ∉ frs (X.env :: X.outer) := fun hm => by
      obtain ⟨_, o', e', hnf⟩ := fl3.2.2.1.mem hm
      rw [he3] at e'; cases e'
      exact hnf _ hd3
    have nL : a ≠ X.env.locals := fun z => nfr (List.mem_filterMap.mpr ⟨X.env, List.mem_cons_self, by rw [hf, z]⟩)
    have nF : a ∉ X.fs := fun hm => by
      obtain ⟨e, he, q⟩ := List.mem_filterMap.mp hm
      exact nfr (List.mem_filterMap.mpr ⟨e, List.mem_cons_of_mem _ he, q⟩)
    -- it is new
    have nsI : ∀ o, sI.heap.get? a ≠ some o := fun o z => by
      have q := nb a o z (by rw [hs]; exact nfr)
      rw [Ba] at q; cases q
    have n0 : X.s_0.heap.get? a = none := by
      cases z : X.s_0.heap.get? a with
      | none => rfl
      | some o =>
        obtain ⟨o', q⟩ := J.base.there a o z (by rw [hex]; simp)
        exact absurd q (nsI o')
    have S3 := J3.suite he3 hd3 na nL nF
    refine wpAny_handleBy_cons (codeAny_handlers_test ?_) (by intro q; cases q)
    have LT : PySem.W.Looks (model X.prog X.w) h3 (typeOf (.ref a)) cls := fun A Q E s k q => wpAny_typeOf_ref (k _ _ he3) (by rw [hz3.1]; exact q)
    have LM := PySem.W.exm_one (M := model X.prog X.w) (J3.kIn) LT hb1
    have test : ∀ {Q : Value → Shared → Prop} {E : Value → Shared → Prop}, Q c { s' with heap := h3 } → wpAny (model X.prog X.w) (X.A.mark (some (.ref a))) (eval (.Name x np) X.env) Q E { s' with heap := h3 } := fun {Q E} q => by
      obtain ⟨hg, hdbg, hm | ⟨hm, hv, hnn⟩⟩ := hc
      · exact ld_glob (X := X.suite a ((a, oe3) :: (X.pn ++ pins))) S3 hg hm q hdbg
      · exact ld_blt (X := X.suite a ((a, oe3) :: (X.pn ++ pins))) S3 hg hm hv q hnn hdbg
    refine test (LM.here ?_)
    cases b with
    | true =>
      refine codeAny_handlers_suite_as ?_
      refine HandSPX.lands_againZ fl3 fun h4 fl4 up4 => ?_
      have J4 : Inv X pins σ' H' { s' with heap := h4 } := J.landed nb fl4.1 ((up.trans up3).trans up4) os ag
      obtain ⟨oe4, vs4, he4, hz4, hd4⟩ := fl4.there
      have S4 := J4.suite he4 hd4 na nL nF
      refine store_ok (X := X.suite a ((a, oe4) :: (X.pn ++ pins))) (v := .ref a) S4 hN hi (.inl hln) rfl (fun s5 S5 => ?_) (.inr hln)
      have hsu : PSs (X.suite a ((a, oe4) :: (X.pn ++ pins))) [.Assign [.Name k kp] (.Name n vp) ap] _ := pss_one (ps_asg (pe_var (i := i) hi (Or.inl hln) hdn hcn) (pg_name (i := j) hN hj (Or.inl hlk) (.inr hlk)) hsw)
      have hil : i < σ'.length := by rw [J.len]; exact (List.getElem?_eq_some_iff.mp hi).1
      refine wpAny_mono (hsu.run [] s5 _ H' { nx := fun σ6 H6 => σ6 = (σ'.set i (some (.ref a))).set j (some (.ref a)) ∧ H6 = H', rt := fun _ _ => False, bk := fun _ _ => False, ct := fun _ _ => False } S5 ⟨.ref a, List.getElem?_set_self hil, rfl, rfl⟩) (fun f s6 hsp => ?_) (fun _ _ z => False.elim z)
      cases f with
      | next =>
        obtain ⟨σ6, H6, S6, e6, e7⟩ := hsp
        subst e6 e7
        have pa := S6.pin (a, oe4) (List.mem_append_left _ List.mem_cons_self)
        have J6 : Inv X ((a, oe4) :: pins) _ H6 s6 := (S6.unsuite ok).pins_of fun p hp => by
          rcases List.mem_cons.mp hp with e | e
          · rw [e]; exact pa
          · exact S6.pin p (List.mem_append_left _ (List.mem_cons_of_mem _ (List.mem_append_right _ e)))
        refine gone_ok J6 hN hi hln fun s7 J7 => ?_
        obtain ⟨e1, e2, e3, e4, e5⟩ := J7.pin (a, oe4) (List.mem_append_right _ List.mem_cons_self)
        have J8 : Inv X pins _ H6 s7 := J7.pins_of fun p hp => J7.pin p (List.mem_append_right _ (List.mem_cons_of_mem _ hp))
        refine ⟨_, _, track J8 na n0 nL (fun y cc e z => ?_) (fun p hp z => ?_) (excT_ok e1 hz4 hd4), hyes rfl a na⟩
        · obtain ⟨v, o, ho, hd⟩ := J8.cell y cc e
          rw [z, e1] at ho; cases ho
          exact e5 v hd
        · have q := (J.pin p hp).1
          rw [z] at q
          exact nsI _ q
      | brk =>
        obtain ⟨σ6, H6, S6, q6⟩ := hsp
        exact False.elim q6
      | cont =>
        obtain ⟨σ6, H6, S6, q6⟩ := hsp
        exact False.elim q6
      | ret u =>
        obtain ⟨v6, σ6, H6, S6, r6, q6⟩ := hsp
        exact False.elim q6
    | false =>
      show wpAny _ X.A (handleBy (.ref a) X.env []) _ _ _
      refine wpAny_handleBy_nil ?_
      obtain ⟨k1, k2, k3, oe, vs, T, oT, ts', he, hz, hd, h1, hr⟩ := id fl3
      unfold PySem.passOn
      refine wpAny_bind (wpAny_field he hd h1 ?_)
      rw [if_neg (show ¬ ((Value.ref T == Value.none) = true) from by simp)]
      have fin : wpAny (model X.prog X.w) X.A (setFlight (.ref a) X.env.frame) (fun _ s4 => wpAny (model X.prog X.w) X.A (throw (.ref a) : Sem Flow) (SP X pins D) X.xe s4) X.xe { s' with heap := h3 } := by
        rw [hf]
        refine HandSPX.setFlight_upZ fl3 fun h4 hh4 up4 => wpAny_throw (tk _ _ ?_)
        exact ⟨a, B, sI, pins, σ', H', cls, d, rfl, J, nb, (up.trans up3).trans up4, .inr (.inr (by rw [hs]; exact hh4)), na, os, ag, hno rfl⟩
      first
        | exact wpAny_bind (wpAny_pure (wpAny_bind fin))
        | exact wpAny_bind fin
  · cases f with
    | next =>
      obtain ⟨σ', H', J', q⟩ := hsp
      exact wpAny_execs_nil ⟨σ', H', J'.ofTry ok, q⟩
    | brk =>
      obtain ⟨σ', H', J', q⟩ := hsp
      exact ⟨σ', H', J'.ofTry ok, q⟩
    | cont =>
      obtain ⟨σ', H', J', q⟩ := hsp
      exact ⟨σ', H', J'.ofTry ok, q⟩
    | ret u =>
      obtain ⟨v, σ', H', J', r, q⟩ := hsp
      exact ⟨v, σ', H', J'.ofTry ok, r, q⟩
end
end Sw
namespace Sw
open PySem L2 PySem.Spec PyProof.Rows
/-- a kept exception of the class at D, its dict at dd holds fs -/
def ExcAt (H : Hp) (a D dd : Addr) (fs : List (Str × V)) : Prop := H a = some (excT a (.ref D) (some dd)) ∧ H dd = some (.xd fs)
section
variable {X : Cx} {pins : List (Addr × Obj)} {σ : L2.St} {H : Hp} {s : Shared}
theorem exc_inst {a D dd : Addr} {fs : List (Str × V)} (I : Inv X pins σ H s) (e : ExcAt H a D dd fs) : ∃ (oe : Obj) (od : Obj) (mA : Str → Option Value), PySem.W.InstAt s.heap a oe D (some od) ∧ (∀ n, PySem.W.lookIn n od = some (mA n)) ∧ ∀ f, L2.RelO (fs.lookup f) (mA f) := by
  obtain ⟨oe, vs, he, hz, hd⟩ := excT_at I.hok e.1
  have hx : ObjOk X.prog X.w H s.heap dd (.xd fs) := I.hok dd _ e.2
  obtain ⟨mA, hns, hr⟩ := hx
  obtain ⟨od, ho, hl⟩ := lookIn_ns hns
  exact ⟨oe, od, mA, ⟨he, hz.1, by unfold PySem.W.notCls; rw [hd] <;> rfl, by rw [hz.2]; exact ho⟩, hl, hr⟩
/-- isinstance(e, c) -/
def rIsiX (K : PySem.W.Frag) : List V → Hp → VK → Prop := fun xs H Q => ∃ (a D dd : Addr) (fs : List (Str × V)) (c : V) (u : Value) (b : Bool), xs = [.ref a, c] ∧ ExcAt H a D dd fs ∧ ExcC K D ∧ ClsV c u ∧ PySem.W.kitOne K (.ref D) u = some b ∧ Q (.bl b) H
theorem excC_cl {K : PySem.W.Frag} {D : Addr} (c : ExcC K D) : (PySem.W.clsIn K D).isSome = true := by
  obtain ⟨cd, hc, _⟩ := PySem.W.any_some c.hd
  rw [hc]
  rfl
theorem call_isiX : CallR X (.builtin "isinstance") (rIsiX X.K) := by
  intro pins s σ H xs us Q I r h
  obtain ⟨a, D, dd, fs, c, u, b, rfl, e, C, k, ek, q⟩ := h
  obtain ⟨u1, u2, rfl, r1, r2⟩ := vals2 r
  cases r1
  have e2 := k.eq r2
  subst e2
  obtain ⟨oe, od, mA, J, _⟩ := exc_inst I e
  exact PySem.W.kia_one (PySem.W.kitx_exc (excC_cl C) C.hg C.hk C.hs C.ha C.hn C.ht C.hm) I.kIn J ek (fun z => nomatch z) fun tk => ⟨.bl b, H, I.tok tk, rfl, q⟩
/-- isinstance(e, (c1, c2, ..)) -/
def rIsiXT (K : PySem.W.Frag) : List V → Hp → VK → Prop := fun xs H Q => ∃ (a D dd tp : Addr) (fs : List (Str × V)) (cs : List V) (us : List Value) (b : Bool), xs = [.ref a, .ref tp] ∧ ExcAt H a D dd fs ∧ ExcC K D ∧ H tp = some (.tup cs) ∧ Paired ClsV cs us ∧ PySem.W.kitAny K (.ref D) us = some b ∧ Q (.bl b) H
theorem call_isiXT : CallR X (.builtin "isinstance") (rIsiXT X.K) := by
  intro pins s σ H xs us Q I r h
  obtain ⟨a, D, dd, tp, fs, cs, ws, b, rfl, e, C, hT, k, ek, q⟩ := h
  obtain ⟨u1, u2, rfl, r1, r2⟩ := vals2 r
  cases r1
  cases (show u2 = Value.ref tp from r2)
  obtain ⟨oe, od, mA, J, _⟩ := exc_inst I e
  obtain ⟨_, its, rv, o, h1, h2, n, h3⟩ := (show ObjOk X.prog X.w H s.heap tp (.tup cs) from I.hok tp _ hT)
  have e3 := ClsV.all k rv
  subst e3
  obtain ⟨oc, od', dt, sl⟩ := o
  simp only at h2 h3
  subst h2 h3
  exact PySem.W.kia_tup (PySem.W.kitx_exc (excC_cl C) C.hg C.hk C.hs C.ha C.hn C.ht C.hm) I.kIn J h1 ek (fun z => nomatch z) fun tk => ⟨.bl b, H, I.tok tk, rfl, q⟩
/-- e.f -/
def tXfT (K : PySem.W.Frag) (f : Str) (te : TE) : TE := fun σ H Q => te σ H fun x H1 => ∃ (a D dd : Addr) (fs : List (Str × V)) (v : V), x = .ref a ∧ ExcAt H1 a D dd fs ∧ XfC K D ∧ PySem.W.findIn K (.ref D) f = some none ∧ fs.lookup f = some v ∧ Q v H1
theorem pe_xfT {e : Expr} {te : TE} {pos : Pos} {f : Str} (he : PE X e te) (hb : attributeBase e f X.env (eval e X.env) = eval e X.env := by rfl) : PE X (.Attribute e f pos) (tXfT X.K f te) := by
  refine ⟨fun pins s σ H Q I h => ?_⟩
  refine attr_of hb (thn (he.run pins s σ H _ I h) fun u s1 hh => ?_)
  obtain ⟨x, H1, I1, rx, a, D, dd, fs, v, ex, ea, T, hno, l, q⟩ := hh
  subst ex
  obtain rfl : u = Value.ref a := rx
  obtain ⟨oe, od, mA, J, hl, hr⟩ := exc_inst I1 ea
  obtain ⟨u, hu, ru⟩ := RelO.some_of (v := v) (o := mA f) (by rw [← l]; exact hr f)
  exact HandSPX.exc_get I1.kIn J T.ga T.gg T.exC (PySem.W.findObj_own T.hdC hno rfl (by rw [hl, hu])) (handed_of ru) ⟨v, H1, I1.tok _, ru, q⟩
end
end Sw
namespace Sw
open PySem L2
abbrev sFails : Stmt := top 11
/-- what the law's own helper makes of a function: "" where it returns, the word by which it fails -/
def TTf (CF : Addr) : (XK → Hp → VK → Prop) → Hp → VK → Prop := fun tl H Q =>
  tl (fun cls d H' => ∃ (dd : Addr) (v : V), cls = .ref CF ∧ d = some dd ∧ H' dd = some (.xd [(("word" : Str), v)]) ∧ ∀ H'', Same H' H'' → Q v H'') H (fun _ H' => Q (.str "") H')
/-- what is known of the class of failures -/
structure FailC (K : PySem.W.Frag) (mg : Str → Option Value) (CF : Addr) : Prop where
  g : mg "Fails" = some (.ref CF)
  c : ExcC K CF
  x : XfC K CF
  noW : PySem.W.findIn K (.ref CF) "word" = some none
  te : PySem.W.exmOne K (.ref CF) (.ref CF) = some true
  iR : PySem.W.kitOne K (.ref CF) (.type "RuntimeError") = some true
  iV : PySem.W.kitOne K (.ref CF) (.type "ValueError") = some false
  iL : PySem.W.kitOne K (.ref CF) (.type "LookupError") = some false
  mi : mg "isinstance" = none
  mR : mg "RuntimeError" = none
  mV : mg "ValueError" = none
  mL : mg "LookupError" = none
theorem scFails : FnScope ["asked", "caught", "e"] ["asked"] (defScope sFails) := ⟨rfl, rfl, rfl, by decide +kernel, rfl, by decide +kernel, by decide +kernel⟩
def failsM (CF : Addr) (Q : VK) (σ1 : L2.St) (H1 : Hp) : Prop := match σ1 with
  | [_, some .non, none] => Q (.str "") H1
  | [_, some (.ref a), none] => ∃ (dd : Addr) (v : V), ExcAt H1 a CF dd [(("word" : Str), v)] ∧ ∀ H'', Same H1 H'' → Q v H''
  | _ => False
theorem failsM_cases {CF : Addr} {Q : VK} {σ1 : L2.St} {H1 : Hp} (h : failsM CF Q σ1 H1) : (∃ x0, σ1 = [x0, some .non, none] ∧ Q (.str "") H1) ∨ (∃ x0 a dd v, σ1 = [x0, some (.ref a), none] ∧ ExcAt H1 a CF dd [(("word" : Str), v)] ∧ ∀ H'', Same H1 H'' → Q v H'') := by
  unfold failsM at h
  split at h
  · exact .inl ⟨_, rfl, h⟩
  · obtain ⟨dd, v, e, k⟩ := h
    exact .inr ⟨_, _, dd, v, rfl, e, k⟩
  · exact h.elim
theorem fails_gives {X : Cx} {g CF : Addr} {cdg : Value} {q : Str} (T : FailC X.K X.mg CF) : LamX.GivesTo X ["asked", "caught", "e"] "_law_fails" (defScope sFails) g cdg (defBody sFails) "asked" q (TTf CF) := by
  intro f c' s H Q tl act hc h
  refine ⟨_, pss_cons (ps_set (i := 1) scFails.nd rfl (Or.inl rfl) pe_non)
    (pss_mid (ps_try_keep (X := (cxOf C8.CX0 X.prog X.w X.K X.mg X.base ["asked", "caught", "e"] "_law_fails" (defScope sFails) g cdg X.A X.stack s H C8.E0).nox) (i := 2) (j := 1) (c := .ref CF) (Wout := fun _ _ _ _ => False)
      (tb := fun W D σ H => ∃ Ech : XK, (∀ cls d σ' H', Ech cls d H' → W cls d σ' H') ∧ σ[0]? = some (some (.ref f)) ∧ H c' = some (LamX.CodeO c' q) ∧ tl Ech H (fun _ H' => D.nx σ H'))
      rfl rfl scFails.nd rfl rfl rfl rfl rfl ⟨rfl, by decide, .inl T.g⟩ LamX.takes0 (fun W pn xe tk _ => ?_))
    (pss_cons (ps_if (pt_cmpR op_isN (pv 1) pe_non (nomark _)) (pss_one (ps_ret pe_str)) pss_nil)
    (pss_cons (ps_if (PW.pt (pw_or (pt_not (pt_val (pe_callB call_isiX (by rfl) T.mi (by decide +kernel) (pa_cons (pv 1) (pa_cons (pe_bltn (v := .ty "RuntimeError") (by rfl) T.mR (by decide +kernel) rfl) pa_nil)))))
      (pw_or1 (pt_val (pe_callB call_isiXT (by rfl) T.mi (by decide +kernel) (pa_cons (pv 1) (pa_cons (pe_tup (pa_cons (pe_bltn (v := .ty "ValueError") (by rfl) T.mV (by decide +kernel) rfl) (pa_cons (pe_bltn (v := .ty "LookupError") (by rfl) T.mL (by decide +kernel) rfl) pa_nil))) pa_nil))))))) (pss_one (ps_ret pe_str)) pss_nil)
    (pss_one (ps_ret (pe_xfT (pv 1))))))), ?_⟩
  · refine ⟨fun pins s' σ H' D I h' => ?_⟩
    obtain ⟨Ech, hW, h1, h2, h3⟩ := h'
    exact (pss_one (ps_expr (act W pn xe Ech _ _ tk hW))).run pins s' σ H' D I ⟨h1, h2, h3⟩
  · refine ⟨failsM CF Q, ?_, ?_⟩
    · refine ⟨fun cls d H' => ∃ (dd : Addr) (v : V), cls = .ref CF ∧ d = some dd ∧ H' dd = some (.xd [(("word" : Str), v)]) ∧ ∀ H'', Same H' H'' → Q v H'', ?_, rfl, hc, ?_⟩
      · rintro cls d σ' H' ⟨dd, v, rfl, rfl, hx, k⟩ hl
        refine ⟨true, T.te, fun _ a ha => ?_, fun z => Bool.noConfusion z⟩
        obtain ⟨x0, x1, x2, rfl⟩ : ∃ x0 x1 x2, σ' = [x0, x1, x2] := by
          match σ', hl with
          | [x0, x1, x2], _ => exact ⟨x0, x1, x2, rfl⟩
        refine ⟨dd, v, ⟨upd_same, by rw [upd_ne (ne_of_none hx ha)]; exact hx⟩, fun H'' s2 => k H'' fun b o e => s2 b o ?_⟩
        rw [upd_ne (ne_of_none e ha)]
        exact e
      · exact h
    · intro σ1 H1 hm
      rcases failsM_cases hm with ⟨x0, rfl, q1⟩ | ⟨x0, a, dd, v, rfl, ea, k⟩
      · refine ⟨_, rfl, rfl, _, rfl, ?_⟩
        exact iteT q1
      · refine ⟨_, rfl, rfl, _, rfl, ?_⟩
        refine iteF ?_
        refine ⟨_, rfl, a, CF, dd, _, _, _, true, rfl, ea, T.c, ClsV.ty "RuntimeError", T.iR, _, rfl, ?_⟩
        refine iteF ?_
        refine ⟨_, rfl, (by show 2 ≤ sizeLine; decide), fun p hp => ?_⟩
        have ea2 : ExcAt (upd H1 p (.tup [V.ty "ValueError", V.ty "LookupError"])) a CF dd [(("word" : Str), v)] := ⟨by rw [upd_ne (ne_of_none ea.1 hp)]; exact ea.1, by rw [upd_ne (ne_of_none ea.2 hp)]; exact ea.2⟩
        refine ⟨a, CF, dd, p, _, _, _, false, rfl, ea2, T.c, upd_same, .cons (ClsV.ty "ValueError") (.cons (ClsV.ty "LookupError") .nil), kitAny_cons T.iV (fun _ => kitAny_cons T.iL (fun _ => kitAny_nil) (fun z => nomatch z)) (fun z => nomatch z), _, rfl, ?_⟩
        refine iteF ?_
        exact ⟨_, rfl, a, CF, dd, _, v, rfl, ea2, T.x, T.noW, by rfl, k _ (Same.up hp)⟩
end Sw
namespace Sw
open PySem L2
/-! ### values by variables -/
abbrev Kv := List (Str × Int)
def kvK (kv : Kv) : List (Key × V) := kv.map fun p => (kS p.1, V.int p.2)
def keys (kv : Kv) : List Str := kv.map (·.1)
def putS (kv : Kv) (x : Str) (v : Int) : Kv := if (kv.any fun p => decide (p.1 = x)) = true then kv.map (fun p => if p.1 = x then (p.1, v) else p) else kv ++ [(x, v)]
def dropS (kv : Kv) (x : Str) : Kv := kv.filter fun p => decide (p.1 ≠ x)
theorem kS_inj {x y : Str} : (kS x = kS y) ↔ x = y := ⟨fun h => Sum.inr.inj h, fun h => by rw [h]⟩
theorem valV_kv : ∀ (kv : Kv) (x : Str), valV (kvK kv) (kS x) = (kv.lookup x).map V.int
  | [], x => rfl
  | (y, v) :: kv, x => by
    have ih := valV_kv kv x
    by_cases e : y = x
    · subst e
      simp [kvK, valV, List.lookup]
    · have e1 : ¬ kS y = kS x := fun z => e (kS_inj.mp z)
      have e2 : (x == y) = false := by simpa using fun z : x = y => e z.symm
      show valV ((kS y, V.int v) :: kvK kv) (kS x) = _
      rw [valV_neg e1, ih]
      simp [List.lookup, e2]
theorem any_kv (kv : Kv) (x : Str) : ((kvK kv).any fun q => decide (q.1 = kS x)) = (kv.any fun p => decide (p.1 = x)) := by
  unfold kvK
  rw [List.any_map]
  congr 1
  funext p
  show decide (kS p.1 = kS x) = decide (p.1 = x)
  by_cases e : p.1 = x
  · rw [decide_eq_true e, decide_eq_true (kS_inj.mpr e)]
  · rw [decide_eq_false e, decide_eq_false (fun z => e (kS_inj.mp z))]
theorem putK_kv (kv : Kv) (x : Str) (v : Int) : putK (kvK kv) (kS x) (.int v) = kvK (putS kv x v) := by
  unfold putK putS
  rw [any_kv]
  split
  · unfold kvK
    rw [List.map_map, List.map_map]
    apply List.map_congr_left
    intro p _
    show (if kS p.1 = kS x then (kS p.1, V.int v) else (kS p.1, V.int p.2)) = (kS (if p.1 = x then (p.1, v) else p).1, V.int (if p.1 = x then (p.1, v) else p).2)
    by_cases e : p.1 = x
    · rw [if_pos e, if_pos (kS_inj.mpr e)]
    · rw [if_neg e, if_neg (fun z => e (kS_inj.mp z))]
  · simp [kvK]
theorem dropK_kv (kv : Kv) (x : Str) : dropK (kvK kv) (kS x) = kvK (dropS kv x) := by
  unfold dropK dropS kvK
  rw [List.filter_map]
  congr 1
  apply List.filter_congr
  intro p _
  show decide (kS p.1 ≠ kS x) = decide (p.1 ≠ x)
  by_cases e : p.1 = x
  · simp [e]
  · have e1 : kS p.1 ≠ kS x := fun z => e (kS_inj.mp z)
    simp [e, e1]
theorem kvK_len (kv : Kv) : (kvK kv).length = kv.length := by simp [kvK]
theorem kvK_keys (kv : Kv) : (kvK kv).map (·.1) = (keys kv).map kS := by simp [kvK, keys]
theorem kvK_flat (kv : Kv) : ∀ p ∈ kvK kv, flatV p.2 = true := fun p hp => by
  obtain ⟨q, _, rfl⟩ := List.mem_map.mp hp
  rfl
theorem keys_put (kv : Kv) (x : Str) (v : Int) : keys (putS kv x v) = if x ∈ keys kv then keys kv else keys kv ++ [x] := by
  have ha : (kv.any fun p => decide (p.1 = x)) = decide (x ∈ keys kv) := by
    rw [Bool.eq_iff_iff]
    simp only [List.any_eq_true, decide_eq_true_eq, keys, List.mem_map]
  unfold putS
  rw [ha]
  by_cases h : x ∈ keys kv
  · rw [if_pos (decide_eq_true h), if_pos h]
    unfold keys
    rw [List.map_map]
    apply List.map_congr_left
    intro p _
    show (if p.1 = x then (p.1, v) else p).1 = p.1
    split <;> rfl
  · rw [if_neg (by simpa using h), if_neg h]
    simp [keys]
theorem nd_put {kv : Kv} (x : Str) (v : Int) (nd : (keys kv).Nodup) : (keys (putS kv x v)).Nodup := by
  rw [keys_put]
  split
  · exact nd
  · rename_i h
    rw [List.nodup_append]
    exact ⟨nd, by simp, fun a ha b hb e => h (by rw [List.mem_singleton] at hb; rw [← hb, ← e]; exact ha)⟩
theorem nd_drop {kv : Kv} (x : Str) (nd : (keys kv).Nodup) : (keys (dropS kv x)).Nodup := nd.sublist (List.filter_sublist.map _)
theorem optInt_inj {a b : Option Int} (h : a.map V.int = b.map V.int) : a = b := by
  cases a <;> cases b <;> simp_all
theorem lookup_put (kv : Kv) (x y : Str) (v : Int) : (putS kv x v).lookup y = if y = x then some v else kv.lookup y := by
  have h1 := valV_kv (putS kv x v) y
  rw [← putK_kv, valV_put, valV_kv] at h1
  by_cases e : y = x
  · rw [if_pos e]
    rw [if_pos (kS_inj.mpr e)] at h1
    cases hq : (putS kv x v).lookup y with
    | none => rw [hq] at h1; cases h1
    | some z => rw [hq] at h1; injection h1 with h2; injection h2 with h3; rw [h3]
  · rw [if_neg e]
    rw [if_neg (fun z => e (kS_inj.mp z))] at h1
    exact (optInt_inj h1).symm
theorem lookup_mem {kv : Kv} {x : Str} {v : Int} (h : kv.lookup x = some v) : (x, v) ∈ kv := by
  induction kv with
  | nil => cases h
  | cons p kv ih =>
    obtain ⟨y, z⟩ := p
    by_cases e : x = y
    · subst e
      simp [List.lookup] at h
      subst h
      exact List.mem_cons_self ..
    · have e2 : (x == y) = false := by simpa using e
      simp [List.lookup, e2] at h
      exact List.mem_cons_of_mem _ (ih h)
theorem mem_lookup {kv : Kv} (nd : (keys kv).Nodup) {x : Str} {v : Int} (h : (x, v) ∈ kv) : kv.lookup x = some v := by
  induction kv with
  | nil => cases h
  | cons p kv ih =>
    obtain ⟨y, z⟩ := p
    have nd' : y ∉ keys kv ∧ (keys kv).Nodup := List.nodup_cons.mp nd
    rcases List.mem_cons.mp h with e | e
    · cases e
      simp [List.lookup]
    · have ne : x ≠ y := fun q => nd'.1 (by rw [← q]; exact List.mem_map.mpr ⟨_, e, rfl⟩)
      have e2 : (x == y) = false := by simpa using ne
      simp [List.lookup, e2]
      exact ih nd'.2 e
theorem lookup_none {kv : Kv} {x : Str} : kv.lookup x = none ↔ x ∉ keys kv := by
  constructor
  · intro h hm
    obtain ⟨p, hp, rfl⟩ := List.mem_map.mp hm
    clear hm
    revert h
    induction kv with
    | nil => cases hp
    | cons q kv ih =>
      rcases List.mem_cons.mp hp with e | e
      · subst e
        intro h
        simp [List.lookup] at h
      · intro h
        refine ih e ?_
        unfold List.lookup at h
        split at h
        · cases h
        · exact h
  · intro h
    cases e : kv.lookup x with
    | none => rfl
    | some v => exact absurd (List.mem_map.mpr ⟨_, lookup_mem e, rfl⟩) h
theorem lookup_drop (kv : Kv) (x y : Str) : (dropS kv x).lookup y = if y = x then none else kv.lookup y := by
  by_cases e : y = x
  · rw [if_pos e]
    refine lookup_none.mpr fun h => ?_
    obtain ⟨p, hp, hq⟩ := List.mem_map.mp h
    have := (List.mem_filter.mp hp).2
    simp [hq, e] at this
  · rw [if_neg e]
    induction kv with
    | nil => rfl
    | cons p kv ih =>
      obtain ⟨z, v⟩ := p
      unfold dropS at ih ⊢
      by_cases ez : z = x
      · have e2 : (y == z) = false := by simpa using fun q : y = z => e (q.trans ez)
        rw [List.filter_cons_of_neg (by simpa using ez), ih]
        simp [List.lookup, e2]
      · rw [List.filter_cons_of_pos (by simpa using ez)]
        by_cases ey : y = z
        · subst ey
          simp [List.lookup]
        · have e2 : (y == z) = false := by simpa using ey
          simp only [List.lookup, e2]
          exact ih
/-- the same values -/
def Eqv (a b : Kv) : Prop := ∀ x, a.lookup x = b.lookup x
theorem Eqv.sub {a b : Kv} (h : Eqv a b) : ∀ x ∈ keys a, x ∈ keys b := fun x hx => by
  cases e : b.lookup x with
  | none => exact absurd hx (lookup_none.mp (by rw [h x]; exact e))
  | some v => exact List.mem_map.mpr ⟨_, lookup_mem e, rfl⟩
theorem Eqv.symm {a b : Kv} (h : Eqv a b) : Eqv b a := fun x => (h x).symm
theorem Eqv.len {a b : Kv} (h : Eqv a b) (na : (keys a).Nodup) (nb : (keys b).Nodup) : a.length = b.length := by
  have h1 := nodup_sub_len na h.sub
  have h2 := nodup_sub_len nb h.symm.sub
  simp only [keys, List.length_map] at h1 h2
  omega
theorem Eqv.put {a b : Kv} (h : Eqv a b) (x : Str) (v : Int) : Eqv (putS a x v) (putS b x v) := fun y => by rw [lookup_put, lookup_put, h y]
theorem Eqv.drop {a b : Kv} (h : Eqv a b) (x : Str) : Eqv (dropS a x) (dropS b x) := fun y => by rw [lookup_drop, lookup_drop, h y]
theorem hitV_kv (b : Kv) (x : Str) (v : Int) : hitV (kvK b) (kS x, V.int v) = decide (b.lookup x = some v) := by
  unfold hitV
  rw [show (kS x, V.int v).1 = kS x from rfl, valV_kv]
  cases e : b.lookup x with
  | none => simp
  | some z =>
    show eqV (V.int v) (V.int z) = _
    unfold eqV
    by_cases q : v = z
    · subst q; simp
    · have q2 : ¬ z = v := fun w => q w.symm
      simp [q, q2]
theorem sameK_iff {a b : Kv} (na : (keys a).Nodup) (nb : (keys b).Nodup) : sameK (kvK a) (kvK b) = true ↔ Eqv a b := by
  unfold sameK
  rw [Bool.and_eq_true, kvK_len, kvK_len, beq_iff_eq, List.all_eq_true]
  constructor
  · rintro ⟨hl, h⟩
    have hin : ∀ x v, a.lookup x = some v → b.lookup x = some v := fun x v e => by
      have := h (kS x, V.int v) (List.mem_map.mpr ⟨(x, v), lookup_mem e, rfl⟩)
      rw [hitV_kv] at this
      exact of_decide_eq_true this
    intro x
    cases e : a.lookup x with
    | some v => exact (hin x v e).symm
    | none =>
      cases e2 : b.lookup x with
      | none => rfl
      | some v =>
        exfalso
        have hs : ∀ y ∈ x :: keys a, y ∈ keys b := fun y hy => by
          rcases List.mem_cons.mp hy with q | q
          · rw [q]; exact List.mem_map.mpr ⟨_, lookup_mem e2, rfl⟩
          · obtain ⟨p, hp, rfl⟩ := List.mem_map.mp q
            exact List.mem_map.mpr ⟨_, lookup_mem (hin p.1 p.2 (mem_lookup na hp)), rfl⟩
        have := nodup_sub_len (List.nodup_cons.mpr ⟨lookup_none.mp e, na⟩) hs
        simp only [keys, List.length_cons, List.length_map] at this
        omega
  · intro h
    refine ⟨h.len na nb, fun q hq => ?_⟩
    obtain ⟨p, hp, rfl⟩ := List.mem_map.mp hq
    rw [hitV_kv]
    exact decide_eq_true (by rw [← h p.1]; exact mem_lookup na hp)
theorem merge_kv : ∀ (acc kv : Kv), (keys (acc ++ kv)).Nodup → mergeK (kvK acc) (kvK kv) = kvK (acc ++ kv)
  | acc, [], _ => by simp [kvK, mergeK]
  | acc, p :: kv, nd => by
    have hp : p.1 ∉ keys acc := fun h => by
      unfold keys at nd h
      rw [List.map_append, List.map_cons, List.nodup_append] at nd
      exact nd.2.2 p.1 h p.1 (List.mem_cons_self ..) rfl
    have e : putK (kvK acc) (kS p.1) (.int p.2) = kvK (acc ++ [p]) := by
      rw [putK_kv]
      unfold putS
      rw [if_neg]
      simp only [List.any_eq_true, decide_eq_true_eq, not_exists, not_and]
      exact fun q hq z => hp (List.mem_map.mpr ⟨q, hq, z⟩)
    show mergeK (putK (kvK acc) (kS p.1) (.int p.2)) (kvK kv) = _
    rw [e, merge_kv (acc ++ [p]) kv (by simpa using nd)]
    simp
end Sw
namespace Sw
open PySem L2 PyProof.Rows PySem.Spec
def leC (a b : List Nat) : Prop := ltCps b a = false
theorem leC_antisymm : ∀ {a b : List Nat}, leC a b → leC b a → a = b
  | [], [], _, _ => rfl
  | [], _ :: _, _, h => by simp [leC, ltCps] at h
  | _ :: _, [], h, _ => by simp [leC, ltCps] at h
  | x :: a, y :: b, h1, h2 => by
    simp only [leC, ltCps, Bool.or_eq_false_iff, decide_eq_false_iff_not, Bool.and_eq_false_iff, beq_eq_false_iff_ne] at h1 h2
    have e : x = y := by omega
    subst e
    have := leC_antisymm (a := a) (b := b) (h1.2.resolve_left (fun z => z rfl)) (h2.2.resolve_left (fun z => z rfl))
    rw [this]
theorem leC_trans : ∀ {a b c : List Nat}, leC a b → leC b c → leC a c
  | [], _, [], _, _ => by simp [leC, ltCps]
  | [], _, _ :: _, _, _ => by simp [leC, ltCps]
  | _ :: _, [], _, h, _ => by simp [leC, ltCps] at h
  | _ :: _, _ :: _, [], _, h => by simp [leC, ltCps] at h
  | x :: a, y :: b, z :: c, h1, h2 => by
    simp only [leC, ltCps, Bool.or_eq_false_iff, decide_eq_false_iff_not, Bool.and_eq_false_iff, beq_eq_false_iff_ne] at h1 h2 ⊢
    refine ⟨by omega, ?_⟩
    by_cases e : z = x
    · right
      have e1 : y = x := by omega
      subst e1
      subst e
      exact leC_trans (a := a) (b := b) (c := c) (h1.2.resolve_left (fun z => z rfl)) (h2.2.resolve_left (fun z => z rfl))
    · exact .inl e
def leS (a b : Str) : Prop := leC a.cps.toList b.cps.toList
theorem leS_antisymm {a b : Str} (h1 : leS a b) (h2 : leS b a) : a = b := by
  have := leC_antisymm h1 h2
  obtain ⟨a⟩ := a
  obtain ⟨b⟩ := b
  congr 1
  exact Array.ext' this
theorem rising_all : ∀ {p : Str} {l : List Str}, risingS p l = true → (p :: l).Pairwise leS
  | p, [], _ => List.pairwise_singleton _ _
  | p, x :: r, h => by
    have h' : (!ltCps x.cps.toList p.cps.toList) = true ∧ risingS x r = true := Bool.and_eq_true_iff.mp h
    have ih := rising_all h'.2
    have px : leS p x := by
      show ltCps x.cps.toList p.cps.toList = false
      simpa using h'.1
    refine List.pairwise_cons.mpr ⟨fun y hy => ?_, ih⟩
    rcases List.mem_cons.mp hy with e | e
    · rw [e]; exact px
    · exact leC_trans px ((List.pairwise_cons.mp ih).1 y e)
theorem sorted_all {l : List Str} (h : sortedS l = true) : l.Pairwise leS := by
  cases l with
  | nil => exact .nil
  | cons x r => exact rising_all h
theorem sorted_one {a b : List Str} (hp : a.Perm b) (ha : sortedS a = true) (hb : sortedS b = true) : a = b :=
  List.Perm.eq_of_pairwise (fun x y _ _ h1 h2 => leS_antisymm h1 h2) (sorted_all ha) (sorted_all hb) hp
end Sw
namespace Sw
open PySem L2 PyProof.Rows PySem.Spec
/-! ### Fails, Context -/
abbrev sFI : Stmt := inClass (top 1) 0
abbrev cM (j : Nat) : Stmt := inClass (top 4) j
def spFI (K : PySem.W.Frag) (CF : Addr) : Sp := fun vs H Q _ => ∃ (a : Addr) (v : V), vs = [.ref a, v] ∧ H a = some (exo a CF none) ∧
  ∀ dx, H dx = none → dx ≠ a → Q .non (upd (upd H dx (exd dx [(("word" : Str), v)])) a (exo a CF (some dx)))
def ctxF (d : Addr) (b g : Bool) : List (Str × V) := [("values_here", .ref d), ("is_busy", .bl b), ("is_sought", .bl g)]
/-- a context at x, its values at d -/
structure CtxAt (C : Addr) (H : Hp) (x d : Addr) (kv : Kv) : Prop where
  x : ∃ dx, H x = some (.ins C dx (ctxF d false false))
  d : H d = some (.dK (kvK kv))
/-- what is known of the class of contexts -/
structure CtxC (K : PySem.W.Frag) (mg : Str → Option Value) (C : Addr) : Prop where
  c : Cls K C
  va : NoAttr K C "values_here"
  bu : NoAttr K C "is_busy"
  so : NoAttr K C "is_sought"
  g : mg "Context" = some (.ref C)
theorem CtxAt.same {C : Addr} {H H' : Hp} {x d : Addr} {kv : Kv} (c : CtxAt C H x d kv) (s : Same H H') : CtxAt C H' x d kv := by
  obtain ⟨dx, e⟩ := c.x
  exact ⟨⟨dx, s _ _ e⟩, s _ _ c.d⟩
theorem CtxAt.keep {C : Addr} {H H' : Hp} {ex : List Addr} {x d : Addr} {kv : Kv} (c : CtxAt C H x d kv) (s : Kp ex H H') (h1 : x ∉ ex) (h2 : d ∉ ex) : CtxAt C H' x d kv := by
  obtain ⟨dx, e⟩ := c.x
  exact ⟨⟨dx, s _ _ e h1⟩, s _ _ c.d h2⟩
/-- pairs, one tuple for each -/
def PrAt (K : PySem.W.Frag) (H : Hp) (ps : List Addr) (ks : Kv) : Prop := Paired (fun p kv => SqT K H p [kV kv.1, kv.2]) ps (kvK ks)
theorem sqT_imp {K : PySem.W.Frag} {G G' : Hp} {p : Addr} {xs : List V} (h : ∀ o, G p = some o → (∀ l, o ≠ .lst l) → G' p = some o) (a : SqT K G p xs) : SqT K G' p xs := by
  rcases a with (e | ⟨o, e⟩) | e
  · exact .inl (.inl (h _ e (fun l z => nomatch z)))
  · exact .inl (.inr ⟨o, h _ e (fun l z => nomatch z)⟩)
  · exact .inr e
theorem PrAt.imp {K : PySem.W.Frag} {G G' : Hp} {ps : List Addr} {ks : Kv} (h : ∀ p o, G p = some o → (∀ l, o ≠ .lst l) → G' p = some o) (a : PrAt K G ps ks) : PrAt K G' ps ks := by
  unfold PrAt at a ⊢
  generalize kvK ks = l at a
  induction a with
  | nil => exact .nil
  | cons x _ ih => exact .cons (sqT_imp (h _) x) ih
theorem PrAt.same {K : PySem.W.Frag} {G G' : Hp} {ps : List Addr} {ks : Kv} (a : PrAt K G ps ks) (h : Same G G') : PrAt K G' ps ks := a.imp fun p o e _ => h p o e
theorem PrAt.snoc {K : PySem.W.Frag} {G : Hp} {ps : List Addr} {ks : Kv} {p : Addr} {x : Str} {v : Int} (a : PrAt K G ps ks) (h : SqT K G p [.str x, .int v]) : PrAt K G (ps ++ [p]) (ks ++ [(x, v)]) := by
  unfold PrAt kvK at *
  rw [List.map_append]
  generalize List.map (fun p : Str × Int => (kS p.1, V.int p.2)) ks = l at a
  induction a with
  | nil => exact .cons h .nil
  | cons x _ ih => exact .cons x ih
theorem PrAt.len {K : PySem.W.Frag} {G : Hp} {ps : List Addr} {ks : Kv} (a : PrAt K G ps ks) : ps.length = ks.length := by
  have := Paired.length a
  rw [kvK_len] at this
  exact this
theorem TupX.same {K : PySem.W.Frag} {G G' : Hp} {a : Addr} {xs : List V} (t : TupX K G a xs) (h : Same G G') : TupX K G' a xs := by
  rcases t with ⟨o, e, q⟩ | e
  · exact .inl ⟨o, h _ _ e, q⟩
  · exact .inr e
/-! promises -/
def spCI (K : PySem.W.Frag) (C : Addr) : Sp := fun vs H Q _ => ∃ (x dx t : Addr) (ps : List Addr) (kv : Kv), vs = [.ref x, .ref t] ∧ H x = some (.ins C dx []) ∧ TupX K H t (ps.map V.ref) ∧ PrAt K H ps kv ∧ (keys kv).Nodup ∧
  ∀ d H', H d = none → CtxAt C H' x d kv → Kp [x] H H' → Q .non H'
def spGet (C CF : Addr) : Sp := fun vs H Q E => ∃ (x d : Addr) (kv : Kv) (n : Str), vs = [.ref x, .str n] ∧ CtxAt C H x d kv ∧ (∀ v, kv.lookup n = some v → Q (.int v) H) ∧
  (kv.lookup n = none → ∀ dd H', H' dd = some (.xd [(("word" : Str), .str "unset")]) → Same H H' → E (.ref CF) (some dd) H')
def spSet (C : Addr) : Sp := fun vs H Q _ => ∃ (x d : Addr) (kv : Kv) (n : Str) (v : Int), vs = [.ref x, .str n, .int v] ∧ CtxAt C H x d kv ∧ kv.length < 60 ∧ ∀ H', CtxAt C H' x d (putS kv n v) → Kp [d] H H' → Q .non H'
def spHas (C : Addr) : Sp := fun vs H Q _ => ∃ (x d : Addr) (kv : Kv) (n : Str), vs = [.ref x, .str n] ∧ CtxAt C H x d kv ∧ Q (.bl (kv.lookup n).isSome) H
def spLen (C : Addr) : Sp := fun vs H Q _ => ∃ (x d : Addr) (kv : Kv), vs = [.ref x] ∧ CtxAt C H x d kv ∧ Q (.int kv.length) H
def spEq (K : PySem.W.Frag) (C : Addr) : Sp := fun vs H Q _ => ∃ (x d : Addr) (kv : Kv) (y : V) (t : Value) (b : Bool), vs = [.ref x, y] ∧ CtxAt C H x d kv ∧ TyX K H y t ∧ PySem.W.kitOne K t (.ref C) = some b ∧
  (b = false → Q (.bl false) H) ∧ (b = true → ∃ (x' d' : Addr) (kv' : Kv), y = .ref x' ∧ CtxAt C H x' d' kv' ∧ Q (.bl (sameK (kvK kv) (kvK kv'))) H)
def spDrop (C : Addr) : Sp := fun vs H Q _ => ∃ (x d : Addr) (kv : Kv) (n : Str), vs = [.ref x, .str n] ∧ CtxAt C H x d kv ∧ ∀ H', CtxAt C H' x d (dropS kv n) → Kp [d] H H' → Q .non H'
def spPairs (K : PySem.W.Frag) (C : Addr) : Sp := fun vs H Q _ => ∃ (x d : Addr) (kv : Kv), vs = [.ref x] ∧ CtxAt C H x d kv ∧ (keys kv).Nodup ∧ kv.length < 60 ∧
  ∀ (t : Addr) (ps : List Addr) (ks : Kv) (H' : Hp), Same H H' → TupX K H' t (ps.map V.ref) → PrAt K H' ps ks → ks.Perm kv → sortedS (keys ks) = true → Q (.ref t) H'
def spCopy (C : Addr) : Sp := fun vs H Q _ => ∃ (x d : Addr) (kv : Kv), vs = [.ref x] ∧ CtxAt C H x d kv ∧ (keys kv).Nodup ∧ kv.length < 60 ∧
  ∀ (x' d' : Addr) (ks : Kv) (H' : Hp), Same H H' → H x' = none → H d' = none → CtxAt C H' x' d' ks → ks.Perm kv → Q (.ref x') H'
def spSame (C : Addr) : Sp := fun vs H Q _ => ∃ (x d y d' : Addr) (kv kv' : Kv), vs = [.ref x, .ref y] ∧ CtxAt C H x d kv ∧ CtxAt C H y d' kv' ∧ Q (.bl (decide (y = x))) H
section
variable {P : Program} {w : World} {K : PySem.W.Frag} {mg : Str → Option Value} {base : Heap}
theorem scFI : FnScope ["self", "word"] ["self", "word"] (defScope sFI) := ⟨rfl, rfl, rfl, by decide +kernel, rfl, by decide +kernel, by decide +kernel⟩
theorem ok_FI {f CF : Addr} {fd : FuncData} (F : Fun K "__init__" "Fails.__init__" sFI f fd) (R : RtC K CF) (hw : PySem.W.findIn K (.ref CF) "word" = some none) (mR : mg "RuntimeError" = none) (vV : PySem.W.findCls K (.type "RuntimeError") (.type "type") "__init__" = some (.val (.builtin "RuntimeError.__init__"))) :
    FnOk P w K mg base CX0 1 f fd ["self", "word"] (spFI K CF) := by
  refine F.ok scFI (fun vs H Q E h => ?_) (fun cdv A outer s H vs Q E hr h => ?_)
  · obtain ⟨a, v, rfl, _⟩ := h
    rfl
  · obtain ⟨a, v, rfl, ea, q⟩ := h
    refine ⟨_, pss_cons (ps_expr (pe_rtinit (by rfl) mR vV (pa_cons (pv 0) (pa_cons pe_str pa_nil)))) (pss_one (ps_rst (pv 0) (pv 1))), ?_⟩
    refine ⟨_, rfl, a, CF, _, rfl, (by show 1 ≤ 1000; decide), R, ea, ?_⟩
    exact ⟨_, rfl, _, rfl, a, CF, rfl, R, hw, ea, q⟩
theorem scCI : FnScope ["self", "pairs"] ["self", "pairs"] (defScope (cM 0)) := ⟨rfl, rfl, rfl, by decide +kernel, rfl, by decide +kernel, by decide +kernel⟩
theorem scGet : FnScope ["self", "variable"] ["self", "variable"] (defScope (cM 1)) := ⟨rfl, rfl, rfl, by decide +kernel, rfl, by decide +kernel, by decide +kernel⟩
theorem scSet : FnScope ["self", "variable", "value"] ["self", "variable", "value"] (defScope (cM 2)) := ⟨rfl, rfl, rfl, by decide +kernel, rfl, by decide +kernel, by decide +kernel⟩
theorem scHas : FnScope ["self", "variable"] ["self", "variable"] (defScope (cM 3)) := ⟨rfl, rfl, rfl, by decide +kernel, rfl, by decide +kernel, by decide +kernel⟩
theorem scLen : FnScope ["self"] ["self"] (defScope (cM 5)) := ⟨rfl, rfl, rfl, by decide +kernel, rfl, by decide +kernel, by decide +kernel⟩
theorem scEq : FnScope ["self", "other"] ["self", "other"] (defScope (cM 6)) := ⟨rfl, rfl, rfl, by decide +kernel, rfl, by decide +kernel, by decide +kernel⟩
theorem scDrop : FnScope ["self", "variable"] ["self", "variable"] (defScope (cM 7)) := ⟨rfl, rfl, rfl, by decide +kernel, rfl, by decide +kernel, by decide +kernel⟩
theorem scPairs : FnScope ["self", "variable"] ["self"] (defScope (cM 8)) := ⟨rfl, rfl, rfl, by decide +kernel, rfl, by decide +kernel, by decide +kernel⟩
theorem scCopy : FnScope ["self"] ["self"] (defScope (cM 9)) := ⟨rfl, rfl, rfl, by decide +kernel, rfl, by decide +kernel, by decide +kernel⟩
theorem scSame : FnScope ["self", "other", "found"] ["self", "other"] (defScope (cM 10)) := ⟨rfl, rfl, rfl, by decide +kernel, rfl, by decide +kernel, by decide +kernel⟩
end
end Sw
namespace Sw
open PySem L2 PyProof.Rows PySem.Spec
theorem drop_none {kv : Kv} {x : Str} (h : kv.lookup x = none) : dropS kv x = kv := by
  unfold dropS
  rw [List.filter_eq_self]
  intro p hp
  have := lookup_none.mp h
  simp only [decide_eq_true_eq]
  exact fun e => this (List.mem_map.mpr ⟨p, hp, e⟩)
theorem fldV (d : Addr) : (ctxF d false false).lookup ("values_here" : Str) = some (V.ref d) := by rfl
theorem upd_back {H : Hp} {x : Addr} {o u : HO} (h : H x = some o) : upd (upd H x u) x o = H := by
  funext b
  by_cases e : b = x
  · rw [e, upd_same, h]
  · rw [upd_ne e, upd_ne e]
theorem kvget {H : Hp} {d : Addr} {kv : Kv} (e : H d = some (.dK (kvK kv))) (n : Str) : DGet H d (.str n) ((kv.lookup n).map V.int) := by
  rw [← valV_kv]
  exact DGet.k (k := kS n) e
section
variable {P : Program} {w : World} {K : PySem.W.Frag} {mg : Str → Option Value} {base : Heap} {C : Addr}
theorem ok_CI {f : Addr} {fd : FuncData} {dvs : List V} {kws : List (Str × V)} (F : FunD K "__init__" "Context.__init__" (defArgs (cM 0)) (defBody (cM 0)) (defScope (cM 0)) dvs kws f fd) (T : CtxC K mg C) (mD : mg "dict" = none) :
    FnOk P w K mg base CX0 1 f fd ["self", "pairs"] (spCI K C) := by
  refine F.ok scCI (fun vs H Q E h => ?_) (fun cdv A outer s H vs Q E hr h => ?_)
  · obtain ⟨x, dx, t, ps, kv, rfl, _⟩ := h
    rfl
  · obtain ⟨x, dx, t, ps, kv, rfl, ex, et, ep, nd, q⟩ := h
    refine ⟨_, pss_cons (ps_fld (pv 0) (pe_callTy (call_dictT rfl) (by rfl) mD (by decide +kernel) (pa_cons (pv 1) pa_nil)) rfl) (pss_cons (ps_fld (pv 0) pe_bl rfl) (pss_one (ps_fld (pv 0) pe_bl rfl))), ?_⟩
    refine ⟨_, rfl, t, ps, kvK kv, rfl, et, ep, fun d hd => ?_⟩
    have nxd : x ≠ d := ne_of_none ex hd
    rw [show mergeK [] (kvK kv) = kvK kv from merge_kv [] kv nd]
    refine ⟨_, rfl, x, C, dx, _, rfl, by rw [upd_ne nxd]; exact ex, T.c, T.va, (by show 0 < 1000; decide), ?_⟩
    refine ⟨_, rfl, x, C, dx, _, rfl, upd_same, T.c, T.bu, (by show 1 < 1000; decide), ?_⟩
    refine ⟨_, rfl, x, C, dx, _, rfl, upd_same, T.c, T.so, (by show 2 < 1000; decide), ?_⟩
    refine q d _ hd ⟨⟨dx, upd_same⟩, ?_⟩ ?_
    · rw [upd_ne nxd.symm, upd_ne nxd.symm, upd_ne nxd.symm]
      exact upd_same
    · exact Kp.put (Kp.put (Kp.put (Kp.new (Kp.refl _ _) hd) (by simp)) (by simp)) (by simp)
theorem ok_get {f CF fI : Addr} {fd fdI : FuncData} (F : Fun K "__getitem__" "Context.__getitem__" (cM 1) f fd) (T : CtxC K mg C) (R : RtC K CF) (gF : mg "Fails" = some (.ref CF)) {tU : Tok} (gU : mg "UNSET" = some (.str "unset" tU))
    (iC : PySem.W.findIn K (.ref CF) "__init__" = some (some (.ref fI))) (tI : PySem.W.typeIn K (.ref fI) = some (.type "function")) (GI : FnOk P w K mg base CX0 1 fI fdI ["self", "word"] (spFI K CF)) (bI : L2.Binds K fdI ["self", "word"] []) :
    FnOk P w K mg base (L2.CX P w) 3 f fd ["self", "variable"] (spGet C CF) := by
  refine F.okX scGet (fun vs H Q E h => ?_) (fun cdv A outer s H vs Q E hr h => ?_)
  · obtain ⟨x, d, kv, n, rfl, _⟩ := h
    rfl
  · obtain ⟨x, d, kv, n, rfl, c, q1, q2⟩ := h
    have hu := hu_of hr
    refine ⟨_, pss_cons (ps_if (pt_cmp (pc_dnotin hu (pv 1) (pe_fld (pv 0) rfl)) (by rfl)) (pss_one (ps_raise (W := fun cls d _ H => E cls d H) rfl (takes_of rfl rfl rfl rfl) (pmk_rt R iC tI GI hr bI pass0 (by rfl) gF (pa_cons (pe_glob (v := .str "unset") (by rfl) gU ⟨_, rfl⟩) pa_nil)))) pss_nil)
      (pss_one (ps_ret (pe_dget hu (pe_fld (pv 0) rfl) (pv 1) (fun _ _ => rfl)))), ?_⟩
    obtain ⟨dx, ex⟩ := c.x
    have fld := fldV d
    refine ⟨_, rfl, _, rfl, x, C, dx, _, _, rfl, ex, T.c, T.va, fld, d, _, rfl, kvget c.d n, _, rfl, ?_⟩
    cases e : kv.lookup n with
    | none =>
      refine iteT ?_
      refine ⟨(by show 1 ≤ 1000; decide), fun a ha => ⟨a, .str "unset", rfl, upd_same, fun dd hd hne => ⟨rfl, dd, [(("word" : Str), .str "unset")], upd_same, ?_, ?_, ?_⟩⟩⟩
      · rw [upd_ne hne, upd_same]
      · rw [upd_ne hne] at hd; exact hd
      · refine q2 e dd _ upd_same fun b o hb => ?_
        have nb : b ≠ a := ne_of_none hb ha
        have nd : b ≠ dd := fun z => by rw [z] at hb; rw [upd_ne hne] at hd; rw [hd] at hb; cases hb
        rw [upd_ne nd, del_ne nb, upd_ne nb, upd_ne nd, upd_ne nb]
        exact hb
    | some v =>
      refine iteF ?_
      refine ⟨_, rfl, x, C, dx, _, _, rfl, ex, T.c, T.va, fld, _, rfl, d, .int v, rfl, ?_, q1 v e⟩
      have := kvget c.d n
      rw [e] at this
      exact this
theorem ok_set {f : Addr} {fd : FuncData} (F : Fun K "__setitem__" "Context.__setitem__" (cM 2) f fd) (T : CtxC K mg C) : FnOk P w K mg base CX0 1 f fd ["self", "variable", "value"] (spSet C) := by
  refine F.ok scSet (fun vs H Q E h => ?_) (fun cdv A outer s H vs Q E hr h => ?_)
  · obtain ⟨x, d, kv, n, v, rfl, _⟩ := h
    rfl
  · obtain ⟨x, d, kv, n, v, rfl, c, hl, q⟩ := h
    have hu := hu_of hr
    refine ⟨_, pss_one (ps_dput hu (pe_fld (pv 0) rfl) (pv 1) (pv 2) rfl), ?_⟩
    obtain ⟨dx, ex⟩ := c.x
    have fld := fldV d
    refine ⟨_, rfl, _, rfl, x, C, dx, _, _, rfl, ex, T.c, T.va, fld, _, rfl, d, _, rfl, DPut.k (k := kS n) c.d (by rw [kvK_len]; exact Nat.lt_trans hl (by decide)), ?_⟩
    rw [putK_kv]
    have nxd : x ≠ d := ne_of ex c.d (by intro z; cases z)
    exact q _ ⟨⟨dx, by rw [upd_ne nxd]; exact ex⟩, upd_same⟩ (Kp.put (Kp.refl _ _) (by simp))
theorem ok_has {f : Addr} {fd : FuncData} (F : Fun K "__contains__" "Context.__contains__" (cM 3) f fd) (T : CtxC K mg C) : FnOk P w K mg base CX0 1 f fd ["self", "variable"] (spHas C) := by
  refine F.ok scHas (fun vs H Q E h => ?_) (fun cdv A outer s H vs Q E hr h => ?_)
  · obtain ⟨x, d, kv, n, rfl, _⟩ := h
    rfl
  · obtain ⟨x, d, kv, n, rfl, c, q⟩ := h
    have hu := hu_of hr
    refine ⟨_, pss_one (ps_ret (pe_cmp (pc_din hu (pv 1) (pe_fld (pv 0) rfl)) (by rfl))), ?_⟩
    obtain ⟨dx, ex⟩ := c.x
    have fld := fldV d
    refine ⟨_, rfl, _, rfl, x, C, dx, _, _, rfl, ex, T.c, T.va, fld, d, _, rfl, kvget c.d n, ?_⟩
    rw [Option.isSome_map]
    exact q
theorem ok_len {f : Addr} {fd : FuncData} (F : Fun K "__len__" "Context.__len__" (cM 5) f fd) (T : CtxC K mg C) (ml : mg "len" = none) : FnOk P w K mg base CX0 1 f fd ["self"] (spLen C) := by
  refine F.ok scLen (fun vs H Q E h => ?_) (fun cdv A outer s H vs Q E hr h => ?_)
  · obtain ⟨x, d, kv, rfl, _⟩ := h
    rfl
  · obtain ⟨x, d, kv, rfl, c, q⟩ := h
    refine ⟨_, pss_one (ps_ret (pe_callB call_lenD (by rfl) ml PySem.boot_len (pa_cons (pe_fld (pv 0) rfl) pa_nil))), ?_⟩
    obtain ⟨dx, ex⟩ := c.x
    have fld := fldV d
    refine ⟨_, rfl, x, C, dx, _, _, rfl, ex, T.c, T.va, fld, d, _, rfl, c.d, ?_⟩
    rw [kvK_len]
    exact q
theorem ok_eq {f : Addr} {fd : FuncData} (F : Fun K "__eq__" "Context.__eq__" (cM 6) f fd) (T : CtxC K mg C) (mi : mg "isinstance" = none) : FnOk P w K mg base CX0 1 f fd ["self", "other"] (spEq K C) := by
  refine F.ok scEq (fun vs H Q E h => ?_) (fun cdv A outer s H vs Q E hr h => ?_)
  · obtain ⟨x, d, kv, y, t, b, rfl, _⟩ := h
    rfl
  · obtain ⟨x, d, kv, y, t, b, rfl, c, ty, kb, q1, q2⟩ := h
    have hu := hu_of hr
    refine ⟨_, pss_one (ps_ret (pe_and (pe_callB call_isi (by rfl) mi (by decide +kernel) (pa_cons (pv 1) (pa_cons (pe_glob (v := .ref C) (by rfl) T.g rfl) pa_nil))) (pe_one (pe_cmpR (op_eqDc hr.units0) (pe_fld (pv 0) rfl) (pe_fld (pv 1) rfl) (nomark _))))), ?_⟩
    refine ⟨_, rfl, y, .ref C, t, .ref C, b, rfl, ClsV.own C, ty, kb, b, rfl, ?_⟩
    cases b with
    | false => exact iteF (q1 rfl)
    | true =>
      refine iteT ?_
      obtain ⟨x', d', kv', rfl, c', q⟩ := q2 rfl
      obtain ⟨dx, ex⟩ := c.x
      obtain ⟨dx', ex'⟩ := c'.x
      have fld := fldV
      exact ⟨_, rfl, x, C, dx, _, _, rfl, ex, T.c, T.va, fld d, _, rfl, x', C, dx', _, _, rfl, ex', T.c, T.va, fld d', d, d', _, _, rfl, rfl, c.d, c'.d, kvK_flat kv, kvK_flat kv', q⟩
theorem ok_drop {f : Addr} {fd : FuncData} (F : Fun K "drop" "Context.drop" (cM 7) f fd) (T : CtxC K mg C) : FnOk P w K mg base CX0 1 f fd ["self", "variable"] (spDrop C) := by
  refine F.ok scDrop (fun vs H Q E h => ?_) (fun cdv A outer s H vs Q E hr h => ?_)
  · obtain ⟨x, d, kv, n, rfl, _⟩ := h
    rfl
  · obtain ⟨x, d, kv, n, rfl, c, q⟩ := h
    refine ⟨_, pss_one (ps_expr (pe_dpop2 (pe_fld (pv 0) rfl) (pv 1) pe_non ⟨rfl, rfl, rfl, rfl⟩)), ?_⟩
    obtain ⟨dx, ex⟩ := c.x
    have fld := fldV d
    have nxd : x ≠ d := ne_of ex c.d (by intro z; cases z)
    refine ⟨_, rfl, x, C, dx, _, _, rfl, ex, T.c, T.va, fld, d, rfl, .inl ⟨_, .inl c.d⟩, _, rfl, kvK kv, kS n, c.d, rfl, fun v hv => ?_, fun hn => ?_⟩
    · rw [dropK_kv]
      exact q _ ⟨⟨dx, by rw [upd_ne nxd]; exact ex⟩, upd_same⟩ (Kp.put (Kp.refl _ _) (by simp))
    · have e : kv.lookup n = none := by
        rw [valV_kv] at hn
        simpa using hn
      refine q _ ⟨⟨dx, ex⟩, ?_⟩ (Kp.refl _ _)
      rw [drop_none e]
      exact c.d
theorem ok_same {f : Addr} {fd : FuncData} (F : Fun K "is_same" "Context.is_same" (cM 10) f fd) (T : CtxC K mg C) : FnOk P w K mg base CX0 1 f fd ["self", "other"] (spSame C) := by
  refine F.ok scSame (fun vs H Q E h => ?_) (fun cdv A outer s H vs Q E hr h => ?_)
  · obtain ⟨x, d, y, d', kv, kv', rfl, _⟩ := h
    rfl
  · obtain ⟨x, d, y, d', kv, kv', rfl, c, c', q⟩ := h
    refine ⟨_, pss_cons (ps_fld (pv 0) pe_bl rfl) (pss_cons (ps_set (i := 2) scSame.nd rfl (Or.inl rfl) (pe_fld (pv 1) rfl)) (pss_cons (ps_fld (pv 0) pe_bl rfl) (pss_one (ps_ret (pv 2))))), ?_⟩
    obtain ⟨dx, ex⟩ := c.x
    obtain ⟨dy, ey⟩ := c'.x
    refine ⟨_, rfl, x, C, dx, _, rfl, ex, T.c, T.so, (by show 3 < 1000; decide), ?_⟩
    have e1 : (upd H x (.ins C dx (putF "is_sought" (.bl true) (ctxF d false false)))) x = some (.ins C dx (ctxF d false true)) := upd_same
    by_cases e : y = x
    · subst e
      refine ⟨_, rfl, y, C, dx, _, _, rfl, e1, T.c, T.so, (by rfl), ?_⟩
      refine ⟨_, rfl, y, C, dx, _, rfl, e1, T.c, T.so, (by show 3 < 1000; decide), ?_⟩
      refine ⟨_, rfl, ?_⟩
      rw [show (HO.ins C dx (putF "is_sought" (.bl false) (ctxF d false true))) = .ins C dx (ctxF d false false) from rfl, upd_back ex]
      simpa using q
    · refine ⟨_, rfl, y, C, dy, _, _, rfl, by rw [upd_ne e]; exact ey, T.c, T.so, (by rfl), ?_⟩
      refine ⟨_, rfl, x, C, dx, _, rfl, e1, T.c, T.so, (by show 3 < 1000; decide), ?_⟩
      refine ⟨_, rfl, ?_⟩
      rw [show (HO.ins C dx (putF "is_sought" (.bl false) (ctxF d false true))) = .ins C dx (ctxF d false false) from rfl, upd_back ex]
      simpa [e] using q
end
end Sw
namespace Sw
open PySem L2 PyProof.Rows PySem.Spec
/-- the pairs by a list of the keys -/
def byK (kv : Kv) (ys : List Str) : Kv := ys.map fun y => (y, (kv.lookup y).getD 0)
theorem keys_byK (kv : Kv) (ys : List Str) : keys (byK kv ys) = ys := by
  unfold keys byK
  rw [List.map_map]
  exact List.map_id' _
theorem byK_self {kv : Kv} (nd : (keys kv).Nodup) : byK kv (keys kv) = kv := by
  unfold byK keys
  rw [List.map_map]
  conv => rhs; rw [← List.map_id kv]
  apply List.map_congr_left
  intro p hp
  have := mem_lookup nd (x := p.1) (v := p.2) hp
  show (p.1, (kv.lookup p.1).getD 0) = p
  rw [this]
  rfl
theorem byK_perm {kv : Kv} {ys : List Str} (nd : (keys kv).Nodup) (h : ys.Perm (keys kv)) : (byK kv ys).Perm kv := by
  have := h.map fun y => (y, (kv.lookup y).getD 0)
  have e := byK_self nd
  unfold byK at e
  rw [e] at this
  exact this
section
variable {P : Program} {w : World} {K : PySem.W.Frag} {mg : Str → Option Value} {base : Heap} {C : Addr}
theorem ok_pairs {f : Addr} {fd : FuncData} (F : Fun K "pairs" "Context.pairs" (cM 8) f fd) (T : CtxC K mg C) (mt : mg "tuple" = none) (ms : mg "sorted" = none) : FnOk P w K mg base CX0 1 f fd ["self"] (spPairs K C) := by
  refine F.ok scPairs (fun vs H Q E h => ?_) (fun cdv A outer s H vs Q E hr h => ?_)
  · obtain ⟨x, d, kv, rfl, _⟩ := h
    rfl
  · obtain ⟨x, d, kv, rfl, c, nd, hl, q⟩ := h
    have hu := hu_of hr
    refine ⟨_, pss_one (ps_ret (pe_callTy call_tupleZ (by rfl) mt (by decide +kernel) (pa_cons
      (pe_lc (own := [("variable", 1)]) (g := gName 1) (tt := tYes) (te := tTup (tCons (tVar 1) (tCons (tDGet (tFld K (tVar 0) "values_here") (tVar 1)) tNil))) rfl scPairs.nd (pi_list (pe_callB (call_sortedD rfl) (by rfl) ms (by decide +kernel) (pa_cons (pe_fld (pv 0) rfl) pa_nil))) (blkOk_by (N := ["self", "variable"]) (sc := defScope (cM 8)) (by decide +kernel))
        (fun _ _ _ _ _ => pg_name (i := 1) scPairs.nd rfl (Or.inl rfl)) (fun _ _ _ _ _ => pts_nil)
        (fun _ _ _ _ _ => pe_tup (pa_cons (pv 1) (pa_cons (pe_dget (by exact hu) (pe_fld (pv 0) rfl) (pv 1) (fun _ _ => rfl)) pa_nil)))) pa_nil))), ?_⟩
    obtain ⟨dx, ex⟩ := c.x
    have fld := fldV d
    refine ⟨_, rfl, x, C, dx, _, _, rfl, ex, T.c, T.va, fld, d, kvK kv, keys kv, rfl, .inl c.d, kvK_keys kv, (by unfold keys; rw [List.length_map]; omega), fun ys p hp hs np => ?_⟩
    refine ⟨p, rfl, ⟨_, SqL.of upd_same⟩, fun D hD => ?_⟩
    have nDp : p ≠ D := ne_of_none upd_same hD
    have nH : H D = none := (Same.up np).free hD
    refine lc_list (K := K) (a := p) (xs := ys.map V.str) (fun i G => Same (upd H p (.lst (ys.map V.str))) G ∧ ∃ ps : List Addr, G D = some (.lst (ps.map V.ref)) ∧ PrAt K G ps (byK kv (ys.take i))) ⟨Same.up hD, [], upd_same, .nil⟩ (fun i G _ ⟨s1, _⟩ => SqL.of (s1 _ _ upd_same)) ?_ ?_
    · rintro i v G hi ⟨s1, ps, e1, e2⟩
      have hil : i < ys.length := by simpa using (List.getElem?_eq_some_iff.mp hi).1
      obtain rfl : v = V.str ys[i] := by
        rw [List.getElem?_map, List.getElem?_eq_getElem hil] at hi
        exact (Option.some.inj hi).symm
      have sH : Same H G := (Same.up np).trans s1
      have hm : ys[i] ∈ keys kv := hp.subset (List.getElem_mem hil)
      obtain ⟨val, hv⟩ : ∃ val, kv.lookup ys[i] = some val := by
        cases e : kv.lookup ys[i] with
        | none => exact absurd hm (lookup_none.mp e)
        | some z => exact ⟨z, rfl⟩
      refine ⟨rfl, ?_⟩
      have kg := kvget (sH _ _ c.d) ys[i]
      rw [hv] at kg
      refine ⟨_, rfl, _, rfl, x, C, dx, _, _, rfl, sH _ _ ex, T.c, T.va, fld, _, rfl, d, .int val, rfl, kg, (by show 2 ≤ sizeLine; decide), fun l nl => ?_⟩
      have nlD : D ≠ l := ne_of_none e1 nl
      refine ⟨_, by rw [upd_ne nlD]; exact e1, ?_, ?_, ps ++ [l], ?_, ?_⟩
      · rw [List.length_map, e2.len]
        unfold byK
        rw [List.length_map, List.length_take]
        have : ys.length = kv.length := by rw [hp.length_eq]; unfold keys; rw [List.length_map]
        exact Nat.lt_of_le_of_lt (m := 60) (by omega) (by decide)
      · exact Same.mut (Same.new s1 nl) hD
      · rw [upd_same, List.map_append]
        rfl
      · rw [List.take_succ_eq_append_getElem hil]
        unfold byK
        rw [List.map_append]
        have := hv
        simp only [List.map_cons, List.map_nil, hv, Option.getD_some]
        refine PrAt.snoc (PrAt.imp (fun q o h hn => ?_) e2) (.inl (.inl ?_))
        · have nq : q ≠ D := fun z => by rw [z, e1] at h; exact hn _ (Option.some.inj h).symm
          rw [upd_ne nq, upd_ne (ne_of_none h nl)]
          exact h
        · rw [upd_ne nlD.symm, upd_same]
    · rintro G ⟨s1, ps, e1, e2⟩
      rw [List.length_map, List.take_length] at e2
      refine ⟨D, _, rfl, SqL.of e1, fun t o nt ho => ?_⟩
      refine q t ps (byK kv ys) _ (Same.new ((Same.up np).trans s1) nt) (.inl ⟨o, upd_same, ho⟩) (e2.same (Same.up nt)) (byK_perm nd hp) ?_
      rw [keys_byK]
      exact hs
theorem ok_copy {f fI fP : Addr} {fd fdI fdP : FuncData} (F : Fun K "copy" "Context.copy" (cM 9) f fd) (T : CtxC K mg C) (M : Mk K C fI) (mP : Meth K C "pairs" fP) (GI : FnOk P w K mg base CX0 1 fI fdI ["self", "pairs"] (spCI K C)) (bI : L2.Binds K fdI ["self", "pairs"] [])
    (GP : FnOk P w K mg base CX0 1 fP fdP ["self"] (spPairs K C)) (bP : L2.Binds K fdP ["self"] []) : FnOk P w K mg base CX0 3 f fd ["self"] (spCopy C) := by
  refine F.ok scCopy (fun vs H Q E h => ?_) (fun cdv A outer s H vs Q E hr h => ?_)
  · obtain ⟨x, d, kv, rfl, _⟩ := h
    rfl
  · obtain ⟨x, d, kv, rfl, c, nd, hl, q⟩ := h
    refine ⟨_, pss_one (ps_ret (pe_make M GI hr (by rfl) T.g bI .nil pass0 (pa_cons (pe_meth0 (pv 0) T.c mP GP (hr.mono (by decide)) bP .nil pass0) pa_nil))), ?_⟩
    obtain ⟨dx, ex⟩ := c.x
    refine ⟨_, rfl, x, dx, _, rfl, ex, (by rfl), x, d, kv, rfl, c, nd, hl, fun t ps ks H1 s1 ht hp pm hs => ?_⟩
    intro x' dx' nx ndx nne
    have s2 : Same H1 (upd (upd H1 dx' (.own x')) x' (.ins C dx' [])) := Same.mut (Same.up ndx) nx
    refine ⟨x', dx', t, ps, ks, rfl, upd_same, ht.same s2, hp.same s2, ?_, fun d' H2 nd' c' k => ⟨rfl, ?_⟩⟩
    · exact (pm.map (fun p : Str × Int => p.1)).nodup_iff.mpr nd
    · refine q x' d' ks H2 (fun b o e => ?_) (s1.free nx) (s1.free (s2.free nd')) c' pm
      refine k b o (s2 _ _ (s1 _ _ e)) ?_
      simp only [List.mem_singleton]
      exact ne_of_none (s1 _ _ e) nx
end
end Sw
namespace Sw
open PySem L2 PyProof.Rows PySem.Spec
abbrev sValue : Stmt := top 12
def okV (v : Int) : Prop := -(10 ^ 60) ≤ v ∧ v ≤ 10 ^ 60
def spValue : Sp := fun vs H Q _ => ∃ (st cl lf : Addr) (rm : V) (a : Int), vs = [.ref st] ∧ StAt H st cl lf rm a ∧ a ≤ 2 ^ 49 ∧
  ∀ (v a' : Int) (H' : Hp), okV v → StAt H' st cl lf rm a' → a ≤ a' → a' ≤ a + 4 → Kp [st, lf] H H' → Q (.int v) H'
section
variable {P : Program} {w : World} {K : PySem.W.Frag} {mg : Str → Option Value} {base : Heap}
theorem scValue : FnScope ["state", "number"] ["state"] (defScope sValue) := ⟨rfl, rfl, rfl, by decide +kernel, rfl, by decide +kernel, by decide +kernel⟩
theorem ok_value {f fD : Addr} {fd fdD : FuncData} (F : Fun K "_law_value" "_law_value" sValue f fd) (GD : FnOk P w K mg base CX0 2 fD fdD ["state", "many"] spDraw) (cD : Cl K mg "_law_draw" fD fdD ["state", "many"]) :
    FnOk P w K mg base CX0 3 f fd ["state"] spValue := by
  refine F.ok scValue (fun vs H Q E h => ?_) (fun cdv A outer s H vs Q E hr h => ?_)
  · obtain ⟨st, cl, lf, rm, a, rfl, _⟩ := h
    rfl
  · obtain ⟨st, cl, lf, rm, a, rfl, S, ha, q⟩ := h
    refine ⟨_, pss_mid (ps_set (i := 1) scValue.nd rfl (Or.inl rfl) (pe_ix ix_list (pe_lst (pa_cons pe_int (pa_cons pe_int (pa_cons pe_int (pa_cons (pe_call GD hr (by rfl) cD.g cD.k cD.b .nil pass0 (pa_cons (pv 0) (pa_cons pe_int pa_nil))) (pa_cons (pe_call GD hr (by rfl) cD.g cD.k cD.b .nil pass0 (pa_cons (pv 0) (pa_cons (pe_op op_pow pe_int pe_int) pa_nil))) pa_nil)))))) (pe_call GD hr (by rfl) cD.g cD.k cD.b .nil pass0 (pa_cons (pv 0) (pa_cons pe_int pa_nil))) (fun _ _ => rfl)))
      (pss_one (ps_ret (pe_ifExp (pt_cmpR op_gt (pe_call GD hr (by rfl) cD.g cD.k cD.b .nil pass0 (pa_cons (pv 0) (pa_cons pe_int pa_nil))) pe_int (nomark _)) (pv 1) (pe_op op_sub pe_int (pv 1))))), ?_⟩
    refine ⟨fun σ1 G => ∃ v a1 : Int, σ1 = [some (.ref st), some (.int v)] ∧ okV v ∧ StAt G st cl lf rm a1 ∧ a ≤ a1 ∧ a1 ≤ a + 3 ∧ Kp [st, lf] H G, ?_, ?_⟩
    · refine ⟨_, rfl, st, cl, lf, rm, a, _, rfl, S, by omega, by decide, by decide, fun r1 H1 h1 h2 S1 k1 => ?_⟩
      refine ⟨_, rfl, _, _, rfl, rfl, ⟨by decide, by decide, by decide⟩, st, cl, lf, rm, a + 1, _, rfl, S1, by omega, by decide, by decide, fun r2 H2 h3 h4 S2 k2 => ?_⟩
      refine ⟨(by show 5 ≤ sizeLine; decide), fun l nl => ?_⟩
      have ap := S2.apart nl
      refine ⟨_, rfl, st, cl, lf, rm, a + 1 + 1, _, rfl, S2.new nl, by omega, by decide, by decide, fun r3 H3 h5 h6 S3 k3 => ?_⟩
      have el : H3 l = some (lI [0, 1, 5, r1, r2]) := k3 _ _ upd_same (by simp [ap.1, ap.2.2])
      obtain ⟨v, j, ej, hj, hv, hm, _⟩ := at_drawn (xs := [0, 1, 5, r1, r2]) (n := 5) (by simp) h5 h6
      have h2' : r1 < 10000 := h2
      have h4' : r2 < 10 ^ 60 := h4
      refine ⟨l, _, _, .int v, rfl, rfl, SqL.of el, ?_, v, a + 1 + 1 + 1, rfl, ?_, S3, by omega, by omega, ?_⟩
      · rw [ej]
        exact atI_nat (by rw [List.getElem?_map, hv]; rfl)
      · unfold okV
        simp only [List.mem_cons, List.not_mem_nil, or_false] at hm
        rcases hm with rfl | rfl | rfl | rfl | rfl <;> constructor <;> omega
      · exact (k1.trans k2).trans (fun b o e n => k3 b o (by rw [upd_ne (ne_of_none e nl)]; exact e) n)
    · rintro _ G ⟨v, a1, rfl, hv, S1, g1, g2, k⟩
      refine ⟨_, rfl, st, cl, lf, rm, a1, _, rfl, S1, by omega, by decide, by decide, fun r H1 h1 h2 S2 k2 => ?_⟩
      refine ⟨_, _, rfl, rfl, _, rfl, ?_⟩
      refine ite2 (fun _ => ?_) (fun _ => ?_)
      · exact ⟨_, rfl, q v (a1 + 1) H1 hv S2 (by omega) (by omega) (k.trans k2)⟩
      · refine ⟨_, rfl, _, _, rfl, rfl, q _ (a1 + 1) H1 ?_ S2 (by omega) (by omega) (k.trans k2)⟩
        obtain ⟨z1, z2⟩ := hv
        exact ⟨by omega, by omega⟩
end
end Sw
namespace Sw
open PySem L2 PyProof.Rows PySem.Spec
/-! ### pairs as data -/
def pd (p : Str × Int) : PyData := .tuple [.str p.1, .int p.2]
def okP (p : Str × Int) : Prop := nameB p.1 = true ∧ okV p.2
theorem dp_pairs {K : PySem.W.Frag} {H : Hp} {ps : List Addr} {ks : Kv} (h : PrAt K H ps ks) : DpAll K H (ps.map V.ref) (ks.map pd) := by
  unfold PrAt kvK at h
  induction ks generalizing ps with
  | nil => cases h; exact .nil
  | cons k ks ih =>
    cases h with
    | cons a b => exact .cons (.tup a (.cons (.str _) (.cons (.int _) .nil))) (ih b)
theorem nameB_cps {z : Str} (h : nameB z = true) : ∀ c ∈ z.cps.toList, 97 ≤ c ∧ c ≤ 122 := by
  unfold nameB at h
  simp only [Bool.and_eq_true, List.all_eq_true, decide_eq_true_eq] at h
  exact h.2
theorem nameB_len {z : Str} (h : nameB z = true) : 1 ≤ z.length ∧ z.length ≤ 8 := by
  unfold nameB at h
  simp only [Bool.and_eq_true, decide_eq_true_eq] at h
  exact h.1
theorem name_repr {z : Str} (h : nameB z = true) : (reprText z).length ≤ 82 := by
  have h1 := PySem.StrLaws.reprText_len z (fun c hc => Nat.lt_of_le_of_lt (nameB_cps h c hc).2 (by decide))
  have h2 := (nameB_len h).2
  omega
theorem val_abs {v : Int} (h : okV v) : v.natAbs < 10 ^ 61 := by
  obtain ⟨h1, h2⟩ := h
  have : (10 : Int) ^ 60 = ((10 ^ 60 : Nat) : Int) := by decide
  have h3 : (10 : Nat) ^ 60 < 10 ^ 61 := by decide
  rw [this] at h1 h2
  generalize (10 : Nat) ^ 60 = q at *
  generalize (10 : Nat) ^ 61 = q' at *
  omega
theorem val_text {v : Int} (h : okV v) : ((toString v : String) : Str).length ≤ 62 := by
  rw [PySem.ofString_length]
  exact PySem.int_text_length_le10 (by decide) (val_abs h)
theorem val_shows {v : Int} (h : okV v) : decide (v.natAbs.log2 < 1920) = true := by
  have := val_abs h
  refine decide_eq_true ?_
  by_cases e : v.natAbs = 0
  · rw [e]; decide
  · exact (Nat.log2_lt e).mpr (Nat.lt_trans this (by decide +kernel))
theorem strOk_name {z : Str} (h : nameB z = true) : PyData.strOk z = true := by
  unfold PyData.strOk
  rw [← Array.all_toList, List.all_eq_true]
  intro c hc
  exact decide_eq_true (Nat.lt_of_le_of_lt (nameB_cps h c hc).2 (by decide))
theorem canLay_all : ∀ {ks : Kv}, (∀ p ∈ ks, okP p) → PyData.canLayAll0 (ks.map pd) = true
  | [], _ => by simp [PyData.canLayAll0]
  | k :: ks, h => by
    have h1 := h k List.mem_cons_self
    have ih := canLay_all (ks := ks) fun p hp => h p (List.mem_cons_of_mem _ hp)
    simp [PyData.canLayAll0, pd, PyData.canLay0, strOk_name h1.1, ih]
theorem depth_all : ∀ (ks : Kv), PyData.depthAll (ks.map pd) ≤ 1
  | [] => by simp [PyData.depthAll]
  | k :: ks => by
    have ih := depth_all ks
    simp only [List.map_cons, PyData.depthAll, pd, PyData.depth]
    omega
theorem show_all : ∀ {ks : Kv}, (∀ p ∈ ks, okP p) → PyData.showableAll (ks.map pd) = true
  | [], _ => by simp [PyData.showableAll]
  | k :: ks, h => by
    have h1 := h k List.mem_cons_self
    have ih := show_all (ks := ks) fun p hp => h p (List.mem_cons_of_mem _ hp)
    have h2 := val_shows h1.2
    simp only [List.map_cons, PyData.showableAll, pd, PyData.showable, ih, h2, Bool.and_true]
theorem nodict_all : ∀ (ks : Kv), PyData.hasDictAll (ks.map pd) = false
  | [] => by simp [PyData.hasDictAll]
  | k :: ks => by
    have ih := nodict_all ks
    simp [PyData.hasDictAll, pd, PyData.hasDict, ih]
theorem tupText_le (ts : List Str) : (tupleText ts).length ≤ piled ts + 3 := by
  unfold tupleText
  rw [strLen_append, strLen_append]
  have e1 : ((("(" : String) : Str)).length = 1 := rfl
  have e2 : ((if ts.length == 1 then ",)" else ")" : String) : Str).length ≤ 2 := by split <;> decide +kernel
  by_cases e : ts = []
  · subst e
    have : (Str.join ", " ([] : List Str)).length = 0 := rfl
    rw [e1, this]
    omega
  · have := join_length_add ts e
    rw [e1]
    omega
theorem pd_shown {p : Str × Int} (h : okP p) : (pd p).shown.length ≤ 160 := by
  unfold pd
  simp only [PyData.shown, PyData.shownAll]
  refine Nat.le_trans (tupText_le _) ?_
  rw [piled_cons, piled_cons, piled_nil]
  have h1 := name_repr h.1
  have h2 := val_text h.2
  omega
theorem piled_all : ∀ {ks : Kv}, (∀ p ∈ ks, okP p) → piled (PyData.shownAll (ks.map pd)) ≤ 162 * ks.length
  | [], _ => by simp [PyData.shownAll, piled]
  | k :: ks, h => by
    have h1 := pd_shown (h k List.mem_cons_self)
    have ih := piled_all (ks := ks) fun p hp => h p (List.mem_cons_of_mem _ hp)
    simp only [List.map_cons, PyData.shownAll, piled_cons, List.length_cons]
    omega
/-- what the repr of pairs asks for -/
theorem tup_repr {ks : Kv} (h : ∀ p ∈ ks, okP p) (hl : ks.length ≤ 60) : (PyData.tuple (ks.map pd)).showable = true ∧ (PyData.tuple (ks.map pd)).hasDict = false ∧ (PyData.tuple (ks.map pd)).depth ≤ 60 ∧ (PyData.tuple (ks.map pd)).shown.length ≤ sizeLine := by
  refine ⟨?_, ?_, ?_, ?_⟩
  · simpa only [PyData.showable] using show_all h
  · simpa only [PyData.hasDict] using nodict_all ks
  · simp only [PyData.depth]
    have := depth_all ks
    omega
  · simp only [PyData.shown]
    refine Nat.le_trans (tupText_le _) ?_
    have := piled_all h
    rw [sizeLine_eq]
    omega
theorem list_shaped {ks : Kv} (h : ∀ p ∈ ks, okP p) : SeqAt.shaped (.list (ks.map pd)) = true := by
  unfold SeqAt.shaped
  rw [Bool.and_eq_true]
  refine ⟨by simpa only [PyData.canLay0] using canLay_all h, decide_eq_true ?_⟩
  simp only [PyData.depth]
  have := depth_all ks
  omega
theorem nil_eqv (ks : Kv) : PyData.eqv (.list (ks.map pd)) (.list []) = ks.isEmpty := by
  cases ks <;> simp [PyData.eqv, PyData.eqvAll]
end Sw
namespace Sw
open PySem L2 PyProof.Rows PySem.Spec
abbrev sMade : Stmt := top 14
/-- a row: a context and the dict that is due -/
structure RowO (C : Addr) (zs : List Str) (H : Hp) (r x d w : Addr) (kv kw : Kv) : Prop where
  hr : H r = some (.lst [.ref x, .ref w])
  hc : CtxAt C H x d kv
  hw : H w = some (.dK (kvK kw))
  ne : d ≠ w
  nk : (keys kv).Nodup
  nw : (keys kw).Nodup
  e : Eqv kv kw
  sub : ∀ y ∈ keys kv, y ∈ zs
  ok : ∀ p ∈ kv, okV p.2
def spMade (K : PySem.W.Frag) (C : Addr) : Sp := fun vs H Q _ => ∃ (st cl lf nm : Addr) (rm : V) (a : Int) (zs : List Str), vs = [.ref st, .ref nm] ∧ StAt H st cl lf rm a ∧ a ≤ 2 ^ 48 ∧ H nm = some (.lst (zs.map V.str)) ∧ zs.Nodup ∧ (∀ z ∈ zs, nameB z = true) ∧ zs.length ≤ 10 ∧
  ∀ (r x d w : Addr) (kv kw : Kv) (a' : Int) (H' : Hp), RowO C zs H' r x d w kv kw → H r = none → H x = none → H d = none → H w = none → StAt H' st cl lf rm a' → a ≤ a' → a' ≤ a + 22 → Kp [st, lf] H H' → Q (.ref r) H'
def TupO (o : HO) : Prop := (∃ xs, o = .tup xs) ∨ ∃ u xs, o = .frz u (.tup xs)
theorem PrAt.imp2 {K : PySem.W.Frag} {G G' : Hp} {ps : List Addr} {ks : Kv} (h : ∀ p o, G p = some o → TupO o → G' p = some o) (a : PrAt K G ps ks) : PrAt K G' ps ks := by
  unfold PrAt at a ⊢
  generalize kvK ks = l at a
  induction a with
  | nil => exact .nil
  | cons x _ ih =>
    refine .cons ?_ ih
    rcases x with (e | ⟨o, e⟩) | e
    · exact .inl (.inl (h _ _ e (.inl ⟨_, rfl⟩)))
    · exact .inl (.inr ⟨o, h _ _ e (.inr ⟨_, _, rfl⟩)⟩)
    · exact .inr e
theorem notTup_lst {l : List V} : ¬ TupO (.lst l) := by rintro (⟨xs, e⟩ | ⟨u, xs, e⟩) <;> cases e
theorem notTup_dK {l : List (Key × V)} : ¬ TupO (.dK l) := by rintro (⟨xs, e⟩ | ⟨u, xs, e⟩) <;> cases e
theorem notTup_ins {C d : Addr} {l : List (Str × V)} : ¬ TupO (.ins C d l) := by rintro (⟨xs, e⟩ | ⟨u, xs, e⟩) <;> cases e
theorem PrAt.kpS {K : PySem.W.Frag} {G G' : Hp} {ps : List Addr} {ks : Kv} {st cl lf : Addr} {rm : V} {a : Int} (p : PrAt K G ps ks) (S : StAt G st cl lf rm a) (k : Kp [st, lf] G G') : PrAt K G' ps ks := by
  refine p.imp2 fun q o e t => k q o e ?_
  obtain ⟨cs, ls, e1, e2, _⟩ := S.c
  simp only [List.mem_cons, List.not_mem_nil, or_false, not_or]
  exact ⟨fun z => by rw [z, S.d] at e; exact notTup_dK (Option.some.inj e ▸ t), fun z => by rw [z, e2] at e; exact notTup_lst (Option.some.inj e ▸ t)⟩
theorem PrAt.putL {K : PySem.W.Frag} {G : Hp} {ps : List Addr} {ks : Kv} {D : Addr} {l : List V} {o : HO} (p : PrAt K G ps ks) (e : G D = some (.lst l)) : PrAt K (upd G D o) ps ks :=
  p.imp2 fun q u h t => by
    rw [upd_ne (fun z => by rw [z, e] at h; exact notTup_lst (Option.some.inj h ▸ t))]
    exact h
theorem PrAt.app {K : PySem.W.Frag} {G : Hp} {ps qs : List Addr} {ks ls : Kv} (a : PrAt K G ps ks) (b : PrAt K G qs ls) : PrAt K G (ps ++ qs) (ks ++ ls) := by
  induction ks generalizing ps with
  | nil => cases a; exact b
  | cons k ks ih =>
    cases a with
    | cons x y => exact .cons x (ih y)
theorem PrAt.rev {K : PySem.W.Frag} {G : Hp} : ∀ {ps : List Addr} {ks : Kv}, PrAt K G ps ks → PrAt K G ps.reverse ks.reverse
  | [], [], _ => .nil
  | p :: ps, k :: ks, h => by
    cases h with
    | cons x y =>
      rw [List.reverse_cons, List.reverse_cons]
      exact (PrAt.rev (ks := ks) y).app (.cons x .nil)
theorem perm_eqv {a b : Kv} (p : a.Perm b) (nb : (keys b).Nodup) : Eqv a b := fun x => by
  have na : (keys a).Nodup := (p.map (fun p : Str × Int => p.1)).nodup_iff.mpr nb
  cases e : b.lookup x with
  | some v => exact mem_lookup na (p.mem_iff.mpr (lookup_mem e))
  | none => exact lookup_none.mpr fun h => lookup_none.mp e ((p.map (fun p : Str × Int => p.1)).mem_iff.mp h)
theorem perm_nd {a b : Kv} (p : a.Perm b) (nb : (keys b).Nodup) : (keys a).Nodup := (p.map (fun p : Str × Int => p.1)).nodup_iff.mpr nb
theorem cut4 (xs : List V) : cutV xs none (some 4) = xs.take 4 := by
  unfold cutV
  rw [HT.sIx_none, show (some 4 : Option Int) = some ((4 : Nat) : Int) from rfl, HT.sIx_nat, List.drop_zero, Nat.sub_zero]
  rw [← List.take_take, List.take_length]
/-- how the class of contexts is called -/
structure CtxM (K : PySem.W.Frag) (C fI : Addr) (fdI : FuncData) : Prop where
  M : Mk K C fI
  b : L2.Binds K fdI ["self", "pairs"] []
  b0 : ∃ (T0 : Addr) (ds : List Value), Vals [V.ref T0] ds ∧ L2.Binds K fdI ["self", "pairs"] ds ∧ ∀ H, TupX K H T0 []
  k : KBn K fdI ["self", "pairs"] 1 ["pairs"] (fun us ws => us ++ ws) (fun vs zs => vs ++ zs)
section
variable {P : Program} {w : World} {K : PySem.W.Frag} {mg : Str → Option Value} {base : Heap} {C : Addr}
def nMade : List Str := ["state", "names", "some", "values", "turned", "way", "name"]
theorem scMade : FnScope nMade ["state", "names"] (defScope sMade) := ⟨rfl, rfl, rfl, by decide +kernel, rfl, by decide +kernel, by decide +kernel⟩
theorem ok_made {f fD fV fI : Addr} {fd fdD fdV fdI : FuncData} (F : Fun K "_law_made" "_law_made" sMade f fd) (T : CtxC K mg C) (GD : FnOk P w K mg base CX0 2 fD fdD ["state", "many"] spDraw) (cD : Cl K mg "_law_draw" fD fdD ["state", "many"])
    (GV : FnOk P w K mg base CX0 3 fV fdV ["state"] spValue) (cV : Cl K mg "_law_value" fV fdV ["state"]) (GI : FnOk P w K mg base CX0 1 fI fdI ["self", "pairs"] (spCI K C)) (cI : CtxM K C fI fdI) (mt : mg "tuple" = none) (md : mg "dict" = none) :
    FnOk P w K mg base CX0 4 f fd ["state", "names"] (spMade K C) := by
  refine F.ok scMade (fun vs H Q E h => ?_) (fun cdv A outer s H vs Q E hr h => ?_)
  · obtain ⟨st, cl, lf, nm, rm, a, zs, rfl, _⟩ := h
    rfl
  · obtain ⟨st, cl, lf, nm, rm, a, zs, rfl, S, ha, en, nz, oz, lz, q⟩ := h
    have h2 : Room 2 (A.deeper (envOfC "_law_made" (defScope sMade) s.heap.objs.size f cdv)) := hr.mono (by decide)
    obtain ⟨T0, ds, rds, b0, t0⟩ := cI.b0
    refine ⟨_, pss_mid (ps_setLc (i := 2) (own := [("name", 6)]) (g := gName 6) rfl scMade.nd rfl rfl (sw_true rfl rfl rfl rfl) (pi_list (pe_slice sl_list (pv 1) po_none (po_some pe_int))) (blkOk_by (N := nMade) (sc := defScope sMade) (by decide +kernel)) (fun _ _ _ _ _ => pg_name (i := 6) scMade.nd rfl (Or.inl rfl))
          (fun _ _ _ _ _ => pts_one (pt_cmpR op_eq (pe_call GD h2 (by rfl) cD.g cD.k cD.b .nil pass0 (pa_cons (pv 0) (pa_cons pe_int pa_nil))) pe_int (by rfl))) (fun _ _ _ _ _ => pv 6))
      (pss_mid (ps_setLc (i := 3) (own := [("name", 6)]) (g := gName 6) (tt := tYes) rfl scMade.nd rfl rfl (sw_true rfl rfl rfl rfl) (pi_list (pv 2)) (blkOk_by (N := nMade) (sc := defScope sMade) (by decide +kernel)) (fun _ _ _ _ _ => pg_name (i := 6) scMade.nd rfl (Or.inl rfl)) (fun _ _ _ _ _ => pts_nil)
          (fun _ _ _ _ _ => pe_tup (pa_cons (pv 6) (pa_cons (pe_call GV hr (by rfl) cV.g cV.k cV.b .nil pass0 (pa_cons (pv 0) pa_nil)) pa_nil))))
      (pss_mid (ps_set (i := 4) scMade.nd rfl (Or.inl rfl) (pe_ifExp (pt_cmpR op_eq (pe_call GD h2 (by rfl) cD.g cD.k cD.b .nil pass0 (pa_cons (pv 0) (pa_cons pe_int pa_nil))) pe_int (by rfl)) (pe_revL (pv 3)) (pv 3)))
      (pss_mid (ps_set (i := 5) scMade.nd rfl (Or.inl rfl) (pe_call GD h2 (by rfl) cD.g cD.k cD.b .nil pass0 (pa_cons (pv 0) (pa_cons pe_int pa_nil))))
      (pss_mid (ps_if (PW.pt (pw_and (pt_cmpR op_eq (pv 5) pe_int (by rfl)) (pw_and1 (pt_cmpR (op_eqD hr.units) (pv 3) (pe_lst pa_nil) (by rfl)))))
        (pss_one (ps_ret (pe_lst (pa_cons (pe_make0 cI.M GI h2 (by rfl) T.g b0 rds pass0) (pa_cons pe_dnewK pa_nil))))) pss_nil)
      (pss_one (ps_ret (pe_lst (pa_cons (pe_ifExp (pt_cmpR op_eq (pv 5) pe_int (by rfl))
          (pe_makeK0 cI.M GI h2 (by rfl) T.g cI.k pass0 (pk_cons (pe_callTy call_tupleZ (by rfl) mt (by decide +kernel) (pa_cons (pv 4) pa_nil)) pk_nil))
          (pe_make cI.M GI h2 (by rfl) T.g cI.b .nil pass0 (pa_cons (pe_callTy call_tupleZ (by rfl) mt (by decide +kernel) (pa_cons (pv 4) pa_nil)) pa_nil)))
        (pa_cons (pe_callTy (call_dictP rfl) (by rfl) md (by decide +kernel) (pa_cons (pv 3) pa_nil)) pa_nil))))))))), ?_⟩
    -- some
    refine ⟨fun σ1 G => ∃ (so : Addr) (ws : List Str) (a1 : Int), σ1 = [some (.ref st), some (.ref nm), some (.ref so), none, none, none, none] ∧ G so = some (.lst (ws.map V.str)) ∧ ws.Sublist zs ∧ ws.length ≤ 4 ∧ StAt G st cl lf rm a1 ∧ a ≤ a1 ∧ a1 ≤ a + 4 ∧ so ∉ [st, lf] ∧ Kp [st, lf] H G, ?_, ?_⟩
    · refine ⟨_, rfl, _, rfl, nm, _, rfl, SqL.of en, fun p np => ⟨p, rfl, ⟨_, SqL.of upd_same⟩, fun D hD => ?_⟩⟩
      rw [cut4, ← List.map_take] at hD ⊢
      have npD : p ≠ D := ne_of_none upd_same hD
      have nHD : H D = none := (Same.up np).free hD
      have ap := S.apart np
      have apD := S.apart nHD
      refine lc_list (K := K) (a := p) (xs := (zs.take 4).map V.str) (fun i G => ∃ (ws : List Str) (a1 : Int), G D = some (.lst (ws.map V.str)) ∧ G p = some (.lst ((zs.take 4).map V.str)) ∧ ws.Sublist ((zs.take 4).take i) ∧ StAt G st cl lf rm a1 ∧ a ≤ a1 ∧ a1 ≤ a + i ∧ Kp [st, lf] H G)
        ⟨[], a, upd_same, by rw [upd_ne npD]; exact upd_same, .slnil, (S.new np).new hD, Int.le_refl _, by omega, Kp.new (Kp.new (Kp.refl _ _) np) hD⟩ (fun i G _ ⟨_, _, _, e, _⟩ => SqL.of e) ?_ ?_
      · rintro i v G hi ⟨ws, a1, e1, e2, e3, S1, g1, g2, k1⟩
        have hil : i < (zs.take 4).length := by simpa using (List.getElem?_eq_some_iff.mp hi).1
        have hi4 : i < 4 := Nat.lt_of_lt_of_le hil (by rw [List.length_take]; omega)
        obtain rfl : v = V.str (zs.take 4)[i] := by
          rw [List.getElem?_map, List.getElem?_eq_getElem hil] at hi
          exact (Option.some.inj hi).symm
        have e4 : (zs.take 4).take (i + 1) = (zs.take 4).take i ++ [(zs.take 4)[i]] := List.take_succ_eq_append_getElem hil
        refine ⟨rfl, ?_⟩
        refine ⟨_, rfl, st, cl, lf, rm, a1, _, rfl, S1, by omega, by decide, by decide, fun r H1 h1 h2 S2 k2 => ?_⟩
        have mD : D ∉ [st, lf] := by simp [apD.1, apD.2.2]
        have mp : p ∉ [st, lf] := by simp [ap.1, ap.2.2]
        refine ⟨rfl, _, rfl, ?_⟩
        refine ite2 (fun _ => ?_) (fun _ => ?_)
        · refine ⟨_, rfl, _, k2 _ _ e1 mD, ?_, ws ++ [(zs.take 4)[i]], a1 + 1, ?_, ?_, ?_, S2.put apD.1 apD.2.1 apD.2.2, by omega, by omega, ?_⟩
          · rw [List.length_map]
            have := e3.length_le
            rw [List.length_take] at this
            exact Nat.lt_of_le_of_lt (m := 4) (by omega) (by decide)
          · rw [upd_same, List.map_append]; rfl
          · rw [upd_ne npD]; exact k2 _ _ e2 mp
          · rw [e4]; exact e3.append (List.Sublist.refl _)
          · exact fun b o e n => by
              rw [upd_ne (ne_of_none e nHD)]
              exact (k1.trans k2) b o e n
        · refine ⟨ws, a1 + 1, k2 _ _ e1 mD, k2 _ _ e2 mp, ?_, S2, by omega, by omega, k1.trans k2⟩
          rw [e4]
          exact e3.trans (List.sublist_append_left _ _)
      · rintro G ⟨ws, a1, e1, e2, e3, S1, g1, g2, k1⟩
        rw [List.length_map] at e3 g2
        rw [List.take_length] at e3
        have l4 : (zs.take 4).length ≤ 4 := by rw [List.length_take]; omega
        exact ⟨D, ws, a1, rfl, e1, e3.trans (List.take_sublist _ _), Nat.le_trans e3.length_le l4, S1, g1, by omega, by simp [apD.1, apD.2.2], k1⟩
    rintro _ G1 ⟨so, ws, a1, rfl, eso, hws, lws, S1, g1, g2, mso, k1⟩
    -- values
    refine ⟨fun σ1 G => ∃ (va : Addr) (ps : List Addr) (ks : Kv) (a2 : Int), σ1 = [some (.ref st), some (.ref nm), some (.ref so), some (.ref va), none, none, none] ∧ G va = some (.lst (ps.map V.ref)) ∧ PrAt K G ps ks ∧ keys ks = ws ∧ (∀ p ∈ ks, okV p.2) ∧ StAt G st cl lf rm a2 ∧ a ≤ a2 ∧ a2 ≤ a + 20 ∧ va ∉ [st, lf] ∧ Kp [st, lf] H G, ?_, ?_⟩
    · refine ⟨_, rfl, so, rfl, ⟨_, SqL.of eso⟩, fun D hD => ?_⟩
      have nsD : so ≠ D := ne_of_none eso hD
      have apD := S1.apart hD
      have mD : D ∉ [st, lf] := by simp [apD.1, apD.2.2]
      refine lc_list (K := K) (a := so) (xs := ws.map V.str) (fun i G => ∃ (ps : List Addr) (ks : Kv) (a2 : Int), G D = some (.lst (ps.map V.ref)) ∧ G so = some (.lst (ws.map V.str)) ∧ PrAt K G ps ks ∧ keys ks = ws.take i ∧ (∀ p ∈ ks, okV p.2) ∧ StAt G st cl lf rm a2 ∧ a ≤ a2 ∧ a2 ≤ a + 4 + 4 * i ∧ Kp [st, lf] G1 G)
        ⟨[], [], a1, upd_same, by rw [upd_ne nsD]; exact eso, .nil, rfl, by simp, S1.new hD, by omega, by omega, Kp.new (Kp.refl _ _) hD⟩ (fun i G _ ⟨_, _, _, _, e, _⟩ => SqL.of e) ?_ ?_
      · rintro i v G hi ⟨ps, ks, a2, e1, e2, e3, e4, e5, S2, g3, g4, k2⟩
        have hil : i < ws.length := by simpa using (List.getElem?_eq_some_iff.mp hi).1
        obtain rfl : v = V.str ws[i] := by
          rw [List.getElem?_map, List.getElem?_eq_getElem hil] at hi
          exact (Option.some.inj hi).symm
        refine ⟨rfl, ?_⟩
        refine ⟨_, rfl, _, rfl, st, cl, lf, rm, a2, rfl, S2, by omega, fun v a3 H1 hv S3 g5 g6 k3 => ?_⟩
        refine ⟨(by show 2 ≤ sizeLine; decide), fun l nl => ?_⟩
        have e1' := k3 _ _ e1 mD
        have nlD : D ≠ l := ne_of_none e1' nl
        refine ⟨_, by rw [upd_ne nlD]; exact e1', ?_, ps ++ [l], ks ++ [(ws[i], v)], a3, ?_, ?_, ?_, ?_, ?_, (S3.new nl).put apD.1 apD.2.1 apD.2.2, by omega, by omega, ?_⟩
        · rw [List.length_map, e3.len]
          have : (keys ks).length = ks.length := by unfold keys; rw [List.length_map]
          rw [e4, List.length_take] at this
          exact Nat.lt_of_le_of_lt (m := 4) (by omega) (by decide)
        · rw [upd_same, List.map_append]; rfl
        · rw [upd_ne nsD, upd_ne (ne_of_none (k3 _ _ e2 mso) nl)]
          exact k3 _ _ e2 mso
        · refine ((e3.kpS S2 k3).same (Same.up nl)).putL (by rw [upd_ne nlD]; exact e1') |>.snoc ?_
          exact .inl (.inl (by rw [upd_ne nlD.symm]; exact upd_same))
        · unfold keys at e4 ⊢
          rw [List.map_append, e4, List.take_succ_eq_append_getElem hil]
          rfl
        · intro p hp
          rcases List.mem_append.mp hp with h | h
          · exact e5 p h
          · rw [List.mem_singleton.mp h]; exact hv
        · exact fun b o e n => by
            rw [upd_ne (ne_of_none e hD), upd_ne (ne_of_none ((k2.trans k3) b o e n) nl)]
            exact (k2.trans k3) b o e n
      · rintro G ⟨ps, ks, a2, e1, e2, e3, e4, e5, S2, g3, g4, k2⟩
        rw [List.length_map] at e4 g4
        rw [List.take_length] at e4
        exact ⟨D, ps, ks, a2, rfl, e1, e3, e4, e5, S2, g3, by omega, mD, k1.trans k2⟩
    rintro _ G2 ⟨va, ps, ks, a2, rfl, eva, epr, eks, eok, S2, g3, g4, mva, k2⟩
    -- turned
    refine ⟨fun σ1 G => ∃ (tu : Addr) (qs : List Addr) (ls : Kv) (a3 : Int), σ1 = [some (.ref st), some (.ref nm), some (.ref so), some (.ref va), some (.ref tu), none, none] ∧ G tu = some (.lst (qs.map V.ref)) ∧ PrAt K G qs ls ∧ ls.Perm ks ∧ G va = some (.lst (ps.map V.ref)) ∧ PrAt K G ps ks ∧
      StAt G st cl lf rm a3 ∧ a ≤ a3 ∧ a3 ≤ a + 21 ∧ tu ∉ [st, lf] ∧ Kp [st, lf] H G, ?_, ?_⟩
    · refine ⟨_, rfl, st, cl, lf, rm, a2, _, rfl, S2, by omega, by decide, by decide, fun r H1 h1 h2 S3 k3 => ?_⟩
      refine ⟨rfl, _, rfl, ?_⟩
      have eva' := k3 _ _ eva mva
      have epr' := epr.kpS S2 k3
      refine ite2 (fun _ => ?_) (fun _ => ?_)
      · refine ⟨_, rfl, va, _, rfl, SqL.of eva', fun p np => ?_⟩
        have ap := S3.apart np
        refine ⟨p, ps.reverse, ks.reverse, a2 + 1, rfl, ?_, (epr'.same (Same.up np)).rev, List.reverse_perm ks, ?_, epr'.same (Same.up np), S3.new np, by omega, by omega, by simp [ap.1, ap.2.2], Kp.new (k2.trans k3) np⟩
        · rw [upd_same, List.map_reverse]
        · rw [upd_ne (ne_of_none eva' np)]; exact eva'
      · exact ⟨_, rfl, va, ps, ks, a2 + 1, rfl, eva', epr', List.Perm.refl _, eva', epr', S3, by omega, by omega, mva, k2.trans k3⟩
    rintro _ G3 ⟨tu, qs, ls, a3, rfl, etu, eqs, pls, eva3, epr3, S3, g5, g6, mtu, k3⟩
    -- way
    refine ⟨fun σ1 G => ∃ (wy : Int), σ1 = [some (.ref st), some (.ref nm), some (.ref so), some (.ref va), some (.ref tu), some (.int wy), none] ∧ G tu = some (.lst (qs.map V.ref)) ∧ PrAt K G qs ls ∧ G va = some (.lst (ps.map V.ref)) ∧ PrAt K G ps ks ∧
      StAt G st cl lf rm (a3 + 1) ∧ Kp [st, lf] H G, ?_, ?_⟩
    · exact ⟨_, rfl, st, cl, lf, rm, a3, _, rfl, S3, by omega, by decide, by decide, fun r H1 h1 h2 S4 k4 => ⟨r, rfl, k4 _ _ etu mtu, eqs.kpS S3 k4, k4 _ _ eva3 mva, epr3.kpS S3 k4, S4, k3.trans k4⟩⟩
    rintro _ G4 ⟨wy, rfl, etu, eqs, eva, epr, S4, k4⟩
    have okks : ∀ p ∈ ks, okP p := fun p hp => ⟨oz _ (hws.subset (by rw [← eks]; exact List.mem_map.mpr ⟨p, hp, rfl⟩)), eok p hp⟩
    have ndk : (keys ks).Nodup := by rw [eks]; exact nz.sublist hws
    have sub : ∀ y ∈ keys ls, y ∈ zs := fun y hy => hws.subset (by rw [← eks]; exact (pls.map (fun p : Str × Int => p.1)).mem_iff.mp hy)
    -- the row
    have fin : ∀ (x d w r : Addr) (G5 G6 : Hp) (kv kw : Kv), Same G4 G5 → G4 x = none → G4 d = none → G5 w = none → CtxAt C G5 x d kv → (upd G5 w (.dK (kvK kw))) r = none → G6 = upd (upd G5 w (.dK (kvK kw))) r (.lst [.ref x, .ref w]) →
        Eqv kv kw → (keys kv).Nodup → (keys kw).Nodup → (∀ y ∈ keys kv, y ∈ zs) → (∀ p ∈ kv, okV p.2) → Q (.ref r) G6 := by
      rintro x d w r G5 G6 kv kw s5 nx nd nw c nr rfl e1 e2 e3 e4 e5
      have s6 : Same G5 (upd (upd G5 w (.dK (kvK kw))) r (.lst [.ref x, .ref w])) := Same.new (Same.up nw) nr
      have nwr : w ≠ r := ne_of_none upd_same nr
      have free : ∀ b, G4 b = none → H b = none := fun b hb => by
        cases e : H b with
        | none => rfl
        | some o =>
          by_cases hm : b ∈ [st, lf]
          · obtain ⟨cs, ls, q1, q2, _⟩ := S4.c
            simp only [List.mem_cons, List.not_mem_nil, or_false] at hm
            rcases hm with rfl | rfl
            · rw [S4.d] at hb; cases hb
            · rw [q2] at hb; cases hb
          · rw [k4 b o e hm] at hb; cases hb
      have nr5 : G5 r = none := by rw [upd_ne nwr.symm] at nr; exact nr
      refine q r x d w kv kw (a3 + 1) _ ⟨upd_same, c.same s6, ?_, ne_of_none c.d nw, e2, e3, e1, e4, e5⟩ (free _ (s5.free nr5)) (free _ nx) (free _ nd) (free _ (s5.free nw)) (S4.same (s5.trans s6)) (by omega) (by omega) (k4.trans (Kp.same (s5.trans s6) _))
      rw [upd_ne nwr]; exact upd_same
    have lso : ks.length ≤ 4 := by
      have : (keys ks).length = ks.length := by unfold keys; rw [List.length_map]
      rw [← this, eks]
      exact lws
    refine ⟨fun σ1 G => σ1 = [some (.ref st), some (.ref nm), some (.ref so), some (.ref va), some (.ref tu), some (.int wy), none] ∧ Same G4 G, ?_, ?_⟩
    · refine ⟨_, rfl, rfl, _, rfl, ?_⟩
      refine ite2 (fun _ => ?_) (fun _ => ?_)
      · refine ⟨_, rfl, (by show 0 ≤ sizeLine; decide), fun l nl => ?_⟩
        have s5 : Same G4 (upd G4 l (.lst [])) := Same.up nl
        refine ⟨.list (ks.map pd), .list [], .lst (SqL.of (s5 _ _ eva)) (dp_pairs (epr.same s5)), .lst (SqL.of upd_same) .nil, list_shaped okks, by decide +kernel, _, rfl, ?_⟩
        rw [nil_eqv]
        cases e : ks.isEmpty with
        | false => exact iteF ⟨rfl, s5⟩
        | true =>
          refine iteT ?_
          obtain rfl : ks = [] := List.isEmpty_iff.mp e
          intro x dx nx ndx nne
          have s6 : Same (upd G4 l (.lst [])) (upd (upd (upd G4 l (.lst [])) dx (.own x)) x (.ins C dx [])) := Same.mut (Same.up ndx) nx
          refine ⟨x, dx, T0, [], [], rfl, upd_same, t0 _, .nil, by simp [keys], fun d H2 nd' c' k => ⟨rfl, ?_⟩⟩
          intro w nw
          refine ⟨(by show 2 ≤ sizeLine; decide), fun r nr => ?_⟩
          refine fin x d w r H2 _ [] [] (fun b o e => ?_) (s5.free nx) (s5.free (s6.free nd')) nw c' nr rfl (fun _ => rfl) (by simp [keys]) (by simp [keys]) (by simp [keys]) (by simp)
          refine k b o (s6 _ _ (s5 _ _ e)) ?_
          simp only [List.mem_singleton]
          exact ne_of_none (s5 _ _ e) nx
      · exact iteF ⟨rfl, Same.refl _⟩
    rintro _ G5 ⟨rfl, s5⟩
    have ndl : (keys ls).Nodup := perm_nd pls ndk
    refine ⟨_, rfl, rfl, _, rfl, ?_⟩
    refine ite2 (fun _ => ?_) (fun _ => ?_)
    · refine ⟨_, rfl, tu, _, rfl, SqL.of (s5 _ _ etu), fun t o nt ho => ⟨rfl, rfl, fun x dx nx ndx nne => ?_⟩⟩
      have s6 : Same G5 (upd G5 t (.frz o (.tup (qs.map V.ref)))) := Same.up nt
      have s7 : Same (upd G5 t (.frz o (.tup (qs.map V.ref)))) (upd (upd (upd G5 t (.frz o (.tup (qs.map V.ref)))) dx (.own x)) x (.ins C dx [])) := Same.mut (Same.up ndx) nx
      have s57 := s5.trans (s6.trans s7)
      refine ⟨x, dx, t, qs, ls, rfl, upd_same, TupX.same (.inl ⟨o, upd_same, ho⟩) s7, eqs.same s57, ndl, fun d H2 nd' c' k => ⟨rfl, ?_⟩⟩
      have s8 : Same G4 H2 := fun b o e => by
        refine k b o (s57 _ _ e) ?_
        simp only [List.mem_singleton]
        exact ne_of_none (s6 _ _ (s5 _ _ e)) nx
      refine ⟨_, rfl, va, ps, kvK ks, rfl, SqL.of (s8 _ _ eva), epr.same s8, fun w nw => ?_⟩
      rw [show mergeK [] (kvK ks) = kvK ks from merge_kv [] ks ndk]
      refine ⟨(by show 2 ≤ sizeLine; decide), fun r nr => ?_⟩
      exact fin x d w r H2 _ ls ks s8 (s5.free (s6.free nx)) (s57.free nd') nw c' nr rfl (perm_eqv pls ndk) ndl ndk sub (fun p hp => eok p (pls.mem_iff.mp hp))
    · refine ⟨_, rfl, tu, _, rfl, SqL.of (s5 _ _ etu), fun t o nt ho => fun x dx nx ndx nne => ?_⟩
      have s6 : Same G5 (upd G5 t (.frz o (.tup (qs.map V.ref)))) := Same.up nt
      have s7 : Same (upd G5 t (.frz o (.tup (qs.map V.ref)))) (upd (upd (upd G5 t (.frz o (.tup (qs.map V.ref)))) dx (.own x)) x (.ins C dx [])) := Same.mut (Same.up ndx) nx
      have s57 := s5.trans (s6.trans s7)
      refine ⟨x, dx, t, qs, ls, rfl, upd_same, TupX.same (.inl ⟨o, upd_same, ho⟩) s7, eqs.same s57, ndl, fun d H2 nd' c' k => ⟨rfl, ?_⟩⟩
      have s8 : Same G4 H2 := fun b o e => by
        refine k b o (s57 _ _ e) ?_
        simp only [List.mem_singleton]
        exact ne_of_none (s6 _ _ (s5 _ _ e)) nx
      refine ⟨_, rfl, va, ps, kvK ks, rfl, SqL.of (s8 _ _ eva), epr.same s8, fun w nw => ?_⟩
      rw [show mergeK [] (kvK ks) = kvK ks from merge_kv [] ks ndk]
      refine ⟨(by show 2 ≤ sizeLine; decide), fun r nr => ?_⟩
      exact fin x d w r H2 _ ls ks s8 (s5.free (s6.free nx)) (s57.free nd') nw c' nr rfl (perm_eqv pls ndk) ndl ndk sub (fun p hp => eok p (pls.mem_iff.mp hp))
end
end Sw
namespace Sw
open PySem L2 PyProof.Rows PySem.Spec
abbrev sRight : Stmt := top 13
theorem byK_eqv {a b : Kv} (e : Eqv a b) (l : List Str) : byK a l = byK b l := by
  unfold byK
  apply List.map_congr_left
  intro y _
  rw [e y]
theorem perm_byK {ks kv : Kv} (p : ks.Perm kv) (nd : (keys kv).Nodup) : ks = byK kv (keys ks) := by
  rw [← byK_eqv (perm_eqv p nd), byK_self (perm_nd p nd)]
theorem Eqv.keys_perm {a b : Kv} (e : Eqv a b) (na : (keys a).Nodup) (nb : (keys b).Nodup) : (keys a).Perm (keys b) :=
  (List.perm_ext_iff_of_nodup na nb).mpr fun x => ⟨e.sub x, e.symm.sub x⟩
theorem same_pairs {ks kv kw : Kv} {ys : List Str} (p : ks.Perm kv) (e : Eqv kv kw) (nk : (keys kv).Nodup) (nw : (keys kw).Nodup) (hs : sortedS (keys ks) = true) (hp : ys.Perm (keys kw)) (hy : sortedS ys = true) : ks = byK kw ys := by
  have h1 : (keys ks).Perm (keys kv) := p.map (fun p : Str × Int => p.1)
  have h2 : keys ks = ys := sorted_one (h1.trans ((e.keys_perm nk nw).trans hp.symm)) hs hy
  rw [perm_byK p nk, byK_eqv e, h2]
theorem notTbl_ins {C d : Addr} {l : List (Str × V)} : ∀ ps, HO.ins C d l ≠ .tbl ps := fun _ z => by cases z
theorem notTbl_dK {l : List (Key × V)} : ∀ ps, HO.dK l ≠ .tbl ps := fun _ z => by cases z
theorem notTbl_lst {l : List V} : ∀ ps, HO.lst l ≠ .tbl ps := fun _ z => by cases z
theorem CtxAt.ext {C : Addr} {H H' : Hp} {x d : Addr} {kv : Kv} (c : CtxAt C H x d kv) (s : LamX.ExtN H H') : CtxAt C H' x d kv := by
  obtain ⟨dx, e⟩ := c.x
  exact ⟨⟨dx, s _ _ e notTbl_ins⟩, s _ _ c.d notTbl_dK⟩
/-- what _law_right is handed -/
structure Rg (C : Addr) (TT : List (Addr × Str)) (zs : List Str) (H : Hp) (x d w nm : Addr) (kv kw : Kv) : Prop where
  c : CtxAt C H x d kv
  hw : H w = some (.dK (kvK kw))
  hn : H nm = some (.lst (zs.map V.str))
  tb : LamX.Tabs TT H
theorem Rg.ext {C : Addr} {TT : List (Addr × Str)} {zs : List Str} {H H' : Hp} {x d w nm : Addr} {kv kw : Kv} (r : Rg C TT zs H x d w nm kv kw) (e : LamX.ExtN H H') (t : LamX.Tabs TT H') : Rg C TT zs H' x d w nm kv kw :=
  ⟨r.c.ext e, e _ _ r.hw notTbl_dK, e _ _ r.hn notTbl_lst, t⟩
theorem Rg.same {C : Addr} {TT : List (Addr × Str)} {zs : List Str} {H H' : Hp} {x d w nm : Addr} {kv kw : Kv} (r : Rg C TT zs H x d w nm kv kw) (e : Same H H') : Rg C TT zs H' x d w nm kv kw :=
  ⟨r.c.same e, e _ _ r.hw, e _ _ r.hn, r.tb.ext e⟩
structure KwOk (zs : List Str) (kv kw : Kv) : Prop where
  nk : (keys kv).Nodup
  nw : (keys kw).Nodup
  e : Eqv kv kw
  sub : ∀ y ∈ keys kv, y ∈ zs
  ok : ∀ p ∈ kv, okV p.2
def spRight (C : Addr) (TT : List (Addr × Str)) : Sp := fun vs H Q _ => ∃ (x d w nm : Addr) (kv kw : Kv) (zs : List Str), vs = [.ref x, .ref w, .ref nm] ∧ Rg C TT zs H x d w nm kv kw ∧ KwOk zs kv kw ∧ (∀ z ∈ zs, nameB z = true) ∧ zs.length ≤ 10 ∧
  ∀ H', LamX.ExtN H H' → LamX.Tabs TT H' → Q (.bl true) H'
def nRight : List Str := ["context", "due", "names", "name", "others", "other"]
theorem scRight : FnScope nRight ["context", "due", "names"] (defScope sRight) := ⟨rfl, rfl, rfl, by decide +kernel, rfl, by decide +kernel, by decide +kernel⟩
/-- the types that are no contexts -/
structure CtxT (K : PySem.W.Frag) (C : Addr) : Prop where
  ne : PySem.W.findIn K (.ref C) "__ne__" = some (some (.builtin "object.__ne__"))
  ob : PySem.W.subIn K (.ref C) (.type "object") = some true
  own : PySem.W.kitOne K (.ref C) (.ref C) = some true
  nown : PySem.W.notFirst K C (.ref C) = true
  no : ∀ T ∈ ["dict", "NoneType", "int", "str", "tuple"], PySem.W.kitOne K (.type T) (.ref C) = some false ∧ PySem.W.notFirst K C (.type T) = true
end Sw
namespace Sw
open PySem L2 PyProof.Rows PySem.Spec
theorem iteNe {a b : V} (h : a = b) {p q : Prop} (k : q) : if (!decide (a = b)) = true then p else q := by
  subst h
  rw [if_neg (by simp)]
  exact k
def tR (PT : Addr) : List (Addr × Str) := [(PT, (("_law_right" : Str) ++ ".<locals>.") ++ "<lambda>")]
theorem mem_tR (PT : Addr) (q : Str) (h : q = ("_law_right" : Str) ++ ".<locals>.") : (PT, q ++ "<lambda>") ∈ tR PT := by
  subst h
  exact List.mem_cons_self ..
theorem all_tR (PT : Addr) (q : Str) (h : q = ("_law_right" : Str) ++ ".<locals>.") : ∀ p ∈ tR PT, p.1 = PT → p.2 = q ++ "<lambda>" := by
  subst h
  intro p hp _
  rw [List.mem_singleton.mp hp]
/-- the methods of contexts that _law_right calls -/
structure CtxF (P : Program) (w : World) (K : PySem.W.Frag) (mg : Str → Option Value) (base : Heap) (C CF fG fH fL fE fP : Addr) (dG dH dL dE dP : FuncData) : Prop where
  G : FnOk P w K mg base (L2.CX P w) 3 fG dG ["self", "variable"] (spGet C CF)
  mG : Meth K C "__getitem__" fG
  iG : PySem.W.fnIn K fG = true
  bG : L2.Binds K dG ["self", "variable"] []
  H : FnOk P w K mg base CX0 1 fH dH ["self", "variable"] (spHas C)
  mH : Meth K C "__contains__" fH
  bH : L2.Binds K dH ["self", "variable"] []
  L : FnOk P w K mg base CX0 1 fL dL ["self"] (spLen C)
  mL : Meth K C "__len__" fL
  bL : L2.Binds K dL ["self"] []
  E : FnOk P w K mg base CX0 1 fE dE ["self", "other"] (spEq K C)
  mE : Meth K C "__eq__" fE
  bE : L2.Binds K dE ["self", "other"] []
  P : FnOk P w K mg base CX0 1 fP dP ["self"] (spPairs K C)
  mP : Meth K C "pairs" fP
  bP : L2.Binds K dP ["self"] []
section
variable {P : Program} {w : World} {K : PySem.W.Frag} {mg : Str → Option Value} {base : Heap} {C CF : Addr}
theorem ok_right {f fG fH fL fE fP gF c PT : Addr} {fd dG dH dL dE dP dF : FuncData} (F : Fun K "_law_right" "_law_right" sRight f fd) (T : CtxC K mg C) (TX : CtxT K C) (M : CtxF P w K mg base C CF fG fH fL fE fP dG dH dL dE dP)
    (FF : Fun K "_law_fails" "_law_fails" sFails gF dF) (bF : L2.Binds K dF ["asked"] []) (gf : mg "_law_fails" = some (.ref gF)) (kf : PySem.W.keepIn K (.ref gF) = true) (TF : FailC K mg CF) (TB : LamX.TabB base mg c PT) (hc : fd.code = .ref c)
    (mr : mg "repr" = none) (mt : mg "tuple" = none) (ms : mg "sorted" = none) (ml : mg "len" = none) : FnOkG P w K mg base CX0 7 f fd ["context", "due", "names"] (spRight C (tR PT)) := by
  refine okG F scRight (fun vs H Q E h => ?_) (fun cdv A outer s H vs Q E hcd hcv hr hg h => ?_)
  · obtain ⟨x, d, w, nm, kv, kw, zs, rfl, _⟩ := h
    rfl
  · obtain ⟨x, d, w, nm, kv, kw, zs, rfl, R, O, oz, lz, q⟩ := h
    have hcv : cdv = .ref c := hcv.symm.trans hc
    obtain ⟨oc, od, kV, doc, pm, an, cdF, ct, osl, rfl, lkF, hcF⟩ := FF.ex
    have hu := hu_of hr
    have h1 : Room 1 (A.deeper (envOfC "_law_right" (defScope sRight) s.heap.objs.size f cdv)) := hr.mono (by decide)
    have h2 : Room 2 (A.deeper (envOfC "_law_right" (defScope sRight) s.heap.objs.size f cdv)) := hr.mono (by decide)
    refine ⟨_, pss_mid (ps_if (pt_cmpR op_ne (pe_callB (call_reprG hg hr.units) (by rfl) mr (by decide +kernel) (pa_cons (pe_meth0 (pv 0) T.c M.mP M.P h1 M.bP .nil pass0) pa_nil))
          (pe_callB (call_reprG hg hr.units) (by rfl) mr (by decide +kernel) (pa_cons (pe_callTy call_tupleZ (by rfl) mt (by decide +kernel) (pa_cons
            (pe_lc (own := [("name", 3)]) (g := gName 3) (tt := tYes) (te := tTup (tCons (tVar 3) (tCons (tDGet (tVar 1) (tVar 3)) tNil))) rfl scRight.nd (pi_list (pe_callB (call_sortedD rfl) (by rfl) ms (by decide +kernel) (pa_cons (pv 1) pa_nil))) (blkOk_by (N := nRight) (sc := defScope sRight) (by decide +kernel))
              (fun _ _ _ _ _ => pg_name (i := 3) scRight.nd rfl (Or.inl rfl)) (fun _ _ _ _ _ => pts_nil)
              (fun _ _ _ _ _ => pe_tup (pa_cons (pv 3) (pa_cons (pe_dget (by exact hu) (pv 1) (pv 3) (fun _ _ => rfl)) pa_nil)))) pa_nil)) pa_nil)) (by rfl))
        (pss_one (ps_ret pe_bl)) pss_nil)
      (pss_mid (ps_if (pt_cmpR op_ne (pe_callB (call_lenOwn M.L M.mL h2 M.bL pass0) (by rfl) ml PySem.boot_len (pa_cons (pv 0) pa_nil)) (pe_callB call_lenD (by rfl) ml PySem.boot_len (pa_cons (pv 1) pa_nil)) (by rfl)) (pss_one (ps_ret pe_bl)) pss_nil)
      (pss_mid (ps_for PassesOwn.never rfl (pi_list (pv 2)) (pg_name (i := 3) scRight.nd rfl (Or.inr rfl))
        (pss_mid (ps_if (pt_cmpR op_ne (pe_callB (call_reprG hg hr.units) (by rfl) mr (by decide +kernel) (pa_cons (pe_cmpR (op_inOwn M.H M.mH h1 M.bH pass0) (pv 3) (pv 0) (by rfl)) pa_nil)) (pe_callB (call_reprG hg hr.units) (by rfl) mr (by decide +kernel) (pa_cons (pe_cmp (pc_din hu (pv 3) (pv 1)) (by rfl)) pa_nil)) (by rfl)) (pss_one (ps_ret pe_bl)) pss_nil)
        (pss_mid (ps_if (PW.pt (pw_and (pt_cmp (pc_din hu (pv 3) (pv 1)) (by rfl)) (pw_and1 (pt_cmpR op_ne
            (pe_callB (call_reprG hg hr.units) (by rfl) mr (by decide +kernel) (pa_cons (pe_ixOwn (E := fun _ _ _ => False) M.G M.mG M.iG (hr.mono (by decide)) M.bG passL (pv 0) (pv 3) (fun _ _ => rfl)) pa_nil))
            (pe_callB (call_reprG hg hr.units) (by rfl) mr (by decide +kernel) (pa_cons (pe_dget hu (pv 1) (pv 3) (fun _ _ => rfl)) pa_nil)) (by rfl))))) (pss_one (ps_ret pe_bl)) pss_nil)
        (pss_one (ps_if (PW.pt (pw_and (pt_cmp (pc_dnotin hu (pv 3) (pv 1)) (by rfl)) (pw_and1 (pt_cmpR op_ne
            (LamX.pe_lamcall (T := tR PT) (TT := TTf CF) (k := 4) (t := fun E => tOp (rOwnIx C (spGet C CF) E) (tVar 0) (tVar 3)) (by rfl) gf kf lkF hcF bF scFails rfl (.inl rfl) (fails_gives TF) TB hcv (mem_tR PT _ rfl) (all_tR PT _ rfl) hr (LamX.lamS_by (sc := defScope sRight) (by decide +kernel)) rfl (fun _ _ _ _ _ => rfl)
              (fun A outer s H E f c' hr' => pe_ixOwn M.G M.mG M.iG hr' M.bG (passes_call (takes_of rfl rfl rfl rfl) (fun _ _ _ _ h => h)) (pv 0) (pv 3) (fun _ _ => rfl)))
            pe_str (by rfl))))) (pss_one (ps_ret pe_bl)) pss_nil)))))
      (pss_mid (ps_set (i := 4) scRight.nd rfl (Or.inl rfl) (pe_lst (pa_cons (pv 1) (pa_cons pe_non (pa_cons pe_int (pa_cons pe_str (pa_cons (pe_tup pa_nil) (pa_cons (pe_meth0 (pv 0) T.c M.mP M.P h1 M.bP .nil pass0) pa_nil))))))))
      (pss_mid (ps_if (pt_cmpR (op_neD hr.units)
          (pe_lc (own := [("other", 5)]) (g := gName 5) (tt := tOr (tTest (tOp (rOwnEq K C (spEq K C) E0) (tVar 0) (tVar 5))) (tNot (tTest (tOp (rOwnNe K C (spEq K C) E0) (tVar 0) (tVar 5))))) (te := tC (.int 1)) rfl scRight.nd (pi_list (pv 4)) (blkOk_by (N := nRight) (sc := defScope sRight) (by decide +kernel))
            (fun _ _ _ _ _ => pg_name (i := 5) scRight.nd rfl (Or.inl rfl))
            (fun _ _ _ _ _ => pts_one (PW.pt (pw_or (pt_cmpR (op_eqOwn M.E M.mE h1 M.bE pass0) (pv 0) (pv 5) (by rfl)) (pw_or1 (pt_not (pt_cmpR (op_neOwn M.E M.mE TX.ne TX.ob h2 M.bE pass0) (pv 0) (pv 5) (by rfl)))))))
            (fun _ _ _ _ _ => pe_int)) (pe_lst pa_nil) (by rfl)) (pss_one (ps_ret pe_bl)) pss_nil)
      (pss_one (ps_ret (pe_cmpR op_isBl (pe_fld (pv 0) rfl) pe_bl (by rfl)))))))), ?_⟩
    obtain ⟨dx, ex⟩ := R.c.x
    have lkv : kv.length ≤ 10 := by
      have := nodup_sub_len O.nk O.sub
      unfold keys at this
      rw [List.length_map] at this
      omega
    have okk : ∀ p ∈ kv, okP p := fun p hp => ⟨oz _ (O.sub _ (List.mem_map.mpr ⟨p, hp, rfl⟩)), O.ok p hp⟩
    -- the pairs
    refine ⟨fun σ1 G => σ1 = [some (.ref x), some (.ref w), some (.ref nm), none, none, none] ∧ Same H G, ?_, ?_⟩
    · refine ⟨_, rfl, x, dx, _, rfl, ex, (by rfl), x, d, kv, rfl, R.c, O.nk, by omega, fun t ps ks H1 s1 ht hp pm hs => ?_⟩
      have okks : ∀ p ∈ ks, okP p := fun p hp => okk p (pm.mem_iff.mp hp)
      have lks : ks.length ≤ 60 := by rw [pm.length_eq]; omega
      obtain ⟨r1, r2, r3, r4⟩ := tup_repr okks lks
      refine ⟨.ref t, .tuple (ks.map pd), rfl, .tup ht.seq (dp_pairs hp), r1, r2, r3, r4, ?_⟩
      have hw1 := s1 _ _ R.hw
      refine ⟨_, rfl, w, kvK kw, keys kw, rfl, .inl hw1, kvK_keys kw, ?_, fun ys p hp2 hs2 np => ?_⟩
      · have := O.e.len O.nk O.nw
        unfold keys
        rw [List.length_map]
        omega
      refine ⟨p, rfl, ⟨_, SqL.of upd_same⟩, fun D hD => ?_⟩
      have eks : ks = byK kw ys := same_pairs pm O.e O.nk O.nw hs hp2 hs2
      have nDp : p ≠ D := ne_of_none upd_same hD
      have nH : H1 D = none := (Same.up np).free hD
      refine lc_list (K := K) (a := p) (xs := ys.map V.str) (fun i G => Same (upd H1 p (.lst (ys.map V.str))) G ∧ ∃ ps : List Addr, G D = some (.lst (ps.map V.ref)) ∧ PrAt K G ps (byK kw (ys.take i))) ⟨Same.up hD, [], upd_same, .nil⟩ (fun i G _ ⟨s1, _⟩ => SqL.of (s1 _ _ upd_same)) ?_ ?_
      · rintro i v G hi ⟨s2, ps, e1, e2⟩
        have hil : i < ys.length := by simpa using (List.getElem?_eq_some_iff.mp hi).1
        obtain rfl : v = V.str ys[i] := by
          rw [List.getElem?_map, List.getElem?_eq_getElem hil] at hi
          exact (Option.some.inj hi).symm
        have sH : Same H1 G := (Same.up np).trans s2
        have hm : ys[i] ∈ keys kw := hp2.subset (List.getElem_mem hil)
        obtain ⟨val, hv⟩ : ∃ val, kw.lookup ys[i] = some val := by
          cases e : kw.lookup ys[i] with
          | none => exact absurd hm (lookup_none.mp e)
          | some z => exact ⟨z, rfl⟩
        refine ⟨rfl, ?_⟩
        have kg := kvget (sH _ _ hw1) ys[i]
        rw [hv] at kg
        refine ⟨_, rfl, _, rfl, _, rfl, w, .int val, rfl, kg, (by show 2 ≤ sizeLine; decide), fun l nl => ?_⟩
        have nlD : D ≠ l := ne_of_none e1 nl
        refine ⟨_, by rw [upd_ne nlD]; exact e1, ?_, ?_, ps ++ [l], ?_, ?_⟩
        · rw [List.length_map, e2.len]
          unfold byK
          rw [List.length_map, List.length_take]
          have : ys.length ≤ 60 := by
            rw [eks] at lks
            unfold byK at lks
            rwa [List.length_map] at lks
          exact Nat.lt_of_le_of_lt (m := 60) (by omega) (by decide)
        · exact Same.mut (Same.new s2 nl) hD
        · rw [upd_same, List.map_append]
          rfl
        · rw [List.take_succ_eq_append_getElem hil]
          unfold byK
          rw [List.map_append]
          simp only [List.map_cons, List.map_nil, hv, Option.getD_some]
          refine PrAt.snoc ((e2.same (Same.up nl)).putL (by rw [upd_ne nlD]; exact e1)) (.inl (.inl ?_))
          rw [upd_ne nlD.symm, upd_same]
      · rintro G ⟨s2, ps, e1, e2⟩
        rw [List.length_map, List.take_length, ← eks] at e2
        refine ⟨D, _, rfl, SqL.of e1, fun t2 o nt ho => ?_⟩
        have s3 : Same G (upd G t2 (.frz o (.tup (ps.map V.ref)))) := Same.up nt
        refine ⟨.ref t2, .tuple (ks.map pd), rfl, .tup (.inl (.inr ⟨o, upd_same⟩)) (dp_pairs (e2.same s3)), r1, r2, r3, r4, ?_⟩
        refine ⟨rfl, _, rfl, iteNe rfl ⟨rfl, s1.trans (((Same.up np).trans s2).trans s3)⟩⟩
    rintro _ G1 ⟨rfl, s1⟩
    have R1 := R.same s1
    -- the lengths
    refine ⟨fun σ1 G => σ1 = [some (.ref x), some (.ref w), some (.ref nm), none, none, none] ∧ G = G1, ?_, ?_⟩
    · obtain ⟨dx1, ex1⟩ := R1.c.x
      refine ⟨_, rfl, x, dx1, _, rfl, ex1, x, d, kv, rfl, R1.c, _, rfl, by omega, by omega, ?_⟩
      refine ⟨_, rfl, w, _, rfl, R1.hw, ?_⟩
      have := O.e.len O.nk O.nw
      rw [kvK_len, this]
      exact ⟨rfl, _, rfl, iteNe rfl ⟨rfl, rfl⟩⟩
    rintro _ G1 ⟨rfl, rfl⟩
    -- the names
    refine ⟨fun σ1 G => ∃ v3, σ1 = [some (.ref x), some (.ref w), some (.ref nm), v3, none, none] ∧ LamX.ExtN H G ∧ LamX.Tabs (tR PT) G, ?_, ?_⟩
    · refine ⟨_, rfl, nm, rfl, ⟨_, SqL.of R1.hn⟩, for_list (K := K) (a := nm) (xs := zs.map V.str) (fun i σ1 G => ∃ v3, σ1 = [some (.ref x), some (.ref w), some (.ref nm), v3, none, none] ∧ LamX.ExtN H G ∧ LamX.Tabs (tR PT) G) ⟨none, rfl, LamX.ExtN.of s1, R1.tb⟩
        (fun i σ1 G _ ⟨_, _, e, t⟩ => SqL.of (R.ext e t).hn) ?_ (fun σ1 G h => h)⟩
      rintro i v _ G hi ⟨v3, rfl, e1, t1⟩
      have hil : i < zs.length := by simpa using (List.getElem?_eq_some_iff.mp hi).1
      obtain rfl : v = V.str zs[i] := by
        rw [List.getElem?_map, List.getElem?_eq_getElem hil] at hi
        exact (Option.some.inj hi).symm
      have RG := R.ext e1 t1
      obtain ⟨dxG, exG⟩ := RG.c.x
      have hin : (kv.lookup zs[i]).isSome = (kw.lookup zs[i]).isSome := by rw [O.e]
      generalize zs[i] = z at hin ⊢
      refine ⟨fun σ1 G2 => σ1 = [some (.ref x), some (.ref w), some (.ref nm), some (.str z), none, none] ∧ G2 = G, ?_, ?_⟩
      · refine ⟨_, rfl, _, rfl, x, dxG, _, rfl, exG, x, d, kv, z, rfl, RG.c, _, rfl, _, .bool _, rfl, .bl _, rfl, rfl, (by show 0 ≤ 60; decide), ?_, ?_⟩
        · cases (kv.lookup z).isSome <;> decide +kernel
        refine ⟨_, rfl, _, rfl, w, _, rfl, kvget RG.hw z, _, .bool _, rfl, .bl _, rfl, rfl, (by show 0 ≤ 60; decide), ?_, ?_⟩
        · cases ((kw.lookup z).map V.int).isSome <;> decide +kernel
        refine ⟨rfl, _, rfl, iteNe ?_ ⟨rfl, rfl⟩⟩
        rw [Option.isSome_map]
        show V.str (PyData.shown (.bool (kv.lookup z).isSome)) = _
        rw [hin]
      rintro _ G ⟨rfl, rfl⟩
      refine ⟨fun σ1 G2 => σ1 = [some (.ref x), some (.ref w), some (.ref nm), some (.str z), none, none] ∧ G2 = G, ?_, ?_⟩
      · refine ⟨_, rfl, _, rfl, w, _, rfl, kvget RG.hw z, _, rfl, ?_⟩
        cases e : kw.lookup z with
        | none => exact iteF (iteF ⟨rfl, rfl⟩)
        | some v =>
          refine iteT ?_
          have ev : kv.lookup z = some v := by rw [O.e]; exact e
          have hv : okV v := O.ok (z, v) (lookup_mem ev)
          have hz : (PyData.int v).shown.length ≤ sizeLine := by
            have := val_text hv
            simp only [PyData.shown]
            rw [sizeLine_eq]
            omega
          have hsh : (PyData.int v).showable = true := by simpa only [PyData.showable] using val_shows hv
          refine ⟨_, rfl, _, rfl, x, dxG, _, rfl, exG, x, d, kv, z, rfl, RG.c, fun v' hv' => ?_, fun hn => by rw [ev] at hn; cases hn⟩
          rw [ev] at hv'
          cases hv'
          refine ⟨_, .int v, rfl, .int v, hsh, rfl, (by show 0 ≤ 60; decide), hz, ?_⟩
          have kg := kvget RG.hw z
          rw [e] at kg
          refine ⟨_, rfl, _, rfl, w, .int v, rfl, kg, _, .int v, rfl, .int v, hsh, rfl, (by show 0 ≤ 60; decide), hz, ?_⟩
          exact ⟨rfl, _, rfl, iteNe rfl ⟨rfl, rfl⟩⟩
      rintro _ G ⟨rfl, rfl⟩
      refine ⟨_, rfl, _, rfl, w, _, rfl, kvget RG.hw z, _, rfl, ?_⟩
      cases e : kw.lookup z with
      | some v => exact iteF (iteF ⟨_, rfl, e1, t1⟩)
      | none =>
        refine iteT ?_
        refine ⟨t1, fun G2 e2 t2 => ?_⟩
        have RG2 := RG.ext e2 t2
        obtain ⟨dx2, ex2⟩ := RG2.c.x
        have ev : kv.lookup z = none := by rw [O.e]; exact e
        refine ⟨_, rfl, _, rfl, x, dx2, _, rfl, ex2, x, d, kv, z, rfl, RG2.c, fun v' hv' => (by rw [ev] at hv'; cases hv'), fun _ dd G3 hdd s3 => ?_⟩
        refine ⟨dd, _, rfl, rfl, hdd, fun G4 s4 => ?_⟩
        exact ⟨rfl, _, rfl, iteNe rfl ⟨_, rfl, e1.trans (e2.trans (LamX.ExtN.of (s3.trans s4))), t2.ext (s3.trans s4)⟩⟩
    rintro _ G2 ⟨v3, rfl, e2, t2⟩
    have R2 := R.ext e2 t2
    obtain ⟨dx2, ex2⟩ := R2.c.x
    -- others
    refine ⟨fun σ1 G => ∃ (o t0 t1 : Addr) (xs : List V), σ1 = [some (.ref x), some (.ref w), some (.ref nm), v3, some (.ref o), none] ∧ G o = some (.lst [.ref w, .non, .int 5, .str "", .ref t0, .ref t1]) ∧ G t0 = some (.tup []) ∧ TupX K G t1 xs ∧ Same G2 G, ?_, ?_⟩
    · refine ⟨_, rfl, (by show 0 ≤ sizeLine; decide), fun t0 n0 => ?_⟩
      have s3 : Same G2 (upd G2 t0 (.tup [])) := Same.up n0
      refine ⟨_, rfl, x, dx2, _, rfl, s3 _ _ ex2, (by rfl), x, d, kv, rfl, R2.c.same s3, O.nk, by omega, fun t ps ks G3 s4 ht hp pm hs => ?_⟩
      refine ⟨(by show 6 ≤ sizeLine; decide), fun o no => ?_⟩
      have s5 : Same G3 (upd G3 o (.lst [.ref w, .non, .int 5, .str "", .ref t0, .ref t])) := Same.up no
      exact ⟨o, t0, t, _, rfl, upd_same, s5 _ _ (s4 _ _ upd_same), ht.same s5, (s3.trans s4).trans s5⟩
    rintro _ G3 ⟨o, t0, t1, xs, rfl, eo, et0, et1, s3⟩
    have R3 := R2.same s3
    have tys : ∀ G, Same G3 G → ∀ v ∈ [V.ref w, .non, .int 5, .str "", .ref t0, .ref t1], ∃ T ∈ ["dict", "NoneType", "int", "str", "tuple"], TyX K G v (.type T) := fun G sG v hv => by
      simp only [List.mem_cons, List.not_mem_nil, or_false] at hv
      rcases hv with rfl | rfl | rfl | rfl | rfl | rfl
      · exact ⟨"dict", by simp, .base (.dK (sG _ _ R3.hw))⟩
      · exact ⟨"NoneType", by simp, .base .non⟩
      · exact ⟨"int", by simp, .base (.int 5)⟩
      · exact ⟨"str", by simp, .base (.str "")⟩
      · exact ⟨"tuple", by simp, .base (.tup (sG _ _ et0))⟩
      · refine ⟨"tuple", by simp, ?_⟩
        rcases et1.same sG with ⟨ob, e, _⟩ | ⟨_, ob, n, e, ec, _⟩
        · exact .fTuple e
        · exact .kTuple e ec
    refine ⟨fun σ1 G => σ1 = [some (.ref x), some (.ref w), some (.ref nm), v3, some (.ref o), none] ∧ Same G3 G, ?_, ?_⟩
    · refine ⟨_, rfl, o, rfl, ⟨_, SqL.of eo⟩, fun D hD => ?_⟩
      refine lc_list (K := K) (a := o) (xs := [V.ref w, .non, .int 5, .str "", .ref t0, .ref t1]) (fun i G => Same G3 G ∧ G D = some (.lst [])) ⟨Same.up hD, upd_same⟩ (fun i G _ ⟨s4, _⟩ => SqL.of (s4 _ _ eo)) ?_ ?_
      · rintro i v G hi ⟨s4, eD⟩
        obtain ⟨Ty, hT, ty⟩ := tys G s4 v (List.mem_of_getElem? hi)
        obtain ⟨k1, k2⟩ := TX.no Ty hT
        have R4 := R3.same s4
        obtain ⟨dx4, ex4⟩ := R4.c.x
        refine ⟨rfl, ?_⟩
        refine ⟨_, rfl, _, rfl, x, dx4, _, _, rfl, ex4, ty, k2, x, d, kv, v, _, false, rfl, R4.c, ty, k1, fun _ => ⟨_, rfl, _, rfl, ?_⟩, fun z => by cases z⟩
        refine iteF ?_
        refine ⟨_, rfl, _, rfl, x, dx4, _, _, rfl, ex4, ty, k2, x, d, kv, v, _, false, rfl, R4.c, ty, k1, fun _ => ⟨_, rfl, _, rfl, ?_⟩, fun z => by cases z⟩
        exact iteF ⟨s4, eD⟩
      · rintro G ⟨s4, eD⟩
        refine ⟨(by show 0 ≤ sizeLine; decide), fun l nl => ?_⟩
        have s5 : Same G (upd G l (.lst [])) := Same.up nl
        refine ⟨.list [], .list [], .lst (SqL.of (s5 _ _ eD)) .nil, .lst (SqL.of upd_same) .nil, by decide +kernel, by decide +kernel, _, rfl, ?_⟩
        exact iteF ⟨rfl, s4.trans s5⟩
    rintro _ G4 ⟨rfl, s4⟩
    have s34 := s3.trans s4
    obtain ⟨dx4, ex4⟩ := (R2.same s34).c.x
    refine ⟨_, rfl, x, C, dx4, _, _, rfl, ex4, T.c, T.bu, (by rfl), _, _, rfl, rfl, ?_⟩
    exact q _ (e2.trans (LamX.ExtN.of s34)) (t2.ext s34)
end
end Sw
namespace Sw
open PySem L2 PyProof.Rows PySem.Spec
abbrev sAlike : Stmt := top 15
structure Row where
  r : Addr
  x : Addr
  d : Addr
  w : Addr
  kv : Kv
  kw : Kv
def Row.At (C : Addr) (zs : List Str) (H : Hp) (o : Row) : Prop := RowO C zs H o.r o.x o.d o.w o.kv o.kw
structure RowsAt (C : Addr) (zs : List Str) (H : Hp) (R : Addr) (rs : List Row) : Prop where
  hR : H R = some (.lst (rs.map fun o => V.ref o.r))
  len : rs.length = 3
  all : ∀ o ∈ rs, o.At C zs H
  nx : (rs.map Row.x).Nodup
  nd : (rs.map Row.d ++ rs.map Row.w).Nodup
theorem RowO.ext {C : Addr} {zs : List Str} {H H' : Hp} {r x d w : Addr} {kv kw : Kv} (o : RowO C zs H r x d w kv kw) (e : LamX.ExtN H H') : RowO C zs H' r x d w kv kw :=
  ⟨e _ _ o.hr notTbl_lst, o.hc.ext e, e _ _ o.hw notTbl_dK, o.ne, o.nk, o.nw, o.e, o.sub, o.ok⟩
theorem RowO.keep {C : Addr} {zs : List Str} {H H' : Hp} {ex : List Addr} {r x d w : Addr} {kv kw : Kv} (o : RowO C zs H r x d w kv kw) (e : Kp ex H H') (h : ∀ b ∈ ex, b ≠ r ∧ b ≠ x ∧ b ≠ d ∧ b ≠ w) : RowO C zs H' r x d w kv kw :=
  ⟨e _ _ o.hr (fun z => (h _ z).1 rfl), o.hc.keep e (fun z => (h _ z).2.1 rfl) (fun z => (h _ z).2.2.1 rfl), e _ _ o.hw (fun z => (h _ z).2.2.2 rfl), o.ne, o.nk, o.nw, o.e, o.sub, o.ok⟩
theorem RowsAt.ext {C : Addr} {zs : List Str} {H H' : Hp} {R : Addr} {rs : List Row} (o : RowsAt C zs H R rs) (e : LamX.ExtN H H') : RowsAt C zs H' R rs :=
  ⟨e _ _ o.hR notTbl_lst, o.len, fun a ha => (o.all a ha).ext e, o.nx, o.nd⟩
theorem RowsAt.same {C : Addr} {zs : List Str} {H H' : Hp} {R : Addr} {rs : List Row} (o : RowsAt C zs H R rs) (e : Same H H') : RowsAt C zs H' R rs := o.ext (LamX.ExtN.of e)
def spAlike (C : Addr) : Sp := fun vs H Q _ => ∃ (R : Addr) (zs : List Str) (rs : List Row), vs = [.ref R] ∧ RowsAt C zs H R rs ∧ ∀ H', Same H H' → Q (.bl true) H'
def nAlike : List Str := ["rows", "one", "due", "other", "wanted", "k", "j"]
theorem scAlike : FnScope nAlike ["rows"] (defScope sAlike) := ⟨rfl, rfl, rfl, by decide +kernel, rfl, by decide +kernel, by decide +kernel⟩
theorem eqv_bools : ∀ bs : List Bool, PyData.eqvAll (bs.map PyData.bool) (bs.map PyData.bool) = true
  | [] => by simp [PyData.eqvAll]
  | b :: bs => by simp [PyData.eqvAll, PyData.eqv, eqv_bools bs]
theorem dp_bools {K : PySem.W.Frag} {H : Hp} : ∀ bs : List Bool, DpAll K H (bs.map V.bl) (bs.map PyData.bool)
  | [] => .nil
  | b :: bs => .cons (.bl b) (dp_bools bs)
theorem shaped_bools (bs : List Bool) : SeqAt.shaped (.list (bs.map PyData.bool)) = true := by
  have h1 : ∀ bs : List Bool, PyData.canLayAll0 (bs.map PyData.bool) = true := fun bs => by
    induction bs with
    | nil => simp [PyData.canLayAll0]
    | cons b bs ih => simp [PyData.canLayAll0, PyData.canLay0, ih]
  have h2 : ∀ bs : List Bool, PyData.depthAll (bs.map PyData.bool) = 0 := fun bs => by
    induction bs with
    | nil => simp [PyData.depthAll]
    | cons b bs ih => simp [PyData.depthAll, PyData.depth, ih]
  unfold SeqAt.shaped
  rw [Bool.and_eq_true]
  refine ⟨by simpa only [PyData.canLay0] using h1 bs, decide_eq_true ?_⟩
  simp only [PyData.depth, h2]
  omega
theorem sameK_same {a b c d : Kv} (h1 : Eqv a c) (h2 : Eqv b d) (na : (keys a).Nodup) (nb : (keys b).Nodup) (nc : (keys c).Nodup) (nd : (keys d).Nodup) : sameK (kvK a) (kvK b) = sameK (kvK c) (kvK d) := by
  rw [Bool.eq_iff_iff, sameK_iff na nb, sameK_iff nc nd]
  exact ⟨fun h x => by rw [← h1 x, ← h2 x, h x], fun h x => by rw [h1 x, h2 x, h x]⟩
/-- a context is of its class -/
def CtxTy (K : PySem.W.Frag) (C : Addr) : Prop := ∀ (H : Hp) (a dx : Addr) (fs : List (Str × V)), H a = some (.ins C dx fs) → TyX K H (.ref a) (.ref C)
section
variable {P : Program} {w : World} {K : PySem.W.Frag} {mg : Str → Option Value} {base : Heap} {C CF : Addr}
theorem ok_alike {f fE fS : Addr} {fd dE dS : FuncData} (F : Fun K "_law_alike_right" "_law_alike_right" sAlike f fd) (T : CtxC K mg C) (TX : CtxT K C) (ty : CtxTy K C) (GE : FnOk P w K mg base CX0 1 fE dE ["self", "other"] (spEq K C)) (mE : Meth K C "__eq__" fE) (bE : L2.Binds K dE ["self", "other"] [])
    (GS : FnOk P w K mg base CX0 1 fS dS ["self", "other"] (spSame C)) (mS : Meth K C "is_same" fS) (bS : L2.Binds K dS ["self", "other"] []) (mr : mg "repr" = none) (mg2 : mg "range" = none) : FnOkG P w K mg base CX0 3 f fd ["rows"] (spAlike C) := by
  refine okG F scAlike (fun vs H Q E h => ?_) (fun cdv A outer s H vs Q E hcd hcv hr hg h => ?_)
  · obtain ⟨R, zs, rs, rfl, _⟩ := h
    rfl
  · obtain ⟨R, zs, rs, rfl, RS, q⟩ := h
    have h1 : Room 1 (A.deeper (envOfC "_law_alike_right" (defScope sAlike) s.heap.objs.size f cdv)) := hr.mono (by decide)
    refine ⟨_, pss_mid (ps_for PassesOwn.never rfl (pi_list (pv 0)) (pg_unl rfl (pgs_cons (pg_name (i := 1) scAlike.nd rfl (Or.inl rfl)) (pgs_cons (pg_name (i := 2) scAlike.nd rfl (Or.inl rfl)) pgs_nil)))
        (pss_one (ps_for PassesOwn.never rfl (pi_list (pv 0)) (pg_unl rfl (pgs_cons (pg_name (i := 3) scAlike.nd rfl (Or.inl rfl)) (pgs_cons (pg_name (i := 4) scAlike.nd rfl (Or.inl rfl)) pgs_nil)))
          (pss_one (ps_if (pt_cmpR op_ne (pe_callB (call_reprG hg hr.units) (by rfl) mr (by decide +kernel) (pa_cons (pe_tup (pa_cons (pe_cmpR (op_eqOwn GE mE h1 bE pass0) (pv 1) (pv 3) (by rfl)) (pa_cons (pe_cmpR (op_neOwn GE mE TX.ne TX.ob hr bE pass0) (pv 1) (pv 3) (by rfl)) pa_nil))) pa_nil))
            (pe_callB (call_reprG hg hr.units) (by rfl) mr (by decide +kernel) (pa_cons (pe_tup (pa_cons (pe_cmpR (op_eqDc hr.units0) (pv 2) (pv 4) (by rfl)) (pa_cons (pe_cmpR (op_neDc hr.units0) (pv 2) (pv 4) (by rfl)) pa_nil))) pa_nil)) (by rfl)) (pss_one (ps_ret pe_bl)) pss_nil)))))
      (pss_mid (ps_for PassesOwn.never rfl (pi_range1 rfl mg2 (pa_cons pe_int pa_nil)) (pg_name (i := 5) scAlike.nd rfl (Or.inr rfl))
        (pss_one (ps_if (pt_cmpR (op_neD hr.units)
          (pe_lc (own := [("other", 3), ("due", 2)]) (g := gUnl K 2 (gCons (gName 3) (gCons (gName 2) gNil))) (tt := tYes) (te := tMeth C "is_same" (spSame C) [] E0 (tOp (rIxL K) (tOp (rIxL K) (tVar 0) (tVar 5)) (tC (.int 0))) (tCons (tVar 3) tNil)) rfl scAlike.nd (pi_list (pv 0)) (blkOk_by (N := nAlike) (sc := defScope sAlike) (by decide +kernel))
            (fun _ _ _ _ _ => pg_unl rfl (pgs_cons (pg_name (i := 3) scAlike.nd rfl (Or.inl rfl)) (pgs_cons (pg_name (i := 2) scAlike.nd rfl (Or.inl rfl)) pgs_nil))) (fun _ _ _ _ _ => pts_nil)
            (fun _ _ _ _ _ => pe_meth (pe_ix ix_list (pe_ix ix_list (pv 0) (pv 5) (fun _ _ => rfl)) pe_int (fun _ _ => rfl)) T.c mS GS h1 bS .nil pass0 (pa_cons (pv 3) pa_nil)))
          (pe_lc (own := [("j", 6)]) (g := gName 6) (tt := tYes) (te := tOp rEq (tVar 5) (tVar 6)) rfl scAlike.nd (pi_range1 rfl mg2 (pa_cons pe_int pa_nil)) (blkOk_by (N := nAlike) (sc := defScope sAlike) (by decide +kernel))
            (fun _ _ _ _ _ => pg_name (i := 6) scAlike.nd rfl (Or.inl rfl)) (fun _ _ _ _ _ => pts_nil) (fun _ _ _ _ _ => pe_cmpR op_eq (pv 5) (pv 6) (by rfl))) (by rfl)) (pss_one (ps_ret pe_bl)) pss_nil)))
      (pss_one (ps_ret pe_bl))), ?_⟩
    have at_row : ∀ (i : Nat) (v : V), (rs.map fun o => V.ref o.r)[i]? = some v → ∃ o ∈ rs, rs[i]? = some o ∧ v = V.ref o.r := fun i v hi => by
      rw [List.getElem?_map] at hi
      cases e : rs[i]? with
      | none => rw [e] at hi; cases hi
      | some o => rw [e] at hi; exact ⟨o, List.mem_of_getElem? e, rfl, (Option.some.inj hi).symm⟩
    -- == and !=
    refine ⟨fun σ1 G => ∃ v1 v2 v3 v4, σ1 = [some (.ref R), v1, v2, v3, v4, none, none] ∧ Same H G, ?_, ?_⟩
    · refine ⟨_, rfl, R, rfl, ⟨_, SqL.of RS.hR⟩, for_list (K := K) (a := R) (xs := rs.map fun o => V.ref o.r) (fun i σ1 G => ∃ v1 v2 v3 v4, σ1 = [some (.ref R), v1, v2, v3, v4, none, none] ∧ Same H G) ⟨_, _, _, _, rfl, Same.refl _⟩ (fun i σ1 G _ ⟨_, _, _, _, _, s1⟩ => SqL.of (s1 _ _ RS.hR)) ?_ (fun σ1 G h => h)⟩
      rintro i v _ G hi ⟨v1, v2, v3, v4, rfl, s1⟩
      obtain ⟨o, ho, _, rfl⟩ := at_row i v hi
      have RG := RS.same s1
      have O : RowO C zs G o.r o.x o.d o.w o.kv o.kw := RG.all o ho
      refine ⟨o.r, _, rfl, SqL.of O.hr, rfl, _, _, rfl, _, _, rfl, rfl, ?_⟩
      refine ⟨_, rfl, R, rfl, ⟨_, SqL.of RG.hR⟩, for_list (K := K) (a := R) (xs := rs.map fun o => V.ref o.r) (fun i σ1 G2 => ∃ v3 v4, σ1 = [some (.ref R), some (.ref o.x), some (.ref o.w), v3, v4, none, none] ∧ Same G G2) ⟨_, _, rfl, Same.refl _⟩ (fun i σ1 G _ ⟨_, _, _, s2⟩ => SqL.of (s2 _ _ RG.hR)) ?_ (fun σ1 G2 ⟨_, _, h, s2⟩ => ⟨_, _, _, _, h, s1.trans s2⟩)⟩
      rintro j v _ G2 hj ⟨v3, v4, rfl, s2⟩
      obtain ⟨o', ho', _, rfl⟩ := at_row j v hj
      have RG2 := RG.same s2
      have O1 : RowO C zs G2 o.r o.x o.d o.w o.kv o.kw := RG2.all o ho
      have O2 : RowO C zs G2 o'.r o'.x o'.d o'.w o'.kv o'.kw := RG2.all o' ho'
      refine ⟨o'.r, _, rfl, SqL.of O2.hr, rfl, _, _, rfl, _, _, rfl, rfl, ?_⟩
      obtain ⟨dx1, e1⟩ := O1.hc.x
      obtain ⟨dx2, e2⟩ := O2.hc.x
      have t2 := ty _ _ _ _ e2
      have hs := sameK_same O1.e O2.e O1.nk O2.nk O1.nw O2.nw
      refine ⟨_, rfl, _, rfl, o.x, dx1, _, _, rfl, e1, t2, TX.nown, o.x, o.d, o.kv, _, _, true, rfl, O1.hc, t2, TX.own, (fun z => by cases z), fun _ => ⟨o'.x, o'.d, o'.kv, rfl, O2.hc, _, rfl, ?_⟩⟩
      refine ⟨_, rfl, _, rfl, o.x, dx1, _, _, rfl, e1, t2, TX.nown, o.x, o.d, o.kv, _, _, true, rfl, O1.hc, t2, TX.own, (fun z => by cases z), fun _ => ⟨o'.x, o'.d, o'.kv, rfl, O2.hc, _, rfl, ?_⟩⟩
      obtain ⟨b, hb⟩ : ∃ b, sameK (kvK o.kw) (kvK o'.kw) = b := ⟨_, rfl⟩
      rw [hs, hb]
      refine ⟨(by show 2 ≤ sizeLine; decide), fun p np => ?_⟩
      have s3 : Same G2 (upd G2 p (.tup [.bl b, .bl !b])) := Same.up np
      have two : ∀ b c : Bool, (PyData.tuple [.bool b, .bool c]).showable = true ∧ (PyData.tuple [.bool b, .bool c]).hasDict = false ∧ (PyData.tuple [.bool b, .bool c]).depth ≤ 60 ∧ (PyData.tuple [.bool b, .bool c]).shown.length ≤ sizeLine := fun b c => by
        refine ⟨rfl, rfl, (by cases b <;> cases c <;> decide +kernel), ?_⟩
        cases b <;> cases c <;> decide +kernel
      obtain ⟨q1, q2, q3, q4⟩ := two b (!b)
      refine ⟨_, .tuple [.bool b, .bool !b], rfl, .tup (.inl (.inl upd_same)) (.cons (.bl b) (.cons (.bl _) .nil)), q1, q2, q3, q4, ?_⟩
      refine ⟨_, rfl, _, rfl, o.w, o'.w, _, _, rfl, rfl, s3 _ _ O1.hw, s3 _ _ O2.hw, kvK_flat _, kvK_flat _, ?_⟩
      refine ⟨_, rfl, _, rfl, o.w, o'.w, _, _, rfl, rfl, s3 _ _ O1.hw, s3 _ _ O2.hw, kvK_flat _, kvK_flat _, ?_⟩
      rw [hb]
      refine ⟨(by show 2 ≤ sizeLine; decide), fun p2 np2 => ?_⟩
      refine ⟨_, .tuple [.bool b, .bool !b], rfl, .tup (.inl (.inl upd_same)) (.cons (.bl b) (.cons (.bl _) .nil)), q1, q2, q3, q4, ?_⟩
      exact ⟨rfl, _, rfl, iteNe rfl ⟨_, _, rfl, s2.trans (s3.trans (Same.up np2))⟩⟩
    rintro _ G1 ⟨v1, v2, v3, v4, rfl, s1⟩
    -- is_same
    have R1 := RS.same s1
    refine ⟨fun σ1 G => Same G1 G, ?_, ?_⟩
    · refine ⟨3, rfl, by decide, by decide, for_range (lo := 0) (n := (3 : Int).toNat) (fun i σ1 G => ∃ v5, σ1 = [some (.ref R), v1, v2, v3, v4, v5, none] ∧ Same G1 G) ⟨_, rfl, Same.refl _⟩ ?_ (fun σ1 G ⟨_, _, h⟩ => h)⟩
      rintro k _ G hk ⟨v5, rfl, s2⟩
      have hk3 : k < 3 := hk
      have R2 := R1.same s2
      have hkl : k < rs.length := by rw [RS.len]; exact hk3
      have O1 : RowO C zs G rs[k].r rs[k].x rs[k].d rs[k].w rs[k].kv rs[k].kw := R2.all _ (List.getElem_mem hkl)
      refine ⟨_, rfl, R, rfl, ⟨_, SqL.of R2.hR⟩, fun D hD => ?_⟩
      refine lc_list (K := K) (a := R) (xs := rs.map fun o => V.ref o.r) (fun i G2 => Same G G2 ∧ G2 D = some (.lst (((rs.take i).map fun o => decide (o.x = rs[k].x)).map V.bl))) ⟨Same.up hD, upd_same⟩ (fun i G2 _ ⟨s3, _⟩ => SqL.of (s3 _ _ R2.hR)) ?_ ?_
      · rintro i v G2 hi ⟨s3, eD⟩
        obtain ⟨o, ho, hoi, rfl⟩ := at_row i v hi
        have hil : i < rs.length := (List.getElem?_eq_some_iff.mp hoi).1
        have R3 := R2.same s3
        have O2 : RowO C zs G2 o.r o.x o.d o.w o.kv o.kw := R3.all o ho
        have O3 : RowO C zs G2 rs[k].r rs[k].x rs[k].d rs[k].w rs[k].kv rs[k].kw := R3.all _ (List.getElem_mem hkl)
        refine ⟨o.r, _, rfl, SqL.of O2.hr, rfl, _, _, rfl, _, _, rfl, rfl, rfl, ?_⟩
        obtain ⟨dx, ex⟩ := O3.hc.x
        refine ⟨_, rfl, _, rfl, R, _, _, .ref rs[k].r, rfl, rfl, SqL.of R3.hR, ?_, ?_⟩
        · rw [show (0 : Int) + (k : Int) = (k : Int) by omega]
          exact atI_nat (by rw [List.getElem?_map, List.getElem?_eq_getElem hkl]; rfl)
        refine ⟨rs[k].r, _, _, .ref rs[k].x, rfl, rfl, SqL.of O3.hr, rfl, ?_⟩
        refine ⟨rs[k].x, dx, _, rfl, ex, (by rfl), _, rfl, rs[k].x, rs[k].d, o.x, o.d, _, _, rfl, O3.hc, O2.hc, ?_⟩
        refine ⟨_, eD, ?_, Same.mut s3 hD, ?_⟩
        · rw [List.length_map, List.length_map, List.length_take]
          have := RS.len
          exact Nat.lt_of_le_of_lt (m := 3) (by omega) (by decide)
        · have e3 : rs[i] = o := Option.some.inj ((List.getElem?_eq_getElem hil).symm.trans hoi)
          rw [upd_same, List.take_succ_eq_append_getElem hil, List.map_append, List.map_append, e3]
          rfl
      · rintro G2 ⟨s3, eD⟩
        rw [List.length_map, List.take_length] at eD
        refine ⟨3, rfl, by decide, by decide, fun D2 hD2 => ?_⟩
        refine lc_range (lo := 0) (n := (3 : Int).toNat) (fun j G3 => Same G2 G3 ∧ G3 D2 = some (.lst (((List.range j).map fun j => decide (j = k)).map V.bl))) ⟨Same.up hD2, upd_same⟩ ?_ ?_
        · rintro j G3 hj ⟨s4, eD2⟩
          refine ⟨rfl, ?_⟩
          refine ⟨_, rfl, _, rfl, rfl, _, eD2, ?_, Same.mut s4 hD2, ?_⟩
          · rw [List.length_map, List.length_map, List.length_range]
            have : j < 3 := hj
            exact Nat.lt_of_le_of_lt (m := 3) (by omega) (by decide)
          · rw [upd_same, List.range_succ, List.map_append, List.map_append]
            have : decide (V.int (0 + (k : Int)) = V.int (0 + (j : Int))) = decide (j = k) := by
              by_cases e : j = k
              · subst e; simp
              · have e2 : ¬ V.int (0 + (k : Int)) = V.int (0 + (j : Int)) := fun z => e (by injection z with z; omega)
                rw [decide_eq_false e, decide_eq_false e2]
            rw [this]
            rfl
        · rintro G3 ⟨s4, eD2⟩
          have e4 : (rs.map fun o => decide (o.x = rs[k].x)) = (List.range (3 : Int).toNat).map fun j => decide (j = k) := by
            apply List.ext_getElem
            · rw [List.length_map, List.length_map, List.length_range, RS.len]; rfl
            · intro n h5 h6
              rw [List.getElem_map, List.getElem_map, List.getElem_range]
              have hn : n < rs.length := by simpa using h5
              by_cases e : n = k
              · subst e; simp
              · have : ¬ rs[n].x = rs[k].x := fun z => by
                  have := (List.getElem_inj (h₀ := by simpa using hn) (h₁ := by simpa using hkl) RS.nx).mp (by simpa using z)
                  exact e this
                rw [decide_eq_false e, decide_eq_false this]
          rw [← e4] at eD2
          refine ⟨.list (_ : List PyData), .list (_ : List PyData), .lst (SqL.of (s4 _ _ eD)) (dp_bools _), .lst (SqL.of eD2) (dp_bools _), shaped_bools _, shaped_bools _, _, rfl, ?_⟩
          rw [show PyData.eqv (.list ((rs.map fun o => decide (o.x = rs[k].x)).map PyData.bool)) (.list ((rs.map fun o => decide (o.x = rs[k].x)).map PyData.bool)) = true from by simp only [PyData.eqv, eqv_bools]]
          exact iteF ⟨_, rfl, s2.trans (s3.trans s4)⟩
    intro σ1 G s2
    exact q _ (s1.trans s2)
end
end Sw
namespace Sw
open PySem L2 PyProof.Rows PySem.Spec
theorem StAt.ext {H H' : Hp} {st cl lf : Addr} {rm : V} {a : Int} (S : StAt H st cl lf rm a) (e : LamX.ExtN H H') : StAt H' st cl lf rm a := by
  obtain ⟨cs, ls, e1, e2, r⟩ := S.c
  exact ⟨e _ _ S.d notTbl_dK, ⟨cs, ls, e _ _ e1 notTbl_lst, e _ _ e2 notTbl_lst, r⟩, S.a0, S.ne⟩
/-- tables are no dicts, no lists -/
theorem Tabs.keep {T : List (Addr × Str)} {G G' : Hp} {ex : List Addr} (t : LamX.Tabs T G) (k : Kp ex G G') (h : ∀ b ∈ ex, (∃ l, G b = some (.lst l)) ∨ ∃ l, G b = some (.dK l)) : LamX.Tabs T G' := by
  have ne : ∀ b o, G b = some o → (∀ l, o ≠ .lst l) → (∀ l, o ≠ .dK l) → b ∉ ex := fun b o e h1 h2 z => by
    rcases h b z with ⟨l, q⟩ | ⟨l, q⟩
    · rw [q] at e; exact h1 l (Option.some.inj e).symm
    · rw [q] at e; exact h2 l (Option.some.inj e).symm
  intro p hp
  obtain ⟨ps, e1, e2, e3⟩ := t p hp
  refine ⟨ps, k _ _ e1 (ne _ _ e1 (fun _ z => by cases z) (fun _ z => by cases z)), e2, fun pos cv hc => ?_⟩
  obtain ⟨c, ec, eo⟩ := e3 pos cv hc
  refine ⟨c, ec, k _ _ eo (ne _ _ eo (fun l z => ?_) (fun l z => ?_))⟩
  · have z' : HO.ext _ = HO.lst l := z
    cases z'
  · have z' : HO.ext _ = HO.dK l := z
    cases z'
/-- the law's world -/
structure Wd (C : Addr) (zs : List Str) (T : List (Addr × Str)) (G : Hp) (st cl lf nm R : Addr) (rs : List Row) (a : Int) : Prop where
  S : StAt G st cl lf (.int 0) a
  hn : G nm = some (.lst (zs.map V.str))
  tb : LamX.Tabs T G
  hR : G R = some (.lst (rs.map fun o => V.ref o.r))
  all : ∀ o ∈ rs, o.At C zs G
  nx : (rs.map Row.x).Nodup
  nd : (rs.map Row.d ++ rs.map Row.w).Nodup
  nl : nm ≠ lf ∧ R ≠ lf ∧ R ≠ cl ∧ R ≠ nm
  ro : ∀ o ∈ rs, o.r ≠ lf ∧ o.r ≠ R ∧ o.d ≠ st ∧ o.w ≠ st
section
variable {C : Addr} {zs : List Str} {T : List (Addr × Str)} {G G' : Hp} {st cl lf nm R : Addr} {rs : List Row} {a a' : Int}
theorem Wd.rows (W : Wd C zs T G st cl lf nm R rs a) (h : rs.length = 3) : RowsAt C zs G R rs := ⟨W.hR, h, W.all, W.nx, W.nd⟩
theorem Wd.ext (W : Wd C zs T G st cl lf nm R rs a) (e : LamX.ExtN G G') (t : LamX.Tabs T G') : Wd C zs T G' st cl lf nm R rs a :=
  ⟨W.S.ext e, e _ _ W.hn notTbl_lst, t, e _ _ W.hR notTbl_lst, fun o ho => (W.all o ho).ext e, W.nx, W.nd, W.nl, W.ro⟩
theorem Wd.same (W : Wd C zs T G st cl lf nm R rs a) (e : Same G G') : Wd C zs T G' st cl lf nm R rs a := W.ext (LamX.ExtN.of e) (W.tb.ext e)
/-- what is not known is apart -/
theorem Wd.apart (W : Wd C zs T G st cl lf nm R rs a) {b : Addr} (h : G b = none) : b ≠ st ∧ b ≠ cl ∧ b ≠ lf ∧ b ≠ nm ∧ b ≠ R ∧ ∀ o ∈ rs, b ≠ o.r ∧ b ≠ o.x ∧ b ≠ o.d ∧ b ≠ o.w := by
  obtain ⟨h1, h2, h3⟩ := W.S.apart h
  refine ⟨h1, h2, h3, (ne_of_none W.hn h).symm, (ne_of_none W.hR h).symm, fun o ho => ?_⟩
  have O : RowO C zs G o.r o.x o.d o.w o.kv o.kw := W.all o ho
  obtain ⟨dx, ex⟩ := O.hc.x
  exact ⟨(ne_of_none O.hr h).symm, (ne_of_none ex h).symm, (ne_of_none O.hc.d h).symm, (ne_of_none O.hw h).symm⟩
/-- kinds differ -/
theorem Wd.kinds (W : Wd C zs T G st cl lf nm R rs a) {o : Row} (ho : o ∈ rs) : o.r ≠ st ∧ o.x ≠ st ∧ o.x ≠ lf ∧ o.d ≠ lf ∧ o.w ≠ lf ∧ o.x ≠ R ∧ o.d ≠ R ∧ o.w ≠ R ∧ o.d ≠ cl ∧ o.w ≠ cl ∧ o.d ≠ nm ∧ o.w ≠ nm := by
  have O : RowO C zs G o.r o.x o.d o.w o.kv o.kw := W.all o ho
  obtain ⟨dx, ex⟩ := O.hc.x
  obtain ⟨cs, ls, e1, e2, _⟩ := W.S.c
  have hd := O.hc.d
  refine ⟨ne_of O.hr W.S.d ?_, ne_of ex W.S.d ?_, ne_of ex e2 ?_, ne_of hd e2 ?_, ne_of O.hw e2 ?_, ne_of ex W.hR ?_, ne_of hd W.hR ?_, ne_of O.hw W.hR ?_, ne_of hd e1 ?_, ne_of O.hw e1 ?_, ne_of hd W.hn ?_, ne_of O.hw W.hn ?_⟩ <;> (intro z; cases z)
/-- draws -/
theorem Wd.draw (W : Wd C zs T G st cl lf nm R rs a) (S : StAt G' st cl lf (.int 0) a') (k : Kp [st, lf] G G') : Wd C zs T G' st cl lf nm R rs a' := by
  obtain ⟨cs, ls, e1, e2, _⟩ := W.S.c
  have mem : ∀ b, b ≠ st → b ≠ lf → b ∉ [st, lf] := fun b h1 h2 => by simp [h1, h2]
  refine ⟨S, k _ _ W.hn (mem _ (ne_of W.hn W.S.d (by intro z; cases z)) W.nl.1), Tabs.keep W.tb k (fun b hb => ?_), k _ _ W.hR (mem _ (ne_of W.hR W.S.d (by intro z; cases z)) W.nl.2.1), fun o ho => ?_, W.nx, W.nd, W.nl, W.ro⟩
  · simp only [List.mem_cons, List.not_mem_nil, or_false] at hb
    rcases hb with rfl | rfl
    · exact .inr ⟨_, W.S.d⟩
    · exact .inl ⟨_, e2⟩
  · have O : RowO C zs G o.r o.x o.d o.w o.kv o.kw := W.all o ho
    obtain ⟨k1, k2, k3, k4, k5, _⟩ := W.kinds ho
    obtain ⟨r1, r2, r3, r4⟩ := W.ro o ho
    refine O.keep k fun b hb => ?_
    simp only [List.mem_cons, List.not_mem_nil, or_false] at hb
    rcases hb with rfl | rfl
    · exact ⟨k1.symm, k2.symm, r3.symm, r4.symm⟩
    · exact ⟨r1.symm, k3.symm, k4.symm, k5.symm⟩
theorem nodup_set {α : Type} {l : List α} {i : Nat} {b : α} (h : l.Nodup) (hb : b ∉ l) : (l.set i b).Nodup := by
  induction l generalizing i with
  | nil => exact h
  | cons x l ih =>
    obtain ⟨h1, h2⟩ := List.nodup_cons.mp h
    have hb' : b ∉ l := fun z => hb (List.mem_cons_of_mem _ z)
    cases i with
    | zero => exact List.nodup_cons.mpr ⟨hb', h2⟩
    | succ i =>
      refine List.nodup_cons.mpr ⟨fun z => ?_, ih h2 hb'⟩
      rcases List.mem_or_eq_of_mem_set z with q | q
      · exact h1 q
      · exact hb (by rw [q]; exact List.mem_cons_self)
theorem set_same {α β : Type} {l : List α} {i : Nat} {o o' : α} (f : α → β) (h : l[i]? = some o) (e : f o' = f o) : (l.set i o').map f = l.map f := by
  apply List.ext_getElem?
  intro j
  rw [List.getElem?_map, List.getElem?_map, List.getElem?_set]
  split
  · rename_i q
    subst q
    rw [h]
    split
    · show some (f o') = some (f o)
      rw [e]
    · rename_i hl
      exact absurd (List.getElem?_eq_some_iff.mp h).1 hl
  · rfl
theorem mem_set {α : Type} {l : List α} {i : Nat} {b o : α} (h : b ∈ l.set i o) : b = o ∨ ∃ j, j ≠ i ∧ l[j]? = some b := by
  obtain ⟨j, hj⟩ := List.mem_iff_getElem?.mp h
  rw [List.getElem?_set] at hj
  split at hj
  · split at hj
    · exact .inl (Option.some.inj hj).symm
    · cases hj
  · rename_i q
    exact .inr ⟨j, fun z => q z.symm, hj⟩
theorem nodup_get {α : Type} {l : List α} (h : l.Nodup) {i j : Nat} {x : α} (hi : l[i]? = some x) (hj : l[j]? = some x) : i = j := by
  obtain ⟨h1, e1⟩ := List.getElem?_eq_some_iff.mp hi
  obtain ⟨h2, e2⟩ := List.getElem?_eq_some_iff.mp hj
  exact (List.getElem_inj h).mp (e1.trans e2.symm)
/-- two rows apart -/
theorem Wd.two (W : Wd C zs T G st cl lf nm R rs a) {i j : Nat} {o p : Row} (hi : rs[i]? = some o) (hj : rs[j]? = some p) (h : j ≠ i) : p.d ≠ o.d ∧ p.d ≠ o.w ∧ p.w ≠ o.d ∧ p.w ≠ o.w := by
  obtain ⟨n1, n2, n3⟩ := List.nodup_append.mp W.nd
  have g : ∀ (f : Row → Addr) (i : Nat) (o : Row), rs[i]? = some o → (rs.map f)[i]? = some (f o) := fun f i o e => by rw [List.getElem?_map, e]; rfl
  have m : ∀ (f : Row → Addr) (i : Nat) (o : Row), rs[i]? = some o → f o ∈ rs.map f := fun f i o e => List.mem_map.mpr ⟨o, List.mem_of_getElem? e, rfl⟩
  refine ⟨fun z => h (nodup_get n1 (g _ _ _ hj) (by rw [z]; exact g _ _ _ hi)), fun z => n3 _ (m _ _ _ hj) _ (m _ _ _ hi) z, fun z => n3 _ (m _ _ _ hi) _ (m _ _ _ hj) z.symm, fun z => h (nodup_get n2 (g _ _ _ hj) (by rw [z]; exact g _ _ _ hi))⟩
/-- a row's values change -/
theorem Wd.put (W : Wd C zs T G st cl lf nm R rs a) {i : Nat} {o : Row} (hi : rs[i]? = some o) {kv kw : Kv} (k : Kp [o.d, o.w] G G') (c : CtxAt C G' o.x o.d kv) (hw : G' o.w = some (.dK (kvK kw))) (nk : (keys kv).Nodup) (nw : (keys kw).Nodup) (e : Eqv kv kw)
    (sub : ∀ y ∈ keys kv, y ∈ zs) (ok : ∀ p ∈ kv, okV p.2) : Wd C zs T G' st cl lf nm R (rs.set i { o with kv := kv, kw := kw }) a := by
  have ho : o ∈ rs := List.mem_of_getElem? hi
  have O : RowO C zs G o.r o.x o.d o.w o.kv o.kw := W.all o ho
  obtain ⟨k1, k2, k3, k4, k5, k6, k7, k8, k9, k10, k11, k12⟩ := W.kinds ho
  obtain ⟨r1, r2, r3, r4⟩ := W.ro o ho
  have mem : ∀ b, b ≠ o.d → b ≠ o.w → b ∉ [o.d, o.w] := fun b h1 h2 => by simp [h1, h2]
  refine ⟨W.S.keep k (mem _ r3.symm r4.symm) (mem _ k9.symm k10.symm) (mem _ k4.symm k5.symm), k _ _ W.hn (mem _ k11.symm k12.symm), Tabs.keep W.tb k (fun b hb => ?_), ?_, fun p hp => ?_, ?_, ?_, W.nl, fun p hp => ?_⟩
  · simp only [List.mem_cons, List.not_mem_nil, or_false] at hb
    rcases hb with rfl | rfl
    · exact .inr ⟨_, O.hc.d⟩
    · exact .inr ⟨_, O.hw⟩
  · rw [set_same _ hi (by rfl)]
    exact k _ _ W.hR (mem _ k7.symm k8.symm)
  · rcases mem_set hp with rfl | ⟨j, hj, ej⟩
    · refine ⟨k _ _ O.hr (mem _ (ne_of O.hr O.hc.d (by intro z; cases z)) (ne_of O.hr O.hw (by intro z; cases z))), c, hw, O.ne, nk, nw, e, sub, ok⟩
    · have hp' : p ∈ rs := List.mem_of_getElem? ej
      have O' : RowO C zs G p.r p.x p.d p.w p.kv p.kw := W.all p hp'
      obtain ⟨t1, t2, t3, t4⟩ := W.two hi ej hj
      obtain ⟨dx, ex⟩ := O'.hc.x
      refine O'.keep k fun b hb => ?_
      simp only [List.mem_cons, List.not_mem_nil, or_false] at hb
      rcases hb with rfl | rfl
      · exact ⟨ne_of O.hc.d O'.hr (by intro z; cases z), ne_of O.hc.d ex (by intro z; cases z), t1.symm, t3.symm⟩
      · exact ⟨ne_of O.hw O'.hr (by intro z; cases z), ne_of O.hw ex (by intro z; cases z), t2.symm, t4.symm⟩
  · rw [set_same _ hi (by rfl)]; exact W.nx
  · rw [set_same _ hi (by rfl), set_same _ hi (by rfl)]; exact W.nd
  · rcases mem_set hp with rfl | ⟨j, hj, ej⟩
    · exact ⟨r1, r2, r3, r4⟩
    · exact W.ro p (List.mem_of_getElem? ej)
/-- a new row is apart from the old ones -/
structure RowNew (C : Addr) (zs : List Str) (G : Hp) (st lf R : Addr) (rs : List Row) (o : Row) : Prop where
  at_ : o.At C zs G
  r : o.r ≠ lf ∧ o.r ≠ R ∧ o.d ≠ st ∧ o.w ≠ st
  x : o.x ∉ rs.map Row.x
  d : o.d ∉ rs.map Row.d ++ rs.map Row.w
  w : o.w ∉ rs.map Row.d ++ rs.map Row.w
theorem Wd.putR (W : Wd C zs T G st cl lf nm R rs a) {qs : List Row} (hall : ∀ o ∈ qs, o.At C zs G) (nx : (qs.map Row.x).Nodup) (nd : (qs.map Row.d ++ qs.map Row.w).Nodup) (ro : ∀ o ∈ qs, o.r ≠ lf ∧ o.r ≠ R ∧ o.d ≠ st ∧ o.w ≠ st) :
    Wd C zs T (upd G R (.lst (qs.map fun o => V.ref o.r))) st cl lf nm R qs a := by
  obtain ⟨n1, n2, n3, n4⟩ := W.nl
  have nst : R ≠ st := ne_of W.hR W.S.d (by intro z; cases z)
  have k : Kp [R] G (upd G R (.lst (qs.map fun o => V.ref o.r))) := Kp.put (Kp.refl _ _) (by simp)
  refine ⟨W.S.put nst n3 n2, by rw [upd_ne n4.symm]; exact W.hn, Tabs.keep W.tb k (fun b hb => ?_), upd_same, fun o ho => ?_, nx, nd, W.nl, ro⟩
  · rw [List.mem_singleton.mp hb]
    exact .inl ⟨_, W.hR⟩
  · have O : RowO C zs G o.r o.x o.d o.w o.kv o.kw := hall o ho
    obtain ⟨dx, ex⟩ := O.hc.x
    refine O.keep k fun b hb => ?_
    rw [List.mem_singleton.mp hb]
    exact ⟨(ro o ho).2.1.symm, ne_of W.hR ex (by intro z; cases z), ne_of W.hR O.hc.d (by intro z; cases z), ne_of W.hR O.hw (by intro z; cases z)⟩
theorem Wd.swap (W : Wd C zs T G st cl lf nm R rs a) {i : Nat} {o : Row} (N : RowNew C zs G st lf R rs o) : Wd C zs T (upd G R (.lst ((rs.map fun o => V.ref o.r).set i (.ref o.r)))) st cl lf nm R (rs.set i o) a := by
  have e : (rs.map fun o => V.ref o.r).set i (.ref o.r) = (rs.set i o).map fun o => V.ref o.r := by rw [List.map_set]
  have hO : RowO C zs G o.r o.x o.d o.w o.kv o.kw := N.at_
  rw [e]
  refine W.putR (fun p hp => ?_) ?_ ?_ (fun p hp => ?_)
  · rcases mem_set hp with rfl | ⟨j, hj, ej⟩
    · exact N.at_
    · exact W.all p (List.mem_of_getElem? ej)
  · rw [List.map_set]; exact nodup_set W.nx N.x
  · rw [List.map_set, List.map_set]
    obtain ⟨n1, n2, n3⟩ := List.nodup_append.mp W.nd
    have d1 := N.d
    have w1 := N.w
    rw [List.mem_append, not_or] at d1 w1
    refine List.nodup_append.mpr ⟨nodup_set n1 d1.1, nodup_set n2 w1.2, fun p hp q hq => ?_⟩
    rcases List.mem_or_eq_of_mem_set hp with hp | rfl <;> rcases List.mem_or_eq_of_mem_set hq with hq | rfl
    · exact n3 p hp q hq
    · exact fun z => w1.1 (z ▸ hp)
    · exact fun z => d1.2 (z ▸ hq)
    · exact hO.ne
  · rcases mem_set hp with rfl | ⟨j, hj, ej⟩
    · exact N.r
    · exact W.ro p (List.mem_of_getElem? ej)
theorem Wd.push (W : Wd C zs T G st cl lf nm R rs a) {o : Row} (N : RowNew C zs G st lf R rs o) : Wd C zs T (upd G R (.lst ((rs.map fun o => V.ref o.r) ++ [.ref o.r]))) st cl lf nm R (rs ++ [o]) a := by
  have e : (rs.map fun o => V.ref o.r) ++ [.ref o.r] = (rs ++ [o]).map fun o => V.ref o.r := by rw [List.map_append]; rfl
  have hO : RowO C zs G o.r o.x o.d o.w o.kv o.kw := N.at_
  rw [e]
  refine W.putR (fun p hp => ?_) ?_ ?_ (fun p hp => ?_)
  · rcases List.mem_append.mp hp with h | h
    · exact W.all p h
    · rw [List.mem_singleton.mp h]; exact N.at_
  · rw [List.map_append]
    refine List.nodup_append.mpr ⟨W.nx, by simp, fun p hp q hq z => N.x ?_⟩
    simp only [List.map_cons, List.map_nil, List.mem_singleton] at hq
    rw [← hq, ← z]; exact hp
  · obtain ⟨n1, n2, n3⟩ := List.nodup_append.mp W.nd
    have d1 := N.d
    have w1 := N.w
    rw [List.mem_append, not_or] at d1 w1
    rw [List.map_append, List.map_append]
    refine List.nodup_append.mpr ⟨List.nodup_append.mpr ⟨n1, by simp, fun p hp q hq z => ?_⟩, List.nodup_append.mpr ⟨n2, by simp, fun p hp q hq z => ?_⟩, fun p hp q hq z => ?_⟩
    · simp only [List.map_cons, List.map_nil, List.mem_singleton] at hq
      exact d1.1 (by rw [← hq, ← z]; exact hp)
    · simp only [List.map_cons, List.map_nil, List.mem_singleton] at hq
      exact w1.2 (by rw [← hq, ← z]; exact hp)
    · simp only [List.map_cons, List.map_nil, List.mem_append, List.mem_singleton] at hp hq
      rcases hp with hp | hp <;> rcases hq with hq | hq
      · exact n3 p hp q hq z
      · exact w1.1 (by rw [← hq, ← z]; exact hp)
      · exact d1.2 (by rw [← hp, z]; exact hq)
      · exact hO.ne (by rw [← hp, ← hq]; exact z)
  · rcases List.mem_append.mp hp with h | h
    · exact W.ro p h
    · rw [List.mem_singleton.mp h]; exact N.r
/-- new where it was not known -/
theorem Wd.new (W : Wd C zs T G st cl lf nm R rs a) {o : Row} (h : o.At C zs G') (n1 : G o.r = none) (n2 : G o.x = none) (n3 : G o.d = none) (n4 : G o.w = none) : RowNew C zs G' st lf R rs o := by
  obtain ⟨r1, r2, r3, r4, r5, r6⟩ := W.apart n1
  obtain ⟨x1, x2, x3, x4, x5, x6⟩ := W.apart n2
  obtain ⟨d1, d2, d3, d4, d5, d6⟩ := W.apart n3
  obtain ⟨w1, w2, w3, w4, w5, w6⟩ := W.apart n4
  have not : ∀ (b : Addr) (f : Row → Addr), (∀ p ∈ rs, b ≠ f p) → b ∉ rs.map f := fun b f hb z => by
    obtain ⟨p, hp, e⟩ := List.mem_map.mp z
    exact hb p hp e.symm
  refine ⟨h, ⟨r3, r5, d1, w1⟩, not _ _ fun p hp => (x6 p hp).2.1, ?_, ?_⟩
  · rw [List.mem_append, not_or]
    exact ⟨not _ _ fun p hp => (d6 p hp).2.2.1, not _ _ fun p hp => (d6 p hp).2.2.2⟩
  · rw [List.mem_append, not_or]
    exact ⟨not _ _ fun p hp => (w6 p hp).2.2.1, not _ _ fun p hp => (w6 p hp).2.2.2⟩
end
end Sw
namespace Sw
open PySem L2 PyProof.Rows PySem.Spec
abbrev sLaw : Stmt := top 16
def spLaw (K : PySem.W.Frag) (T : List (Addr × Str)) : Sp := fun vs H Q _ => ∃ (a : Addr) (ns : List Int), vs = [.ref a] ∧ SqL K H a (ns.map V.int) ∧ ns.length ≤ 63 ∧ LamX.Tabs T H ∧ ∀ H', Q (.bl true) H'
def nLaw : List Str := ["script", "state", "names", "rows", "turn", "at", "way", "name", "value", "context", "due", "k", "one", "wanted"]
theorem scLaw : FnScope nLaw ["script"] (defScope sLaw) := ⟨rfl, rfl, rfl, by decide +kernel, rfl, by decide +kernel, by decide +kernel⟩
/-- the defs that the law calls -/
structure LawF (P : Program) (w : World) (K : PySem.W.Frag) (mg : Str → Option Value) (base : Heap) (C PT fB fN fM fD fV fR fA fS fX fC : Addr) (dB dN dM dD dV dR dA dS dX dC : FuncData) : Prop where
  B : FnOk P w K mg base CX0 1 fB dB ["script"] (spBegin K)
  cB : Cl K mg "_law_begin" fB dB ["script"]
  N : FnOk P w K mg base CX0 4 fN dN ["state", "many"] spNames
  cN : Cl K mg "_law_names" fN dN ["state", "many"]
  M : FnOk P w K mg base CX0 4 fM dM ["state", "names"] (spMade K C)
  cM : Cl K mg "_law_made" fM dM ["state", "names"]
  D : FnOk P w K mg base CX0 2 fD dD ["state", "many"] spDraw
  cD : Cl K mg "_law_draw" fD dD ["state", "many"]
  V : FnOk P w K mg base CX0 3 fV dV ["state"] spValue
  cV : Cl K mg "_law_value" fV dV ["state"]
  R : FnOkG P w K mg base CX0 7 fR dR ["context", "due", "names"] (spRight C (tR PT))
  cR : Cl K mg "_law_right" fR dR ["context", "due", "names"]
  A : FnOkG P w K mg base CX0 3 fA dA ["rows"] (spAlike C)
  cA : Cl K mg "_law_alike_right" fA dA ["rows"]
  S : FnOk P w K mg base CX0 1 fS dS ["self", "variable", "value"] (spSet C)
  mS : Meth K C "__setitem__" fS
  bS : L2.Binds K dS ["self", "variable", "value"] []
  qS : PySem.W.noSeq K C = true
  X : FnOk P w K mg base CX0 1 fX dX ["self", "variable"] (spDrop C)
  mX : Meth K C "drop" fX
  bX : L2.Binds K dX ["self", "variable"] []
  Co : FnOk P w K mg base CX0 3 fC dC ["self"] (spCopy C)
  mC : Meth K C "copy" fC
  bC : L2.Binds K dC ["self"] []
section
variable {P : Program} {w : World} {K : PySem.W.Frag} {mg : Str → Option Value} {base : Heap} {C : Addr}
theorem ok_law {f PT fB fN fM fD fV fR fA fS fX fC : Addr} {fd dB dN dM dD dV dR dA dS dX dC : FuncData} (F : Fun K "law" "law" sLaw f fd) (T : CtxC K mg C) (L : LawF P w K mg base C PT fB fN fM fD fV fR fA fS fX fC dB dN dM dD dV dR dA dS dX dC) (mg2 : mg "range" = none) (md : mg "dict" = none) :
    FnOkG P w K mg base CX0 8 f fd ["script"] (spLaw K (tR PT)) := by
  refine okG F scLaw (fun vs H Q E h => ?_) (fun cdv A outer s H vs Q E hcd hcv hr hg h => ?_)
  · obtain ⟨a, ns, rfl, _⟩ := h
    rfl
  · obtain ⟨a, ns, rfl, hS, hl, hT, q⟩ := h
    have hu := hu_of hr
    have h1 : Room 1 (A.deeper (envOfC "law" (defScope sLaw) s.heap.objs.size f cdv)) := hr.mono (by decide)
    have h2 : Room 2 (A.deeper (envOfC "law" (defScope sLaw) s.heap.objs.size f cdv)) := hr.mono (by decide)
    have h3 : Room 3 (A.deeper (envOfC "law" (defScope sLaw) s.heap.objs.size f cdv)) := hr.mono (by decide)
    have h4 : Room 4 (A.deeper (envOfC "law" (defScope sLaw) s.heap.objs.size f cdv)) := hr.mono (by decide)
    refine ⟨_, pss_mid (ps_set (i := 1) scLaw.nd rfl (Or.inr rfl) (pe_call L.B h1 (by rfl) L.cB.g L.cB.k L.cB.b .nil pass0 (pa_cons (pv 0) pa_nil)))
      (pss_mid (ps_set (i := 2) scLaw.nd rfl (Or.inr rfl) (pe_call L.N h4 (by rfl) L.cN.g L.cN.k L.cN.b .nil pass0 (pa_cons (pv 1) (pa_cons pe_int pa_nil))))
      (pss_mid (ps_setLc (i := 3) (own := [("k", 11)]) (g := gName 11) (tt := tYes) rfl scLaw.nd rfl rfl (sw_true rfl rfl rfl rfl) (pi_range1 rfl mg2 (pa_cons pe_int pa_nil)) (blkOk_by (N := nLaw) (sc := defScope sLaw) (by decide +kernel)) (fun _ _ _ _ _ => pg_name (i := 11) scLaw.nd rfl (Or.inl rfl)) (fun _ _ _ _ _ => pts_nil)
          (fun _ _ _ _ _ => pe_call L.M h4 (by rfl) L.cM.g L.cM.k L.cM.b .nil pass0 (pa_cons (pv 1) (pa_cons (pv 2) pa_nil))))
      (pss_mid (ps_for PassesOwn.never rfl (pi_range1 rfl mg2 (pa_cons pe_int pa_nil)) (pg_name (i := 4) scLaw.nd rfl (Or.inl rfl))
        (pss_mid (ps_par (i := 5) (j := 6) rfl scLaw.nd rfl rfl (by decide) rfl rfl (pa_cons (pe_call L.D h2 (by rfl) L.cD.g L.cD.k L.cD.b .nil pass0 (pa_cons (pv 1) (pa_cons pe_int pa_nil))) (pa_cons (pe_call L.D h2 (by rfl) L.cD.g L.cD.k L.cD.b .nil pass0 (pa_cons (pv 1) (pa_cons pe_int pa_nil))) pa_nil)) rfl)
        (pss_mid (ps_par (i := 7) (j := 8) rfl scLaw.nd rfl rfl (by decide) rfl rfl (pa_cons (pe_ix ix_list (pv 2) (pe_call L.D h2 (by rfl) L.cD.g L.cD.k L.cD.b .nil pass0 (pa_cons (pv 1) (pa_cons pe_int pa_nil))) (fun _ _ => rfl)) (pa_cons (pe_call L.V h3 (by rfl) L.cV.g L.cV.k L.cV.b .nil pass0 (pa_cons (pv 1) pa_nil)) pa_nil)) rfl)
        (pss_mid (ps_asg (pe_ix ix_list (pv 3) (pv 5) (fun _ _ => rfl)) (pg_unl rfl (pgs_cons (pg_name (i := 9) scLaw.nd rfl (Or.inl rfl)) (pgs_cons (pg_name (i := 10) scLaw.nd rfl (Or.inl rfl)) pgs_nil))))
        (pss_mid (ps_if (pt_cmpR op_lt (pv 6) pe_int (by rfl))
            (pss_cons (ps_asg (pv 8) (pg_sub (pv 9) (pv 7) (set_own L.S L.mS L.qS h1 L.bS pass0))) (pss_one (ps_dput hu (pv 10) (pv 7) (pv 8) rfl)))
          (pss_one (ps_if (pt_cmpR op_lt (pv 6) pe_int (by rfl))
            (pss_cons (ps_if (pt_cmpR op_notN (pe_meth (pv 9) T.c L.mX L.X h1 L.bX .nil pass0 (pa_cons (pv 7) pa_nil)) pe_non (by rfl)) (pss_one (ps_ret pe_bl)) pss_nil)
              (pss_one (ps_expr (pe_dpop2 (pv 10) (pv 7) pe_non ⟨rfl, rfl, rfl, rfl⟩))))
          (pss_one (ps_if (pt_cmpR op_eq (pv 6) pe_int (by rfl))
            (pss_one (ps_asg (pe_lst (pa_cons (pe_meth0 (pv 9) T.c L.mC L.Co h3 L.bC .nil pass0) (pa_cons (pe_callTy call_dictD (by rfl) md (by decide +kernel) (pa_cons (pv 10) pa_nil)) pa_nil))) (pg_sub (pv 3) (pe_call L.D h2 (by rfl) L.cD.g L.cD.k L.cD.b .nil pass0 (pa_cons (pv 1) (pa_cons pe_int pa_nil))) set_list)))
            (pss_one (ps_asg (pe_call L.M h4 (by rfl) L.cM.g L.cM.k L.cM.b .nil pass0 (pa_cons (pv 1) (pa_cons (pv 2) pa_nil))) (pg_sub (pv 3) (pv 5) set_list))))))))
        (pss_mid (ps_if (pt_cmpR (op_neD hr.units)
            (pe_lc (own := [("one", 12), ("wanted", 13)]) (g := gUnl K 2 (gCons (gName 12) (gCons (gName 13) gNil))) (tt := tNot (tB (tCall (spRight C (tR PT)) [] E0 (tCons (tVar 12) (tCons (tVar 13) (tCons (tVar 2) tNil)))))) (te := tC (.int 1)) rfl scLaw.nd (pi_list (pv 3)) (blkOk_by (N := nLaw) (sc := defScope sLaw) (by decide +kernel))
              (fun _ _ _ _ _ => pg_unl rfl (pgs_cons (pg_name (i := 12) scLaw.nd rfl (Or.inl rfl)) (pgs_cons (pg_name (i := 13) scLaw.nd rfl (Or.inl rfl)) pgs_nil)))
              (fun _ _ _ _ _ => pts_one (pt_not (pt_val (pe_callG L.R hr hg (by rfl) L.cR.g L.cR.k L.cR.b pass0 (pa_cons (pv 12) (pa_cons (pv 13) (pa_cons (pv 2) pa_nil)))))))
              (fun _ _ _ _ _ => pe_int)) (pe_lst pa_nil) (by rfl)) (pss_one (ps_ret pe_bl)) pss_nil)
        (pss_one (ps_if (pt_not (pt_val (pe_callG L.A h3 hg (by rfl) L.cA.g L.cA.k L.cA.b pass0 (pa_cons (pv 3) pa_nil)))) (pss_one (ps_ret pe_bl)) pss_nil))))))))
      (pss_one (ps_ret pe_bl))))), ?_⟩
    -- state
    refine ⟨fun σ1 G => ∃ st cl lf, σ1 = [some (.ref a), some (.ref st), none, none, none, none, none, none, none, none, none, none, none, none] ∧ StAt G st cl lf (.int 0) 0 ∧ LamX.Tabs (tR PT) G, ?_, ?_⟩
    · exact ⟨_, rfl, a, ns, rfl, hS, hl, fun st cl lf H1 S0 s1 _ _ _ => ⟨st, cl, lf, rfl, S0, hT.ext s1⟩⟩
    rintro _ G0 ⟨st, cl, lf, rfl, S0, t0⟩
    -- names
    refine ⟨fun σ1 G => ∃ (nm : Addr) (zs : List Str) (a1 : Int), σ1 = [some (.ref a), some (.ref st), some (.ref nm), none, none, none, none, none, none, none, none, none, none, none] ∧ StAt G st cl lf (.int 0) a1 ∧ LamX.Tabs (tR PT) G ∧ G nm = some (.lst (zs.map V.str)) ∧ zs.Nodup ∧ (∀ z ∈ zs, nameB z = true) ∧ zs.length = 5 ∧ nm ≠ lf ∧ a1 ≤ 1000, ?_, ?_⟩
    · refine ⟨_, rfl, st, cl, lf, _, 0, 5, rfl, S0, by decide, by decide, fun p zs a1 H1 lz nz oz np ep S1 g1 g2 k1 => ⟨p, zs, a1, rfl, S1, ?_, ep, nz, fun z hz => List.all_eq_true.mp oz z hz, lz, ?_, by omega⟩⟩
      · obtain ⟨cs, ls, e1, e2, _⟩ := S0.c
        refine Tabs.keep t0 k1 fun b hb => ?_
        simp only [List.mem_cons, List.not_mem_nil, or_false] at hb
        rcases hb with rfl | rfl
        · exact .inr ⟨_, S0.d⟩
        · exact .inl ⟨_, e2⟩
      · exact (S0.apart np).2.2
    rintro _ G1 ⟨nm, zs, a1, rfl, S1, t1, en, nz, oz, lz, nnl, g1⟩
    -- rows
    refine ⟨fun σ1 G => ∃ (R : Addr) (rs : List Row) (a2 : Int), σ1 = [some (.ref a), some (.ref st), some (.ref nm), some (.ref R), none, none, none, none, none, none, none, none, none, none] ∧ Wd C zs (tR PT) G st cl lf nm R rs a2 ∧ rs.length = 3 ∧ a2 ≤ 1100, ?_, ?_⟩
    · refine ⟨3, rfl, by decide, by decide, fun D hD => ?_⟩
      have apD := S1.apart hD
      have nnD : nm ≠ D := ne_of_none en hD
      refine lc_range (lo := 0) (n := (3 : Int).toNat) (fun i G => ∃ (rs : List Row) (a2 : Int), Wd C zs (tR PT) G st cl lf nm D rs a2 ∧ rs.length = i ∧ a2 ≤ 1000 + 22 * i) ⟨[], a1, ⟨S1.new hD, by rw [upd_ne nnD]; exact en, t1.ext (Same.up hD), upd_same, by simp, by simp, by simp, ⟨nnl, apD.2.2, apD.2.1, nnD.symm⟩, by simp⟩, rfl, by omega⟩ ?_ ?_
      · rintro i G hi ⟨rs, a2, W, lr, g2⟩
        have hi3 : i < 3 := hi
        refine ⟨rfl, ?_⟩
        refine ⟨_, rfl, _, rfl, st, cl, lf, nm, _, a2, zs, rfl, W.S, by omega, W.hn, nz, oz, by omega, fun r x d w kv kw a3 H1 O n1 n2 n3 n4 S3 g3 g4 k => ?_⟩
        have W2 := W.draw S3 k
        refine ⟨_, W2.hR, ?_, rs ++ [⟨r, x, d, w, kv, kw⟩], a3, W2.push (W.new (o := ⟨r, x, d, w, kv, kw⟩) O n1 n2 n3 n4), by simp [lr], by omega⟩
        rw [List.length_map, lr]
        exact Nat.lt_of_le_of_lt (m := 3) (by omega) (by decide)
      · rintro G ⟨rs, a2, W, lr, g2⟩
        have e3 : (3 : Int).toNat = 3 := rfl
        rw [e3] at lr g2
        exact ⟨D, rs, a2, rfl, W, lr, by omega⟩
    rintro _ G2 ⟨R, rs, a2, rfl, W0, lr0, g2⟩
    -- the turns
    refine ⟨fun _ _ => True, ?_, fun σ1 G _ => q _⟩
    refine ⟨40, rfl, by decide, by decide, for_range (lo := 0) (n := (40 : Int).toNat) (fun i σ1 G => ∃ (rs : List Row) (a2 : Int) (v4 v5 v6 v7 v8 v9 v10 : Option V), σ1 = [some (.ref a), some (.ref st), some (.ref nm), some (.ref R), v4, v5, v6, v7, v8, v9, v10, none, none, none] ∧ Wd C zs (tR PT) G st cl lf nm R rs a2 ∧ rs.length = 3 ∧ a2 ≤ 2000 + 100 * i)
      ⟨rs, a2, _, _, _, _, _, _, _, rfl, W0, lr0, by omega⟩ ?_ (fun _ _ _ => trivial)⟩
    rintro turn _ G hturn ⟨rs, a2, v4, v5, v6, v7, v8, v9, v10, rfl, W, lr, g3⟩
    have ht : turn < 40 := hturn
    -- at, way
    refine ⟨fun σ1 G3 => ∃ (r1 r2 : Int), σ1 = [some (.ref a), some (.ref st), some (.ref nm), some (.ref R), some (.int (0 + (turn : Int))), some (.int r1), some (.int r2), v7, v8, v9, v10, none, none, none] ∧ 0 ≤ r1 ∧ r1 < 3 ∧ Wd C zs (tR PT) G3 st cl lf nm R rs (a2 + 2), ?_, ?_⟩
    · refine ⟨_, rfl, st, cl, lf, _, a2, _, rfl, W.S, by omega, by decide, by decide, fun r1 H1 p1 p2 S1 k1 => ?_⟩
      have W1 := W.draw S1 k1
      refine ⟨_, rfl, st, cl, lf, _, a2 + 1, _, rfl, W1.S, by omega, by decide, by decide, fun r2 H2 p3 p4 S2 k2 => ?_⟩
      refine ⟨_, _, rfl, r1, r2, rfl, p1, p2, ?_⟩
      have := W1.draw S2 k2
      rwa [show a2 + 1 + 1 = a2 + 2 by omega] at this
    rintro _ G3 ⟨r1, r2, rfl, p1, p2, W3⟩
    -- name, value
    refine ⟨fun σ1 G4 => ∃ (z : Str) (v a4 : Int), σ1 = [some (.ref a), some (.ref st), some (.ref nm), some (.ref R), some (.int (0 + (turn : Int))), some (.int r1), some (.int r2), some (.str z), some (.int v), v9, v10, none, none, none] ∧ z ∈ zs ∧ okV v ∧ Wd C zs (tR PT) G4 st cl lf nm R rs a4 ∧ a4 ≤ a2 + 7, ?_, ?_⟩
    · refine ⟨_, rfl, _, rfl, st, cl, lf, _, a2 + 2, _, rfl, W3.S, by omega, by decide, by decide, fun r3 H1 p3 p4 S1 k1 => ?_⟩
      have W4 := W3.draw S1 k1
      obtain ⟨z, hz, ez⟩ := str_at (xs := zs) (n := 4) (by omega) p3 p4
      refine ⟨nm, _, _, _, rfl, rfl, SqL.of W4.hn, ez, ?_⟩
      refine ⟨_, rfl, st, cl, lf, _, a2 + 2 + 1, rfl, W4.S, by omega, fun v a4 H2 hv S2 p5 p6 k2 => ?_⟩
      exact ⟨_, _, rfl, z, v, a4, rfl, hz, hv, W4.draw S2 k2, by omega⟩
    rintro _ G4 ⟨z, v, a4, rfl, hz, hv, W4, g4⟩
    -- context, due
    refine ⟨fun σ1 G5 => ∃ (i : Nat) (o : Row), σ1 = [some (.ref a), some (.ref st), some (.ref nm), some (.ref R), some (.int (0 + (turn : Int))), some (.int r1), some (.int r2), some (.str z), some (.int v), some (.ref o.x), some (.ref o.w), none, none, none] ∧ r1 = (i : Int) ∧ rs[i]? = some o ∧ G5 = G4, ?_, ?_⟩
    · obtain ⟨o, j, ej, hj, ho, hm, _⟩ := at_drawn (xs := rs) (n := 3) (by omega) p1 p2
      have O : RowO C zs G4 o.r o.x o.d o.w o.kv o.kw := W4.all o hm
      refine ⟨_, rfl, _, rfl, R, _, _, .ref o.r, rfl, rfl, SqL.of W4.hR, ?_, ?_⟩
      · rw [ej]
        exact atI_nat (by rw [List.getElem?_map, ho]; rfl)
      exact ⟨o.r, _, rfl, SqL.of O.hr, rfl, _, _, rfl, _, _, rfl, rfl, j, o, rfl, ej, ho, rfl⟩
    rintro _ G4 ⟨i, o, rfl, ei, ho, rfl⟩
    have hom : o ∈ rs := List.mem_of_getElem? ho
    have O : RowO C zs G4 o.r o.x o.d o.w o.kv o.kw := W4.all o hom
    obtain ⟨dx, ex⟩ := O.hc.x
    have lkv : o.kv.length ≤ 5 := by
      have := nodup_sub_len O.nk O.sub
      unfold keys at this
      rw [List.length_map] at this
      omega
    have lkw : o.kw.length ≤ 5 := by rw [← O.e.len O.nk O.nw]; exact lkv
    have nxd : o.x ≠ o.d := ne_of ex O.hc.d (by intro z; cases z)
    have nxw : o.x ≠ o.w := ne_of ex O.hw (by intro z; cases z)
    -- the step
    refine ⟨fun σ1 G5 => ∃ (qs : List Row) (a5 : Int), σ1 = [some (.ref a), some (.ref st), some (.ref nm), some (.ref R), some (.int (0 + (turn : Int))), some (.int r1), some (.int r2), some (.str z), some (.int v), some (.ref o.x), some (.ref o.w), none, none, none] ∧ Wd C zs (tR PT) G5 st cl lf nm R qs a5 ∧ qs.length = 3 ∧ a5 ≤ a4 + 25, ?_, ?_⟩
    · refine ⟨_, rfl, _, _, rfl, rfl, _, rfl, ?_⟩
      refine ite2 (fun _ => ?_) (fun _ => ?_)
      · -- context[name] = value; due[name] = value
        refine ⟨_, rfl, _, rfl, _, rfl, o.x, dx, _, rfl, ex, o.x, o.d, o.kv, z, v, rfl, O.hc, by omega, fun H1 c1 k1 => ?_⟩
        have hw1 : H1 o.w = some (.dK (kvK o.kw)) := k1 _ _ O.hw (by simp [O.ne.symm])
        refine ⟨_, rfl, _, rfl, _, rfl, o.w, _, rfl, DPut.k (k := kS z) hw1 (by rw [kvK_len]; exact Nat.lt_of_le_of_lt lkw (by decide)), ?_⟩
        rw [putK_kv]
        refine ⟨_, a4, rfl, W4.put ho (kv := putS o.kv z v) (kw := putS o.kw z v) ?_ ?_ upd_same (nd_put z v O.nk) (nd_put z v O.nw) (O.e.put z v) (fun y hy => ?_) (fun p hp => ?_), by rw [List.length_set]; exact lr, by omega⟩
        · exact Kp.put (k1.mono (by simp)) (by simp)
        · exact c1.keep (ex := [o.w]) (Kp.put (Kp.refl _ _) (by simp)) (by simp [nxw]) (by simp [O.ne])
        · rw [keys_put] at hy
          split at hy
          · exact O.sub y hy
          · rcases List.mem_append.mp hy with h | h
            · exact O.sub y h
            · rw [List.mem_singleton.mp h]; exact hz
        · have e1 := mem_lookup (nd_put z v O.nk) (x := p.1) (v := p.2) hp
          rw [lookup_put] at e1
          split at e1
          · rw [← Option.some.inj e1]; exact hv
          · exact O.ok _ (lookup_mem e1)
      · refine ⟨_, rfl, _, _, rfl, rfl, _, rfl, ?_⟩
        refine ite2 (fun _ => ?_) (fun _ => ?_)
        · -- drop
          refine ⟨_, rfl, o.x, dx, _, rfl, ex, (by rfl), _, rfl, o.x, o.d, o.kv, z, rfl, O.hc, fun H1 c1 k1 => ?_⟩
          refine ⟨rfl, _, rfl, iteNe rfl ?_⟩
          have hw1 : H1 o.w = some (.dK (kvK o.kw)) := k1 _ _ O.hw (by simp [O.ne.symm])
          have fin : ∀ G5, CtxAt C G5 o.x o.d (dropS o.kv z) → G5 o.w = some (.dK (kvK (dropS o.kw z))) → Kp [o.d, o.w] G4 G5 → Wd C zs (tR PT) G5 st cl lf nm R (rs.set i { o with kv := dropS o.kv z, kw := dropS o.kw z }) a4 := fun G5 c5 w5 k5 =>
            W4.put ho k5 c5 w5 (nd_drop z O.nk) (nd_drop z O.nw) (O.e.drop z) (fun y hy => O.sub y (((List.filter_sublist (p := fun p : Str × Int => decide (p.1 ≠ z)) (l := o.kv)).map (fun p : Str × Int => p.1)).subset hy)) (fun p hp => O.ok p (List.mem_filter.mp hp).1)
          refine ⟨_, rfl, o.w, rfl, .inl ⟨_, .inl hw1⟩, _, rfl, kvK o.kw, kS z, hw1, rfl, fun u hu => ?_, fun hn => ?_⟩
          · rw [dropK_kv]
            exact ⟨_, a4, rfl, fin _ (c1.keep (ex := [o.w]) (Kp.put (Kp.refl _ _) (by simp)) (by simp [nxw]) (by simp [O.ne])) upd_same (Kp.put (k1.mono (by simp)) (by simp)), by rw [List.length_set]; exact lr, by omega⟩
          · have e : o.kw.lookup z = none := by
              rw [valV_kv] at hn
              simpa using hn
            exact ⟨_, a4, rfl, fin _ c1 (by rw [drop_none e]; exact hw1) (k1.mono (by simp)), by rw [List.length_set]; exact lr, by omega⟩
        · refine ⟨_, rfl, rfl, _, rfl, ?_⟩
          refine ite2 (fun _ => ?_) (fun _ => ?_)
          · -- a copy
            refine ⟨_, rfl, o.x, dx, _, rfl, ex, (by rfl), o.x, o.d, o.kv, rfl, O.hc, O.nk, by omega, fun x' d' ks H1 s1 nx nd c1 pm => ?_⟩
            refine ⟨_, rfl, o.w, kvK o.kw, rfl, .inl (s1 _ _ O.hw), fun w' nw => ?_⟩
            refine ⟨(by show 2 ≤ sizeLine; decide), fun r' nr => ?_⟩
            have s2 : Same H1 (upd (upd H1 w' (.dK (kvK o.kw))) r' (.lst [.ref x', .ref w'])) := Same.new (Same.up nw) nr
            have nwr : w' ≠ r' := ne_of_none upd_same nr
            have nr1 : H1 r' = none := by rw [upd_ne nwr.symm] at nr; exact nr
            have W5 := W4.same (s1.trans s2)
            refine ⟨_, rfl, _, rfl, st, cl, lf, _, a4, _, rfl, W5.S, by omega, by decide, by decide, fun r3 H2 p3 p4 S2 k2 => ?_⟩
            have W6 := W5.draw S2 k2
            have O' : RowO C zs (upd (upd H1 w' (.dK (kvK o.kw))) r' (.lst [.ref x', .ref w'])) r' x' d' w' ks o.kw :=
              ⟨upd_same, c1.same s2, by rw [upd_ne nwr]; exact upd_same, ne_of_none c1.d nw, perm_nd pm O.nk, O.nw, fun y => (perm_eqv pm O.nk y).trans (O.e y), fun y hy => O.sub y ((pm.map (fun p : Str × Int => p.1)).mem_iff.mp hy), fun p hp => O.ok p (pm.mem_iff.mp hp)⟩
            have nr4 := s1.free nr1
            have nw4 := s1.free nw
            obtain ⟨b1, _, b3, _⟩ := W4.apart nr4
            obtain ⟨c1', _, c3, _⟩ := W4.apart nx
            obtain ⟨d1, _, d3, _⟩ := W4.apart nd
            obtain ⟨e1, _, e3, _⟩ := W4.apart nw4
            have O2 : RowO C zs H2 r' x' d' w' ks o.kw := O'.keep k2 fun b hb => by
              simp only [List.mem_cons, List.not_mem_nil, or_false] at hb
              rcases hb with rfl | rfl
              · exact ⟨b1.symm, c1'.symm, d1.symm, e1.symm⟩
              · exact ⟨b3.symm, c3.symm, d3.symm, e3.symm⟩
            obtain ⟨j, ej, hj⟩ : ∃ j : Nat, r3 = (j : Int) ∧ j < 3 := ⟨r3.toNat, by omega, by omega⟩
            refine ⟨R, _, r3, j, rfl, rfl, W6.hR, ?_, rs.set j ⟨r', x', d', w', ks, o.kw⟩, a4 + 1, rfl, W6.swap (W4.new (o := ⟨r', x', d', w', ks, o.kw⟩) O2 nr4 nx nd nw4), by rw [List.length_set]; exact lr, by omega⟩
            rw [ej, List.length_map, lr]
            unfold ixN
            rw [if_pos (by omega), if_pos (by omega)]
            rfl
          · -- a new one
            refine ⟨_, rfl, _, rfl, st, cl, lf, nm, _, a4, zs, rfl, W4.S, by omega, W4.hn, nz, oz, by omega, fun r x d w kv kw a5 H1 O5 n1 n2 n3 n4 S5 g5 g6 k => ?_⟩
            have W5 := W4.draw S5 k
            refine ⟨_, rfl, _, rfl, R, _, _, i, rfl, rfl, W5.hR, ?_, rs.set i ⟨r, x, d, w, kv, kw⟩, a5, rfl, W5.swap (W4.new (o := ⟨r, x, d, w, kv, kw⟩) O5 n1 n2 n3 n4), by rw [List.length_set]; exact lr, by omega⟩
            have hil : i < 3 := by omega
            rw [ei, List.length_map, lr]
            unfold ixN
            rw [if_pos (by omega), if_pos (by omega)]
            rfl
    rintro _ G5 ⟨qs, a5, rfl, W5, lq, g5⟩
    -- _law_right
    refine ⟨fun σ1 G6 => σ1 = [some (.ref a), some (.ref st), some (.ref nm), some (.ref R), some (.int (0 + (turn : Int))), some (.int r1), some (.int r2), some (.str z), some (.int v), some (.ref o.x), some (.ref o.w), none, none, none] ∧ Wd C zs (tR PT) G6 st cl lf nm R qs a5, ?_, ?_⟩
    · refine ⟨_, rfl, R, rfl, ⟨_, SqL.of W5.hR⟩, fun D hD => ?_⟩
      refine lc_list (K := K) (a := R) (xs := qs.map fun o => V.ref o.r) (fun i G6 => Wd C zs (tR PT) G6 st cl lf nm R qs a5 ∧ G6 D = some (.lst [])) ⟨W5.same (Same.up hD), upd_same⟩ (fun i G6 _ ⟨w6, _⟩ => SqL.of w6.hR) ?_ ?_
      · rintro j u G6 hj ⟨W6, eD⟩
        obtain ⟨p, hp, rfl⟩ : ∃ p ∈ qs, u = V.ref p.r := by
          rw [List.getElem?_map] at hj
          cases e : qs[j]? with
          | none => rw [e] at hj; cases hj
          | some p => rw [e] at hj; exact ⟨p, List.mem_of_getElem? e, (Option.some.inj hj).symm⟩
        have Op : RowO C zs G6 p.r p.x p.d p.w p.kv p.kw := W6.all p hp
        refine ⟨p.r, _, rfl, SqL.of Op.hr, rfl, _, _, rfl, _, _, rfl, rfl, rfl, ?_⟩
        refine ⟨_, rfl, _, rfl, _, rfl, p.x, p.d, p.w, nm, p.kv, p.kw, zs, rfl, ⟨Op.hc, Op.hw, W6.hn, W6.tb⟩, ⟨Op.nk, Op.nw, Op.e, Op.sub, Op.ok⟩, oz, by omega, fun G7 e7 t7 => ?_⟩
        exact ⟨_, rfl, iteF ⟨W6.ext e7 t7, e7 _ _ eD notTbl_lst⟩⟩
      · rintro G6 ⟨W6, eD⟩
        refine ⟨(by show 0 ≤ sizeLine; decide), fun l nl => ?_⟩
        have s5 : Same G6 (upd G6 l (.lst [])) := Same.up nl
        refine ⟨.list [], .list [], .lst (SqL.of (s5 _ _ eD)) .nil, .lst (SqL.of upd_same) .nil, by decide +kernel, by decide +kernel, _, rfl, ?_⟩
        exact iteF ⟨rfl, W6.same s5⟩
    rintro _ G6 ⟨rfl, W6⟩
    refine ⟨_, rfl, R, zs, qs, rfl, W6.rows lq, fun G7 s7 => ⟨_, rfl, iteF ?_⟩⟩
    exact ⟨qs, a5, _, _, _, _, _, _, _, rfl, W6.same s7, lq, by omega⟩
end
end Sw
namespace Sw
open PySem L2 PyProof.Rows PySem.Spec
/-- what is tracked at the start: the tables, and the script where the written part does not hold it -/
noncomputable def startH (K : PySem.W.Frag) (ts : List Addr) (a : Addr) (o : Obj) (ns : List Int) : Hp := fun b =>
  if b ∈ ts then some (.tbl #[]) else if b = a ∧ K.lookup a = none then some (.frz o (.lst (ns.map V.int))) else none
theorem startH_tab {K : PySem.W.Frag} {ts : List Addr} {a b : Addr} {o : Obj} {ns : List Int} (h : b ∈ ts) : startH K ts a o ns b = some (.tbl #[]) := if_pos h
theorem startH_none {K : PySem.W.Frag} {ts : List Addr} {a b : Addr} {o : Obj} {ns : List Int} (h1 : b ∉ ts) (h2 : ¬ (b = a ∧ K.lookup a = none)) : startH K ts a o ns b = none := (if_neg h1).trans (if_neg h2)
theorem startH_cases {K : PySem.W.Frag} {ts : List Addr} {a b : Addr} {o : Obj} {ns : List Int} {u : HO} (h : startH K ts a o ns b = some u) : (b ∈ ts ∧ u = .tbl #[]) ∨ (b ∉ ts ∧ b = a ∧ K.lookup a = none ∧ u = .frz o (.lst (ns.map V.int))) := by
  unfold startH at h
  split at h
  · rename_i hb
    exact .inl ⟨hb, (Option.some.inj h).symm⟩
  · rename_i hb
    split at h
    · rename_i hc
      exact .inr ⟨hb, hc.1, hc.2, (Option.some.inj h).symm⟩
    · cases h
/-- the end, for a def whose promise holds where no repr is under way -/
theorem law_callG {P : Program} {w : World} {K : PySem.W.Frag} {mg mb : Str → Option Value} {k : Nat} {fa a : Addr} {cs : List (Addr × Addr)} {fd : FuncData} {x : Str} {sp : Sp} {s : Shared} {vs : List Value} {ns : List Int}
    (KX : K.In s.heap) (hns : s.heap.Ns mainGlobals mg) (hb : s.heap.Ns builtinsNs mb) (hbb : ∀ x : Str, x ≠ "__name__" → mb x = bootBuiltins x) (hlim : s.heap.NoLimit) (hg : s.gens = #[])
    (hT : ∀ p ∈ cs, s.heap.get? p.2 = some { cls := .none, data := .fields #[] }) (nT : ∀ p ∈ cs, K.lookup p.2 = none) (hC : ∀ p ∈ cs, PySem.W.CodeHd s.heap p.1 p.2)
    (hbm : ∃ (bm : Addr) (ob : Obj), mg "__builtins__" = some (.ref bm) ∧ bm ≠ builtinsNs ∧ s.heap.get? bm = some ob ∧ ob.cls = .type "module" ∧ ob.dict = some builtinsNs ∧ ob.data = .plain)
    (ha : s.heap.get? a = some { cls := .type "list", data := .seq vs.toArray }) (hi : IntsAre vs ns) (hl : ns.length ≤ sizeLine) (hr : Room k callerA)
    (F : ∀ base : Heap, K.In base → base.Ns mainGlobals mg → (∀ p ∈ cs, LamX.TabB base mg p.1 p.2) → FnOkG P w K mg base CX0 k fa fd [x] sp) (hbind : ∀ (s : Shared) (u : Value), BindsTo s fd ⟨[u], []⟩ [(x, u)])
    (hsp : ∀ H : Hp, (∀ p ∈ cs, H p.2 = some (.tbl #[])) → SqL K H a (ns.map V.int) → sp [.ref a] H (fun v _ => v = .bl true) fun _ _ _ => False) :
    codeAny (model P w) callerA (.call (.ref fa) ⟨[.ref a], []⟩) (fun r s' => r = .ok (.ret (.bool true)) ∧ OldK s.heap s'.heap ∧ s'.os = s.os ∧ AllBare s'.gens) s := by
  have rv := vals_ints hi
  obtain ⟨ts, ets⟩ : ∃ ts, cs.map (·.2) = ts := ⟨_, rfl⟩
  have inT : ∀ p ∈ cs, p.2 ∈ ts := fun p hp => by rw [← ets]; exact List.mem_map.mpr ⟨p, hp, rfl⟩
  have ofT : ∀ b ∈ ts, ∃ p ∈ cs, p.2 = b := fun b hb => by rw [← ets] at hb; exact List.mem_map.mp hb
  have isT : ∀ b ∈ ts, s.heap.get? b = some { cls := .none, data := .fields #[] } := fun b hb => by
    obtain ⟨p, hp, rfl⟩ := ofT b hb
    exact hT p hp
  have aT : a ∉ ts := fun z => by
    have e := (isT a z).symm.trans ha
    injection e with e
    injection e with _ _ e
    cases e
  obtain ⟨H, eH⟩ : ∃ H, startH K ts a { cls := .type "list", data := .seq vs.toArray } ns = H := ⟨_, rfl⟩
  -- objects of other kinds are not tracked
  have no : ∀ {b : Addr} {o : Obj}, s.heap.get? b = some o → (∀ vs n, o.data ≠ .seq vs n) → o.data ≠ .fields #[] → H b = none := fun {b o} e h1 h2 => by
    rw [← eH]
    refine startH_none (fun z => ?_) (fun z => ?_)
    · rw [isT b z] at e
      cases e
      exact h2 rfl
    · rw [z.1, ha] at e
      cases e
      exact h1 _ _ rfl
  have nsB : ∀ {b : Addr} {m : Str → Option Value}, s.heap.Ns b m → (hidT s.heap H).Ns b m := fun {b m} ⟨o, es, ep, e, d, r⟩ =>
    ⟨o, es, ep, hidT_get e (no e (fun vs n z => by rw [d] at z; cases z) (fun z => by rw [d] at z; cases z)), d, r⟩
  have kB : K.In (hidT s.heap H) := fun b o e => hidT_get (KX b o e) (by
    rw [← eH]
    refine startH_none (fun z => ?_) (fun z => ?_)
    · obtain ⟨p, hp, rfl⟩ := ofT b z
      rw [nT p hp] at e
      cases e
    · rw [z.1, z.2] at e
      cases e)
  have mB : L2.Mod K mg (hidT s.heap H) := ⟨kB, nsB hns, ⟨mb, nsB hb, hbb⟩, by obtain ⟨mc, q1, q2⟩ := hlim; exact ⟨mc, nsB q1, q2⟩⟩
  have hok : HOk P w H s.heap := fun b u e => by
    rw [← eH] at e
    rcases startH_cases e with ⟨z, rfl⟩ | ⟨_, rfl, _, rfl⟩
    · exact isT b z
    · exact ⟨ha, by rw [List.length_map]; exact hl, vs, _, rv, ha⟩
  have sq : SqL K H a (ns.map V.int) := by
    cases e : K.lookup a with
    | none =>
      refine .inl (.inr ⟨{ cls := .type "list", data := .seq vs.toArray }, ?_⟩)
      rw [← eH]
      exact (if_neg aT).trans (if_pos ⟨rfl, e⟩)
    | some o =>
      have q := KX a o e
      rw [ha] at q
      cases q
      exact .inr ⟨_, vs.toArray, _, e, rfl, rfl, rfl, by rw [List.size_toArray, hi.length]; exact hl, by simpa using rv⟩
  have tabs : ∀ p ∈ cs, H p.2 = some (.tbl #[]) := fun p hp => by rw [← eH]; exact startH_tab (inT p hp)
  have TB : ∀ p ∈ cs, LamX.TabB (hidT s.heap H) mg p.1 p.2 := fun p hp => by
    refine ⟨?_, ?_, fun z => ?_⟩
    · obtain ⟨o, us, file, tf, flags, tg, inF, text, tt, e1, r1, r2, r3, rest⟩ := hC p hp
      refine ⟨o, us, file, tf, flags, tg, inF, text, tt, hidT_get e1 (no e1 (fun vs n z => ?_) fun z => ?_), r1, r2, r3, rest⟩
      · rw [r2] at z
        cases z
      · rw [r2] at z
        cases z
        simp at r3
    · obtain ⟨bm, ob, b1, b2, b3, b4, b5, b6⟩ := hbm
      have n1 : bm ≠ mainGlobals := fun q => by
        obtain ⟨o, es, ep, e, d, _⟩ := hns
        rw [q, e] at b3
        cases b3
        rw [d] at b6
        cases b6
      have n2 : bm ≠ p.2 := fun q => by
        rw [q, hT p hp] at b3
        cases b3
        cases b6
      exact ⟨bm, ob, b1, b2, n1, n2, hidT_get b3 (no b3 (fun vs n z => by rw [b6] at z; cases z) (fun z => by rw [b6] at z; cases z)), b4, b5, b6⟩
    · obtain ⟨o, es, ep, e, d, _⟩ := hns
      rw [z, hT p hp] at e
      cases e
      cases d
  have e0 : Env0 P w K mg (hidT s.heap H) callerA [] s H := ⟨rfl, mB, fun b o e => of_hidT e, Nat.le_of_eq (hidT_size _ _), trivial, fun b hb => absurd (show b ∈ ([] : List Addr) from hb) (by simp), hok, .of_eq hg⟩
  refine codeAny_mono ((F _ kB (nsB hns) TB).run callerA [] s H ⟨[.ref a], []⟩ [.ref a] [.ref a] _ _ hr rfl e0 (hbind s (.ref a)) (.cons rfl .nil) (hsp H tabs sq)) fun r s' h => ?_
  cases r with
  | error e => exact (show False from h).elim
  | ok fl =>
    cases fl with
    | next => exact False.elim h
    | brk => exact False.elim h
    | cont => exact False.elim h
    | ret u =>
      obtain ⟨v, H', os, bare, un, hok', r', q⟩ := h
      have q' : v = .bl true := q
      subst q'
      obtain rfl : u = Value.bool true := r'
      have grown : ∀ b ∈ ts, ∃ more : Array Value, s'.heap.get? b = some { cls := .none, data := .fields more } := fun b hb => by
        obtain ⟨more, z⟩ := un.tbls b #[] (by rw [← eH]; exact startH_tab hb)
        exact ⟨_, hok' b _ z⟩
      have kept : ∀ b o, b ∉ ts → s.heap.get? b = some o → s'.heap.get? b = some o := fun b o nb e => by
        cases z : H b with
        | none => exact un.keep b o e z (fun z => absurd (show b ∈ ([] : List Addr) from z) (by simp)) (by simp)
        | some u =>
          have z0 := z
          rw [← eH] at z0
          rcases startH_cases z0 with ⟨y, _⟩ | ⟨_, rfl, _, rfl⟩
          · exact absurd y nb
          · obtain ⟨e1, _⟩ := hok b _ z
            obtain ⟨e2, _⟩ := hok' b _ (un.frzs b _ _ z)
            rw [e] at e1
            cases e1
            exact e2
      refine ⟨rfl, ⟨fun b o e => ?_, fun b o e => ?_⟩, os, bare⟩
      · by_cases hb : b ∈ ts
        · obtain ⟨more, hm⟩ := grown b hb
          obtain ⟨p, hp, rfl⟩ := ofT b hb
          rw [hT p hp] at e
          cases e
          exact .inr (.inl ⟨((hC p hp).tab (hT p hp)).isCodeTable, rfl, #[], more, rfl, by rw [Array.empty_append]; exact hm⟩)
        · exact .inl (kept b o hb e)
      · by_cases hb : b ∈ ts
        · obtain ⟨more, hm⟩ := grown b hb
          exact ⟨_, hm⟩
        · exact ⟨o, kept b o hb e⟩
end Sw
namespace Sw
open PySem L2 PyProof.Rows PySem.Spec
abbrev FunCI (K : PySem.W.Frag) (T0 f : Addr) (fd : FuncData) : Prop := FunD K "__init__" "Context.__init__" (defArgs (cM 0)) (defBody (cM 0)) (defScope (cM 0)) [V.ref T0] [] f fd
theorem ci_full {K : PySem.W.Frag} {T0 f : Addr} {fd : FuncData} (F : FunCI K T0 f fd) : L2.Binds K fd ["self", "pairs"] [] := by
  obtain ⟨ds, h1, h2⟩ := F.binds1 (ps := ["self", "pairs"]) 2 1 (by simp) rfl fun T kV doc pm an cdv ct us its hu hi => match us, its, hu, hi with | [_, _], [_], _, _ => ⟨_, rfl, rfl⟩
  cases h1
  exact h2
theorem ci_one {K : PySem.W.Frag} {T0 f : Addr} {fd : FuncData} (F : FunCI K T0 f fd) {n : Nat} {sl : Array (Option Value)} (lT : K.lookup T0 = some ⟨.type "tuple", none, .seq #[] n, sl⟩) : ∃ (T0 : Addr) (ds : List Value), Vals [V.ref T0] ds ∧ L2.Binds K fd ["self", "pairs"] ds ∧ ∀ H, TupX K H T0 [] := by
  obtain ⟨ds, h1, h2⟩ := F.binds1 (ps := ["self", "pairs"]) 1 0 (by simp) rfl fun T kV doc pm an cdv ct us its hu hi => match us, its, hu, hi with | [_], [_], _, _ => ⟨_, rfl, rfl⟩
  exact ⟨T0, ds, h1, h2, fun H => .inr ⟨rfl, _, n, lT, rfl, rfl, rfl⟩⟩
theorem ci_kw {K : PySem.W.Frag} {T0 f : Addr} {fd : FuncData} (F : FunCI K T0 f fd) : KBn K fd ["self", "pairs"] 1 ["pairs"] (fun us ws => us ++ ws) (fun vs zs => vs ++ zs) := by
  obtain ⟨oc, od, dV, kV, doc, pm, an, cdv, ct, osl, rfl, lk, hcd, hD, hK⟩ := F.ex
  rcases hD with ⟨e, _⟩ | ⟨_, T, o, its, m, rfl, lT, oT, rT⟩
  · cases e
  · refine ⟨fun s us ws X h1 h2 => ?_, fun r1 r2 => r1.append r2⟩
    have hl : its.length = 1 := rT.length.symm
    match us, ws, its, h1, h2, hl, oT with
    | [_], [_], [_], _, _, _, oT => exact BindsTo.of_looks fun M => looks_items X lT oT (.of_pure rfl)
end Sw
namespace Sw
open PySem L2 PyProof.Rows PySem.Spec
/-- what is known of the law's promise at the head's heap h -/
def LawAtG (l : PySem.W.OpenLaw) (w : World) (K : PySem.W.Frag) (k n : Nat) (x : Str) (mg : Str → Option Value) (fa : Addr) (h : Heap) : Prop :=
  ∃ (fd : FuncData) (cs : List (Addr × Addr)) (sp : Sp), (∀ p ∈ cs, h.get? p.2 = some { cls := .none, data := .fields #[] }) ∧ (∀ p ∈ cs, K.lookup p.2 = none) ∧ (∀ p ∈ cs, PySem.W.CodeHd h p.1 p.2) ∧ (∀ (s : Shared) (u : Value), BindsTo s fd ⟨[u], []⟩ [(x, u)]) ∧
    (∀ (H : Hp) (a : Addr) (ns : List Int), ns.length ≤ n → (∀ p ∈ cs, H p.2 = some (.tbl #[])) → SqL K H a (ns.map V.int) → sp [.ref a] H (fun v _ => v = .bl true) fun _ _ _ => False) ∧
    ∀ base : Heap, K.In base → base.Ns mainGlobals mg → (∀ p ∈ cs, LamX.TabB base mg p.1 p.2) → FnOkG l.prog w K mg base CX0 k fa fd [x] sp
/-- the tables of the defs that the head saw -/
def TabsSeen (q : Program) (K : PySem.W.Frag) (h : Heap) : Prop := ∀ (x : Str) (c P : Addr), ((recsOf q).any fun e => e.name == x) = true → PySem.W.tabIn K x = some (c, P) → PySem.W.CodeHd h c P ∧ h.get? P = some { cls := .none, data := .fields #[] }
theorem walkG {l : PySem.W.OpenLaw} {n k : Nat} {q : Program} {loose : List Str} {XP : (Str → Option Value) → Heap → Prop} {YP : World → Heap → Prop} {d : DefRec} {K : Params → PySem.W.Frag} {x : Str}
    (hn : l.most = some n) (hn2 : n ≤ sizeLine) (hdf : d.params.defaults = []) (hr : Room k callerA) (hY : ∀ (w : World) (h : Heap), YP w h → (K w.params).In h)
    (F : ∀ (w : World) (mg : Str → Option Value) (fa : Addr) (h : Heap), (K w.params).In h → h.Ns mainGlobals mg → mg d.name = some (.ref fa) → TabsSeen q (K w.params) h → LawAtG l w (K w.params) k n x mg fa h) :
    PySem.W.WalkO q loose XP YP l.row.toRowW d [] (fun f vs => PySem.call f vs) := by
  refine Att.attach_callB hn hdf fun w s₀ s₁ mg mb fa o pm cd doc a vs ns G Y ho hd hcd hmg hobj hints hlen hbits hg => ?_
  have KX := hY w _ Y
  have seen : TabsSeen q (K w.params) s₁.heap := fun y c P hrec ht => by
    cases e : (recsOf q).find? (fun e => e.name == y) with
    | none =>
      obtain ⟨r, hm, hr⟩ := List.any_eq_true.mp hrec
      exact absurd hr (List.find?_eq_none.mp e r hm)
    | some r => exact PySem.W.tab_of G.T KX e ht
  obtain ⟨fd, cs, sp, hT, nT, C, hb, hsp, hF⟩ := F w mg fa _ KX G.T.g hmg seen
  exact law_callG KX G.T.g G.T.b G.T.builtins G.T.nolimit hg hT nT C G.T.bmain hobj hints (Nat.le_trans hlen hn2) hr hF hb fun H hH hS => hsp H a ns hlen hH hS

theorem all_mk {l : PySem.W.OpenLaw} {w : World} {K : PySem.W.Frag} {h : Heap} {mg : Str → Option Value} {q0 : Program} {fa C CF cR PT TD T0 f0 f30 f6 f7 f8 f9 f10 f11 f12 f13 f14 f15 f16 f41 f42 f43 f45 f46 f47 f48 f49 f50 : Addr}
    {od6 an6 od7 an7 od8 an8 od9 an9 od10 an10 od11 an11 od12 an12 od13 an13 od14 an14 od15 an15 od16 an16 od41 an41 od42 an42 od43 an43 od45 an45 od46 an46 od47 an47 od48 an48 od49 an49 od50 an50 od0 an0 od30 an30 odD : Option Addr} {sl6 sl7 sl8 sl9 sl10 sl11 sl12 sl13 sl14 sl15 sl16 sl41 sl42 sl43 sl45 sl46 sl47 sl48 sl49 sl50 sl0 sl30 slD slT : Array (Option Value)} {oc6 kV6 dc6 pm6 ct6 cd6 oc7 kV7 dc7 pm7 ct7 cd7 oc8 kV8 dc8 pm8 ct8 cd8 oc9 kV9 dc9 pm9 ct9 cd9 oc10 kV10 dc10 pm10 ct10 cd10 oc11 kV11 dc11 pm11 ct11 cd11 oc12 kV12 dc12 pm12 ct12 cd12 oc13 kV13 dc13 pm13 ct13 oc14 kV14 dc14 pm14 ct14 cd14 oc15 kV15 dc15 pm15 ct15 cd15 oc16 kV16 dc16 pm16 ct16 cd16 oc41 kV41 dc41 pm41 ct41 cd41 oc42 kV42 dc42 pm42 ct42 cd42 oc43 kV43 dc43 pm43 ct43 cd43 oc45 kV45 dc45 pm45 ct45 cd45 oc46 kV46 dc46 pm46 ct46 cd46 oc47 kV47 dc47 pm47 ct47 cd47 oc48 kV48 dc48 pm48 ct48 cd48 oc49 kV49 dc49 pm49 ct49 cd49 oc50 kV50 dc50 pm50 ct50 cd50 oc0 kV0 dc0 pm0 ct0 cd0 oc30 kV30 dc30 pm30 ct30 cd30 ocD : Value} {tU : Tok} {nD nT : Nat} {nm q : Str} {N : Addr} {bs : List Value} {sn : List Str} {sub : List Value} {ab : Bool} {col : Option Bool} {dd : Option Addr} {m0 m1 m2 m3 m5 : Option Value}
    (X : K.In h) (G : h.Ns mainGlobals mg) (hfa : mg "law" = some (.ref fa)) (seen : TabsSeen q0 K h) (hrec : ((recsOf q0).any fun e => e.name == ("_law_right" : Str)) = true)
    (a6 : PySem.W.nsIn K mainGlobals "_law_mixed" = some (some (.ref f6)))
    (l6 : K.lookup f6 = some ⟨oc6, od6, .func (PySem.W.fnOf "_law_mixed" "_law_mixed" (defArgs (top 6)) (defBody (top 6)) (defScope (top 6)) .none kV6 dc6 pm6 an6 cd6 ct6), sl6⟩)
    (c6 : PySem.W.codeIn K cd6 "_law_mixed" = true)
    (k6 : PySem.W.keepIn K (.ref f6) = true)
    (a7 : PySem.W.nsIn K mainGlobals "_law_begin" = some (some (.ref f7)))
    (l7 : K.lookup f7 = some ⟨oc7, od7, .func (PySem.W.fnOf "_law_begin" "_law_begin" (defArgs (top 7)) (defBody (top 7)) (defScope (top 7)) .none kV7 dc7 pm7 an7 cd7 ct7), sl7⟩)
    (c7 : PySem.W.codeIn K cd7 "_law_begin" = true)
    (k7 : PySem.W.keepIn K (.ref f7) = true)
    (a8 : PySem.W.nsIn K mainGlobals "_law_draw" = some (some (.ref f8)))
    (l8 : K.lookup f8 = some ⟨oc8, od8, .func (PySem.W.fnOf "_law_draw" "_law_draw" (defArgs (top 8)) (defBody (top 8)) (defScope (top 8)) .none kV8 dc8 pm8 an8 cd8 ct8), sl8⟩)
    (c8 : PySem.W.codeIn K cd8 "_law_draw" = true)
    (k8 : PySem.W.keepIn K (.ref f8) = true)
    (a9 : PySem.W.nsIn K mainGlobals "_law_name" = some (some (.ref f9)))
    (l9 : K.lookup f9 = some ⟨oc9, od9, .func (PySem.W.fnOf "_law_name" "_law_name" (defArgs (top 9)) (defBody (top 9)) (defScope (top 9)) .none kV9 dc9 pm9 an9 cd9 ct9), sl9⟩)
    (c9 : PySem.W.codeIn K cd9 "_law_name" = true)
    (k9 : PySem.W.keepIn K (.ref f9) = true)
    (a10 : PySem.W.nsIn K mainGlobals "_law_names" = some (some (.ref f10)))
    (l10 : K.lookup f10 = some ⟨oc10, od10, .func (PySem.W.fnOf "_law_names" "_law_names" (defArgs (top 10)) (defBody (top 10)) (defScope (top 10)) .none kV10 dc10 pm10 an10 cd10 ct10), sl10⟩)
    (c10 : PySem.W.codeIn K cd10 "_law_names" = true)
    (k10 : PySem.W.keepIn K (.ref f10) = true)
    (a11 : PySem.W.nsIn K mainGlobals "_law_fails" = some (some (.ref f11)))
    (l11 : K.lookup f11 = some ⟨oc11, od11, .func (PySem.W.fnOf "_law_fails" "_law_fails" (defArgs (top 11)) (defBody (top 11)) (defScope (top 11)) .none kV11 dc11 pm11 an11 cd11 ct11), sl11⟩)
    (c11 : PySem.W.codeIn K cd11 "_law_fails" = true)
    (k11 : PySem.W.keepIn K (.ref f11) = true)
    (a12 : PySem.W.nsIn K mainGlobals "_law_value" = some (some (.ref f12)))
    (l12 : K.lookup f12 = some ⟨oc12, od12, .func (PySem.W.fnOf "_law_value" "_law_value" (defArgs (top 12)) (defBody (top 12)) (defScope (top 12)) .none kV12 dc12 pm12 an12 cd12 ct12), sl12⟩)
    (c12 : PySem.W.codeIn K cd12 "_law_value" = true)
    (k12 : PySem.W.keepIn K (.ref f12) = true)
    (a13 : PySem.W.nsIn K mainGlobals "_law_right" = some (some (.ref f13)))
    (l13 : K.lookup f13 = some ⟨oc13, od13, .func (PySem.W.fnOf "_law_right" "_law_right" (defArgs (top 13)) (defBody (top 13)) (defScope (top 13)) .none kV13 dc13 pm13 an13 (.ref cR) ct13), sl13⟩)
    (c13 : PySem.W.codeIn K (.ref cR) "_law_right" = true)
    (k13 : PySem.W.keepIn K (.ref f13) = true)
    (a14 : PySem.W.nsIn K mainGlobals "_law_made" = some (some (.ref f14)))
    (l14 : K.lookup f14 = some ⟨oc14, od14, .func (PySem.W.fnOf "_law_made" "_law_made" (defArgs (top 14)) (defBody (top 14)) (defScope (top 14)) .none kV14 dc14 pm14 an14 cd14 ct14), sl14⟩)
    (c14 : PySem.W.codeIn K cd14 "_law_made" = true)
    (k14 : PySem.W.keepIn K (.ref f14) = true)
    (a15 : PySem.W.nsIn K mainGlobals "_law_alike_right" = some (some (.ref f15)))
    (l15 : K.lookup f15 = some ⟨oc15, od15, .func (PySem.W.fnOf "_law_alike_right" "_law_alike_right" (defArgs (top 15)) (defBody (top 15)) (defScope (top 15)) .none kV15 dc15 pm15 an15 cd15 ct15), sl15⟩)
    (c15 : PySem.W.codeIn K cd15 "_law_alike_right" = true)
    (k15 : PySem.W.keepIn K (.ref f15) = true)
    (a16 : PySem.W.nsIn K mainGlobals "law" = some (some (.ref f16)))
    (l16 : K.lookup f16 = some ⟨oc16, od16, .func (PySem.W.fnOf "law" "law" (defArgs (top 16)) (defBody (top 16)) (defScope (top 16)) .none kV16 dc16 pm16 an16 cd16 ct16), sl16⟩)
    (c16 : PySem.W.codeIn K cd16 "law" = true)
    (k16 : PySem.W.keepIn K (.ref f16) = true)
    (aC : PySem.W.nsIn K mainGlobals "Context" = some (some (.ref C)))
    (aF : PySem.W.nsIn K mainGlobals "Fails" = some (some (.ref CF)))
    (aU : PySem.W.nsIn K mainGlobals "UNSET" = some (some (.str "unset" tU)))
    (a41 : PySem.W.findIn K (.ref C) "__getitem__" = some (some (.ref f41)))
    (i41 : PySem.W.isFn K (.ref f41) = true)
    (l41 : K.lookup f41 = some ⟨oc41, od41, .func (PySem.W.fnOf "__getitem__" "Context.__getitem__" (defArgs (cM 1)) (defBody (cM 1)) (defScope (cM 1)) .none kV41 dc41 pm41 an41 cd41 ct41), sl41⟩)
    (c41 : PySem.W.codeIn K cd41 "Context.__getitem__" = true)
    (k41 : PySem.W.keepIn K (.ref f41) = true)
    (a42 : PySem.W.findIn K (.ref C) "__setitem__" = some (some (.ref f42)))
    (i42 : PySem.W.isFn K (.ref f42) = true)
    (l42 : K.lookup f42 = some ⟨oc42, od42, .func (PySem.W.fnOf "__setitem__" "Context.__setitem__" (defArgs (cM 2)) (defBody (cM 2)) (defScope (cM 2)) .none kV42 dc42 pm42 an42 cd42 ct42), sl42⟩)
    (c42 : PySem.W.codeIn K cd42 "Context.__setitem__" = true)
    (k42 : PySem.W.keepIn K (.ref f42) = true)
    (a43 : PySem.W.findIn K (.ref C) "__contains__" = some (some (.ref f43)))
    (i43 : PySem.W.isFn K (.ref f43) = true)
    (l43 : K.lookup f43 = some ⟨oc43, od43, .func (PySem.W.fnOf "__contains__" "Context.__contains__" (defArgs (cM 3)) (defBody (cM 3)) (defScope (cM 3)) .none kV43 dc43 pm43 an43 cd43 ct43), sl43⟩)
    (c43 : PySem.W.codeIn K cd43 "Context.__contains__" = true)
    (k43 : PySem.W.keepIn K (.ref f43) = true)
    (a45 : PySem.W.findIn K (.ref C) "__len__" = some (some (.ref f45)))
    (i45 : PySem.W.isFn K (.ref f45) = true)
    (l45 : K.lookup f45 = some ⟨oc45, od45, .func (PySem.W.fnOf "__len__" "Context.__len__" (defArgs (cM 5)) (defBody (cM 5)) (defScope (cM 5)) .none kV45 dc45 pm45 an45 cd45 ct45), sl45⟩)
    (c45 : PySem.W.codeIn K cd45 "Context.__len__" = true)
    (k45 : PySem.W.keepIn K (.ref f45) = true)
    (a46 : PySem.W.findIn K (.ref C) "__eq__" = some (some (.ref f46)))
    (i46 : PySem.W.isFn K (.ref f46) = true)
    (l46 : K.lookup f46 = some ⟨oc46, od46, .func (PySem.W.fnOf "__eq__" "Context.__eq__" (defArgs (cM 6)) (defBody (cM 6)) (defScope (cM 6)) .none kV46 dc46 pm46 an46 cd46 ct46), sl46⟩)
    (c46 : PySem.W.codeIn K cd46 "Context.__eq__" = true)
    (k46 : PySem.W.keepIn K (.ref f46) = true)
    (a47 : PySem.W.findIn K (.ref C) "drop" = some (some (.ref f47)))
    (i47 : PySem.W.isFn K (.ref f47) = true)
    (l47 : K.lookup f47 = some ⟨oc47, od47, .func (PySem.W.fnOf "drop" "Context.drop" (defArgs (cM 7)) (defBody (cM 7)) (defScope (cM 7)) .none kV47 dc47 pm47 an47 cd47 ct47), sl47⟩)
    (c47 : PySem.W.codeIn K cd47 "Context.drop" = true)
    (k47 : PySem.W.keepIn K (.ref f47) = true)
    (a48 : PySem.W.findIn K (.ref C) "pairs" = some (some (.ref f48)))
    (i48 : PySem.W.isFn K (.ref f48) = true)
    (l48 : K.lookup f48 = some ⟨oc48, od48, .func (PySem.W.fnOf "pairs" "Context.pairs" (defArgs (cM 8)) (defBody (cM 8)) (defScope (cM 8)) .none kV48 dc48 pm48 an48 cd48 ct48), sl48⟩)
    (c48 : PySem.W.codeIn K cd48 "Context.pairs" = true)
    (k48 : PySem.W.keepIn K (.ref f48) = true)
    (a49 : PySem.W.findIn K (.ref C) "copy" = some (some (.ref f49)))
    (i49 : PySem.W.isFn K (.ref f49) = true)
    (l49 : K.lookup f49 = some ⟨oc49, od49, .func (PySem.W.fnOf "copy" "Context.copy" (defArgs (cM 9)) (defBody (cM 9)) (defScope (cM 9)) .none kV49 dc49 pm49 an49 cd49 ct49), sl49⟩)
    (c49 : PySem.W.codeIn K cd49 "Context.copy" = true)
    (k49 : PySem.W.keepIn K (.ref f49) = true)
    (a50 : PySem.W.findIn K (.ref C) "is_same" = some (some (.ref f50)))
    (i50 : PySem.W.isFn K (.ref f50) = true)
    (l50 : K.lookup f50 = some ⟨oc50, od50, .func (PySem.W.fnOf "is_same" "Context.is_same" (defArgs (cM 10)) (defBody (cM 10)) (defScope (cM 10)) .none kV50 dc50 pm50 an50 cd50 ct50), sl50⟩)
    (c50 : PySem.W.codeIn K cd50 "Context.is_same" = true)
    (k50 : PySem.W.keepIn K (.ref f50) = true)
    (a0 : PySem.W.findIn K (.ref C) "__init__" = some (some (.ref f0)))
    (i0 : PySem.W.isFn K (.ref f0) = true)
    (l0 : K.lookup f0 = some ⟨oc0, od0, .func (PySem.W.fnOf "__init__" "Context.__init__" (defArgs (cM 0)) (defBody (cM 0)) (defScope (cM 0)) (.ref TD) kV0 dc0 pm0 an0 cd0 ct0), sl0⟩)
    (c0 : PySem.W.codeIn K cd0 "Context.__init__" = true)
    (k0 : PySem.W.keepIn K (.ref f0) = true)
    (lD : K.lookup TD = some ⟨ocD, odD, .seq #[.ref T0] nD, slD⟩)
    (lT : K.lookup T0 = some ⟨.type "tuple", none, .seq #[] nT, slT⟩)
    (g41 : PySem.W.fnIn K f41 = true)
    (a30 : PySem.W.findIn K (.ref CF) "__init__" = some (some (.ref f30)))
    (t30 : PySem.W.typeIn K (.ref f30) = some (.type "function"))
    (l30 : K.lookup f30 = some ⟨oc30, od30, .func (PySem.W.fnOf "__init__" "Fails.__init__" (defArgs sFI) (defBody sFI) (defScope sFI) .none kV30 dc30 pm30 an30 cd30 ct30), sl30⟩)
    (c30 : PySem.W.codeIn K cd30 "Fails.__init__" = true)
    (k30 : PySem.W.keepIn K (.ref f30) = true)
    (xF : K.lookup CF = some (excClassObj nm q CF N bs rtTail true sn sub ab col dd m0 m1 m2 m3 m5 "RuntimeError.__new__"))
    (saF : PySem.W.findIn K (.ref CF) "__setattr__" = some (some (.builtin "object.__setattr__")))
    (exF : PySem.W.subIn K (.ref CF) (.type "BaseException") = some true)
    (tyF : PySem.W.typeIn K (.ref CF) = some (.type "type"))
    (kF : PySem.W.keepIn K (.ref CF) = true)
    (wF : PySem.W.findIn K (.ref CF) "word" = some none)
    (gaF : PySem.W.findIn K (.ref CF) "__getattribute__" = some (some (.builtin "BaseException.__getattribute__")))
    (ggF : PySem.W.findIn K (.ref CF) "__getattr__" = some none)
    (hdF : PySem.W.hasDictIn K CF = true)
    (clF : PySem.W.findIn K (.ref CF) "__class__" = some (some (.builtin "object.__class__")))
    (gs : PySem.W.specialIn K (.builtin "object.__class__") "__get__" = some (some (.builtin "getset_descriptor.__get__")))
    (tk : PySem.W.takesIn K (.builtin "object.__class__") = some true)
    (moF : PySem.W.mroIn K CF (.type "object") = some true)
    (teF : PySem.W.exmOne K (.ref CF) (.ref CF) = some true)
    (iR : PySem.W.kitOne K (.ref CF) (.type "RuntimeError") = some true)
    (iV : PySem.W.kitOne K (.ref CF) (.type "ValueError") = some false)
    (iL : PySem.W.kitOne K (.ref CF) (.type "LookupError") = some false)
    (vV : PySem.W.findCls K (.type "RuntimeError") (.type "type") "__init__" = some (.val (.builtin "RuntimeError.__init__")))
    (pg : PySem.W.plainGet K C Str.empty = true)
    (hd : PySem.W.hasDictIn K C = true)
    (po : PySem.W.plainOver K C = true)
    (sa : PySem.W.findIn K (.ref C) "__setattr__" = some (some (.builtin "object.__setattr__")))
    (mk : PySem.W.makesIn K C = true)
    (kc : PySem.W.keepIn K (.ref C) = true)
    (nv : PySem.W.findIn K (.ref C) "values_here" = some none)
    (nb : PySem.W.findIn K (.ref C) "is_busy" = some none)
    (ns : PySem.W.findIn K (.ref C) "is_sought" = some none)
    (ne : PySem.W.findIn K (.ref C) "__ne__" = some (some (.builtin "object.__ne__")))
    (ob : PySem.W.subIn K (.ref C) (.type "object") = some true)
    (cl : PySem.W.findIn K (.ref C) "__class__" = some (some (.builtin "object.__class__")))
    (mo : PySem.W.mroIn K C (.type "object") = some true)
    (ow : PySem.W.kitOne K (.ref C) (.ref C) = some true)
    (nf : PySem.W.notFirst K C (.ref C) = true)
    (qS : PySem.W.noSeq K C = true)
    (u0 : PySem.W.kitOne K (.type "dict") (.ref C) = some false)
    (v0 : PySem.W.notFirst K C (.type "dict") = true)
    (u1 : PySem.W.kitOne K (.type "NoneType") (.ref C) = some false)
    (v1 : PySem.W.notFirst K C (.type "NoneType") = true)
    (u2 : PySem.W.kitOne K (.type "int") (.ref C) = some false)
    (v2 : PySem.W.notFirst K C (.type "int") = true)
    (u3 : PySem.W.kitOne K (.type "str") (.ref C) = some false)
    (v3 : PySem.W.notFirst K C (.type "str") = true)
    (u4 : PySem.W.kitOne K (.type "tuple") (.ref C) = some false)
    (v4 : PySem.W.notFirst K C (.type "tuple") = true)
    (z0 : PySem.W.nsIn K mainGlobals "int" = some none)
    (z1 : PySem.W.nsIn K mainGlobals "len" = some none)
    (z2 : PySem.W.nsIn K mainGlobals "list" = some none)
    (z3 : PySem.W.nsIn K mainGlobals "range" = some none)
    (z4 : PySem.W.nsIn K mainGlobals "isinstance" = some none)
    (z5 : PySem.W.nsIn K mainGlobals "RuntimeError" = some none)
    (z6 : PySem.W.nsIn K mainGlobals "ValueError" = some none)
    (z7 : PySem.W.nsIn K mainGlobals "LookupError" = some none)
    (z8 : PySem.W.nsIn K mainGlobals "dict" = some none)
    (z9 : PySem.W.nsIn K mainGlobals "tuple" = some none)
    (z10 : PySem.W.nsIn K mainGlobals "sorted" = some none)
    (z11 : PySem.W.nsIn K mainGlobals "repr" = some none)
    (tb : PySem.W.tabIn K "_law_right" = some (cR, PT))
    (nP : K.lookup PT = none)
    : LawAtG l w K 8 63 "script" mg fa h := by
  have e := hfa.symm.trans (PySem.W.mg_of X G a16)
  cases e
  have F6 := fun_mk (st := top 6) l6 c6 k6
  have b6 := F6.binds (ps := ["cell", "k"]) fun _ _ _ _ _ _ us hl => match us, hl with | [_, _], _ => rfl
  have g6 := PySem.W.mg_of X G a6
  have F7 := fun_mk (st := top 7) l7 c7 k7
  have b7 := F7.binds (ps := ["script"]) fun _ _ _ _ _ _ us hl => match us, hl with | [_], _ => rfl
  have g7 := PySem.W.mg_of X G a7
  have F8 := fun_mk (st := top 8) l8 c8 k8
  have b8 := F8.binds (ps := ["state", "many"]) fun _ _ _ _ _ _ us hl => match us, hl with | [_, _], _ => rfl
  have g8 := PySem.W.mg_of X G a8
  have F9 := fun_mk (st := top 9) l9 c9 k9
  have b9 := F9.binds (ps := ["state"]) fun _ _ _ _ _ _ us hl => match us, hl with | [_], _ => rfl
  have g9 := PySem.W.mg_of X G a9
  have F10 := fun_mk (st := top 10) l10 c10 k10
  have b10 := F10.binds (ps := ["state", "many"]) fun _ _ _ _ _ _ us hl => match us, hl with | [_, _], _ => rfl
  have g10 := PySem.W.mg_of X G a10
  have F11 := fun_mk (st := top 11) l11 c11 k11
  have b11 := F11.binds (ps := ["asked"]) fun _ _ _ _ _ _ us hl => match us, hl with | [_], _ => rfl
  have g11 := PySem.W.mg_of X G a11
  have F12 := fun_mk (st := top 12) l12 c12 k12
  have b12 := F12.binds (ps := ["state"]) fun _ _ _ _ _ _ us hl => match us, hl with | [_], _ => rfl
  have g12 := PySem.W.mg_of X G a12
  have F13 := fun_mk (st := top 13) l13 c13 k13
  have b13 := F13.binds (ps := ["context", "due", "names"]) fun _ _ _ _ _ _ us hl => match us, hl with | [_, _, _], _ => rfl
  have g13 := PySem.W.mg_of X G a13
  have F14 := fun_mk (st := top 14) l14 c14 k14
  have b14 := F14.binds (ps := ["state", "names"]) fun _ _ _ _ _ _ us hl => match us, hl with | [_, _], _ => rfl
  have g14 := PySem.W.mg_of X G a14
  have F15 := fun_mk (st := top 15) l15 c15 k15
  have b15 := F15.binds (ps := ["rows"]) fun _ _ _ _ _ _ us hl => match us, hl with | [_], _ => rfl
  have g15 := PySem.W.mg_of X G a15
  have F16 := fun_mk (st := top 16) l16 c16 k16
  have b16 := F16.binds (ps := ["script"]) fun _ _ _ _ _ _ us hl => match us, hl with | [_], _ => rfl
  have g16 := PySem.W.mg_of X G a16
  have F41 := fun_mk (st := cM 1) l41 c41 k41
  have b41 := F41.binds (ps := ["self", "variable"]) fun _ _ _ _ _ _ us hl => match us, hl with | [_, _], _ => rfl
  have m41 : Meth K C "__getitem__" f41 := ⟨a41, i41, k41⟩
  have F42 := fun_mk (st := cM 2) l42 c42 k42
  have b42 := F42.binds (ps := ["self", "variable", "value"]) fun _ _ _ _ _ _ us hl => match us, hl with | [_, _, _], _ => rfl
  have m42 : Meth K C "__setitem__" f42 := ⟨a42, i42, k42⟩
  have F43 := fun_mk (st := cM 3) l43 c43 k43
  have b43 := F43.binds (ps := ["self", "variable"]) fun _ _ _ _ _ _ us hl => match us, hl with | [_, _], _ => rfl
  have m43 : Meth K C "__contains__" f43 := ⟨a43, i43, k43⟩
  have F45 := fun_mk (st := cM 5) l45 c45 k45
  have b45 := F45.binds (ps := ["self"]) fun _ _ _ _ _ _ us hl => match us, hl with | [_], _ => rfl
  have m45 : Meth K C "__len__" f45 := ⟨a45, i45, k45⟩
  have F46 := fun_mk (st := cM 6) l46 c46 k46
  have b46 := F46.binds (ps := ["self", "other"]) fun _ _ _ _ _ _ us hl => match us, hl with | [_, _], _ => rfl
  have m46 : Meth K C "__eq__" f46 := ⟨a46, i46, k46⟩
  have F47 := fun_mk (st := cM 7) l47 c47 k47
  have b47 := F47.binds (ps := ["self", "variable"]) fun _ _ _ _ _ _ us hl => match us, hl with | [_, _], _ => rfl
  have m47 : Meth K C "drop" f47 := ⟨a47, i47, k47⟩
  have F48 := fun_mk (st := cM 8) l48 c48 k48
  have b48 := F48.binds (ps := ["self"]) fun _ _ _ _ _ _ us hl => match us, hl with | [_], _ => rfl
  have m48 : Meth K C "pairs" f48 := ⟨a48, i48, k48⟩
  have F49 := fun_mk (st := cM 9) l49 c49 k49
  have b49 := F49.binds (ps := ["self"]) fun _ _ _ _ _ _ us hl => match us, hl with | [_], _ => rfl
  have m49 : Meth K C "copy" f49 := ⟨a49, i49, k49⟩
  have F50 := fun_mk (st := cM 10) l50 c50 k50
  have b50 := F50.binds (ps := ["self", "other"]) fun _ _ _ _ _ _ us hl => match us, hl with | [_, _], _ => rfl
  have m50 : Meth K C "is_same" f50 := ⟨a50, i50, k50⟩
  have F30 := fun_mk (st := sFI) l30 c30 k30
  have b30 := F30.binds (ps := ["self", "word"]) fun _ _ _ _ _ _ us hl => match us, hl with | [_, _], _ => rfl
  have F0 : FunD K "__init__" "Context.__init__" (defArgs (cM 0)) (defBody (cM 0)) (defScope (cM 0)) [V.ref T0] [] f0 _ := ⟨⟨_, _, _, _, _, _, _, _, _, _, rfl, l0, c0, .inr ⟨by simp, TD, _, [.ref T0], nD, rfl, lD, rfl, .cons rfl .nil⟩, .inl rfl⟩, k0⟩
  have T : CtxC K mg C := ⟨⟨pg, hd, po, sa⟩, nv, nb, ns, PySem.W.mg_of X G aC⟩
  have TX : CtxT K C := ⟨ne, ob, ow, nf, fun Ty hT => by
    simp only [List.mem_cons, List.not_mem_nil, or_false] at hT
    rcases hT with rfl | rfl | rfl | rfl | rfl
    · exact ⟨u0, v0⟩
    · exact ⟨u1, v1⟩
    · exact ⟨u2, v2⟩
    · exact ⟨u3, v3⟩
    · exact ⟨u4, v4⟩⟩
  have ty : CtxTy K C := fun H a dx fs e => .base (.ins e ⟨pg, hd, po, sa⟩ cl gs tk mo)
  have R : RtC K CF := ⟨⟨nm, q, N, bs, sn, sub, ab, col, dd, m0, m1, m2, m3, m5, xF⟩, saF, exF, tyF, kF⟩
  have TF : FailC K mg CF := ⟨PySem.W.mg_of X G aF, ⟨gaF, ggF, exF, hdF, clF, gs, tk, moF⟩, ⟨gaF, ggF, exF, hdF⟩, wF, teF, iR, iV, iL, (PySem.W.mg_none_of X G z4), (PySem.W.mg_none_of X G z5), (PySem.W.mg_none_of X G z6), (PySem.W.mg_none_of X G z7)⟩
  have cI : CtxM K C f0 _ := ⟨⟨mk, a0, i0, kc⟩, ci_full F0, ci_one F0 lT, ci_kw F0⟩
  obtain ⟨hcode, htab⟩ := seen "_law_right" cR PT hrec tb
  refine ⟨PySem.W.fnOf "law" "law" (defArgs (top 16)) (defBody (top 16)) (defScope (top 16)) .none kV16 dc16 pm16 an16 cd16 ct16, [(cR, PT)], spLaw K (tR PT), fun p hp => ?_, fun p hp => ?_, fun p hp => ?_, fun s u => .of_eq rfl, fun H a ns hl hH hS => ⟨a, ns, rfl, hS, hl, fun p hp => ?_, fun _ => rfl⟩, fun base KB GB TB => ?_⟩
  · rw [List.mem_singleton.mp hp]; exact htab
  · rw [List.mem_singleton.mp hp]; exact nP
  · rw [List.mem_singleton.mp hp]; exact hcode
  · rw [List.mem_singleton.mp hp]
    exact LamX.TabS.nil (hH (cR, PT) (List.mem_singleton.mpr rfl))
  have O6 := ok_mixed (P := l.prog) (w := w) (mg := mg) (base := base) F6 (PySem.W.mg_none_of X G z0)
  have O7 := ok_begin (P := l.prog) (w := w) (mg := mg) (base := base) F7 (PySem.W.mg_none_of X G z2)
  have O8 := ok_draw F8 O6 ⟨g6, k6, b6⟩ (PySem.W.mg_none_of X G z0) (PySem.W.mg_none_of X G z1)
  have cD : Cl K mg "_law_draw" f8 _ ["state", "many"] := ⟨g8, k8, b8⟩
  have O9 := ok_name F9 O8 cD (PySem.W.mg_none_of X G z3)
  have O10 := ok_names F10 O9 ⟨g9, k9, b9⟩ (PySem.W.mg_none_of X G z3) (PySem.W.mg_none_of X G z1)
  have O12 := ok_value F12 O8 cD
  have O30 := ok_FI (P := l.prog) (w := w) (mg := mg) (base := base) F30 R wF (PySem.W.mg_none_of X G z5) vV
  have O0 := ok_CI (P := l.prog) (w := w) (base := base) F0 T (PySem.W.mg_none_of X G z8)
  have O41 := ok_get (P := l.prog) (w := w) (base := base) F41 T R (PySem.W.mg_of X G aF) (PySem.W.mg_of X G aU) a30 t30 O30 b30
  have O42 := ok_set (P := l.prog) (w := w) (base := base) F42 T
  have O43 := ok_has (P := l.prog) (w := w) (base := base) F43 T
  have O45 := ok_len (P := l.prog) (w := w) (base := base) F45 T (PySem.W.mg_none_of X G z1)
  have O46 := ok_eq (P := l.prog) (w := w) (base := base) F46 T (PySem.W.mg_none_of X G z4)
  have O47 := ok_drop (P := l.prog) (w := w) (base := base) F47 T
  have O48 := ok_pairs (P := l.prog) (w := w) (base := base) F48 T (PySem.W.mg_none_of X G z9) (PySem.W.mg_none_of X G z10)
  have O49 := ok_copy F49 T cI.M m48 O0 cI.b O48 b48
  have O50 := ok_same (P := l.prog) (w := w) (base := base) F50 T
  have O14 := ok_made F14 T O8 cD O12 ⟨g12, k12, b12⟩ O0 cI (PySem.W.mg_none_of X G z9) (PySem.W.mg_none_of X G z8)
  have O13 := ok_right F13 T TX ⟨O41, m41, g41, b41, O43, m43, b43, O45, m45, b45, O46, m46, b46, O48, m48, b48⟩ F11 b11 g11 k11 TF (TB (cR, PT) (List.mem_singleton.mpr rfl)) rfl (PySem.W.mg_none_of X G z11) (PySem.W.mg_none_of X G z9) (PySem.W.mg_none_of X G z10) (PySem.W.mg_none_of X G z1)
  have O15 := ok_alike F15 T TX ty O46 m46 b46 O50 m50 b50 (PySem.W.mg_none_of X G z11) (PySem.W.mg_none_of X G z3)
  exact ok_law F16 T ⟨O7, ⟨g7, k7, b7⟩, O10, ⟨g10, k10, b10⟩, O14, ⟨g14, k14, b14⟩, O8, cD, O12, ⟨g12, k12, b12⟩, O13, ⟨g13, k13, b13⟩, O15, ⟨g15, k15, b15⟩, O42, m42, b42, qS, O47, m47, b47, O49, m49, b49⟩ (PySem.W.mg_none_of X G z3) (PySem.W.mg_none_of X G z8)
end Sw
open PySem PySem.W PyProof.Rows
set_option maxRecDepth 100000 in
set_option maxHeartbeats 0 in
theorem PySem.Challenge.cw_stepwhere_k01_contexts_told_holds : PySem.Challenge.rw_stepwhere_k01_contexts_told.Holds := by
  w_on; o_law; k_head; (case hw => w_witness2)
  k_fill
  refine Sw.walkG (l := PySem.Challenge.rw_stepwhere_k01_contexts_told) (n := 63) (k := 8) (x := "script") rfl (by decide) rfl ⟨rfl, by decide, by decide⟩ (fun w h Y => PySem.W.km_in_of Y) ?F
  case F =>
    intro w mg fa h KX G hmg seen
    refine' Sw.all_mk KX G hmg seen ?hrec ?a6 ?l6 ?c6 ?k6 ?a7 ?l7 ?c7 ?k7 ?a8 ?l8 ?c8 ?k8 ?a9 ?l9 ?c9 ?k9 ?a10 ?l10 ?c10 ?k10 ?a11 ?l11 ?c11 ?k11 ?a12 ?l12 ?c12 ?k12 ?a13 ?l13 ?c13 ?k13 ?a14 ?l14 ?c14 ?k14 ?a15 ?l15 ?c15 ?k15 ?a16 ?l16 ?c16 ?k16 ?aC ?aF ?aU ?a41 ?i41 ?l41 ?c41 ?k41 ?a42 ?i42 ?l42 ?c42 ?k42 ?a43 ?i43 ?l43 ?c43 ?k43 ?a45 ?i45 ?l45 ?c45 ?k45 ?a46 ?i46 ?l46 ?c46 ?k46 ?a47 ?i47 ?l47 ?c47 ?k47 ?a48 ?i48 ?l48 ?c48 ?k48 ?a49 ?i49 ?l49 ?c49 ?k49 ?a50 ?i50 ?l50 ?c50 ?k50 ?a0 ?i0 ?l0 ?c0 ?k0 ?lD ?lT ?g41 ?a30 ?t30 ?l30 ?c30 ?k30 ?xF ?saF ?exF ?tyF ?kF ?wF ?gaF ?ggF ?hdF ?clF ?gs ?tk ?moF ?teF ?iR ?iV ?iL ?vV ?pg ?hd ?po ?sa ?mk ?kc ?nv ?nb ?ns ?ne ?ob ?cl ?mo ?ow ?nf ?qS ?u0 ?v0 ?u1 ?v1 ?u2 ?v2 ?u3 ?v3 ?u4 ?v4 ?z0 ?z1 ?z2 ?z3 ?z4 ?z5 ?z6 ?z7 ?z8 ?z9 ?z10 ?z11 ?tb ?nP
    (case hrec => first | rfl | decide +kernel)
    (case a6 => first | k_is | rfl)
    (case l6 => first | k_is | rfl)
    (case c6 => first | k_is | rfl)
    (case k6 => first | k_is | rfl)
    (case a7 => first | k_is | rfl)
    (case l7 => first | k_is | rfl)
    (case c7 => first | k_is | rfl)
    (case k7 => first | k_is | rfl)
    (case a8 => first | k_is | rfl)
    (case l8 => first | k_is | rfl)
    (case c8 => first | k_is | rfl)
    (case k8 => first | k_is | rfl)
    (case a9 => first | k_is | rfl)
    (case l9 => first | k_is | rfl)
    (case c9 => first | k_is | rfl)
    (case k9 => first | k_is | rfl)
    (case a10 => first | k_is | rfl)
    (case l10 => first | k_is | rfl)
    (case c10 => first | k_is | rfl)
    (case k10 => first | k_is | rfl)
    (case a11 => first | k_is | rfl)
    (case l11 => first | k_is | rfl)
    (case c11 => first | k_is | rfl)
    (case k11 => first | k_is | rfl)
    (case a12 => first | k_is | rfl)
    (case l12 => first | k_is | rfl)
    (case c12 => first | k_is | rfl)
    (case k12 => first | k_is | rfl)
    (case a13 => first | k_is | rfl)
    (case l13 => first | k_is | rfl)
    (case c13 => first | k_is | rfl)
    (case k13 => first | k_is | rfl)
    (case a14 => first | k_is | rfl)
    (case l14 => first | k_is | rfl)
    (case c14 => first | k_is | rfl)
    (case k14 => first | k_is | rfl)
    (case a15 => first | k_is | rfl)
    (case l15 => first | k_is | rfl)
    (case c15 => first | k_is | rfl)
    (case k15 => first | k_is | rfl)
    (case a16 => first | k_is | rfl)
    (case l16 => first | k_is | rfl)
    (case c16 => first | k_is | rfl)
    (case k16 => first | k_is | rfl)
    (case aC => first | k_is | rfl)
    (case aF => first | k_is | rfl)
    (case aU => first | k_is | rfl)
    (case a41 => first | k_is | rfl)
    (case i41 => first | k_is | rfl)
    (case l41 => first | k_is | rfl)
    (case c41 => first | k_is | rfl)
    (case k41 => first | k_is | rfl)
    (case a42 => first | k_is | rfl)
    (case i42 => first | k_is | rfl)
    (case l42 => first | k_is | rfl)
    (case c42 => first | k_is | rfl)
    (case k42 => first | k_is | rfl)
    (case a43 => first | k_is | rfl)
    (case i43 => first | k_is | rfl)
    (case l43 => first | k_is | rfl)
    (case c43 => first | k_is | rfl)
    (case k43 => first | k_is | rfl)
    (case a45 => first | k_is | rfl)
    (case i45 => first | k_is | rfl)
    (case l45 => first | k_is | rfl)
    (case c45 => first | k_is | rfl)
    (case k45 => first | k_is | rfl)
    (case a46 => first | k_is | rfl)
    (case i46 => first | k_is | rfl)
    (case l46 => first | k_is | rfl)
    (case c46 => first | k_is | rfl)
    (case k46 => first | k_is | rfl)
    (case a47 => first | k_is | rfl)
    (case i47 => first | k_is | rfl)
    (case l47 => first | k_is | rfl)
    (case c47 => first | k_is | rfl)
    (case k47 => first | k_is | rfl)
    (case a48 => first | k_is | rfl)
    (case i48 => first | k_is | rfl)
    (case l48 => first | k_is | rfl)
    (case c48 => first | k_is | rfl)
    (case k48 => first | k_is | rfl)
    (case a49 => first | k_is | rfl)
    (case i49 => first | k_is | rfl)
    (case l49 => first | k_is | rfl)
    (case c49 => first | k_is | rfl)
    (case k49 => first | k_is | rfl)
    (case a50 => first | k_is | rfl)
    (case i50 => first | k_is | rfl)
    (case l50 => first | k_is | rfl)
    (case c50 => first | k_is | rfl)
    (case k50 => first | k_is | rfl)
    (case a0 => first | k_is | rfl)
    (case i0 => first | k_is | rfl)
    (case l0 => first | k_is | rfl)
    (case c0 => first | k_is | rfl)
    (case k0 => first | k_is | rfl)
    (case lD => first | k_is | rfl)
    (case lT => first | k_is | rfl)
    (case g41 => first | k_is | rfl)
    (case a30 => first | k_is | rfl)
    (case t30 => first | k_is | rfl)
    (case l30 => first | k_is | rfl)
    (case c30 => first | k_is | rfl)
    (case k30 => first | k_is | rfl)
    (case xF => first | k_is | rfl)
    (case saF => first | k_is | rfl)
    (case exF => first | k_is | rfl)
    (case tyF => first | k_is | rfl)
    (case kF => first | k_is | rfl)
    (case wF => first | k_is | rfl)
    (case gaF => first | k_is | rfl)
    (case ggF => first | k_is | rfl)
    (case hdF => first | k_is | rfl)
    (case clF => first | k_is | rfl)
    (case gs => first | k_is | rfl)
    (case tk => first | k_is | rfl)
    (case moF => first | k_is | rfl)
    (case teF => first | k_is | rfl)
    (case iR => first | k_is | rfl)
    (case iV => first | k_is | rfl)
    (case iL => first | k_is | rfl)
    (case vV => first | k_is | rfl)
    (case pg => first | k_is | rfl)
    (case hd => first | k_is | rfl)
    (case po => first | k_is | rfl)
    (case sa => first | k_is | rfl)
    (case mk => first | k_is | rfl)
    (case kc => first | k_is | rfl)
    (case nv => first | k_is | rfl)
    (case nb => first | k_is | rfl)
    (case ns => first | k_is | rfl)
    (case ne => first | k_is | rfl)
    (case ob => first | k_is | rfl)
    (case cl => first | k_is | rfl)
    (case mo => first | k_is | rfl)
    (case ow => first | k_is | rfl)
    (case nf => first | k_is | rfl)
    (case qS => first | k_is | rfl)
    (case u0 => first | k_is | rfl)
    (case v0 => first | k_is | rfl)
    (case u1 => first | k_is | rfl)
    (case v1 => first | k_is | rfl)
    (case u2 => first | k_is | rfl)
    (case v2 => first | k_is | rfl)
    (case u3 => first | k_is | rfl)
    (case v3 => first | k_is | rfl)
    (case u4 => first | k_is | rfl)
    (case v4 => first | k_is | rfl)
    (case z0 => first | k_is | rfl)
    (case z1 => first | k_is | rfl)
    (case z2 => first | k_is | rfl)
    (case z3 => first | k_is | rfl)
    (case z4 => first | k_is | rfl)
    (case z5 => first | k_is | rfl)
    (case z6 => first | k_is | rfl)
    (case z7 => first | k_is | rfl)
    (case z8 => first | k_is | rfl)
    (case z9 => first | k_is | rfl)
    (case z10 => first | k_is | rfl)
    (case z11 => first | k_is | rfl)
    (case tb => first | k_is | rfl)
    (case nP => first | k_is | rfl)
