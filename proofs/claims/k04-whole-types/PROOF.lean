import PyProof.Rows.All
import Wide.All
import OpenK.AllK
import Wide.FinOn
import HandS.ForMost
import HandS.ForExc
import HandS.IsInst
import HandS.ExcIs
import HandS.Style
import HandS.Small
import HandS.TupAny
import HandS.EndOwn
import HandS.Deep
import HandS.SetKeys
import HandS.SetFor
import PySem.Challenge.RW_soundborder_k04_whole_types
set_option Elab.async false
set_option linter.all false
set_option maxRecDepth 100000
set_option maxHeartbeats 4000000
namespace K04
open PySem L2
/-! ### heap relations -/
/-- all that is tracked, but a, stays -/
def Keep (a : Addr) (H H' : Hp) : Prop := ∀ b o, b ≠ a → H b = some o → H' b = some o
/-- .. but a and the code tables -/
def KeepN (a : Addr) (H H' : Hp) : Prop := ∀ b o, b ≠ a → (∀ ps, o ≠ .tbl ps) → H b = some o → H' b = some o
theorem Keep.refl (a : Addr) (H : Hp) : Keep a H H := fun _ _ _ h => h
theorem Keep.trans {a : Addr} {H H1 H2 : Hp} (x : Keep a H H1) (y : Keep a H1 H2) : Keep a H H2 := fun b o n h => y b o n (x b o n h)
theorem Keep.of {a : Addr} {H H' : Hp} (x : Same H H') : Keep a H H' := fun b o _ h => x b o h
theorem Keep.n {a : Addr} {H H' : Hp} (x : Keep a H H') : KeepN a H H' := fun b o n _ h => x b o n h
theorem KeepN.trans {a : Addr} {H H1 H2 : Hp} (x : KeepN a H H1) (y : KeepN a H1 H2) : KeepN a H H2 := fun b o n t h => y b o n t (x b o n t h)
theorem KeepN.refl (a : Addr) (H : Hp) : KeepN a H H := fun _ _ _ _ h => h
theorem KeepN.ofE {a : Addr} {H H' : Hp} (x : LamX.ExtN H H') : KeepN a H H' := fun b o _ t h => x b o h t
theorem keep_upd {a : Addr} {H : Hp} {o : HO} : Keep a H (upd H a o) := fun b u n h => by rw [upd_ne n]; exact h
theorem same_new {H : Hp} {p : Addr} (h : H p = none) (o : HO) : Same H (upd H p o) := fun b u q => by rw [upd_ne (ne_of_none q h)]; exact q
theorem Keep.free {a p : Addr} {H H' : Hp} {o : HO} (x : Keep a H H') (ha : H a = some o) (h : H' p = none) (h' : H' a ≠ none) : H p = none := by
  cases q : H p with
  | none => rfl
  | some u =>
    by_cases e : p = a
    · rw [e] at h; exact absurd h h'
    · rw [x p u e q] at h; cases h
/-- a tuple, a locked thing stays -/
theorem KeepN.rdT {a p : Addr} {H H' : Hp} {r xs : List V} (x : KeepN a H H') (ha : H a = some (.lst r)) (h : Rd H p (.tup xs)) : Rd H' p (.tup xs) := by
  rcases h with h | ⟨o, h⟩
  · exact .inl (x p _ (ne_of h ha (fun z => by cases z)) (fun ps z => by cases z) h)
  · exact .inr ⟨o, x p _ (ne_of h ha (fun z => by cases z)) (fun ps z => by cases z) h⟩
theorem KeepN.sqT {K : PySem.W.Frag} {a p : Addr} {H H' : Hp} {r xs : List V} (x : KeepN a H H') (ha : H a = some (.lst r)) (h : SqT K H p xs) : SqT K H' p xs := by
  rcases h with h | h
  · exact .inl (x.rdT ha h)
  · exact .inr h
theorem Same.sqT {K : PySem.W.Frag} {p : Addr} {H H' : Hp} {xs : List V} (x : Same H H') (h : SqT K H p xs) : SqT K H' p xs := by
  rcases h with (h | ⟨o, h⟩) | h
  · exact .inl (.inl (x _ _ h))
  · exact .inl (.inr ⟨o, x _ _ h⟩)
  · exact .inr h
mutual
theorem Same.dp {K : PySem.W.Frag} {H H' : Hp} (x : Same H H') : ∀ {v : V} {d : PyData}, Dp K H v d → Dp K H' v d
  | _, _, .non => .non
  | _, _, .bl b => .bl b
  | _, _, .int i => .int i
  | _, _, .str s => .str s
  | _, _, .lst h1 h2 => .lst (x.seq h1) (Same.dpAll x h2)
  | _, _, .tup h1 h2 => .tup (Same.sqT x h1) (Same.dpAll x h2)
theorem Same.dpAll {K : PySem.W.Frag} {H H' : Hp} (x : Same H H') : ∀ {vs : List V} {ds : List PyData}, DpAll K H vs ds → DpAll K H' vs ds
  | _, _, .nil => .nil
  | _, _, .cons h t => .cons (Same.dp x h) (Same.dpAll x t)
end
/-! ### the drawn row -/
/-- the law's row of draws at a: the script, the place, the seed, the rest of a great number -/
structure Row (K : PySem.W.Frag) (a sc : Addr) (ns : List Int) (H : Hp) : Prop where
  row : ∃ p s r : Int, H a = some (.lst [.ref sc, .int p, .int s, .int r]) ∧ 0 ≤ p ∧ 0 ≤ s ∧ s < 2147483647
  scr : SqL K H sc (ns.map V.int)
  few : ns.length ≤ 63
theorem Row.lst {K : PySem.W.Frag} {a sc : Addr} {ns : List Int} {H : Hp} (x : Row K a sc ns H) : ∃ xs, H a = some (.lst xs) := let ⟨_, _, _, h, _⟩ := x.row; ⟨_, h⟩
theorem Row.ne {K : PySem.W.Frag} {a sc p : Addr} {ns : List Int} {H : Hp} (x : Row K a sc ns H) (h : H p = none) : p ≠ a := fun e => by
  obtain ⟨xs, q⟩ := x.lst
  rw [e, q] at h; cases h
/-- the script stays where all but the row stays -/
theorem scr_keep {K : PySem.W.Frag} {a sc y : Addr} {ns : List Int} {H H' : Hp} {r : List V} (x : KeepN a H H') (ha : H a = some (.lst (.ref y :: r))) (h : SqL K H sc (ns.map V.int)) : SqL K H' sc (ns.map V.int) := by
  rcases h with (h | ⟨o, h⟩) | h
  · refine .inl (.inl (x _ _ (ne_of h ha fun z => ?_) (fun ps z => by cases z) h))
    have z' : ns.map V.int = .ref y :: r := by injection z
    cases ns with
    | nil => cases z'
    | cons n l =>
      rw [List.map_cons] at z'
      injection z' with z1 _
      cases z1
  · exact .inl (.inr ⟨o, x _ _ (ne_of h ha fun z => by cases z) (fun ps z => by cases z) h⟩)
  · exact .inr h
theorem Row.same {K : PySem.W.Frag} {a sc : Addr} {ns : List Int} {H H' : Hp} (x : Row K a sc ns H) (e : Same H H') : Row K a sc ns H' :=
  ⟨let ⟨p, s, r, h, q⟩ := x.row; ⟨p, s, r, e _ _ h, q⟩, e.seq x.scr, x.few⟩
theorem Row.extN {K : PySem.W.Frag} {a sc : Addr} {ns : List Int} {H H' : Hp} (x : Row K a sc ns H) (e : LamX.ExtN H H') : Row K a sc ns H' := by
  obtain ⟨p, s, r, h, q⟩ := x.row
  exact ⟨⟨p, s, r, e _ _ h (fun ps z => by cases z), q⟩, scr_keep (KeepN.ofE e) h x.scr, x.few⟩
/-! ### raise X() -/
theorem pmk_own0 {X : Cx} {C : Addr} {bmB : List Value} {B newId initId : String} {x : Str} {p pos : Pos} (F : ExcBaseFacts B newId initId bmB) (q : PySem.W.excIn X.K C bmB newId = true) (gC : X.mg x = some (.ref C))
    (kC : PySem.W.keepIn X.K (.ref C) = true) (r : Raises X (.ref C)) (hg : Gl X x) (hdb : (x == ("__debug__" : Str)) = false := by decide) :
    PMk X (.Call (.Name x p) [] [] pos) (fun _ H Q => Q (.ref C) none H) := by
  intro pins s σ H Q I h
  refine wpAny_Call_Name_kw (ld_glob I hg gC ?_ hdb)
  refine PySem.W.callWith_K0 I.kIn kC ?_
  obtain ⟨bm, N, nm, qn, bs, hdct, sn, sub, ab, col, dd, k0, k1, k2, k3, k5, mN, hC, hN, hni, T⟩ := exc_obj I.kIn q
  exact wpAny_call_exc_subT F T hC hN hni (fun h' e hm => mk_of I hm r h (I.hok.gone hm.new)) (by show 0 ≤ sizeLine; decide)
end K04

set_option Elab.async false
set_option linter.all false
set_option maxRecDepth 100000
set_option maxHeartbeats 4000000
namespace K04
open PySem L2
/-! ### the text by places -/
def top (i : Nat) : Stmt := PySem.Challenge.pw_soundborder_k04_whole_types.main.body.getD i (.Pass ⟨0, 0, 0, 0⟩)
abbrev sDeep : Stmt := top 9
abbrev sIsType : Stmt := top 10
abbrev sNeedT : Stmt := top 11
abbrev sIsDes : Stmt := top 12
abbrev sNeedD : Stmt := top 13
abbrev sHas : Stmt := top 14
abbrev sIsCell : Stmt := top 15
abbrev sIsFun : Stmt := top 16
abbrev sWithin : Stmt := top 17
abbrev sLies : Stmt := top 18
abbrev sTaken : Stmt := top 20
abbrev sPick : Stmt := top 21
abbrev sAlike : Stmt := top 22
abbrev sWords : Stmt := top 23
abbrev sDesign : Stmt := top 24
abbrev sType : Stmt := top 25
abbrev sLHas : Stmt := top 26
abbrev sLWithin : Stmt := top 27
abbrev sWrong : Stmt := top 28
abbrev sLaw : Stmt := top 29
/-- the built-in names that the text asks are not shadowed -/
structure Bl (mg : Str → Option Value) : Prop where
  int : mg "int" = none
  len : mg "len" = none
  isi : mg "isinstance" = none
  str : mg "str" = none
  tup : mg "tuple" = none
  lst : mg "list" = none
  bool : mg "bool" = none
  all : mg "all" = none
  rng : mg "range" = none
  srt : mg "sorted" = none
  set : mg "set" = none
section
variable {P : Program} {w : World} {K : PySem.W.Frag} {mg : Str → Option Value} {base : Heap} {f g : Addr} {fd gd : FuncData}
/-! ### _law_taken -/
def spTaken (K : PySem.W.Frag) : Sp := fun vs H Q _ => ∃ (a sc : Addr) (ns : List Int) (many : Int), vs = [.ref a, .int many] ∧ 0 < many ∧ many ≤ 1000 ∧ Row K a sc ns H ∧
  ∀ (k : Int) (H' : Hp), 0 ≤ k → k < many → Keep a H H' → Row K a sc ns H' → Q (.int k) H'
theorem scTaken : FnScope ["_law_row", "_law_many", "_law_found", "_law_cell"] ["_law_row", "_law_many"] (defScope sTaken) := ⟨rfl, rfl, rfl, by decide +kernel, rfl, by decide +kernel, by decide +kernel⟩
theorem row_at {a sc : Addr} {p s r : Int} (j : Nat) {v : V} (h : ([.ref sc, .int p, .int s, .int r] : List V)[j]? = some v) : atI ([.ref sc, .int p, .int s, .int r] : List V) (j : Int) = some v := atI_nat h
theorem row_upd {a sc : Addr} {ns : List Int} {H : Hp} {p s r p' s' r' : Int} (hr : Row K a sc ns H) (ha : H a = some (.lst [.ref sc, .int p, .int s, .int r])) (h0 : 0 ≤ p') (h1 : 0 ≤ s') (h2 : s' < 2147483647) :
    Row K a sc ns (upd H a (.lst [.ref sc, .int p', .int s', .int r'])) :=
  ⟨⟨p', s', r', upd_same, h0, h1, h2⟩, scr_keep (Keep.n keep_upd) ha hr.scr, hr.few⟩
theorem ok_taken (F : Fun K "_law_taken" "_law_taken" sTaken f fd) (B : Bl mg) : FnOk P w K mg base CX0 1 f fd ["_law_row", "_law_many"] (spTaken K) := by
  refine F.ok scTaken (fun vs H Q E h => ?_) (fun cdv A outer s H vs Q E hr h => ?_)
  · obtain ⟨a, sc, ns, many, rfl, _⟩ := h
    rfl
  obtain ⟨a, sc, ns, many, rfl, m0, m1, R, q⟩ := h
  refine ⟨_, pss_cons (ps_if (pt_cmpR op_gt (pe_ix ix_list (pv 0) pe_int (fun _ _ => rfl)) pe_int (nomark _))
      (pss_cons (ps_set (i := 2) scTaken.nd rfl (Or.inl rfl) (pe_op op_mod (pe_callTy call_int1 rfl B.int (by decide +kernel) (pa_cons (pe_ix ix_list (pv 0) pe_int (fun _ _ => rfl)) pa_nil)) (pv 1)))
      (pss_cons (ps_asg (pe_op op_fdiv (pe_ix ix_list (pv 0) pe_int (fun _ _ => rfl)) (pv 1)) (pg_sub (pv 0) pe_int set_list))
      (pss_one (ps_ret (pv 2))))) pss_nil)
    (pss_cons (ps_asg (pe_op op_add (pe_ix ix_list (pv 0) pe_int (fun _ _ => rfl)) pe_int) (pg_sub (pv 0) pe_int set_list))
    (pss_cons (ps_if (pt_cmpR op_gt (pe_ix ix_list (pv 0) pe_int (fun _ _ => rfl)) (pe_callB call_len_seq rfl B.len PySem.boot_len (pa_cons (pe_ix ix_list (pv 0) pe_int (fun _ _ => rfl)) pa_nil)) (nomark _))
      (pss_cons (ps_asg (pe_op op_mod (pe_callTy call_int1 rfl B.int (by decide +kernel) (pa_cons (pe_op op_add (pe_op op_mul (pe_ix ix_list (pv 0) pe_int (fun _ _ => rfl)) pe_int) pe_int) pa_nil)) pe_int) (pg_sub (pv 0) pe_int set_list))
      (pss_one (ps_ret (pe_op op_mod (pe_callTy call_int1 rfl B.int (by decide +kernel) (pa_cons (pe_op op_fdiv (pe_ix ix_list (pv 0) pe_int (fun _ _ => rfl)) pe_int) pa_nil)) (pv 1))))) pss_nil)
    (pss_cons (ps_set (i := 3) scTaken.nd rfl (Or.inl rfl) (pe_ix ix_list (pe_ix ix_list (pv 0) pe_int (fun _ _ => rfl)) (pe_op op_sub (pe_ix ix_list (pv 0) pe_int (fun _ _ => rfl)) pe_int) (fun _ _ => rfl)))
    (pss_cons (ps_asg (pe_op op_mod (pe_callTy call_int1 rfl B.int (by decide +kernel) (pa_cons (pe_op op_add (pe_op op_add (pe_op op_mul (pe_ix ix_list (pv 0) pe_int (fun _ _ => rfl)) pe_int) (pv 3)) pe_int) pa_nil)) pe_int) (pg_sub (pv 0) pe_int set_list))
    (pss_cons (ps_if (pt_cmpR op_ge (pv 3) (pe_op op_pow pe_int pe_int) (nomark _))
      (pss_one (ps_asg (pe_op op_fdiv (pv 3) (pv 1)) (pg_sub (pv 0) pe_int set_list))) pss_nil)
    (pss_one (ps_ret (pe_op op_mod (pe_callTy call_int1 rfl B.int (by decide +kernel) (pa_cons (pv 3) pa_nil)) (pv 1))))))))), ?_⟩
  obtain ⟨pp, ss, rr, ha, p0, s0, s1⟩ := R.row
  have cd : ∀ i : Int, CDiv i many := fun i => ⟨m0, by omega⟩
  refine ⟨_, rfl, a, _, 3, _, rfl, rfl, SqL.of ha, row_at (a := a) 3 rfl, _, _, rfl, rfl, _, rfl, ?_⟩
  refine ite2 (fun c => ?_) (fun c => ?_)
  · refine ⟨_, rfl, a, _, 3, _, rfl, rfl, SqL.of ha, row_at (a := a) 3 rfl, .inl ⟨_, rfl, ?_⟩⟩
    refine ⟨_, rfl, _, _, rfl, rfl, m0, ?_⟩
    refine ⟨_, rfl, a, _, 3, _, rfl, rfl, SqL.of ha, row_at (a := a) 3 rfl, _, rfl, _, _, rfl, rfl, cd _, ?_⟩
    refine ⟨_, rfl, a, _, 3, 3, rfl, rfl, ha, rfl, ?_⟩
    refine ⟨_, rfl, q _ _ (Int.emod_nonneg _ (by omega)) (Int.emod_lt_of_pos _ m0) keep_upd (row_upd R ha p0 s0 s1)⟩
  · refine ⟨_, rfl, a, _, 1, _, rfl, rfl, SqL.of ha, row_at (a := a) 1 rfl, _, _, rfl, rfl, _, rfl, a, _, 1, 1, rfl, rfl, ha, rfl, ?_⟩
    have R1 := row_upd (r' := rr) R ha (show 0 ≤ pp + 1 by omega) s0 s1
    generalize hH : upd H a (.lst (([.ref sc, .int pp, .int ss, .int rr] : List V).set 1 (.int (pp + 1)))) = H1
    have ha1 : H1 a = some (.lst [.ref sc, .int (pp + 1), .int ss, .int rr]) := by rw [← hH]; exact upd_same
    have R1 : Row K a sc ns H1 := by rw [← hH]; exact R1
    have k1 : Keep a H H1 := by rw [← hH]; exact keep_upd
    refine ⟨_, rfl, a, _, 1, _, rfl, rfl, SqL.of ha1, row_at (a := a) 1 rfl, ?_⟩
    refine ⟨_, rfl, a, _, 0, _, rfl, rfl, SqL.of ha1, row_at (a := a) 0 rfl, sc, _, rfl, .inl R1.scr, _, _, rfl, rfl, _, rfl, ?_⟩
    refine ite2 (fun c2 => ?_) (fun c2 => ?_)
    · refine ⟨_, rfl, a, _, 2, _, rfl, rfl, SqL.of ha1, row_at (a := a) 2 rfl, _, _, rfl, rfl, .inl ⟨by omega, by omega⟩, _, _, rfl, rfl, .inl ⟨_, rfl, ?_⟩⟩
      refine ⟨_, _, rfl, rfl, (by show (0 : Int) < 2147483647; decide), ?_⟩
      refine ⟨_, rfl, a, _, 2, 2, rfl, rfl, ha1, rfl, ?_⟩
      have b0 : 0 ≤ (ss * 48271 + 11) % 2147483647 := Int.emod_nonneg _ (by decide)
      have b1 : (ss * 48271 + 11) % 2147483647 < 2147483647 := Int.emod_lt_of_pos _ (by decide)
      have R2 := row_upd (r' := rr) R1 ha1 (show 0 ≤ pp + 1 by omega) b0 b1
      refine ⟨_, rfl, a, _, 2, _, rfl, rfl, SqL.of upd_same, row_at (a := a) 2 rfl, _, _, rfl, rfl, ⟨by decide, by decide⟩, .inl ⟨_, rfl, ?_⟩⟩
      exact ⟨_, rfl, _, _, rfl, rfl, m0, q _ _ (Int.emod_nonneg _ (by omega)) (Int.emod_lt_of_pos _ m0) (k1.trans keep_upd) R2⟩
    · have c2' : ¬ pp + 1 > (((ns.map V.int).length : Nat) : Int) := of_decide_eq_false (Bool.eq_false_iff.mpr c2)
      rw [List.length_map] at c2'
      obtain ⟨j, hj⟩ : ∃ j : Nat, pp + 1 - 1 = (j : Int) := ⟨pp.toNat, by omega⟩
      have hjl : j < ns.length := by omega
      have hc : atI (ns.map V.int) (pp + 1 - 1) = some (.int ns[j]) := by
        rw [hj]
        exact atI_nat (by rw [List.getElem?_map, List.getElem?_eq_getElem hjl] <;> rfl)
      refine ⟨_, rfl, a, _, 0, _, rfl, rfl, SqL.of ha1, row_at (a := a) 0 rfl, _, rfl, a, _, 1, _, rfl, rfl, SqL.of ha1, row_at (a := a) 1 rfl, _, _, rfl, rfl, sc, _, _, _, rfl, rfl, R1.scr, hc, ?_⟩
      refine ⟨_, rfl, a, _, 2, _, rfl, rfl, SqL.of ha1, row_at (a := a) 2 rfl, _, _, rfl, rfl, .inl ⟨by omega, by omega⟩, _, rfl, _, _, rfl, rfl, _, _, rfl, rfl, .inl ⟨_, rfl, ?_⟩⟩
      refine ⟨_, _, rfl, rfl, (by show (0 : Int) < 2147483647; decide), ?_⟩
      refine ⟨_, rfl, a, _, 2, 2, rfl, rfl, ha1, rfl, ?_⟩
      have b0 : 0 ≤ (ss * 48271 + ns[j] + 11) % 2147483647 := Int.emod_nonneg _ (by decide)
      have b1 : (ss * 48271 + ns[j] + 11) % 2147483647 < 2147483647 := Int.emod_lt_of_pos _ (by decide)
      have R2 := row_upd (r' := rr) R1 ha1 (show 0 ≤ pp + 1 by omega) b0 b1
      refine ⟨_, rfl, _, _, rfl, rfl, ⟨by decide, by decide, by decide⟩, _, _, rfl, rfl, _, rfl, ?_⟩
      refine ite2 (fun c3 => ?_) (fun c3 => ?_)
      · refine ⟨_, rfl, _, rfl, _, _, rfl, rfl, cd _, ?_⟩
        refine ⟨_, rfl, a, _, 3, 3, rfl, rfl, upd_same, rfl, ?_⟩
        refine ⟨_, rfl, .inl ⟨_, rfl, ?_⟩⟩
        refine ⟨_, rfl, _, _, rfl, rfl, m0, q _ _ (Int.emod_nonneg _ (by omega)) (Int.emod_lt_of_pos _ m0) (k1.trans (keep_upd.trans keep_upd)) (row_upd R2 upd_same (by omega) b0 b1)⟩
      · refine ⟨_, rfl, .inl ⟨_, rfl, ?_⟩⟩
        exact ⟨_, rfl, _, _, rfl, rfl, m0, q _ _ (Int.emod_nonneg _ (by omega)) (Int.emod_lt_of_pos _ m0) (k1.trans keep_upd) R2⟩
end
end K04

set_option Elab.async false
set_option linter.all false
set_option maxRecDepth 100000
set_option maxHeartbeats 4000000
namespace K04
open PySem L2
/-- a def as its callers see it -/
structure Df (K : PySem.W.Frag) (mg : Str → Option Value) (x : Str) (f : Addr) (fd : FuncData) (ps : List Str) : Prop where
  b : Binds K fd ps []
  k : PySem.W.keepIn K (.ref f) = true
  m : mg x = some (.ref f)
/-- an object that came later is laid anew -/
theorem Keep.put {a d : Addr} {H H2 H4 : Hp} {o : HO} (k2 : Keep a H H2) (hd : H2 d = none) (k4 : Keep a H H4) : Keep a H (upd H4 d o) := fun b u nb hb => by
  rw [upd_ne (ne_of_none (k2 b u nb hb) hd)]
  exact k4 b u nb hb
theorem scr_put {K : PySem.W.Frag} {sc d : Addr} {xs : List V} {H2 H4 : Hp} {o : HO} (h2 : SqL K H2 sc xs) (hd : H2 d = none) (h4 : SqL K H4 sc xs) : SqL K (upd H4 d o) sc xs := by
  rcases h2 with h2 | h2
  · have ne : sc ≠ d := by
      rcases h2 with h2 | ⟨u, h2⟩
      · exact ne_of_none h2 hd
      · exact ne_of_none h2 hd
    rcases h4 with (h4 | ⟨u, h4⟩) | h4
    · exact .inl (.inl (by rw [upd_ne ne]; exact h4))
    · exact .inl (.inr ⟨u, by rw [upd_ne ne]; exact h4⟩)
    · exact .inr h4
  · exact .inr h2
theorem Row.put {K : PySem.W.Frag} {a sc d : Addr} {ns : List Int} {H2 H4 : Hp} {o : HO} (R2 : Row K a sc ns H2) (hd : H2 d = none) (R4 : Row K a sc ns H4) : Row K a sc ns (upd H4 d o) :=
  ⟨let ⟨u1, u2, u3, u4, u5⟩ := R4.row; ⟨u1, u2, u3, by rw [upd_ne (Ne.symm (R2.ne hd))]; exact u4, u5⟩, scr_put R2.scr hd R4.scr, R4.few⟩
/-- the words of designs -/
def WD : List Str := ["against", "along", "along checked", "args", "args checked", "blank", "calls", "cast", "cast checked", "keep", "none", "none checked", "put", "share"]
section
variable {P : Program} {w : World} {K : PySem.W.Frag} {mg : Str → Option Value} {base : Heap} {f fT fP fW : Addr} {fd fdT fdP fdW : FuncData}
/-! ### _law_pick -/
def spPick (K : PySem.W.Frag) : Sp := fun vs H Q _ => ∃ (a sc l : Addr) (ns : List Int) (xs : List V), vs = [.ref a, .ref l] ∧ H l = some (.lst xs) ∧ l ≠ a ∧ 0 < xs.length ∧ xs.length ≤ 1000 ∧ Row K a sc ns H ∧
  ∀ (v : V) (H' : Hp), v ∈ xs → Keep a H H' → Row K a sc ns H' → Q v H'
theorem scPick : FnScope ["_law_row", "_law_kinds"] ["_law_row", "_law_kinds"] (defScope sPick) := ⟨rfl, rfl, rfl, by decide +kernel, rfl, by decide +kernel, by decide +kernel⟩
theorem at_int {xs : List V} {k : Int} (h0 : 0 ≤ k) (h1 : k < (xs.length : Int)) : ∃ v, v ∈ xs ∧ atI xs k = some v := by
  obtain ⟨j, rfl⟩ : ∃ j : Nat, k = (j : Int) := ⟨k.toNat, by omega⟩
  have hj : j < xs.length := by omega
  exact ⟨xs[j], List.getElem_mem hj, atI_nat (List.getElem?_eq_getElem hj)⟩
theorem ok_pick (F : Fun K "_law_pick" "_law_pick" sPick f fd) (B : Bl mg) (G : FnOk P w K mg base CX0 1 fT fdT ["_law_row", "_law_many"] (spTaken K)) (D : Df K mg "_law_taken" fT fdT ["_law_row", "_law_many"]) :
    FnOk P w K mg base CX0 2 f fd ["_law_row", "_law_kinds"] (spPick K) := by
  refine F.ok scPick (fun vs H Q E h => ?_) (fun cdv A outer s H vs Q E hr h => ?_)
  · obtain ⟨a, sc, l, ns, xs, rfl, _⟩ := h
    rfl
  obtain ⟨a, sc, l, ns, xs, rfl, hl, ne, z0, z1, R, q⟩ := h
  refine ⟨_, pss_one (ps_ret (pe_ix ix_list (pv 1) (pe_call G hr rfl D.m D.k D.b .nil pass0 (pa_cons (pv 0) (pa_cons (pe_callB call_len_seq rfl B.len PySem.boot_len (pa_cons (pv 1) pa_nil)) pa_nil))) (fun _ _ => rfl))), ?_⟩
  refine ⟨_, rfl, _, rfl, _, rfl, l, xs, rfl, .inl (SqL.of hl), a, sc, ns, _, rfl, by omega, by omega, R, fun k H' k0 k1 kk R' => ?_⟩
  obtain ⟨v, hv, ha⟩ := at_int k0 k1
  exact ⟨l, xs, k, v, rfl, rfl, SqL.of (kk l _ ne hl), ha, q v H' hv kk R'⟩
/-! ### _law_words -/
def spWords : Sp := fun vs H Q _ => vs = [] ∧ ∀ (p : Addr) (H' : Hp), Same H H' → H p = none → H' p = some (.lst (WD.map V.str)) → Q (.ref p) H'
theorem scWords : FnScope ["_law_some"] [] (defScope sWords) := ⟨rfl, rfl, rfl, by decide +kernel, rfl, by decide +kernel, by decide +kernel⟩
theorem ok_words (F : Fun K "_law_words" "_law_words" sWords f fd) : FnOk P w K mg base CX0 1 f fd [] spWords := by
  refine F.ok scWords (fun vs H Q E h => ?_) (fun cdv A outer s H vs Q E hr h => ?_)
  · obtain ⟨rfl, _⟩ := h
    rfl
  obtain ⟨rfl, q⟩ := h
  refine ⟨_, pss_cons (ps_set (i := 0) scWords.nd rfl (Or.inl rfl) (pe_lst (pa_cons pe_str (pa_cons pe_str (pa_cons pe_str (pa_cons pe_str (pa_cons pe_str (pa_cons pe_str (pa_cons pe_str (pa_cons pe_str (pa_cons pe_str (pa_cons pe_str pa_nil))))))))))))
    (pss_one (ps_ret (pe_op op_cat (pv 0) (pe_lst (pa_cons pe_str (pa_cons pe_str (pa_cons pe_str (pa_cons pe_str pa_nil)))))))), ?_⟩
  refine ⟨(by show 10 ≤ sizeLine; decide), fun p hp => ?_⟩
  refine ⟨_, rfl, (by show 4 ≤ sizeLine; decide), fun p2 hp2 => ?_⟩
  have e1 := same_new hp (.lst [.str "against", .str "along", .str "along checked", .str "args", .str "args checked", .str "blank", .str "calls", .str "cast", .str "cast checked", .str "keep"])
  have e2 := same_new hp2 (.lst [.str "none", .str "none checked", .str "put", .str "share"])
  refine ⟨p, p2, _, _, rfl, rfl, e2 _ _ upd_same, upd_same, (by show 10 + 4 ≤ sizeLine; decide), fun p3 hp3 => ?_⟩
  refine q p3 _ (e1.trans (e2.trans (same_new hp3 _))) ((e1.trans e2).free hp3) upd_same
/-! ### _law_design -/
def spDraw (K : PySem.W.Frag) : Sp := fun vs H Q _ => ∃ (a sc : Addr) (ns : List Int), vs = [.ref a] ∧ Row K a sc ns H ∧
  ∀ (p : Addr) (ss : List Str) (H' : Hp), Keep a H H' → Row K a sc ns H' → H' p = some (.tup (ss.map V.str)) → ss.Sublist WD → Q (.ref p) H'
theorem scDraw : FnScope ["_law_row", "_law_odds", "_law_word"] ["_law_row"] (defScope sDesign) := ⟨rfl, rfl, rfl, by decide +kernel, rfl, by decide +kernel, by decide +kernel⟩
theorem sub_more {l s : List Str} {i : Nat} {x : Str} (h : s.Sublist (l.take i)) (e : l[i]? = some x) : (s ++ [x]).Sublist (l.take (i + 1)) := by
  rw [List.take_add_one, e]
  exact List.Sublist.append h (List.Sublist.refl _)
theorem sub_less {l s : List Str} {i : Nat} (h : s.Sublist (l.take i)) : s.Sublist (l.take (i + 1)) := by
  rw [List.take_add_one]
  exact h.trans (List.sublist_append_left _ _)
theorem str_at {l : List Str} {i : Nat} {x : V} (h : (l.map V.str)[i]? = some x) : ∃ s, l[i]? = some s ∧ x = .str s := by
  rw [List.getElem?_map] at h
  cases e : l[i]? with
  | none => rw [e] at h; cases h
  | some s => rw [e] at h; exact ⟨s, rfl, (Option.some.inj h).symm⟩
theorem ok_draw (F : Fun K "_law_design" "_law_design" sDesign f fd) (B : Bl mg) (G : FnOk P w K mg base CX0 1 fT fdT ["_law_row", "_law_many"] (spTaken K)) (D : Df K mg "_law_taken" fT fdT ["_law_row", "_law_many"])
    (GP : FnOk P w K mg base CX0 2 fP fdP ["_law_row", "_law_kinds"] (spPick K)) (DP : Df K mg "_law_pick" fP fdP ["_law_row", "_law_kinds"]) (GW : FnOk P w K mg base CX0 1 fW fdW [] spWords) (DW : Df K mg "_law_words" fW fdW []) :
    FnOk P w K mg base CX0 3 f fd ["_law_row"] (spDraw K) := by
  refine F.ok scDraw (fun vs H Q E h => ?_) (fun cdv A outer s H vs Q E hr h => ?_)
  · obtain ⟨a, sc, ns, rfl, _⟩ := h
    rfl
  obtain ⟨a, sc, ns, rfl, R, q⟩ := h
  have hr1 : Room 1 _ := hr.mono (by decide)
  refine ⟨_, pss_cons (ps_set (i := 1) scDraw.nd rfl (Or.inr rfl) (pe_call GP hr rfl DP.m DP.k DP.b .nil pass0 (pa_cons (pv 0) (pa_cons (pe_lst (pa_cons pe_int (pa_cons pe_int (pa_cons pe_int pa_nil)))) pa_nil))))
    (pss_one (ps_ret (pe_callTy call_tuple_of rfl B.tup (by decide +kernel) (pa_cons
      (pe_lc (own := [("_law_word", 2)]) (g := gName 2) rfl scDraw.nd (pi_list (pe_call0 GW hr1 rfl DW.m DW.k DW.b .nil pass0)) (blkOk_by (own := [("_law_word", 2)]) (N := ["_law_row", "_law_odds", "_law_word"]) (sc := defScope sDesign) (by decide +kernel))
        (fun _ _ _ _ _ => pg_name (i := 2) scDraw.nd rfl (Or.inl rfl))
        (fun _ _ _ _ _ => pts_one (pt_cmpR op_eq (pe_call G hr1 rfl D.m D.k D.b .nil pass0 (pa_cons (pv 0) (pa_cons (pv 1) pa_nil))) pe_int (nomark _)))
        (fun _ _ _ _ _ => pv 2)) pa_nil)))), ?_⟩
  refine ⟨_, rfl, (by show 3 ≤ sizeLine; decide), fun l hl => ?_⟩
  refine ⟨a, sc, l, ns, _, rfl, upd_same, R.ne hl, (by show 0 < 3; decide), (by show 3 ≤ 1000; decide), R.same (same_new hl _), fun v H1 hv k1 R1 => ?_⟩
  obtain ⟨o, ho, o0, o1⟩ : ∃ o : Int, v = .int o ∧ 0 < o ∧ o ≤ 1000 := by
    simp only [List.mem_cons, List.not_mem_nil, or_false] at hv
    rcases hv with rfl | rfl | rfl
    · exact ⟨2, rfl, by decide, by decide⟩
    · exact ⟨2, rfl, by decide, by decide⟩
    · exact ⟨3, rfl, by decide, by decide⟩
  subst ho
  have k1 : Keep a H H1 := (Keep.of (same_new hl _)).trans k1
  refine ⟨rfl, fun p H2 e2 np hp => ?_⟩
  have R2 := R1.same e2
  have k2 : Keep a H H2 := k1.trans (.of e2)
  have npa : p ≠ a := R1.ne np
  refine ⟨p, rfl, ⟨_, SqL.of hp⟩, fun d hd => ?_⟩
  have nda : d ≠ a := R2.ne hd
  have ndp : p ≠ d := ne_of_none hp hd
  refine lc_list (K := K) (a := p) (xs := WD.map V.str) (fun i H' => ∃ ss, H' d = some (.lst (ss.map V.str)) ∧ ss.Sublist (WD.take i) ∧ Row K a sc ns H' ∧ H' p = some (.lst (WD.map V.str)) ∧ Keep a H H')
    ⟨[], upd_same, List.nil_sublist _, R2.same (same_new hd _), by rw [upd_ne ndp]; exact hp, k2.trans (.of (same_new hd _))⟩ (fun i H' _ ⟨ss, _, _, _, x, _⟩ => SqL.of x) ?_ ?_
  · rintro i x H3 hx ⟨ss, x1, x2, x3, x4, x5⟩
    obtain ⟨sx, hsx, rfl⟩ := str_at hx
    refine ⟨rfl, ?_⟩
    refine ⟨_, rfl, _, rfl, a, sc, ns, o, rfl, o0, o1, x3, fun k H4 h0 h1 k4 R4 => ?_⟩
    refine ⟨rfl, _, rfl, ?_⟩
    have y1 : H4 d = some (.lst (ss.map V.str)) := k4 d _ nda x1
    have y4 : H4 p = some (.lst (WD.map V.str)) := k4 p _ npa x4
    refine ite2 (fun c => ?_) (fun c => ?_)
    · refine ⟨_, rfl, _, y1, ?_, ss ++ [sx], ?_, sub_more x2 hsx, R2.put hd R4, by rw [upd_ne ndp]; exact y4, k2.put hd (x5.trans k4)⟩
      · rw [List.length_map]
        have z := x2.length_le
        rw [List.length_take] at z
        have z2 : WD.length = 14 := rfl
        exact small1000 (by omega)
      · rw [upd_same, List.map_append] <;> rfl
    · exact ⟨ss, y1, sub_less x2, R4, y4, x5.trans k4⟩
  · rintro H3 ⟨ss, x1, x2, x3, x4, x5⟩
    have ex : (WD.map V.str).length = WD.length := List.length_map _
    rw [ex, List.take_length] at x2
    exact ⟨d, _, rfl, .inl ⟨SqL.of x1, fun t ht => q t ss _ (x5.trans (.of (same_new ht _))) (x3.same (same_new ht _)) upd_same x2⟩⟩
end
end K04

set_option Elab.async false
set_option linter.all false
set_option maxRecDepth 100000
set_option maxHeartbeats 4000000
namespace K04
open PySem L2
/-! ### types as trees -/
inductive Ty where
  | num | small | big
  | cell (t : Ty)
  | fn (a r : Ty)
  deriving DecidableEq
def Ty.d : Ty → PyData
  | .num => .str "num"
  | .small => .str "small"
  | .big => .str "big"
  | .cell t => .tuple [.str "cell", t.d]
  | .fn a r => .tuple [.str "fun", a.d, r.d]
def Ty.dep : Ty → Nat
  | .num => 0
  | .small => 0
  | .big => 0
  | .cell t => t.dep + 1
  | .fn a r => max a.dep r.dep + 1
theorem dp_cell {K : PySem.W.Frag} {H : Hp} {v : V} {t : Ty} (h : Dp K H v (Ty.cell t).d) : ∃ p w, v = .ref p ∧ SqT K H p [.str "cell", w] ∧ Dp K H w t.d := by
  have h : Dp K H v (.tuple [.str "cell", t.d]) := h
  cases h with
  | tup hs ha =>
    cases ha with
    | cons h1 h2 =>
      cases h1
      cases h2 with
      | cons h3 h4 =>
        cases h4
        exact ⟨_, _, rfl, hs, h3⟩
theorem dp_fn {K : PySem.W.Frag} {H : Hp} {v : V} {a r : Ty} (h : Dp K H v (Ty.fn a r).d) : ∃ p x y, v = .ref p ∧ SqT K H p [.str "fun", x, y] ∧ Dp K H x a.d ∧ Dp K H y r.d := by
  have h : Dp K H v (.tuple [.str "fun", a.d, r.d]) := h
  cases h with
  | tup hs ha =>
    cases ha with
    | cons h1 h2 =>
      cases h1
      cases h2 with
      | cons h3 h4 =>
        cases h4 with
        | cons h5 h6 =>
          cases h6
          exact ⟨_, _, _, rfl, hs, h3, h5⟩
theorem dp_str {K : PySem.W.Frag} {H : Hp} {v : V} {x : Str} (h : Dp K H v (.str x)) : v = .str x := by
  cases h
  rfl
theorem dp_mkCell {K : PySem.W.Frag} {H : Hp} {p : Addr} {w : V} {t : Ty} (h : SqT K H p [.str "cell", w]) (h1 : Dp K H w t.d) : Dp K H (.ref p) (Ty.cell t).d := .tup h (.cons (.str _) (.cons h1 .nil))
theorem dp_mkFn {K : PySem.W.Frag} {H : Hp} {p : Addr} {x y : V} {a r : Ty} (h : SqT K H p [.str "fun", x, y]) (h1 : Dp K H x a.d) (h2 : Dp K H y r.d) : Dp K H (.ref p) (Ty.fn a r).d := .tup h (.cons (.str _) (.cons h1 (.cons h2 .nil)))
theorem ty_keep {K : PySem.W.Frag} {a : Addr} {H H' : Hp} {r : List V} (x : KeepN a H H') (ha : H a = some (.lst r)) : ∀ {t : Ty} {v : V}, Dp K H v t.d → Dp K H' v t.d
  | .num, _, h => by rw [dp_str h]; exact .str _
  | .small, _, h => by rw [dp_str h]; exact .str _
  | .big, _, h => by rw [dp_str h]; exact .str _
  | .cell t, _, h => by
    obtain ⟨p, w, rfl, hs, h1⟩ := dp_cell h
    exact dp_mkCell (x.sqT ha hs) (ty_keep x ha h1)
  | .fn a r, _, h => by
    obtain ⟨p, u, w, rfl, hs, h1, h2⟩ := dp_fn h
    exact dp_mkFn (x.sqT ha hs) (ty_keep x ha h1) (ty_keep x ha h2)
theorem ty_plain {K : PySem.W.Frag} {H : Hp} {v : V} (h : v ∈ ([.str "num", .str "small", .str "small", .str "big", .str "big"] : List V)) : ∃ t : Ty, t.dep = 0 ∧ Dp K H v t.d := by
  simp only [List.mem_cons, List.not_mem_nil, or_false] at h
  rcases h with rfl | rfl | rfl | rfl | rfl
  · exact ⟨.num, rfl, .str _⟩
  · exact ⟨.small, rfl, .str _⟩
  · exact ⟨.small, rfl, .str _⟩
  · exact ⟨.big, rfl, .str _⟩
  · exact ⟨.big, rfl, .str _⟩
section
variable {P : Program} {w : World} {K : PySem.W.Frag} {mg : Str → Option Value} {base : Heap} {f fT : Addr} {fd fdT : FuncData}
/-! ### _law_type -/
def spType (K : PySem.W.Frag) (n : Nat) : Sp := fun vs H Q _ => ∃ (a sc : Addr) (ns : List Int) (m : Nat), vs = [.ref a, .int (m : Int)] ∧ m < n ∧ Row K a sc ns H ∧
  ∀ (v : V) (t : Ty) (H' : Hp), t.dep ≤ m → Keep a H H' → Row K a sc ns H' → Dp K H' v t.d → Q v H'
theorem scType : FnScope ["_law_row", "_law_deep", "_law_kind"] ["_law_row", "_law_deep"] (defScope sType) := ⟨rfl, rfl, rfl, by decide +kernel, rfl, by decide +kernel, by decide +kernel⟩
theorem Row.new {a sc p : Addr} {ns : List Int} {H : Hp} (x : Row K a sc ns H) (h : H p = none) (o : HO) : Row K a sc ns (upd H p o) := x.same (same_new h o)
theorem ok_type_step {n : Nat} (F : Fun K "_law_type" "_law_type" sType f fd) (G : FnOk P w K mg base CX0 1 fT fdT ["_law_row", "_law_many"] (spTaken K)) (D : Df K mg "_law_taken" fT fdT ["_law_row", "_law_many"])
    (GS : FnOk P w K mg base CX0 (n + 1) f fd ["_law_row", "_law_deep"] (spType K n)) (DS : Df K mg "_law_type" f fd ["_law_row", "_law_deep"]) : FnOk P w K mg base CX0 (n + 1 + 1) f fd ["_law_row", "_law_deep"] (spType K (n + 1)) := by
  refine F.ok scType (fun vs H Q E h => ?_) (fun cdv A outer s H vs Q E hr h => ?_)
  · obtain ⟨a, sc, ns, m, rfl, _⟩ := h
    rfl
  obtain ⟨a, sc, ns, m, rfl, hm, R, q⟩ := h
  have hr1 : Room 1 _ := hr.mono (by omega)
  refine ⟨_, pss_cons (ps_set (i := 2) scType.nd rfl (Or.inl rfl) (pe_ifExp (pt_cmpR op_gt (pv 1) pe_int (nomark _)) (pe_call G hr1 rfl D.m D.k D.b .nil pass0 (pa_cons (pv 0) (pa_cons pe_int pa_nil))) (pe_call G hr1 rfl D.m D.k D.b .nil pass0 (pa_cons (pv 0) (pa_cons pe_int pa_nil)))))
    (pss_cons (ps_if (pt_cmpR op_lt (pv 2) pe_int (nomark _)) (pss_one (ps_ret (pe_ix ix_list (pe_lst (pa_cons pe_str (pa_cons pe_str (pa_cons pe_str (pa_cons pe_str (pa_cons pe_str pa_nil)))))) (pv 2) (fun _ _ => rfl)))) pss_nil)
    (pss_cons (ps_if (pt_cmpR op_lt (pv 2) pe_int (nomark _)) (pss_one (ps_ret (pe_tup (pa_cons pe_str (pa_cons (pe_call GS hr rfl DS.m DS.k DS.b .nil pass0 (pa_cons (pv 0) (pa_cons (pe_op op_sub (pv 1) pe_int) pa_nil))) pa_nil))))) pss_nil)
    (pss_one (ps_ret (pe_tup (pa_cons pe_str (pa_cons (pe_call GS hr rfl DS.m DS.k DS.b .nil pass0 (pa_cons (pv 0) (pa_cons (pe_op op_sub (pv 1) pe_int) pa_nil)))
      (pa_cons (pe_call GS hr rfl DS.m DS.k DS.b .nil pass0 (pa_cons (pv 0) (pa_cons pe_int pa_nil))) pa_nil)))))))), ?_⟩
  -- behind the draw
  have go : ∀ (k : Int) (H1 : Hp), 0 ≤ k → (m = 0 → k < 5) → Keep a H H1 → Row K a sc ns H1 →
      (tIfS (tTest (tOp (rI0 fun i j => .bl (decide (i < j))) (tVar 2) (tC (.int 5)))) (tRet (tOp (rIxL K) (tLst (tCons (tC (.str "num")) (tCons (tC (.str "small")) (tCons (tC (.str "small")) (tCons (tC (.str "big")) (tCons (tC (.str "big")) tNil)))))) (tVar 2))) tNext)
        { nx := fun σ H' => (tIfS (tTest (tOp (rI0 fun i j => .bl (decide (i < j))) (tVar 2) (tC (.int 8)))) (tRet (tTup (tCons (tC (.str "cell")) (tCons (tCall (spType K n) [] E0 (tCons (tVar 0) (tCons (tOp (rI0 fun i j => .int (i - j)) (tVar 1) (tC (.int 1))) tNil))) tNil)))) tNext)
            { nx := fun σ H' => (tRet (tTup (tCons (tC (.str "fun")) (tCons (tCall (spType K n) [] E0 (tCons (tVar 0) (tCons (tOp (rI0 fun i j => .int (i - j)) (tVar 1) (tC (.int 1))) tNil)))
                (tCons (tCall (spType K n) [] E0 (tCons (tVar 0) (tCons (tC (.int 0)) tNil))) tNil))))) { nx := fun _ H' => Q .non H', rt := Q } σ H', rt := Q } σ H', rt := Q } [some (.ref a), some (.int (m : Int)), some (.int k)] H1 := by
    intro k H1 h0 h5 k1 R1
    refine ⟨_, rfl, _, _, rfl, rfl, _, rfl, ite2 (fun c => ?_) (fun c => ?_)⟩
    · have c' : k < 5 := of_decide_eq_true c
      refine ⟨(by show 5 ≤ sizeLine; decide), fun l hl => ?_⟩
      obtain ⟨v, hv, ha⟩ := at_int (xs := ([.str "num", .str "small", .str "small", .str "big", .str "big"] : List V)) h0 c'
      obtain ⟨t, ht, hd⟩ := ty_plain (K := K) (H := upd H1 l (.lst [.str "num", .str "small", .str "small", .str "big", .str "big"])) hv
      exact ⟨_, rfl, l, _, k, v, rfl, rfl, SqL.of upd_same, ha, q v t _ (by omega) (k1.trans (.of (same_new hl _))) (R1.new hl _) hd⟩
    · have c' : ¬ k < 5 := of_decide_eq_false (Bool.eq_false_iff.mpr c)
      have hm0 : m ≠ 0 := fun e => c' (h5 e)
      have em : ([V.ref a, V.int ((m : Int) - 1)] : List V) = [.ref a, .int ((m - 1 : Nat) : Int)] := by rw [show (m : Int) - 1 = ((m - 1 : Nat) : Int) from by omega]
      refine ⟨_, rfl, _, _, rfl, rfl, _, rfl, ite2 (fun c2 => ?_) (fun c2 => ?_)⟩
      · refine ⟨_, rfl, _, rfl, _, _, rfl, rfl, ?_⟩
        refine ⟨a, sc, ns, m - 1, em, by omega, R1, fun v t H2 ht k2 R2 hd => ?_⟩
        refine ⟨(by show 2 ≤ sizeLine; decide), fun p hp => ?_⟩
        refine q (.ref p) (.cell t) _ (by show t.dep + 1 ≤ m; omega) (k1.trans (k2.trans (.of (same_new hp _)))) (R2.new hp _) (dp_mkCell (SqT.of upd_same) (Same.dp (same_new hp _) hd))
      · refine ⟨_, rfl, _, rfl, _, _, rfl, rfl, ?_⟩
        refine ⟨a, sc, ns, m - 1, em, by omega, R1, fun v t H2 ht k2 R2 hd => ?_⟩
        refine ⟨_, rfl, ?_⟩
        refine ⟨a, sc, ns, 0, rfl, by omega, R2, fun v' t' H3 ht' k3 R3 hd' => ?_⟩
        refine ⟨(by show 3 ≤ sizeLine; decide), fun p hp => ?_⟩
        obtain ⟨xs, hxs⟩ := R2.lst
        refine q (.ref p) (.fn t t') _ (by show max t.dep t'.dep + 1 ≤ m; omega) (k1.trans (k2.trans (k3.trans (.of (same_new hp _))))) (R3.new hp _) (dp_mkFn (SqT.of upd_same) (Same.dp (same_new hp _) (ty_keep k3.n hxs hd)) (Same.dp (same_new hp _) hd'))
  refine ⟨_, rfl, _, _, rfl, rfl, _, rfl, ite2 (fun c => ?_) (fun c => ?_)⟩
  · have c' : (m : Int) > 0 := of_decide_eq_true c
    exact ⟨_, rfl, a, sc, ns, 9, rfl, by decide, by decide, R, fun k H1 h0 h1 k1 R1 => go k H1 h0 (fun e => by omega) k1 R1⟩
  · exact ⟨_, rfl, a, sc, ns, 5, rfl, by decide, by decide, R, fun k H1 h0 h1 k1 R1 => go k H1 h0 (fun _ => h1) k1 R1⟩
theorem type_none {k : Nat} : FnOk P w K mg base CX0 k f fd ["_law_row", "_law_deep"] (spType K 0) := by
  have no : ∀ vs H Q E, ¬ spType K 0 vs H Q E := fun vs H Q E h => by
    obtain ⟨a, sc, ns, m, _, h, _⟩ := h
    omega
  exact ⟨fun vs H Q E h => absurd h (no vs H Q E), fun A outer s H args us vs Q E _ _ _ _ h => absurd h (no vs H Q E)⟩
theorem ok_type (F : Fun K "_law_type" "_law_type" sType f fd) (G : FnOk P w K mg base CX0 1 fT fdT ["_law_row", "_law_many"] (spTaken K)) (D : Df K mg "_law_taken" fT fdT ["_law_row", "_law_many"]) (DS : Df K mg "_law_type" f fd ["_law_row", "_law_deep"]) :
    ∀ n : Nat, FnOk P w K mg base CX0 (n + 1) f fd ["_law_row", "_law_deep"] (spType K n)
  | 0 => type_none
  | n + 1 => ok_type_step F G D (ok_type F G D DS n) DS
end
end K04

set_option Elab.async false
set_option linter.all false
set_option maxRecDepth 100000
set_option maxHeartbeats 4000000
namespace K04
open PySem L2
/-! ### data that == can compare -/
abbrev Shp (d : PyData) : Prop := SeqAt.shaped d = true
theorem shp_all : ∀ {ds : List PyData}, PyData.canLayAll0 ds = true → PyData.depthAll ds ≤ 63 → ∀ d ∈ ds, Shp d
  | [], _, _, _, h => by cases h
  | x :: r, h1, h2, d, hd => by
    have e1 : (PyData.canLay0 x && PyData.canLayAll0 r) = true := by
      have h1' := h1
      unfold PyData.canLayAll0 at h1'
      exact h1'
    have e2 : max (PyData.depth x) (PyData.depthAll r) ≤ 63 := by
      have h2' := h2
      unfold PyData.depthAll at h2'
      exact h2'
    obtain ⟨c1, c2⟩ := Bool.and_eq_true_iff.mp e1
    rcases List.mem_cons.mp hd with rfl | hd
    · show (PyData.canLay0 d && decide (PyData.depth d ≤ 64)) = true
      rw [c1, decide_eq_true (show PyData.depth d ≤ 64 by omega)] <;> rfl
    · exact shp_all c2 (by omega) d hd
theorem shp_tup {ds : List PyData} (h : Shp (.tuple ds)) : ∀ d ∈ ds, Shp d := by
  obtain ⟨h1, h2⟩ := Bool.and_eq_true_iff.mp (show (PyData.canLay0 (.tuple ds) && decide (PyData.depth (.tuple ds) ≤ 64)) = true from h)
  have h2 := of_decide_eq_true h2
  unfold PyData.canLay0 at h1
  unfold PyData.depth at h2
  exact shp_all h1 (by omega)
/-- the Python type's name -/
def tyName : PyData → String
  | .none => "NoneType"
  | .bool _ => "bool"
  | .int _ => "int"
  | .str _ => "str"
  | .list _ => "list"
  | .tuple _ => "tuple"
  | .dict _ => "dict"
theorem tyx_of {K : PySem.W.Frag} {H : Hp} {v : V} {d : PyData} (h : Dp K H v d) : TyX K H v (.type (tyName d)) := by
  cases h with
  | non => exact .base .non
  | bl b => exact .base (.bl b)
  | int i => exact .base (.int i)
  | str x => exact .base (.str x)
  | lst h _ =>
    rcases h with (h | ⟨o, h⟩) | ⟨o, its, n, h1, h2, _⟩
    · exact .base (.lst h)
    · exact .base (.frz h)
    · exact .kList h1 h2
  | tup h _ =>
    rcases h with (h | ⟨o, h⟩) | ⟨o, its, n, h1, h2, _⟩
    · exact .base (.tup h)
    · exact .fTuple h
    · exact .kTuple h1 h2
/-- a tuple of the written part -/
def KTup (K : PySem.W.Frag) (a : Addr) (xs : List V) : Prop := ∃ (o : Obj) (its : Array Value) (n : Nat), K.lookup a = some o ∧ o.cls = .type "tuple" ∧ o.data = .seq its n ∧ its.size ≤ sizeLine ∧ Vals xs its.toList
theorem KTup.sq {K : PySem.W.Frag} {a : Addr} {xs : List V} {H : Hp} (h : KTup K a xs) : SqT K H a xs := .inr h
def PL : List V := [.str "num", .str "small", .str "big"]
/-! ### is_deep -/
def isDeepD : Nat → PyData → Bool
  | _, .str s => inV (.str s) PL
  | n + 1, .tuple (h :: r) =>
    if PyData.eqv h (.str "cell") = true then (match r with
      | [x] => isDeepD n x
      | _ => false)
    else if PyData.eqv h (.str "fun") = true then (match r with
      | [x, y] => isDeepD n x && isDeepD n y
      | _ => false)
    else false
  | _, _ => false
theorem deep_cell1 {m : Nat} {h x : PyData} (k : PyData.eqv h (.str "cell") = true) : isDeepD (m + 1) (.tuple [h, x]) = isDeepD m x := if_pos k
theorem deep_cellN {m : Nat} {h : PyData} {r : List PyData} (k : PyData.eqv h (.str "cell") = true) (n : r.length ≠ 1) : isDeepD (m + 1) (.tuple (h :: r)) = false := by
  match r, n with
  | [], _ => exact if_pos k
  | [x], n => exact absurd rfl n
  | _ :: _ :: _, _ => exact if_pos k
theorem deep_fun2 {m : Nat} {h x y : PyData} (k : ¬ PyData.eqv h (.str "cell") = true) (k2 : PyData.eqv h (.str "fun") = true) : isDeepD (m + 1) (.tuple [h, x, y]) = (isDeepD m x && isDeepD m y) := (if_neg k).trans (if_pos k2)
theorem deep_funN {m : Nat} {h : PyData} {r : List PyData} (k : ¬ PyData.eqv h (.str "cell") = true) (n : ¬ (PyData.eqv h (.str "fun") = true ∧ r.length = 2)) : isDeepD (m + 1) (.tuple (h :: r)) = false := by
  by_cases k2 : PyData.eqv h (.str "fun") = true
  · match r, n with
    | [], _ => exact (if_neg k).trans (if_pos k2)
    | [_], _ => exact (if_neg k).trans (if_pos k2)
    | [_, _], n => exact absurd ⟨k2, rfl⟩ n
    | _ :: _ :: _ :: _, _ => exact (if_neg k).trans (if_pos k2)
  · match r with
    | [] => exact (if_neg k).trans (if_neg k2)
    | [_] => exact (if_neg k).trans (if_neg k2)
    | [_, _] => exact (if_neg k).trans (if_neg k2)
    | _ :: _ :: _ :: _ => exact (if_neg k).trans (if_neg k2)
theorem two_of {α : Type} : ∀ {r : List α}, r.length = 2 → ∃ x y, r = [x, y]
  | [x, y], _ => ⟨x, y, rfl⟩
theorem isDeep_ty : ∀ {n : Nat} {t : Ty}, t.dep ≤ n → isDeepD n t.d = true
  | n, .num, _ => by cases n <;> (show inV (.str "num") PL = true; decide)
  | n, .small, _ => by cases n <;> (show inV (.str "small") PL = true; decide)
  | n, .big, _ => by cases n <;> (show inV (.str "big") PL = true; decide)
  | n + 1, .cell t, h => by
    have ih := isDeep_ty (n := n) (t := t) (by have h' : t.dep + 1 ≤ n + 1 := h; omega)
    show (if PyData.eqv (.str "cell") (.str "cell") = true then isDeepD n t.d else _) = true
    rw [if_pos (by decide)]
    exact ih
  | n + 1, .fn a r, h => by
    have h' : max a.dep r.dep + 1 ≤ n + 1 := h
    have i1 := isDeep_ty (n := n) (t := a) (by omega)
    have i2 := isDeep_ty (n := n) (t := r) (by omega)
    show (if PyData.eqv (.str "fun") (.str "cell") = true then false else if PyData.eqv (.str "fun") (.str "fun") = true then (isDeepD n a.d && isDeepD n r.d) else false) = true
    rw [if_neg (by decide), if_pos (by decide), i1, i2] <;> rfl
section
variable {P : Program} {w : World} {K : PySem.W.Frag} {mg : Str → Option Value} {base : Heap} {f fS aP : Addr} {fd fdS : FuncData}
def spDeep (K : PySem.W.Frag) (n : Nat) : Sp := fun vs H Q _ => ∃ (v : V) (d : PyData) (m : Nat), vs = [v, .int (m : Int)] ∧ m < n ∧ Dp K H v d ∧ Shp d ∧ ∀ H', Same H H' → Q (.bl (isDeepD m d)) H'
theorem scDeep : FnScope ["value", "most"] ["value", "most"] (defScope sDeep) := ⟨rfl, rfl, rfl, by decide +kernel, rfl, by decide +kernel, by decide +kernel⟩
/-- the answers of isinstance for data -/
def isStrD : PyData → Bool
  | .str _ => true
  | _ => false
def isTupD : PyData → Bool
  | .tuple _ => true
  | _ => false
theorem kit_str {K : PySem.W.Frag} {H : Hp} {v : V} {d : PyData} (h : Dp K H v d) : PySem.W.kitOne K (.type (tyName d)) (.type "str") = some (isStrD d) := by
  cases h with
  | non => exact kit_ty (a := "NoneType") (b := "str") (r := false) (by decide +kernel)
  | bl _ => exact kit_ty (a := "bool") (b := "str") (r := false) (by decide +kernel)
  | int _ => exact kit_ty (a := "int") (b := "str") (r := false) (by decide +kernel)
  | str _ => exact kit_ty (a := "str") (b := "str") (r := true) (by decide +kernel)
  | lst _ _ => exact kit_ty (a := "list") (b := "str") (r := false) (by decide +kernel)
  | tup _ _ => exact kit_ty (a := "tuple") (b := "str") (r := false) (by decide +kernel)
theorem kit_tup {K : PySem.W.Frag} {H : Hp} {v : V} {d : PyData} (h : Dp K H v d) : PySem.W.kitOne K (.type (tyName d)) (.type "tuple") = some (isTupD d) := by
  cases h with
  | non => exact kit_ty (a := "NoneType") (b := "tuple") (r := false) (by decide +kernel)
  | bl _ => exact kit_ty (a := "bool") (b := "tuple") (r := false) (by decide +kernel)
  | int _ => exact kit_ty (a := "int") (b := "tuple") (r := false) (by decide +kernel)
  | str _ => exact kit_ty (a := "str") (b := "tuple") (r := false) (by decide +kernel)
  | lst _ _ => exact kit_ty (a := "list") (b := "tuple") (r := false) (by decide +kernel)
  | tup _ _ => exact kit_ty (a := "tuple") (b := "tuple") (r := true) (by decide +kernel)
theorem dp_tup {K : PySem.W.Frag} {H : Hp} {v : V} {ds : List PyData} (h : Dp K H v (.tuple ds)) : ∃ p xs, v = .ref p ∧ SqT K H p xs ∧ DpAll K H xs ds := by
  cases h with
  | tup h1 h2 => exact ⟨_, _, rfl, h1, h2⟩
theorem dpAll_len {K : PySem.W.Frag} {H : Hp} : ∀ {xs : List V} {ds : List PyData}, DpAll K H xs ds → xs.length = ds.length
  | _, _, .nil => rfl
  | _, _, .cons _ t => congrArg Nat.succ (dpAll_len t)
theorem ok_deep_step {n : Nat} (F : Fun K "is_deep" "is_deep" sDeep f fd) (B : Bl mg) (gP : mg "PLAIN" = some (.ref aP)) (tP : KTup K aP PL) (GS : FnOk P w K mg base CX0 n f fd ["value", "most"] (spDeep K n)) (DS : Df K mg "is_deep" f fd ["value", "most"]) :
    FnOk P w K mg base CX0 (n + 1) f fd ["value", "most"] (spDeep K (n + 1)) := by
  refine F.ok scDeep (fun vs H Q E h => ?_) (fun cdv A outer s H vs Q E hr h => ?_)
  · obtain ⟨v, d, m, rfl, _⟩ := h
    rfl
  obtain ⟨v, d, m, rfl, hm, hd, hs, q⟩ := h
  refine ⟨_, pss_cons (ps_if (pt_val (pe_callB call_isi rfl B.isi (by decide +kernel) (pa_cons (pv 0) (pa_cons (pe_bltn (v := .ty "str") rfl B.str (by decide +kernel) rfl) pa_nil))))
      (pss_one (ps_ret (pe_cmpR op_in_seq (pv 0) (pe_glob (v := .ref aP) rfl gP rfl) rfl))) pss_nil)
    (pss_cons (ps_if (PW.pt (pw_or (pt_not (pt_val (pe_callB call_isi rfl B.isi (by decide +kernel) (pa_cons (pv 0) (pa_cons (pe_bltn (v := .ty "tuple") rfl B.tup (by decide +kernel) rfl) pa_nil)))))
        (pw_or (pt_cmpR op_eq (pv 1) pe_int (nomark _)) (pw_or1 (pt_cmpR (op_eqD hr.units) (pv 0) (pe_tup pa_nil) (nomark _))))))
      (pss_one (ps_ret pe_bl)) pss_nil)
    (pss_cons (ps_if (pt_cmpR (op_eqD hr.units) (pe_ix ix_tup (pv 0) pe_int (fun _ _ => rfl)) pe_str (nomark _))
      (pss_one (ps_ret (pe_and (pe_cmpR op_eq (pe_callB call_len_seq rfl B.len PySem.boot_len (pa_cons (pv 0) pa_nil)) pe_int (nomark _))
        (pe_one (pe_call GS hr rfl DS.m DS.k DS.b .nil pass0 (pa_cons (pe_ix ix_tup (pv 0) pe_int (fun _ _ => rfl)) (pa_cons (pe_op op_sub (pv 1) pe_int) pa_nil))))))) pss_nil)
    (pss_one (ps_ret (pe_and (pe_cmpR (op_eqD hr.units) (pe_ix ix_tup (pv 0) pe_int (fun _ _ => rfl)) pe_str (nomark _))
      (pe_and (pe_cmpR op_eq (pe_callB call_len_seq rfl B.len PySem.boot_len (pa_cons (pv 0) pa_nil)) pe_int (nomark _))
      (pe_and (pe_call GS hr rfl DS.m DS.k DS.b .nil pass0 (pa_cons (pe_ix ix_tup (pv 0) pe_int (fun _ _ => rfl)) (pa_cons (pe_op op_sub (pv 1) pe_int) pa_nil)))
      (pe_one (pe_call GS hr rfl DS.m DS.k DS.b .nil pass0 (pa_cons (pe_ix ix_tup (pv 0) pe_int (fun _ _ => rfl)) (pa_cons (pe_op op_sub (pv 1) pe_int) pa_nil)))))))))))
    , ?_⟩
  refine ⟨_, rfl, v, .ty "str", _, _, _, rfl, .ty "str", tyx_of hd, kit_str hd, _, rfl, ?_⟩
  refine ite2 (fun c => ?_) (fun c => ?_)
  · cases hd with
    | str x => exact ⟨_, rfl, aP, PL, rfl, .inr tP.sq, rfl, rfl, by cases m <;> exact q H (Same.refl H)⟩
    | _ => cases c
  · refine ⟨_, rfl, v, .ty "tuple", _, _, _, rfl, .ty "tuple", tyx_of hd, kit_tup hd, _, rfl, ?_⟩
    have no : ∀ H', Same H H' → isDeepD m d = false → Q (.bl false) H' := fun H' e z => by
      have z2 := q H' e
      rw [z] at z2
      exact z2
    refine ite2 (fun c1 => ?_) (fun c1 => ?_)
    · refine iteT (no H (Same.refl H) ?_)
      cases hd <;> cases m <;> first | rfl | (exact (c rfl).elim) | (cases c1; done)
    · refine ⟨_, rfl, rfl, _, rfl, ?_⟩
      refine ite2 (fun c2 => ?_) (fun c2 => ?_)
      · have e0 : m = 0 := by
          have c2 := of_decide_eq_true c2
          injection c2 with c2
          omega
        refine iteT (no H (Same.refl H) ?_)
        subst e0
        cases hd with
        | str x => exact (c rfl).elim
        | @tup p xs ds _ _ => cases ds <;> rfl
        | _ => rfl
      · cases hd with
        | @tup p xs ds hT hA =>
          refine ⟨_, rfl, (by show 0 ≤ sizeLine; decide), fun p0 hp0 => ?_⟩
          have e1 := same_new hp0 (.tup [])
          refine ⟨.tuple ds, .tuple [], Same.dp e1 (.tup hT hA), .tup (SqT.of upd_same) .nil, hs, by decide, _, rfl, ?_⟩
          obtain ⟨m', rfl⟩ : ∃ m', m = m' + 1 := by
            cases m with
            | zero => exact (c2 (by decide)).elim
            | succ m' => exact ⟨m', rfl⟩
          generalize hH1 : upd H p0 (.tup []) = H1 at e1 ⊢
          have hT1 := Same.sqT e1 hT
          have hA1 := Same.dpAll e1 hA
          cases hA1 with
          | nil => exact iteT (no H1 e1 rfl)
          | @cons v0 vr h r h0 hr1 =>
            refine iteF ?_
            have sh : Shp h := shp_tup hs h List.mem_cons_self
            have a0 : atI (v0 :: vr) 0 = some v0 := atI_nat (j := 0) rfl
            have lr : vr.length = r.length := dpAll_len hr1
            have less : ∀ u : V, ([u, V.int (((m' + 1 : Nat) : Int) - 1)] : List V) = [u, .int (m' : Int)] := fun u => by rw [show (((m' + 1 : Nat) : Int) - 1) = (m' : Int) from by omega]
            refine ⟨_, rfl, p, _, 0, v0, rfl, rfl, hT1, a0, h, .str "cell", h0, .str _, sh, by decide +kernel, _, rfl, ?_⟩
            refine ite2 (fun k => ?_) (fun k => ?_)
            · refine ⟨_, rfl, p, _, rfl, .inr hT1, rfl, _, rfl, ?_⟩
              refine ite2 (fun k2 => ?_) (fun k2 => ?_)
              · have k2 := of_decide_eq_true k2
                injection k2 with k2
                rw [List.length_cons] at k2
                obtain ⟨x, rfl⟩ : ∃ x, r = [x] := List.length_eq_one_iff.mp (by omega)
                cases hr1 with
                | @cons v1 _ _ _ h1 hn =>
                  cases hn
                  refine ⟨_, rfl, p, _, 1, v1, rfl, rfl, hT1, atI_nat (j := 1) rfl, _, rfl, _, _, rfl, rfl, ?_⟩
                  refine ⟨v1, x, m', less v1, by omega, h1, shp_tup hs x (List.mem_cons_of_mem _ List.mem_cons_self), fun H2 e2 => ?_⟩
                  have z := q H2 (e1.trans e2)
                  rw [deep_cell1 k] at z
                  exact z
              · refine no H1 e1 (deep_cellN k fun e => k2 (decide_eq_true ?_))
                rw [List.length_cons, lr, e] <;> rfl
            · refine ⟨_, rfl, p, _, 0, v0, rfl, rfl, hT1, a0, h, .str "fun", h0, .str _, sh, by decide +kernel, _, rfl, ?_⟩
              refine ite2 (fun k2 => ?_) (fun k2 => no H1 e1 (deep_funN k fun e => k2 e.1))
              refine ⟨_, rfl, p, _, rfl, .inr hT1, rfl, _, rfl, ?_⟩
              refine ite2 (fun k3 => ?_) (fun k3 => ?_)
              · have k3 := of_decide_eq_true k3
                injection k3 with k3
                rw [List.length_cons] at k3
                obtain ⟨x, y, rfl⟩ : ∃ x y, r = [x, y] := two_of (by omega)
                cases hr1 with
                | @cons v1 _ _ _ h1 hn =>
                  cases hn with
                  | @cons v2 _ _ _ h2 hn =>
                    cases hn
                    refine ⟨_, rfl, p, _, 1, v1, rfl, rfl, hT1, atI_nat (j := 1) rfl, _, rfl, _, _, rfl, rfl, ?_⟩
                    refine ⟨v1, x, m', less v1, by omega, h1, shp_tup hs x (List.mem_cons_of_mem _ List.mem_cons_self), fun H2 e2 => ?_⟩
                    have e12 := e1.trans e2
                    refine ⟨_, rfl, ite2 (fun b => ?_) (fun b => ?_)⟩
                    · refine ⟨_, rfl, p, _, 2, v2, rfl, rfl, Same.sqT e2 hT1, atI_nat (j := 2) rfl, _, rfl, _, _, rfl, rfl, ?_⟩
                      refine ⟨v2, y, m', less v2, by omega, Same.dp e2 h2, shp_tup hs y (List.mem_cons_of_mem _ (List.mem_cons_of_mem _ List.mem_cons_self)), fun H3 e3 => ?_⟩
                      have z := q H3 (e12.trans e3)
                      rw [deep_fun2 k k2, b, Bool.true_and] at z
                      exact z
                    · refine no H2 e12 ?_
                      rw [deep_fun2 k k2, Bool.eq_false_iff.mpr b, Bool.false_and]
              · refine no H1 e1 (deep_funN k fun e => k3 (decide_eq_true ?_))
                rw [List.length_cons, lr, e.2] <;> rfl
        | _ => exact (c1 rfl).elim
theorem deep_none {k : Nat} : FnOk P w K mg base CX0 k f fd ["value", "most"] (spDeep K 0) := by
  have no : ∀ vs H Q E, ¬ spDeep K 0 vs H Q E := fun vs H Q E h => by
    obtain ⟨v, d, m, _, h, _⟩ := h
    omega
  exact ⟨fun vs H Q E h => absurd h (no vs H Q E), fun A outer s H args us vs Q E _ _ _ _ h => absurd h (no vs H Q E)⟩
theorem ok_deep (F : Fun K "is_deep" "is_deep" sDeep f fd) (B : Bl mg) (gP : mg "PLAIN" = some (.ref aP)) (tP : KTup K aP PL) (DS : Df K mg "is_deep" f fd ["value", "most"]) : ∀ n : Nat, FnOk P w K mg base CX0 n f fd ["value", "most"] (spDeep K n)
  | 0 => deep_none
  | n + 1 => ok_deep_step F B gP tP (ok_deep F B gP tP DS n) DS
/-! ### is_type -/
def spIsType (K : PySem.W.Frag) : Sp := fun vs H Q _ => ∃ (v : V) (d : PyData), vs = [v] ∧ Dp K H v d ∧ Shp d ∧ ∀ H', Same H H' → Q (.bl (isDeepD 3 d)) H'
theorem scIsType : FnScope ["value"] ["value"] (defScope sIsType) := ⟨rfl, rfl, rfl, by decide +kernel, rfl, by decide +kernel, by decide +kernel⟩
theorem ok_isType {tk : Tok} (F : Fun K "is_type" "is_type" sIsType f fd) (gM : mg "MOST_DEEP" = some (.int 3 tk)) (G : FnOk P w K mg base CX0 4 fS fdS ["value", "most"] (spDeep K 4)) (D : Df K mg "is_deep" fS fdS ["value", "most"]) :
    FnOk P w K mg base CX0 5 f fd ["value"] (spIsType K) := by
  refine F.ok scIsType (fun vs H Q E h => ?_) (fun cdv A outer s H vs Q E hr h => ?_)
  · obtain ⟨v, d, rfl, _⟩ := h
    rfl
  obtain ⟨v, d, rfl, hd, hs, q⟩ := h
  refine ⟨_, pss_one (ps_ret (pe_call G hr rfl D.m D.k D.b .nil pass0 (pa_cons (pv 0) (pa_cons (pe_glob (v := .int 3) rfl gM ⟨_, rfl⟩) pa_nil)))), ?_⟩
  exact ⟨_, rfl, v, d, 3, rfl, by decide, hd, hs, q⟩
end
end K04

set_option Elab.async false
set_option linter.all false
set_option maxRecDepth 100000
set_option maxHeartbeats 4000000
namespace K04
open PySem L2
/-- an own error class as the text raises it -/
structure ExF (K : PySem.W.Frag) (mg : Str → Option Value) (x : Str) (C : Addr) : Prop where
  g : mg x = some (.ref C)
  x : PySem.W.excIn K C [.type "ValueError", .type "Exception", .type "BaseException", .type "object"] "ValueError.__new__" = true
  k : PySem.W.keepIn K (.ref C) = true
  b : PySem.W.subIn K (.ref C) (.type "BaseException") = some true
  t : PySem.W.typeIn K (.ref C) = some (.type "type")
theorem Same.put {d : Addr} {H H2 H4 : Hp} {o : HO} (k2 : Same H H2) (hd : H2 d = none) (k4 : Same H H4) : Same H (upd H4 d o) := fun b u hb => by
  rw [upd_ne (ne_of_none (k2 b u hb) hd)]
  exact k4 b u hb
section
variable {P : Program} {w : World} {K : PySem.W.Frag} {mg : Str → Option Value} {base : Heap} {f fS CT CD aW : Addr} {fd fdS : FuncData}
/-! ### need_type -/
def spNeedT (K : PySem.W.Frag) (CT : Addr) : Sp := fun vs H Q E => ∃ (v : V) (d : PyData), vs = [v] ∧ Dp K H v d ∧ Shp d ∧ ∀ H', Same H H' → (isDeepD 3 d = true → Q .non H') ∧ (isDeepD 3 d = false → E (.ref CT) none H')
theorem scNeedT : FnScope ["value"] ["value"] (defScope sNeedT) := ⟨rfl, rfl, rfl, by decide +kernel, rfl, by decide +kernel, by decide +kernel⟩
theorem ok_needT (F : Fun K "need_type" "need_type" sNeedT f fd) (XT : ExF K mg "BadType" CT) (G : FnOk P w K mg base CX0 5 fS fdS ["value"] (spIsType K)) (D : Df K mg "is_type" fS fdS ["value"]) :
    FnOk P w K mg base (L2.CX P w) 6 f fd ["value"] (spNeedT K CT) := by
  refine F.okX scNeedT (fun vs H Q E h => ?_) (fun cdv A outer s H vs Q E hr h => ?_)
  · obtain ⟨v, d, rfl, _⟩ := h
    rfl
  obtain ⟨v, d, rfl, hd, hs, q⟩ := h
  refine ⟨_, pss_one (ps_if (pt_not (pt_val (pe_call G hr rfl D.m D.k D.b .nil pass0 (pa_cons (pv 0) pa_nil)))) (pss_one (ps_raise rfl (takes_of (E := E) rfl rfl rfl rfl) (pmk_own0 PySem.F.excBase_ValueError XT.x XT.g XT.k (raises_own XT.b XT.t) rfl))) pss_nil), ?_⟩
  refine ⟨_, rfl, v, d, rfl, hd, hs, fun H' e => ⟨_, rfl, ?_⟩⟩
  obtain ⟨q1, q2⟩ := q H' e
  cases c : isDeepD 3 d with
  | true => exact iteF (q1 c)
  | false => exact iteT (q2 c)
/-! ### is_design -/
def inWdD : PyData → Bool
  | .str s => inV (.str s) (WD.map V.str)
  | _ => false
def ltD : PyData → PyData → Bool
  | .str x, .str y => decide (x.cps.toList < y.cps.toList)
  | _, _ => false
def adjD (ds : List PyData) : Bool := (List.range (ds.length - 1)).all fun i => ltD (ds.getD i .none) (ds.getD (i + 1) .none)
def isDesD : PyData → Bool
  | .tuple ds => ds.all inWdD && adjD ds
  | _ => false
def few : PyData → Prop
  | .tuple ds => ds.length ≤ 1000
  | _ => True
def spIsDes (K : PySem.W.Frag) : Sp := fun vs H Q _ => ∃ (v : V) (d : PyData), vs = [v] ∧ Dp K H v d ∧ few d ∧ ∀ H', Same H H' → Q (.bl (isDesD d)) H'
theorem scIsDes : FnScope ["value", "one", "index"] ["value"] (defScope sIsDes) := ⟨rfl, rfl, rfl, by decide +kernel, rfl, by decide +kernel, by decide +kernel⟩
theorem dpAll_get {H : Hp} : ∀ {xs : List V} {ds : List PyData} {i : Nat} {x : V}, DpAll K H xs ds → xs[i]? = some x → ∃ d, ds[i]? = some d ∧ Dp K H x d
  | _, _, _, _, .nil, e => by simp at e
  | _, _, 0, _, .cons h _, e => ⟨_, rfl, by cases e; exact h⟩
  | _, _, i + 1, _, .cons _ t, e => dpAll_get (i := i) t e
theorem dpAll_getD {H : Hp} : ∀ {xs : List V} {ds : List PyData} {i : Nat} {d : PyData}, DpAll K H xs ds → ds[i]? = some d → ∃ x, xs[i]? = some x ∧ Dp K H x d
  | _, _, _, _, .nil, e => by simp at e
  | _, _, 0, _, .cons h _, e => ⟨_, rfl, by cases e; exact h⟩
  | _, _, i + 1, _, .cons _ t, e => dpAll_getD (i := i) t e
theorem map_bl (l : List PyData) (g : PyData → Bool) : (l.map fun d => V.bl (g d)) = (l.map g).map V.bl := by
  rw [List.map_map]
  rfl
theorem all_bl (l : List PyData) (g : PyData → Bool) : (l.map g).all id = l.all g := by
  rw [List.all_map]
  rfl
theorem ok_isDes (F : Fun K "is_design" "is_design" sIsDes f fd) (B : Bl mg) (gW : mg "WORDS" = some (.ref aW)) (tW : KTup K aW (WD.map V.str)) : FnOk P w K mg base CX0 1 f fd ["value"] (spIsDes K) := by
  refine F.ok scIsDes (fun vs H Q E h => ?_) (fun cdv A outer s H vs Q E hr h => ?_)
  · obtain ⟨v, d, rfl, _⟩ := h
    rfl
  obtain ⟨v, d, rfl, hd, hf, q⟩ := h
  refine ⟨_, pss_cons (ps_if (PW.pt (pw_or (pt_not (pt_val (pe_callB call_isi rfl B.isi (by decide +kernel) (pa_cons (pv 0) (pa_cons (pe_bltn (v := .ty "tuple") rfl B.tup (by decide +kernel) rfl) pa_nil)))))
      (pw_or1 (pt_not (pt_val (pe_callB (cr_all rfl) rfl B.all (by decide +kernel) (pa_cons
        (pe_lc (own := [("one", 1)]) (g := gName 1) (tt := tYes) (te := tAndV (tCB (rIsi K) (tCons (tVar 1) (tCons (tC (.ty "str")) tNil))) (tOp (rIn K false) (tVar 1) (tC (.ref aW)))) rfl scIsDes.nd (pi_tup (pv 0)) (blkOk_by (own := [("one", 1)]) (N := ["value", "one", "index"]) (sc := defScope sIsDes) (by decide +kernel))
          (fun _ _ _ _ _ => pg_name (i := 1) scIsDes.nd rfl (Or.inl rfl)) (fun _ _ _ _ _ => pts_nil)
          (fun _ _ _ _ _ => pe_and (pe_callB call_isi rfl B.isi (by decide +kernel) (pa_cons (pv 1) (pa_cons (pe_bltn (v := .ty "str") rfl B.str (by decide +kernel) rfl) pa_nil)))
            (pe_one (pe_cmpR op_in_seq (pv 1) (pe_glob (v := .ref aW) rfl gW rfl) rfl)))) pa_nil)))))))
      (pss_one (ps_ret pe_bl)) pss_nil)
    (pss_one (ps_ret (pe_callB (cr_all rfl) rfl B.all (by decide +kernel) (pa_cons
      (pe_lc (own := [("index", 2)]) (g := gName 2) (tt := tYes) (te := tOp (fun x y H Q => ∃ i j, x = .str i ∧ y = .str j ∧ Q (.bl (decide (i.cps.toList < j.cps.toList))) H) (tOp (rIxT K) (tVar 0) (tOp (rI0 fun i j => .int (i - j)) (tVar 2) (tC (.int 1)))) (tOp (rIxT K) (tVar 0) (tVar 2))) rfl scIsDes.nd (pi_range2 rfl B.rng (pa_cons pe_int (pa_cons (pe_callB call_len_seq rfl B.len PySem.boot_len (pa_cons (pv 0) pa_nil)) pa_nil)))
        (blkOk_by (own := [("index", 2)]) (N := ["value", "one", "index"]) (sc := defScope sIsDes) (by decide +kernel))
        (fun _ _ _ _ _ => pg_name (i := 2) scIsDes.nd rfl (Or.inl rfl)) (fun _ _ _ _ _ => pts_nil)
        (fun _ _ _ _ _ => pe_cmpR op_lt_str (pe_ix ix_tup (pv 0) (pe_op op_sub (pv 2) pe_int) (fun _ _ => rfl)) (pe_ix ix_tup (pv 0) (pv 2) (fun _ _ => rfl)) (nomark _))) pa_nil)))), ?_⟩
  refine ⟨_, rfl, v, .ty "tuple", _, _, _, rfl, .ty "tuple", tyx_of hd, kit_tup hd, _, rfl, ?_⟩
  refine ite2 (fun c => ?_) (fun c => ?_)
  · refine iteT ?_
    have z := q H (Same.refl H)
    have ez : isDesD d = false := by cases hd <;> first | rfl | (cases c; done)
    rw [ez] at z
    exact z
  · cases hd with
    | @tup p xs ds hT hA =>
      have hl : xs.length = ds.length := dpAll_len hA
      have hf : ds.length ≤ 1000 := hf
      refine ⟨_, rfl, p, rfl, ⟨_, hT⟩, fun d1 hd1 => ?_⟩
      refine lc_tup (K := K) (a := p) (xs := xs) (fun i H' => H' d1 = some (.lst ((ds.take i).map fun d => V.bl (inWdD d))) ∧ Same H H')
        ⟨upd_same, same_new hd1 _⟩ (fun i H' _ ⟨_, e⟩ => Same.sqT e hT) ?_ ?_
      · rintro i x H3 hx ⟨x1, e3⟩
        obtain ⟨d0, hd0, hdp⟩ := dpAll_get hA hx
        have hdp := Same.dp e3 hdp
        have li : i < ds.length := (List.getElem?_eq_some_iff.mp hd0).1
        have fin : (∃ acc : List V, H3 d1 = some (.lst acc) ∧ acc.length < sizeLine ∧ upd H3 d1 (.lst (acc ++ [V.bl (inWdD d0)])) d1 = some (.lst ((ds.take (i + 1)).map fun d => V.bl (inWdD d))) ∧ Same H (upd H3 d1 (.lst (acc ++ [V.bl (inWdD d0)])))) := by
          refine ⟨_, x1, ?_, ?_, Same.put (Same.refl H) hd1 e3⟩
          · rw [List.length_map, List.length_take]
            exact small1000 (by omega)
          · rw [upd_same, List.take_add_one, hd0, List.map_append] <;> rfl
        refine ⟨rfl, ?_⟩
        refine ⟨_, rfl, x, .ty "str", _, _, _, rfl, .ty "str", tyx_of hdp, kit_str hdp, _, rfl, ?_⟩
        refine ite2 (fun c1 => ?_) (fun c1 => ?_)
        · cases hdp with
          | str sx => exact ⟨_, rfl, aW, WD.map V.str, rfl, .inr tW.sq, rfl, by decide, fin⟩
          | _ => cases c1
        · have e0 : inWdD d0 = false := by cases hdp <;> first | rfl | (exact (c1 rfl).elim)
          rw [e0] at fin
          exact fin
      · rintro H3 ⟨x1, e3⟩
        rw [hl, List.take_length, map_bl] at x1
        refine ⟨d1, ds.map inWdD, rfl, SqL.of x1, _, rfl, ?_⟩
        rw [all_bl]
        cases ca : ds.all inWdD with
        | false =>
          refine iteT ?_
          have z := q H3 e3
          have ez : isDesD (.tuple ds) = false := by
            show (ds.all inWdD && adjD ds) = false
            rw [ca] <;> rfl
          rw [ez] at z
          exact z
        | true =>
          refine iteF ?_
          have allS : ∀ i d, ds[i]? = some d → ∃ s, d = PyData.str s := fun i d e => by
            have z := List.all_eq_true.mp ca d (List.mem_of_getElem? e)
            cases d <;> first | exact ⟨_, rfl⟩ | cases z
          refine ⟨_, rfl, p, xs, rfl, .inr (Same.sqT e3 hT), 1, (xs.length : Int), rfl, by omega, fun d2 hd2 => ?_⟩
          have en : ((xs.length : Int) - 1).toNat = ds.length - 1 := by omega
          refine lc_range (lo := 1) (n := ((xs.length : Int) - 1).toNat) (fun i H' => H' d2 = some (.lst (((List.range i).map fun i => ltD (ds.getD i .none) (ds.getD (i + 1) .none)).map V.bl)) ∧ Same H H')
            ⟨upd_same, e3.trans (same_new hd2 _)⟩ ?_ ?_
          · rintro i H4 hi ⟨y1, e4⟩
            have l0 : i < ds.length := by omega
            have l1 : i + 1 < ds.length := by omega
            obtain ⟨s0, hs0⟩ := allS i _ (List.getElem?_eq_getElem l0)
            obtain ⟨s1, hs1⟩ := allS (i + 1) _ (List.getElem?_eq_getElem l1)
            have g0 : ds[i]? = some (.str s0) := by rw [List.getElem?_eq_getElem l0, hs0]
            have g1 : ds[i + 1]? = some (.str s1) := by rw [List.getElem?_eq_getElem l1, hs1]
            obtain ⟨x0, hx0, dp0⟩ := dpAll_getD hA g0
            obtain ⟨x1', hx1, dp1⟩ := dpAll_getD hA g1
            have hx0 : xs[i]? = some (.str s0) := by rw [hx0, dp_str dp0]
            have hx1 : xs[i + 1]? = some (.str s1) := by rw [hx1, dp_str dp1]
            have a0 : atI xs (1 + (i : Int) - 1) = some (.str s0) := by rw [show (1 + (i : Int) - 1) = ((i : Nat) : Int) from by omega]; exact atI_nat hx0
            have a1 : atI xs (1 + (i : Int)) = some (.str s1) := by rw [show (1 + (i : Int)) = ((i + 1 : Nat) : Int) from by omega]; exact atI_nat hx1
            have hT4 := Same.sqT e4 hT
            refine ⟨rfl, ?_⟩
            refine ⟨_, rfl, _, rfl, _, _, rfl, rfl, p, xs, _, _, rfl, rfl, hT4, a0, _, rfl, _, rfl, p, xs, _, _, rfl, rfl, hT4, a1, s0, s1, rfl, rfl, ?_⟩
            refine ⟨_, y1, ?_, ?_, Same.put e3 hd2 e4⟩
            · rw [List.length_map, List.length_map, List.length_range]
              exact small1000 (by omega)
            · have el : ltD (ds.getD i .none) (ds.getD (i + 1) .none) = decide (s0.cps.toList < s1.cps.toList) := by
                rw [List.getD_eq_getElem?_getD, List.getD_eq_getElem?_getD, g0, g1] <;> rfl
              rw [upd_same, List.range_succ, List.map_append, List.map_append, ← el] <;> rfl
          · rintro H4 ⟨y1, e4⟩
            refine ⟨d2, _, rfl, SqL.of y1, ?_⟩
            have z := q H4 e4
            have ez : isDesD (.tuple ds) = (((List.range (((xs.length : Int) - 1).toNat)).map fun i => ltD (ds.getD i .none) (ds.getD (i + 1) .none)).all id) := by
              show (ds.all inWdD && adjD ds) = _
              rw [ca, en, List.all_map] <;> rfl
            rw [ez] at z
            exact z
    | _ => exact (c rfl).elim
/-! ### need_design -/
def spNeedD (K : PySem.W.Frag) (CD : Addr) : Sp := fun vs H Q E => ∃ (v : V) (d : PyData), vs = [v] ∧ Dp K H v d ∧ few d ∧ ∀ H', Same H H' → (isDesD d = true → Q .non H') ∧ (isDesD d = false → E (.ref CD) none H')
theorem scNeedD : FnScope ["design"] ["design"] (defScope sNeedD) := ⟨rfl, rfl, rfl, by decide +kernel, rfl, by decide +kernel, by decide +kernel⟩
theorem ok_needD (F : Fun K "need_design" "need_design" sNeedD f fd) (XD : ExF K mg "BadDesign" CD) (G : FnOk P w K mg base CX0 1 fS fdS ["value"] (spIsDes K)) (D : Df K mg "is_design" fS fdS ["value"]) :
    FnOk P w K mg base (L2.CX P w) 2 f fd ["design"] (spNeedD K CD) := by
  refine F.okX scNeedD (fun vs H Q E h => ?_) (fun cdv A outer s H vs Q E hr h => ?_)
  · obtain ⟨v, d, rfl, _⟩ := h
    rfl
  obtain ⟨v, d, rfl, hd, hs, q⟩ := h
  refine ⟨_, pss_one (ps_if (pt_not (pt_val (pe_call G hr rfl D.m D.k D.b .nil pass0 (pa_cons (pv 0) pa_nil)))) (pss_one (ps_raise rfl (takes_of (E := E) rfl rfl rfl rfl) (pmk_own0 PySem.F.excBase_ValueError XD.x XD.g XD.k (raises_own XD.b XD.t) rfl))) pss_nil), ?_⟩
  refine ⟨_, rfl, v, d, rfl, hd, hs, fun H' e => ⟨_, rfl, ?_⟩⟩
  obtain ⟨q1, q2⟩ := q H' e
  cases c : isDesD d with
  | true => exact iteF (q1 c)
  | false => exact iteT (q2 c)
end
end K04

set_option Elab.async false
set_option linter.all false
set_option maxRecDepth 100000
set_option maxHeartbeats 4000000
namespace K04
open PySem L2
/-! ### which types lie within others: one Lean function for both defs of the text -/
def wi (A G F : Bool) : Nat → Ty → Ty → Bool
  | 0, _, _ => false
  | n + 1, s, t =>
    if s = t then true else match s, t with
      | .cell p, .cell q => (A && wi A G F n p q) || (G && wi A G F n q p)
      | .fn a r, .fn b q => wi A G F n r q && (wi A G F n b a || (F && wi A G F n a b))
      | .big, .small => true
      | _, _ => false
theorem wi_refl {A G F : Bool} {n : Nat} {t : Ty} : wi A G F (n + 1) t t = true := if_pos rfl
theorem wi_cell {A G F : Bool} {n : Nat} {p q : Ty} (h : ¬ Ty.cell p = Ty.cell q) : wi A G F (n + 1) (.cell p) (.cell q) = ((A && wi A G F n p q) || (G && wi A G F n q p)) := if_neg h
theorem wi_fn {A G F : Bool} {n : Nat} {a r b q : Ty} (h : ¬ Ty.fn a r = Ty.fn b q) : wi A G F (n + 1) (.fn a r) (.fn b q) = (wi A G F n r q && (wi A G F n b a || (F && wi A G F n a b))) := if_neg h
def plainT : Ty → Bool
  | .num => true
  | .small => true
  | .big => true
  | _ => false
theorem wi_plain {A G F : Bool} {n : Nat} {s t : Ty} (h : ¬ s = t) (p : plainT s = true ∨ plainT t = true) : wi A G F (n + 1) s t = (decide (s = .big) && decide (t = .small)) := by
  refine (if_neg h).trans ?_
  rcases p with p | p
  · cases s <;> cases t <;> first | rfl | (cases p; done)
  · cases s <;> cases t <;> first | rfl | (cases p; done)
theorem wi_cf {A G F : Bool} {n : Nat} {p a r : Ty} : wi A G F (n + 1) (.cell p) (.fn a r) = false := if_neg (fun z => by cases z)
theorem wi_fc {A G F : Bool} {n : Nat} {p a r : Ty} : wi A G F (n + 1) (.fn a r) (.cell p) = false := if_neg (fun z => by cases z)
theorem eqv_ty : ∀ s t : Ty, PyData.eqv s.d t.d = decide (s = t)
  | .cell p, .cell q => by
    have ih := eqv_ty p q
    show (PyData.eqv (.str "cell") (.str "cell") && (PyData.eqv p.d q.d && true)) = _
    rw [ih, show PyData.eqv (.str "cell") (.str "cell") = true from by decide, Bool.true_and, Bool.and_true]
    exact decide_eq_decide.mpr ⟨fun e => by rw [e], fun e => by injection e⟩
  | .fn a r, .fn b q => by
    have i1 := eqv_ty a b
    have i2 := eqv_ty r q
    show (PyData.eqv (.str "fun") (.str "fun") && (PyData.eqv a.d b.d && (PyData.eqv r.d q.d && true))) = _
    rw [i1, i2, show PyData.eqv (.str "fun") (.str "fun") = true from by decide, Bool.true_and, Bool.and_true, ← Bool.decide_and]
    exact decide_eq_decide.mpr ⟨fun ⟨e1, e2⟩ => by rw [e1, e2], fun e => by injection e with e1 e2; exact ⟨e1, e2⟩⟩
  | .cell p, .fn b q => by
    show (PyData.eqv (.str "cell") (.str "fun") && PyData.eqvAll [p.d] [b.d, q.d]) = _
    rw [show PyData.eqv (.str "cell") (.str "fun") = false from by decide] <;> rfl
  | .fn a r, .cell q => by
    show (PyData.eqv (.str "fun") (.str "cell") && PyData.eqvAll [a.d, r.d] [q.d]) = _
    rw [show PyData.eqv (.str "fun") (.str "cell") = false from by decide] <;> rfl
  | .num, .num => by decide
  | .num, .small => by decide
  | .num, .big => by decide
  | .small, .num => by decide
  | .small, .small => by decide
  | .small, .big => by decide
  | .big, .num => by decide
  | .big, .small => by decide
  | .big, .big => by decide
  | .num, .cell _ => rfl
  | .small, .cell _ => rfl
  | .big, .cell _ => rfl
  | .num, .fn _ _ => rfl
  | .small, .fn _ _ => rfl
  | .big, .fn _ _ => rfl
  | .cell _, .num => rfl
  | .cell _, .small => rfl
  | .cell _, .big => rfl
  | .fn _ _, .num => rfl
  | .fn _ _, .small => rfl
  | .fn _ _, .big => rfl
theorem eqv_any : ∀ t : Ty, PyData.eqv t.d (.str "any") = false
  | .num => by decide
  | .small => by decide
  | .big => by decide
  | .cell _ => rfl
  | .fn _ _ => rfl
abbrev anyD : PyData := .tuple [.str "cell", .str "any"]
theorem eqv_anyD : ∀ t : Ty, PyData.eqv t.d anyD = false
  | .num => rfl
  | .small => rfl
  | .big => rfl
  | .cell p => by
    show (PyData.eqv (.str "cell") (.str "cell") && (PyData.eqv p.d (.str "any") && true)) = false
    rw [eqv_any p, Bool.false_and, Bool.and_false]
  | .fn a r => by
    show (PyData.eqv (.str "fun") (.str "cell") && PyData.eqvAll [a.d, r.d] [.str "any"]) = false
    rw [show PyData.eqv (.str "fun") (.str "cell") = false from by decide] <;> rfl
theorem lay_ty : ∀ t : Ty, PyData.canLay0 t.d = true ∧ PyData.depth t.d = t.dep
  | .num => by decide +kernel
  | .small => by decide +kernel
  | .big => by decide +kernel
  | .cell p => by
    obtain ⟨h1, h2⟩ := lay_ty p
    have c : PyData.canLay0 (.str "cell") = true := by decide +kernel
    constructor
    · show PyData.canLay0 (.tuple [.str "cell", p.d]) = true
      unfold PyData.canLay0 PyData.canLayAll0 PyData.canLayAll0 PyData.canLayAll0
      rw [c, h1] <;> rfl
    · show PyData.depth (.tuple [.str "cell", p.d]) = p.dep + 1
      unfold PyData.depth PyData.depthAll PyData.depthAll PyData.depthAll
      rw [h2, show PyData.depth (.str "cell") = 0 from by decide +kernel]
      omega
  | .fn a r => by
    obtain ⟨h1, h2⟩ := lay_ty a
    obtain ⟨h3, h4⟩ := lay_ty r
    have c : PyData.canLay0 (.str "fun") = true := by decide +kernel
    constructor
    · show PyData.canLay0 (.tuple [.str "fun", a.d, r.d]) = true
      unfold PyData.canLay0 PyData.canLayAll0 PyData.canLayAll0 PyData.canLayAll0 PyData.canLayAll0
      rw [c, h1, h3] <;> rfl
    · show PyData.depth (.tuple [.str "fun", a.d, r.d]) = max a.dep r.dep + 1
      unfold PyData.depth PyData.depthAll PyData.depthAll PyData.depthAll PyData.depthAll
      rw [h2, h4, show PyData.depth (.str "fun") = 0 from by decide +kernel]
      omega
theorem shp_ty {t : Ty} (h : t.dep ≤ 60) : Shp t.d := by
  obtain ⟨h1, h2⟩ := lay_ty t
  show (PyData.canLay0 t.d && decide (PyData.depth t.d ≤ 64)) = true
  rw [h1, h2, decide_eq_true (show t.dep ≤ 64 by omega)] <;> rfl
/-- a design has a word, checked or not -/
def hasB (ss : List Str) (x : Str) : Bool := inV (.str x) (ss.map V.str) || inV (.str (x ++ " checked")) (ss.map V.str)
theorem flat_map (ss : List Str) : (ss.map V.str).all flatV = true := by
  rw [List.all_map]
  exact List.all_eq_true.mpr fun _ _ => rfl
section
variable {P : Program} {w : World} {K : PySem.W.Frag} {mg : Str → Option Value} {base : Heap} {f fH fC fF aA : Addr} {fd fdH fdC fdF : FuncData}
/-! ### has, is_cell, is_fun -/
def spHas (K : PySem.W.Frag) : Sp := fun vs H Q _ => ∃ (ad : Addr) (ss : List Str) (x : Str), vs = [.ref ad, .str x] ∧ SqT K H ad (ss.map V.str) ∧ x.length ≤ 100 ∧ Q (.bl (hasB ss x)) H
theorem scHas : FnScope ["design", "word"] ["design", "word"] (defScope sHas) := ⟨rfl, rfl, rfl, by decide +kernel, rfl, by decide +kernel, by decide +kernel⟩
theorem scLHas : FnScope ["_law_design_here", "_law_word"] ["_law_design_here", "_law_word"] (defScope sLHas) := ⟨rfl, rfl, rfl, by decide +kernel, rfl, by decide +kernel, by decide +kernel⟩
theorem has_read {K : PySem.W.Frag} {H : Hp} {Q : VK} {ad : Addr} {ss : List Str} {x : Str} (hS : SqT K H ad (ss.map V.str)) (hx : x.length ≤ 100) (q : Q (.bl (hasB ss x)) H) :
    tRet (tOrV (tOp (rIn K false) (tVar 1) (tVar 0)) (tOp (rIn K false) (tOp (fun x y H Q => ∃ i j, x = .str i ∧ y = .str j ∧ i.length + j.length ≤ sizeLine ∧ Q (.str (i ++ j)) H) (tVar 1) (tC (.str " checked"))) (tVar 0)))
      { nx := fun _ H' => Q .non H', rt := Q } [some (.ref ad), some (.str x)] H := by
  refine ⟨_, rfl, _, rfl, ad, _, rfl, .inr hS, rfl, flat_map ss, _, rfl, ?_⟩
  have q' : Q (.bl (inV (.str x) (ss.map V.str) || inV (.str (x ++ " checked")) (ss.map V.str))) H := q
  refine ite2 (fun c => ?_) (fun c => ?_)
  · have c' : inV (.str x) (ss.map V.str) = true := c
    rw [c', Bool.true_or] at q'
    exact q'
  · have c' : inV (.str x) (ss.map V.str) = false := Bool.eq_false_iff.mpr c
    rw [c', Bool.false_or] at q'
    exact ⟨_, rfl, x, " checked", rfl, rfl, Nat.le_trans (Nat.add_le_add_right hx _) (by decide +kernel), _, rfl, ad, _, rfl, .inr hS, rfl, flat_map ss, q'⟩
theorem ok_has (F : Fun K "has" "has" sHas f fd) : FnOk P w K mg base CX0 1 f fd ["design", "word"] (spHas K) := by
  refine F.ok scHas (fun vs H Q E h => ?_) (fun cdv A outer s H vs Q E hr h => ?_)
  · obtain ⟨ad, ss, x, rfl, _⟩ := h
    rfl
  obtain ⟨ad, ss, x, rfl, hS, hx, q⟩ := h
  exact ⟨_, pss_one (ps_ret (pe_or (pe_cmpR op_in_seq (pv 1) (pv 0) rfl) (pe_one (pe_cmpR op_in_seq (pe_op op_add_str (pv 1) pe_str) (pv 0) rfl)))), has_read hS hx q⟩
theorem ok_lhas (F : Fun K "_law_has" "_law_has" sLHas f fd) : FnOk P w K mg base CX0 1 f fd ["_law_design_here", "_law_word"] (spHas K) := by
  refine F.ok scLHas (fun vs H Q E h => ?_) (fun cdv A outer s H vs Q E hr h => ?_)
  · obtain ⟨ad, ss, x, rfl, _⟩ := h
    rfl
  obtain ⟨ad, ss, x, rfl, hS, hx, q⟩ := h
  exact ⟨_, pss_one (ps_ret (pe_or (pe_cmpR op_in_seq (pv 1) (pv 0) rfl) (pe_one (pe_cmpR op_in_seq (pe_op op_add_str (pv 1) pe_str) (pv 0) rfl)))), has_read hS hx q⟩
def spHead (K : PySem.W.Frag) (c : Str) : Sp := fun vs H Q _ => ∃ (p : Addr) (h : Str) (r : List V), vs = [.ref p] ∧ SqT K H p (.str h :: r) ∧ Q (.bl (decide (V.str h = V.str c))) H
theorem scCell : FnScope ["kind"] ["kind"] (defScope sIsCell) := ⟨rfl, rfl, rfl, by decide +kernel, rfl, by decide +kernel, by decide +kernel⟩
theorem scFun : FnScope ["kind"] ["kind"] (defScope sIsFun) := ⟨rfl, rfl, rfl, by decide +kernel, rfl, by decide +kernel, by decide +kernel⟩
theorem ok_isCell (F : Fun K "is_cell" "is_cell" sIsCell f fd) : FnOk P w K mg base CX0 1 f fd ["kind"] (spHead K "cell") := by
  refine F.ok scCell (fun vs H Q E h => ?_) (fun cdv A outer s H vs Q E hr h => ?_)
  · obtain ⟨p, h, r, rfl, _⟩ := h
    rfl
  obtain ⟨p, h, r, rfl, hS, q⟩ := h
  refine ⟨_, pss_one (ps_ret (pe_cmpR op_eq (pe_ix ix_tup (pv 0) pe_int (fun _ _ => rfl)) pe_str (nomark _))), ?_⟩
  exact ⟨_, rfl, p, _, 0, _, rfl, rfl, hS, atI_nat (j := 0) rfl, rfl, q⟩
theorem ok_isFun (F : Fun K "is_fun" "is_fun" sIsFun f fd) : FnOk P w K mg base CX0 1 f fd ["kind"] (spHead K "fun") := by
  refine F.ok scFun (fun vs H Q E h => ?_) (fun cdv A outer s H vs Q E hr h => ?_)
  · obtain ⟨p, h, r, rfl, _⟩ := h
    rfl
  obtain ⟨p, h, r, rfl, hS, q⟩ := h
  refine ⟨_, pss_one (ps_ret (pe_cmpR op_eq (pe_ix ix_tup (pv 0) pe_int (fun _ _ => rfl)) pe_str (nomark _))), ?_⟩
  exact ⟨_, rfl, p, _, 0, _, rfl, rfl, hS, atI_nat (j := 0) rfl, rfl, q⟩
end
end K04

set_option Elab.async false
set_option linter.all false
set_option maxRecDepth 100000
set_option maxHeartbeats 4000000
namespace K04
open PySem L2
theorem isStr_ty : ∀ t : Ty, isStrD t.d = plainT t
  | .num => rfl
  | .small => rfl
  | .big => rfl
  | .cell _ => rfl
  | .fn _ _ => rfl
def withinV (ss : List Str) (n : Nat) (s t : Ty) : Bool := wi (hasB ss "along") (inV (.str "against") (ss.map V.str)) (hasB ss "args") n s t
theorem wv_refl {ss : List Str} {n : Nat} {t : Ty} : withinV ss (n + 1) t t = true := wi_refl
theorem wv_plain {ss : List Str} {n : Nat} {s t : Ty} (h : ¬ s = t) (p : plainT s = true ∨ plainT t = true) : withinV ss (n + 1) s t = (decide (s = .big) && decide (t = .small)) := wi_plain h p
theorem wv_cell {ss : List Str} {n : Nat} {p q : Ty} (h : ¬ Ty.cell p = Ty.cell q) : withinV ss (n + 1) (.cell p) (.cell q) = ((hasB ss "along" && withinV ss n p q) || (inV (.str "against") (ss.map V.str) && withinV ss n q p)) := wi_cell h
theorem wv_fn {ss : List Str} {n : Nat} {a r b q : Ty} (h : ¬ Ty.fn a r = Ty.fn b q) : withinV ss (n + 1) (.fn a r) (.fn b q) = (withinV ss n r q && (withinV ss n b a || (hasB ss "args" && withinV ss n a b))) := wi_fn h
theorem wv_cf {ss : List Str} {n : Nat} {p a r : Ty} : withinV ss (n + 1) (.cell p) (.fn a r) = false := wi_cf
theorem wv_fc {ss : List Str} {n : Nat} {p a r : Ty} : withinV ss (n + 1) (.fn a r) (.cell p) = false := wi_fc
theorem iteP {c A B : Prop} [Decidable c] (h : c) (a : A) : if c then A else B := by
  rw [if_pos h]
  exact a
theorem iteN {c A B : Prop} [Decidable c] (h : ¬ c) (b : B) : if c then A else B := by
  rw [if_neg h]
  exact b
def spWithin (K : PySem.W.Frag) (n : Nat) : Sp := fun vs H Q _ => ∃ (ad : Addr) (ss : List Str) (v1 v2 : V) (s t : Ty), vs = [.ref ad, v1, v2] ∧ SqT K H ad (ss.map V.str) ∧ Dp K H v1 s.d ∧ Dp K H v2 t.d ∧ s.dep < n ∧ t.dep < n ∧ n ≤ 50 ∧
  ∀ H', Same H H' → Q (.bl (withinV ss n s t)) H'
section
variable {P : Program} {w : World} {K : PySem.W.Frag} {mg : Str → Option Value} {base : Heap} {f fH fC fF aA : Addr} {fd fdH fdC fdF : FuncData}
theorem scWithin : FnScope ["design", "one", "other"] ["design", "one", "other"] (defScope sWithin) := ⟨rfl, rfl, rfl, by decide +kernel, rfl, by decide +kernel, by decide +kernel⟩
theorem within_none {k : Nat} {ps : List Str} : FnOk P w K mg base CX0 k f fd ps (spWithin K 0) := by
  have no : ∀ vs H Q E, ¬ spWithin K 0 vs H Q E := fun vs H Q E h => by
    obtain ⟨_, _, _, _, _, _, _, _, _, _, h, _⟩ := h
    omega
  exact ⟨fun vs H Q E h => absurd h (no vs H Q E), fun A outer s H args us vs Q E _ _ _ _ h => absurd h (no vs H Q E)⟩
theorem ok_within_step {n : Nat} (F : Fun K "within" "within" sWithin f fd) (B : Bl mg) (gA : mg "ANY" = some (.ref aA)) (tA : KTup K aA [.str "cell", .str "any"])
    (GH : FnOk P w K mg base CX0 1 fH fdH ["design", "word"] (spHas K)) (DH : Df K mg "has" fH fdH ["design", "word"])
    (GC : FnOk P w K mg base CX0 1 fC fdC ["kind"] (spHead K "cell")) (DC : Df K mg "is_cell" fC fdC ["kind"]) (GF : FnOk P w K mg base CX0 1 fF fdF ["kind"] (spHead K "fun")) (DF : Df K mg "is_fun" fF fdF ["kind"])
    (GS : FnOk P w K mg base CX0 (n + 1) f fd ["design", "one", "other"] (spWithin K n)) (DS : Df K mg "within" f fd ["design", "one", "other"]) :
    FnOk P w K mg base CX0 (n + 1 + 1) f fd ["design", "one", "other"] (spWithin K (n + 1)) := by
  refine F.ok scWithin (fun vs H Q E h => ?_) (fun cdv A outer s H vs Q E hr h => ?_)
  · obtain ⟨ad, ss, v1, v2, s, t, rfl, _⟩ := h
    rfl
  obtain ⟨ad, ss, v1, v2, s, t, rfl, hS, hs, ht, ds, dt, n50, q⟩ := h
  have hr1 : Room 1 _ := hr.mono (by omega)
  refine ⟨_, pss_cons (ps_if (pt_cmpR (op_eqD hr.units) (pv 1) (pv 2) (nomark _)) (pss_one (ps_ret pe_bl)) pss_nil)
    (pss_cons (ps_if (PW.pt (pw_or (pt_val (pe_callB call_isi rfl B.isi (by decide +kernel) (pa_cons (pv 1) (pa_cons (pe_bltn (v := .ty "str") rfl B.str (by decide +kernel) rfl) pa_nil))))
        (pw_or1 (pt_val (pe_callB call_isi rfl B.isi (by decide +kernel) (pa_cons (pv 2) (pa_cons (pe_bltn (v := .ty "str") rfl B.str (by decide +kernel) rfl) pa_nil)))))))
      (pss_one (ps_ret (pe_and (pe_cmpR (op_eqD hr.units) (pv 1) pe_str (nomark _)) (pe_one (pe_cmpR (op_eqD hr.units) (pv 2) pe_str (nomark _)))))) pss_nil)
    (pss_cons (ps_if (PW.pt (pw_and (pt_val (pe_call GC hr1 rfl DC.m DC.k DC.b .nil pass0 (pa_cons (pv 1) pa_nil))) (pw_and1 (pt_val (pe_call GC hr1 rfl DC.m DC.k DC.b .nil pass0 (pa_cons (pv 2) pa_nil))))))
      (pss_cons (ps_if (PW.pt (pw_or (pt_cmpR (op_eqD hr.units) (pv 1) (pe_glob (v := .ref aA) rfl gA rfl) (nomark _)) (pw_or1 (pt_cmpR (op_eqD hr.units) (pv 2) (pe_glob (v := .ref aA) rfl gA rfl) (nomark _)))))
        (pss_one (ps_ret (pe_cmpR (op_eqD hr.units) (pv 1) (pe_glob (v := .ref aA) rfl gA rfl) (nomark _)))) pss_nil)
      (pss_cons (ps_if (PW.pt (pw_and (pt_val (pe_call GH hr1 rfl DH.m DH.k DH.b .nil pass0 (pa_cons (pv 0) (pa_cons pe_str pa_nil))))
          (pw_and1 (pt_val (pe_call GS hr rfl DS.m DS.k DS.b .nil pass0 (pa_cons (pv 0) (pa_cons (pe_ix ix_tup (pv 1) pe_int (fun _ _ => rfl)) (pa_cons (pe_ix ix_tup (pv 2) pe_int (fun _ _ => rfl)) pa_nil))))))))
        (pss_one (ps_ret pe_bl)) pss_nil)
      (pss_one (ps_ret (pe_and (pe_cmpR op_in_seq pe_str (pv 0) rfl)
        (pe_one (pe_call GS hr rfl DS.m DS.k DS.b .nil pass0 (pa_cons (pv 0) (pa_cons (pe_ix ix_tup (pv 2) pe_int (fun _ _ => rfl)) (pa_cons (pe_ix ix_tup (pv 1) pe_int (fun _ _ => rfl)) pa_nil)))))))))) pss_nil)
    (pss_cons (ps_if (PW.pt (pw_or (pt_not (pt_val (pe_call GF hr1 rfl DF.m DF.k DF.b .nil pass0 (pa_cons (pv 1) pa_nil)))) (pw_or (pt_not (pt_val (pe_call GF hr1 rfl DF.m DF.k DF.b .nil pass0 (pa_cons (pv 2) pa_nil))))
        (pw_or1 (pt_not (pt_val (pe_call GS hr rfl DS.m DS.k DS.b .nil pass0 (pa_cons (pv 0) (pa_cons (pe_ix ix_tup (pv 1) pe_int (fun _ _ => rfl)) (pa_cons (pe_ix ix_tup (pv 2) pe_int (fun _ _ => rfl)) pa_nil))))))))))
      (pss_one (ps_ret pe_bl)) pss_nil)
    (pss_one (ps_ret (pe_or (pe_call GS hr rfl DS.m DS.k DS.b .nil pass0 (pa_cons (pv 0) (pa_cons (pe_ix ix_tup (pv 2) pe_int (fun _ _ => rfl)) (pa_cons (pe_ix ix_tup (pv 1) pe_int (fun _ _ => rfl)) pa_nil))))
      (pe_one (pe_and (pe_call GH hr1 rfl DH.m DH.k DH.b .nil pass0 (pa_cons (pv 0) (pa_cons pe_str pa_nil)))
        (pe_one (pe_call GS hr rfl DS.m DS.k DS.b .nil pass0 (pa_cons (pv 0) (pa_cons (pe_ix ix_tup (pv 1) pe_int (fun _ _ => rfl)) (pa_cons (pe_ix ix_tup (pv 2) pe_int (fun _ _ => rfl)) pa_nil)))))))))))))
    , ?_⟩
  have sS := shp_ty (t := s) (by omega)
  have sT := shp_ty (t := t) (by omega)
  refine ⟨_, rfl, _, rfl, s.d, t.d, hs, ht, sS, sT, _, rfl, ?_⟩
  refine ite2 (fun c => ?_) (fun c => ?_)
  · rw [eqv_ty] at c
    have z := q H (Same.refl H)
    rw [of_decide_eq_true c, wv_refl] at z
    exact z
  · rw [eqv_ty] at c
    have ne : ¬ s = t := fun e => c (decide_eq_true e)
    -- a plain type on one side
    have plain : plainT s = true ∨ plainT t = true → tRet (tAndV (tOp (rEqD K) (tVar 1) (tC (.str "big"))) (tOp (rEqD K) (tVar 2) (tC (.str "small")))) { nx := fun _ H' => Q .non H', rt := Q } [some (.ref ad), some v1, some v2] H := fun p => by
      have z := q H (Same.refl H)
      rw [wv_plain ne p] at z
      refine ⟨_, rfl, s.d, .str "big", hs, .str _, sS, by decide +kernel, _, rfl, ?_⟩
      have e1 : PyData.eqv s.d (.str "big") = decide (s = .big) := eqv_ty s .big
      have e2 : PyData.eqv t.d (.str "small") = decide (t = .small) := eqv_ty t .small
      rw [e1]
      refine ite2 (fun k => ?_) (fun k => ?_)
      · refine ⟨_, rfl, t.d, .str "small", ht, .str _, sT, by decide +kernel, ?_⟩
        rw [e2]
        rw [k, Bool.true_and] at z
        exact z
      · rw [Bool.eq_false_iff.mpr k, Bool.false_and] at z
        exact z
    refine ⟨_, rfl, v1, .ty "str", _, _, _, rfl, .ty "str", tyx_of hs, kit_str hs, _, rfl, ?_⟩
    refine ite2 (fun k1 => ?_) (fun k1 => ?_)
    · exact iteT (plain (.inl (by rw [← isStr_ty]; exact k1)))
    · refine ⟨_, rfl, v2, .ty "str", _, _, _, rfl, .ty "str", tyx_of ht, kit_str ht, _, rfl, ?_⟩
      refine ite2 (fun k2 => ?_) (fun k2 => ?_)
      · exact plain (.inr (by rw [← isStr_ty]; exact k2))
      · have np1 : ¬ plainT s = true := by rw [← isStr_ty]; exact k1
        have np2 : ¬ plainT t = true := by rw [← isStr_ty]; exact k2
        have dpA : ∀ H', Dp K H' (.ref aA) anyD := fun H' => .tup tA.sq (.cons (.str _) (.cons (.str _) .nil))
        have shA : Shp anyD := by decide +kernel
        cases s with
        | cell p =>
          obtain ⟨a1, w1, rfl, hs1, hd1⟩ := dp_cell hs
          have dp1 : p.dep + 1 < n + 1 := ds
          cases t with
          | cell p2 =>
            obtain ⟨a2, w2, rfl, ht1, hd2⟩ := dp_cell ht
            have dp2 : p2.dep + 1 < n + 1 := dt
            have against : ∀ H2, Same H H2 → (hasB ss "along" && withinV ss n p p2) = false →
                (tAndV (tOp (rIn K false) (tC (.str "against")) (tVar 0)) (tCall (spWithin K n) [] E0 (tCons (tVar 0) (tCons (tOp (rIxT K) (tVar 2) (tC (.int 1))) (tCons (tOp (rIxT K) (tVar 1) (tC (.int 1))) tNil))))) [some (.ref ad), some (.ref a1), some (.ref a2)] H2 Q := fun H2 e2 z0 => by
              refine ⟨_, rfl, ad, _, rfl, .inr (Same.sqT e2 hS), rfl, flat_map ss, _, rfl, ?_⟩
              refine ite2 (fun g => ?_) (fun g => ?_)
              · refine ⟨_, rfl, _, rfl, a2, _, 1, w2, rfl, rfl, Same.sqT e2 ht1, atI_nat (j := 1) rfl, _, rfl, a1, _, 1, w1, rfl, rfl, Same.sqT e2 hs1, atI_nat (j := 1) rfl, ?_⟩
                refine ⟨ad, ss, w2, w1, p2, p, rfl, Same.sqT e2 hS, Same.dp e2 hd2, Same.dp e2 hd1, by omega, by omega, by omega, fun H3 e3 => ?_⟩
                have z := q H3 (e2.trans e3)
                rw [wv_cell ne, z0, Bool.false_or, show inV (.str "against") (ss.map V.str) = true from g, Bool.true_and] at z
                exact z
              · have z := q H2 e2
                rw [wv_cell ne, z0, Bool.false_or, show inV (.str "against") (ss.map V.str) = false from Bool.eq_false_iff.mpr g, Bool.false_and] at z
                exact z
            refine ⟨_, rfl, a1, "cell", [w1], rfl, hs1, _, rfl, ?_⟩
            refine iteP (by decide) ?_
            refine ⟨_, rfl, a2, "cell", [w2], rfl, ht1, _, rfl, ?_⟩
            refine iteP (by decide) ?_
            refine ⟨_, rfl, (Ty.cell p).d, anyD, hs, dpA H, sS, shA, _, rfl, ?_⟩
            rw [eqv_anyD]
            refine iteF ?_
            refine ⟨_, rfl, (Ty.cell p2).d, anyD, ht, dpA H, sT, shA, _, rfl, ?_⟩
            rw [eqv_anyD]
            refine iteF ?_
            refine ⟨_, rfl, ad, ss, "along", rfl, hS, by decide +kernel, _, rfl, ?_⟩
            refine ite2 (fun kA => ?_) (fun kA => ?_)
            · refine ⟨_, rfl, _, rfl, a1, _, 1, w1, rfl, rfl, hs1, atI_nat (j := 1) rfl, _, rfl, a2, _, 1, w2, rfl, rfl, ht1, atI_nat (j := 1) rfl, ?_⟩
              refine ⟨ad, ss, w1, w2, p, p2, rfl, hS, hd1, hd2, by omega, by omega, by omega, fun H2 e2 => ⟨_, rfl, ?_⟩⟩
              refine ite2 (fun kB => ?_) (fun kB => ?_)
              · have z := q H2 e2
                rw [wv_cell ne, kA, kB, Bool.true_and, Bool.true_or] at z
                exact z
              · exact against H2 e2 (by rw [Bool.eq_false_iff.mpr kB, Bool.and_false])
            · exact iteF (against H (Same.refl H) (by rw [Bool.eq_false_iff.mpr kA, Bool.false_and]))
          | fn b r2 =>
            obtain ⟨a2, x2, y2, rfl, ht1, hd2, hd3⟩ := dp_fn ht
            have z := q H (Same.refl H)
            rw [wv_cf] at z
            refine ⟨_, rfl, a1, "cell", [w1], rfl, hs1, _, rfl, ?_⟩
            refine iteP (by decide) ?_
            refine ⟨_, rfl, a2, "fun", [x2, y2], rfl, ht1, _, rfl, ?_⟩
            refine iteN (by decide) ?_
            refine ⟨_, rfl, a1, "cell", [w1], rfl, hs1, _, rfl, ?_⟩
            exact iteP (by decide) (iteT z)
          | _ => exact (np2 rfl).elim
        | fn a r =>
          obtain ⟨a1, x1, y1, rfl, hs1, hd1, hd1'⟩ := dp_fn hs
          have dp1 : max a.dep r.dep + 1 < n + 1 := ds
          cases t with
          | cell p2 =>
            obtain ⟨a2, w2, rfl, ht1, hd2⟩ := dp_cell ht
            have z := q H (Same.refl H)
            rw [wv_fc] at z
            refine ⟨_, rfl, a1, "fun", [x1, y1], rfl, hs1, _, rfl, ?_⟩
            refine iteN (by decide) (iteF ?_)
            refine ⟨_, rfl, a1, "fun", [x1, y1], rfl, hs1, _, rfl, ?_⟩
            refine iteN (by decide) ?_
            refine ⟨_, rfl, a2, "cell", [w2], rfl, ht1, _, rfl, ?_⟩
            exact iteP (by decide) (iteT z)
          | fn b r2 =>
            obtain ⟨a2, x2, y2, rfl, ht1, hd2, hd2'⟩ := dp_fn ht
            have dp2 : max b.dep r2.dep + 1 < n + 1 := dt
            refine ⟨_, rfl, a1, "fun", [x1, y1], rfl, hs1, _, rfl, ?_⟩
            refine iteN (by decide) (iteF ?_)
            refine ⟨_, rfl, a1, "fun", [x1, y1], rfl, hs1, _, rfl, ?_⟩
            refine iteN (by decide) ?_
            refine ⟨_, rfl, a2, "fun", [x2, y2], rfl, ht1, _, rfl, ?_⟩
            refine iteN (by decide) ?_
            refine ⟨_, rfl, _, rfl, a1, _, 2, y1, rfl, rfl, hs1, atI_nat (j := 2) rfl, _, rfl, a2, _, 2, y2, rfl, rfl, ht1, atI_nat (j := 2) rfl, ?_⟩
            refine ⟨ad, ss, y1, y2, r, r2, rfl, hS, hd1', hd2', by omega, by omega, by omega, fun H2 e2 => ⟨_, rfl, ?_⟩⟩
            cases kR : withinV ss n r r2 with
            | false =>
              have z := q H2 e2
              rw [wv_fn ne, kR, Bool.false_and] at z
              exact z
            | true =>
              refine iteF ?_
              refine ⟨_, rfl, _, rfl, a2, _, 1, x2, rfl, rfl, Same.sqT e2 ht1, atI_nat (j := 1) rfl, _, rfl, a1, _, 1, x1, rfl, rfl, Same.sqT e2 hs1, atI_nat (j := 1) rfl, ?_⟩
              refine ⟨ad, ss, x2, x1, b, a, rfl, Same.sqT e2 hS, Same.dp e2 hd2, Same.dp e2 hd1, by omega, by omega, by omega, fun H3 e3 => ⟨_, rfl, ?_⟩⟩
              have e13 := e2.trans e3
              refine ite2 (fun kC => ?_) (fun kC => ?_)
              · have z := q H3 e13
                rw [wv_fn ne, kR, kC, Bool.true_and, Bool.true_or] at z
                exact z
              · have z0 : ∀ H', Same H H' → Q (.bl (hasB ss "args" && withinV ss n a b)) H' := fun H' e' => by
                  have z := q H' e'
                  rw [wv_fn ne, kR, Bool.eq_false_iff.mpr kC, Bool.true_and, Bool.false_or] at z
                  exact z
                refine ⟨_, rfl, ad, ss, "args", rfl, Same.sqT e13 hS, by decide +kernel, _, rfl, ?_⟩
                refine ite2 (fun kF => ?_) (fun kF => ?_)
                · refine ⟨_, rfl, _, rfl, a1, _, 1, x1, rfl, rfl, Same.sqT e13 hs1, atI_nat (j := 1) rfl, _, rfl, a2, _, 1, x2, rfl, rfl, Same.sqT e13 ht1, atI_nat (j := 1) rfl, ?_⟩
                  refine ⟨ad, ss, x1, x2, a, b, rfl, Same.sqT e13 hS, Same.dp e13 hd1, Same.dp e13 hd2, by omega, by omega, by omega, fun H4 e4 => ?_⟩
                  have z := z0 H4 (e13.trans e4)
                  rw [kF, Bool.true_and] at z
                  exact z
                · have z := z0 H3 e13
                  rw [Bool.eq_false_iff.mpr kF, Bool.false_and] at z
                  exact z
          | _ => exact (np2 rfl).elim
        | _ => exact (np1 rfl).elim
theorem ok_within (F : Fun K "within" "within" sWithin f fd) (B : Bl mg) (gA : mg "ANY" = some (.ref aA)) (tA : KTup K aA [.str "cell", .str "any"])
    (GH : FnOk P w K mg base CX0 1 fH fdH ["design", "word"] (spHas K)) (DH : Df K mg "has" fH fdH ["design", "word"])
    (GC : FnOk P w K mg base CX0 1 fC fdC ["kind"] (spHead K "cell")) (DC : Df K mg "is_cell" fC fdC ["kind"]) (GF : FnOk P w K mg base CX0 1 fF fdF ["kind"] (spHead K "fun")) (DF : Df K mg "is_fun" fF fdF ["kind"])
    (DS : Df K mg "within" f fd ["design", "one", "other"]) : ∀ n : Nat, FnOk P w K mg base CX0 (n + 1) f fd ["design", "one", "other"] (spWithin K n)
  | 0 => within_none
  | n + 1 => ok_within_step F B gA tA GH DH GC DC GF DF (ok_within F B gA tA GH DH GC DC GF DF DS n) DS
end
end K04

set_option Elab.async false
set_option linter.all false
set_option maxRecDepth 100000
set_option maxHeartbeats 4000000
namespace K04
open PySem L2
section
variable {P : Program} {w : World} {K : PySem.W.Frag} {mg : Str → Option Value} {base : Heap} {f fH : Addr} {fd fdH : FuncData}
theorem room65 {k : Nat} {A : Around} (r : Room k A) : A.units + 65 < cLine := by
  have z := r.un
  omega
theorem scLWithin : FnScope ["_law_design_here", "_law_one", "_law_other", "_law_up"] ["_law_design_here", "_law_one", "_law_other"] (defScope sLWithin) := ⟨rfl, rfl, rfl, by decide +kernel, rfl, by decide +kernel, by decide +kernel⟩
theorem ok_lwithin_step {n : Nat} (F : Fun K "_law_within" "_law_within" sLWithin f fd) (B : Bl mg)
    (GH : FnOk P w K mg base CX0 1 fH fdH ["_law_design_here", "_law_word"] (spHas K)) (DH : Df K mg "_law_has" fH fdH ["_law_design_here", "_law_word"])
    (GS : FnOk P w K mg base CX0 (n + 1) f fd ["_law_design_here", "_law_one", "_law_other"] (spWithin K n)) (DS : Df K mg "_law_within" f fd ["_law_design_here", "_law_one", "_law_other"]) :
    FnOk P w K mg base CX0 (n + 1 + 1) f fd ["_law_design_here", "_law_one", "_law_other"] (spWithin K (n + 1)) := by
  refine F.ok scLWithin (fun vs H Q E h => ?_) (fun cdv A outer s H vs Q E hr h => ?_)
  · obtain ⟨ad, ss, v1, v2, s, t, rfl, _⟩ := h
    rfl
  obtain ⟨ad, ss, v1, v2, s, t, rfl, hS, hs, ht, ds, dt, n50, q⟩ := h
  have hr1 : Room 1 _ := hr.mono (by omega)
  refine ⟨_, pss_cons (ps_if (pt_cmpR (op_eqD hr.units) (pv 1) (pv 2) (nomark _)) (pss_one (ps_ret pe_bl)) pss_nil)
    (pss_cons (ps_if (PW.pt (pw_or (pt_val (pe_callB call_isi rfl B.isi (by decide +kernel) (pa_cons (pv 1) (pa_cons (pe_bltn (v := .ty "str") rfl B.str (by decide +kernel) rfl) pa_nil))))
        (pw_or1 (pt_val (pe_callB call_isi rfl B.isi (by decide +kernel) (pa_cons (pv 2) (pa_cons (pe_bltn (v := .ty "str") rfl B.str (by decide +kernel) rfl) pa_nil)))))))
      (pss_one (ps_ret (pe_cmpR (op_eqD hr.units) (pe_tup (pa_cons (pv 1) (pa_cons (pv 2) pa_nil))) (pe_tup (pa_cons pe_str (pa_cons pe_str pa_nil))) (nomark _)))) pss_nil)
    (pss_cons (ps_if (pt_cmpR op_ne (pe_ix ix_tup (pv 1) pe_int (fun _ _ => rfl)) (pe_ix ix_tup (pv 2) pe_int (fun _ _ => rfl)) (nomark _)) (pss_one (ps_ret pe_bl)) pss_nil)
    (pss_cons (ps_if (pt_cmpR op_eq (pe_ix ix_tup (pv 1) pe_int (fun _ _ => rfl)) pe_str (nomark _))
      (pss_cons (ps_if (pt_cmpR (op_inD (room65 hr)) pe_str (pe_lst (pa_cons (pe_ix ix_tup (pv 1) pe_int (fun _ _ => rfl)) (pa_cons (pe_ix ix_tup (pv 2) pe_int (fun _ _ => rfl)) pa_nil))) rfl)
        (pss_one (ps_ret (pe_cmpR (op_eqD hr.units) (pe_ix ix_tup (pv 1) pe_int (fun _ _ => rfl)) pe_str (nomark _)))) pss_nil)
      (pss_cons (ps_set (i := 3) scLWithin.nd rfl (Or.inl rfl) (pe_and (pe_call GH hr1 rfl DH.m DH.k DH.b .nil pass0 (pa_cons (pv 0) (pa_cons pe_str pa_nil)))
          (pe_one (pe_call GS hr rfl DS.m DS.k DS.b .nil pass0 (pa_cons (pv 0) (pa_cons (pe_ix ix_tup (pv 1) pe_int (fun _ _ => rfl)) (pa_cons (pe_ix ix_tup (pv 2) pe_int (fun _ _ => rfl)) pa_nil)))))))
      (pss_one (ps_ret (pe_or (pv 3) (pe_one (pe_and (pe_cmpR op_in_seq pe_str (pv 0) rfl)
        (pe_one (pe_call GS hr rfl DS.m DS.k DS.b .nil pass0 (pa_cons (pv 0) (pa_cons (pe_ix ix_tup (pv 2) pe_int (fun _ _ => rfl)) (pa_cons (pe_ix ix_tup (pv 1) pe_int (fun _ _ => rfl)) pa_nil)))))))))))) pss_nil)
    (pss_cons (ps_if (pt_not (pt_val (pe_call GS hr rfl DS.m DS.k DS.b .nil pass0 (pa_cons (pv 0) (pa_cons (pe_ix ix_tup (pv 1) pe_int (fun _ _ => rfl)) (pa_cons (pe_ix ix_tup (pv 2) pe_int (fun _ _ => rfl)) pa_nil))))))
      (pss_one (ps_ret pe_bl)) pss_nil)
    (pss_one (ps_ret (pe_or (pe_call GS hr rfl DS.m DS.k DS.b .nil pass0 (pa_cons (pv 0) (pa_cons (pe_ix ix_tup (pv 2) pe_int (fun _ _ => rfl)) (pa_cons (pe_ix ix_tup (pv 1) pe_int (fun _ _ => rfl)) pa_nil))))
      (pe_one (pe_and (pe_call GH hr1 rfl DH.m DH.k DH.b .nil pass0 (pa_cons (pv 0) (pa_cons pe_str pa_nil)))
        (pe_one (pe_call GS hr rfl DS.m DS.k DS.b .nil pass0 (pa_cons (pv 0) (pa_cons (pe_ix ix_tup (pv 1) pe_int (fun _ _ => rfl)) (pa_cons (pe_ix ix_tup (pv 2) pe_int (fun _ _ => rfl)) pa_nil))))))))))))))
    , ?_⟩
  have sS := shp_ty (t := s) (by omega)
  have sT := shp_ty (t := t) (by omega)
  refine ⟨_, rfl, _, rfl, s.d, t.d, hs, ht, sS, sT, _, rfl, ?_⟩
  refine ite2 (fun c => ?_) (fun c => ?_)
  · rw [eqv_ty] at c
    have z := q H (Same.refl H)
    rw [of_decide_eq_true c, wv_refl] at z
    exact z
  · rw [eqv_ty] at c
    have ne : ¬ s = t := fun e => c (decide_eq_true e)
    -- a plain type on one side
    have plain : plainT s = true ∨ plainT t = true →
        (tOp (rEqD K) (tTup (tCons (tVar 1) (tCons (tVar 2) tNil))) (tTup (tCons (tC (.str "big")) (tCons (tC (.str "small")) tNil)))) [some (.ref ad), some v1, some v2, none] H Q := fun p => by
      refine ⟨_, rfl, _, rfl, (by show 2 ≤ sizeLine; decide), fun p1 hp1 => ?_⟩
      have e1 := same_new hp1 (.tup [v1, v2])
      refine ⟨(by show 2 ≤ sizeLine; decide), fun p2 hp2 => ?_⟩
      have e2 := same_new hp2 (.tup [.str "big", .str "small"])
      have e12 := e1.trans e2
      have sh : Shp (.tuple [s.d, t.d]) := by
        obtain ⟨l1, l2⟩ := lay_ty s
        obtain ⟨l3, l4⟩ := lay_ty t
        show (PyData.canLay0 (.tuple [s.d, t.d]) && decide (PyData.depth (.tuple [s.d, t.d]) ≤ 64)) = true
        unfold PyData.canLay0 PyData.canLayAll0 PyData.canLayAll0 PyData.canLayAll0 PyData.depth PyData.depthAll PyData.depthAll PyData.depthAll
        rw [l1, l2, l3, l4, decide_eq_true (show max s.dep (max t.dep 0) + 1 ≤ 64 by omega)] <;> rfl
      refine ⟨.tuple [s.d, t.d], .tuple [.str "big", .str "small"], .tup (SqT.of (e2 _ _ upd_same)) (.cons (Same.dp e12 hs) (.cons (Same.dp e12 ht) .nil)), .tup (SqT.of upd_same) (.cons (.str _) (.cons (.str _) .nil)), sh, by decide +kernel, ?_⟩
      have z := q _ e12
      rw [wv_plain ne p] at z
      have e : PyData.eqv (.tuple [s.d, t.d]) (.tuple [.str "big", .str "small"]) = (decide (s = .big) && decide (t = .small)) := by
        show (PyData.eqv s.d Ty.big.d && (PyData.eqv t.d Ty.small.d && true)) = _
        rw [eqv_ty, eqv_ty, Bool.and_true]
      rw [e]
      exact z
    refine ⟨_, rfl, v1, .ty "str", _, _, _, rfl, .ty "str", tyx_of hs, kit_str hs, _, rfl, ?_⟩
    refine ite2 (fun k1 => ?_) (fun k1 => ?_)
    · exact iteT (plain (.inl (by rw [← isStr_ty]; exact k1)))
    · refine ⟨_, rfl, v2, .ty "str", _, _, _, rfl, .ty "str", tyx_of ht, kit_str ht, _, rfl, ?_⟩
      refine ite2 (fun k2 => ?_) (fun k2 => ?_)
      · exact plain (.inr (by rw [← isStr_ty]; exact k2))
      · have np1 : ¬ plainT s = true := by rw [← isStr_ty]; exact k1
        have np2 : ¬ plainT t = true := by rw [← isStr_ty]; exact k2
        cases s with
        | cell p =>
          obtain ⟨a1, w1, rfl, hs1, hd1⟩ := dp_cell hs
          have dp1 : p.dep + 1 < n + 1 := ds
          cases t with
          | cell p2 =>
            obtain ⟨a2, w2, rfl, ht1, hd2⟩ := dp_cell ht
            have dp2 : p2.dep + 1 < n + 1 := dt
            refine ⟨_, rfl, a1, _, 0, _, rfl, rfl, hs1, atI_nat (j := 0) rfl, _, rfl, a2, _, 0, _, rfl, rfl, ht1, atI_nat (j := 0) rfl, rfl, _, rfl, ?_⟩
            refine iteN (by decide) ?_
            refine ⟨_, rfl, a1, _, 0, _, rfl, rfl, hs1, atI_nat (j := 0) rfl, rfl, _, rfl, ?_⟩
            refine iteP (by decide) ?_
            refine ⟨_, rfl, a1, _, 1, w1, rfl, rfl, hs1, atI_nat (j := 1) rfl, _, rfl, a2, _, 1, w2, rfl, rfl, ht1, atI_nat (j := 1) rfl, (by show 2 ≤ sizeLine; decide), fun l hl => ?_⟩
            have e1 := same_new hl (.lst [w1, w2])
            have sh : Shp (.list [p.d, p2.d]) := by
              obtain ⟨l1, l2⟩ := lay_ty p
              obtain ⟨l3, l4⟩ := lay_ty p2
              show (PyData.canLay0 (.list [p.d, p2.d]) && decide (PyData.depth (.list [p.d, p2.d]) ≤ 64)) = true
              unfold PyData.canLay0 PyData.canLayAll0 PyData.canLayAll0 PyData.canLayAll0 PyData.depth PyData.depthAll PyData.depthAll PyData.depthAll
              rw [l1, l2, l3, l4, decide_eq_true (show max p.dep (max p2.dep 0) + 1 ≤ 64 by omega)] <;> rfl
            refine ⟨.str "any", [p.d, p2.d], .str _, .lst (SqL.of upd_same) (.cons (Same.dp e1 hd1) (.cons (Same.dp e1 hd2) .nil)), by decide +kernel, sh, _, rfl, ?_⟩
            have ea : ([p.d, p2.d].any fun z => PyData.eqv z (.str "any")) = false := by
              rw [List.any_cons, List.any_cons, eqv_any, eqv_any] <;> rfl
            rw [ea]
            refine iteF ?_
            have hS1 := Same.sqT e1 hS
            have hs2 := Same.sqT e1 hs1
            have ht2 := Same.sqT e1 ht1
            have hdp1 := Same.dp e1 hd1
            have hdp2 := Same.dp e1 hd2
            generalize upd H l (.lst [w1, w2]) = H1 at e1 hS1 hs2 ht2 hdp1 hdp2 ⊢
            -- behind «up»
            have behind : ∀ (b : Bool) (H2 : Hp), Same H1 H2 → b = (hasB ss "along" && withinV ss n p p2) →
                (tOrV (tVar 3) (tAndV (tOp (rIn K false) (tC (.str "against")) (tVar 0)) (tCall (spWithin K n) [] E0 (tCons (tVar 0) (tCons (tOp (rIxT K) (tVar 2) (tC (.int 1))) (tCons (tOp (rIxT K) (tVar 1) (tC (.int 1))) tNil))))))
                  [some (.ref ad), some (.ref a1), some (.ref a2), some (.bl b)] H2 Q := fun b H2 e2 eb => by
              refine ⟨_, rfl, _, rfl, ?_⟩
              have e02 := e1.trans e2
              cases b with
              | true =>
                have z := q H2 e02
                rw [wv_cell ne, ← eb, Bool.true_or] at z
                exact iteT z
              | false =>
                refine iteF ?_
                refine ⟨_, rfl, ad, _, rfl, .inr (Same.sqT e02 hS), rfl, flat_map ss, _, rfl, ?_⟩
                refine ite2 (fun g => ?_) (fun g => ?_)
                · refine ⟨_, rfl, _, rfl, a2, _, 1, w2, rfl, rfl, Same.sqT e2 ht2, atI_nat (j := 1) rfl, _, rfl, a1, _, 1, w1, rfl, rfl, Same.sqT e2 hs2, atI_nat (j := 1) rfl, ?_⟩
                  refine ⟨ad, ss, w2, w1, p2, p, rfl, Same.sqT e02 hS, Same.dp e2 hdp2, Same.dp e2 hdp1, by omega, by omega, by omega, fun H3 e3 => ?_⟩
                  have z := q H3 (e02.trans e3)
                  rw [wv_cell ne, ← eb, Bool.false_or, show inV (.str "against") (ss.map V.str) = true from g, Bool.true_and] at z
                  exact z
                · have z := q H2 e02
                  rw [wv_cell ne, ← eb, Bool.false_or, show inV (.str "against") (ss.map V.str) = false from Bool.eq_false_iff.mpr g, Bool.false_and] at z
                  exact z
            refine ⟨_, rfl, ad, ss, "along", rfl, hS1, by decide +kernel, _, rfl, ?_⟩
            refine ite2 (fun kA => ?_) (fun kA => ?_)
            · refine ⟨_, rfl, _, rfl, a1, _, 1, w1, rfl, rfl, hs2, atI_nat (j := 1) rfl, _, rfl, a2, _, 1, w2, rfl, rfl, ht2, atI_nat (j := 1) rfl, ?_⟩
              refine ⟨ad, ss, w1, w2, p, p2, rfl, hS1, hdp1, hdp2, by omega, by omega, by omega, fun H2 e2 => ?_⟩
              exact behind _ H2 e2 (by rw [kA, Bool.true_and])
            · exact behind false H1 (Same.refl H1) (by rw [Bool.eq_false_iff.mpr kA, Bool.false_and])
          | fn b r2 =>
            obtain ⟨a2, x2, y2, rfl, ht1, hd2, hd3⟩ := dp_fn ht
            have z := q H (Same.refl H)
            rw [wv_cf] at z
            refine ⟨_, rfl, a1, _, 0, _, rfl, rfl, hs1, atI_nat (j := 0) rfl, _, rfl, a2, _, 0, _, rfl, rfl, ht1, atI_nat (j := 0) rfl, rfl, _, rfl, ?_⟩
            exact iteP (by decide) z
          | _ => exact (np2 rfl).elim
        | fn a r =>
          obtain ⟨a1, x1, y1, rfl, hs1, hd1, hd1'⟩ := dp_fn hs
          have dp1 : max a.dep r.dep + 1 < n + 1 := ds
          cases t with
          | cell p2 =>
            obtain ⟨a2, w2, rfl, ht1, hd2⟩ := dp_cell ht
            have z := q H (Same.refl H)
            rw [wv_fc] at z
            refine ⟨_, rfl, a1, _, 0, _, rfl, rfl, hs1, atI_nat (j := 0) rfl, _, rfl, a2, _, 0, _, rfl, rfl, ht1, atI_nat (j := 0) rfl, rfl, _, rfl, ?_⟩
            exact iteP (by decide) z
          | fn b r2 =>
            obtain ⟨a2, x2, y2, rfl, ht1, hd2, hd2'⟩ := dp_fn ht
            have dp2 : max b.dep r2.dep + 1 < n + 1 := dt
            refine ⟨_, rfl, a1, _, 0, _, rfl, rfl, hs1, atI_nat (j := 0) rfl, _, rfl, a2, _, 0, _, rfl, rfl, ht1, atI_nat (j := 0) rfl, rfl, _, rfl, ?_⟩
            refine iteN (by decide) ?_
            refine ⟨_, rfl, a1, _, 0, _, rfl, rfl, hs1, atI_nat (j := 0) rfl, rfl, _, rfl, ?_⟩
            refine iteN (by decide) ?_
            refine ⟨_, rfl, _, rfl, a1, _, 2, y1, rfl, rfl, hs1, atI_nat (j := 2) rfl, _, rfl, a2, _, 2, y2, rfl, rfl, ht1, atI_nat (j := 2) rfl, ?_⟩
            refine ⟨ad, ss, y1, y2, r, r2, rfl, hS, hd1', hd2', by omega, by omega, by omega, fun H2 e2 => ⟨_, rfl, ?_⟩⟩
            cases kR : withinV ss n r r2 with
            | false =>
              have z := q H2 e2
              rw [wv_fn ne, kR, Bool.false_and] at z
              exact z
            | true =>
              refine iteF ?_
              refine ⟨_, rfl, _, rfl, a2, _, 1, x2, rfl, rfl, Same.sqT e2 ht1, atI_nat (j := 1) rfl, _, rfl, a1, _, 1, x1, rfl, rfl, Same.sqT e2 hs1, atI_nat (j := 1) rfl, ?_⟩
              refine ⟨ad, ss, x2, x1, b, a, rfl, Same.sqT e2 hS, Same.dp e2 hd2, Same.dp e2 hd1, by omega, by omega, by omega, fun H3 e3 => ⟨_, rfl, ?_⟩⟩
              have e13 := e2.trans e3
              refine ite2 (fun kC => ?_) (fun kC => ?_)
              · have z := q H3 e13
                rw [wv_fn ne, kR, kC, Bool.true_and, Bool.true_or] at z
                exact z
              · have z0 : ∀ H', Same H H' → Q (.bl (hasB ss "args" && withinV ss n a b)) H' := fun H' e' => by
                  have z := q H' e'
                  rw [wv_fn ne, kR, Bool.eq_false_iff.mpr kC, Bool.true_and, Bool.false_or] at z
                  exact z
                refine ⟨_, rfl, ad, ss, "args", rfl, Same.sqT e13 hS, by decide +kernel, _, rfl, ?_⟩
                refine ite2 (fun kF => ?_) (fun kF => ?_)
                · refine ⟨_, rfl, _, rfl, a1, _, 1, x1, rfl, rfl, Same.sqT e13 hs1, atI_nat (j := 1) rfl, _, rfl, a2, _, 1, x2, rfl, rfl, Same.sqT e13 ht1, atI_nat (j := 1) rfl, ?_⟩
                  refine ⟨ad, ss, x1, x2, a, b, rfl, Same.sqT e13 hS, Same.dp e13 hd1, Same.dp e13 hd2, by omega, by omega, by omega, fun H4 e4 => ?_⟩
                  have z := z0 H4 (e13.trans e4)
                  rw [kF, Bool.true_and] at z
                  exact z
                · have z := z0 H3 e13
                  rw [Bool.eq_false_iff.mpr kF, Bool.false_and] at z
                  exact z
          | _ => exact (np2 rfl).elim
        | _ => exact (np1 rfl).elim
theorem ok_lwithin (F : Fun K "_law_within" "_law_within" sLWithin f fd) (B : Bl mg)
    (GH : FnOk P w K mg base CX0 1 fH fdH ["_law_design_here", "_law_word"] (spHas K)) (DH : Df K mg "_law_has" fH fdH ["_law_design_here", "_law_word"])
    (DS : Df K mg "_law_within" f fd ["_law_design_here", "_law_one", "_law_other"]) : ∀ n : Nat, FnOk P w K mg base CX0 (n + 1) f fd ["_law_design_here", "_law_one", "_law_other"] (spWithin K n)
  | 0 => within_none
  | n + 1 => ok_lwithin_step F B GH DH (ok_lwithin F B GH DH DS n) DS
end
end K04

set_option Elab.async false
set_option linter.all false
set_option maxRecDepth 100000
set_option maxHeartbeats 4000000
namespace K04
open PySem L2
section
variable {P : Program} {w : World} {K : PySem.W.Frag} {mg : Str → Option Value} {base : Heap} {f fD fT fW CT CD : Addr} {fd fdD fdT fdW : FuncData}
/-! ### lies_within -/
def spLies (K : PySem.W.Frag) (CT CD : Addr) : Sp := fun vs H Q E => ∃ (v v1 v2 : V) (dd d1 d2 : PyData), vs = [v, v1, v2] ∧ Dp K H v dd ∧ few dd ∧ Dp K H v1 d1 ∧ Shp d1 ∧ Dp K H v2 d2 ∧ Shp d2 ∧
  (∀ H', Same H H' → (isDesD dd = false → E (.ref CD) none H') ∧ (isDesD dd = true → isDeepD 3 d1 = false → E (.ref CT) none H') ∧ (isDesD dd = true → isDeepD 3 d1 = true → isDeepD 3 d2 = false → E (.ref CT) none H')) ∧
  (isDesD dd = true → isDeepD 3 d1 = true → isDeepD 3 d2 = true → ∃ (ad : Addr) (ss : List Str) (s t : Ty), v = .ref ad ∧ SqT K H ad (ss.map V.str) ∧ d1 = s.d ∧ d2 = t.d ∧ s.dep ≤ 3 ∧ t.dep ≤ 3 ∧ ∀ H', Same H H' → Q (.bl (withinV ss 4 s t)) H')
theorem scLies : FnScope ["design", "one", "other"] ["design", "one", "other"] (defScope sLies) := ⟨rfl, rfl, rfl, by decide +kernel, rfl, by decide +kernel, by decide +kernel⟩
theorem ok_lies (F : Fun K "lies_within" "lies_within" sLies f fd) (GD : FnOk P w K mg base (L2.CX P w) 2 fD fdD ["design"] (spNeedD K CD)) (DD : Df K mg "need_design" fD fdD ["design"])
    (GT : FnOk P w K mg base (L2.CX P w) 6 fT fdT ["value"] (spNeedT K CT)) (DT : Df K mg "need_type" fT fdT ["value"])
    (GW : FnOk P w K mg base CX0 5 fW fdW ["design", "one", "other"] (spWithin K 4)) (DW : Df K mg "within" fW fdW ["design", "one", "other"]) :
    FnOk P w K mg base (L2.CX P w) 7 f fd ["design", "one", "other"] (spLies K CT CD) := by
  refine F.okX scLies (fun vs H Q E h => ?_) (fun cdv A outer s H vs Q E hr h => ?_)
  · obtain ⟨v, v1, v2, dd, d1, d2, rfl, _⟩ := h
    rfl
  obtain ⟨v, v1, v2, dd, d1, d2, rfl, hd, fw, h1, s1, h2, s2, q, qq⟩ := h
  have hr2 : Room 2 _ := hr.mono (by decide)
  have hr5 : Room 5 _ := hr.mono (by decide)
  refine ⟨_, pss_cons (ps_expr (pe_call GD hr2 rfl DD.m DD.k DD.b .nil (passes_call (takes_of (E := E) rfl rfl rfl rfl) fun _ _ _ _ h => h) (pa_cons (pv 0) pa_nil)))
    (pss_cons (ps_expr (pe_call GT hr rfl DT.m DT.k DT.b .nil (passes_call (takes_of (E := E) rfl rfl rfl rfl) fun _ _ _ _ h => h) (pa_cons (pv 1) pa_nil)))
    (pss_cons (ps_expr (pe_call GT hr rfl DT.m DT.k DT.b .nil (passes_call (takes_of (E := E) rfl rfl rfl rfl) fun _ _ _ _ h => h) (pa_cons (pv 2) pa_nil)))
    (pss_one (ps_ret (pe_call GW hr5 rfl DW.m DW.k DW.b .nil pass0 (pa_cons (pv 0) (pa_cons (pv 1) (pa_cons (pv 2) pa_nil)))))))), ?_⟩
  refine ⟨_, rfl, v, dd, rfl, hd, fw, fun H1 e1 => ⟨fun cD => ?_, fun cD => (q H1 e1).1 cD⟩⟩
  refine ⟨_, rfl, v1, d1, rfl, Same.dp e1 h1, s1, fun H2 e2 => ⟨fun c1 => ?_, fun c1 => (q H2 (e1.trans e2)).2.1 cD c1⟩⟩
  have e12 := e1.trans e2
  refine ⟨_, rfl, v2, d2, rfl, Same.dp e12 h2, s2, fun H3 e3 => ⟨fun c2 => ?_, fun c2 => (q H3 (e12.trans e3)).2.2 cD c1 c2⟩⟩
  have e13 := e12.trans e3
  obtain ⟨ad, ss, s', t', ev, hS, ed1, ed2, z1, z2, z⟩ := qq cD c1 c2
  subst ev
  subst ed1
  subst ed2
  exact ⟨_, rfl, _, rfl, _, rfl, ad, ss, v1, v2, s', t', rfl, Same.sqT e13 hS, Same.dp e13 h1, Same.dp e13 h2, by omega, by omega, by decide, fun H4 e4 => z H4 (e13.trans e4)⟩
/-! ### _law_alike of two truth values -/
def spAlike : Sp := fun vs H Q _ => ∃ x y : Bool, vs = [.bl x, .bl y] ∧ ∀ H', Same H H' → Q (.bl (decide (x = y))) H'
theorem scAlike : FnScope ["_law_found", "_law_due", "_law_k"] ["_law_found", "_law_due"] (defScope sAlike) := ⟨rfl, rfl, rfl, by decide +kernel, rfl, by decide +kernel, by decide +kernel⟩
theorem kitA (K : PySem.W.Frag) : PySem.W.kitAny K (.type "bool") [.type "tuple", .type "list"] = some false :=
  kitAny_cons (b := false) (kit_ty (by decide +kernel)) (fun _ => kitAny_cons (b := false) (kit_ty (by decide +kernel)) (fun _ => kitAny_nil) (fun z => by cases z)) (fun z => by cases z)
theorem ok_alike (F : Fun K "_law_alike" "_law_alike" sAlike f fd) (B : Bl mg) : FnOk P w K mg base CX0 1 f fd ["_law_found", "_law_due"] spAlike := by
  refine F.ok scAlike (fun vs H Q E h => ?_) (fun cdv A outer s H vs Q E hr h => ?_)
  · obtain ⟨x, y, rfl, _⟩ := h
    rfl
  obtain ⟨x, y, rfl, q⟩ := h
  refine ⟨_, pss_cons (ps_if (pt_val (pe_callB call_isiT rfl B.isi (by decide +kernel) (pa_cons (pv 1) (pa_cons (pe_tup (pa_cons (pe_bltn (v := .ty "tuple") rfl B.tup (by decide +kernel) rfl) (pa_cons (pe_bltn (v := .ty "list") rfl B.lst (by decide +kernel) rfl) pa_nil))) pa_nil)))) pss_never pss_nil)
    (pss_cons (ps_if (PW.pt (pw_or (pt_cmpR op_isN (pv 1) pe_non (nomark _)) (pw_or1 (pt_val (pe_callB call_isi rfl B.isi (by decide +kernel) (pa_cons (pv 1) (pa_cons (pe_bltn (v := .ty "str") rfl B.str (by decide +kernel) rfl) pa_nil))))))) pss_never pss_nil)
    (pss_one (ps_ret (pe_and (pe_callB call_isi rfl B.isi (by decide +kernel) (pa_cons (pv 0) (pa_cons (pe_bltn (v := .ty "int") rfl B.int (by decide +kernel) rfl) pa_nil)))
      (pe_and (pe_cmpR op_eq (pe_callB call_isi rfl B.isi (by decide +kernel) (pa_cons (pv 0) (pa_cons (pe_bltn (v := .ty "bool") rfl B.bool (by decide +kernel) rfl) pa_nil)))
          (pe_callB call_isi rfl B.isi (by decide +kernel) (pa_cons (pv 1) (pa_cons (pe_bltn (v := .ty "bool") rfl B.bool (by decide +kernel) rfl) pa_nil))) (nomark _))
      (pe_one (pe_cmpR op_eq (pv 0) (pv 1) (nomark _)))))))), ?_⟩
  refine ⟨_, rfl, (by show 2 ≤ sizeLine; decide), fun p hp => ?_⟩
  have e1 := same_new hp (.tup [.ty "tuple", .ty "list"])
  refine ⟨.bl y, p, [.ty "tuple", .ty "list"], .type "bool", [.type "tuple", .type "list"], false, rfl, upd_same, .cons (.ty _) (.cons (.ty _) .nil), .base (.bl y), kitA K, _, rfl, ?_⟩
  refine iteF ?_
  refine ⟨_, rfl, rfl, _, rfl, ?_⟩
  refine iteN (by simp) ?_
  refine ⟨_, rfl, .bl y, .ty "str", .type "bool", .type "str", false, rfl, .ty "str", .base (.bl y), kit_ty (by decide +kernel), _, rfl, ?_⟩
  refine iteF ?_
  refine ⟨_, rfl, .bl x, .ty "int", .type "bool", .type "int", true, rfl, .ty "int", .base (.bl x), kit_ty (by decide +kernel), _, rfl, ?_⟩
  refine iteT ?_
  refine ⟨_, rfl, .bl x, .ty "bool", .type "bool", .type "bool", true, rfl, .ty "bool", .base (.bl x), kit_ty (by decide +kernel), ?_⟩
  refine ⟨_, rfl, .bl y, .ty "bool", .type "bool", .type "bool", true, rfl, .ty "bool", .base (.bl y), kit_ty (by decide +kernel), ?_⟩
  refine ⟨rfl, _, rfl, iteP (by decide) ?_⟩
  refine ⟨_, rfl, _, rfl, rfl, ?_⟩
  have z := q _ e1
  have e : decide (V.bl x = V.bl y) = decide (x = y) := by cases x <;> cases y <;> decide
  rw [e]
  exact z
end
end K04

set_option Elab.async false
set_option linter.all false
set_option maxRecDepth 100000
set_option maxHeartbeats 4000000
/-! K04K: the set of a tuple of texts, and sorted of it. -/
namespace K04
open PySem PySem.Spec PyProof.Rows L2

def kT (e : Int × Value) : Str := strOf e.2
def GdT (w : World) (e : Int × Value) : Prop := ∃ x tk, e.2 = Value.str x tk ∧ e.1 = hashStr w x
/-- at a: the set whose members are the texts of xs -/
def SetT (w : World) (h : Heap) (a : Addr) (xs : List Str) : Prop :=
  ∃ o es ep t, h.get? a = some o ∧ o.ExactSet ∧ o.data = .set es ep t ∧ (∀ e ∈ es.toList, GdT w e) ∧ (es.toList.map kT).Nodup ∧ (∀ k, k ∈ xs ↔ k ∈ es.toList.map kT) ∧
    es.size ≤ xs.length ∧ t.fits es.size = true ∧ Ris t.place.toList ∧ (w.params.followText "set-order" = true ∨ t.led = true)

theorem SetT.at {w : World} {h h' : Heap} {a : Addr} {xs : List Str} (R : SetT w h a xs) (k : ∀ o, h.get? a = some o → h'.get? a = some o) : SetT w h' a xs := by
  obtain ⟨o, es, ep, t, e, r⟩ := R
  exact ⟨o, es, ep, t, k o e, r⟩
theorem gd_elems {P : Program} {w : World} {l : List (Int × Value)} (g : ∀ e ∈ l, GdT w e) : ElemsOf (PySem.strKind P w) l := fun e he => by
  obtain ⟨x, tk, h1, h2⟩ := g e he
  exact ⟨⟨x, by rw [h1]; exact strKind_is P w x tk, h2⟩, by rw [h1] <;> rfl⟩
theorem gd_is {P : Program} {w : World} {e : Int × Value} (g : GdT w e) (k : Str) : (PySem.strKind P w).is k e.2 = true ↔ kT e = k := by
  obtain ⟨x, tk, h1, _⟩ := g
  unfold kT
  rw [h1]
  show ((x == k) = true) ↔ x = k
  exact beq_iff_eq

/-- the entry is laid; the table may grow -/
theorem grow_st {P : Program} {w : World} {A : Around} {E : Value → Shared → Prop} {s : Shared} {a : Addr} {g : Bool → Sem Unit}
    (hg : ∀ (b : Bool) (s₁ : Shared) (Q' : Unit → Shared → Prop), Q' () s₁ → wpAny (model P w) A (g b) Q' E s₁)
    {o : Obj} {es es1 : Array (Int × Value)} {ep : Nat} {t t2 : SetTable} {xs : List Str} (e0 : s.heap.get? a = some o) (ex : o.ExactSet) (d0 : o.data = .set es ep t)
    (g1 : ∀ e ∈ es1.toList, GdT w e) (nd1 : (es1.toList.map kT).Nodup) (m1 : ∀ k, k ∈ xs ↔ k ∈ es1.toList.map kT) (few : xs.length < 1000)
    (z1 : es1.size ≤ xs.length) (f2 : t2.fits es1.size = true) (r2 : Ris t2.place.toList) (l2 : w.params.followText "set-order" = true ∨ t2.led = true) {dm : Bool} {R : Option Bool → Shared → Prop}
    (q : ∀ h', Heap.SameBut a s.heap h' → SetT w h' a xs → R (some true) { s with heap := h' }) :
    wpAny (model P w) A (do
        storeSet a es1 t2
        if (!dm && t2.tooFull) = true then do
            g (relayAll t2 es1 (SetTable.grown es1.size)).2.2
            storeSet a (relayAll t2 es1 (SetTable.grown es1.size)).1 (relayAll t2 es1 (SetTable.grown es1.size)).2.1
            pure (some true)
          else pure (some true)) R E s := by
  have sb : es1.size < scanBound := by unfold scanBound; omega
  refine wpAny_bind (wpAny_storeSet_of e0 d0 ?_ (fits_of_scanBound sb))
  have e1 := L2.store_at (es' := es1) (t' := t2) e0 d0
  have s1 := Heap.SameBut.update s.heap a (Obj.putSet es1 t2)
  split
  · have pm := relayAll_perm t2 es1 (SetTable.grown es1.size)
    have f3 := relayAll_fits t2 es1 (SetTable.grown es1.size)
    have r3 := relayAll_ris t2 es1 (SetTable.grown es1.size)
    have l3 := relayAll_led t2 es1 (SetTable.grown es1.size)
    generalize relayAll t2 es1 (SetTable.grown es1.size) = Y at pm f3 r3 l3 ⊢
    obtain ⟨es2, t3, gv⟩ := Y
    dsimp only at pm f3 r3 l3 ⊢
    have zz : es2.size = es1.size := by rw [← Array.length_toList, pm.length_eq, Array.length_toList]
    refine wpAny_bind (hg _ _ _ ?_)
    refine wpAny_bind (wpAny_storeSet_of e1 rfl ?_ (fits_of_scanBound (by rw [zz]; exact sb)))
    refine wpAny_pure (q _ (s1.trans (Heap.SameBut.update _ a _)) ?_)
    exact ⟨_, es2, _, t3, L2.store_at (es' := es2) (t' := t3) e1 rfl, ex, rfl, fun e he => g1 e (pm.mem_iff.mp he), (pm.map kT).nodup_iff.mpr nd1,
      fun k => (m1 k).trans (pm.map kT).mem_iff.symm, by rw [zz]; exact z1, f3, r3, l2.imp id fun z => by rw [l3]; exact z⟩
  · exact wpAny_pure (q _ s1 ⟨_, es1, _, t2, e1, ex, rfl, g1, nd1, m1, z1, f2, r2, l2⟩)

theorem add_st {P : Program} {w : World} {A : Around} {E : Value → Shared → Prop} {s : Shared} {a : Addr} {xs : List Str} {k : Str} {tk : Tok} {Q : Bool → Shared → Prop}
    (R : SetT w s.heap a xs) (few : xs.length + 1 < 1000)
    (q : ∀ b h', Heap.SameBut a s.heap h' → SetT w h' a (xs ++ [k]) → Q b { s with heap := h' }) :
    wpAny (model P w) A (setAddHashed a (.str k tk) ((PySem.strKind P w).hash k)) Q E s := by
  obtain ⟨o, es, ep, t, e0, ex, d0, g, nd, m, z, f, r, l⟩ := R
  have kk : (PySem.strKind P w).is k (.str k tk) = true := strKind_is P w k tk
  have sc : (Value.str k tk).scannable = true := rfl
  have el : ElemsOf (PySem.strKind P w) es.toList := gd_elems g
  have sb : es.size < scanBound := by unfold scanBound; omega
  unfold setAddHashed setAddHashedIn
  refine wpAny_holding (wpAny_bind (wpAny_setState_of e0 d0 f ?_))
  dsimp only
  rw [byScan_of sc sb el]
  simp only [↓reduceIte]
  unfold setAddByScan
  refine wpAny_bind ?_
  refine wpAny_bind (wpAny_rule ?_)
  refine wpAny_bind (wpAny_setScan_of kk e0 d0 f el ?_)
  cases fi : List.findIdx? (fun e => (PySem.strKind P w).is k e.2) es.toList with
  | some j =>
    dsimp only
    obtain ⟨hj, pj, _⟩ := List.findIdx?_eq_some_iff_getElem.mp fi
    have km : k ∈ es.toList.map kT := List.mem_map.mpr ⟨es.toList[j], List.getElem_mem hj, (gd_is (g _ (List.getElem_mem hj)) k).1 pj⟩
    refine wpAny_pure (wpAny_pure ?_)
    exact q _ s.heap (Heap.SameBut.refl a s.heap) ⟨o, es, ep, t, e0, ex, d0, g, nd, fun i => by
      rw [List.mem_append, m i, List.mem_singleton]
      exact ⟨fun c => c.elim id (fun e => e ▸ km), .inl⟩, by rw [List.length_append]; omega, f, r, l⟩
  | none =>
    dsimp only
    have nk : k ∉ es.toList.map kT := fun c => by
      obtain ⟨e, he, y⟩ := List.mem_map.mp c
      have n := List.findIdx?_eq_none_iff.mp fi e he
      rw [(gd_is (P := P) (g e he) k).2 y] at n
      cases n
    have gw : ∀ (b : Bool) {s₁ : Shared} {Q' : Unit → Shared → Prop}, Q' () s₁ → wpAny (model P w) A (match b with | true => rule "set.scan.the-table-gave-way" | false => pure ()) Q' E s₁ :=
      fun b _ _ y => by cases b <;> first | exact wpAny_pure y | exact wpAny_rule y
    have pm := layNew_perm t es ((PySem.strKind P w).hash k) (.str k tk)
    have f1 := layNew_fits t es ((PySem.strKind P w).hash k) (.str k tk)
    have r1 := layNew_ris t es ((PySem.strKind P w).hash k) (.str k tk) r
    have l1 := layNew_led t es ((PySem.strKind P w).hash k) (.str k tk)
    generalize layNew t es ((PySem.strKind P w).hash k) (.str k tk) = Y at pm f1 r1 l1 ⊢
    obtain ⟨es1, t1, dm, gv⟩ := Y
    dsimp only at pm f1 r1 l1 ⊢
    rw [Array.toList_push] at pm
    have pc : es1.toList.Perm (((PySem.strKind P w).hash k, Value.str k tk) :: es.toList) := pm.trans (List.perm_append_singleton _ _)
    have pk : (es1.toList.map kT).Perm (k :: es.toList.map kT) := pc.map kT
    have g1 : ∀ e ∈ es1.toList, GdT w e := fun e he => by
      rcases List.mem_cons.mp (pc.mem_iff.mp he) with y | y
      · rw [y]; exact ⟨k, tk, rfl, rfl⟩
      · exact g e y
    have n1 : (es1.toList.map kT).Nodup := pk.nodup_iff.mpr (List.nodup_cons.mpr ⟨nk, nd⟩)
    have m1 : ∀ i, i ∈ xs ++ [k] ↔ i ∈ es1.toList.map kT := fun i => by
      rw [List.mem_append, m i, List.mem_singleton, pk.mem_iff, List.mem_cons]
      exact Or.comm
    have z1 : es1.size ≤ (xs ++ [k]).length := by
      rw [← Array.length_toList, pc.length_eq, List.length_cons, Array.length_toList, List.length_append]
      exact Nat.succ_le_succ z
    have few' : (xs ++ [k]).length < 1000 := by rw [List.length_append]; exact few
    have l3 : w.params.followText "set-order" = true ∨ t1.led = true := l.imp id fun y => by rw [l1]; exact y
    refine wpAny_bind (gw _ ?_)
    split
    · refine wpAny_bind ?_
      rw [hashByValue_scannable 8 sc]
      refine wpAny_pure ?_
      refine grow_st ?_ e0 ex d0 g1 n1 m1 few' z1 ?_ ?_ ?_ ?_
      · intro b _ _ y; cases b <;> first | exact wpAny_pure y | exact wpAny_rule y
      · first | (split <;> first | exact f1 | exact SetTable.fits_plain_off f1) | exact f1
      · first | (split <;> exact r1) | exact r1
      · first | (split <;> exact l3) | exact l3
      · intro h' sb r; dsimp only; exact wpAny_pure (q _ h' sb r)
    · refine wpAny_bind (wpAny_pure ?_)
      simp only [↓reduceIte]
      refine grow_st ?_ e0 ex d0 g1 n1 m1 few' z1 f1 r1 l3 ?_
      · intro b _ _ y; cases b <;> first | exact wpAny_pure y | exact wpAny_rule y
      · intro h' sb r; dsimp only; exact wpAny_pure (q _ h' sb r)
end K04

set_option Elab.async false
set_option linter.all false
set_option maxRecDepth 100000
set_option maxHeartbeats 4000000
namespace K04
open PySem PySem.Spec PyProof.Rows L2

theorem strs_one : ∀ {us : List Value} {xs : List Str}, StrsAre us xs → ∀ (i : Nat) (v : Value), us[i]? = some v → ∃ k t, xs[i]? = some k ∧ v = .str k t
  | _, _, .nil, i, v, h => by simp at h
  | _, _, .cons n t hr, 0, v, h => ⟨n, t, rfl, (Option.some.inj h).symm⟩
  | _, _, .cons n t hr, i + 1, v, h => strs_one hr i v (by simpa using h)
def freshO (w : World) : Obj := { cls := .type "set", dict := none, data := .set #[] 0 (.fresh 0 0 (!w.params.followText "set-order")) }
theorem new_st {w : World} {h : Heap} {a : Addr} (e : h.get? a = some (freshO w)) : SetT w h a [] :=
  ⟨_, #[], 0, _, e, ⟨rfl, rfl, rfl⟩, rfl, (fun e he => by simp at he), (by simp), (fun k => by simp), (by simp), (by rfl), List.Pairwise.nil, by
    show _ ∨ (!w.params.followText "set-order") = true
    cases w.params.followText "set-order" <;> simp⟩

section
variable {P : Program} {w : World} {A : Around} {E : Value → Shared → Prop} {s : Shared}
theorem up_st {I : Addr} {fp wr : List Addr} {G : Array GenState → Array GenState → Prop} {n : Nat} {Pv : Nat → Value → Prop} {St : Nat → Shared → Prop} {R : Result → Shared → Prop}
    (W : WalksS P w A.in1 I fp wr G n Pv St) (S : Addr) (nf : S ∉ fp) (xs : List Str) (hn : n = xs.length) (few : xs.length + 1 < 1000) (val : ∀ i v, Pv i v → ∃ k t, xs[i]? = some k ∧ v = .str k t) :
    ∀ (k i : Nat) (s : Shared), n - i = k → i ≤ n → St i s → SetT w s.heap S (xs.take i) →
      (∀ s', Moved (S :: wr) G s s' → SetT w s'.heap S xs → R (.ok (.ret .none)) s') →
      codeAny (model P w) A (.builtin "set.update.loop" ⟨[.ref S, .ref I], []⟩) R s := by
  have nw : S ∉ wr := fun h => nf (W.sub _ h)
  have up : ∀ b ∈ wr, b ∈ S :: wr := fun b h => List.mem_cons_of_mem _ h
  intro k
  induction k with
  | zero =>
    intro i s ek hi st hS q
    have e : i = n := by omega
    subst e
    refine codeAny_builtin F.entry_set_update_loop ?_
    rw [Around.under_plainId F.plain_set_update_loop _]
    show wpAny _ A.in1 (pyNext (.ref I) >>= _) _ _ s
    refine wpAny_bind (W.done s _ _ st fun s' hm => ?_)
    show wpAny _ A.in1 (ret Value.none) _ _ s'
    rw [List.take_of_length_le (by omega)] at hS
    exact wpAny_pure (q s' (hm.mono up) (hS.at fun o e => hm.heap S o nw e))
  | succ k ih =>
    intro i s ek hi st hS q
    have lt : i < n := by omega
    refine codeAny_builtin F.entry_set_update_loop ?_
    rw [Around.under_plainId F.plain_set_update_loop _]
    show wpAny _ A.in1 (pyNext (.ref I) >>= _) _ _ s
    refine wpAny_bind (W.item i s _ _ lt st fun v s' pv st' hm => ?_)
    obtain ⟨z, t, hz, rfl⟩ := val i v pv
    have S1 : SetT w s'.heap S (xs.take i) := hS.at fun o e => hm.heap S o nw e
    show wpAny _ A.in1 (holding [Value.str z t] (setAdd S (.str z t)) >>= _) _ _ s'
    refine wpAny_bind (wpAny_holding ?_)
    unfold setAdd
    refine wpAny_holding ?_
    refine wpAny_bind ((PySem.strKind P w).pyHash (k := z) (strKind_is _ _ _ _) ?_)
    refine add_st (s := { s' with toks := s'.toks + 1 }) S1 (by rw [List.length_take]; omega) fun b h' sb S2 => ?_
    have S3 : SetT w h' S (xs.take (i + 1)) := by
      rw [List.take_add_one, hz]
      exact S2
    refine wpAny_pure ⟨plainId_quiet F.plain_set_update_loop _, ih (i + 1) _ (by omega) lt (W.frame _ s' _ _ st' (Nat.le_succ _) fun b hb o e => ?_) S3 fun s'' m2 S4 => ?_⟩
    · rw [sb.2 b (fun h : b = S => nf (by rw [← h]; exact hb))]; exact e
    · refine q s'' (Moved.trans W.gtrans ((hm.mono up).then_heap (Nat.le_succ _) fun b o hb e => ?_) m2) S4
      rw [sb.2 b (fun h : b = S => hb (by rw [h]; exact List.mem_cons_self))]; exact e

set_option maxRecDepth 100000 in
set_option maxHeartbeats 3200000 in
theorem call_st {l : Addr} {items : Array Value} (xs : List Str) {Q : Value → Shared → Prop} (hh : A.handled = none) (hl : s.heap.IsTuple l items) (hit : StrsAre items.toList xs) (few : xs.length + 1 < 1000)
    (h : ∀ (h' : Heap) (tk : Nat), SetT w h' s.heap.objs.size xs → (∀ b o, s.heap.get? b = some o → h'.get? b = some o) → Q (.ref s.heap.objs.size) { s with heap := h', toks := tk }) :
    wpAny (model P w) A (call (.type "set") [.ref l]) Q E s := by
  have hisz : items.size = xs.length := by
    have q := StrsAre.len_eq hit
    rw [Array.length_toList] at q
    exact q
  obtain ⟨c, tl, hmro⟩ := F.called_set.mro
  have hmade := F.called_set.made
  have hsub := F.called_set.sub
  refine wpAny_call (codeAny_of_tree ?_)
  show wpAny _ _ (callAny (.type "set") _) _ _ _
  refine wpAny_pure ⟨Code.quiet_builtin _ (by decide +kernel), codeAny_builtin F.entry_type_call ?_⟩
  rw [Around.under_plain (weight_type_call_type "set" [.ref l] []) rfl]
  have h1 := F.called_set.notType
  have h2 := F.called_set.canCreate
  have hct := F.typeCall_set_1 (.ref l)
  repeat (any_goals (first | assumption | wp_step))
  refine codeAny_mono (L2.code_set_led1 (.ref l) (E := E) (Q₁ := fun obj s₁ => obj = .ref s.heap.objs.size ∧ s₁ = { s with heap := s.heap.push (freshO w) }) ⟨rfl, rfl⟩) fun r s₁ hr => ?_
  cases r with
  | error e => exact hr
  | ok fl =>
    cases fl with
    | ret obj =>
      obtain ⟨rfl, rfl⟩ := hr
      have hS : (s.heap.push (freshO w)).get? s.heap.objs.size = some (freshO w) := Heap.get?_push_size _ rfl
      have hT : Shared.TypeIs { s with heap := s.heap.push (freshO w) } (.ref s.heap.objs.size) "set" := ⟨_, hS, rfl⟩
      have hli := F.called_set.init.lookup
      have hbi := F.called_set.init.bind (.ref s.heap.objs.size)
      repeat (any_goals (first | assumption | wp_step))
      refine codeAny_mono (codeAny_call_builtin (R := wants (fun r s₂ => r = .none ∧ ∃ h' tk, s₂ = { s with heap := h', toks := tk } ∧ SetT w h' s.heap.objs.size xs ∧
          (∀ b o, s.heap.get? b = some o → h'.get? b = some o)) E) F.called_set.init.plain F.entry_set_init (check_set_init_1 hT ?_)) fun r₂ s₂ hr₂ => ?_
      · obtain ⟨ol, hol, hcl, nl, hdl⟩ := hl
        obtain ⟨ocls, odict, odata, oslots⟩ := ol
        simp only at hcl hdl
        subst hcl; subst hdl
        have hol' : (s.heap.push (freshO w)).get? l = some { cls := .type "tuple", dict := odict, data := .seq items nl, slots := oslots } := Heap.get?_push_of_some _ hol
        have hsls := F.sub_tuple_set
        have hslf := F.sub_tuple_frozenset
        have hne : (Value.type "tuple" == Value.type "dict") = false := by decide
        have hl1 : (s.heap.push (freshO w)).IsTuple l items := ⟨_, hol', rfl, nl, rfl⟩
        unfold Builtin.«set.__init__» noKeywords Builtin.Frozenset.updateFrom
        generalize hPI : pyIter = PI
        wp_walk
        subst hPI
        refine wpAny_pyIter_tuple hl1 ?_
        refine wpAny_bind (wpAny_runValue ?_)
        have hlS : l < s.heap.objs.size := Heap.lt_size hol
        have hh3 : A.in1.in1.in1.handled = none := by simp [hh]
        have hneI : l ≠ (s.heap.push (freshO w)).objs.size := by
          rw [Heap.size_push]; exact Nat.ne_of_lt (Nat.lt_succ_of_lt hlS)
        have hSf : s.heap.objs.size ∉ [(s.heap.push (freshO w)).objs.size, l] := by
          rw [Heap.size_push]; simp only [List.mem_cons, List.mem_singleton, List.not_mem_nil, or_false, not_or]
          exact ⟨Nat.ne_of_lt (Nat.lt_succ_self _), Nat.ne_of_gt hlS⟩
        have hval : ∀ (i : Nat) (v : Value), items[i]? = some v → ∃ k t, xs[i]? = some k ∧ v = .str k t := fun i v hv => by
          exact strs_one hit i v (by rw [Array.getElem?_toList]; exact hv)
        refine up_st ((Walks.tuple hh3 _ l hneI items).toS) s.heap.objs.size
          hSf xs hisz few hval (items.size - 0) 0 _ (by omega) (Nat.zero_le _)
          ⟨⟨_, Heap.get?_push_size _ rfl, rfl, rfl⟩, (hl1.push _)⟩ (new_st (Heap.get?_push_of_some _ hS)) ?hR
        case hR =>
          intro s' hm hS'
          obtain ⟨h', g2, d', tk', os'⟩ := s'
          have eg : g2 = s.gens := hm.gens
          have ed : d' = s.drawn := hm.drawn
          have eo : os' = s.os := hm.os
          subst eg; subst ed; subst eo
          show wpAny _ _ _ _ _ _
          refine wpAny_pure ?_
          show wpAny _ _ (ret Value.none) _ _ _
          refine wpAny_pure ⟨rfl, h', tk', rfl, hS', fun b o e => ?_⟩
          have hb0 : b < s.heap.objs.size := Heap.lt_size e
          have hb1 : b ≠ s.heap.objs.size := Nat.ne_of_lt hb0
          have hb2 : b ≠ (s.heap.push (freshO w)).objs.size := by
            rw [Heap.size_push]; exact Nat.ne_of_lt (Nat.lt_succ_of_lt hb0)
          exact hm.heap b o (by simp only [List.mem_cons, List.mem_singleton, List.not_mem_nil, or_false, not_or]; exact ⟨hb1, hb2⟩) (Heap.get?_push_of_some _ (Heap.get?_push_of_some _ e))
      · cases r₂ with
        | error e => exact hr₂
        | ok fl₂ =>
          cases fl₂ with
          | ret r =>
            obtain ⟨rfl, h', tk, rfl, hS', hk'⟩ := hr₂
            repeat (any_goals (first | assumption | wp_step))
            exact h _ _ hS' hk'
          | _ => exact hr₂.elim
    | _ => exact hr.elim

/-- sorted of a set of texts -/
theorem sort_st {a : Addr} {xs : List Str} {Q : Value → Shared → Prop} (R : SetT w s.heap a xs) (hh : A.handled = none) (few : xs.length < 64)
    (q : ∀ s' p (out : Array Value) (c : Nat) (ys : List Str), (∀ b o, s.heap.get? b = some o → s'.heap.get? b = some o) → s'.gens = s.gens → s'.os = s.os → s.heap.objs.size ≤ p →
      s'.heap.get? p = some (seqObj "list" out c) → StrsAre out.toList ys → sortedS ys = true → ys.Nodup → (∀ k, k ∈ ys ↔ k ∈ xs) → ys.length ≤ xs.length → Q (.ref p) s') :
    wpAny (model P w) A (call (.builtin "sorted") [.ref a]) Q E s := by
  obtain ⟨o, es, ep, t, e0, ex, d0, g, nd, m, z, f, r, l⟩ := R
  refine Calls.call_function_entry kind_sorted plain_sorted entry_sorted (args_sorted1 _) ?_
  unfold Builtin.«sorted»
  refine wpAny_bind (m := checkCount "sorted" 1 1 _) (wpAny_pure ?_)
  refine wpAny_bind (L2.collect_set (A := A.in1) hh ⟨o, e0, ex.1, d0⟩ f (by unfold scanBound; omega) r l fun s1 vs k1 hz g1 o1 pm => ?_)
  have vl : vs.length = es.size := by rw [pm.length_eq, List.length_map, Array.length_toList]
  have S0 : StrsAre vs (vs.map strOf) := strsAre_map vs fun v hv => by
    obtain ⟨e, he, q⟩ := List.mem_map.mp (pm.mem_iff.mp hv)
    obtain ⟨k, tk, h1, _⟩ := g e he
    exact ⟨k, tk, by rw [← q]; exact h1⟩
  have pk : (vs.map strOf).Perm (es.toList.map kT) := by
    have y := pm.map strOf
    rw [List.map_map] at y
    exact y
  refine wpAny_bind (wpAny_newList ?_ (by rw [vl, sizeLine_eq]; omega))
  have oL : (s1.heap.push (seqObj "list" vs.toArray 0)).get? s1.heap.objs.size = some (seqObj "list" vs.toArray 0) := Heap.get?_push_size _ rfl
  refine wpAny_bind (wpAny_holding (wpAny_call_entry slot_list_sort ⟨_, oL, rfl⟩ entry_list_sort
    (list_sort_treeK strKind_oneLt oL S0.keysOf (fun v₁ v₂ rest e => keyKind_strs (by rw [← e]; exact S0)) (by rw [vl]; omega) fun st' hp hs => ⟨_, rfl, ?_⟩) (args_list_sort _)))
  obtain ⟨ys, a1, a2, a3⟩ := sorted_out_str S0 hp hs
  obtain ⟨c, hc⟩ := sortedHeap_at (vs := vs) (out := (arrOf st').map (·.2)) oL
  have pn : ys.Perm (es.toList.map kT) := a2.trans pk
  refine wpAny_pure ⟨_, rfl, q _ s1.heap.objs.size ((arrOf st').map (·.2)) c ys (fun b u e => ?_) g1 o1 hz hc a1 a3 (pn.nodup_iff.mpr nd) (fun k => by rw [pn.mem_iff, ← m k]) ?_⟩
  · have y := k1 b u e
    have lt := Heap.lt_size y
    show (sortedHeap (s1.heap.push (seqObj "list" vs.toArray 0)) s1.heap.objs.size vs ((arrOf st').map (·.2))).get? b = some u
    rw [sortedHeap_old (Nat.ne_of_lt lt) (by rw [size_push']; exact Nat.lt_succ_of_lt lt)]
    exact Heap.get?_push_of_some _ y
  · rw [pn.length_eq, List.length_map, Array.length_toList]; exact z
end

/-! ### told -/
def SetOT (w : World) (a : Addr) (xs : List Str) : HO := .ext fun h => SetT w h a xs
theorem setOT_new {w : World} {P : Program} {H : Hp} {h : Heap} {a : Addr} {xs : List Str} (R : SetT w h a xs) : ObjOk P w H h a (SetOT w a xs) := by
  have ⟨o, _, _, _, ho, _⟩ := R
  exact ⟨R, ⟨o, ho⟩, fun h1 h2 p k => SetT.at p k⟩
section
variable {X : Cx}
/-- set(t) -/
def rSetT (K : PySem.W.Frag) (w : World) : List V → Hp → VK → Prop := fun vs H Q => ∃ (p : Addr) (xs : List Str), vs = [.ref p] ∧ SqT K H p (xs.map V.str) ∧ xs.length < 64 ∧ ∀ a, H a = none → Q (.ref a) (upd H a (SetOT w a xs))
theorem cr_setT (hc : X.calm = true) : CallR X (.type "set") (rSetT X.K X.w) := by
  intro pins s σ H vs us Q I r h
  obtain ⟨p, xs, rfl, hq, few, q⟩ := h
  rw [Vals.ref1 r]
  obtain ⟨its, rv, pt, hz⟩ := I.tuple hq
  refine call_st xs (I.ok.hd hc) pt (by simpa using rv.strs) (by omega) fun h' tk S k => ?_
  exact ⟨.ref _, upd H s.heap.objs.size (SetOT X.w s.heap.objs.size xs), I.laid (t' := tk) k (Nat.le_refl _) (setOT_new S), rfl, q _ (I.hok.fresh (Nat.le_refl _))⟩
/-- sorted(found) -/
def rSortT (w : World) : List V → Hp → VK → Prop := fun vs H Q => ∃ (a : Addr) (xs : List Str), vs = [V.ref a] ∧ H a = some (SetOT w a xs) ∧ xs.length < 64 ∧
  ∀ (ys : List Str) (p : Addr), sortedS ys = true → ys.Nodup → (∀ k, k ∈ ys ↔ k ∈ xs) → ys.length ≤ xs.length → H p = none → Q (.ref p) (upd H p (.lst (ys.map V.str)))
theorem cr_sortT (hc : X.calm = true) : CallR X (.builtin "sorted") (rSortT X.w) := by
  intro pins s σ H vs us Q I r h
  obtain ⟨a, xs, rfl, ha, few, q⟩ := h
  have R : SetT X.w s.heap a xs := (I.hok a _ ha).1
  rw [Vals.ref1 r]
  refine sort_st R (I.ok.hd hc) few fun s' p out c ys k g o hp hg hi hs hd hm hl => ?_
  have hlen : (ys.map V.str).length ≤ sizeLine := by rw [List.length_map, sizeLine_eq]; omega
  have hn : H p = none := I.hok.fresh hp
  have J : Inv X pins σ (upd H p (.lst (ys.map V.str))) { s with heap := s'.heap, gens := s'.gens, drawn := s'.drawn, toks := s'.toks } :=
    I.call (ch := []) (Un.laid k hp hn) (I.hok.laid k hp ⟨hlen, out.toList, c, vals_of_strs hi, hg⟩) (by rw [g]; exact I.bare) (fun _ z => nomatch z)
  have e : s' = { s with heap := s'.heap, gens := s'.gens, drawn := s'.drawn, toks := s'.toks } := by
    cases s'
    cases s
    cases o
    rfl
  rw [e]
  exact ⟨.ref p, _, J, rfl, q ys p hs hd hm hl hn⟩
end
end K04

set_option Elab.async false
set_option linter.all false
set_option maxRecDepth 100000
set_option maxHeartbeats 4000000
/-! K04L: lambdas as tracked objects; a def that calls one. -/
namespace K04
open PySem PySem.Spec PyProof.Rows L2 LamX
/-- a made lambda: its words, its cells, its defaults, its code object -/
structure LF where
  qual : Str
  params : Arguments
  body : Expr
  scope : Scope
  cl : List (Str × Addr)
  dV : Value
  c : Addr
abbrev LF.fd (F : LF) (doc pm ctv : Value) : FuncData := PySem.W.kdv_fn "<lambda>" F.qual F.params (.expr F.body) F.scope F.cl F.dV doc pm (.ref F.c) ctv
def LamO (f : Addr) (F : LF) : HO := .ext fun h => ∃ (od : Option Addr) (sl : Array (Option Value)) (doc pm ctv : Value), h.get? f = some (⟨.type "function", od, .func (F.fd doc pm ctv), sl⟩ : Obj)
theorem lamO_at {P : Program} {w : World} {H : Hp} {h : Heap} {f : Addr} {F : LF} (k : HOk P w H h) (e : H f = some (LamO f F)) : ∃ (od : Option Addr) (sl : Array (Option Value)) (doc pm ctv : Value), h.get? f = some (⟨.type "function", od, .func (F.fd doc pm ctv), sl⟩ : Obj) := (k f _ e).1
theorem cod_at {P : Program} {w : World} {H : Hp} {h : Heap} {c : Addr} {q : Str} (k : HOk P w H h) (e : H c = some (CodeO c q)) : h.CodeRec (.ref c) q := by
  obtain ⟨oc, vs, t, h1, h2, h3⟩ := (k c _ e).1
  exact ⟨c, oc, vs, t, rfl, h1, h2, h3⟩
section
variable {X : Cx} {pins : List (Addr × Obj)} {σ : L2.St} {H : Hp} {s : Shared}
theorem inv_lam {F : LF} {o : Obj} {t' : Nat} {doc pm ctv : Value} (I : Inv X pins σ H s) (ho : o = { cls := .type "function", data := .func (F.fd doc pm ctv) }) :
    Inv X pins σ (upd H s.heap.objs.size (LamO s.heap.objs.size F)) { s with heap := s.heap.push o, toks := t' } := by
  subst ho
  have e : (s.heap.push ({ cls := .type "function", data := .func (F.fd doc pm ctv) } : Obj)).get? s.heap.objs.size = some ({ cls := .type "function", data := .func (F.fd doc pm ctv) } : Obj) := Heap.get?_push_size _ rfl
  exact I.laid (a := s.heap.objs.size) (fun b u z => Heap.get?_push_of_some _ z) (Nat.le_refl _) ⟨⟨_, _, doc, pm, ctv, e⟩, ⟨_, e⟩, fun h1 h2 ⟨od, sl, d, p, t, z⟩ st => ⟨od, sl, d, p, t, st _ z⟩⟩
/-- the making, behind the defaults -/
theorem lam_tail {T : List (Addr × Str)} {c P : Addr} {params : Arguments} {body : Expr} {scope : Scope} {pos : Pos} {dV : Value} {E : Value → Shared → Prop} {Q : Value → Shared → Prop} (I : Inv X pins σ H s) (TB : TabB X.base X.mg c P) (hcode : X.env.code = .ref c)
    (hm : (P, X.env.qual ++ "<lambda>") ∈ T) (hu : ∀ p ∈ T, p.1 = P → p.2 = X.env.qual ++ "<lambda>") (hT : Tabs T H) (hfree : ∀ y ∈ scope.names, y.2 = .free → ∃ c, X.env.cells.lookup y.1 = some c)
    (h : ∀ (f c' : Addr) (H1 : Hp) (s' : Shared), Inv X pins σ H1 s' → ExtN H H1 → Tabs T H1 → H f = none → H1 f = some (LamO f ⟨X.env.qual ++ "<lambda>", params, body, scope, cloFrom X.env.cells scope.names [], dV, c'⟩) → H1 c' = some (CodeO c' (X.env.qual ++ "<lambda>")) → Q (.ref f) s') :
    wpAny (model X.prog X.w) X.A (makeTail "<lambda>" (X.env.qual ++ "<lambda>") params (.expr body) scope X.env dV .none none pos pos.line) Q E s := by
  obtain ⟨ps, hP, ht, ha⟩ := hT _ hm
  have bP : s.heap.BuiltinsAt X.mg P := TB.bm.keeps I.bk
  have hP' : s.heap.get? P = some { cls := .none, data := .fields ps } := I.hok P _ hP
  cases hc : codeAmong pos ps.toList with
  | none =>
    refine PySem.W.kdv_makeTail (mg := X.mg) (c := c) (P := P) (ps := ps) (closure_ok hfree) I.ok.glob (I.mod.glob.keeps I.bk) hcode (TB.code.keeps I.bk) hP' ht hc TB.gP bP fun c' ctv doc h' tk hx hge hlt hrec htb => ?_
    obtain ⟨c2, oc, vs, t, e2, hoc, hd, hv⟩ := hrec
    cases e2
    have nC : H c' = none := I.hok.fresh hge
    have I1 := inv_table (t' := tk) (more := #[rawInt pos.line, rawInt pos.col, .ref c']) (h' := h') I hP (fun b o hb e => hx b o hb e) htb hge ⟨oc, vs, t, hoc, hd, hv⟩
    have xE : ExtN H (upd (upd H P (.tbl (ps ++ #[rawInt pos.line, rawInt pos.col, .ref c']))) c' (CodeO c' (X.env.qual ++ "<lambda>"))) := fun b o e n => by
      rw [upd_ne (ne_of_none e nC), upd_ne (fun z => n ps (Option.some.inj (e.symm.trans (by rw [z]; exact hP))))]
      exact e
    have eL : (ps ++ #[rawInt pos.line, rawInt pos.col, .ref c']).toList = ps.toList ++ [rawInt pos.line, rawInt pos.col, .ref c'] := by simp
    have T1 : Tabs T (upd (upd H P (.tbl (ps ++ #[rawInt pos.line, rawInt pos.col, .ref c']))) c' (CodeO c' (X.env.qual ++ "<lambda>"))) := fun p hp => by
      by_cases hb : p.1 = P
      · rw [hu p hp hb, hb]
        refine ⟨_, by rw [upd_ne (ne_of_none hP nC), upd_same], by rw [eL]; exact PySem.TriplesOk_snoc _ _ _ _ ht, fun p' cv y => ?_⟩
        rw [eL] at y
        rcases among_app _ ht y with z | z
        · obtain ⟨c0, e1, e2⟩ := ha p' cv z
          exact ⟨c0, e1, xE _ _ e2 codeO_ne⟩
        · exact ⟨c', z, upd_same⟩
      · obtain ⟨ps', a1, a2, a3⟩ := hT p hp
        refine ⟨ps', by rw [upd_ne (ne_of_none a1 nC), upd_ne hb]; exact a1, a2, fun p' cv y => ?_⟩
        obtain ⟨c0, e1, e2⟩ := a3 p' cv y
        exact ⟨c0, e1, xE _ _ e2 codeO_ne⟩
    have nF := I1.hok.fresh (Nat.le_refl _)
    have I2 := inv_lam (F := ⟨X.env.qual ++ "<lambda>", params, body, scope, cloFrom X.env.cells scope.names [], dV, c'⟩) (t' := tk) (doc := doc) (pm := (X.mg "__name__").getD .none) (ctv := ctv) I1 rfl
    refine h h'.objs.size c' _ _ I2 (fun b o e n => ?_) (T1.ext fun b o e => ?_) (I.hok.fresh (Nat.le_trans hge (Nat.le_of_lt hlt))) upd_same ?_
    · have e1 := xE b o e n
      exact (upd_ne (ne_of_none e1 nF)).trans e1
    · exact (upd_ne (ne_of_none e nF)).trans e
    · exact (upd_ne (Nat.ne_of_lt hlt)).trans upd_same
  | some cv =>
    obtain ⟨c', e, hco⟩ := ha pos cv hc
    subst e
    refine PySem.W.kdv_makeTailHit (mg := X.mg) (c := c) (P := P) (ps := ps) (closure_ok hfree) I.ok.glob (I.mod.glob.keeps I.bk) hcode (TB.code.keeps I.bk) hP' ht hc bP fun ctv doc h' tk hx hsz => ?_
    have I1 : Inv X pins σ H { s with heap := h', toks := tk } := I.kept hx
    have nF : H h'.objs.size = none := I1.hok.fresh (Nat.le_refl _)
    have I2 := inv_lam (F := ⟨X.env.qual ++ "<lambda>", params, body, scope, cloFrom X.env.cells scope.names [], dV, c'⟩) (t' := tk) (doc := doc) (pm := (X.mg "__name__").getD .none) (ctv := ctv) I1 rfl
    refine h h'.objs.size c' _ _ I2 (fun b o e n => ?_) (hT.ext fun b o e => ?_) nF upd_same ?_
    · exact (upd_ne (ne_of_none e nF)).trans e
    · exact (upd_ne (ne_of_none e nF)).trans e
    · exact (upd_ne (ne_of_none hco nF)).trans hco
end
/-- the reading of a lambda without defaults -/
def tLam0 (T : List (Addr × Str)) (mk : Addr → LF) : TE := fun σ H Q => Tabs T H ∧ ∀ (f c' : Addr) (H1 : Hp), ExtN H H1 → Tabs T H1 → H1 f = some (LamO f (mk c')) → H1 c' = some (CodeO c' (mk c').qual) → Q (.ref f) H1
/-- .. with the default 0 -/
def tLamD (T : List (Addr × Str)) (mk : Addr → Addr → LF) : TE := fun σ H Q => Tabs T H ∧ ∀ (f c' d : Addr) (H1 : Hp), ExtN H H1 → Tabs T H1 → H1 f = some (LamO f (mk d c')) → H1 c' = some (CodeO c' (mk d c').qual) → H1 d = some (.tup [.int 0]) → Q (.ref f) H1
section
variable {X : Cx} {T : List (Addr × Str)} {c P : Addr} {params : Arguments} {body : Expr} {scope : Scope} {pos : Pos}
theorem pe_lam0 (TB : TabB X.base X.mg c P) (hcode : X.env.code = .ref c) (hm : (P, X.env.qual ++ "<lambda>") ∈ T) (hu : ∀ p ∈ T, p.1 = P → p.2 = X.env.qual ++ "<lambda>")
    (hfree : ∀ y ∈ scope.names, y.2 = .free → X.env.scope.names.lookup y.1 = some .cell ∨ X.env.scope.names.lookup y.1 = some .free) (hdef : defaultsOf params X.env = ([], [])) :
    PE X (.Lambda params body scope pos) (tLam0 T fun c' => ⟨X.env.qual ++ "<lambda>", params, body, scope, cloFrom X.env.cells scope.names [], .none, c'⟩) := by
  refine ⟨fun pins s σ H Q I h => ?_⟩
  obtain ⟨hT, h⟩ := h
  have hfr : ∀ y ∈ scope.names, y.2 = .free → ∃ c, X.env.cells.lookup y.1 = some c := fun y hy e => (hfree y hy e).elim (fun z => I.ok.has _ (.inl z)) fun z => I.ok.has _ (.inr z)
  refine PySem.W.kla_eval hdef ?_
  rw [makeFunction_eq]
  simp only [List.zip_nil_right, List.filterMap_nil, List.isEmpty_nil, if_true, pure_bind]
  exact lam_tail I TB hcode hm hu hT hfr fun f c' H1 s' I1 eN T1 f0 f1 c1 => ⟨V.ref f, H1, I1, rfl, h f c' H1 eN T1 f1 c1⟩
theorem pe_lamD {p0 : Pos} {k0 : Nat} (TB : TabB X.base X.mg c P) (hcode : X.env.code = .ref c) (hm : (P, X.env.qual ++ "<lambda>") ∈ T) (hu : ∀ p ∈ T, p.1 = P → p.2 = X.env.qual ++ "<lambda>")
    (hfree : ∀ y ∈ scope.names, y.2 = .free → X.env.scope.names.lookup y.1 = some .cell ∨ X.env.scope.names.lookup y.1 = some .free) (hdf : params.defaults = [.Constant (.int 0) k0 p0]) (hkw : params.kw_defaults = []) :
    PE X (.Lambda params body scope pos) (tLamD T fun d c' => ⟨X.env.qual ++ "<lambda>", params, body, scope, cloFrom X.env.cells scope.names [], .ref d, c'⟩) := by
  refine ⟨fun pins s σ H Q I h => ?_⟩
  obtain ⟨hT, h⟩ := h
  have hfr : ∀ y ∈ scope.names, y.2 = .free → ∃ c, X.env.cells.lookup y.1 = some c := fun y hy e => (hfree y hy e).elim (fun z => I.ok.has _ (.inl z)) fun z => I.ok.has _ (.inr z)
  refine PySem.W.kdv_lam (by rw [hdf] <;> rfl) hkw ?_
  rw [hdf]
  refine PySem.W.kdv_all1 (thn ((pe_int (X := X)).run pins s σ H (fun v H1 => v = .int 0 ∧ H1 = H) I ⟨rfl, rfl⟩) fun u s1 ⟨v, H1, I1, r1, q1⟩ => PySem.W.kdv_all0 ?_)
  obtain ⟨rfl, rfl⟩ := q1
  rw [makeFunction_eq]
  simp only [List.zip_nil_right, List.filterMap_nil, List.isEmpty_nil, if_true, pure_bind, List.isEmpty_cons, Bool.false_eq_true, if_false]
  refine wpAny_bind (wpAny_newTextTuple ?_)
  have nD : H1 s1.heap.objs.size = none := I1.hok.fresh (Nat.le_refl _)
  have I2 : Inv X pins σ (upd H1 s1.heap.objs.size (.tup [.int 0])) { s1 with heap := s1.heap.push { cls := .type "tuple", data := .seq [u].toArray } } :=
    I1.laid (t' := s1.toks) (a := s1.heap.objs.size) (fun b u e => Heap.get?_push_of_some _ e) (Nat.le_refl _) ⟨by decide, [u], .cons r1 .nil, _, Heap.get?_push_size _ rfl, rfl, 0, rfl⟩
  have e1 : ∀ b o, H1 b = some o → upd H1 s1.heap.objs.size (.tup [.int 0]) b = some o := fun b o e => (upd_ne (ne_of_none e nD)).trans e
  refine lam_tail I2 TB hcode hm hu (hT.ext e1) hfr fun f c' H3 s' I3 eN T1 f0 f1 c1 => ⟨V.ref f, H3, I3, rfl, h f c' _ H3 ((ExtN.of e1).trans eN) T1 f1 c1 (eN _ _ upd_same fun ps z => by cases z)⟩
end
end K04

set_option Elab.async false
set_option linter.all false
set_option maxRecDepth 100000
set_option maxHeartbeats 4000000
/-! K04M: a lambda entered; _law_wrong. -/
namespace K04
open PySem PySem.Spec PyProof.Rows L2 LamX
/-- the lambda's names: captured ones, globals, parameters that are no name of N -/
structure LamT (N : List Str) (sc scope : Scope) (bs : List Str) : Prop where
  kind : scope.kind = .function
  co : scope.isCoroutine = false
  gen : scope.isGenerator = false
  own : ∀ y ∈ scope.names, y.2 ≠ .cell ∧ (y.2 = .local → y.1 ∉ N)
  free : ∀ y ∈ scope.names, y.2 = .free → sc.names.lookup y.1 = some .cell ∨ sc.names.lookup y.1 = some .free
  par : ∀ b ∈ bs, scope.names.lookup b = some .local
theorem LamT.has {X : Cx} {scope : Scope} {bs : List Str} (L : LamT X.N X.env.scope scope bs) (ok : X.Ok) : ∀ y ∈ scope.names, y.2 = .free → ∃ c, X.env.cells.lookup y.1 = some c := fun y hy e => by
  rcases L.free y hy e with k | k
  · exact ok.has _ (.inl k)
  · exact ok.has _ (.inr k)
section
variable {X : Cx} {pins : List (Addr × Obj)} {σ : L2.St} {H HZ : Hp} {s s1 : Shared}
theorem lam_in {A : Around} {outer : List Env} {E : XK} {scope : Scope} {f c' : Addr} {h₁ : Heap} {tk : Nat} {bs : List Str} {binds : List (Str × Value)} (I : Inv X pins σ H s) (L : LamT X.N X.env.scope scope bs) (e0 : Env0 X.prog X.w X.K X.mg X.base A outer s1 HZ) (hd : A.handled = none)
    (un : Un (frs X.stack) [] H HZ s.heap s1.heap) (hns : h₁.Ns s1.heap.objs.size fun y => binds.reverse.lookup y) (kp : ∀ b o, s1.heap.get? b = some o → h₁.get? b = some o) :
    Inv (lamCx X A outer s1 HZ E scope f c') [] σ HZ { s1 with heap := h₁, toks := tk } := by
  have hfree := L.has I.ok
  have cm : ∀ {y c}, (cloFrom X.env.cells scope.names []).lookup y = some c → X.env.cells.lookup y = some c := fun {y c} e => by
    rcases cloFrom_mem (PySem.mem_of_lookup e) with z | ⟨h1, h2⟩
    · cases z
    · obtain ⟨c1, hc⟩ := hfree _ h1 rfl
      have hc : X.env.cells.lookup y = some c1 := hc
      have e2 : c = c1 := by
        rw [h2, hc] <;> rfl
      rw [e2]
      exact hc
  have look : ∀ {y}, scope.names.lookup y = some .free → ∃ c, (cloFrom X.env.cells scope.names []).lookup y = some c := fun {y} e =>
    mem_lookup (cloFrom_has (cells := X.env.cells) (acc := []) (PySem.mem_of_lookup e))
  have cellK : ∀ {c : Addr} {v : Option Value}, H c = none → s.heap.IsCell c v → h₁.IsCell c v := fun {c v} n ⟨o, ho, hd⟩ => by
    obtain ⟨sl, q⟩ := un.any ho n (by simp)
    exact ⟨_, kp _ _ q, hd⟩
  have noA : ∀ b : Addr, b ∉ (lamCx X A outer s1 HZ E scope f c').ex := fun b z => absurd (show b ∈ ([] : List Addr) from z) (by simp)
  refine ⟨⟨e0.mod, L.kind, rfl, rfl, Nat.le_refl _, fun y z c e1 e2 => I.ok.inj y z c (cm e1) (cm e2), fun y hy => ?_, fun y c z _ => ?_, fun _ => hd, Around.frames_deeper e0.frames, .inr ⟨rfl, rfl⟩, fun b z => absurd z (noA b), e0.bs, e0.bsz, fun b _ _ => noA b,
      fun b z => absurd z (noA b), e0.funs, e0.frf⟩,
    rfl, e0.bare, Un.kept kp, ⟨_, hns, fun i y v e1 e2 e3 => ?_⟩, fun y c e => ?_, e0.hok.fresh (Nat.le_refl _), fun y c e => ?_, fun q hq => absurd (show q ∈ ([] : List (Addr × Obj)) ++ [] from hq) (by simp), e0.hok.kept kp, I.len⟩
  · have hy : scope.names.lookup y = some .cell ∨ scope.names.lookup y = some .free := hy
    rcases hy with hy | hy
    · exact absurd rfl (L.own _ (PySem.mem_of_lookup hy)).1
    · exact look hy
  · have z : false = true := z
    cases z
  · have e1 : X.N[i]? = some y := e1
    have e3 : Vis scope y := e3
    rcases e3 with k | k | k
    · exact absurd (List.mem_of_getElem? e1) ((L.own _ (PySem.mem_of_lookup k)).2 rfl)
    · exact absurd rfl (L.own _ (PySem.mem_of_lookup k)).1
    · obtain ⟨m, hn, hl⟩ := I.loc
      have vis : Vis X.env.scope y := (L.free _ (PySem.mem_of_lookup k) rfl).elim (fun k => .inr (.inl k)) (fun k => .inr (.inr k))
      obtain ⟨w', r, q⟩ := hl i y v e1 e2 vis
      obtain ⟨c2, h2⟩ := look k
      refine ⟨w', r, .inr ⟨.inr k, c2, h2, ?_⟩⟩
      have c1 := cm h2
      rcases q with ⟨k', _⟩ | ⟨_, c3, e', z⟩
      · have k' : X.env.scope.names.lookup y = some .local := k'
        rcases L.free _ (PySem.mem_of_lookup k) rfl with k2 | k2 <;> rw [show X.env.scope.names.lookup y = _ from k2] at k' <;> cases k'
      · rw [c1] at e'
        cases e'
        exact cellK (I.freeC y _ c1) z
  · obtain ⟨w', z⟩ := I.cell y c (cm e)
    exact ⟨w', cellK (I.freeC y c (cm e)) z⟩
  · obtain ⟨v, o, ho, hd⟩ := I.cell y c (cm e)
    exact un.free c o ho (I.freeC y c (cm e)) (by simp)
end
/-- a lambda of X's frame, all that its call asks; G: what must be tracked at the call; t: its body's reading -/
structure LB (X : Cx) (k : Nat) (f : Addr) (F : LF) (bs : List Str) (G : Hp → Prop) (t : XK → TE) : Prop where
  q : F.qual = X.env.qual ++ "<lambda>"
  cl : F.cl = cloFrom X.env.cells F.scope.names []
  sc : LamT X.N X.env.scope F.scope bs
  at_ : ∀ H, G H → H f = some (LamO f F) ∧ H F.c = some (CodeO F.c F.qual)
  bind : ∀ (s : Shared) (H : Hp), HOk X.prog X.w H s.heap → G H → ∀ doc pm ctv : Value, ∃ us : List Value, us.length = bs.length ∧ BindsTo s (F.fd doc pm ctv) ⟨[], []⟩ (bs.zip us)
  body : ∀ (A : Around) (outer : List Env) (s : Shared) (H : Hp) (E : XK), Room k (A.deeper (lamEnv X F.scope s.heap.objs.size f F.c)) → PE (lamCx X A outer s H E F.scope f F.c) F.body (t E)
section
variable {X : Cx} {pins : List (Addr × Obj)} {σ : L2.St} {H : Hp} {s : Shared}
theorem pe_actT {CXg : CXT} {Eg : XK} {Ng : List Str} {qg : Str} {sg : Scope} {g f : Addr} {F : LF} {bs : List Str} {G : Hp → Prop} {t : XK → TE} {cdg : Value} {k i : Nat} {a : Str} {pn : List (Addr × Obj)} {xe : Value → Shared → Prop} {W : WX} {E : XK} {p1 p2 : Pos}
    (I : Inv X pins σ H s) (B : LB X k f F bs G t)
    (tk : Takes ((cxOf CXg X.prog X.w X.K X.mg X.base Ng qg sg g cdg X.A X.stack s H Eg).tr pn xe) W) (hW : ∀ cls d σ' H', E cls d H' → W cls d σ' H') (hr : Room (k + 1) (X.A.deeper (envOfC qg sg s.heap.objs.size g cdg)))
    (hN : Ng[i]? = some a) (hv : Vis sg a) (hd : (a == ("__debug__" : Str)) = false := by decide) (hcd : (a == ("__classdict__" : Str)) = false := by decide) :
    PE ((cxOf CXg X.prog X.w X.K X.mg X.base Ng qg sg g cdg X.A X.stack s H Eg).tr pn xe) (.Call (.Name a p1) [] [] p2)
      (fun σZ HZ Q => σZ[i]? = some (some (.ref f)) ∧ G HZ ∧ t E σ HZ Q) := by
  refine ⟨fun pinsZ sZ σZ HZ Q IZ h => ?_⟩
  obtain ⟨hs, hG, ht⟩ := h
  refine wpAny_Call_Name_kw (thn ((pe_var (pos := p1) (i := i) hN hv hd hcd).run pinsZ sZ σZ HZ (fun v H1 => v = .ref f ∧ H1 = HZ) IZ ⟨.ref f, hs, rfl, rfl⟩) fun u s1 ⟨v, H1, I1, r1, q1⟩ => ?_)
  obtain ⟨ev, eH⟩ := q1
  subst ev
  rw [eH] at I1
  obtain rfl : u = Value.ref f := r1
  obtain ⟨hf, hc⟩ := B.at_ HZ hG
  obtain ⟨od, sl, doc, pm, ctv, ho⟩ := lamO_at I1.hok hf
  refine PySem.W.callWith_F0 (first := []) ⟨_, od, _, sl, ho⟩ ?_
  have un : Un (frs X.stack) [] H HZ s.heap s1.heap := I1.base
  obtain ⟨us, hl, hb⟩ := B.bind s1 HZ I1.hok hG doc pm ctv
  have rc : codeAny (model X.prog X.w) (X.A.deeper (envOfC qg sg s.heap.objs.size g cdg)) (.call (.ref f) ⟨[], []⟩) (CR (L2.CX X.prog X.w) (envOfC qg sg s.heap.objs.size g cdg :: X.stack) X.prog X.w HZ s1 Q E) s1 := by
    refine PySem.W.kla_callFunE hr.depth ho rfl B.sc.co B.sc.gen rfl (cod_at I1.hok hc) (hb _ _ _ _ ?_)
    refine wpAny_newFunctionEnv (fun y hy => (B.sc.own y hy).1) (fun ⟨n, _⟩ hy => B.sc.par n (List.of_mem_zip hy).1) (fun h₁ hns hsb => ⟨I1.nolimit.fresh _ hsb, ?_⟩) B.sc.kind
    have eE : newEnv F.scope s1.heap.objs.size mainGlobals F.cl (F.qual ++ ".<locals>.") (some f) (.ref F.c) none builtinsNs = lamEnv X F.scope s1.heap.objs.size f F.c := by
      rw [B.q, B.cl] <;> rfl
    show codeAny _ _ (.expr F.body (newEnv F.scope s1.heap.objs.size mainGlobals F.cl (F.qual ++ ".<locals>.") (some f) (.ref F.c) none builtinsNs)) _ _
    rw [eE]
    have kp : ∀ b o, s1.heap.get? b = some o → h₁.get? b = some o := fun b o e => hsb.extBut b o (Nat.ne_of_lt (Heap.lt_size e)) (Heap.get?_push_of_some _ e)
    have J : Inv (lamCx X (X.A.deeper (envOfC qg sg s.heap.objs.size g cdg)) (envOfC qg sg s.heap.objs.size g cdg :: X.stack) s1 HZ E F.scope f F.c) [] σ HZ { s1 with heap := h₁, toks := s1.toks + (bs.zip us).length } :=
      lam_in I B.sc I1.env0 hr.hd un hns kp
    refine PySem.W.kla_codeExpr (wpAny_mono ((B.body _ _ s1 HZ E (hr.deeper _)).run [] _ _ HZ Q J ht) (fun v s' hq => ?_) fun e s' hq => hq)
    obtain ⟨w', H', J', rv, q⟩ := hq
    exact ⟨w', H', J'.os, J'.bare, J'.base, J'.hok, rv, q⟩
  have hx : Passes (L2.CX X.prog X.w) ((cxOf CXg X.prog X.w X.K X.mg X.base Ng qg sg g cdg X.A X.stack s H Eg).tr pn xe) E := passes_call tk hW
  refine wpAny_call (codeAny_mono rc fun r s' hq => ?_)
  cases r with
  | error e => exact hx pinsZ σZ HZ s1 e s' I1 hq
  | ok fl =>
    cases fl with
    | ret u => exact I1.after hq
    | next => exact False.elim hq
    | brk => exact False.elim hq
    | cont => exact False.elim hq
end
end K04

set_option Elab.async false
set_option linter.all false
set_option maxRecDepth 100000
set_option maxHeartbeats 4000000
/-! K04N: _law_wrong. -/
namespace K04
open PySem PySem.Spec PyProof.Rows L2 LamX
/-- the three error classes, as _law_wrong asks them -/
structure Errs (K : PySem.W.Frag) (mg : Str → Option Value) (CB CT CD : Addr) : Prop where
  gB : mg "BorderError" = some (.ref CB)
  gT : mg "BadType" = some (.ref CT)
  gD : mg "BadDesign" = some (.ref CD)
  eT : PySem.W.exmOne K (.ref CT) (.ref CB) = some true
  eD : PySem.W.exmOne K (.ref CD) (.ref CB) = some true
  cT : ExcC K CT
  cD : ExcC K CD
  tt : PySem.W.kitOne K (.ref CT) (.ref CT) = some true
  dt : PySem.W.kitOne K (.ref CD) (.ref CT) = some false
  dd : PySem.W.kitOne K (.ref CD) (.ref CD) = some true
/-- what _law_wrong makes of a lambda's reading -/
def eW (CT CD : Addr) (Q : VK) : XK := fun cls d H' => d = none ∧ ((cls = .ref CT ∧ Q (.str "type") H') ∨ (cls = .ref CD ∧ Q (.str "design") H'))
def qW (Q : VK) : VK := fun _ H' => Q (.str "") H'
abbrev NW : List Str := ["_law_work", "e"]
theorem scWrong : FnScope NW ["_law_work"] (defScope sWrong) := ⟨rfl, rfl, rfl, by decide +kernel, rfl, by decide +kernel, by decide +kernel⟩
/-- isinstance(e, C) in the suite -/
def rIsW (K : PySem.W.Frag) (a : Addr) (cls : Value) (d : Option Addr) : List V → Hp → VK → Prop := fun xs H Q => ∃ D, cls = .ref D ∧ d = none ∧ ExcC K D ∧ rIsE K D a xs H Q
theorem call_isW {X : Cx} {a : Addr} {cls : Value} {d : Option Addr} {oe : Obj} {pn : List (Addr × Obj)} (hz : Zc cls d oe) (hf : ∃ vs, oe.data = .fields vs) : CallR (X.suite a ((a, oe) :: pn)) (.builtin "isinstance") (rIsW X.K a cls d) := by
  intro pins s σ H xs us Q I r h
  obtain ⟨D, rfl, rfl, C, h⟩ := h
  exact call_isE C hz hf pins s σ H xs us Q I r h
theorem takes_len {X : Cx} {W : WX} (tk : Takes X W) : Takes X (fun c d σ H => σ.length = X.N.length → W c d σ H) := fun u s' ⟨a, B, sI, pins, σ, H, cls, d, e, I, nb, up, sky, na, os, ag, w⟩ =>
  tk u s' ⟨a, B, sI, pins, σ, H, cls, d, e, I, nb, up, sky, na, os, ag, w I.len⟩
section
variable {X : Cx} {s : Shared} {H : Hp} {g f CB CT CD : Addr} {cdg : Value} {tl : XK → Hp → VK → Prop} {G : Hp → Prop} {Q : VK}
abbrev cxW (X : Cx) (g : Addr) (cdg : Value) (s : Shared) (H : Hp) : Cx := cxOf C8.CX0 X.prog X.w X.K X.mg X.base NW "_law_wrong" (defScope sWrong) g cdg X.A X.stack s H C8.E0
theorem wrong_runs (E : Errs X.K X.mg CB CT CD) (isi : X.mg "isinstance" = none)
    (act : ∀ (W : WX) (pn : List (Addr × Obj)) (xe : Value → Shared → Prop) (E : XK) (p1 p2 : Pos), Takes ((cxW X g cdg s H).tr pn xe) W → (∀ cls d σ' H', E cls d H' → W cls d σ' H') →
      PE ((cxW X g cdg s H).tr pn xe) (.Call (.Name "_law_work" p1) [] [] p2) (fun σZ HZ Q => σZ[0]? = some (some (.ref f)) ∧ G HZ ∧ tl E HZ Q))
    (hG : G H) (h : tl (eW CT CD Q) H (qW Q)) :
    ∃ t, PSs (cxW X g cdg s H).nox (defBody sWrong) t ∧ t { nx := fun _ H' => Q .non H', rt := Q } (start NW [.ref f]) H := by
  have hgl : Gl (cxW X g cdg s H).nox "BorderError" := rfl
  refine ⟨_, pss_cons (ps_try_as (X := (cxW X g cdg s H).nox) (c := .ref CB) (i := 1) (n := "e")
      (tb := fun W D σ H => ∃ Ech : XK, (∀ cls d σ' H', σ'.length = 2 → Ech cls d H' → W cls d σ' H') ∧ σ[0]? = some (some (.ref f)) ∧ G H ∧ tl Ech H (fun _ H' => D.nx σ H'))
      rfl rfl scWrong.nd rfl rfl ⟨hgl, by decide, .inl E.gB⟩ L2.takes0 (fun W pn xe tk _ => ?_)
      (fun a oe cls d pn hz hf => pss_one (ps_ret (pe_ifExp (pt_val (pe_callB (call_isW hz hf) rfl isi (by decide +kernel) (pa_cons (pv 1) (pa_cons (pe_glob (v := .ref CT) rfl E.gT rfl) pa_nil)))) pe_str
        (pe_ifExp (pt_val (pe_callB (call_isW hz hf) rfl isi (by decide +kernel) (pa_cons (pv 1) (pa_cons (pe_glob (v := .ref CD) rfl E.gD rfl) pa_nil)))) pe_str pe_str))))) (pss_one (ps_ret pe_str)), ?_⟩
  · refine ⟨fun pins s' σ H' D I h' => ?_⟩
    obtain ⟨Ech, hW, h1, h2, h3⟩ := h'
    have hp := act (fun c d σ H => σ.length = 2 → W c d σ H) pn xe Ech ⟨117, 8, 117, 17⟩ ⟨117, 8, 117, 19⟩ (takes_len tk) (fun cls d σ' H' z y => hW cls d σ' H' y z)
    have hq := pss_one (ps_expr (pos := ⟨117, 8, 117, 19⟩) hp)
    exact hq.run pins s' σ H' D I ⟨h1, h2, h3⟩
  · refine ⟨eW CT CD Q, fun cls d σ' H' l z => ?_, rfl, hG, h⟩
    have l1 : ∀ a : Addr, (σ'.set 1 (some (V.ref a)))[1]? = some (some (V.ref a)) := fun a => by
      rw [List.getElem?_set_self (by omega)]
    obtain ⟨rfl, ⟨rfl, q⟩ | ⟨rfl, q⟩⟩ := z
    · refine ⟨true, E.eT, fun _ a _ => ?_, fun z => nomatch z⟩
      refine ⟨_, l1 a, CT, rfl, rfl, E.cT, _, _, _, rfl, fun u e => e, E.tt, ?_⟩
      exact ⟨_, rfl, iteT q⟩
    · refine ⟨true, E.eD, fun _ a _ => ?_, fun z => nomatch z⟩
      refine ⟨_, l1 a, CD, rfl, rfl, E.cD, _, _, _, rfl, fun u e => e, E.dt, ?_⟩
      refine ⟨_, rfl, iteF ?_⟩
      refine ⟨_, l1 a, CD, rfl, rfl, E.cD, _, _, _, rfl, fun u e => e, E.dd, ?_⟩
      exact ⟨_, rfl, iteT q⟩
end
end K04
namespace K04
open PySem PySem.Spec PyProof.Rows L2 LamX
/-- the reading of _law_wrong(e) -/
def tWrong (X : Cx) (k : Nat) (CT CD : Addr) (te : TE) : TE := fun σ H Q => te σ H fun v H1 => ∃ (f : Addr) (F : LF) (bs : List Str) (G : Hp → Prop) (t : XK → TE), [v] = [V.ref f] ∧ LB X k f F bs G t ∧ G H1 ∧ t (eW CT CD Q) σ H1 (qW Q)
theorem pe_wrong {X : Cx} {e : Expr} {te : TE} {k : Nat} {g CB CT CD : Addr} {fd : FuncData} {p pos : Pos} (E : Errs X.K X.mg CB CT CD) (isi : X.mg "isinstance" = none) (Fw : Fun X.K "_law_wrong" "_law_wrong" sWrong g fd) (D : Df X.K X.mg "_law_wrong" g fd ["_law_work"])
    (hgl : Gl X "_law_wrong") (hr : Room (k + 2) X.A) (he : PE X e te)
    (hs : starEach [e] X.env = (false, eval e X.env) :: starEach [] X.env := by rfl) (hpl : (backTo pos (starEach [] X.env)).any (·.1) = false := by rfl) :
    PE X (.Call (.Name "_law_wrong" p) [e] [] pos) (tWrong X k CT CD te) := by
  refine ⟨fun pins s σ H Q I h => ?_⟩
  obtain ⟨oc, od, kV, doc, pm, an, cdv, ct, osl, efd, lk, hcd⟩ := Fw.ex
  have hb := D.b
  subst efd
  refine wpAny_Call_Name_kw (ld_glob I hgl D.m ?_ (by decide))
  have hp : PA X [e] (tCons te tNil) := pa_cons he pa_nil hs
  refine PySem.W.callWith_K (h₀ := X.base) I.ok.mod.kin D.k (thn (hp.run pos pins s σ H (fun vs H1 => ∃ (f : Addr) (F : LF) (bs : List Str) (G : Hp → Prop) (t : XK → TE), vs = [V.ref f] ∧ LB X k f F bs G t ∧ G H1 ∧ t (eW CT CD Q) σ H1 (qW Q)) I h) fun us s1 ⟨vs, H1, I1, r1, f, F, bs, G, t, ev, B, hG, q⟩ => ⟨I1.kIn, ?_⟩) hs hpl
  subst ev
  obtain rfl := Vals.ref1 r1
  show wpAny _ _ (call (.ref g) [Value.ref f]) _ _ _
  have rc : codeAny (model X.prog X.w) X.A (.call (.ref g) ⟨[.ref f], []⟩) (CR C8.CX0 X.stack X.prog X.w H1 s1 Q C8.E0) s1 := by
    refine run_ofS (N := NW) (ps := ["_law_work"]) (us := [.ref f]) (vs := [.ref f]) lk hcd scWrong hr I1.env0 (hb s1 [.ref f] I1.kIn rfl) r1 rfl fun hr' => ?_
    obtain ⟨t', ht', hq'⟩ := wrong_runs (X := X) (s := s1) (H := H1) (g := g) (f := f) (cdg := cdv) (Q := Q) (tl := fun E H' Q' => t E σ H' Q') (G := G) E isi
      (fun W pn xe E p1 p2 tk hW => pe_actT (i := 0) (a := "_law_work") I1 B tk hW hr' rfl (.inl rfl)) hG q
    exact ⟨t', ht'.nox, hq'⟩
  refine wpAny_call (codeAny_mono rc fun r s2 hq => ?_)
  cases r with
  | error e => exact (show False from hq).elim
  | ok fl =>
    cases fl with
    | ret u => exact I1.after hq
    | next => exact False.elim hq
    | brk => exact False.elim hq
    | cont => exact False.elim hq
end K04

set_option Elab.async false
set_option linter.all false
set_option maxRecDepth 100000
set_option maxHeartbeats 4000000
/-! K04O: the plain law. -/
namespace K04
open PySem L2
/-! ### orders of texts -/
def ltS (x y : Str) : Prop := x.cps.toList < y.cps.toList
instance (x y : Str) : Decidable (ltS x y) := inferInstanceAs (Decidable (x.cps.toList < y.cps.toList))
theorem str_ext {x y : Str} (h : x.cps.toList = y.cps.toList) : x = y := by
  obtain ⟨a⟩ := x
  obtain ⟨b⟩ := y
  have h : a.toList = b.toList := h
  rw [Array.toList_inj.mp h]
theorem ltS_irr (x : Str) : ¬ ltS x x := List.lt_irrefl _
theorem ltS_trans {x y z : Str} (a : ltS x y) (b : ltS y z) : ltS x z := List.lt_trans a b
theorem ltS_of {x y : Str} (a : ¬ ltS y x) (n : x ≠ y) : ltS x y := by
  have h : x.cps.toList ≤ y.cps.toList := List.not_lt.mp a
  rcases List.le_iff_lt_or_eq.mp h with z | z
  · exact z
  · exact absurd (str_ext z) n
def strictS : List Str → Bool
  | x :: y :: r => decide (ltS x y) && strictS (y :: r)
  | _ => true
theorem strict_pw : ∀ {l : List Str}, strictS l = true → l.Pairwise ltS
  | [], _ => .nil
  | [x], _ => List.pairwise_singleton _ _
  | x :: y :: r, h => by
    have h : (decide (ltS x y) && strictS (y :: r)) = true := h
    rw [Bool.and_eq_true, decide_eq_true_eq] at h
    have p := strict_pw h.2
    refine List.pairwise_cons.mpr ⟨fun z hz => ?_, p⟩
    rcases List.mem_cons.mp hz with e | e
    · rw [e]; exact h.1
    · exact ltS_trans h.1 ((List.pairwise_cons.mp p).1 z e)
theorem pw_strict : ∀ {l : List Str}, l.Pairwise ltS → strictS l = true
  | [], _ => rfl
  | [x], _ => rfl
  | x :: y :: r, h => by
    obtain ⟨h1, h2⟩ := List.pairwise_cons.mp h
    show (decide (ltS x y) && strictS (y :: r)) = true
    rw [pw_strict h2, decide_eq_true (h1 y List.mem_cons_self)] <;> rfl
theorem rising_pw : ∀ {l : List Str} {p : Str}, PyProof.Rows.risingS p l = true → (p :: l).Nodup → (p :: l).Pairwise ltS
  | [], p, _, _ => List.pairwise_singleton _ _
  | x :: r, p, h, nd => by
    have h : (!PySem.Spec.ltCps x.cps.toList p.cps.toList && PyProof.Rows.risingS x r) = true := h
    rw [Bool.and_eq_true, Bool.not_eq_true', PyProof.Rows.ltCps_eq, decide_eq_false_iff_not] at h
    obtain ⟨n1, n2⟩ := List.nodup_cons.mp nd
    have ih := rising_pw h.2 n2
    have e : ltS p x := ltS_of h.1 fun z => n1 (by rw [z]; exact List.mem_cons_self)
    refine List.pairwise_cons.mpr ⟨fun z hz => ?_, ih⟩
    rcases List.mem_cons.mp hz with q | q
    · rw [q]; exact e
    · exact ltS_trans e ((List.pairwise_cons.mp ih).1 z q)
theorem sorted_pw {l : List Str} (h : PyProof.Rows.sortedS l = true) (nd : l.Nodup) : l.Pairwise ltS := by
  cases l with
  | nil => exact .nil
  | cons x r => exact rising_pw h nd
theorem pw_same : ∀ {a b : List Str}, a.Pairwise ltS → b.Pairwise ltS → (∀ k, k ∈ a ↔ k ∈ b) → a = b
  | [], [], _, _, _ => rfl
  | [], y :: b, _, _, m => by cases (m y).2 List.mem_cons_self
  | x :: a, [], _, _, m => by cases (m x).1 List.mem_cons_self
  | x :: a, y :: b, ha, hb, m => by
    obtain ⟨a1, a2⟩ := List.pairwise_cons.mp ha
    obtain ⟨b1, b2⟩ := List.pairwise_cons.mp hb
    have e : x = y := by
      rcases List.mem_cons.mp ((m x).1 List.mem_cons_self) with z | z
      · exact z
      · rcases List.mem_cons.mp ((m y).2 List.mem_cons_self) with z2 | z2
        · exact z2.symm
        · exact absurd (ltS_trans (a1 y z2) (b1 x z)) (ltS_irr x)
    subst e
    have m2 : ∀ k, k ∈ a ↔ k ∈ b := fun k => by
      constructor
      · intro h
        rcases List.mem_cons.mp ((m k).1 (List.mem_cons_of_mem _ h)) with z | z
        · exact absurd (a1 k h) (by rw [z]; exact ltS_irr x)
        · exact z
      · intro h
        rcases List.mem_cons.mp ((m k).2 (List.mem_cons_of_mem _ h)) with z | z
        · exact absurd (b1 k h) (by rw [z]; exact ltS_irr x)
        · exact z
    rw [pw_same a2 b2 m2]
/-- list(t) == sorted(set(t)) -/
theorem strict_sorted {ws ys : List Str} (s : PyProof.Rows.sortedS ys = true) (nd : ys.Nodup) (m : ∀ k, k ∈ ys ↔ k ∈ ws) : strictS ws = decide (ws = ys) := by
  have py := sorted_pw s nd
  cases h : strictS ws with
  | true => exact (decide_eq_true (pw_same (strict_pw h) py fun k => (m k).symm)).symm
  | false =>
    refine (decide_eq_false fun e => ?_).symm
    rw [e, pw_strict py] at h
    cases h
theorem adj_strict : ∀ ws : List Str, adjD (ws.map PyData.str) = strictS ws
  | [] => rfl
  | [x] => rfl
  | x :: y :: r => by
    have ih := adj_strict (y :: r)
    show (List.range (((x :: y :: r).map PyData.str).length - 1)).all _ = (decide (ltS x y) && strictS (y :: r))
    rw [← ih]
    have e : ((x :: y :: r).map PyData.str).length - 1 = ((y :: r).map PyData.str).length - 1 + 1 := by simp
    rw [e, List.range_succ_eq_map, List.all_cons, List.all_map]
    rfl
theorem isDes_str (ws : List Str) : isDesD (.tuple (ws.map PyData.str)) = ((ws.all fun w => inV (.str w) (WD.map V.str)) && strictS ws) := by
  show ((ws.map PyData.str).all inWdD && adjD (ws.map PyData.str)) = _
  rw [adj_strict, List.all_map]
  rfl
theorem isDes_sub {ss : List Str} (h : ss.Sublist WD) : isDesD (.tuple (ss.map PyData.str)) = true := by
  rw [isDes_str]
  have p : WD.Pairwise ltS := strict_pw (by decide +kernel)
  rw [pw_strict (List.Pairwise.sublist h p), Bool.and_true, List.all_eq_true]
  intro w hw
  have a : WD.all (fun w => inV (.str w) (WD.map V.str)) = true := by decide +kernel
  exact List.all_eq_true.mp a w (h.subset hw)
theorem eqv_strs : ∀ a b : List Str, PyData.eqvAll (a.map PyData.str) (b.map PyData.str) = decide (a = b)
  | [], [] => rfl
  | [], y :: b => rfl
  | x :: a, [] => rfl
  | x :: a, y :: b => by
    have ih := eqv_strs a b
    show (PyData.eqv (.str x) (.str y) && PyData.eqvAll (a.map PyData.str) (b.map PyData.str)) = _
    rw [ih, show PyData.eqv (.str x) (.str y) = decide (x = y) from rfl, ← Bool.decide_and]
    exact decide_eq_decide.mpr ⟨fun ⟨e1, e2⟩ => by rw [e1, e2], fun e => by injection e with e1 e2; exact ⟨e1, e2⟩⟩
theorem eqv_listS (a b : List Str) : PyData.eqv (.list (a.map PyData.str)) (.list (b.map PyData.str)) = decide (a = b) := by
  have h := eqv_strs a b
  first | exact h | (show PyData.eqvAll _ _ = _; exact h)
/-! ### the values that are no types -/
def deepT : PyData := .tuple [.str "cell", .tuple [.str "cell", .tuple [.str "cell", .str "num"]]]
def oddA : List PyData := [.none, .tuple [], .str "any", .tuple [.str "cell"], .tuple [.str "cell", .str "any"], .tuple [.str "cell", deepT], .tuple [.str "fun", .str "num"], .tuple [.str "fun", deepT, .str "num"], .list [.str "cell", .str "num"], .tuple [.str "num"], .int 5]
def oddB : List PyData := [.tuple [.str "cell", .str "num", .str "num"], .str "Num", .tuple [.str "fun", .str "num", .str "num", .str "num"], .tuple [.none, .str "num"], .tuple [.str "cell", .none], .str ""]
theorem odd_bad : (oddA ++ oddB).all (fun d => !isDeepD 3 d) = true := by decide +kernel
theorem odd_shp : (oddA ++ oddB).all (fun d => decide (Shp d)) = true := by decide +kernel
theorem deep_good : isDeepD 3 deepT = true := by decide +kernel
def badDs : List PyData := [.none, .str "put", .list [.str "put"], .tuple [.str "share", .str "put"], .tuple [.str "put", .str "put"], .tuple [.none]]
theorem badDs_bad : badDs.all (fun d => !isDesD d) = true := by decide +kernel
end K04

set_option Elab.async false
set_option linter.all false
set_option maxRecDepth 100000
set_option maxHeartbeats 4000000
/-! K04P: what the law's walk stands on. -/
namespace K04
open PySem L2 LamX
/-! ### values that a text makes -/
def Mk (K : PySem.W.Frag) (H0 : Hp) (σ : St) (te : TE) (d : PyData) : Prop := ∀ (H : Hp) (Q : VK), Same H0 H → (∀ v H', Same H0 H' → Same H H' → Dp K H' v d → Q v H') → te σ H Q
def MkA (K : PySem.W.Frag) (H0 : Hp) (σ : St) (ta : TA) (ds : List PyData) : Prop := ∀ (H : Hp) (Q : List V → Hp → Prop), Same H0 H → (∀ vs H', Same H0 H' → Same H H' → DpAll K H' vs ds → Q vs H') → ta σ H Q
theorem small_len {n : Nat} (h : n ≤ 1000) : n ≤ sizeLine := by
  rw [sizeLine_eq]
  omega
theorem dpAll_len2 {K : PySem.W.Frag} {H : Hp} : ∀ {vs : List V} {ds : List PyData}, DpAll K H vs ds → vs.length = ds.length
  | _, _, .nil => rfl
  | _, _, .cons _ t => congrArg (· + 1) (dpAll_len2 t)
section
variable {K : PySem.W.Frag} {H0 : Hp} {σ : St}
theorem mk_str {x : Str} : Mk K H0 σ (tC (.str x)) (.str x) := fun H Q j q => q _ H j (fun _ _ h => h) (.str x)
theorem mk_int {x : Int} : Mk K H0 σ (tC (.int x)) (.int x) := fun H Q j q => q _ H j (fun _ _ h => h) (.int x)
theorem mk_non : Mk K H0 σ (tC .non) .none := fun H Q j q => q _ H j (fun _ _ h => h) .non
theorem mk_var {i : Nat} {v : V} {d : PyData} (e : σ[i]? = some (some v)) (h : Dp K H0 v d) : Mk K H0 σ (tVar i) d := fun H Q j q => ⟨v, e, q _ H j (fun _ _ h => h) (Same.dp j h)⟩
theorem mka_nil : MkA K H0 σ tNil [] := fun H Q j q => q _ H j (fun _ _ h => h) .nil
theorem mka_cons {te : TE} {ta : TA} {d : PyData} {ds : List PyData} (a : Mk K H0 σ te d) (b : MkA K H0 σ ta ds) : MkA K H0 σ (tCons te ta) (d :: ds) := fun H Q j q =>
  a H _ j fun v H1 j1 s1 h1 => b H1 _ j1 fun vs H2 j2 s2 h2 => q _ H2 j2 (s1.trans s2) (.cons (Same.dp s2 h1) h2)
theorem mk_tup {ta : TA} {ds : List PyData} (z : ds.length ≤ 1000) (a : MkA K H0 σ ta ds) : Mk K H0 σ (tTup ta) (.tuple ds) := fun H Q j q =>
  a H _ j fun vs H1 j1 s1 h1 => ⟨by rw [dpAll_len2 h1]; exact small_len z, fun p hp => q _ _ (j1.trans (same_new hp _)) (s1.trans (same_new hp _)) (.tup (SqT.of upd_same) (Same.dpAll (same_new hp _) h1))⟩
theorem mk_lst {ta : TA} {ds : List PyData} (z : ds.length ≤ 1000) (a : MkA K H0 σ ta ds) : Mk K H0 σ (tLst ta) (.list ds) := fun H Q j q =>
  a H _ j fun vs H1 j1 s1 h1 => ⟨by rw [dpAll_len2 h1]; exact small_len z, fun p hp => q _ _ (j1.trans (same_new hp _)) (s1.trans (same_new hp _)) (.lst (SqL.of upd_same) (Same.dpAll (same_new hp _) h1))⟩
end
/-! ### data stays where all but the row and the code tables stays -/
def hdS : List PyData → Bool
  | .str _ :: _ => true
  | _ => false
mutual
def hsD : PyData → Bool
  | .list ds => hdS ds && hsAll ds
  | .tuple ds => hsAll ds
  | _ => true
def hsAll : List PyData → Bool
  | [] => true
  | d :: ds => hsD d && hsAll ds
end
theorem hd_ne {K : PySem.W.Frag} {H : Hp} {xs : List V} {ds : List PyData} {y : Addr} {r : List V} (h : hdS ds = true) (a : DpAll K H xs ds) (e : xs = .ref y :: r) : False := by
  subst e
  cases a with
  | cons h1 h2 => cases h1 <;> cases h
mutual
theorem KeepN.dp {K : PySem.W.Frag} {a y : Addr} {H H' : Hp} {r : List V} (x : KeepN a H H') (ha : H a = some (.lst (.ref y :: r))) : ∀ {v : V} {d : PyData}, Dp K H v d → hsD d = true → Dp K H' v d
  | _, _, .non, _ => .non
  | _, _, .bl b, _ => .bl b
  | _, _, .int i, _ => .int i
  | _, _, .str s, _ => .str s
  | _, _, .lst h1 h2, g => by
    have g : (hdS _ && hsAll _) = true := g
    rw [Bool.and_eq_true] at g
    refine .lst ?_ (KeepN.dpAll x ha h2 g.2)
    rcases h1 with (h | ⟨o, h⟩) | h
    · exact .inl (.inl (x _ _ (ne_of h ha fun z => hd_ne g.1 h2 (by injection z)) (fun ps z => by cases z) h))
    · exact .inl (.inr ⟨o, x _ _ (ne_of h ha fun z => by cases z) (fun ps z => by cases z) h⟩)
    · exact .inr h
  | _, _, .tup h1 h2, g => .tup (x.sqT ha h1) (KeepN.dpAll x ha h2 g)
theorem KeepN.dpAll {K : PySem.W.Frag} {a y : Addr} {H H' : Hp} {r : List V} (x : KeepN a H H') (ha : H a = some (.lst (.ref y :: r))) : ∀ {vs : List V} {ds : List PyData}, DpAll K H vs ds → hsAll ds = true → DpAll K H' vs ds
  | _, _, .nil, _ => .nil
  | _, _, .cons h t, g => by
    have g : (hsD _ && hsAll _) = true := g
    rw [Bool.and_eq_true] at g
    exact .cons (KeepN.dp x ha h g.1) (KeepN.dpAll x ha t g.2)
end
theorem Row.dp {K : PySem.W.Frag} {a sc : Addr} {ns : List Int} {H H' : Hp} (R : Row K a sc ns H) (x : KeepN a H H') {v : V} {d : PyData} (h : Dp K H v d) (g : hsD d = true) : Dp K H' v d := by
  obtain ⟨p, s, r, ha, _⟩ := R.row
  exact x.dp ha h g
theorem Row.sqT {K : PySem.W.Frag} {a sc p : Addr} {ns : List Int} {H H' : Hp} {xs : List V} (R : Row K a sc ns H) (x : KeepN a H H') (h : SqT K H p xs) : SqT K H' p xs := by
  obtain ⟨_, ha⟩ := R.lst
  exact x.sqT ha h
theorem odd_hs : hsAll (oddA ++ oddB) = true := by decide +kernel
theorem ty_hs : ∀ t : Ty, hsD t.d = true
  | .num => rfl
  | .small => rfl
  | .big => rfl
  | .cell t => by
    show (hsD (.str "cell") && (hsD t.d && true)) = true
    rw [ty_hs t] <;> rfl
  | .fn a r => by
    show (hsD (.str "fun") && (hsD a.d && (hsD r.d && true))) = true
    rw [ty_hs a, ty_hs r] <;> rfl
/-! ### the code tables stay -/
theorem Keep.tabs {a : Addr} {H H' : Hp} {r : List V} {T : List (Addr × Str)} (x : Keep a H H') (ha : H a = some (.lst r)) (t : Tabs T H) : Tabs T H' := fun p hp => by
  obtain ⟨ps, h1, h2, h3⟩ := t p hp
  refine ⟨ps, x _ _ (ne_of h1 ha fun z => by cases z) h1, h2, fun pos cv hc => ?_⟩
  obtain ⟨c, e1, e2⟩ := h3 pos cv hc
  exact ⟨c, e1, x _ _ (ne_of e2 ha fun z => by unfold CodeO at z; cases z) e2⟩
theorem Row.tabs {K : PySem.W.Frag} {a sc : Addr} {ns : List Int} {H H' : Hp} {T : List (Addr × Str)} (R : Row K a sc ns H) (x : Keep a H H') (t : Tabs T H) : Tabs T H' := by
  obtain ⟨_, ha⟩ := R.lst
  exact x.tabs ha t
/-! ### the defs that the law calls -/
def Gd (P : Program) (w : World) (K : PySem.W.Frag) (mg : Str → Option Value) (base : Heap) (CX : CXT) (k : Nat) (x : Str) (ps : List Str) (sp : Sp) : Prop := ∃ f fd, FnOk P w K mg base CX k f fd ps sp ∧ Df K mg x f fd ps
structure LawT (P : Program) (w : World) (K : PySem.W.Frag) (mg : Str → Option Value) (base : Heap) (CB CT CD : Addr) : Prop where
  B : Bl mg
  E : Errs K mg CB CT CD
  taken : Gd P w K mg base CX0 1 "_law_taken" ["_law_row", "_law_many"] (spTaken K)
  pick : Gd P w K mg base CX0 2 "_law_pick" ["_law_row", "_law_kinds"] (spPick K)
  alike : Gd P w K mg base CX0 1 "_law_alike" ["_law_found", "_law_due"] spAlike
  words : Gd P w K mg base CX0 1 "_law_words" [] spWords
  draw : Gd P w K mg base CX0 3 "_law_design" ["_law_row"] (spDraw K)
  type : Gd P w K mg base CX0 5 "_law_type" ["_law_row", "_law_deep"] (spType K 4)
  lwi : Gd P w K mg base CX0 5 "_law_within" ["_law_design_here", "_law_one", "_law_other"] (spWithin K 4)
  isT : Gd P w K mg base CX0 5 "is_type" ["value"] (spIsType K)
  isD : Gd P w K mg base CX0 1 "is_design" ["value"] (spIsDes K)
  lies : Gd P w K mg base (L2.CX P w) 7 "lies_within" ["design", "one", "other"] (spLies K CT CD)
  wrong : ∃ g fd, Fun K "_law_wrong" "_law_wrong" sWrong g fd ∧ Df K mg "_law_wrong" g fd ["_law_work"]
abbrev NL : List Str := ["_law_script", "_law_turn", "_law_one", "_law_other", "_law_near", "_law_deep", "_law_odd", "_law_works", "_law_words_here", "_law_drawn", "_law_word", "_law_due", "_law_bad", "_law_design_here", "_law_row"]
theorem scLaw : FnScope NL ["_law_script"] (defScope sLaw) := ⟨rfl, rfl, rfl, by decide +kernel, rfl, by decide +kernel, by decide +kernel⟩
abbrev xL (P : Program) (w : World) (K : PySem.W.Frag) (mg : Str → Option Value) (base : Heap) (fa : Addr) (cdv : Value) (A : Around) (outer : List Env) (s : Shared) (H : Hp) (E : XK) : Cx := (cxOf CX0 P w K mg base NL "law" (defScope sLaw) fa cdv A outer s H E).nox
/-- the law's statement number i -/
def stL (i : Nat) : Stmt := (defBody sLaw).getD i (.Pass ⟨0, 0, 0, 0⟩)
/-- a part of the law: a statement, what it asks, what it leaves -/
def Part (X : Cx) (st : Stmt) (Pre Post : St → Hp → Prop) : Prop := ∃ t, PS X st t ∧ ∀ D σ H, Pre σ H → (∀ σ' H', Post σ' H' → D.nx σ' H') → t D σ H
theorem Part.seq {X : Cx} {st : Stmt} {rest : List Stmt} {Pre Post : St → Hp → Prop} {rt : VK} (p : Part X st Pre Post) (r : ∃ t, PSs X rest t ∧ ∀ D σ H, Post σ H → D.rt = rt → t D σ H) : ∃ t, PSs X (st :: rest) t ∧ ∀ D σ H, Pre σ H → D.rt = rt → t D σ H := by
  obtain ⟨t, h, q⟩ := p
  obtain ⟨u, h2, q2⟩ := r
  exact ⟨_, pss_cons h h2, fun D σ H pr e => q { D with nx := u D } σ H pr fun σ' H' po => q2 D σ' H' po e⟩
end K04

set_option Elab.async false
set_option linter.all false
set_option maxRecDepth 100000
set_option maxHeartbeats 4000000
/-! K04Q: the law's first statements: the row, the design, the eight turns. -/
namespace K04
open PySem L2 LamX
/-- what stays true through the law -/
structure In (K : PySem.W.Frag) (T : List (Addr × Str)) (a sc ad : Addr) (ns : List Int) (ss : List Str) (H : Hp) : Prop where
  row : Row K a sc ns H
  tab : Tabs T H
  des : SqT K H ad (ss.map V.str)
  sub : ss.Sublist WD
theorem In.keep {K : PySem.W.Frag} {T : List (Addr × Str)} {a sc ad : Addr} {ns : List Int} {ss : List Str} {H H' : Hp} (I : In K T a sc ad ns ss H) (k : Keep a H H') (R : Row K a sc ns H') : In K T a sc ad ns ss H' :=
  ⟨R, I.row.tabs k I.tab, I.row.sqT k.n I.des, I.sub⟩
theorem In.same {K : PySem.W.Frag} {T : List (Addr × Str)} {a sc ad : Addr} {ns : List Int} {ss : List Str} {H H' : Hp} (I : In K T a sc ad ns ss H) (k : Same H H') : In K T a sc ad ns ss H' := I.keep (.of k) (I.row.same k)
def S1 (K : PySem.W.Frag) (T : List (Addr × Str)) (sc : Addr) (ns : List Int) : St → Hp → Prop := fun σ H => ∃ (a ad : Addr) (ss : List Str) (o1 o2 o3 o4 o5 o6 o7 o8 o9 o10 o11 o12 : Option V),
  σ = [some (.ref sc), o1, o2, o3, o4, o5, o6, o7, o8, o9, o10, o11, o12, some (.ref ad), some (.ref a)] ∧ In K T a sc ad ns ss H
def S0 (K : PySem.W.Frag) (T : List (Addr × Str)) (sc : Addr) (ns : List Int) : St → Hp → Prop := fun σ H => σ = start NL [.ref sc] ∧ SqL K H sc (ns.map V.int) ∧ ns.length ≤ 63 ∧ Tabs T H
def S0r (K : PySem.W.Frag) (T : List (Addr × Str)) (sc : Addr) (ns : List Int) : St → Hp → Prop := fun σ H => ∃ a : Addr, σ = [some (.ref sc), none, none, none, none, none, none, none, none, none, none, none, none, none, some (.ref a)] ∧ Row K a sc ns H ∧ Tabs T H
theorem des_dp {K : PySem.W.Frag} {H : Hp} {ad : Addr} {ss : List Str} (h : SqT K H ad (ss.map V.str)) : Dp K H (.ref ad) (.tuple (ss.map PyData.str)) := by
  refine .tup h ?_
  induction ss with
  | nil => exact .nil
  | cons x r ih => exact .cons (.str x) (ih' r)
where ih' : ∀ r : List Str, DpAll K H (r.map V.str) (r.map PyData.str)
  | [] => .nil
  | y :: r => .cons (.str y) (ih' r)
theorem few_sub {ss : List Str} (h : ss.Sublist WD) : few (.tuple (ss.map PyData.str)) := by
  show (ss.map PyData.str).length ≤ 1000
  rw [List.length_map]
  have z := h.length_le
  have z2 : WD.length = 14 := rfl
  omega
section
variable {P : Program} {w : World} {K : PySem.W.Frag} {mg : Str → Option Value} {base : Heap} {fa CB CT CD sc : Addr} {cdv : Value} {A : Around} {outer : List Env} {s : Shared} {H0 : Hp} {E : XK} {T : List (Addr × Str)} {ns : List Int}
theorem part0 : Part (xL P w K mg base fa cdv A outer s H0 E) (stL 0) (S0 K T sc ns) (S0r K T sc ns) := by
  refine ⟨_, ps_set (i := 14) scLaw.nd rfl (Or.inr rfl) (pe_lst (pa_cons (pv 0) (pa_cons pe_int (pa_cons pe_int (pa_cons pe_int pa_nil))))), fun D σ H h q => ?_⟩
  obtain ⟨rfl, h1, h2, h3⟩ := h
  refine ⟨_, rfl, (by show 4 ≤ sizeLine; decide), fun p hp => ?_⟩
  have e := same_new hp (.lst [.ref sc, .int 0, .int 14274, .int 0])
  exact q _ _ ⟨p, rfl, ⟨⟨0, 14274, 0, upd_same, by decide, by decide, by decide⟩, e.seq h1, h2⟩, h3.ext e⟩
theorem part1 (L : LawT P w K mg base CB CT CD) (hr : Room 9 (xL P w K mg base fa cdv A outer s H0 E).A) : Part (xL P w K mg base fa cdv A outer s H0 E) (stL 1) (S0r K T sc ns) (S1 K T sc ns) := by
  obtain ⟨f, fd, G, D⟩ := L.draw
  refine ⟨_, ps_set (i := 13) scLaw.nd rfl (Or.inr rfl) (pe_call G (hr.mono (by decide)) rfl D.m D.k D.b .nil pass0 (pa_cons (pv 14) pa_nil)), fun D σ H h q => ?_⟩
  obtain ⟨a, rfl, R, t⟩ := h
  refine ⟨_, rfl, a, sc, ns, rfl, R, fun p ss H' k R' hp sub => ?_⟩
  exact q _ _ ⟨a, p, ss, _, _, _, _, _, _, _, _, _, _, _, _, rfl, R', R.tabs k t, SqT.of hp, sub⟩
theorem no_des {ss : List Str} (sub : ss.Sublist WD) (c : isDesD (.tuple (ss.map PyData.str)) = false) : False := by
  rw [isDes_sub sub] at c
  cases c
theorem no_ty {t : Ty} (d : t.dep ≤ 3) (c : isDeepD 3 t.d = false) : False := by
  rw [isDeep_ty d] at c
  cases c
theorem within_self {ss : List Str} {t : Ty} : withinV ss 4 t t = true := by
  first | exact wi_refl | (unfold withinV; exact wi_refl)
theorem part2 (L : LawT P w K mg base CB CT CD) (hr : Room 9 (xL P w K mg base fa cdv A outer s H0 E).A) : Part (xL P w K mg base fa cdv A outer s H0 E) (stL 2) (S1 K T sc ns) (S1 K T sc ns) := by
  obtain ⟨fy, fdy, Gy, Dy⟩ := L.type
  obtain ⟨fp, fdp, Gp, Dp'⟩ := L.pick
  obtain ⟨fi, fdi, Gi, Di⟩ := L.isT
  obtain ⟨fl, fdl, Gl', Dl⟩ := L.lies
  obtain ⟨fw, fdw, Gw, Dw⟩ := L.lwi
  obtain ⟨fk, fdk, Gk, Dk⟩ := L.alike
  have r5 : Room 5 (xL P w K mg base fa cdv A outer s H0 E).A := hr.mono (by decide)
  have r2 : Room 2 (xL P w K mg base fa cdv A outer s H0 E).A := hr.mono (by decide)
  have r1 : Room 1 (xL P w K mg base fa cdv A outer s H0 E).A := hr.mono (by decide)
  have r7 : Room 7 (xL P w K mg base fa cdv A outer s H0 E).A := hr.mono (by decide)
  refine ⟨_, ps_for PassesOwn.never rfl (pi_range1 rfl L.B.rng (pa_cons pe_int pa_nil)) (pg_name (i := 1) scLaw.nd rfl (Or.inl rfl))
    (pss_cons (ps_par (i := 2) (j := 3) rfl scLaw.nd rfl rfl (by decide) rfl rfl (pa_cons (pe_call Gy r5 rfl Dy.m Dy.k Dy.b .nil pass0 (pa_cons (pv 14) (pa_cons pe_int pa_nil))) (pa_cons (pe_call Gy r5 rfl Dy.m Dy.k Dy.b .nil pass0 (pa_cons (pv 14) (pa_cons pe_int pa_nil))) pa_nil)) rfl)
    (pss_cons (ps_set (i := 4) scLaw.nd rfl (Or.inl rfl) (pe_call Gp r2 rfl Dp'.m Dp'.k Dp'.b .nil pass0 (pa_cons (pv 14) (pa_cons (pe_lst (pa_cons (pv 3)
      (pa_cons (pe_tup (pa_cons pe_str (pa_cons (pe_call Gy r5 rfl Dy.m Dy.k Dy.b .nil pass0 (pa_cons (pv 14) (pa_cons pe_int pa_nil))) pa_nil)))
      (pa_cons (pe_tup (pa_cons pe_str (pa_cons pe_str (pa_cons pe_str pa_nil)))) (pa_cons (pe_tup (pa_cons pe_str (pa_cons pe_str (pa_cons pe_str pa_nil)))) pa_nil))))) pa_nil))))
    (pss_cons (ps_if (PW.pt (pw_or (pt_cmpR op_notBl (pe_call Gi r5 rfl Di.m Di.k Di.b .nil pass0 (pa_cons (pv 2) pa_nil)) pe_bl (nomark _))
      (pw_or1 (pt_not (pt_val (pe_call Gk r1 rfl Dk.m Dk.k Dk.b .nil pass0 (pa_cons (pe_call Gl' r7 rfl Dl.m Dl.k Dl.b .nil (passes_call (E := E0) L2.takes0 fun _ _ _ _ h => h) (pa_cons (pv 13) (pa_cons (pv 2) (pa_cons (pv 4) pa_nil))))
        (pa_cons (pe_call Gw r5 rfl Dw.m Dw.k Dw.b .nil pass0 (pa_cons (pv 13) (pa_cons (pv 2) (pa_cons (pv 4) pa_nil)))) pa_nil)))))))) (pss_one (ps_ret pe_bl)) pss_nil)
    (pss_one (ps_if (pt_cmpR op_notBl (pe_call Gl' r7 rfl Dl.m Dl.k Dl.b .nil (passes_call (E := E0) L2.takes0 fun _ _ _ _ h => h) (pa_cons (pv 13) (pa_cons (pv 2) (pa_cons (pv 2) pa_nil)))) pe_bl (nomark _)) (pss_one (ps_ret pe_bl)) pss_nil))))), fun D σ H h q => ?_⟩
  refine ⟨8, rfl, by decide, by decide, for_range (fun _ => S1 K T sc ns) h (fun i σ H _ h => ?_) q⟩
  obtain ⟨a, ad, ss, o1, o2, o3, o4, o5, o6, o7, o8, o9, o10, o11, o12, rfl, I⟩ := h
  refine ⟨_, rfl, a, sc, ns, 3, rfl, by decide, I.row, fun v1 t1 H1 d1 k1 R1 p1 => ?_⟩
  refine ⟨_, rfl, a, sc, ns, 3, rfl, by decide, R1, fun v2 t2 H2 d2 k2 R2 p2 => ?_⟩
  refine ⟨v1, v2, rfl, ?_⟩
  have I2 := (I.keep k1 R1).keep k2 R2
  have p1 := R1.dp k2.n p1 (ty_hs t1)
  refine ⟨_, rfl, _, rfl, _, rfl, a, sc, ns, 1, rfl, by decide, R2, fun v3 t3 H3 d3 k3 R3 p3 => ?_⟩
  have I3 := I2.keep k3 R3
  have p1 := R2.dp k3.n p1 (ty_hs t1)
  have p2 := R2.dp k3.n p2 (ty_hs t2)
  refine ⟨(by show 2 ≤ sizeLine; decide), fun pa hpa => ?_⟩
  refine ⟨(by show 3 ≤ sizeLine; decide), fun pb hpb => ?_⟩
  refine ⟨(by show 3 ≤ sizeLine; decide), fun pc hpc => ?_⟩
  refine ⟨(by show 4 ≤ sizeLine; decide), fun pl hpl => ?_⟩
  have ea := same_new hpa (.tup [.str "cell", v3])
  have eb := same_new hpb (.tup [.str "fun", .str "big", .str "small"])
  have ec := same_new hpc (.tup [.str "fun", .str "small", .str "big"])
  have el := same_new hpl (.lst [v2, .ref pa, .ref pb, .ref pc])
  have I4 := (((I3.same ea).same eb).same ec).same el
  have e4 := ((ea.trans eb).trans ec).trans el
  refine ⟨a, sc, pl, ns, _, rfl, upd_same, (((R3.same ea).same eb).same ec).ne hpl, (by show 0 < 4; decide), (by show 4 ≤ 1000; decide), I4.row, fun v4 H4 hv k4 R4 => ?_⟩
  have I5 := I4.keep k4 R4
  have p1 := I4.row.dp k4.n (Same.dp e4 p1) (ty_hs t1)
  obtain ⟨t4, d4, p4⟩ : ∃ t : Ty, t.dep ≤ 3 ∧ Dp K H4 v4 t.d := by
    simp only [List.mem_cons, List.not_mem_nil, or_false] at hv
    rcases hv with rfl | rfl | rfl | rfl
    · exact ⟨t2, d2, I4.row.dp k4.n (Same.dp e4 p2) (ty_hs t2)⟩
    · have z : Dp K (upd H3 pa (.tup [.str "cell", v3])) (.ref pa) (Ty.cell t3).d := dp_mkCell (SqT.of upd_same) (Same.dp ea p3)
      exact ⟨.cell t3, by show t3.dep + 1 ≤ 3; omega, I4.row.dp k4.n (Same.dp ((eb.trans ec).trans el) z) (ty_hs (.cell t3))⟩
    · have z : Dp K (upd (upd H3 pa (.tup [.str "cell", v3])) pb (.tup [.str "fun", .str "big", .str "small"])) (.ref pb) (Ty.fn .big .small).d := dp_mkFn (SqT.of upd_same) (.str _) (.str _)
      exact ⟨.fn .big .small, by decide, I4.row.dp k4.n (Same.dp (ec.trans el) z) (ty_hs (.fn .big .small))⟩
    · have z : Dp K (upd (upd (upd H3 pa (.tup [.str "cell", v3])) pb (.tup [.str "fun", .str "big", .str "small"])) pc (.tup [.str "fun", .str "small", .str "big"])) (.ref pc) (Ty.fn .small .big).d := dp_mkFn (SqT.of upd_same) (.str _) (.str _)
      exact ⟨.fn .small .big, by decide, I4.row.dp k4.n (Same.dp el z) (ty_hs (.fn .small .big))⟩
  refine ⟨_, rfl, v1, t1.d, rfl, p1, shp_ty (by omega), fun H5 e5 => ?_⟩
  refine ⟨_, _, rfl, rfl, _, rfl, iteN (by rw [isDeep_ty d1]; decide) ?_⟩
  refine ⟨_, rfl, _, rfl, _, rfl, .ref ad, v1, v4, _, t1.d, t4.d, rfl, des_dp (I5.same e5).des, few_sub I5.sub, Same.dp e5 p1, shp_ty (by omega), Same.dp e5 p4, shp_ty (by omega),
    fun H' _ => ⟨fun c => (no_des I5.sub c).elim, fun _ c => (no_ty d1 c).elim, fun _ _ c => (no_ty d4 c).elim⟩, fun _ _ _ => ⟨ad, ss, t1, t4, rfl, (I5.same e5).des, rfl, rfl, d1, d4, fun H6 e6 => ?_⟩⟩
  have I6 := (I5.same e5).same e6
  have p1 := Same.dp (e5.trans e6) p1
  have p4 := Same.dp (e5.trans e6) p4
  refine ⟨_, rfl, _, rfl, _, rfl, ad, ss, v1, v4, t1, t4, rfl, I6.des, p1, p4, by omega, by omega, by decide, fun H7 e7 => ?_⟩
  refine ⟨_, _, rfl, fun H8 e8 => ?_⟩
  refine ⟨_, rfl, iteN (by simp) ?_⟩
  have I8 := (I6.same e7).same e8
  have p1 := Same.dp (e7.trans e8) p1
  refine ⟨_, rfl, _, rfl, _, rfl, .ref ad, v1, v1, _, t1.d, t1.d, rfl, des_dp I8.des, few_sub I8.sub, p1, shp_ty (by omega), p1, shp_ty (by omega),
    fun H' _ => ⟨fun c => (no_des I8.sub c).elim, fun _ c => (no_ty d1 c).elim, fun _ _ c => (no_ty d1 c).elim⟩, fun _ _ _ => ⟨ad, ss, t1, t1, rfl, I8.des, rfl, rfl, d1, d1, fun H9 e9 => ?_⟩⟩
  refine ⟨_, _, rfl, rfl, _, rfl, iteN (by rw [within_self]; decide) ?_⟩
  exact ⟨a, ad, ss, _, _, _, _, _, _, _, _, _, _, _, _, rfl, I8.same e9⟩
end
end K04

set_option Elab.async false
set_option linter.all false
set_option maxRecDepth 100000
set_option maxHeartbeats 4000000
/-! K04R: the deep type, the odd values, the bad one. -/
namespace K04
open PySem L2 LamX
theorem dpAll_app {K : PySem.W.Frag} {H : Hp} : ∀ {as bs : List V} {ds es : List PyData}, DpAll K H as ds → DpAll K H bs es → DpAll K H (as ++ bs) (ds ++ es)
  | _, _, _, _, .nil, b => b
  | _, _, _, _, .cons h t, b => .cons h (dpAll_app t b)
theorem dpAll_mem {K : PySem.W.Frag} {H : Hp} {v : V} : ∀ {vs : List V} {ds : List PyData}, DpAll K H vs ds → v ∈ vs → ∃ d, d ∈ ds ∧ Dp K H v d
  | _, _, .nil, h => by cases h
  | _, _, .cons h t, m => by
    rcases List.mem_cons.mp m with e | m
    · exact ⟨_, List.mem_cons_self, by rw [e]; exact h⟩
    · obtain ⟨d, m', q⟩ := dpAll_mem t m
      exact ⟨d, List.mem_cons_of_mem _ m', q⟩
theorem hsAll_mem : ∀ {ds : List PyData} {d : PyData}, hsAll ds = true → d ∈ ds → hsD d = true
  | [], _, _, m => by cases m
  | e :: ds, d, g, m => by
    have g : (hsD e && hsAll ds) = true := g
    rw [Bool.and_eq_true] at g
    rcases List.mem_cons.mp m with z | m
    · rw [z]; exact g.1
    · exact hsAll_mem g.2 m
theorem lst_at {K : PySem.W.Frag} {H0 : Hp} {σ : St} {ta : TA} {ds : List PyData} (a : MkA K H0 σ ta ds) (z : ds.length ≤ 1000) {H : Hp} {Q : VK} (j : Same H0 H)
    (q : ∀ vs p H1, Same H H1 → DpAll K H1 vs ds → H1 p = none → Q (.ref p) (upd H1 p (.lst vs))) : tLst ta σ H Q :=
  a H _ j fun vs H1 _ s1 h1 => ⟨by rw [dpAll_len2 h1]; exact small_len z, fun p hp => q vs p H1 s1 h1 hp⟩
theorem deep_hs : hsD deepT = true := by decide +kernel
section
variable (K : PySem.W.Frag) (T : List (Addr × Str)) (sc : Addr) (ns : List Int)
def S3 : St → Hp → Prop := fun σ H => ∃ (a ad : Addr) (ss : List Str) (vd : V) (o1 o2 o3 o4 o6 o7 o8 o9 o10 o11 o12 : Option V),
  σ = [some (.ref sc), o1, o2, o3, o4, some vd, o6, o7, o8, o9, o10, o11, o12, some (.ref ad), some (.ref a)] ∧ In K T a sc ad ns ss H ∧ Dp K H vd deepT
def S4 (ds : List PyData) : St → Hp → Prop := fun σ H => ∃ (a ad lo : Addr) (ss : List Str) (vd : V) (vs : List V) (o1 o2 o3 o4 o7 o8 o9 o10 o11 o12 : Option V),
  σ = [some (.ref sc), o1, o2, o3, o4, some vd, some (.ref lo), o7, o8, o9, o10, o11, o12, some (.ref ad), some (.ref a)] ∧ In K T a sc ad ns ss H ∧ Dp K H vd deepT ∧ H lo = some (.lst vs) ∧ DpAll K H vs ds ∧ lo ≠ a
def S6 : St → Hp → Prop := fun σ H => ∃ (a ad : Addr) (ss : List Str) (vd vb : V) (db : PyData) (o1 o2 o3 o4 o6 o7 o8 o9 o10 o11 : Option V),
  σ = [some (.ref sc), o1, o2, o3, o4, some vd, o6, o7, o8, o9, o10, o11, some vb, some (.ref ad), some (.ref a)] ∧ In K T a sc ad ns ss H ∧ Dp K H vd deepT ∧ Dp K H vb db ∧ db ∈ oddA ++ oddB
end
section
variable {P : Program} {w : World} {K : PySem.W.Frag} {mg : Str → Option Value} {base : Heap} {fa CB CT CD sc : Addr} {cdv : Value} {A : Around} {outer : List Env} {s : Shared} {H0 : Hp} {E : XK} {T : List (Addr × Str)} {ns : List Int}
theorem part3 : Part (xL P w K mg base fa cdv A outer s H0 E) (stL 3) (S1 K T sc ns) (S3 K T sc ns) := by
  refine ⟨_, ps_set (i := 5) scLaw.nd rfl (Or.inl rfl) (pe_tup (pa_cons pe_str (pa_cons (pe_tup (pa_cons pe_str (pa_cons (pe_tup (pa_cons pe_str (pa_cons pe_str pa_nil))) pa_nil))) pa_nil))), fun D σ H h q => ?_⟩
  obtain ⟨a, ad, ss, o1, o2, o3, o4, o5, o6, o7, o8, o9, o10, o11, o12, rfl, I⟩ := h
  refine (mk_tup (by decide) (mka_cons mk_str (mka_cons (mk_tup (by decide) (mka_cons mk_str (mka_cons (mk_tup (by decide) (mka_cons mk_str (mka_cons mk_str mka_nil))) mka_nil))) mka_nil)) : Mk K H _ _ deepT) H _ (fun _ _ z => z) fun v H' _ e h => ?_
  exact q _ _ ⟨a, ad, ss, v, _, _, _, _, _, _, _, _, _, _, _, rfl, I.same e, h⟩
theorem part4 : Part (xL P w K mg base fa cdv A outer s H0 E) (stL 4) (S3 K T sc ns) (S4 K T sc ns oddA) := by
  refine ⟨_, ps_set (i := 6) scLaw.nd rfl (Or.inl rfl) (pe_lst (pa_cons pe_non (pa_cons (pe_tup pa_nil) (pa_cons pe_str (pa_cons (pe_tup (pa_cons pe_str pa_nil)) (pa_cons (pe_tup (pa_cons pe_str (pa_cons pe_str pa_nil)))
    (pa_cons (pe_tup (pa_cons pe_str (pa_cons (pv 5) pa_nil))) (pa_cons (pe_tup (pa_cons pe_str (pa_cons pe_str pa_nil))) (pa_cons (pe_tup (pa_cons pe_str (pa_cons (pv 5) (pa_cons pe_str pa_nil)))) (pa_cons (pe_lst (pa_cons pe_str (pa_cons pe_str pa_nil)))
    (pa_cons (pe_tup (pa_cons pe_str pa_nil)) (pa_cons pe_int pa_nil)))))))))))), fun D σ H h q => ?_⟩
  obtain ⟨a, ad, ss, vd, o1, o2, o3, o4, o6, o7, o8, o9, o10, o11, o12, rfl, I, hd⟩ := h
  have e5 : ([some (.ref sc), o1, o2, o3, o4, some vd, o6, o7, o8, o9, o10, o11, o12, some (.ref ad), some (.ref a)] : St)[5]? = some (some vd) := rfl
  refine lst_at (K := K) (mka_cons mk_non (mka_cons (mk_tup (by decide) mka_nil) (mka_cons mk_str (mka_cons (mk_tup (by decide) (mka_cons mk_str mka_nil)) (mka_cons (mk_tup (by decide) (mka_cons mk_str (mka_cons mk_str mka_nil)))
    (mka_cons (mk_tup (by decide) (mka_cons mk_str (mka_cons (mk_var e5 hd) mka_nil))) (mka_cons (mk_tup (by decide) (mka_cons mk_str (mka_cons mk_str mka_nil))) (mka_cons (mk_tup (by decide) (mka_cons mk_str (mka_cons (mk_var e5 hd) (mka_cons mk_str mka_nil))))
    (mka_cons (mk_lst (by decide) (mka_cons mk_str (mka_cons mk_str mka_nil))) (mka_cons (mk_tup (by decide) (mka_cons mk_str mka_nil)) (mka_cons mk_int mka_nil))))))))))) (by decide) (fun _ _ z => z) fun vs p H' e h hp => ?_
  have h : DpAll K H' vs oddA := h
  have e2 := same_new hp (.lst vs)
  exact q _ _ ⟨a, ad, p, ss, vd, vs, _, _, _, _, _, _, _, _, _, _, rfl, (I.same e).same e2, Same.dp (e.trans e2) hd, upd_same, Same.dpAll e2 h, (I.same e).row.ne hp⟩
theorem part5 : Part (xL P w K mg base fa cdv A outer s H0 E) (stL 5) (S4 K T sc ns oddA) (S4 K T sc ns (oddA ++ oddB)) := by
  refine ⟨_, ps_set (i := 6) scLaw.nd rfl (Or.inl rfl) (pe_op op_cat (pv 6) (pe_lst (pa_cons (pe_tup (pa_cons pe_str (pa_cons pe_str (pa_cons pe_str pa_nil)))) (pa_cons pe_str (pa_cons (pe_tup (pa_cons pe_str (pa_cons pe_str (pa_cons pe_str (pa_cons pe_str pa_nil)))))
    (pa_cons (pe_tup (pa_cons pe_non (pa_cons pe_str pa_nil))) (pa_cons (pe_tup (pa_cons pe_str (pa_cons pe_non pa_nil))) (pa_cons pe_str pa_nil)))))))), fun D σ H h q => ?_⟩
  obtain ⟨a, ad, lo, ss, vd, vs, o1, o2, o3, o4, o7, o8, o9, o10, o11, o12, rfl, I, hd, hl, ha, hne⟩ := h
  refine ⟨_, rfl, ?_⟩
  refine lst_at (K := K) (mka_cons (mk_tup (by decide) (mka_cons mk_str (mka_cons mk_str (mka_cons mk_str mka_nil)))) (mka_cons mk_str (mka_cons (mk_tup (by decide) (mka_cons mk_str (mka_cons mk_str (mka_cons mk_str (mka_cons mk_str mka_nil)))))
    (mka_cons (mk_tup (by decide) (mka_cons mk_non (mka_cons mk_str mka_nil))) (mka_cons (mk_tup (by decide) (mka_cons mk_str (mka_cons mk_non mka_nil))) (mka_cons mk_str mka_nil)))))) (by decide) (fun _ _ z => z) fun vb p H' e h hp => ?_
  have h : DpAll K H' vb oddB := h
  have z1 : vs.length = 11 := dpAll_len2 ha
  have z2 : vb.length = 6 := dpAll_len2 h
  have e2 := same_new hp (.lst vb)
  refine ⟨lo, p, _, _, rfl, rfl, e2 _ _ (e _ _ hl), upd_same, small_len (by omega), fun p3 hp3 => ?_⟩
  have e3 := same_new hp3 (.lst (vs ++ vb))
  exact q _ _ ⟨a, ad, p3, ss, vd, vs ++ vb, _, _, _, _, _, _, _, _, _, _, rfl, ((I.same e).same e2).same e3, Same.dp ((e.trans e2).trans e3) hd, upd_same, dpAll_app (Same.dpAll ((e.trans e2).trans e3) ha) (Same.dpAll (e2.trans e3) h), ((I.same e).same e2).row.ne hp3⟩
theorem part6 (L : LawT P w K mg base CB CT CD) (hr : Room 9 (xL P w K mg base fa cdv A outer s H0 E).A) : Part (xL P w K mg base fa cdv A outer s H0 E) (stL 6) (S4 K T sc ns (oddA ++ oddB)) (S6 K T sc ns) := by
  obtain ⟨f, fd, G, D⟩ := L.taken
  refine ⟨_, ps_set (i := 12) scLaw.nd rfl (Or.inr rfl) (pe_ix ix_list (pv 6) (pe_call G (hr.mono (by decide)) rfl D.m D.k D.b .nil pass0 (pa_cons (pv 14) (pa_cons (pe_callB call_len_seq rfl L.B.len PySem.boot_len (pa_cons (pv 6) pa_nil)) pa_nil))) (fun _ _ => rfl)), fun D σ H h q => ?_⟩
  obtain ⟨a, ad, lo, ss, vd, vs, o1, o2, o3, o4, o7, o8, o9, o10, o11, o12, rfl, I, hd, hl, ha, hne⟩ := h
  have z1 : vs.length = 17 := dpAll_len2 ha
  refine ⟨_, rfl, _, rfl, _, rfl, lo, vs, rfl, .inl (SqL.of hl), a, sc, ns, _, rfl, by omega, by omega, I.row, fun k H' k0 k1 kk R' => ?_⟩
  obtain ⟨v, hv, hat⟩ := at_int k0 k1
  refine ⟨lo, vs, k, v, rfl, rfl, SqL.of (kk lo _ hne hl), hat, ?_⟩
  obtain ⟨d, hm, hdp⟩ := dpAll_mem ha hv
  exact q _ _ ⟨a, ad, ss, vd, v, d, _, _, _, _, _, _, _, _, _, _, rfl, I.keep kk R', I.row.dp kk.n hd deep_hs, I.row.dp kk.n hdp (hsAll_mem odd_hs hm), hm⟩
end
end K04

set_option Elab.async false
set_option linter.all false
set_option maxRecDepth 100000
set_option maxHeartbeats 4000000
/-! K04S: the two lambdas, _law_wrong of one of them. -/
namespace K04
open PySem PySem.Spec PyProof.Rows L2 LamX
/-- the lambdas' name -/
def qL : Str := (envOfC "law" (defScope sLaw) 0 0 .none).qual ++ "<lambda>"
def prm : Expr → Arguments
  | .Lambda p _ _ _ => p
  | _ => { posonlyargs := [], args := [], vararg := none, kwonlyargs := [], kw_defaults := [], kwarg := none, defaults := [] }
def bod : Expr → Expr
  | .Lambda _ b _ _ => b
  | e => e
def scp : Expr → Scope
  | .Lambda _ _ s _ => s
  | _ => defScope sLaw
def lamsOf : Stmt → List Expr
  | .Assign _ (.List es _) _ => es
  | .Return (some (.Compare (.Call _ [e] _ _) _ _ _)) _ => [e]
  | _ => []
def lam1 : Expr := (lamsOf (stL 7)).getD 0 (.Name "x" ⟨0, 0, 0, 0⟩)
def lam2 : Expr := (lamsOf (stL 7)).getD 1 (.Name "x" ⟨0, 0, 0, 0⟩)
def lam3 : Expr := (lamsOf (stL 13)).getD 0 (.Name "x" ⟨0, 0, 0, 0⟩)
section
variable (X : Cx)
abbrev F1 (c : Addr) : LF := ⟨X.env.qual ++ "<lambda>", prm lam1, bod lam1, scp lam1, cloFrom X.env.cells (scp lam1).names [], .none, c⟩
abbrev F2 (d c : Addr) : LF := ⟨X.env.qual ++ "<lambda>", prm lam2, bod lam2, scp lam2, cloFrom X.env.cells (scp lam2).names [], .ref d, c⟩
abbrev F3 (c : Addr) : LF := ⟨X.env.qual ++ "<lambda>", prm lam3, bod lam3, scp lam3, cloFrom X.env.cells (scp lam3).names [], .none, c⟩
def G0 (f : Addr) (F : LF) : Hp → Prop := fun H => H f = some (LamO f F) ∧ H F.c = some (CodeO F.c F.qual)
def GD (f d : Addr) (F : LF) : Hp → Prop := fun H => H f = some (LamO f F) ∧ H F.c = some (CodeO F.c F.qual) ∧ H d = some (.tup [.int 0])
end
theorem lt1 : LamT NL (defScope sLaw) (scp lam1) [] := ⟨rfl, rfl, rfl, by decide +kernel, by decide +kernel, fun _ h => nomatch h⟩
theorem lt2 : LamT NL (defScope sLaw) (scp lam2) ["_law_a"] := ⟨rfl, rfl, rfl, by decide +kernel, by decide +kernel, by decide +kernel⟩
theorem lt3 : LamT NL (defScope sLaw) (scp lam3) [] := ⟨rfl, rfl, rfl, by decide +kernel, by decide +kernel, fun _ h => nomatch h⟩
section
variable {P : Program} {w : World} {K : PySem.W.Frag} {mg : Str → Option Value} {base : Heap} {fa CB CT CD sc : Addr} {cdv : Value} {A : Around} {outer : List Env} {s : Shared} {H0 : Hp} {E : XK} {T : List (Addr × Str)} {ns : List Int}
theorem lb1 (L : LawT P w K mg base CB CT CD) (f c : Addr) : LB (xL P w K mg base fa cdv A outer s H0 E) 7 f (F1 (xL P w K mg base fa cdv A outer s H0 E) c) [] (G0 f (F1 (xL P w K mg base fa cdv A outer s H0 E) c))
    (fun E => tCall (spLies K CT CD) [] E (tCons (tVar 13) (tCons (tVar 12) (tCons (tC (.str "num")) tNil)))) where
  q := rfl
  cl := rfl
  sc := lt1
  at_ := fun H h => h
  bind := fun s H _ _ doc pm ctv => ⟨[], rfl, BindsTo.of_eq rfl⟩
  body := fun A outer s H E r => by
    obtain ⟨fl, fdl, G, D⟩ := L.lies
    exact pe_call G r rfl D.m D.k D.b .nil (passes_call (takes_of (E := E) rfl rfl rfl rfl) fun _ _ _ _ h => h) (pa_cons (pv 13) (pa_cons (pv 12) (pa_cons pe_str pa_nil)))
theorem lb2 (L : LawT P w K mg base CB CT CD) (f d c : Addr) : LB (xL P w K mg base fa cdv A outer s H0 E) 7 f (F2 (xL P w K mg base fa cdv A outer s H0 E) d c) ["_law_a"] (GD f d (F2 (xL P w K mg base fa cdv A outer s H0 E) d c))
    (fun E => tCall (spLies K CT CD) [] E (tCons (tVar 13) (tCons (tC (.str "num")) (tCons (tVar 12) tNil)))) where
  q := rfl
  cl := rfl
  sc := lt2
  at_ := fun H h => ⟨h.1, h.2.1⟩
  bind := fun s H k h doc pm ctv => by
    obtain ⟨_, its, rv, o, h1, h2, n, h3⟩ := (show ObjOk P w H s.heap d (.tup [.int 0]) from k d _ h.2.2)
    cases rv with
    | cons r rr =>
      cases rr
      rename_i u
      exact ⟨[u], rfl, BindsTo.of_defaults (k := _) rfl h1 h3 rfl rfl⟩
  body := fun A outer s H E r => by
    obtain ⟨fl, fdl, G, D⟩ := L.lies
    exact pe_call G r rfl D.m D.k D.b .nil (passes_call (takes_of (E := E) rfl rfl rfl rfl) fun _ _ _ _ h => h) (pa_cons (pv 13) (pa_cons pe_str (pa_cons (pv 12) pa_nil)))
end
end K04

set_option Elab.async false
set_option linter.all false
set_option maxRecDepth 100000
set_option maxHeartbeats 4000000
/-! K04T: the list of lambdas is made; the bad value is refused. -/
namespace K04
open PySem PySem.Spec PyProof.Rows L2 LamX
theorem In.extN {K : PySem.W.Frag} {T : List (Addr × Str)} {a sc ad : Addr} {ns : List Int} {ss : List Str} {H H' : Hp} (I : In K T a sc ad ns ss H) (e : ExtN H H') (t : Tabs T H') : In K T a sc ad ns ss H' :=
  ⟨I.row.extN e, t, I.row.sqT (KeepN.ofE e) I.des, I.sub⟩
theorem G0.keep {K : PySem.W.Frag} {a sc f : Addr} {ns : List Int} {H H' : Hp} {F : LF} (R : Row K a sc ns H) (k : Keep a H H') (h : G0 f F H) : G0 f F H' := by
  obtain ⟨_, ha⟩ := R.lst
  exact ⟨k _ _ (ne_of h.1 ha fun z => by unfold LamO at z; cases z) h.1, k _ _ (ne_of h.2 ha fun z => by unfold CodeO at z; cases z) h.2⟩
theorem GD.keep {K : PySem.W.Frag} {a sc f d : Addr} {ns : List Int} {H H' : Hp} {F : LF} (R : Row K a sc ns H) (k : Keep a H H') (h : GD f d F H) : GD f d F H' := by
  obtain ⟨_, ha⟩ := R.lst
  exact ⟨k _ _ (ne_of h.1 ha fun z => by unfold LamO at z; cases z) h.1, k _ _ (ne_of h.2.1 ha fun z => by unfold CodeO at z; cases z) h.2.1, k _ _ (ne_of h.2.2 ha fun z => by cases z) h.2.2⟩
theorem lamO_tbl {f : Addr} {F : LF} (ps : Array Value) : LamO f F ≠ .tbl ps := fun z => by
  unfold LamO at z
  cases z
section
variable (K : PySem.W.Frag) (T : List (Addr × Str)) (sc : Addr) (ns : List Int) (X : Cx)
def S7 : L2.St → Hp → Prop := fun σ H => ∃ (a ad pw f1 f2 c1 c2 d : Addr) (ss : List Str) (vd vb : V) (db : PyData) (o1 o2 o3 o4 o6 o8 o9 o10 o11 : Option V),
  σ = [some (.ref sc), o1, o2, o3, o4, some vd, o6, some (.ref pw), o8, o9, o10, o11, some vb, some (.ref ad), some (.ref a)] ∧ In K T a sc ad ns ss H ∧ Dp K H vd deepT ∧ Dp K H vb db ∧ db ∈ oddA ++ oddB ∧
  H pw = some (.lst [.ref f1, .ref f2]) ∧ pw ≠ a ∧ G0 f1 (F1 X c1) H ∧ GD f2 d (F2 X d c2) H
end
section
variable {P : Program} {w : World} {K : PySem.W.Frag} {mg : Str → Option Value} {base : Heap} {fa CB CT CD sc c PT : Addr} {A : Around} {outer : List Env} {s : Shared} {H0 : Hp} {E : XK} {ns : List Int}
theorem part7 (TB : TabB base mg c PT) : Part (xL P w K mg base fa (.ref c) A outer s H0 E) (stL 7) (S6 K [(PT, qL)] sc ns) (S7 K [(PT, qL)] sc ns (xL P w K mg base fa (.ref c) A outer s H0 E)) := by
  have hm : (PT, qL) ∈ [(PT, qL)] := List.mem_cons_self
  have hu : ∀ p ∈ [(PT, qL)], p.1 = PT → p.2 = qL := fun p hp _ => by rw [List.mem_singleton.mp hp]
  refine ⟨_, ps_set (i := 7) scLaw.nd rfl (Or.inl rfl) (pe_lst (pa_cons (pe_lam0 (T := [(PT, qL)]) TB rfl hm hu lt1.free rfl) (pa_cons (pe_lamD (T := [(PT, qL)]) TB rfl hm hu lt2.free rfl rfl) pa_nil))), fun D σ H h q => ?_⟩
  obtain ⟨a, ad, ss, vd, vb, db, o1, o2, o3, o4, o6, o7, o8, o9, o10, o11, rfl, I, hd, hb, hm⟩ := h
  refine ⟨I.tab, fun f1 c1 H1 e1 T1 a1 b1 => ⟨T1, fun f2 c2 d H2 e2 T2 a2 b2 x2 => ⟨small_len (by show 2 ≤ 1000; decide), fun p hp => ?_⟩⟩⟩
  have e12 := e1.trans e2
  have e3 := same_new hp (.lst [.ref f1, .ref f2])
  have I2 := I.extN e12 T2
  refine q _ _ ⟨a, ad, p, f1, f2, c1, c2, d, ss, vd, vb, db, _, _, _, _, _, _, _, _, _, rfl, I2.same e3, Same.dp e3 (I.row.dp (KeepN.ofE e12) hd deep_hs), Same.dp e3 (I.row.dp (KeepN.ofE e12) hb (hsAll_mem odd_hs hm)), hm, upd_same, I2.row.ne hp, ⟨e3 _ _ (e2 _ _ a1 lamO_tbl), e3 _ _ (e2 _ _ b1 codeO_ne)⟩, e3 _ _ a2, e3 _ _ b2, e3 _ _ x2⟩
theorem odd_no {d : PyData} (h : d ∈ oddA ++ oddB) : isDeepD 3 d = false := by
  have z := List.all_eq_true.mp odd_bad d h
  rw [Bool.not_eq_true'] at z
  exact z
theorem odd_sh {d : PyData} (h : d ∈ oddA ++ oddB) : Shp d := by
  have z := List.all_eq_true.mp odd_shp d h
  exact of_decide_eq_true z
theorem num_sh : Shp (.str "num") := shp_ty (t := .num) (by decide)
theorem num_good : isDeepD 3 (.str "num") = true := isDeep_ty (t := .num) (by decide)
theorem deep_sh : Shp deepT := by decide +kernel
theorem part8 (L : LawT P w K mg base CB CT CD) (hr : Room 9 (xL P w K mg base fa (.ref c) A outer s H0 E).A) :
    Part (xL P w K mg base fa (.ref c) A outer s H0 E) (stL 8) (S7 K [(PT, qL)] sc ns (xL P w K mg base fa (.ref c) A outer s H0 E)) (S1 K [(PT, qL)] sc ns) := by
  obtain ⟨fi, fdi, Gi, Di⟩ := L.isT
  obtain ⟨ft, fdt, Gt, Dt⟩ := L.taken
  obtain ⟨fw, fdw, Fw, Dw⟩ := L.wrong
  have r5 : Room 5 (xL P w K mg base fa (.ref c) A outer s H0 E).A := hr.mono (by decide)
  have r1 : Room 1 (xL P w K mg base fa (.ref c) A outer s H0 E).A := hr.mono (by decide)
  refine ⟨_, ps_if (PW.pt (pw_or (pt_cmpR op_notBl (pe_call Gi r5 rfl Di.m Di.k Di.b .nil pass0 (pa_cons (pv 12) pa_nil)) pe_bl (nomark _)) (pw_or (pt_cmpR op_notBl (pe_call Gi r5 rfl Di.m Di.k Di.b .nil pass0 (pa_cons (pv 5) pa_nil)) pe_bl (nomark _))
    (pw_or1 (pt_cmpR op_ne (pe_wrong (k := 7) L.E L.B.isi Fw Dw rfl hr (pe_ix ix_list (pv 7) (pe_call Gt r1 rfl Dt.m Dt.k Dt.b .nil pass0 (pa_cons (pv 14) (pa_cons pe_int pa_nil))) (fun _ _ => rfl))) pe_str (nomark _)))))) (pss_one (ps_ret pe_bl)) pss_nil, fun D σ H h q => ?_⟩
  obtain ⟨a, ad, pw, f1, f2, c1, c2, d, ss, vd, vb, db, o1, o2, o3, o4, o6, o8, o9, o10, o11, rfl, I, hd, hb, hm, hw, wa, g1, g2⟩ := h
  refine ⟨_, rfl, vb, db, rfl, hb, odd_sh hm, fun H1 e1 => ⟨_, _, rfl, rfl, _, rfl, iteN (by rw [odd_no hm]; decide) ?_⟩⟩
  refine ⟨_, rfl, vd, deepT, rfl, Same.dp e1 hd, deep_sh, fun H2 e2 => ⟨_, _, rfl, rfl, _, rfl, iteN (by rw [deep_good]; decide) ?_⟩⟩
  have e12 := e1.trans e2
  have I2 := I.same e12
  refine ⟨_, rfl, _, rfl, a, sc, ns, 2, rfl, by decide, by decide, I2.row, fun k H3 k0 k1 kk R3 => ?_⟩
  have I3 := I2.keep kk R3
  have hb3 : Dp K H3 vb db := I2.row.dp kk.n (Same.dp e12 hb) (hsAll_mem odd_hs hm)
  have hw3 : H3 pw = some (.lst [.ref f1, .ref f2]) := kk _ _ wa (e12 _ _ hw)
  have g13 : G0 f1 (F1 (xL P w K mg base fa (.ref c) A outer s H0 E) c1) H3 := G0.keep I2.row kk ⟨e12 _ _ g1.1, e12 _ _ g1.2⟩
  have g23 : GD f2 d (F2 (xL P w K mg base fa (.ref c) A outer s H0 E) d c2) H3 := GD.keep I2.row kk ⟨e12 _ _ g2.1, e12 _ _ g2.2.1, e12 _ _ g2.2.2⟩
  obtain ⟨v, hv, hat⟩ := at_int (xs := ([.ref f1, .ref f2] : List V)) k0 k1
  refine ⟨pw, _, k, v, rfl, rfl, SqL.of hw3, hat, ?_⟩
  have fin : ∀ H4, Same H3 H4 → S1 K [(PT, qL)] sc ns [some (.ref sc), o1, o2, o3, o4, some vd, o6, some (.ref pw), o8, o9, o10, o11, some vb, some (.ref ad), some (.ref a)] H4 := fun H4 e4 =>
    ⟨a, ad, ss, _, _, _, _, _, _, _, _, _, _, _, _, rfl, I3.same e4⟩
  simp only [List.mem_cons, List.not_mem_nil, or_false] at hv
  rcases hv with rfl | rfl
  · refine ⟨f1, _, _, _, _, rfl, lb1 L f1 c1, g13, ?_⟩
    refine ⟨_, rfl, _, rfl, .ref ad, vb, .str "num", _, db, .str "num", rfl, des_dp I3.des, few_sub I3.sub, hb3, odd_sh hm, .str _, num_sh, fun H4 e4 => ⟨fun z => (no_des I3.sub z).elim, fun _ _ => ?_, fun _ z _ => ?_⟩, fun _ z _ => ?_⟩
    · exact ⟨rfl, .inl ⟨rfl, rfl, _, rfl, iteN (by decide) (q _ _ (fin H4 e4))⟩⟩
    · rw [odd_no hm] at z; cases z
    · rw [odd_no hm] at z; cases z
  · refine ⟨f2, _, _, _, _, rfl, lb2 L f2 d c2, g23, ?_⟩
    refine ⟨_, rfl, _, rfl, .ref ad, .str "num", vb, _, .str "num", db, rfl, des_dp I3.des, few_sub I3.sub, .str _, num_sh, hb3, odd_sh hm, fun H4 e4 => ⟨fun z => (no_des I3.sub z).elim, fun _ z => ?_, fun _ _ _ => ?_⟩, fun _ _ z => ?_⟩
    · rw [num_good] at z; cases z
    · exact ⟨rfl, .inl ⟨rfl, rfl, _, rfl, iteN (by decide) (q _ _ (fin H4 e4))⟩⟩
    · rw [odd_no hm] at z; cases z
end
end K04

set_option Elab.async false
set_option linter.all false
set_option maxRecDepth 100000
set_option maxHeartbeats 4000000
/-! K04U: the words, the drawn tuple. -/
namespace K04
open PySem L2 LamX
def WH : List Str := WD ++ (["any", "put checked", ""] : List Str)
section
variable (K : PySem.W.Frag) (T : List (Addr × Str)) (sc : Addr) (ns : List Int)
def S9 : L2.St → Hp → Prop := fun σ H => ∃ (a ad pw : Addr) (ss : List Str) (o1 o2 o3 o4 o5 o6 o7 o9 o10 o11 o12 : Option V),
  σ = [some (.ref sc), o1, o2, o3, o4, o5, o6, o7, some (.ref pw), o9, o10, o11, o12, some (.ref ad), some (.ref a)] ∧ In K T a sc ad ns ss H ∧ H pw = some (.lst (WH.map V.str)) ∧ pw ≠ a
def S10 : L2.St → Hp → Prop := fun σ H => ∃ (a ad pw pd : Addr) (ss ws : List Str) (o1 o2 o3 o4 o5 o6 o7 o10 o11 o12 : Option V),
  σ = [some (.ref sc), o1, o2, o3, o4, o5, o6, o7, some (.ref pw), some (.ref pd), o10, o11, o12, some (.ref ad), some (.ref a)] ∧ In K T a sc ad ns ss H ∧ H pw = some (.lst (WH.map V.str)) ∧ SqT K H pd (ws.map V.str) ∧ ws.length ≤ 3 ∧ ∀ x ∈ ws, x ∈ WH
end
section
variable {P : Program} {w : World} {K : PySem.W.Frag} {mg : Str → Option Value} {base : Heap} {fa CB CT CD sc : Addr} {cdv : Value} {A : Around} {outer : List Env} {s : Shared} {H0 : Hp} {E : XK} {T : List (Addr × Str)} {ns : List Int}
theorem part9 (L : LawT P w K mg base CB CT CD) (hr : Room 9 (xL P w K mg base fa cdv A outer s H0 E).A) : Part (xL P w K mg base fa cdv A outer s H0 E) (stL 9) (S1 K T sc ns) (S9 K T sc ns) := by
  obtain ⟨f, fd, G, D⟩ := L.words
  refine ⟨_, ps_set (i := 8) scLaw.nd rfl (Or.inr rfl) (pe_op op_cat (pe_call0 G (hr.mono (by decide)) rfl D.m D.k D.b .nil pass0) (pe_lst (pa_cons pe_str (pa_cons pe_str (pa_cons pe_str pa_nil))))), fun D σ H h q => ?_⟩
  obtain ⟨a, ad, ss, o1, o2, o3, o4, o5, o6, o7, o8, o9, o10, o11, o12, rfl, I⟩ := h
  refine ⟨rfl, fun p H1 e1 np hp => ?_⟩
  refine ⟨small_len (by show 3 ≤ 1000; decide), fun p2 hp2 => ?_⟩
  have e2 := same_new hp2 (.lst [.str "any", .str "put checked", .str ""])
  refine ⟨p, p2, _, _, rfl, rfl, e2 _ _ hp, upd_same, small_len (by show 14 + 3 ≤ 1000; decide), fun p3 hp3 => ?_⟩
  have e3 := same_new hp3 (.lst (WD.map V.str ++ [.str "any", .str "put checked", .str ""]))
  have I2 := (I.same e1).same e2
  exact q _ _ ⟨a, ad, p3, ss, _, _, _, _, _, _, _, _, _, _, _, rfl, I2.same e3, upd_same, I2.row.ne hp3⟩
theorem mem_strs {l : List Str} {v : V} (h : v ∈ l.map V.str) : ∃ x, v = .str x ∧ x ∈ l := by
  obtain ⟨x, m, e⟩ := List.mem_map.mp h
  exact ⟨x, e.symm, m⟩
theorem part10 (L : LawT P w K mg base CB CT CD) (hr : Room 9 (xL P w K mg base fa cdv A outer s H0 E).A) : Part (xL P w K mg base fa cdv A outer s H0 E) (stL 10) (S9 K T sc ns) (S10 K T sc ns) := by
  obtain ⟨ft, fdt, Gt, Dt⟩ := L.taken
  obtain ⟨fp, fdp, Gp, Dp'⟩ := L.pick
  refine ⟨_, ps_set (i := 9) scLaw.nd rfl (Or.inl rfl) (pe_callTy call_tuple_of rfl L.B.tup (by decide +kernel) (pa_cons
    (pe_lc (own := [("_law_turn", 1)]) (g := gName 1) rfl scLaw.nd (pi_range1 rfl L.B.rng (pa_cons (pe_call Gt (hr.mono (by decide)) rfl Dt.m Dt.k Dt.b .nil pass0 (pa_cons (pv 14) (pa_cons pe_int pa_nil))) pa_nil)) (blkOk_by (own := [("_law_turn", 1)]) (N := NL) (sc := defScope sLaw) (by decide +kernel))
      (fun _ _ _ _ _ => pg_name (i := 1) scLaw.nd rfl (Or.inl rfl)) (fun _ _ _ _ _ => pts_nil)
      (fun _ _ _ _ _ => pe_call Gp (hr.mono (by decide)) rfl Dp'.m Dp'.k Dp'.b .nil pass0 (pa_cons (pv 14) (pa_cons (pv 8) pa_nil)))) pa_nil)), fun D σ H h q => ?_⟩
  obtain ⟨a, ad, pw, ss, o1, o2, o3, o4, o5, o6, o7, o9, o10, o11, o12, rfl, I, hw, wa⟩ := h
  refine ⟨_, rfl, a, sc, ns, 4, rfl, by decide, by decide, I.row, fun k H1 k0 k1 kk R1 => ⟨k, rfl, by omega, by omega, fun d hd => ?_⟩⟩
  have I1 := I.keep kk R1
  have hw1 : H1 pw = some (.lst (WH.map V.str)) := kk _ _ wa hw
  have npd : pw ≠ d := ne_of_none hw1 hd
  have nda : d ≠ a := R1.ne hd
  have ed := same_new hd (.lst [])
  refine lc_range (fun i H' => ∃ ws : List Str, H' d = some (.lst (ws.map V.str)) ∧ ws.length = i ∧ (∀ x ∈ ws, x ∈ WH) ∧ Keep a H1 H' ∧ Row K a sc ns H' ∧ H' pw = some (.lst (WH.map V.str))) ⟨[], upd_same, rfl, (fun _ z => nomatch z), .of ed, R1.same ed, ed _ _ hw1⟩ ?_ ?_
  · rintro i H3 hi ⟨ws, x1, x2, xm, x3, xr, x4⟩
    refine ⟨rfl, ?_⟩
    refine ⟨_, rfl, _, rfl, a, sc, pw, ns, _, rfl, x4, wa, (by show 0 < 17; decide), (by show 17 ≤ 1000; decide), xr, fun v H4 hv k4 R4 => ?_⟩
    obtain ⟨x, rfl, hx⟩ := mem_strs hv
    have y1 : H4 d = some (.lst (ws.map V.str)) := k4 d _ nda x1
    refine ⟨_, y1, ?_, ws ++ [x], ?_, ?_, ?_, Keep.put (.refl a H1) hd (x3.trans k4), R1.put hd R4, ?_⟩
    · rw [List.length_map]
      have z : i < 4 := by omega
      exact Nat.lt_of_lt_of_le (show ws.length < 1000 by omega) (small_len (Nat.le_refl _))
    · rw [upd_same, List.map_append] <;> rfl
    · rw [List.length_append, x2] <;> rfl
    · intro y hy
      rcases List.mem_append.mp hy with z | z
      · exact xm y z
      · rw [List.mem_singleton.mp z]; exact hx
    · rw [upd_ne npd]
      exact k4 pw _ wa x4
  · rintro H3 ⟨ws, x1, x2, xm, x3, xr, x4⟩
    refine ⟨d, _, rfl, .inl ⟨SqL.of x1, fun t ht => ?_⟩⟩
    have et := same_new ht (.tup (ws.map V.str))
    exact q _ _ ⟨a, ad, pw, t, ss, ws, _, _, _, _, _, _, _, _, _, _, rfl, (I1.keep x3 xr).same et, et _ _ x4, SqT.of upd_same, by omega, xm⟩
end
end K04

set_option Elab.async false
set_option linter.all false
set_option maxRecDepth 100000
set_option maxHeartbeats 4000000
/-! K04V: what is due; is_design. -/
namespace K04
open PySem L2 LamX
theorem dpS {K : PySem.W.Frag} {H : Hp} : ∀ ws : List Str, DpAll K H (ws.map V.str) (ws.map PyData.str)
  | [] => .nil
  | x :: r => .cons (.str x) (dpS r)
theorem lay_strs : ∀ {ws : List Str}, (∀ x ∈ ws, x ∈ WH) → PyData.canLayAll0 (ws.map PyData.str) = true ∧ PyData.depthAll (ws.map PyData.str) = 0
  | [], _ => by
    constructor
    · show PyData.canLayAll0 [] = true
      unfold PyData.canLayAll0
      rfl
    · show PyData.depthAll [] = 0
      unfold PyData.depthAll
      rfl
  | x :: r, h => by
    obtain ⟨h1, h2⟩ := lay_strs (ws := r) fun y hy => h y (List.mem_cons_of_mem _ hy)
    have hx : WH.all (fun x => PyData.canLay0 (.str x) && decide (PyData.depth (.str x) = 0)) = true := by decide +kernel
    have z := List.all_eq_true.mp hx x (h x List.mem_cons_self)
    rw [Bool.and_eq_true, decide_eq_true_eq] at z
    constructor
    · show PyData.canLayAll0 (PyData.str x :: r.map PyData.str) = true
      unfold PyData.canLayAll0
      rw [z.1, h1] <;> rfl
    · show PyData.depthAll (PyData.str x :: r.map PyData.str) = 0
      unfold PyData.depthAll
      rw [z.2, h2] <;> rfl
theorem shp_listS {ws : List Str} (h : ∀ x ∈ ws, x ∈ WH) : Shp (.list (ws.map PyData.str)) := by
  obtain ⟨h1, h2⟩ := lay_strs h
  show (PyData.canLay0 (.list (ws.map PyData.str)) && decide (PyData.depth (.list (ws.map PyData.str)) ≤ 64)) = true
  unfold PyData.canLay0 PyData.depth
  rw [h1, h2] <;> rfl
/-- the words that are none -/
def fw (l : List Str) : List Str := l.filter fun w => !inV (.str w) (WD.map V.str)
theorem cut_wd : cutV (WH.map V.str) none (some 14) = WD.map V.str := rfl
theorem fw_nil {ws : List Str} : (fw ws = []) ↔ (ws.all fun w => inV (.str w) (WD.map V.str)) = true := by
  unfold fw
  rw [List.filter_eq_nil_iff, List.all_eq_true]
  constructor
  · intro h x hx
    have z := h x hx
    cases e : inV (.str x) (WD.map V.str) with
    | true => rfl
    | false => rw [e] at z; exact absurd rfl z
  · intro h x hx
    rw [h x hx]
    decide
theorem fw_pos {l : List Str} {x : Str} (c : (!inV (.str x) (WD.map V.str)) = true) : fw (l ++ [x]) = fw l ++ [x] := by
  unfold fw
  rw [List.filter_append, List.filter_cons_of_pos (p := fun w => !inV (.str w) (WD.map V.str)) c] <;> rfl
theorem fw_neg {l : List Str} {x : Str} (c : ¬ (!inV (.str x) (WD.map V.str)) = true) : fw (l ++ [x]) = fw l := by
  unfold fw
  rw [List.filter_append, List.filter_cons_of_neg (p := fun w => !inV (.str w) (WD.map V.str)) c, List.filter_nil, List.append_nil]
theorem sub_wh {ws : List Str} (h : ∀ x ∈ ws, x ∈ WH) : ∀ x ∈ fw ws, x ∈ WH := fun x hx => h x (List.mem_filter.mp hx).1
section
variable (K : PySem.W.Frag) (T : List (Addr × Str)) (sc : Addr) (ns : List Int)
def S11 : L2.St → Hp → Prop := fun σ H => ∃ (a ad pd : Addr) (ss ws : List Str) (o1 o2 o3 o4 o5 o6 o7 o8 o10 o12 : Option V),
  σ = [some (.ref sc), o1, o2, o3, o4, o5, o6, o7, o8, some (.ref pd), o10, some (.bl (isDesD (.tuple (ws.map PyData.str)))), o12, some (.ref ad), some (.ref a)] ∧ In K T a sc ad ns ss H ∧ SqT K H pd (ws.map V.str) ∧ ws.length ≤ 3
end
section
variable {P : Program} {w : World} {K : PySem.W.Frag} {mg : Str → Option Value} {base : Heap} {fa CB CT CD sc : Addr} {cdv : Value} {A : Around} {outer : List Env} {s : Shared} {H0 : Hp} {E : XK} {T : List (Addr × Str)} {ns : List Int}
theorem part11 (L : LawT P w K mg base CB CT CD) (hr : Room 9 (xL P w K mg base fa cdv A outer s H0 E).A) : Part (xL P w K mg base fa cdv A outer s H0 E) (stL 11) (S10 K T sc ns) (S11 K T sc ns) := by
  refine ⟨_, ps_set (i := 11) scLaw.nd rfl (Or.inl rfl) (pe_and (pe_cmpR (op_eqD hr.units)
      (pe_lc (own := [("_law_word", 10)]) (g := gName 10) rfl scLaw.nd (pi_tup (pv 9)) (blkOk_by (own := [("_law_word", 10)]) (N := NL) (sc := defScope sLaw) (by decide +kernel))
        (fun _ _ _ _ _ => pg_name (i := 10) scLaw.nd rfl (Or.inl rfl)) (fun _ _ _ _ _ => pts_one (pt_cmpR (r := rIn K true) op_notIn_seq (pv 10) (pe_slice (r := rSlL K) sl_list (pv 8) po_none (po_some pe_int)) rfl)) (fun _ _ _ _ _ => pv 10)) (pe_lst pa_nil) (nomark _))
    (pe_one (pe_cmpR (op_eqD hr.units) (pe_callTy call_list_of rfl L.B.lst (by decide +kernel) (pa_cons (pv 9) pa_nil))
      (pe_callB (cr_sortT rfl) rfl L.B.srt (by decide +kernel) (pa_cons (pe_callTy (cr_setT rfl) rfl L.B.set (by decide +kernel) (pa_cons (pv 9) pa_nil)) pa_nil)) (nomark _)))), fun D σ H h q => ?_⟩
  obtain ⟨a, ad, pw, pd, ss, ws, o1, o2, o3, o4, o5, o6, o7, o10, o11, o12, rfl, I, hw, hp, hl, hm⟩ := h
  refine ⟨_, rfl, pd, rfl, ⟨_, hp⟩, fun d hd => ?_⟩
  have ed := same_new hd (.lst [])
  refine lc_tup (K := K) (a := pd) (xs := ws.map V.str) (fun i H' => H' d = some (.lst ((fw (ws.take i)).map V.str)) ∧ Same H H') ⟨upd_same, ed⟩ (fun i H' _ z => Same.sqT z.2 hp) ?_ ?_
  · rintro i x H3 hx ⟨x1, x2⟩
    obtain ⟨sx, hsx, rfl⟩ := str_at hx
    refine ⟨rfl, ?_⟩
    refine ⟨_, rfl, _, rfl, 14, rfl, pw, _, rfl, SqL.of (x2 _ _ hw), fun p hp2 => ⟨p, _, rfl, .inl (SqL.of upd_same), rfl, rfl, _, rfl, ?_⟩⟩
    have e3 := same_new hp2 (.lst (cutV (WH.map V.str) none (some 14)))
    have et : ws.take (i + 1) = ws.take i ++ [sx] := by rw [List.take_add_one, hsx] <;> rfl
    refine ite2 (fun c => ?_) (fun c => ?_)
    · have c : (!inV (.str sx) (WD.map V.str)) = true := c
      have e4 : fw (ws.take (i + 1)) = fw (ws.take i) ++ [sx] := by
        rw [et, fw_pos c]
      refine ⟨_, rfl, _, e3 _ _ x1, ?_, ?_, Same.put (fun _ _ z => z) hd (x2.trans e3)⟩
      · rw [List.length_map]
        have z := List.length_filter_le (fun w => !inV (.str w) (WD.map V.str)) (ws.take i)
        rw [List.length_take] at z
        have z2 : (fw (ws.take i)).length ≤ 3 := by unfold fw; omega
        exact Nat.lt_of_lt_of_le (show _ < 1000 by omega) (small_len (Nat.le_refl _))
      · rw [upd_same, e4, List.map_append] <;> rfl
    · have c : ¬ (!inV (.str sx) (WD.map V.str)) = true := c
      have e4 : fw (ws.take (i + 1)) = fw (ws.take i) := by
        rw [et, fw_neg c]
      exact ⟨by rw [e4]; exact e3 _ _ x1, x2.trans e3⟩
  · rintro H3 ⟨x1, x2⟩
    rw [List.length_map, List.take_length] at x1
    refine ⟨small_len (by show 0 ≤ 1000; decide), fun p hp2 => ?_⟩
    have e2 := same_new hp2 (.lst [])
    have I2 := (I.same x2).same e2
    refine ⟨.list ((fw ws).map PyData.str), .list (([] : List Str).map PyData.str), .lst (SqL.of (e2 _ _ x1)) (dpS _), .lst (SqL.of upd_same) .nil, shp_listS (sub_wh hm), shp_listS (fun _ z => nomatch z), _, rfl, ?_⟩
    refine ite2 (fun c => ?_) (fun c => ?_)
    · rw [eqv_listS, decide_eq_true_eq] at c
      have hp3 := Same.sqT (x2.trans e2) hp
      refine ⟨_, rfl, pd, _, rfl, .inr hp3, fun l hl2 => ?_⟩
      have e3 := same_new hl2 (.lst (ws.map V.str))
      refine ⟨_, rfl, pd, ws, rfl, Same.sqT e3 hp3, by omega, fun a2 ha2 => ?_⟩
      have e4 := same_new ha2 (SetOT w a2 ws)
      refine ⟨a2, ws, rfl, upd_same, by omega, fun ys p4 s1 s2 s3 s4 hp4 => ?_⟩
      have e5 := same_new hp4 (.lst (ys.map V.str))
      refine ⟨.list (ws.map PyData.str), .list (ys.map PyData.str), .lst (SqL.of (e5 _ _ (e4 _ _ upd_same))) (dpS _), .lst (SqL.of upd_same) (dpS _), shp_listS hm, shp_listS (fun x hx => hm x ((s3 x).1 hx)), ?_⟩
      have ev : PyData.eqv (.list (ws.map PyData.str)) (.list (ys.map PyData.str)) = isDesD (.tuple (ws.map PyData.str)) := by
        rw [eqv_listS, isDes_str, fw_nil.1 c, Bool.true_and, strict_sorted s1 s2 s3]
      rw [ev]
      exact q _ _ ⟨a, ad, pd, ss, ws, _, _, _, _, _, _, _, _, _, _, rfl, ((I2.same e3).same e4).same e5, Same.sqT ((e3.trans e4).trans e5) hp3, hl⟩
    · rw [eqv_listS, decide_eq_true_eq] at c
      have ev : isDesD (.tuple (ws.map PyData.str)) = false := by
        rw [isDes_str]
        cases z : (ws.all fun w => inV (.str w) (WD.map V.str)) with
        | true => exact absurd (fw_nil.2 z) c
        | false => rfl
      have z := q ([some (.ref sc), o1, o2, o3, o4, o5, o6, o7, some (.ref pw), some (.ref pd), o10, some (.bl (isDesD (.tuple (ws.map PyData.str)))), o12, some (.ref ad), some (.ref a)]) _
        ⟨a, ad, pd, ss, ws, _, _, _, _, _, _, _, _, _, _, rfl, I2, Same.sqT (x2.trans e2) hp, hl⟩
      rw [ev] at z
      exact z
end
end K04

set_option Elab.async false
set_option linter.all false
set_option maxRecDepth 100000
set_option maxHeartbeats 4000000
/-! K04W: the last statements; the whole law. -/
namespace K04
open PySem PySem.Spec PyProof.Rows L2 LamX
def badA : TA := tCons (tC .non) (tCons (tC (.str "put")) (tCons (tLst (tCons (tC (.str "put")) tNil)) (tCons (tTup (tCons (tC (.str "share")) (tCons (tC (.str "put")) tNil))) (tCons (tTup (tCons (tC (.str "put")) (tCons (tC (.str "put")) tNil))) (tCons (tTup (tCons (tC .non) tNil)) tNil)))))
theorem bad_hs : hsAll badDs = true := by decide +kernel
theorem bad_no {d : PyData} (h : d ∈ badDs) : isDesD d = false := by
  have z := List.all_eq_true.mp badDs_bad d h
  rw [Bool.not_eq_true'] at z
  exact z
def fewB : PyData → Bool
  | .tuple ds => decide (ds.length ≤ 1000)
  | _ => true
theorem few_by {d : PyData} (h : fewB d = true) : few d := by
  cases d with
  | tuple ds =>
    show ds.length ≤ 1000
    exact of_decide_eq_true h
  | _ => exact True.intro
theorem bad_few {d : PyData} (h : d ∈ badDs) : few d := by
  have a : badDs.all fewB = true := by decide +kernel
  exact few_by (List.all_eq_true.mp a d h)
theorem non_sh : Shp .none := by decide +kernel
section
variable {P : Program} {w : World} {K : PySem.W.Frag} {mg : Str → Option Value} {base : Heap} {fa CB CT CD sc c PT : Addr} {cdv : Value} {A : Around} {outer : List Env} {s : Shared} {H0 : Hp} {E : XK} {T : List (Addr × Str)} {ns : List Int}
theorem part12 (L : LawT P w K mg base CB CT CD) (hr : Room 9 (xL P w K mg base fa cdv A outer s H0 E).A) : Part (xL P w K mg base fa cdv A outer s H0 E) (stL 12) (S11 K T sc ns) (S1 K T sc ns) := by
  obtain ⟨fk, fdk, Gk, Dk⟩ := L.alike
  obtain ⟨fd, fdd, Gd, Dd⟩ := L.isD
  have r1 : Room 1 (xL P w K mg base fa cdv A outer s H0 E).A := hr.mono (by decide)
  refine ⟨_, ps_if (PW.pt (pw_or (pt_not (pt_val (pe_call Gk r1 rfl Dk.m Dk.k Dk.b .nil pass0 (pa_cons (pe_call Gd r1 rfl Dd.m Dd.k Dd.b .nil pass0 (pa_cons (pv 9) pa_nil)) (pa_cons (pv 11) pa_nil)))))
    (pw_or (pt_cmpR op_notBl (pe_call Gd r1 rfl Dd.m Dd.k Dd.b .nil pass0 (pa_cons (pv 13) pa_nil)) pe_bl (nomark _))
    (pw_or1 (pt_cmpR op_notBl (pe_call Gd r1 rfl Dd.m Dd.k Dd.b .nil pass0 (pa_cons (pe_callTy call_list_of rfl L.B.lst (by decide +kernel) (pa_cons (pv 13) pa_nil)) pa_nil)) pe_bl (nomark _)))))) (pss_one (ps_ret pe_bl)) pss_nil, fun D σ H h q => ?_⟩
  obtain ⟨a, ad, pd, ss, ws, o1, o2, o3, o4, o5, o6, o7, o8, o10, o12, rfl, I, hp, hl⟩ := h
  have fs : few (.tuple (ws.map PyData.str)) := by
    show (ws.map PyData.str).length ≤ 1000
    rw [List.length_map]
    omega
  refine ⟨_, rfl, .ref pd, _, rfl, des_dp hp, fs, fun H1 e1 => ⟨_, rfl, _, _, rfl, fun H2 e2 => ⟨_, rfl, iteN (by simp) ?_⟩⟩⟩
  have I2 := (I.same e1).same e2
  refine ⟨_, rfl, .ref ad, _, rfl, des_dp I2.des, few_sub I.sub, fun H3 e3 => ⟨_, _, rfl, rfl, _, rfl, iteN (by rw [isDes_sub I.sub]; decide) ?_⟩⟩
  have I3 := I2.same e3
  refine ⟨_, rfl, ad, _, rfl, .inr I3.des, fun l hl2 => ?_⟩
  have e4 := same_new hl2 (.lst (ss.map V.str))
  refine ⟨.ref l, .list (ss.map PyData.str), rfl, .lst (SqL.of upd_same) (dpS ss), True.intro, fun H5 e5 => ⟨_, _, rfl, rfl, _, rfl, iteN (by rw [show isDesD (.list (ss.map PyData.str)) = false from rfl]; decide) ?_⟩⟩
  exact q _ _ ⟨a, ad, ss, _, _, _, _, _, _, _, _, _, _, _, _, rfl, (I3.same e4).same e5⟩
theorem lb3 (L : LawT P w K mg base CB CT CD) (f c : Addr) : LB (xL P w K mg base fa cdv A outer s H0 E) 7 f (F3 (xL P w K mg base fa cdv A outer s H0 E) c) [] (G0 f (F3 (xL P w K mg base fa cdv A outer s H0 E) c))
    (fun E => tCall (spLies K CT CD) [] E (tCons (tCall (spPick K) [] E0 (tCons (tVar 14) (tCons (tLst badA) tNil))) (tCons (tC .non) (tCons (tC .non) tNil)))) where
  q := rfl
  cl := rfl
  sc := lt3
  at_ := fun H h => h
  bind := fun s H _ _ doc pm ctv => ⟨[], rfl, BindsTo.of_eq rfl⟩
  body := fun A outer s H E r => by
    obtain ⟨fl, fdl, G, D⟩ := L.lies
    obtain ⟨fp, fdp, Gp, Dp'⟩ := L.pick
    exact pe_call G r rfl D.m D.k D.b .nil (passes_call (takes_of (E := E) rfl rfl rfl rfl) fun _ _ _ _ h => h) (pa_cons (pe_call Gp (r.mono (by decide)) rfl Dp'.m Dp'.k Dp'.b .nil pass0 (pa_cons (pv 14)
      (pa_cons (pe_lst (pa_cons pe_non (pa_cons pe_str (pa_cons (pe_lst (pa_cons pe_str pa_nil)) (pa_cons (pe_tup (pa_cons pe_str (pa_cons pe_str pa_nil))) (pa_cons (pe_tup (pa_cons pe_str (pa_cons pe_str pa_nil))) (pa_cons (pe_tup (pa_cons pe_non pa_nil)) pa_nil))))))) pa_nil)))
      (pa_cons pe_non (pa_cons pe_non pa_nil)))
theorem part13 (TB : TabB base mg c PT) (L : LawT P w K mg base CB CT CD) (hr : Room 9 (xL P w K mg base fa (.ref c) A outer s H0 E).A) {rt : VK} (hrt : ∀ H', rt (.bl true) H') :
    ∃ t, PSs (xL P w K mg base fa (.ref c) A outer s H0 E) [stL 13] t ∧ ∀ D σ H, S1 K [(PT, qL)] sc ns σ H → D.rt = rt → t D σ H := by
  obtain ⟨fw, fdw, Fw, Dw⟩ := L.wrong
  have hm : (PT, qL) ∈ [(PT, qL)] := List.mem_cons_self
  have hu : ∀ p ∈ [(PT, qL)], p.1 = PT → p.2 = qL := fun p hp _ => by rw [List.mem_singleton.mp hp]
  refine ⟨_, pss_one (ps_ret (pe_cmpR op_eq (pe_wrong (k := 7) L.E L.B.isi Fw Dw rfl hr (pe_lam0 (T := [(PT, qL)]) TB rfl hm hu lt3.free rfl)) pe_str (nomark _))), fun D σ H h er => ?_⟩
  obtain ⟨a, ad, ss, o1, o2, o3, o4, o5, o6, o7, o8, o9, o10, o11, o12, rfl, I⟩ := h
  refine ⟨I.tab, fun f c1 H1 e1 T1 a1 b1 => ⟨f, _, _, _, _, rfl, lb3 L f c1, ⟨a1, b1⟩, ?_⟩⟩
  have I1 := I.extN e1 T1
  refine ⟨_, rfl, ?_⟩
  refine lst_at (K := K) (mka_cons mk_non (mka_cons mk_str (mka_cons (mk_lst (by decide) (mka_cons mk_str mka_nil)) (mka_cons (mk_tup (by decide) (mka_cons mk_str (mka_cons mk_str mka_nil))) (mka_cons (mk_tup (by decide) (mka_cons mk_str (mka_cons mk_str mka_nil)))
    (mka_cons (mk_tup (by decide) (mka_cons mk_non mka_nil)) mka_nil)))))) (by decide) (fun _ _ z => z) fun vs p H2 e2 h hp => ?_
  have h : DpAll K H2 vs badDs := h
  have e3 := same_new hp (.lst vs)
  have I3 := (I1.same e2).same e3
  have z1 : vs.length = 6 := dpAll_len2 h
  refine ⟨a, sc, p, ns, vs, rfl, upd_same, (I1.same e2).row.ne hp, by omega, by omega, I3.row, fun v H4 hv k4 R4 => ?_⟩
  obtain ⟨d, hm, hdp⟩ := dpAll_mem (Same.dpAll e3 h) hv
  have hdp := I3.row.dp k4.n hdp (hsAll_mem bad_hs hm)
  refine ⟨v, .non, .non, d, .none, .none, rfl, hdp, bad_few hm, .non, non_sh, .non, non_sh, fun H5 e5 => ⟨fun _ => ?_, fun z _ => ?_, fun z _ _ => ?_⟩, fun z _ _ => ?_⟩
  · refine ⟨rfl, .inr ⟨rfl, rfl, ?_⟩⟩
    show D.rt (.bl (decide (V.str "design" = V.str "design"))) H5
    rw [er, decide_eq_true rfl]
    exact hrt H5
  · rw [bad_no hm] at z; cases z
  · rw [bad_no hm] at z; cases z
  · rw [bad_no hm] at z; cases z
/-! ### the law -/
def spLaw (K : PySem.W.Frag) (PT : Addr) : Sp := fun vs H Q _ => ∃ (sc : Addr) (ns : List Int), vs = [.ref sc] ∧ SqL K H sc (ns.map V.int) ∧ ns.length ≤ 63 ∧ H PT = some (.tbl #[]) ∧ ∀ H', Q (.bl true) H'
end
end K04

set_option Elab.async false
set_option linter.all false
set_option maxRecDepth 100000
set_option maxHeartbeats 8000000
/-! K04X: the law's promise from the text, and the row. -/
namespace K04
open PySem PySem.Spec PyProof.Rows L2 LamX
theorem part_go {X : Cx} {st : Stmt} {rest : List Stmt} {Pre Post : L2.St → Hp → Prop} {rt : VK} (p : Part X st Pre Post) (r : ∃ t, PSs X rest t ∧ ∀ D σ H, Post σ H → D.rt = rt → t D σ H) : ∃ t, PSs X (st :: rest) t ∧ ∀ D σ H, Pre σ H → D.rt = rt → t D σ H := Part.seq p r
theorem ok_law {P : Program} {w : World} {K : PySem.W.Frag} {mg : Str → Option Value} {base : Heap} {fa CB CT CD c PT : Addr} {oc kV doc pm ct : Value} {od an : Option Addr} {osl : Array (Option Value)}
    (lk : K.lookup fa = some ⟨oc, od, .func (PySem.W.fnOf "law" "law" (defArgs sLaw) (defBody sLaw) (defScope sLaw) .none kV doc pm an (.ref c) ct), osl⟩) (hcd : PySem.W.codeIn K (.ref c) "law" = true) (TB : TabB base mg c PT) (L : LawT P w K mg base CB CT CD) :
    FnOk P w K mg base CX0 10 fa (PySem.W.fnOf "law" "law" (defArgs sLaw) (defBody sLaw) (defScope sLaw) .none kV doc pm an (.ref c) ct) ["_law_script"] (spLaw K PT) := by
  refine fn_of lk hcd scLaw (fun vs H Q E h => ?_) (fun A outer s H vs Q E hr h => ?_)
  · obtain ⟨sc, ns, rfl, _⟩ := h
    rfl
  obtain ⟨sc, ns, rfl, hs, hn, hT, q⟩ := h
  have go := part_go (rt := Q) (part0 (P := P) (w := w) (K := K) (mg := mg) (base := base) (fa := fa) (sc := sc) (cdv := .ref c) (A := A) (outer := outer) (s := s) (H0 := H) (E := E) (T := [(PT, qL)]) (ns := ns))
    (part_go (part1 L hr) (part_go (part2 L hr) (part_go part3 (part_go part4 (part_go part5 (part_go (part6 L hr) (part_go (part7 TB) (part_go (part8 L hr) (part_go (part9 L hr) (part_go (part10 L hr) (part_go (part11 L hr) (part_go (part12 L hr) (part13 TB L hr q)))))))))))))
  obtain ⟨t, ht, hq⟩ := go
  have ht' : PSs (xL P w K mg base fa (.ref c) A outer s H E) (defBody sLaw) t := ht
  refine ⟨t, ht'.nox, hq _ _ H ⟨rfl, hs, hn, fun p hp => ?_⟩ rfl⟩
  rw [List.mem_singleton.mp hp]
  exact TabS.nil hT
/-! ### facts of the written part -/
def strsB : List Str → List Value → Bool
  | [], [] => true
  | x :: xs, .str y _ :: vs => decide (x = y) && strsB xs vs
  | _, _ => false
theorem strsB_vals : ∀ {xs : List Str} {vs : List Value}, strsB xs vs = true → Vals (xs.map V.str) vs
  | [], [], _ => .nil
  | x :: xs, v :: vs, h => by
    cases v <;> first | (cases h; done) | skip
    rename_i y t
    have h : (decide (x = y) && strsB xs vs) = true := h
    rw [Bool.and_eq_true, decide_eq_true_eq] at h
    obtain ⟨e, h2⟩ := h
    subst e
    exact .cons ⟨t, rfl⟩ (strsB_vals h2)
  | [], _ :: _, h => by cases h
  | _ :: _, [], h => by cases h
theorem ktup_mk {K : PySem.W.Frag} {a : Addr} {dd : Option Addr} {its : Array Value} {n : Nat} {sl : Array (Option Value)} {xs : List Str} (l : K.lookup a = some ⟨.type "tuple", dd, .seq its n, sl⟩) (v : strsB xs its.toList = true) (z : xs.length ≤ 1000) : KTup K a (xs.map V.str) := by
  have r := strsB_vals v
  refine ⟨_, its, n, l, rfl, rfl, ?_, r⟩
  have e : xs.length = its.size := by simpa using r.length
  rw [← e]
  exact small_len z
theorem df_mk {K : PySem.W.Frag} {h : Heap} {mg : Str → Option Value} {x : Str} {st : Stmt} {f : Addr} {ps : List Str} {oc kV doc pm cdv ct : Value} {od an : Option Addr} {osl : Array (Option Value)} (X : K.In h) (G : h.Ns mainGlobals mg)
    (a : PySem.W.nsIn K mainGlobals x = some (some (.ref f))) (l : K.lookup f = some ⟨oc, od, .func (PySem.W.fnOf x x (defArgs st) (defBody st) (defScope st) .none kV doc pm an cdv ct), osl⟩) (c : PySem.W.codeIn K cdv x = true) (k : PySem.W.keepIn K (.ref f) = true)
    (hb : ∀ (kV doc pm : Value) (an : Option Addr) (cdv ct : Value) (us : List Value), us.length = ps.length → bindArgs (PySem.W.fnOf x x (defArgs st) (defBody st) (defScope st) .none kV doc pm an cdv ct) ⟨us, []⟩ = pure (ps.zip us)) :
    ∃ fd, Fun K x x st f fd ∧ Df K mg x f fd ps :=
  have F := fun_mk (st := st) l c k
  ⟨_, F, F.binds (ps := ps) hb, k, PySem.W.mg_of X G a⟩
set_option maxHeartbeats 8000000 in
theorem all_mk {l : PySem.W.OpenLaw} {w : World} {K : PySem.W.Frag} {h : Heap} {mg : Str → Option Value} {fa f1 f2 f3 f4 f5 f6 f7 f8 f9 f10 f11 f12 f13 f14 f15 f16 f17 f18 f19 f20 CB CT CD c PT aW aP aA : Addr} (X : K.In h) (G : h.Ns mainGlobals mg) (hfa : mg "law" = some (.ref fa)) (own : OwnTab K fa h)
    {od1 od2 od3 od4 od5 od6 od7 od8 od9 od10 od11 od12 od13 od14 od15 od16 od17 od18 od19 od20 an1 an2 an3 an4 an5 an6 an7 an8 an9 an10 an11 an12 an13 an14 an15 an16 an17 an18 an19 an20 ddc ddW ddP ddA : Option Addr} {sl1 sl2 sl3 sl4 sl5 sl6 sl7 sl8 sl9 sl10 sl11 sl12 sl13 sl14 sl15 sl16 sl17 sl18 sl19 sl20 slc stW stP stA : Array (Option Value)} {oc1 oc2 oc3 oc4 oc5 oc6 oc7 oc8 oc9 oc10 oc11 oc12 oc13 oc14 oc15 oc16 oc17 oc18 oc19 oc20 kV1 kV2 kV3 kV4 kV5 kV6 kV7 kV8 kV9 kV10 kV11 kV12 kV13 kV14 kV15 kV16 kV17 kV18 kV19 kV20 dc1 dc2 dc3 dc4 dc5 dc6 dc7 dc8 dc9 dc10 dc11 dc12 dc13 dc14 dc15 dc16 dc17 dc18 dc19 dc20 pm1 pm2 pm3 pm4 pm5 pm6 pm7 pm8 pm9 pm10 pm11 pm12 pm13 pm14 pm15 pm16 pm17 pm18 pm19 pm20 ct1 ct2 ct3 ct4 ct5 ct6 ct7 ct8 ct9 ct10 ct11 ct12 ct13 ct14 ct15 ct16 ct17 ct18 ct19 ct20 cd1 cd2 cd3 cd4 cd5 cd6 cd7 cd8 cd9 cd10 cd11 cd12 cd13 cd14 cd15 cd16 cd17 cd18 cd19 ec : Value} {vc itW itP itA : Array Value} {ntW ntP ntA : Nat} {tk : Tok}
    (a1 : PySem.W.nsIn K mainGlobals "is_deep" = some (some (.ref f1)))
    (l1 : K.lookup f1 = some ⟨oc1, od1, .func (PySem.W.fnOf "is_deep" "is_deep" (defArgs sDeep) (defBody sDeep) (defScope sDeep) .none kV1 dc1 pm1 an1 cd1 ct1), sl1⟩)
    (c1 : PySem.W.codeIn K cd1 "is_deep" = true)
    (k1 : PySem.W.keepIn K (.ref f1) = true)
    (a2 : PySem.W.nsIn K mainGlobals "is_type" = some (some (.ref f2)))
    (l2 : K.lookup f2 = some ⟨oc2, od2, .func (PySem.W.fnOf "is_type" "is_type" (defArgs sIsType) (defBody sIsType) (defScope sIsType) .none kV2 dc2 pm2 an2 cd2 ct2), sl2⟩)
    (c2 : PySem.W.codeIn K cd2 "is_type" = true)
    (k2 : PySem.W.keepIn K (.ref f2) = true)
    (a3 : PySem.W.nsIn K mainGlobals "need_type" = some (some (.ref f3)))
    (l3 : K.lookup f3 = some ⟨oc3, od3, .func (PySem.W.fnOf "need_type" "need_type" (defArgs sNeedT) (defBody sNeedT) (defScope sNeedT) .none kV3 dc3 pm3 an3 cd3 ct3), sl3⟩)
    (c3 : PySem.W.codeIn K cd3 "need_type" = true)
    (k3 : PySem.W.keepIn K (.ref f3) = true)
    (a4 : PySem.W.nsIn K mainGlobals "is_design" = some (some (.ref f4)))
    (l4 : K.lookup f4 = some ⟨oc4, od4, .func (PySem.W.fnOf "is_design" "is_design" (defArgs sIsDes) (defBody sIsDes) (defScope sIsDes) .none kV4 dc4 pm4 an4 cd4 ct4), sl4⟩)
    (c4 : PySem.W.codeIn K cd4 "is_design" = true)
    (k4 : PySem.W.keepIn K (.ref f4) = true)
    (a5 : PySem.W.nsIn K mainGlobals "need_design" = some (some (.ref f5)))
    (l5 : K.lookup f5 = some ⟨oc5, od5, .func (PySem.W.fnOf "need_design" "need_design" (defArgs sNeedD) (defBody sNeedD) (defScope sNeedD) .none kV5 dc5 pm5 an5 cd5 ct5), sl5⟩)
    (c5 : PySem.W.codeIn K cd5 "need_design" = true)
    (k5 : PySem.W.keepIn K (.ref f5) = true)
    (a6 : PySem.W.nsIn K mainGlobals "has" = some (some (.ref f6)))
    (l6 : K.lookup f6 = some ⟨oc6, od6, .func (PySem.W.fnOf "has" "has" (defArgs sHas) (defBody sHas) (defScope sHas) .none kV6 dc6 pm6 an6 cd6 ct6), sl6⟩)
    (c6 : PySem.W.codeIn K cd6 "has" = true)
    (k6 : PySem.W.keepIn K (.ref f6) = true)
    (a7 : PySem.W.nsIn K mainGlobals "is_cell" = some (some (.ref f7)))
    (l7 : K.lookup f7 = some ⟨oc7, od7, .func (PySem.W.fnOf "is_cell" "is_cell" (defArgs sIsCell) (defBody sIsCell) (defScope sIsCell) .none kV7 dc7 pm7 an7 cd7 ct7), sl7⟩)
    (c7 : PySem.W.codeIn K cd7 "is_cell" = true)
    (k7 : PySem.W.keepIn K (.ref f7) = true)
    (a8 : PySem.W.nsIn K mainGlobals "is_fun" = some (some (.ref f8)))
    (l8 : K.lookup f8 = some ⟨oc8, od8, .func (PySem.W.fnOf "is_fun" "is_fun" (defArgs sIsFun) (defBody sIsFun) (defScope sIsFun) .none kV8 dc8 pm8 an8 cd8 ct8), sl8⟩)
    (c8 : PySem.W.codeIn K cd8 "is_fun" = true)
    (k8 : PySem.W.keepIn K (.ref f8) = true)
    (a9 : PySem.W.nsIn K mainGlobals "within" = some (some (.ref f9)))
    (l9 : K.lookup f9 = some ⟨oc9, od9, .func (PySem.W.fnOf "within" "within" (defArgs sWithin) (defBody sWithin) (defScope sWithin) .none kV9 dc9 pm9 an9 cd9 ct9), sl9⟩)
    (c9 : PySem.W.codeIn K cd9 "within" = true)
    (k9 : PySem.W.keepIn K (.ref f9) = true)
    (a10 : PySem.W.nsIn K mainGlobals "lies_within" = some (some (.ref f10)))
    (l10 : K.lookup f10 = some ⟨oc10, od10, .func (PySem.W.fnOf "lies_within" "lies_within" (defArgs sLies) (defBody sLies) (defScope sLies) .none kV10 dc10 pm10 an10 cd10 ct10), sl10⟩)
    (c10 : PySem.W.codeIn K cd10 "lies_within" = true)
    (k10 : PySem.W.keepIn K (.ref f10) = true)
    (a11 : PySem.W.nsIn K mainGlobals "_law_taken" = some (some (.ref f11)))
    (l11 : K.lookup f11 = some ⟨oc11, od11, .func (PySem.W.fnOf "_law_taken" "_law_taken" (defArgs sTaken) (defBody sTaken) (defScope sTaken) .none kV11 dc11 pm11 an11 cd11 ct11), sl11⟩)
    (c11 : PySem.W.codeIn K cd11 "_law_taken" = true)
    (k11 : PySem.W.keepIn K (.ref f11) = true)
    (a12 : PySem.W.nsIn K mainGlobals "_law_pick" = some (some (.ref f12)))
    (l12 : K.lookup f12 = some ⟨oc12, od12, .func (PySem.W.fnOf "_law_pick" "_law_pick" (defArgs sPick) (defBody sPick) (defScope sPick) .none kV12 dc12 pm12 an12 cd12 ct12), sl12⟩)
    (c12 : PySem.W.codeIn K cd12 "_law_pick" = true)
    (k12 : PySem.W.keepIn K (.ref f12) = true)
    (a13 : PySem.W.nsIn K mainGlobals "_law_alike" = some (some (.ref f13)))
    (l13 : K.lookup f13 = some ⟨oc13, od13, .func (PySem.W.fnOf "_law_alike" "_law_alike" (defArgs sAlike) (defBody sAlike) (defScope sAlike) .none kV13 dc13 pm13 an13 cd13 ct13), sl13⟩)
    (c13 : PySem.W.codeIn K cd13 "_law_alike" = true)
    (k13 : PySem.W.keepIn K (.ref f13) = true)
    (a14 : PySem.W.nsIn K mainGlobals "_law_words" = some (some (.ref f14)))
    (l14 : K.lookup f14 = some ⟨oc14, od14, .func (PySem.W.fnOf "_law_words" "_law_words" (defArgs sWords) (defBody sWords) (defScope sWords) .none kV14 dc14 pm14 an14 cd14 ct14), sl14⟩)
    (c14 : PySem.W.codeIn K cd14 "_law_words" = true)
    (k14 : PySem.W.keepIn K (.ref f14) = true)
    (a15 : PySem.W.nsIn K mainGlobals "_law_design" = some (some (.ref f15)))
    (l15 : K.lookup f15 = some ⟨oc15, od15, .func (PySem.W.fnOf "_law_design" "_law_design" (defArgs sDesign) (defBody sDesign) (defScope sDesign) .none kV15 dc15 pm15 an15 cd15 ct15), sl15⟩)
    (c15 : PySem.W.codeIn K cd15 "_law_design" = true)
    (k15 : PySem.W.keepIn K (.ref f15) = true)
    (a16 : PySem.W.nsIn K mainGlobals "_law_type" = some (some (.ref f16)))
    (l16 : K.lookup f16 = some ⟨oc16, od16, .func (PySem.W.fnOf "_law_type" "_law_type" (defArgs sType) (defBody sType) (defScope sType) .none kV16 dc16 pm16 an16 cd16 ct16), sl16⟩)
    (c16 : PySem.W.codeIn K cd16 "_law_type" = true)
    (k16 : PySem.W.keepIn K (.ref f16) = true)
    (a17 : PySem.W.nsIn K mainGlobals "_law_has" = some (some (.ref f17)))
    (l17 : K.lookup f17 = some ⟨oc17, od17, .func (PySem.W.fnOf "_law_has" "_law_has" (defArgs sLHas) (defBody sLHas) (defScope sLHas) .none kV17 dc17 pm17 an17 cd17 ct17), sl17⟩)
    (c17 : PySem.W.codeIn K cd17 "_law_has" = true)
    (k17 : PySem.W.keepIn K (.ref f17) = true)
    (a18 : PySem.W.nsIn K mainGlobals "_law_within" = some (some (.ref f18)))
    (l18 : K.lookup f18 = some ⟨oc18, od18, .func (PySem.W.fnOf "_law_within" "_law_within" (defArgs sLWithin) (defBody sLWithin) (defScope sLWithin) .none kV18 dc18 pm18 an18 cd18 ct18), sl18⟩)
    (c18 : PySem.W.codeIn K cd18 "_law_within" = true)
    (k18 : PySem.W.keepIn K (.ref f18) = true)
    (a19 : PySem.W.nsIn K mainGlobals "_law_wrong" = some (some (.ref f19)))
    (l19 : K.lookup f19 = some ⟨oc19, od19, .func (PySem.W.fnOf "_law_wrong" "_law_wrong" (defArgs sWrong) (defBody sWrong) (defScope sWrong) .none kV19 dc19 pm19 an19 cd19 ct19), sl19⟩)
    (c19 : PySem.W.codeIn K cd19 "_law_wrong" = true)
    (k19 : PySem.W.keepIn K (.ref f19) = true)
    (a20 : PySem.W.nsIn K mainGlobals "law" = some (some (.ref f20)))
    (l20 : K.lookup f20 = some ⟨oc20, od20, .func (PySem.W.fnOf "law" "law" (defArgs sLaw) (defBody sLaw) (defScope sLaw) .none kV20 dc20 pm20 an20 (.ref c) ct20), sl20⟩)
    (c20 : PySem.W.codeIn K (.ref c) "law" = true)
    (k20 : PySem.W.keepIn K (.ref f20) = true)
    (lc : K.lookup c = some ⟨ec, ddc, .fields vc, slc⟩)
    (v11 : vc[11]? = some (.ref PT))
    (nP : K.lookup PT = none)
    (ch : PySem.W.codeHdIn K c PT = true)
    (gCB : PySem.W.nsIn K mainGlobals "BorderError" = some (some (.ref CB)))
    (bCB : PySem.W.subIn K (.ref CB) (.type "BaseException") = some true)
    (tCB : PySem.W.typeIn K (.ref CB) = some (.type "type"))
    (dCB : PySem.W.hasDictIn K CB = true)
    (gCT : PySem.W.nsIn K mainGlobals "BadType" = some (some (.ref CT)))
    (bCT : PySem.W.subIn K (.ref CT) (.type "BaseException") = some true)
    (tCT : PySem.W.typeIn K (.ref CT) = some (.type "type"))
    (dCT : PySem.W.hasDictIn K CT = true)
    (gCD : PySem.W.nsIn K mainGlobals "BadDesign" = some (some (.ref CD)))
    (bCD : PySem.W.subIn K (.ref CD) (.type "BaseException") = some true)
    (tCD : PySem.W.typeIn K (.ref CD) = some (.type "type"))
    (dCD : PySem.W.hasDictIn K CD = true)
    (xCT : PySem.W.excIn K CT [.type "ValueError", .type "Exception", .type "BaseException", .type "object"] "ValueError.__new__" = true)
    (kpCT : PySem.W.keepIn K (.ref CT) = true)
    (sCT : PySem.W.subIn K (.ref CT) (.ref CB) = some true)
    (fgCT : PySem.W.findIn K (.ref CT) "__getattribute__" = some (some (.builtin "BaseException.__getattribute__")))
    (fkCT : PySem.W.findIn K (.ref CT) "__getattr__" = some none)
    (faCT : PySem.W.findIn K (.ref CT) "__class__" = some (some (.builtin "object.__class__")))
    (mCT : PySem.W.mroIn K CT (.type "object") = some true)
    (xCD : PySem.W.excIn K CD [.type "ValueError", .type "Exception", .type "BaseException", .type "object"] "ValueError.__new__" = true)
    (kpCD : PySem.W.keepIn K (.ref CD) = true)
    (sCD : PySem.W.subIn K (.ref CD) (.ref CB) = some true)
    (fgCD : PySem.W.findIn K (.ref CD) "__getattribute__" = some (some (.builtin "BaseException.__getattribute__")))
    (fkCD : PySem.W.findIn K (.ref CD) "__getattr__" = some none)
    (faCD : PySem.W.findIn K (.ref CD) "__class__" = some (some (.builtin "object.__class__")))
    (mCD : PySem.W.mroIn K CD (.type "object") = some true)
    (hn : PySem.W.specialIn K (.builtin "object.__class__") "__get__" = some (some (.builtin "getset_descriptor.__get__")))
    (ht : PySem.W.takesIn K (.builtin "object.__class__") = some true)
    (ttt : PySem.W.kitOne K (.ref CT) (.ref CT) = some true)
    (tdt : PySem.W.kitOne K (.ref CD) (.ref CT) = some false)
    (tdd : PySem.W.kitOne K (.ref CD) (.ref CD) = some true)
    (gtW : PySem.W.nsIn K mainGlobals "WORDS" = some (some (.ref aW)))
    (ltW : K.lookup aW = some ⟨.type "tuple", ddW, .seq itW ntW, stW⟩)
    (vtW : strsB WD itW.toList = true)
    (gtP : PySem.W.nsIn K mainGlobals "PLAIN" = some (some (.ref aP)))
    (ltP : K.lookup aP = some ⟨.type "tuple", ddP, .seq itP ntP, stP⟩)
    (vtP : strsB (["num", "small", "big"] : List Str) itP.toList = true)
    (gtA : PySem.W.nsIn K mainGlobals "ANY" = some (some (.ref aA)))
    (ltA : K.lookup aA = some ⟨.type "tuple", ddA, .seq itA ntA, stA⟩)
    (vtA : strsB (["cell", "any"] : List Str) itA.toList = true)
    (gM : PySem.W.nsIn K mainGlobals "MOST_DEEP" = some (some (.int 3 tk)))
    (z_int : PySem.W.nsIn K mainGlobals "int" = some none)
    (z_len : PySem.W.nsIn K mainGlobals "len" = some none)
    (z_isinstance : PySem.W.nsIn K mainGlobals "isinstance" = some none)
    (z_str : PySem.W.nsIn K mainGlobals "str" = some none)
    (z_tuple : PySem.W.nsIn K mainGlobals "tuple" = some none)
    (z_list : PySem.W.nsIn K mainGlobals "list" = some none)
    (z_bool : PySem.W.nsIn K mainGlobals "bool" = some none)
    (z_all : PySem.W.nsIn K mainGlobals "all" = some none)
    (z_range : PySem.W.nsIn K mainGlobals "range" = some none)
    (z_sorted : PySem.W.nsIn K mainGlobals "sorted" = some none)
    (z_set : PySem.W.nsIn K mainGlobals "set" = some none)
    : LawAtS l w K CX0 10 63 "_law_script" mg fa h := by
  have e := hfa.symm.trans (PySem.W.mg_of X G a20)
  cases e
  obtain ⟨fd1, F1, D1⟩ := df_mk (st := sDeep) (ps := (["value", "most"] : List Str)) X G a1 l1 c1 k1 fun _ _ _ _ _ _ us hl => match us, hl with | [_, _], _ => rfl
  obtain ⟨fd2, F2, D2⟩ := df_mk (st := sIsType) (ps := (["value"] : List Str)) X G a2 l2 c2 k2 fun _ _ _ _ _ _ us hl => match us, hl with | [_], _ => rfl
  obtain ⟨fd3, F3, D3⟩ := df_mk (st := sNeedT) (ps := (["value"] : List Str)) X G a3 l3 c3 k3 fun _ _ _ _ _ _ us hl => match us, hl with | [_], _ => rfl
  obtain ⟨fd4, F4, D4⟩ := df_mk (st := sIsDes) (ps := (["value"] : List Str)) X G a4 l4 c4 k4 fun _ _ _ _ _ _ us hl => match us, hl with | [_], _ => rfl
  obtain ⟨fd5, F5, D5⟩ := df_mk (st := sNeedD) (ps := (["design"] : List Str)) X G a5 l5 c5 k5 fun _ _ _ _ _ _ us hl => match us, hl with | [_], _ => rfl
  obtain ⟨fd6, F6, D6⟩ := df_mk (st := sHas) (ps := (["design", "word"] : List Str)) X G a6 l6 c6 k6 fun _ _ _ _ _ _ us hl => match us, hl with | [_, _], _ => rfl
  obtain ⟨fd7, F7, D7⟩ := df_mk (st := sIsCell) (ps := (["kind"] : List Str)) X G a7 l7 c7 k7 fun _ _ _ _ _ _ us hl => match us, hl with | [_], _ => rfl
  obtain ⟨fd8, F8, D8⟩ := df_mk (st := sIsFun) (ps := (["kind"] : List Str)) X G a8 l8 c8 k8 fun _ _ _ _ _ _ us hl => match us, hl with | [_], _ => rfl
  obtain ⟨fd9, F9, D9⟩ := df_mk (st := sWithin) (ps := (["design", "one", "other"] : List Str)) X G a9 l9 c9 k9 fun _ _ _ _ _ _ us hl => match us, hl with | [_, _, _], _ => rfl
  obtain ⟨fd10, F10, D10⟩ := df_mk (st := sLies) (ps := (["design", "one", "other"] : List Str)) X G a10 l10 c10 k10 fun _ _ _ _ _ _ us hl => match us, hl with | [_, _, _], _ => rfl
  obtain ⟨fd11, F11, D11⟩ := df_mk (st := sTaken) (ps := (["_law_row", "_law_many"] : List Str)) X G a11 l11 c11 k11 fun _ _ _ _ _ _ us hl => match us, hl with | [_, _], _ => rfl
  obtain ⟨fd12, F12, D12⟩ := df_mk (st := sPick) (ps := (["_law_row", "_law_kinds"] : List Str)) X G a12 l12 c12 k12 fun _ _ _ _ _ _ us hl => match us, hl with | [_, _], _ => rfl
  obtain ⟨fd13, F13, D13⟩ := df_mk (st := sAlike) (ps := (["_law_found", "_law_due"] : List Str)) X G a13 l13 c13 k13 fun _ _ _ _ _ _ us hl => match us, hl with | [_, _], _ => rfl
  obtain ⟨fd14, F14, D14⟩ := df_mk (st := sWords) (ps := ([] : List Str)) X G a14 l14 c14 k14 fun _ _ _ _ _ _ us hl => match us, hl with | [], _ => rfl
  obtain ⟨fd15, F15, D15⟩ := df_mk (st := sDesign) (ps := (["_law_row"] : List Str)) X G a15 l15 c15 k15 fun _ _ _ _ _ _ us hl => match us, hl with | [_], _ => rfl
  obtain ⟨fd16, F16, D16⟩ := df_mk (st := sType) (ps := (["_law_row", "_law_deep"] : List Str)) X G a16 l16 c16 k16 fun _ _ _ _ _ _ us hl => match us, hl with | [_, _], _ => rfl
  obtain ⟨fd17, F17, D17⟩ := df_mk (st := sLHas) (ps := (["_law_design_here", "_law_word"] : List Str)) X G a17 l17 c17 k17 fun _ _ _ _ _ _ us hl => match us, hl with | [_, _], _ => rfl
  obtain ⟨fd18, F18, D18⟩ := df_mk (st := sLWithin) (ps := (["_law_design_here", "_law_one", "_law_other"] : List Str)) X G a18 l18 c18 k18 fun _ _ _ _ _ _ us hl => match us, hl with | [_, _, _], _ => rfl
  obtain ⟨fd19, F19, D19⟩ := df_mk (st := sWrong) (ps := (["_law_work"] : List Str)) X G a19 l19 c19 k19 fun _ _ _ _ _ _ us hl => match us, hl with | [_], _ => rfl
  have B : Bl mg := ⟨PySem.W.mg_none_of X G z_int, PySem.W.mg_none_of X G z_len, PySem.W.mg_none_of X G z_isinstance, PySem.W.mg_none_of X G z_str, PySem.W.mg_none_of X G z_tuple, PySem.W.mg_none_of X G z_list, PySem.W.mg_none_of X G z_bool, PySem.W.mg_none_of X G z_all, PySem.W.mg_none_of X G z_range, PySem.W.mg_none_of X G z_sorted, PySem.W.mg_none_of X G z_set⟩
  have XT : ExF K mg "BadType" CT := ⟨PySem.W.mg_of X G gCT, xCT, kpCT, bCT, tCT⟩
  have XD : ExF K mg "BadDesign" CD := ⟨PySem.W.mg_of X G gCD, xCD, kpCD, bCD, tCD⟩
  have EC : ∀ D : Addr, D = D → True := fun _ _ => True.intro
  have E : Errs K mg CB CT CD := ⟨PySem.W.mg_of X G gCB, PySem.W.mg_of X G gCT, PySem.W.mg_of X G gCD, PySem.W.exm_ref bCB dCB tCB sCT, PySem.W.exm_ref bCB dCB tCB sCD, ⟨fgCT, fkCT, bCT, dCT, faCT, hn, ht, mCT⟩, ⟨fgCD, fkCD, bCD, dCD, faCD, hn, ht, mCD⟩, ttt, tdt, tdd⟩
  have tW : KTup K aW (WD.map V.str) := ktup_mk ltW vtW (by decide)
  have tP : KTup K aP PL := ktup_mk (xs := ["num", "small", "big"]) ltP vtP (by decide)
  have tA : KTup K aA [.str "cell", .str "any"] := ktup_mk (xs := ["cell", "any"]) ltA vtA (by decide)
  refine ⟨PySem.W.fnOf "law" "law" (defArgs sLaw) (defBody sLaw) (defScope sLaw) .none kV20 dc20 pm20 an20 (.ref c) ct20, [(c, PT)], spLaw K PT, fun p hp => ?_, fun p hp => ?_, fun p hp => ?_, fun s u => .of_eq rfl, fun H a ns hl _ hH hS => ⟨a, ns, rfl, hS, hl, hH (c, PT) List.mem_cons_self, fun _ => rfl⟩, fun base XB GB TB => ?_⟩
  · rw [List.mem_singleton.mp hp]
    exact own c PT _ _ ec ddc vc slc l20 rfl rfl lc v11
  · rw [List.mem_singleton.mp hp]; exact nP
  · rw [List.mem_singleton.mp hp]; exact PySem.W.codeHd_of_K X ch
  have ta := ok_taken (P := l.prog) (w := w) (base := base) F11 B
  have pk := ok_pick F12 B ta D11
  have wd := ok_words (P := l.prog) (w := w) (mg := mg) (base := base) F14
  have dr := ok_draw F15 B ta D11 pk D12 wd D14
  have ty := ok_type F16 ta D11 D16 4
  have dp := ok_deep (P := l.prog) (w := w) (base := base) F1 B (PySem.W.mg_of X G gtP) tP D1 4
  have it := ok_isType F2 (PySem.W.mg_of X G gM) dp D1
  have nt := ok_needT F3 XT it D2
  have id := ok_isDes (P := l.prog) (w := w) (base := base) F4 B (PySem.W.mg_of X G gtW) tW
  have nd := ok_needD F5 XD id D4
  have ha := ok_has (P := l.prog) (w := w) (mg := mg) (base := base) F6
  have ic := ok_isCell (P := l.prog) (w := w) (mg := mg) (base := base) F7
  have jf := ok_isFun (P := l.prog) (w := w) (mg := mg) (base := base) F8
  have wi := ok_within F9 B (PySem.W.mg_of X G gtA) tA ha D6 ic D7 jf D8 D9 4
  have li := ok_lies F10 nd D5 nt D3 wi D9
  have al := ok_alike (P := l.prog) (w := w) (base := base) F13 B
  have lh := ok_lhas (P := l.prog) (w := w) (mg := mg) (base := base) F17
  have lw := ok_lwithin F18 B lh D17 D18 4
  have L : LawT l.prog w K mg base CB CT CD := ⟨B, E, ⟨_, _, ta, D11⟩, ⟨_, _, pk, D12⟩, ⟨_, _, al, D13⟩, ⟨_, _, wd, D14⟩, ⟨_, _, dr, D15⟩, ⟨_, _, ty, D16⟩, ⟨_, _, lw, D18⟩, ⟨_, _, it, D2⟩, ⟨_, _, id, D4⟩, ⟨_, _, li, D10⟩, ⟨_, _, F19, D19⟩⟩
  exact ok_law l20 c20 (TB (c, PT) List.mem_cons_self) L
end K04

set_option Elab.async false
set_option linter.all false
open PySem PySem.W PyProof.Rows
set_option maxRecDepth 100000 in
set_option maxHeartbeats 0 in
theorem PySem.Challenge.cw_soundborder_k04_whole_types_holds : PySem.Challenge.rw_soundborder_k04_whole_types.Holds := by
  w_on; o_law; k_head; (case hw => w_witness2)
  k_fill
  refine LamX.walk_ofOwn (l := PySem.Challenge.rw_soundborder_k04_whole_types) (k := 10) (n := 63) (x := "_law_script") (CX := fun _ => L2.CX0) rfl (by decide) rfl ⟨rfl, by decide, by decide⟩ (by decide +kernel) (fun w h Y => by first | exact PySem.W.kIn_of Y | exact PySem.W.km_in_of Y) ?F (fun _ _ _ _ _ z => z)
  case F =>
    intro w mg fa h Y KX G hmg own
    refine' K04.all_mk KX G hmg own ?a1 ?l1 ?c1 ?k1 ?a2 ?l2 ?c2 ?k2 ?a3 ?l3 ?c3 ?k3 ?a4 ?l4 ?c4 ?k4 ?a5 ?l5 ?c5 ?k5 ?a6 ?l6 ?c6 ?k6 ?a7 ?l7 ?c7 ?k7 ?a8 ?l8 ?c8 ?k8 ?a9 ?l9 ?c9 ?k9 ?a10 ?l10 ?c10 ?k10 ?a11 ?l11 ?c11 ?k11 ?a12 ?l12 ?c12 ?k12 ?a13 ?l13 ?c13 ?k13 ?a14 ?l14 ?c14 ?k14 ?a15 ?l15 ?c15 ?k15 ?a16 ?l16 ?c16 ?k16 ?a17 ?l17 ?c17 ?k17 ?a18 ?l18 ?c18 ?k18 ?a19 ?l19 ?c19 ?k19 ?a20 ?l20 ?c20 ?k20 ?lc ?v11 ?nP ?ch ?gCB ?bCB ?tCB ?dCB ?gCT ?bCT ?tCT ?dCT ?gCD ?bCD ?tCD ?dCD ?xCT ?kpCT ?sCT ?fgCT ?fkCT ?faCT ?mCT ?xCD ?kpCD ?sCD ?fgCD ?fkCD ?faCD ?mCD ?hn ?ht ?ttt ?tdt ?tdd ?gtW ?ltW ?vtW ?gtP ?ltP ?vtP ?gtA ?ltA ?vtA ?gM ?z_int ?z_len ?z_isinstance ?z_str ?z_tuple ?z_list ?z_bool ?z_all ?z_range ?z_sorted ?z_set
    (case a1 => k_is)
    (case l1 => k_is)
    (case c1 => k_is)
    (case k1 => k_is)
    (case a2 => k_is)
    (case l2 => k_is)
    (case c2 => k_is)
    (case k2 => k_is)
    (case a3 => k_is)
    (case l3 => k_is)
    (case c3 => k_is)
    (case k3 => k_is)
    (case a4 => k_is)
    (case l4 => k_is)
    (case c4 => k_is)
    (case k4 => k_is)
    (case a5 => k_is)
    (case l5 => k_is)
    (case c5 => k_is)
    (case k5 => k_is)
    (case a6 => k_is)
    (case l6 => k_is)
    (case c6 => k_is)
    (case k6 => k_is)
    (case a7 => k_is)
    (case l7 => k_is)
    (case c7 => k_is)
    (case k7 => k_is)
    (case a8 => k_is)
    (case l8 => k_is)
    (case c8 => k_is)
    (case k8 => k_is)
    (case a9 => k_is)
    (case l9 => k_is)
    (case c9 => k_is)
    (case k9 => k_is)
    (case a10 => k_is)
    (case l10 => k_is)
    (case c10 => k_is)
    (case k10 => k_is)
    (case a11 => k_is)
    (case l11 => k_is)
    (case c11 => k_is)
    (case k11 => k_is)
    (case a12 => k_is)
    (case l12 => k_is)
    (case c12 => k_is)
    (case k12 => k_is)
    (case a13 => k_is)
    (case l13 => k_is)
    (case c13 => k_is)
    (case k13 => k_is)
    (case a14 => k_is)
    (case l14 => k_is)
    (case c14 => k_is)
    (case k14 => k_is)
    (case a15 => k_is)
    (case l15 => k_is)
    (case c15 => k_is)
    (case k15 => k_is)
    (case a16 => k_is)
    (case l16 => k_is)
    (case c16 => k_is)
    (case k16 => k_is)
    (case a17 => k_is)
    (case l17 => k_is)
    (case c17 => k_is)
    (case k17 => k_is)
    (case a18 => k_is)
    (case l18 => k_is)
    (case c18 => k_is)
    (case k18 => k_is)
    (case a19 => k_is)
    (case l19 => k_is)
    (case c19 => k_is)
    (case k19 => k_is)
    (case a20 => k_is)
    (case l20 => k_is)
    (case c20 => k_is)
    (case k20 => k_is)
    (case lc => k_is)
    (case v11 => exact rfl)
    (case nP => first | exact rfl | kernel_rfl | k_is)
    (case ch => first | kernel_rfl | exact rfl)
    (case gCB => k_is)
    (case bCB => k_is)
    (case tCB => k_is)
    (case dCB => k_is)
    (case gCT => k_is)
    (case bCT => k_is)
    (case tCT => k_is)
    (case dCT => k_is)
    (case gCD => k_is)
    (case bCD => k_is)
    (case tCD => k_is)
    (case dCD => k_is)
    (case xCT => first | k_exc | kernel_rfl | exact rfl)
    (case kpCT => k_is)
    (case sCT => k_is)
    (case fgCT => k_is)
    (case fkCT => k_is)
    (case faCT => k_is)
    (case mCT => k_is)
    (case xCD => first | k_exc | kernel_rfl | exact rfl)
    (case kpCD => k_is)
    (case sCD => k_is)
    (case fgCD => k_is)
    (case fkCD => k_is)
    (case faCD => k_is)
    (case mCD => k_is)
    (case hn => k_is)
    (case ht => k_is)
    (case ttt => first | kernel_rfl | exact rfl)
    (case tdt => first | kernel_rfl | exact rfl)
    (case tdd => first | kernel_rfl | exact rfl)
    (case gtW => k_is)
    (case ltW => k_is)
    (case vtW => first | exact rfl | kernel_rfl)
    (case gtP => k_is)
    (case ltP => k_is)
    (case vtP => first | exact rfl | kernel_rfl)
    (case gtA => k_is)
    (case ltA => k_is)
    (case vtA => first | exact rfl | kernel_rfl)
    (case gM => k_is)
    (case z_int => k_is)
    (case z_len => k_is)
    (case z_isinstance => k_is)
    (case z_str => k_is)
    (case z_tuple => k_is)
    (case z_list => k_is)
    (case z_bool => k_is)
    (case z_all => k_is)
    (case z_range => k_is)
    (case z_sorted => k_is)
    (case z_set => k_is)
