import PyProof.Rows.All
import Wide.All
import OpenK.AllK
import Wide.FinOn
import HandS.ForMost
import HandS.Wide
import HandS.IsInst
import HandS.Defaults
import HandS.Zip
import HandS.Walk
import HandS.Style
import HandS.Flow
import PySem.Challenge.RW_lettolls_k05_years_and_quarters
set_option Elab.async false
set_option maxRecDepth 100000
set_option maxHeartbeats 4000000
namespace G61
open PySem L2 RZ
def topS (i : Nat) : Stmt := PySem.Challenge.pw_lettolls_k05_years_and_quarters.main.body.getD i (.Pass ⟨0, 0, 0, 0⟩)
abbrev s_year_of : Stmt := topS 3
theorem sc_year_of : FnScope ["day"] ["day"] (defScope s_year_of) := ⟨rfl, rfl, rfl, by decide +kernel, rfl, by decide +kernel, by decide +kernel⟩
abbrev s_quarter_of : Stmt := topS 4
theorem sc_quarter_of : FnScope ["day"] ["day"] (defScope s_quarter_of) := ⟨rfl, rfl, rfl, by decide +kernel, rfl, by decide +kernel, by decide +kernel⟩
abbrev s_quarter_span : Stmt := topS 5
theorem sc_quarter_span : FnScope ["quarter"] ["quarter"] (defScope s_quarter_span) := ⟨rfl, rfl, rfl, by decide +kernel, rfl, by decide +kernel, by decide +kernel⟩
abbrev s_l_dip : Stmt := topS 7
theorem sc_l_dip : FnScope ["_law_script", "_law_k", "_law_cell"] ["_law_script", "_law_k"] (defScope s_l_dip) := ⟨rfl, rfl, rfl, by decide +kernel, rfl, by decide +kernel, by decide +kernel⟩
abbrev s_l_take : Stmt := topS 8
theorem sc_l_take : FnScope ["_law_box", "_law_many", "_law_found", "_law_once", "_law_twice"] ["_law_box", "_law_many"] (defScope s_l_take) := ⟨rfl, rfl, rfl, by decide +kernel, rfl, by decide +kernel, by decide +kernel⟩
abbrev s_l_folded : Stmt := topS 9
theorem sc_l_folded : FnScope ["_law_script", "_law_size", "_law_cells", "_law_k", "_law_cell"] ["_law_script", "_law_size"] (defScope s_l_folded) := ⟨rfl, rfl, rfl, by decide +kernel, rfl, by decide +kernel, by decide +kernel⟩
abbrev s_l_same : Stmt := topS 10
theorem sc_l_same : FnScope ["_law_found", "_law_due", "_law_one", "_law_other"] ["_law_found", "_law_due"] (defScope s_l_same) := ⟨rfl, rfl, rfl, by decide +kernel, rfl, by decide +kernel, by decide +kernel⟩
abbrev s_l_counted : Stmt := topS 11
theorem sc_l_counted : FnScope ["_law_found", "_law_which", "_law_year", "_law_left", "_law_quarters", "_law_one_day"] [] (defScope s_l_counted) := ⟨rfl, rfl, rfl, by decide +kernel, rfl, by decide +kernel, by decide +kernel⟩
abbrev s_law : Stmt := topS 12
theorem sc_law : FnScope ["_law_script", "_law_due", "_law_cells", "_law_behind", "_law_which", "_law_first", "_law_last", "_law_one_day", "_law_k", "_law_box"] ["_law_script"] (defScope s_law) := ⟨rfl, rfl, rfl, by decide +kernel, rfl, by decide +kernel, by decide +kernel⟩
/-! ### rules of one's own over the hand layer: constants, calls by keywords -/
theorem pe_gl {X : Cx} {x : Str} {v : V} {pos : Pos} (hg : Gl X x) (hm : ∃ u, X.mg x = some u ∧ RelV v u) (hd : (x == ("__debug__" : Str)) = false := by decide) : PE X (.Name x pos) (tC v) := by
  obtain ⟨u, h, r⟩ := hm
  exact pe_glob hg h r hd
inductive Src where
  | u (i : Nat) | w (i : Nat) | d (i : Nat)
def pick {α : Type} (z : α) (us ws ds : List α) : List Src → List α
  | [] => []
  | .u i :: r => us.getD i z :: pick z us ws ds r
  | .w i :: r => ws.getD i z :: pick z us ws ds r
  | .d i :: r => ds.getD i z :: pick z us ws ds r
theorem vals_getD : ∀ {xs : List V} {us : List Value}, Vals xs us → ∀ i : Nat, RelV (xs.getD i V.non) (us.getD i Value.none)
  | _, _, .nil, i => by simp [RelV]
  | _, _, .cons r _, 0 => r
  | _, _, .cons _ t, i + 1 => by simpa using vals_getD t i
theorem vals_pick {vs zs ds : List V} {us ws its : List Value} (r : Vals vs us) (rz : Vals zs ws) (rd : Vals ds its) : ∀ src : List Src, Vals (pick V.non vs zs ds src) (pick Value.none us ws its src)
  | [] => .nil
  | .u i :: t => .cons (vals_getD r i) (vals_pick r rz rd t)
  | .w i :: t => .cons (vals_getD rz i) (vals_pick r rz rd t)
  | .d i :: t => .cons (vals_getD rd i) (vals_pick r rz rd t)
/-- how a call with n positional values and keywords ks binds; dv: the defaults -/
def KB (K : PySem.W.Frag) (fd : FuncData) (ps : List Str) (n : Nat) (ks : List Str) (src : List Src) (dv : List V) : Prop :=
  ∃ its : List Value, KBn K fd ps n ks (fun us ws => pick Value.none us ws its src) (fun vs zs => pick V.non vs zs dv src)
theorem KB.mk0 {K : PySem.W.Frag} {fd : FuncData} {ps ks : List Str} {n : Nat} {src : List Src}
    (h : ∀ us ws : List Value, us.length = n → ws.length = ks.length → bindArgs fd ⟨us, ks.zip ws⟩ = pure (ps.zip (pick Value.none us ws [] src))) : KB K fd ps n ks src [] :=
  ⟨[], ⟨fun _ us ws _ l1 l2 => .of_eq (h us ws l1 l2), fun r rz => vals_pick r rz .nil src⟩⟩
abbrev FunDD (K : PySem.W.Frag) (x qual : Str) (st : Stmt) (dvs : List V) (f : Addr) (fd : FuncData) : Prop := FunD K x qual (defArgs st) (defBody st) (defScope st) dvs [] f fd
theorem KB.mkD {K : PySem.W.Frag} {x qual : Str} {st : Stmt} {dvs : List V} {f : Addr} {fd : FuncData} {ps ks : List Str} {n : Nat} {src : List Src} (F : FunDD K x qual st dvs f fd) (hd : dvs ≠ [])
    (h : ∀ (T : Addr) (kV doc pm : Value) (an : Option Addr) (cdv ct : Value) (us its ws : List Value), us.length = n → its.length = dvs.length → ws.length = ks.length →
      ∃ k, bindArgs (PySem.W.fnOf x qual (defArgs st) (defBody st) (defScope st) (.ref T) kV doc pm an cdv ct) ⟨us, ks.zip ws⟩ = seqItems? (.ref T) >>= k ∧ k (some its.toArray) = pure (ps.zip (pick Value.none us ws its src))) :
    KB K fd ps n ks src dvs := by
  obtain ⟨oc, od, dV, kV, doc, pm, an, cdv, ct, osl, rfl, lk, hcd, hD, hK⟩ := F.ex
  rcases hD with ⟨e, _⟩ | ⟨_, T, o, its, m, rfl, lT, oT, rT⟩
  · exact absurd e hd
  · refine ⟨its, ⟨fun s us ws X l1 l2 => ?_, fun r rz => vals_pick r rz rT src⟩⟩
    obtain ⟨k, e1, e2⟩ := h T kV doc pm an cdv ct us its ws l1 rT.length.symm l2
    refine BindsTo.of_looks fun M => ?_
    rw [e1]
    exact looks_items X lT oT (.of_pure e2)
section
variable {X : Cx} {CX : CXT} {k n : Nat} {f : Addr} {fd : FuncData} {ps ks : List Str} {sp : Sp} {E : XK} {x : Str} {p pos : Pos} {e : Expr} {es : List Expr} {kws : List Keyword} {t tk : TA} {src : List Src} {dv : List V}
theorem pe_callKB (F : FnOk X.prog X.w X.K X.mg X.base CX k f fd ps sp) (hr : Room k X.A) (hg : Gl X x) (hm : X.mg x = some (.ref f)) (hk : PySem.W.keepIn X.K (.ref f) = true) (hb : KB X.K fd ps n ks src dv) (hx : Passes CX X E)
    (ha : PA X (e :: es) t) (hkw : PK X kws tk) (hall : (backToKw pos (keywordEach kws X.env)).all (·.1.isSome) = true := by rfl) (hks : (backToKw pos (keywordEach kws X.env)).filterMap (·.1) = ks := by rfl)
    (hdb : (x == ("__debug__" : Str)) = false := by decide) (he : starEach (e :: es) X.env = (false, eval e X.env) :: starEach es X.env := by rfl)
    (hpl : ((backTo pos (starEach (e :: es) X.env)).any (·.1) || (backToKw pos (keywordEach kws X.env)).any (·.1.isNone)) = false := by rfl) :
    PE X (.Call (.Name x p) (e :: es) kws pos) (tCallN n ks.length sp (fun vs zs => pick V.non vs zs dv src) E t tk) := by
  obtain ⟨its, hb⟩ := hb
  exact pe_callN F hr hg hm hk hb hx ha hkw hall hks hdb he hpl
theorem pe_callKB0 (F : FnOk X.prog X.w X.K X.mg X.base CX k f fd ps sp) (hr : Room k X.A) (hg : Gl X x) (hm : X.mg x = some (.ref f)) (hk : PySem.W.keepIn X.K (.ref f) = true) (hb : KB X.K fd ps 0 ks src dv) (hx : Passes CX X E)
    (hkw : PK X kws tk) (hall : (backToKw pos (keywordEach kws X.env)).all (·.1.isSome) = true := by rfl) (hks : (backToKw pos (keywordEach kws X.env)).filterMap (·.1) = ks := by rfl)
    (hdb : (x == ("__debug__" : Str)) = false := by decide)
    (hpl : ((backTo pos (starEach [] X.env)).any (·.1) || (backToKw pos (keywordEach kws X.env)).any (·.1.isNone)) = false := by rfl) :
    PE X (.Call (.Name x p) [] kws pos) (tCallN 0 ks.length sp (fun vs zs => pick V.non vs zs dv src) E tNil tk) := by
  obtain ⟨its, hb⟩ := hb
  refine ⟨fun pins s σ H Q I h => ?_⟩
  refine wpAny_Call_Name_kw (ld_glob I hg hm ?_ hdb)
  refine PySem.W.callWith_KW0 (h₀ := X.base) I.ok.mod.kin hk hall ?_ hpl
  refine thn (hkw.run pos pins s σ H _ I h) fun ws s2 ⟨zs, H2, I2, rz, l1, l2, q2⟩ => ⟨I2.kIn, ?_⟩
  rw [hks]
  exact run_fnN (us := []) (vs := []) F hr hb hx I2 .nil rz rfl l2 q2
end
/-! ### heaps -/
theorem same_new {H : Hp} {p : Addr} {o : HO} (h : H p = none) : Same H (upd H p o) := fun b x e => by
  rw [upd_ne (ne_of_none e h)]
  exact e
theorem sqL {K : PySem.W.Frag} {H : Hp} {a : Addr} {xs : List V} (h : H a = some (.lst xs)) : SqL K H a xs := .inl (.inl h)
theorem sqT {K : PySem.W.Frag} {H : Hp} {a : Addr} {xs : List V} (h : H a = some (.tup xs)) : SqT K H a xs := .inl (.inl h)
theorem same_T {K : PySem.W.Frag} {H H' : Hp} {a : Addr} {xs : List V} (e : Same H H') (h : SqT K H a xs) : SqT K H' a xs := by
  rcases h with (h | ⟨o, h⟩) | h
  · exact .inl (.inl (e _ _ h))
  · exact .inl (.inr ⟨o, e _ _ h⟩)
  · exact .inr h
/-- all but p stands as it stood, what is free elsewhere is free -/
def But (p : Addr) (H H' : Hp) : Prop := ∀ q, q ≠ p → H' q = H q
theorem but_upd {H : Hp} {p : Addr} {o : HO} : But p H (upd H p o) := fun _ h => upd_ne h
/-- all but p stands as it stood -/
def Sav (p : Addr) (H H' : Hp) : Prop := ∀ b o, H b = some o → b ≠ p → H' b = some o
theorem Sav.refl (p : Addr) (H : Hp) : Sav p H H := fun _ _ h _ => h
theorem Sav.trans {p : Addr} {H H1 H2 : Hp} (a : Sav p H H1) (b : Sav p H1 H2) : Sav p H H2 := fun c o h n => b c o (a c o h n) n
theorem But.sav {p : Addr} {H H' : Hp} (h : But p H H') : Sav p H H' := fun b o e n => by rw [h b n]; exact e
theorem Sav.of {p : Addr} {H H' : Hp} (h : Same H H') : Sav p H H' := fun b o e _ => h b o e
theorem sav_upd {p : Addr} {H : Hp} {o : HO} : Sav p H (upd H p o) := fun _ _ e n => by rw [upd_ne n]; exact e
theorem Sav.new {p q : Addr} {H H' : Hp} {o : HO} (h : Sav p H H') (hq : H' q = none) : Sav p H (upd H' q o) := fun b u e n => by
  have := h b u e n
  rw [upd_ne (ne_of_none this hq)]
  exact this
theorem ixN_nat' {n j : Nat} (hj : j < n) : ixN n (j : Int) = some j := by
  unfold ixN
  rw [if_pos (by omega), if_pos (by omega), Int.toNat_natCast]
theorem iteD {P A B : Prop} [Decidable P] (h1 : P → A) (h2 : ¬ P → B) : if decide P = true then A else B := by
  by_cases h : P
  · rw [decide_eq_true h]; exact iteT (h1 h)
  · rw [decide_eq_false h]; exact iteF (h2 h)
theorem iteDn {P A B : Prop} [Decidable P] (h1 : ¬ P → A) (h2 : P → B) : if (!decide P) = true then A else B := by
  by_cases h : P
  · rw [decide_eq_true h]; exact iteF (h2 h)
  · rw [decide_eq_false h]; exact iteT (h1 h)
theorem szl {n : Nat} (h : Nat.ble n 100000 = true) : n ≤ sizeLine := Nat.le_trans (Nat.le_of_ble_eq_true h) (by decide)
theorem small5 {n : Nat} (h : n < 100000) : n < sizeLine := Nat.lt_of_lt_of_le h (by decide)
theorem same_but {H H1 H2 : Hp} {p : Addr} (s : Same H H1) (n : H p = none) (b : But p H1 H2) : Same H H2 := fun c o e => by
  rw [b c (ne_of_none e n)]
  exact s c o e
theorem dpi {K : PySem.W.Frag} {H : Hp} {i j : Int} (e : i = j) : Dp K H (.int i) (.int j) := by
  subst e
  exact .int _

structure Top (K : PySem.W.Frag) (mg : Str → Option Value) where
  a_year_of : Addr
  fd_year_of : FuncData
  F_year_of : Fun K "year_of" "year_of" s_year_of a_year_of fd_year_of
  g_year_of : mg "year_of" = some (.ref a_year_of)
  b_year_of : Binds K fd_year_of ["day"] []
  a_quarter_of : Addr
  fd_quarter_of : FuncData
  F_quarter_of : Fun K "quarter_of" "quarter_of" s_quarter_of a_quarter_of fd_quarter_of
  g_quarter_of : mg "quarter_of" = some (.ref a_quarter_of)
  b_quarter_of : Binds K fd_quarter_of ["day"] []
  a_quarter_span : Addr
  fd_quarter_span : FuncData
  F_quarter_span : Fun K "quarter_span" "quarter_span" s_quarter_span a_quarter_span fd_quarter_span
  g_quarter_span : mg "quarter_span" = some (.ref a_quarter_span)
  b_quarter_span : Binds K fd_quarter_span ["quarter"] []
  a_l_dip : Addr
  fd_l_dip : FuncData
  F_l_dip : Fun K "_law_dip" "_law_dip" s_l_dip a_l_dip fd_l_dip
  g_l_dip : mg "_law_dip" = some (.ref a_l_dip)
  b_l_dip : Binds K fd_l_dip ["_law_script", "_law_k"] []
  a_l_take : Addr
  fd_l_take : FuncData
  F_l_take : Fun K "_law_take" "_law_take" s_l_take a_l_take fd_l_take
  g_l_take : mg "_law_take" = some (.ref a_l_take)
  b_l_take : Binds K fd_l_take ["_law_box", "_law_many"] []
  a_l_folded : Addr
  fd_l_folded : FuncData
  F_l_folded : Fun K "_law_folded" "_law_folded" s_l_folded a_l_folded fd_l_folded
  g_l_folded : mg "_law_folded" = some (.ref a_l_folded)
  b_l_folded : Binds K fd_l_folded ["_law_script", "_law_size"] []
  a_l_same : Addr
  fd_l_same : FuncData
  F_l_same : Fun K "_law_same" "_law_same" s_l_same a_l_same fd_l_same
  g_l_same : mg "_law_same" = some (.ref a_l_same)
  b_l_same : Binds K fd_l_same ["_law_found", "_law_due"] []
  a_l_counted : Addr
  fd_l_counted : FuncData
  F_l_counted : Fun K "_law_counted" "_law_counted" s_l_counted a_l_counted fd_l_counted
  g_l_counted : mg "_law_counted" = some (.ref a_l_counted)
  b_l_counted : Binds K fd_l_counted [] []
  a_law : Addr
  fd_law : FuncData
  F_law : Fun K "law" "law" s_law a_law fd_law
  b_law : Binds K fd_law ["_law_script"] []
  kb_quarter_of_0_day : KB K fd_quarter_of ["day"] 0 ["day"] [(.w 0)] []
  kb_quarter_span_0_quarter : KB K fd_quarter_span ["quarter"] 0 ["quarter"] [(.w 0)] []
  kb_year_of_0_day : KB K fd_year_of ["day"] 0 ["day"] [(.w 0)] []
  c_QUARTER_DAYS : ∃ u, mg "QUARTER_DAYS" = some u ∧ RelV (.int 91) u
  c_YEAR_DAYS : ∃ u, mg "YEAR_DAYS" = some u ∧ RelV (.int 364) u
  z_abs : mg "abs" = none
  z_all : mg "all" = none
  z_bool : mg "bool" = none
  z_enumerate : mg "enumerate" = none
  z_int : mg "int" = none
  z_isinstance : mg "isinstance" = none
  z_len : mg "len" = none
  z_list : mg "list" = none
  z_range : mg "range" = none
  z_str : mg "str" = none
  z_tuple : mg "tuple" = none
  z_zip : mg "zip" = none

/-! ### the law's own helpers: dip, take, folded -/
/-- the box of draws at p: three numbers; at most n draws by reckoning so far -/
def BoxAt (H : Hp) (p : Addr) (n : Nat) : Prop := ∃ a b c : Int, H p = some (.lst [.int a, .int b, .int c]) ∧ 0 ≤ a ∧ 0 ≤ b ∧ b < 2 ^ 62 ∧ 0 ≤ c ∧ c ≤ n
theorem BoxAt.mono {H : Hp} {p : Addr} {m n : Nat} (h : BoxAt H p m) (l : m ≤ n) : BoxAt H p n := by
  obtain ⟨a, b, c, e, h1, h2, h3, h4, h5⟩ := h
  exact ⟨a, b, c, e, h1, h2, h3, h4, by omega⟩
theorem BoxAt.same {H H' : Hp} {p : Addr} {n : Nat} (h : BoxAt H p n) (s : Same H H') : BoxAt H' p n := by
  obtain ⟨a, b, c, e, r⟩ := h
  exact ⟨a, b, c, s _ _ e, r⟩
theorem BoxAt.some {H : Hp} {p : Addr} {n : Nat} (h : BoxAt H p n) : ∃ o, H p = Option.some o := by
  obtain ⟨a, b, c, e, r⟩ := h
  exact ⟨_, e⟩
def spTake : Sp := fun vs H Q _ => ∃ (p : Addr) (m : Int) (n : Nat), vs = [.ref p, .int m] ∧ BoxAt H p n ∧ 0 < m ∧ m < 2 ^ 64 ∧ n < 2 ^ 40 ∧
  ∀ (r : Int) (H' : Hp), 0 ≤ r → r < m → BoxAt H' p (n + 1) → But p H H' → Q (.int r) H'
def spDip (K : PySem.W.Frag) : Sp := fun vs H Q _ => ∃ (a : Addr) (ns : List Int) (k : Nat), vs = [.ref a, .int (k : Int)] ∧ SqL K H a (ns.map V.int) ∧ ns.length ≤ 1000 ∧ k ≤ 1000 ∧
  ∀ (p : Addr) (H' : Hp), H p = none → BoxAt H' p 0 → But p H H' → Q (.ref p) H'
def spFolded (K : PySem.W.Frag) : Sp := fun vs H Q _ => ∃ (a : Addr) (ns : List Int) (k : Nat), vs = [.ref a, .int (k : Int)] ∧ SqL K H a (ns.map V.int) ∧ ns.length ≤ 63 ∧ 1 ≤ k ∧ k ≤ 63 ∧
  ∀ (p : Addr) (ms : List Int) (H' : Hp), H p = none → H' p = some (.lst (ms.map V.int)) → ms.length = min k ns.length → Same H H' → Q (.ref p) H'
theorem fdiv_nonneg {a m : Int} (h : 0 ≤ a) (hm : 0 < m) : 0 ≤ a / m := Int.ediv_nonneg h (Int.le_of_lt hm)
section
variable {P : Program} {w : World} {K : PySem.W.Frag} {mg : Str → Option Value} {base : Heap}
theorem ok_take (T : Top K mg) : FnOk P w K mg base CX0 1 T.a_l_take T.fd_l_take ["_law_box", "_law_many"] spTake := by
  refine T.F_l_take.ok sc_l_take (fun vs H Q E h => ?_) (fun cdv A outer s H vs Q E hr h => ?_)
  · obtain ⟨p, m, n, rfl, _⟩ := h
    rfl
  · obtain ⟨p, m, n, rfl, ⟨a, b, c, hp, a0, b0, b1, c0, c1⟩, m0, m1, hn, k⟩ := h
    have m2 : m.natAbs < 2 ^ 64 := by omega
    refine ⟨_, (pss_cons (ps_if (pt_cmpR op_gt (pe_ix ix_list (pv 0) pe_int (fun _ _ => rfl)) pe_int (nomark _))
    (pss_cons (ps_set (i := 2) sc_l_take.nd rfl (Or.inl rfl) (pe_op op_mod (pe_ix ix_list (pv 0) pe_int (fun _ _ => rfl)) (pv 1)))
    (pss_cons (ps_asg (pe_op op_fdivW (pe_ix ix_list (pv 0) pe_int (fun _ _ => rfl)) (pv 1)) (pg_sub (pv 0) pe_int set_list))
    (pss_one (ps_ret (pv 2)))))
    pss_nil)
  (pss_cons (ps_asg (pe_op op_add (pe_ix ix_list (pv 0) pe_int (fun _ _ => rfl)) pe_int) (pg_sub (pv 0) pe_int set_list))
  (pss_cons (ps_set (i := 3) sc_l_take.nd rfl (Or.inl rfl) (pe_op op_mod (pe_op op_pow (pe_op op_add (pe_ix ix_list (pv 0) pe_int (fun _ _ => rfl)) (pe_op op_mul pe_int (pe_ix ix_list (pv 0) pe_int (fun _ _ => rfl)))) pe_int) pe_int))
  (pss_cons (ps_set (i := 4) sc_l_take.nd rfl (Or.inl rfl) (pe_op op_mod (pe_op op_mul (pe_op op_add (pe_op op_add (pv 3) (pe_ix ix_list (pv 0) pe_int (fun _ _ => rfl))) (pe_op op_fdivW (pe_ix ix_list (pv 0) pe_int (fun _ _ => rfl)) pe_int)) (pe_op op_add (pe_op op_add (pe_op op_mod (pv 3) pe_int) pe_int) (pe_ix ix_list (pv 0) pe_int (fun _ _ => rfl)))) pe_int))
  (pss_one (ps_ret (pe_op op_mod (pe_op op_fdivW (pe_op op_mod (pe_op op_add (pe_op op_mul (pv 4) pe_int) (pv 3)) pe_int) pe_int) (pv 1)))))))), ?_⟩
    have hS : SqL K H p [.int a, .int b, .int c] := sqL hp
    refine ⟨_, rfl, p, _, 0, _, rfl, rfl, hS, rfl, _, _, rfl, rfl, _, rfl, iteD (fun ha => ?_) (fun ha => ?_)⟩
    · -- the number's own digits
      refine ⟨_, rfl, p, _, 0, _, rfl, rfl, hS, rfl, _, rfl, _, _, rfl, rfl, m0, ?_⟩
      refine ⟨_, rfl, p, _, 0, _, rfl, rfl, hS, rfl, _, rfl, _, _, rfl, rfl, wide_div m0 m2 (by decide) (by decide), ?_⟩
      refine ⟨_, rfl, p, _, _, 0, rfl, rfl, hp, rfl, ?_⟩
      refine ⟨_, rfl, k _ _ (Int.emod_nonneg _ (by omega)) (Int.emod_lt_of_pos _ m0) ?_ but_upd⟩
      exact ⟨_, _, _, upd_same, fdiv_nonneg a0 m0, b0, b1, c0, by omega⟩
    · -- mixed
      refine ⟨_, rfl, p, _, 2, _, rfl, rfl, hS, rfl, _, _, rfl, rfl, ?_⟩
      refine ⟨_, rfl, p, _, _, 2, rfl, rfl, hp, rfl, ?_⟩
      generalize hH : upd H p (.lst ([V.int a, V.int b, V.int c].set 2 (V.int (c + 1)))) = H1
      have hp1 : H1 p = some (.lst [.int a, .int b, .int (c + 1)]) := by rw [← hH]; exact upd_same
      have hB : But p H H1 := by rw [← hH]; exact but_upd
      have hS1 : SqL K H1 p [.int a, .int b, .int (c + 1)] := sqL hp1
      have q1 : (b + 39373 * (c + 1)).natAbs < 2 ^ 64 := by omega
      refine ⟨_, rfl, p, _, 1, _, rfl, rfl, hS1, rfl, _, rfl, p, _, 2, _, rfl, rfl, hS1, rfl, _, _, rfl, rfl, .inl ⟨by decide, by decide⟩, _, _, rfl, rfl, _, _, rfl, rfl, ⟨by decide, by decide, q1⟩, _, _, rfl, rfl, by show (0 : Int) < 2147483647; decide, ?_⟩
      generalize (b + 39373 * (c + 1)) ^ (5 : Int).toNat % 2147483647 = once
      refine ⟨_, rfl, _, rfl, p, _, 2, _, rfl, rfl, hS1, rfl, _, _, rfl, rfl, ?_⟩
      refine ⟨_, rfl, p, _, 1, _, rfl, rfl, hS1, rfl, _, _, rfl, rfl, wide_div (b := 64) (by decide) (by decide) (by decide) (by decide), _, _, rfl, rfl, ?_⟩
      refine ⟨_, rfl, _, _, rfl, rfl, by show (0 : Int) < 40009; decide, _, _, rfl, rfl, _, rfl, p, _, 2, _, rfl, rfl, hS1, rfl, _, _, rfl, rfl, ?_⟩
      have q2 := Int.emod_nonneg once (b := 40009) (by decide)
      have q3 := Int.emod_lt_of_pos once (b := 40009) (by decide)
      refine ⟨_, _, rfl, rfl, .inr ⟨by omega, by omega⟩, _, _, rfl, rfl, by show (0 : Int) < 2147483629; decide, ?_⟩
      refine ⟨_, rfl, _, _, rfl, rfl, .inr ⟨by decide, by decide⟩, _, rfl, _, _, rfl, rfl, _, _, rfl, rfl, by show (0 : Int) < 2147483587; decide, _, _, rfl, rfl, wide_div (b := 64) (by decide) (by decide) (by decide) (by decide), _, rfl, _, _, rfl, rfl, m0, ?_⟩
      exact k _ _ (Int.emod_nonneg _ (by omega)) (Int.emod_lt_of_pos _ m0) ⟨_, _, _, hp1, a0, b0, b1, by omega, by omega⟩ hB
theorem ok_dip (T : Top K mg) : FnOk P w K mg base CX0 1 T.a_l_dip T.fd_l_dip ["_law_script", "_law_k"] (spDip K) := by
  refine T.F_l_dip.ok sc_l_dip (fun vs H Q E h => ?_) (fun cdv A outer s H vs Q E hr h => ?_)
  · obtain ⟨p, m, n, rfl, _⟩ := h
    rfl
  · obtain ⟨a, ns, k, rfl, hS, hl, hk, q⟩ := h
    refine ⟨_, (pss_cons (ps_set (i := 2) sc_l_dip.nd rfl (Or.inl rfl) (pe_ifExp (pt_cmpR op_lt (pv 1) (pe_callB call_len (by rfl) T.z_len (by decide +kernel) (pa_cons (pv 0) pa_nil)) (nomark _)) (pe_ix ix_list (pv 0) (pv 1) (fun _ _ => rfl)) pe_int))
  (pss_one (ps_ret (pe_lst (pa_cons (pe_op op_mul (pe_callB call_abs (by rfl) T.z_abs (by decide +kernel) (pa_cons (pv 2) pa_nil)) (pe_callTy call_int1 (by rfl) T.z_int (by decide +kernel) (pa_cons (pe_cmpR op_ge (pe_callB call_abs (by rfl) T.z_abs (by decide +kernel) (pa_cons (pv 2) pa_nil)) (pe_op op_pow pe_int pe_int) (nomark _)) pa_nil))) (pa_cons (pe_op op_add (pe_op op_add (pe_op op_mod (pv 2) pe_int) (pe_op op_mul pe_int (pv 1))) pe_int) (pa_cons pe_int pa_nil))))))), ?_⟩
    refine ⟨_, rfl, _, rfl, _, _, rfl, .inl ⟨_, hS, rfl⟩, _, _, rfl, rfl, _, rfl, ?_⟩
    have b01 : ∀ c : Bool, 0 ≤ (if c = true then (1 : Int) else 0) ∧ (if c = true then (1 : Int) else 0) ≤ 1 := by intro c; cases c <;> decide
    have rest : ∀ (z : Int) (p : Addr), H p = none → Q (.ref p) (upd H p (.lst [.int ((if z < 0 then -z else z) * (if decide ((10 : Int) ^ (18 : Int).toNat ≤ (if z < 0 then -z else z)) = true then 1 else 0)), .int (z % 2305843009213693951 + 39373 * (k : Int) + 17), .int 0])) := by
      intro z p hp
      have q2 := Int.emod_nonneg z (b := 2305843009213693951) (by decide)
      have q3 := Int.emod_lt_of_pos z (b := 2305843009213693951) (by decide)
      refine q p _ hp ⟨_, _, _, upd_same, ?_, by omega, by omega, by decide, by decide⟩ but_upd
      exact Int.mul_nonneg (by split <;> omega) (b01 _).1
    have cm : ∀ z : Int, CMul (if z < 0 then -z else z) (if decide ((10 : Int) ^ (18 : Int).toNat ≤ (if z < 0 then -z else z)) = true then 1 else 0) := fun z => .inr ⟨Int.lt_of_lt_of_le (by decide) (b01 _).1, Int.lt_of_le_of_lt (b01 _).2 (by decide)⟩
    refine iteD (fun hlt => ?_) (fun hlt => ?_)
    · have hlt' : k < ns.length := by
        rw [List.length_map] at hlt
        omega
      refine ⟨_, rfl, _, rfl, a, _, _, _, rfl, rfl, hS, atI_nat (j := k) (v := .int ns[k]) (by simp [hlt']), ?_⟩
      refine ⟨_, rfl, _, rfl, _, rfl, _, rfl, _, _, rfl, rfl, ⟨by decide, by decide, by decide⟩, _, _, rfl, rfl, .inr ⟨_, rfl, _, _, rfl, rfl, cm _, ?_⟩⟩
      refine ⟨_, rfl, _, _, rfl, rfl, by show (0 : Int) < 2305843009213693951; decide, _, rfl, _, _, rfl, rfl, .inl ⟨by decide, by decide⟩, _, _, rfl, rfl, _, _, rfl, rfl, (by show 3 ≤ sizeLine; decide), ?_⟩
      exact rest ns[k]
    · refine ⟨_, rfl, _, rfl, _, rfl, _, rfl, _, _, rfl, rfl, ⟨by decide, by decide, by decide⟩, _, _, rfl, rfl, .inr ⟨_, rfl, _, _, rfl, rfl, cm _, ?_⟩⟩
      refine ⟨_, rfl, _, _, rfl, rfl, by show (0 : Int) < 2305843009213693951; decide, _, rfl, _, _, rfl, rfl, .inl ⟨by decide, by decide⟩, _, _, rfl, rfl, _, _, rfl, rfl, (by show 3 ≤ sizeLine; decide), ?_⟩
      exact rest 0
end
theorem same_mut {H H' : Hp} {l : Addr} {o : HO} (s : Same H H') (n : H l = none) : Same H (upd H' l o) := fun b x e => by
  rw [upd_ne (ne_of_none e n)]
  exact s b x e
theorem cutV_map {α : Type} (f : α → V) (xs : List α) (lo hi : Option Int) : cutV (xs.map f) lo hi = ((xs.drop (HT.sIx xs.length 0 lo)).take (HT.sIx xs.length xs.length hi - HT.sIx xs.length 0 lo)).map f := by
  unfold cutV
  rw [List.length_map, List.map_take, List.map_drop]
section
variable {P : Program} {w : World} {K : PySem.W.Frag} {mg : Str → Option Value} {base : Heap}
theorem ok_folded (T : Top K mg) : FnOk P w K mg base CX0 1 T.a_l_folded T.fd_l_folded ["_law_script", "_law_size"] (spFolded K) := by
  refine T.F_l_folded.ok sc_l_folded (fun vs H Q E h => ?_) (fun cdv A outer s H vs Q E hr h => ?_)
  · obtain ⟨p, m, n, rfl, _⟩ := h
    rfl
  · obtain ⟨a, ns, k, rfl, hS, hl, k1, k2, q⟩ := h
    refine ⟨_, (pss_cons (ps_set (i := 2) sc_l_folded.nd rfl (Or.inl rfl) (pe_callTy call_list_of (by rfl) T.z_list (by decide +kernel) (pa_cons (pe_slice sl_list (pv 0) po_none (po_some (pv 1))) pa_nil)))
  (pss_cons (ps_for PassesOwn.never rfl (pi_enum (by rfl) T.z_enumerate (pa_cons (pe_slice sl_list (pv 0) (po_some (pv 1)) (po_some pe_int)) pa_nil)) (pg_tup rfl (pgs_cons (pg_name (i := 3) sc_l_folded.nd rfl (Or.inl rfl)) (pgs_cons (pg_name (i := 4) sc_l_folded.nd rfl (Or.inl rfl)) pgs_nil)))
    (pss_one (ps_asg (pe_op op_add (pe_ix ix_list (pv 2) (pe_op op_mod (pv 3) (pv 1)) (fun _ _ => rfl)) (pe_op op_mul (pv 4) (pe_op op_add (pv 3) pe_int))) (pg_sub (pv 2) (pe_op op_mod (pv 3) (pv 1)) set_list))))
  (pss_one (ps_ret (pv 2))))), ?_⟩
    refine ⟨_, rfl, _, rfl, _, rfl, a, _, rfl, hS, fun p1 np1 => ?_⟩
    have s1 : Same H (upd H p1 (.lst (cutV (ns.map V.int) none (some (k : Int))))) := same_new np1
    refine ⟨p1, _, rfl, .inl (sqL upd_same), fun l nl => ?_⟩
    have nl0 : H l = none := s1.free nl
    generalize hH2 : upd (upd H p1 (.lst (cutV (ns.map V.int) none (some (k : Int))))) l (.lst (cutV (ns.map V.int) none (some (k : Int)))) = H2
    have s2 : Same H H2 := by rw [← hH2]; exact s1.trans (same_new nl)
    have e2 : H2 l = some (.lst ((ns.take k).map V.int)) := by
      rw [← hH2, upd_same, cutV_map, HT.sIx_none, HT.sIx_nat, Nat.sub_zero, List.drop_zero, ← List.take_eq_take_min]
    refine ⟨_, rfl, _, rfl, _, rfl, _, rfl, a, _, rfl, s2.seq hS, fun p2 np2 => ?_⟩
    rw [cutV_map]
    generalize hcs : (ns.drop (HT.sIx ns.length 0 (some (k : Int)))).take (HT.sIx ns.length ns.length (some 63) - HT.sIx ns.length 0 (some (k : Int))) = cs
    have hcl : cs.length ≤ 63 ∧ (cs ≠ [] → k < ns.length) := by
      rw [← hcs, HT.sIx_nat, List.length_take, List.length_drop]
      refine ⟨by omega, fun h => ?_⟩
      by_cases hk : k < ns.length
      · exact hk
      · exact absurd (by rw [List.drop_eq_nil_of_le (by omega), List.take_nil]) h
    have np2l : l ≠ p2 := ne_of_none e2 np2
    refine ⟨p2, _, rfl, sqL upd_same, for_it (walk_enum (xs := cs.map V.int)) (fun i σ H3 => ∃ (ms : List Int) (y3 y4 : Option V), σ = [some (.ref a), some (.int (k : Int)), some (.ref l), y3, y4] ∧ H3 l = some (.lst (ms.map V.int)) ∧ ms.length = min k ns.length ∧ Same H H3 ∧ H3 p2 = some (.lst (cs.map V.int)))
      ⟨ns.take k, none, none, rfl, by rw [upd_ne np2l]; exact e2, by rw [List.length_take], s2.trans (same_new np2), upd_same⟩ (fun i σ H3 _ ⟨_, _, _, _, _, _, _, h⟩ => sqL h) ?_ ?_⟩
    · rintro i x σ H3 H4 hi ⟨ms, y3, y4, rfl, el, hm, s3, ep⟩ ⟨t, x1, x2, rfl, nt, rfl, e1, e2'⟩
      cases e1
      rw [List.length_map] at hi
      have ex2 : x2 = .int cs[i] := by
        have e2' : (cs.map V.int)[i]? = some x2 := e2'
        rw [List.getElem?_map, List.getElem?_eq_getElem hi] at e2'
        exact (Option.some.inj e2').symm
      subst ex2
      have hk : k < ns.length := hcl.2 (by intro z; rw [z] at hi; exact absurd hi (Nat.not_lt_zero _))
      have ntl : l ≠ t := ne_of_none el nt
      have ntp : p2 ≠ t := ne_of_none ep nt
      have el4 : (upd H3 t (.tup [.int (i : Nat), .int cs[i]])) l = some (.lst (ms.map V.int)) := by rw [upd_ne ntl]; exact el
      have hj : i % k < ms.length := by rw [hm]; have := Nat.mod_lt i k1; omega
      have ej : ((i : Int) % (k : Int)) = ((i % k : Nat) : Int) := by omega
      have gj : (ms.map V.int)[i % k]? = some (.int ms[i % k]) := by simp [hj]
      have kp : (0 : Int) < (k : Int) := by omega
      refine ⟨t, _, rfl, sqT upd_same, rfl, _, _, rfl, _, _, rfl, rfl, ?_⟩
      refine ⟨_, rfl, _, rfl, _, rfl, _, _, rfl, rfl, kp, l, _, _, _, rfl, rfl, sqL el4, at_of ej gj, ?_⟩
      refine ⟨_, rfl, _, rfl, _, _, rfl, rfl, _, _, rfl, rfl, .inr ⟨by omega, by omega⟩, _, _, rfl, rfl, ?_⟩
      refine ⟨_, rfl, _, rfl, _, rfl, _, _, rfl, rfl, kp, l, _, _, i % k, rfl, rfl, el4, ?_, ?_⟩
      · rw [ej, List.length_map]
        exact ixN_nat' hj
      · refine ⟨ms.set (i % k) (ms[i % k] + cs[i] * ((i : Int) + 2)), _, _, rfl, ?_, by rw [List.length_set]; exact hm, same_mut (s3.trans (same_new nt)) nl0, ?_⟩
        · rw [upd_same, List.map_set]
        · rw [upd_ne np2l.symm, upd_ne ntp]; exact ep
    · rintro σ H3 ⟨ms, y3, y4, rfl, el, hm, s3, ep⟩
      exact ⟨_, rfl, q l ms H3 nl0 el hm s3⟩
end

/-! ### the law's own same: two that are one datum are the same -/
def Sm : Nat → PyData → Prop
  | _, .none => True
  | _, .bool _ => True
  | _, .int _ => True
  | _, .str _ => True
  | n + 1, .list ds => ds.length ≤ 100000 ∧ ∀ d ∈ ds, Sm n d
  | n + 1, .tuple ds => ds.length ≤ 100000 ∧ ∀ d ∈ ds, Sm n d
  | _, _ => False
mutual
theorem dp_same {K : PySem.W.Frag} {H H' : Hp} (s : Same H H') : ∀ (d : PyData) (v : V), Dp K H v d → Dp K H' v d
  | .none, _, .non => .non
  | .bool _, _, .bl b => .bl b
  | .int _, _, .int i => .int i
  | .str _, _, .str x => .str x
  | .list ds, _, .lst h t => .lst (s.seq h) (dps_same s ds _ t)
  | .tuple ds, _, .tup h t => .tup (same_T s h) (dps_same s ds _ t)
theorem dps_same {K : PySem.W.Frag} {H H' : Hp} (s : Same H H') : ∀ (ds : List PyData) (vs : List V), DpAll K H vs ds → DpAll K H' vs ds
  | [], _, .nil => .nil
  | d :: ds, _, .cons h t => .cons (dp_same s d _ h) (dps_same s ds _ t)
end
theorem dpAll_len {K : PySem.W.Frag} {H : Hp} : ∀ {ds : List PyData} {vs : List V}, DpAll K H vs ds → vs.length = ds.length
  | [], _, .nil => rfl
  | _ :: _, _, .cons _ t => congrArg Nat.succ (dpAll_len t)
theorem dpAll_get {K : PySem.W.Frag} {H : Hp} : ∀ {ds : List PyData} {vs : List V} {i : Nat} {v : V}, DpAll K H vs ds → vs[i]? = some v → ∃ d, ds[i]? = some d ∧ Dp K H v d
  | [], _, _, _, .nil, e => by simp at e
  | _ :: _, _, 0, _, .cons h _, e => by
    simp at e
    subst e
    exact ⟨_, rfl, h⟩
  | _ :: _, _, i + 1, _, .cons _ t, e => by
    obtain ⟨d, e1, e2⟩ := dpAll_get (i := i) t (by simpa using e)
    exact ⟨d, by simpa using e1, e2⟩
theorem tyx_L {K : PySem.W.Frag} {H : Hp} {a : Addr} {xs : List V} (h : SqL K H a xs) : TyX K H (.ref a) (.type "list") := by
  rcases h with (h | ⟨o, h⟩) | ⟨o, its, n, h1, h2, _⟩
  · exact .base (.lst h)
  · exact .base (.frz h)
  · exact .kList h1 h2
theorem tyx_T {K : PySem.W.Frag} {H : Hp} {a : Addr} {xs : List V} (h : SqT K H a xs) : TyX K H (.ref a) (.type "tuple") := by
  rcases h with (h | ⟨o, h⟩) | ⟨o, its, n, h1, h2, _⟩
  · exact .base (.tup h)
  · exact .fTuple h
  · exact .kTuple h1 h2
theorem walk_zipT {K : PySem.W.Frag} {a b : Addr} {xs ys : List V} {n : Nat} (hn : n = min xs.length ys.length) : Walk (ItzT K a b) n (fun H => SqT K H a xs ∧ SqT K H b ys) (YPair (fun i => xs[i]?) (fun i => ys[i]?)) := by
  refine ⟨fun i H hi h => ?_, fun H h => ?_, fun i H v H' hi h y => ?_⟩
  · have h1 : i < xs.length := by omega
    have h2 : i < ys.length := by omega
    exact ⟨xs, ys, xs[i], ys[i], h.1, h.2, List.getElem?_eq_getElem h1, List.getElem?_eq_getElem h2⟩
  · exact ⟨xs, ys, h.1, h.2, by omega⟩
  · obtain ⟨T, x, y, ev, nT, eH, f1, f2⟩ := y
    exact ⟨T, x, y, ev, nT, eH, f1 _ h.1, f2 _ h.2⟩
theorem oIsi {X : Cx} : CallR X (.builtin "isinstance") (fun xs H Q => rIsi X.K xs H Q ∨ rIsiT X.K xs H Q) := CallR.or call_isi call_isiT
theorem iteFe {c : Bool} {A B : Prop} (e : c = false) (h : B) : if c = true then A else B := by
  subst e
  exact iteF h
theorem iteTe {c : Bool} {A B : Prop} (e : c = true) (h : A) : if c = true then A else B := by
  subst e
  exact iteT h
theorem fnok_no {P : Program} {w : World} {K : PySem.W.Frag} {mg : Str → Option Value} {base : Heap} {k : Nat} {f : Addr} {fd : FuncData} {ps : List Str} : FnOk P w K mg base CX0 k f fd ps (fun _ _ _ _ => False) :=
  ⟨fun _ _ _ _ h => h.elim, fun _ _ _ _ _ _ _ _ _ _ _ _ _ h => h.elim⟩
def spSame (K : PySem.W.Frag) (n : Nat) : Sp := fun vs H Q _ => ∃ (x y : V) (d : PyData), vs = [x, y] ∧ Dp K H x d ∧ Dp K H y d ∧ Sm n d ∧ ∀ H', Same H H' → Q (.bl true) H'
theorem spSame.mono {K : PySem.W.Frag} : ∀ {m n : Nat}, m ≤ n → ∀ d, Sm m d → Sm n d
  | _, _, _, .none, _ => by simp [Sm]
  | _, _, _, .bool _, _ => by simp [Sm]
  | _, _, _, .int _, _ => by simp [Sm]
  | _, _, _, .str _, _ => by simp [Sm]
  | m + 1, n + 1, l, .list ds, h => ⟨h.1, fun d hd => spSame.mono (K := K) (Nat.le_of_succ_le_succ l) d (h.2 d hd)⟩
  | m + 1, n + 1, l, .tuple ds, h => ⟨h.1, fun d hd => spSame.mono (K := K) (Nat.le_of_succ_le_succ l) d (h.2 d hd)⟩
  | m, _, _, .dict _, h => by cases m <;> exact (h : False).elim
  | 0, _, _, .list _, h => (h : False).elim
  | 0, _, _, .tuple _, h => (h : False).elim
  | m + 1, 0, l, .list ds, h => by omega
  | m + 1, 0, l, .tuple ds, h => by omega
section
variable {P : Program} {w : World} {K : PySem.W.Frag} {mg : Str → Option Value} {base : Heap}
theorem kitF {K : PySem.W.Frag} {a b : String} (h : kitB a b = some false) : PySem.W.kitOne K (.type a) (.type b) = some false := kit_ty h
theorem kitFF {K : PySem.W.Frag} {a b c : String} (h : kitB a b = some false) (h' : kitB a c = some false) : PySem.W.kitAny K (.type a) [.type b, .type c] = some false :=
  kitAny_cons (b := false) (kit_ty h) (fun _ => kitAny_cons (b := false) (kit_ty h') (fun _ => kitAny_nil) (fun z => nomatch z)) (fun z => nomatch z)
theorem kitTF {K : PySem.W.Frag} {a b c : String} (h : kitB a b = some true) : PySem.W.kitAny K (.type a) [.type b, .type c] = some true :=
  kitAny_cons (b := true) (kit_ty h) (fun z => nomatch z) (fun _ => rfl)
theorem kitFT {K : PySem.W.Frag} {a b c : String} (h : kitB a b = some false) (h' : kitB a c = some true) : PySem.W.kitAny K (.type a) [.type b, .type c] = some true :=
  kitAny_cons (b := false) (kit_ty h) (fun _ => kitAny_cons (b := true) (kit_ty h') (fun z => nomatch z) (fun _ => rfl)) (fun z => nomatch z)
theorem same_step (T : Top K mg) {n m : Nat} {spc : Sp} (G_l_same : FnOk P w K mg base CX0 m T.a_l_same T.fd_l_same ["_law_found", "_law_due"] spc)
    (hrec : ∀ m' : Nat, n = m' + 1 → ∀ (x y : V) (d : PyData) (H : Hp) (Q : VK) (E : XK), Dp K H x d → Dp K H y d → Sm m' d → (∀ H', Same H H' → Q (.bl true) H') → spc [x, y] H Q E) :
    FnOk P w K mg base CX0 (m + 1) T.a_l_same T.fd_l_same ["_law_found", "_law_due"] (spSame K n) := by
  refine T.F_l_same.ok sc_l_same (fun vs H Q E h => ?_) (fun cdv A outer s H vs Q E hr h => ?_)
  · obtain ⟨x, y, d, rfl, _⟩ := h
    rfl
  · obtain ⟨x, y, d, rfl, hx, hy, hS, q⟩ := h
    refine ⟨_, (pss_cons (ps_if (pt_val (pe_callB oIsi (by rfl) T.z_isinstance (by decide +kernel) (pa_cons (pv 1) (pa_cons (pe_tup (pa_cons (pe_bltn (v := .ty "list") (by rfl) T.z_list (by decide +kernel) rfl) (pa_cons (pe_bltn (v := .ty "tuple") (by rfl) T.z_tuple (by decide +kernel) rfl) pa_nil))) pa_nil))))
    (pss_cons (ps_if (PW.pt (pw_or (pt_cmpR op_ne (pe_callB oIsi (by rfl) T.z_isinstance (by decide +kernel) (pa_cons (pv 0) (pa_cons (pe_bltn (v := .ty "list") (by rfl) T.z_list (by decide +kernel) rfl) pa_nil))) (pe_callB oIsi (by rfl) T.z_isinstance (by decide +kernel) (pa_cons (pv 1) (pa_cons (pe_bltn (v := .ty "list") (by rfl) T.z_list (by decide +kernel) rfl) pa_nil))) (nomark _)) (pw_or1 (pt_cmpR op_ne (pe_callB oIsi (by rfl) T.z_isinstance (by decide +kernel) (pa_cons (pv 0) (pa_cons (pe_bltn (v := .ty "tuple") (by rfl) T.z_tuple (by decide +kernel) rfl) pa_nil))) (pe_callB oIsi (by rfl) T.z_isinstance (by decide +kernel) (pa_cons (pv 1) (pa_cons (pe_bltn (v := .ty "tuple") (by rfl) T.z_tuple (by decide +kernel) rfl) pa_nil))) (nomark _)))))
      (pss_one (ps_ret pe_bl))
      pss_nil)
    (pss_one (ps_ret (pe_and (pe_cmpR op_eq (pe_callB call_len (by rfl) T.z_len (by decide +kernel) (pa_cons (pv 0) pa_nil)) (pe_callB call_len (by rfl) T.z_len (by decide +kernel) (pa_cons (pv 1) pa_nil)) (nomark _)) (pe_one (pe_callB (cr_all rfl) (by rfl) T.z_all (by decide +kernel) (pa_cons (pe_lc (own := [("_law_one", 2), ("_law_other", 3)]) (g := gTup _ 2 (gCons (gName 2) (gCons (gName 3) (gNil)))) (tt := tYes) rfl sc_l_same.nd (pi_zipA (by rfl) T.z_zip (pa_cons (pv 0) (pa_cons (pv 1) pa_nil))) (blkOk_by (own := [("_law_one", 2), ("_law_other", 3)]) (N := ["_law_found", "_law_due", "_law_one", "_law_other"]) (sc := defScope s_l_same) (by decide +kernel)) (fun _ _ _ _ _ => (pg_tup rfl (pgs_cons (pg_name (i := 2) sc_l_same.nd rfl (by first | exact Or.inl rfl | exact Or.inr rfl)) (pgs_cons (pg_name (i := 3) sc_l_same.nd rfl (by first | exact Or.inl rfl | exact Or.inr rfl)) pgs_nil)))) (fun _ _ _ _ _ => pts_nil) (fun _ _ _ _ _ => (pe_call G_l_same (hr.mono (by first | decide | omega)) (by rfl) T.g_l_same T.F_l_same.kp T.b_l_same .nil pass0 (pa_cons (pv 2) (pa_cons (pv 3) pa_nil))))) pa_nil)))))))
    pss_nil)
  (pss_cons (ps_if (PW.pt (pw_or (pt_cmpR op_isN (pv 1) pe_non (nomark _)) (pw_or1 (pt_cmpR op_isN (pv 0) pe_non (nomark _)))))
    (pss_one (ps_ret (pe_and (pe_cmpR op_isN (pv 1) pe_non (nomark _)) (pe_one (pe_cmpR op_isN (pv 0) pe_non (nomark _))))))
    pss_nil)
  (pss_cons (ps_if (PW.pt (pw_or (pt_val (pe_callB oIsi (by rfl) T.z_isinstance (by decide +kernel) (pa_cons (pv 1) (pa_cons (pe_bltn (v := .ty "bool") (by rfl) T.z_bool (by decide +kernel) rfl) pa_nil)))) (pw_or1 (pt_val (pe_callB oIsi (by rfl) T.z_isinstance (by decide +kernel) (pa_cons (pv 1) (pa_cons (pe_bltn (v := .ty "str") (by rfl) T.z_str (by decide +kernel) rfl) pa_nil)))))))
    (pss_one (ps_ret (pe_and (pe_cmpR op_eq (pe_callB oIsi (by rfl) T.z_isinstance (by decide +kernel) (pa_cons (pv 0) (pa_cons (pe_bltn (v := .ty "bool") (by rfl) T.z_bool (by decide +kernel) rfl) pa_nil))) (pe_callB oIsi (by rfl) T.z_isinstance (by decide +kernel) (pa_cons (pv 1) (pa_cons (pe_bltn (v := .ty "bool") (by rfl) T.z_bool (by decide +kernel) rfl) pa_nil))) (nomark _)) (pe_one (pe_cmpR op_eq (pv 0) (pv 1) (nomark _))))))
    pss_nil)
  (pss_one (ps_ret (pe_and (pe_callB oIsi (by rfl) T.z_isinstance (by decide +kernel) (pa_cons (pv 0) (pa_cons (pe_bltn (v := .ty "int") (by rfl) T.z_int (by decide +kernel) rfl) pa_nil))) (pe_and (pe_not (pe_callB oIsi (by rfl) T.z_isinstance (by decide +kernel) (pa_cons (pv 0) (pa_cons (pe_bltn (v := .ty "bool") (by rfl) T.z_bool (by decide +kernel) rfl) pa_nil)))) (pe_one (pe_cmpR op_eq (pv 0) (pv 1) (nomark _)))))))))), ?_⟩
    cases hx with
    | non =>
      cases hy
      refine ⟨_, rfl, by decide, fun t nt => .inr ⟨_, t, _, _, _, _, rfl, upd_same, .cons (.ty _) (.cons (.ty _) .nil), .base .non, kitFF (by decide +kernel) (by decide +kernel), _, rfl, iteF ?_⟩⟩
      refine ⟨_, rfl, rfl, _, rfl, iteTe (by simp) (iteT ?_)⟩
      refine ⟨_, rfl, rfl, _, rfl, iteTe (by simp) ?_⟩
      refine ⟨_, rfl, rfl, ?_⟩
      simpa using q _ (same_new nt)
    | bl b =>
      cases hy
      refine ⟨_, rfl, by decide, fun t nt => .inr ⟨_, t, _, _, _, _, rfl, upd_same, .cons (.ty _) (.cons (.ty _) .nil), .base (.bl b), kitFF (by decide +kernel) (by decide +kernel), _, rfl, iteF ?_⟩⟩
      refine ⟨_, rfl, rfl, _, rfl, iteFe (by simp) ?_⟩
      refine ⟨_, rfl, rfl, _, rfl, iteFe (by simp) ?_⟩
      refine ⟨_, rfl, .inl ⟨_, _, _, _, _, rfl, .ty _, .base (.bl b), kit_ty (r := true) (by decide +kernel), _, rfl, iteT (iteT ?_)⟩⟩
      refine ⟨_, rfl, .inl ⟨_, _, _, _, _, rfl, .ty _, .base (.bl b), kit_ty (r := true) (by decide +kernel), ?_⟩⟩
      refine ⟨_, rfl, .inl ⟨_, _, _, _, _, rfl, .ty _, .base (.bl b), kit_ty (r := true) (by decide +kernel), rfl, _, rfl, iteTe (by simp) ?_⟩⟩
      refine ⟨_, rfl, _, rfl, rfl, ?_⟩
      simpa using q _ (same_new nt)
    | int i =>
      cases hy
      refine ⟨_, rfl, by decide, fun t nt => .inr ⟨_, t, _, _, _, _, rfl, upd_same, .cons (.ty _) (.cons (.ty _) .nil), .base (.int i), kitFF (by decide +kernel) (by decide +kernel), _, rfl, iteF ?_⟩⟩
      refine ⟨_, rfl, rfl, _, rfl, iteFe (by simp) ?_⟩
      refine ⟨_, rfl, rfl, _, rfl, iteFe (by simp) ?_⟩
      refine ⟨_, rfl, .inl ⟨_, _, _, _, _, rfl, .ty _, .base (.int i), kit_ty (r := false) (by decide +kernel), _, rfl, iteF ?_⟩⟩
      refine ⟨_, rfl, .inl ⟨_, _, _, _, _, rfl, .ty _, .base (.int i), kit_ty (r := false) (by decide +kernel), _, rfl, iteF ?_⟩⟩
      refine ⟨_, rfl, .inl ⟨_, _, _, _, _, rfl, .ty _, .base (.int i), kit_ty (r := true) (by decide +kernel), _, rfl, iteT ?_⟩⟩
      refine ⟨_, rfl, .inl ⟨_, _, _, _, _, rfl, .ty _, .base (.int i), kit_ty (r := false) (by decide +kernel), _, rfl, _, rfl, iteT ?_⟩⟩
      refine ⟨_, rfl, _, rfl, rfl, ?_⟩
      simpa using q _ (same_new nt)
    | str z =>
      cases hy
      refine ⟨_, rfl, by decide, fun t nt => .inr ⟨_, t, _, _, _, _, rfl, upd_same, .cons (.ty _) (.cons (.ty _) .nil), .base (.str z), kitFF (by decide +kernel) (by decide +kernel), _, rfl, iteF ?_⟩⟩
      refine ⟨_, rfl, rfl, _, rfl, iteFe (by simp) ?_⟩
      refine ⟨_, rfl, rfl, _, rfl, iteFe (by simp) ?_⟩
      refine ⟨_, rfl, .inl ⟨_, _, _, _, _, rfl, .ty _, .base (.str z), kit_ty (r := false) (by decide +kernel), _, rfl, iteF ?_⟩⟩
      refine ⟨_, rfl, .inl ⟨_, _, _, _, _, rfl, .ty _, .base (.str z), kit_ty (r := true) (by decide +kernel), _, rfl, iteT ?_⟩⟩
      refine ⟨_, rfl, .inl ⟨_, _, _, _, _, rfl, .ty _, .base (.str z), kit_ty (r := false) (by decide +kernel), ?_⟩⟩
      refine ⟨_, rfl, .inl ⟨_, _, _, _, _, rfl, .ty _, .base (.str z), kit_ty (r := false) (by decide +kernel), rfl, _, rfl, iteTe (by simp) ?_⟩⟩
      refine ⟨_, rfl, _, rfl, rfl, ?_⟩
      simpa using q _ (same_new nt)
    | lst hxs tx =>
      rename_i a xs ds
      cases n with
      | zero => exact hS.elim
      | succ n' =>
        cases hy with
        | lst hys ty =>
          rename_i b ys
          obtain ⟨hl, hd⟩ := hS
          have lx := dpAll_len tx
          have ly := dpAll_len ty
          refine ⟨_, rfl, by decide, fun t nt => .inr ⟨_, t, _, _, _, _, rfl, upd_same, .cons (.ty _) (.cons (.ty _) .nil), tyx_L ((same_new nt).seq hys), kitTF (by decide +kernel), _, rfl, iteT ?_⟩⟩
          have s1 : Same H (upd H t (.tup [.ty "list", .ty "tuple"])) := same_new nt
          generalize upd H t (.tup [.ty "list", .ty "tuple"]) = H1 at s1
          have hx1 := s1.seq hxs
          have hy1 := s1.seq hys
          refine ⟨_, rfl, .inl ⟨_, _, _, _, _, rfl, .ty _, tyx_L hx1, kit_ty (r := true) (by decide +kernel), _, rfl, .inl ⟨_, _, _, _, _, rfl, .ty _, tyx_L hy1, kit_ty (r := true) (by decide +kernel), rfl, _, rfl, iteFe (by simp) ?_⟩⟩⟩
          refine ⟨_, rfl, .inl ⟨_, _, _, _, _, rfl, .ty _, tyx_L hx1, kit_ty (r := false) (by decide +kernel), _, rfl, .inl ⟨_, _, _, _, _, rfl, .ty _, tyx_L hy1, kit_ty (r := false) (by decide +kernel), rfl, _, rfl, iteFe (by simp) ?_⟩⟩⟩
          refine ⟨_, rfl, _, _, rfl, .inl ⟨_, hx1, rfl⟩, _, rfl, _, _, rfl, .inl ⟨_, hy1, rfl⟩, rfl, _, rfl, iteTe (by rw [lx, ly]; simp) ?_⟩
          refine ⟨_, rfl, _, rfl, a, b, xs, ys, rfl, .inl ⟨hx1, hy1, fun D nD => ?_⟩⟩
          refine lc_it (walk_zip (n := ds.length) (by rw [lx, ly]; simp)) (fun i H2 => Same H1 H2 ∧ H2 D = some (.lst (List.replicate i (.bl true)))) ⟨same_new nD, upd_same⟩ (fun i H2 _ h => ⟨h.1.seq hx1, h.1.seq hy1⟩) ?_ ?_
          · rintro i x H2 H3 hi ⟨s2, eD⟩ ⟨t2, x1, x2, rfl, nt2, rfl, e1, e2⟩
            obtain ⟨d1, g1, q1⟩ := dpAll_get tx e1
            obtain ⟨d2, g2, q2⟩ := dpAll_get ty e2
            obtain rfl : d1 = d2 := Option.some.inj (g1.symm.trans g2)
            have s3 : Same H2 (upd H2 t2 (.tup [x1, x2])) := same_new nt2
            refine ⟨t2, _, rfl, sqT upd_same, rfl, _, _, rfl, _, _, rfl, rfl, rfl, ?_⟩
            refine ⟨_, rfl, _, rfl, hrec n' rfl x1 x2 d1 _ _ _ (dp_same ((s1.trans s2).trans s3) _ _ q1) (dp_same ((s1.trans s2).trans s3) _ _ q2) (hd d1 (List.mem_of_getElem? g1)) fun H4 s4 => ?_⟩
            refine ⟨_, s4 _ _ (s3 _ _ eD), ?_, same_mut ((s2.trans s3).trans s4) nD, ?_⟩
            · rw [List.length_replicate]
              exact Nat.lt_of_lt_of_le hi (Nat.le_trans hl (by decide))
            · rw [upd_same, ← List.replicate_succ']
          · rintro H2 ⟨s2, eD⟩
            refine ⟨D, List.replicate ds.length true, rfl, sqL ?_, ?_⟩
            · rw [eD, List.map_replicate]
            · have e : (List.replicate ds.length true).all id = true := by simp
              rw [e]
              exact q _ (s1.trans s2)
    | tup hxs tx =>
      rename_i a xs ds
      cases n with
      | zero => exact hS.elim
      | succ n' =>
        cases hy with
        | tup hys ty =>
          rename_i b ys
          obtain ⟨hl, hd⟩ := hS
          have lx := dpAll_len tx
          have ly := dpAll_len ty
          refine ⟨_, rfl, by decide, fun t nt => .inr ⟨_, t, _, _, _, _, rfl, upd_same, .cons (.ty _) (.cons (.ty _) .nil), tyx_T (same_T (same_new nt) hys), kitFT (by decide +kernel) (by decide +kernel), _, rfl, iteT ?_⟩⟩
          have s1 : Same H (upd H t (.tup [.ty "list", .ty "tuple"])) := same_new nt
          generalize upd H t (.tup [.ty "list", .ty "tuple"]) = H1 at s1
          have hx1 := same_T s1 hxs
          have hy1 := same_T s1 hys
          refine ⟨_, rfl, .inl ⟨_, _, _, _, _, rfl, .ty _, tyx_T hx1, kit_ty (r := false) (by decide +kernel), _, rfl, .inl ⟨_, _, _, _, _, rfl, .ty _, tyx_T hy1, kit_ty (r := false) (by decide +kernel), rfl, _, rfl, iteFe (by simp) ?_⟩⟩⟩
          refine ⟨_, rfl, .inl ⟨_, _, _, _, _, rfl, .ty _, tyx_T hx1, kit_ty (r := true) (by decide +kernel), _, rfl, .inl ⟨_, _, _, _, _, rfl, .ty _, tyx_T hy1, kit_ty (r := true) (by decide +kernel), rfl, _, rfl, iteFe (by simp) ?_⟩⟩⟩
          refine ⟨_, rfl, _, _, rfl, .inr ⟨_, hx1, rfl⟩, _, rfl, _, _, rfl, .inr ⟨_, hy1, rfl⟩, rfl, _, rfl, iteTe (by rw [lx, ly]; simp) ?_⟩
          refine ⟨_, rfl, _, rfl, a, b, xs, ys, rfl, .inr ⟨hx1, hy1, fun D nD => ?_⟩⟩
          refine lc_it (walk_zipT (n := ds.length) (by rw [lx, ly]; simp)) (fun i H2 => Same H1 H2 ∧ H2 D = some (.lst (List.replicate i (.bl true)))) ⟨same_new nD, upd_same⟩ (fun i H2 _ h => ⟨same_T h.1 hx1, same_T h.1 hy1⟩) ?_ ?_
          · rintro i x H2 H3 hi ⟨s2, eD⟩ ⟨t2, x1, x2, rfl, nt2, rfl, e1, e2⟩
            obtain ⟨d1, g1, q1⟩ := dpAll_get tx e1
            obtain ⟨d2, g2, q2⟩ := dpAll_get ty e2
            obtain rfl : d1 = d2 := Option.some.inj (g1.symm.trans g2)
            have s3 : Same H2 (upd H2 t2 (.tup [x1, x2])) := same_new nt2
            refine ⟨t2, _, rfl, sqT upd_same, rfl, _, _, rfl, _, _, rfl, rfl, rfl, ?_⟩
            refine ⟨_, rfl, _, rfl, hrec n' rfl x1 x2 d1 _ _ _ (dp_same ((s1.trans s2).trans s3) _ _ q1) (dp_same ((s1.trans s2).trans s3) _ _ q2) (hd d1 (List.mem_of_getElem? g1)) fun H4 s4 => ?_⟩
            refine ⟨_, s4 _ _ (s3 _ _ eD), ?_, same_mut ((s2.trans s3).trans s4) nD, ?_⟩
            · rw [List.length_replicate]
              exact Nat.lt_of_lt_of_le hi (Nat.le_trans hl (by decide))
            · rw [upd_same, ← List.replicate_succ']
          · rintro H2 ⟨s2, eD⟩
            refine ⟨D, List.replicate ds.length true, rfl, sqL ?_, ?_⟩
            · rw [eD, List.map_replicate]
            · have e : (List.replicate ds.length true).all id = true := by simp
              rw [e]
              exact q _ (s1.trans s2)
theorem ok_same (T : Top K mg) : ∀ n : Nat, FnOk P w K mg base CX0 (n + 1) T.a_l_same T.fd_l_same ["_law_found", "_law_due"] (spSame K n)
  | 0 => same_step T (m := 0) (spc := fun _ _ _ _ => False) fnok_no (fun _ e => by omega)
  | n + 1 => same_step T (ok_same T n) (fun m' e x y d H Q E h1 h2 h3 h4 => by
    cases e
    exact ⟨x, y, d, rfl, h1, h2, h3, h4⟩)
end

abbrev lawLevel : Nat := 4
/-! ### the program's defs -/
def spDiv (m : Int) : Sp := fun vs H Q _ => ∃ n : Int, vs = [.int n] ∧ Q (.int (n / m)) H
def spSpan : Sp := fun vs H Q _ => ∃ n : Int, vs = [.int n] ∧ ∀ p, H p = none → Q (.ref p) (upd H p (.tup [.int (91 * n), .int (91 * n + 91 - 1)]))
section
variable {P : Program} {w : World} {K : PySem.W.Frag} {mg : Str → Option Value} {base : Heap}
theorem ok_year (T : Top K mg) : FnOk P w K mg base CX0 1 T.a_year_of T.fd_year_of ["day"] (spDiv 364) := by
  refine T.F_year_of.ok sc_year_of (fun vs H Q E h => ?_) (fun cdv A outer s H vs Q E hr h => ?_)
  · obtain ⟨n, rfl, _⟩ := h
    rfl
  · obtain ⟨n, rfl, q⟩ := h
    exact ⟨_, (pss_one (ps_ret (pe_op op_fdivW (pv 0) (pe_gl (by rfl) T.c_YEAR_DAYS)))), ⟨_, rfl, _, _, rfl, rfl, wide_div (b := 64) (by decide) (by decide) (by decide) (by decide), q⟩⟩
theorem ok_quarter (T : Top K mg) : FnOk P w K mg base CX0 1 T.a_quarter_of T.fd_quarter_of ["day"] (spDiv 91) := by
  refine T.F_quarter_of.ok sc_quarter_of (fun vs H Q E h => ?_) (fun cdv A outer s H vs Q E hr h => ?_)
  · obtain ⟨n, rfl, _⟩ := h
    rfl
  · obtain ⟨n, rfl, q⟩ := h
    exact ⟨_, (pss_one (ps_ret (pe_op op_fdivW (pv 0) (pe_gl (by rfl) T.c_QUARTER_DAYS)))), ⟨_, rfl, _, _, rfl, rfl, wide_div (b := 64) (by decide) (by decide) (by decide) (by decide), q⟩⟩
theorem ok_span (T : Top K mg) : FnOk P w K mg base CX0 1 T.a_quarter_span T.fd_quarter_span ["quarter"] spSpan := by
  refine T.F_quarter_span.ok sc_quarter_span (fun vs H Q E h => ?_) (fun cdv A outer s H vs Q E hr h => ?_)
  · obtain ⟨n, rfl, _⟩ := h
    rfl
  · obtain ⟨n, rfl, q⟩ := h
    refine ⟨_, (pss_one (ps_ret (pe_tup (pa_cons (pe_op op_mul (pe_gl (by rfl) T.c_QUARTER_DAYS) (pv 0)) (pa_cons (pe_op op_sub (pe_op op_add (pe_op op_mul (pe_gl (by rfl) T.c_QUARTER_DAYS) (pv 0)) (pe_gl (by rfl) T.c_QUARTER_DAYS)) pe_int) pa_nil))))), ?_⟩
    refine ⟨_, rfl, _, _, rfl, rfl, .inl ⟨by decide, by decide⟩, _, rfl, _, _, rfl, rfl, .inl ⟨by decide, by decide⟩, _, _, rfl, rfl, _, _, rfl, rfl, szl rfl, ?_⟩
    exact q
/-! ### the law's own counting -/
def CountedAt (H : Hp) (p : Addr) (n : Nat) : Prop := ∃ ts : List Addr, H p = some (.lst (ts.map V.ref)) ∧ ts.length = n ∧ ∀ (j : Nat) (t : Addr), ts[j]? = some t → H t = some (.tup [.int ((j / 91 : Nat) : Int), .int ((j / 364 : Nat) : Int)])
theorem CountedAt.same {H H' : Hp} {p : Addr} {n : Nat} (h : CountedAt H p n) (s : Same H H') : CountedAt H' p n := by
  obtain ⟨ts, e, l, f⟩ := h
  exact ⟨ts, s _ _ e, l, fun j t g => s _ _ (f j t g)⟩
def spCounted : Sp := fun vs H Q _ => vs = [] ∧ ∀ p H', H p = none → Same H H' → CountedAt H' p 3640 → Q (.ref p) H'
theorem ok_counted (T : Top K mg) : FnOk P w K mg base CX0 1 T.a_l_counted T.fd_l_counted [] spCounted := by
  refine T.F_l_counted.ok sc_l_counted (fun vs H Q E h => ?_) (fun cdv A outer s H vs Q E hr h => ?_)
  · obtain ⟨rfl, _⟩ := h
    rfl
  · obtain ⟨rfl, q⟩ := h
    refine ⟨_, (pss_cons (ps_asg (pe_tup (pa_cons (pe_lst pa_nil) (pa_cons pe_int (pa_cons pe_int (pa_cons pe_int (pa_cons pe_int pa_nil)))))) (pg_tup rfl (pgs_cons (pg_name (i := 0) sc_l_counted.nd rfl (Or.inl rfl)) (pgs_cons (pg_name (i := 1) sc_l_counted.nd rfl (Or.inl rfl)) (pgs_cons (pg_name (i := 2) sc_l_counted.nd rfl (Or.inl rfl)) (pgs_cons (pg_name (i := 3) sc_l_counted.nd rfl (Or.inl rfl)) (pgs_cons (pg_name (i := 4) sc_l_counted.nd rfl (Or.inl rfl)) pgs_nil)))))))
  (pss_cons (ps_for PassesOwn.never rfl (pi_range1 (by rfl) T.z_range (pa_cons pe_int pa_nil)) (pg_name (i := 5) sc_l_counted.nd rfl (Or.inl rfl))
    (pss_cons (ps_if (pt_cmpR op_eq (pv 3) pe_int (nomark _))
      (pss_one (ps_par3 (i := 1) (j := 3) (l := 4) (by rfl) sc_l_counted.nd rfl rfl rfl (by decide) (by decide) (by decide) rfl rfl rfl (pa_cons (pe_op op_add (pv 1) pe_int) (pa_cons pe_int (pa_cons (pe_op op_sub (pv 4) pe_int) pa_nil))) (by rfl)))
      pss_nil)
    (pss_cons (ps_if (pt_cmpR op_eq (pv 4) pe_int (nomark _))
      (pss_one (ps_par (i := 2) (j := 4) (by rfl) sc_l_counted.nd rfl rfl (by decide) rfl rfl (pa_cons (pe_op op_add (pv 2) pe_int) (pa_cons pe_int pa_nil)) (by rfl)))
      pss_nil)
    (pss_cons (ps_expr (pe_bm PySem.F.plainAttrs_list PySem.F.slot_list_append PySem.F.type_list_append mt_append (pv 0) (pa_cons (pe_tup (pa_cons (pv 1) (pa_cons (pv 2) pa_nil))) pa_nil)))
    (pss_one (ps_set (i := 3) sc_l_counted.nd rfl (Or.inl rfl) (pe_op op_sub (pv 3) pe_int)))))))
  (pss_one (ps_ret (pv 0))))), ?_⟩
    refine ⟨szl rfl, fun p np => ⟨szl rfl, fun t nt => ?_⟩⟩
    have s1 : Same H (upd H p (.lst [])) := same_new np
    have npt : p ≠ t := ne_of_none upd_same nt
    refine ⟨t, _, rfl, sqT upd_same, rfl, _, _, rfl, _, _, rfl, _, _, rfl, _, _, rfl, _, _, rfl, rfl, ?_⟩
    refine ⟨_, rfl, by decide, by decide, for_range (lo := 0) (n := 3640) (fun i σ H2 => ∃ (a b c d : Int) (y5 : Option V) (ts : List Addr), σ = [some (.ref p), some (.int a), some (.int b), some (.int c), some (.int d), y5] ∧ Same H H2 ∧
        H2 p = some (.lst (ts.map V.ref)) ∧ ts.length = i ∧ (∀ (j : Nat) (t : Addr), ts[j]? = some t → H2 t = some (.tup [.int ((j / 91 : Nat) : Int), .int ((j / 364 : Nat) : Int)])) ∧
        91 * a + 91 - c = i ∧ 0 ≤ c ∧ c ≤ 91 ∧ 4 * b + 4 - d = a ∧ 1 ≤ d ∧ d ≤ 4 ∧ 0 ≤ a ∧ 0 ≤ b)
      ⟨0, 0, 91, 4, none, [], rfl, s1.trans (same_new nt), by rw [upd_ne npt]; exact upd_same, rfl, by intro j t z; simp at z, by decide, by decide, by decide, by decide, by decide, by decide, by decide, by decide⟩ ?_ ?_⟩
    · rintro i σ H2 hi ⟨a, b, c, d, y5, ts, rfl, s2, ep, hl, ht, h1, h2, h3, h4, h5, h6, h7, h8⟩
      have app : ∀ (a b c d : Int) (σ5 : V) , 91 * a + 91 - c = i → 1 ≤ c → c ≤ 91 → 4 * b + 4 - d = a → 1 ≤ d → d ≤ 4 → 0 ≤ a → 0 ≤ b →
          ∀ t2, H2 t2 = none → ∃ ts2 : List Addr, ts2.map V.ref = ts.map V.ref ++ [V.ref t2] ∧ ts2.length = i + 1 ∧ (∀ (j : Nat) (t : Addr), ts2[j]? = some t → (upd (upd H2 t2 (.tup [.int a, .int b])) p (.lst (ts.map V.ref ++ [V.ref t2]))) t = some (.tup [.int ((j / 91 : Nat) : Int), .int ((j / 364 : Nat) : Int)])) := by
        intro a b c d _ g1 g2 g3 g4 g5 g6 g7 g8 t2 nt2
        have ntp : t2 ≠ p := (ne_of_none ep nt2).symm
        refine ⟨ts ++ [t2], by simp, by simp [hl], fun j t g => ?_⟩
        by_cases hj : j < ts.length
        · rw [List.getElem?_append_left hj] at g
          have e := ht j t g
          rw [upd_ne (by intro z; rw [z, ep] at e; cases e), upd_ne (ne_of_none e nt2)]
          exact e
        · rw [List.getElem?_append_right (by omega)] at g
          have hj2 : j - ts.length = 0 := by
            have := (List.getElem?_eq_some_iff.mp g).1
            simp at this
            omega
          rw [hj2] at g
          simp at g
          subst g
          rw [upd_ne ntp, upd_same]
          have e1 : a = ((j / 91 : Nat) : Int) := by omega
          have e2 : b = ((j / 364 : Nat) : Int) := by omega
          rw [e1, e2]
      refine ⟨_, rfl, rfl, _, rfl, iteD (fun e => ?_) (fun e => ?_)⟩
      · have ec : c = 0 := V.int.inj e
        subst ec
        refine ⟨_, rfl, _, _, rfl, rfl, _, rfl, _, _, rfl, rfl, _, _, _, rfl, ?_⟩
        refine ⟨_, rfl, rfl, _, rfl, iteD (fun e2 => ?_) (fun e2 => ?_)⟩
        · have ed : d - 1 = 0 := V.int.inj e2
          refine ⟨_, rfl, _, _, rfl, rfl, _, _, rfl, ?_⟩
          refine ⟨_, rfl, .inl ⟨rfl, _, sqL ep⟩, _, rfl, _, rfl, szl rfl, fun t2 nt2 => ?_⟩
          refine ⟨p, _, _, rfl, rfl, by rw [upd_ne (ne_of_none ep nt2)]; exact ep, by rw [List.length_map, hl]; exact Nat.lt_of_lt_of_le hi (by decide), ?_⟩
          obtain ⟨ts2, r1, r2, r3⟩ := app (a + 1) (b + 1) 91 4 .non (by omega) (by omega) (by omega) (by omega) (by omega) (by omega) (by omega) (by omega) t2 nt2
          refine ⟨_, rfl, _, _, rfl, rfl, ?_⟩
          exact ⟨_, _, _, _, _, ts2, rfl, same_mut (s2.trans (same_new nt2)) np, by rw [upd_same, r1], r2, r3, by omega, by omega, by omega, by omega, by omega, by omega, by omega, by omega⟩
        · have ed : ¬ d - 1 = 0 := fun z => e2 (by show V.int (d - 1) = V.int 0; rw [z])
          refine ⟨_, rfl, .inl ⟨rfl, _, sqL ep⟩, _, rfl, _, rfl, szl rfl, fun t2 nt2 => ?_⟩
          refine ⟨p, _, _, rfl, rfl, by rw [upd_ne (ne_of_none ep nt2)]; exact ep, by rw [List.length_map, hl]; exact Nat.lt_of_lt_of_le hi (by decide), ?_⟩
          obtain ⟨ts2, r1, r2, r3⟩ := app (a + 1) b 91 (d - 1) .non (by omega) (by omega) (by omega) (by omega) (by omega) (by omega) (by omega) (by omega) t2 nt2
          refine ⟨_, rfl, _, _, rfl, rfl, ?_⟩
          exact ⟨_, _, _, _, _, ts2, rfl, same_mut (s2.trans (same_new nt2)) np, by rw [upd_same, r1], r2, r3, by omega, by omega, by omega, by omega, by omega, by omega, by omega, by omega⟩
      · have ec : ¬ c = 0 := fun z => e (by rw [z])
        refine ⟨_, rfl, rfl, _, rfl, iteD (fun e2 => ?_) (fun e2 => ?_)⟩
        · have ed : d = 0 := V.int.inj e2
          omega
        · refine ⟨_, rfl, .inl ⟨rfl, _, sqL ep⟩, _, rfl, _, rfl, szl rfl, fun t2 nt2 => ?_⟩
          refine ⟨p, _, _, rfl, rfl, by rw [upd_ne (ne_of_none ep nt2)]; exact ep, by rw [List.length_map, hl]; exact Nat.lt_of_lt_of_le hi (by decide), ?_⟩
          obtain ⟨ts2, r1, r2, r3⟩ := app a b c d .non (by omega) (by omega) (by omega) (by omega) (by omega) (by omega) (by omega) (by omega) t2 nt2
          refine ⟨_, rfl, _, _, rfl, rfl, ?_⟩
          exact ⟨_, _, _, _, _, ts2, rfl, same_mut (s2.trans (same_new nt2)) np, by rw [upd_same, r1], r2, r3, by omega, by omega, by omega, by omega, by omega, by omega, by omega, by omega⟩
    · rintro σ H2 ⟨a, b, c, d, y5, ts, rfl, s2, ep, hl, ht, _⟩
      exact ⟨_, rfl, q p H2 np s2 ⟨ts, ep, hl, ht⟩⟩
end

def spLaw (K : PySem.W.Frag) : Sp := fun vs H Q _ => ∃ (a : Addr) (ns : List Int), vs = [.ref a] ∧ SqL K H a (ns.map V.int) ∧ ns.length ≤ 63 ∧ ∀ H', Q (.bl true) H'
section
variable {P : Program} {w : World} {K : PySem.W.Frag} {mg : Str → Option Value} {base : Heap}
theorem sm2i {n : Nat} (x y : Int) : Sm (n + 1) (.tuple [.int x, .int y]) := ⟨by show 2 ≤ 100000; decide, fun d hd => by
  simp at hd
  rcases hd with rfl | rfl <;> cases n <;> trivial⟩
theorem sm2l {n : Nat} (x y : Int) : Sm (n + 1) (.list [.int x, .int y]) := ⟨by show 2 ≤ 100000; decide, fun d hd => by
  simp at hd
  rcases hd with rfl | rfl <;> cases n <;> trivial⟩
theorem ok_law (T : Top K mg) : FnOk P w K mg base CX0 lawLevel T.a_law T.fd_law ["_law_script"] (spLaw K) := by
  have G_year_of := ok_year (P := P) (w := w) (base := base) T
  have G_quarter_of := ok_quarter (P := P) (w := w) (base := base) T
  have G_quarter_span := ok_span (P := P) (w := w) (base := base) T
  have G_l_dip := ok_dip (P := P) (w := w) (base := base) T
  have G_l_take := ok_take (P := P) (w := w) (base := base) T
  have G_l_folded := ok_folded (P := P) (w := w) (base := base) T
  have G_l_counted := ok_counted (P := P) (w := w) (base := base) T
  have G_l_same := ok_same (P := P) (w := w) (base := base) T 1
  refine T.F_law.ok sc_law (fun vs H Q E h => ?_) (fun cdv A outer s H vs Q E hr h => ?_)
  · obtain ⟨a, ns, rfl, _⟩ := h
    rfl
  · obtain ⟨a, ns, rfl, hS, hl, q⟩ := h
    refine ⟨_, (pss_cons (ps_par (i := 1) (j := 2) (by rfl) sc_law.nd rfl rfl (by decide) rfl rfl (pa_cons (pe_call0 G_l_counted (hr.mono (by first | decide | omega)) (by rfl) T.g_l_counted T.F_l_counted.kp T.b_l_counted .nil pass0) (pa_cons (pe_call G_l_folded (hr.mono (by first | decide | omega)) (by rfl) T.g_l_folded T.F_l_folded.kp T.b_l_folded .nil pass0 (pa_cons (pv 0) (pa_cons pe_int pa_nil))) pa_nil)) (by rfl))
  (pss_cons (ps_set (i := 3) sc_law.nd rfl (Or.inl rfl) (pe_un un_neg pe_int))
  (pss_cons (ps_for PassesOwn.never rfl (pi_range1 (by rfl) T.z_range (pa_cons pe_int pa_nil)) (pg_name (i := 4) sc_law.nd rfl (Or.inl rfl))
    (pss_cons (ps_asg (pe_call G_quarter_span (hr.mono (by first | decide | omega)) (by rfl) T.g_quarter_span T.F_quarter_span.kp T.b_quarter_span .nil pass0 (pa_cons (pv 4) pa_nil)) (pg_tup rfl (pgs_cons (pg_name (i := 5) sc_law.nd rfl (Or.inl rfl)) (pgs_cons (pg_name (i := 6) sc_law.nd rfl (Or.inl rfl)) pgs_nil))))
    (pss_cons (ps_if (PW.pt (pw_or (pt_not (pt_val (pe_call G_l_same (hr.mono (by first | decide | omega)) (by rfl) T.g_l_same T.F_l_same.kp T.b_l_same .nil pass0 (pa_cons (pe_callKB0 G_quarter_span (hr.mono (by first | decide | omega)) (by rfl) T.g_quarter_span T.F_quarter_span.kp T.kb_quarter_span_0_quarter pass0 (pk_cons (pv 4) pk_nil)) (pa_cons (pe_tup (pa_cons (pe_op op_add (pv 3) pe_int) (pa_cons (pe_op op_add (pv 3) pe_int) pa_nil))) pa_nil))))) (pw_or1 (pt_cmpR op_ne (pv 5) (pe_op op_add (pv 3) pe_int) (nomark _)))))
      (pss_one (ps_ret pe_bl))
      pss_nil)
    (pss_cons (ps_set (i := 3) sc_law.nd rfl (Or.inl rfl) (pv 6))
    (pss_one (ps_for PassesOwn.never rfl (pi_tup (pe_tup (pa_cons (pv 5) (pa_cons (pe_op op_add (pv 5) pe_int) (pa_cons (pe_op op_sub (pv 6) pe_int) (pa_cons (pv 6) pa_nil)))))) (pg_name (i := 7) sc_law.nd rfl (Or.inl rfl))
      (pss_one (ps_if (PW.pt (pw_or (pt_not (pt_val (pe_call G_l_same (hr.mono (by first | decide | omega)) (by rfl) T.g_l_same T.F_l_same.kp T.b_l_same .nil pass0 (pa_cons (pe_lst (pa_cons (pe_call G_quarter_of (hr.mono (by first | decide | omega)) (by rfl) T.g_quarter_of T.F_quarter_of.kp T.b_quarter_of .nil pass0 (pa_cons (pv 7) pa_nil)) (pa_cons (pe_call G_year_of (hr.mono (by first | decide | omega)) (by rfl) T.g_year_of T.F_year_of.kp T.b_year_of .nil pass0 (pa_cons (pv 7) pa_nil)) pa_nil))) (pa_cons (pe_callTy call_list_of (by rfl) T.z_list (by decide +kernel) (pa_cons (pe_ix ix_list (pv 1) (pv 7) (fun _ _ => rfl)) pa_nil)) pa_nil))))) (pw_or1 (pt_cmpR op_ne (pe_ix ix_tup (pe_ix ix_list (pv 1) (pv 7) (fun _ _ => rfl)) pe_int (fun _ _ => rfl)) (pv 4) (nomark _)))))
        (pss_one (ps_ret pe_bl))
        pss_nil))))))))
  (pss_cons (ps_if (pt_cmpR op_ne (pv 3) pe_int (nomark _))
    (pss_one (ps_ret pe_bl))
    pss_nil)
  (pss_cons (ps_for PassesOwn.never rfl (pi_range1 (by rfl) T.z_range (pa_cons (pe_op op_add pe_int (pe_callB call_len (by rfl) T.z_len (by decide +kernel) (pa_cons (pv 2) pa_nil))) pa_nil)) (pg_name (i := 8) sc_law.nd rfl (Or.inl rfl))
    (pss_cons (ps_set (i := 9) sc_law.nd rfl (Or.inl rfl) (pe_call G_l_dip (hr.mono (by first | decide | omega)) (by rfl) T.g_l_dip T.F_l_dip.kp T.b_l_dip .nil pass0 (pa_cons (pv 2) (pa_cons (pv 8) pa_nil))))
    (pss_cons (ps_set (i := 7) sc_law.nd rfl (Or.inl rfl) (pe_call G_l_take (hr.mono (by first | decide | omega)) (by rfl) T.g_l_take T.F_l_take.kp T.b_l_take .nil pass0 (pa_cons (pv 9) (pa_cons pe_int pa_nil))))
    (pss_one (ps_while PassesOwn.never (pt_cmpR op_lt (pv 7) pe_int (nomark _))
      (pss_cons (ps_if (pt_not (pt_val (pe_call G_l_same (hr.mono (by first | decide | omega)) (by rfl) T.g_l_same T.F_l_same.kp T.b_l_same .nil pass0 (pa_cons (pe_lst (pa_cons (pe_callKB0 G_quarter_of (hr.mono (by first | decide | omega)) (by rfl) T.g_quarter_of T.F_quarter_of.kp T.kb_quarter_of_0_day pass0 (pk_cons (pv 7) pk_nil)) (pa_cons (pe_callKB0 G_year_of (hr.mono (by first | decide | omega)) (by rfl) T.g_year_of T.F_year_of.kp T.kb_year_of_0_day pass0 (pk_cons (pv 7) pk_nil)) pa_nil))) (pa_cons (pe_callTy call_list_of (by rfl) T.z_list (by decide +kernel) (pa_cons (pe_ix ix_list (pv 1) (pv 7) (fun _ _ => rfl)) pa_nil)) pa_nil)))))
        (pss_one (ps_ret pe_bl))
        pss_nil)
      (pss_one (ps_set (i := 7) sc_law.nd rfl (Or.inl rfl) (pe_op op_add (pe_op op_add (pv 7) pe_int) (pe_call G_l_take (hr.mono (by first | decide | omega)) (by rfl) T.g_l_take T.F_l_take.kp T.b_l_take .nil pass0 (pa_cons (pv 9) (pa_cons pe_int pa_nil))))))))))))
  (pss_one (ps_ret pe_bl))))))), ?_⟩
    refine ⟨rfl, fun p H1 np s1 C1 => ⟨_, rfl, a, ns, 4, rfl, s1.seq hS, hl, by decide, by decide, fun c ms H2 nc ec lm s2 => ⟨_, _, rfl, ?_⟩⟩⟩
    have C2 := C1.same s2
    obtain ⟨ts, ep, tl, tf⟩ := C2
    have lm4 : ms.length ≤ 4 := by omega
    -- one day, by the program and by the counting
    have both : ∀ (H3 : Hp) (d : Nat) (Q : VK), d < 3640 → Same H2 H3 → ∃ t, (ts.map V.ref)[d]? = some (.ref t) ∧ H3 t = some (.tup [.int ((d / 91 : Nat) : Int), .int ((d / 364 : Nat) : Int)]) := by
      intro H3 d _ hd s3
      have h : d < ts.length := by omega
      exact ⟨ts[d], by simp [h], s3 _ _ (tf d _ (List.getElem?_eq_getElem h))⟩
    refine ⟨_, rfl, ?_⟩
    refine ⟨_, rfl, by decide, by decide, for_range (lo := 0) (n := 40) (fun i σ H3 => ∃ y4 y5 y6 y7 : Option V, σ = [some (.ref a), some (.ref p), some (.ref c), some (.int (91 * (i : Int) - 1)), y4, y5, y6, y7, none, none] ∧ Same H2 H3)
      ⟨none, none, none, none, rfl, Same.refl _⟩ ?_ ?_⟩
    · rintro i σ H3 hi ⟨y4, y5, y6, y7, rfl, s3⟩
      refine ⟨_, rfl, _, rfl, fun p1 np1 => ?_⟩
      refine ⟨p1, _, rfl, sqT upd_same, rfl, _, _, rfl, _, _, rfl, rfl, ?_⟩
      refine ⟨_, rfl, rfl, rfl, _, rfl, fun p2 np2 => ?_⟩
      refine ⟨_, rfl, _, _, rfl, rfl, _, rfl, _, _, rfl, rfl, szl rfl, fun t nt => ?_⟩
      refine ⟨_, _, .tuple [.int (91 * (0 + (i : Int))), .int (91 * (0 + (i : Int)) + 91 - 1)], rfl, .tup (sqT (by rw [upd_ne (ne_of_none upd_same nt)]; exact upd_same)) (.cons (dpi rfl) (.cons (dpi rfl) .nil)),
        .tup (sqT upd_same) (.cons (dpi (by show 91 * (i : Int) - 1 + 1 = _; omega)) (.cons (dpi (by show 91 * (i : Int) - 1 + 91 = _; omega)) .nil)), sm2i _ _, fun H4 s5 => ?_⟩
      have s6 := (((s3.trans (same_new np1)).trans (same_new np2)).trans (same_new nt)).trans s5
      refine ⟨_, rfl, iteF ?_⟩
      refine ⟨_, rfl, _, rfl, _, _, rfl, rfl, rfl, _, rfl, iteFe (by simp <;> omega) ?_⟩
      refine ⟨_, rfl, ?_⟩
      refine ⟨_, rfl, _, rfl, _, _, rfl, rfl, _, rfl, _, _, rfl, rfl, _, rfl, szl rfl, fun t2 nt2 => ?_⟩
      refine ⟨t2, rfl, ⟨_, sqT upd_same⟩, ?_⟩
      have s7 := s6.trans (same_new (o := .tup [.int (91 * (0 + (i : Int))), .int (91 * (0 + (i : Int)) + 1), .int (91 * (0 + (i : Int)) + 91 - 1 - 1), .int (91 * (0 + (i : Int)) + 91 - 1)]) nt2)
      refine for_tup (K := K) (a := t2) (xs := [.int (91 * (0 + (i : Int))), .int (91 * (0 + (i : Int)) + 1), .int (91 * (0 + (i : Int)) + 91 - 1 - 1), .int (91 * (0 + (i : Int)) + 91 - 1)])
        (fun j σ H5 => ∃ y7 : Option V, σ = [some (.ref a), some (.ref p), some (.ref c), some (.int (91 * (0 + (i : Int)) + 91 - 1)), some (.int (0 + (i : Int))), some (.int (91 * (0 + (i : Int)))), some (.int (91 * (0 + (i : Int)) + 91 - 1)), y7, none, none] ∧
          Same (upd H4 t2 (.tup [.int (91 * (0 + (i : Int))), .int (91 * (0 + (i : Int)) + 1), .int (91 * (0 + (i : Int)) + 91 - 1 - 1), .int (91 * (0 + (i : Int)) + 91 - 1)])) H5)
        ⟨y7, rfl, Same.refl _⟩ (fun j σ H5 _ ⟨_, _, h⟩ => sqT (h _ _ upd_same)) ?_ ?_
      · rintro j x σ H5 hj ⟨y7, rfl, s8⟩
        obtain ⟨d, rfl, d1, d2⟩ : ∃ d : Nat, x = .int (d : Int) ∧ 91 * i ≤ d ∧ d < 91 * i + 91 := by
          match j, hj with
          | 0, hj => exact ⟨91 * i, (by have := Option.some.inj hj; rw [← this]; congr 1; omega), by omega, by omega⟩
          | 1, hj => exact ⟨91 * i + 1, (by have := Option.some.inj hj; rw [← this]; congr 1; omega), by omega, by omega⟩
          | 2, hj => exact ⟨91 * i + 89, (by have := Option.some.inj hj; rw [← this]; congr 1; omega), by omega, by omega⟩
          | 3, hj => exact ⟨91 * i + 90, (by have := Option.some.inj hj; rw [← this]; congr 1; omega), by omega, by omega⟩
          | j + 4, hj => simp at hj
        have s9 := s7.trans s8
        obtain ⟨t3, g3, f3⟩ := both H5 d (fun _ _ => True) (by omega) s9
        refine ⟨_, rfl, _, rfl, _, rfl, _, rfl, szl rfl, fun l1 nl1 => ?_⟩
        have sa := s9.trans (same_new (o := .lst [.int ((d : Int) / 91), .int ((d : Int) / 364)]) nl1)
        refine ⟨_, rfl, _, rfl, p, _, _, _, rfl, rfl, sqL (sa _ _ ep), atI_nat g3, t3, _, rfl, .inr (sqT (same_new nl1 _ _ f3)), fun l2 nl2 => ?_⟩
        refine ⟨_, _, .list [.int ((d / 91 : Nat) : Int), .int ((d / 364 : Nat) : Int)], rfl, .lst (sqL (by rw [upd_ne (ne_of_none upd_same nl2)]; exact upd_same)) (.cons (dpi (by show (d : Int) / 91 = _; omega)) (.cons (dpi (by show (d : Int) / 364 = _; omega)) .nil)),
          .lst (sqL upd_same) (.cons (dpi rfl) (.cons (dpi rfl) .nil)), sm2l _ _, fun H6 sb => ?_⟩
        have sc := (sa.trans (same_new nl2)).trans sb
        refine ⟨_, rfl, iteF ?_⟩
        obtain ⟨t4, g4, f4⟩ := both H6 d (fun _ _ => True) (by omega) sc
        refine ⟨_, rfl, _, rfl, p, _, _, _, rfl, rfl, sqL (sc _ _ ep), atI_nat g4, t4, _, 0, _, rfl, rfl, sqT f4, rfl, _, rfl, rfl, _, rfl, iteFe (by simp <;> omega) ?_⟩
        exact ⟨_, rfl, ((s8.trans (same_new nl1)).trans (same_new nl2)).trans sb⟩
      · rintro σ H5 ⟨y7, rfl, s8⟩
        have e : (91 * (0 + (i : Int)) + 91 - 1) = 91 * ((i + 1 : Nat) : Int) - 1 := by omega
        exact ⟨_, _, _, _, by rw [e], s7.trans s8⟩
    · rintro σ H3 ⟨y4, y5, y6, y7, rfl, s3⟩
      refine ⟨_, rfl, rfl, _, rfl, iteFe (by decide) ?_⟩
      refine ⟨_, rfl, _, _, rfl, .inl ⟨_, sqL (s3 _ _ ec), rfl⟩, _, _, rfl, rfl, _, rfl, by rw [List.length_map]; omega, by rw [List.length_map]; omega, ?_⟩
      refine for_range (lo := 0) (n := _) (fun i σ H4 => ∃ y7 y8 y9 : Option V, σ = [some (.ref a), some (.ref p), some (.ref c), some (.int (91 * ((40 : Nat) : Int) - 1)), y4, y5, y6, y7, y8, y9] ∧ Same H2 H4) ⟨_, _, _, rfl, s3⟩ ?_ ?_
      · rintro i σ H4 hi ⟨y7, y8, y9, rfl, s4⟩
        rw [List.length_map] at hi
        refine ⟨_, rfl, _, rfl, c, ms, i, by rw [Int.zero_add]; rfl, sqL (s4 _ _ ec), by omega, by omega, fun b H5 nb B5 f5 => ?_⟩
        have s5 := same_but s4 (s4.free nb) f5
        have nb2 : H2 b = none := s4.free nb
        refine ⟨_, rfl, b, 3640, 0, rfl, B5, by decide, by decide, by decide, fun r H6 r0 r1 B6 f6 => ?_⟩
        have s6 := same_but s5 nb2 f6
        refine while_by (fun σ H7 => ∃ d : Int, σ = [some (.ref a), some (.ref p), some (.ref c), some (.int (91 * ((40 : Nat) : Int) - 1)), y4, y5, y6, some (.int d), some (.int (0 + (i : Int))), some (.ref b)] ∧ 0 ≤ d ∧ d ≤ 10000 ∧ Same H2 H7 ∧ BoxAt H7 b (d.toNat + 1))
          (fun (σ : L2.St) _ => match σ[7]? with | some (some (V.int d)) => (10000 - d).toNat | _ => 0) ⟨r, rfl, r0, by omega, s6, B6.mono (by omega)⟩ ?_ ?_
        · rintro σ H7 ⟨d, rfl, d0, dm, s7, B7⟩
          obtain ⟨d, rfl⟩ : ∃ dn : Nat, d = (dn : Int) := ⟨d.toNat, by omega⟩
          refine ⟨_, rfl, _, _, rfl, rfl, _, rfl, iteD (fun hd => ?_) (fun hd => ⟨_, _, _, rfl, s7⟩)⟩
          obtain ⟨t3, g3, f3⟩ := both H7 d (fun _ _ => True) (by omega) s7
          refine ⟨_, rfl, rfl, rfl, _, rfl, _, rfl, rfl, rfl, _, rfl, szl rfl, fun l1 nl1 => ?_⟩
          have sa := s7.trans (same_new (o := .lst [.int ((d : Int) / 91), .int ((d : Int) / 364)]) nl1)
          refine ⟨_, rfl, _, rfl, p, _, _, _, rfl, rfl, sqL (sa _ _ ep), atI_nat g3, t3, _, rfl, .inr (sqT (same_new nl1 _ _ f3)), fun l2 nl2 => ?_⟩
          refine ⟨_, _, .list [.int ((d / 91 : Nat) : Int), .int ((d / 364 : Nat) : Int)], rfl, .lst (sqL (by rw [upd_ne (ne_of_none upd_same nl2)]; exact upd_same)) (.cons (dpi (by show (d : Int) / 91 = _; omega)) (.cons (dpi (by show (d : Int) / 364 = _; omega)) .nil)),
            .lst (sqL upd_same) (.cons (dpi rfl) (.cons (dpi rfl) .nil)), sm2l _ _, fun H8 sb => ?_⟩
          have sc := (sa.trans (same_new nl2)).trans sb
          have sbox := ((same_new nl1).trans (same_new nl2)).trans sb
          refine ⟨_, rfl, iteF ?_⟩
          refine ⟨_, rfl, _, _, rfl, rfl, _, rfl, b, 60, d + 1, rfl, (B7.same sbox).mono (by omega), by decide, by decide, by omega, fun r2 H9 r20 r21 B9 f9 => ?_⟩
          refine ⟨_, _, rfl, rfl, ?_⟩
          refine ⟨⟨_, rfl, by omega, by omega, same_but sc nb2 f9, B9.mono (by omega)⟩, ?_⟩
          show (10000 - ((d : Int) + 1 + r2)).toNat < (10000 - (d : Int)).toNat
          omega
        · intro σ H Q Q' m h
          obtain ⟨v, hv, i, j, e1, e2, k, ek, q⟩ := h
          exact ⟨v, hv, i, j, e1, e2, k, ek, m _ _ q⟩
      · rintro σ H4 ⟨y7, y8, y9, rfl, s4⟩
        exact q _
end

def top_mk {K : PySem.W.Frag} {h : Heap} {mg : Str → Option Value} (X : K.In h) (G : h.Ns mainGlobals mg)
    {f_year_of : Addr} {oc_year_of : Value} {od_year_of an_year_of : Option Addr} {sl_year_of : Array (Option Value)} {kV_year_of dc_year_of pm_year_of cd_year_of ct_year_of : Value}
    {f_quarter_of : Addr} {oc_quarter_of : Value} {od_quarter_of an_quarter_of : Option Addr} {sl_quarter_of : Array (Option Value)} {kV_quarter_of dc_quarter_of pm_quarter_of cd_quarter_of ct_quarter_of : Value}
    {f_quarter_span : Addr} {oc_quarter_span : Value} {od_quarter_span an_quarter_span : Option Addr} {sl_quarter_span : Array (Option Value)} {kV_quarter_span dc_quarter_span pm_quarter_span cd_quarter_span ct_quarter_span : Value}
    {f_l_dip : Addr} {oc_l_dip : Value} {od_l_dip an_l_dip : Option Addr} {sl_l_dip : Array (Option Value)} {kV_l_dip dc_l_dip pm_l_dip cd_l_dip ct_l_dip : Value}
    {f_l_take : Addr} {oc_l_take : Value} {od_l_take an_l_take : Option Addr} {sl_l_take : Array (Option Value)} {kV_l_take dc_l_take pm_l_take cd_l_take ct_l_take : Value}
    {f_l_folded : Addr} {oc_l_folded : Value} {od_l_folded an_l_folded : Option Addr} {sl_l_folded : Array (Option Value)} {kV_l_folded dc_l_folded pm_l_folded cd_l_folded ct_l_folded : Value}
    {f_l_same : Addr} {oc_l_same : Value} {od_l_same an_l_same : Option Addr} {sl_l_same : Array (Option Value)} {kV_l_same dc_l_same pm_l_same cd_l_same ct_l_same : Value}
    {f_l_counted : Addr} {oc_l_counted : Value} {od_l_counted an_l_counted : Option Addr} {sl_l_counted : Array (Option Value)} {kV_l_counted dc_l_counted pm_l_counted cd_l_counted ct_l_counted : Value}
    {f_law : Addr} {oc_law : Value} {od_law an_law : Option Addr} {sl_law : Array (Option Value)} {kV_law dc_law pm_law cd_law ct_law : Value}
    {t_QUARTER_DAYS : Tok}
    {t_YEAR_DAYS : Tok}
    (a_year_of : PySem.W.nsIn K mainGlobals "year_of" = some (some (.ref f_year_of)))
    (l_year_of : K.lookup f_year_of = some ⟨oc_year_of, od_year_of, .func (PySem.W.fnOf "year_of" "year_of" (defArgs s_year_of) (defBody s_year_of) (defScope s_year_of) .none kV_year_of dc_year_of pm_year_of an_year_of cd_year_of ct_year_of), sl_year_of⟩)
    (c_year_of : PySem.W.codeIn K cd_year_of "year_of" = true)
    (k_year_of : PySem.W.keepIn K (.ref f_year_of) = true)
    (a_quarter_of : PySem.W.nsIn K mainGlobals "quarter_of" = some (some (.ref f_quarter_of)))
    (l_quarter_of : K.lookup f_quarter_of = some ⟨oc_quarter_of, od_quarter_of, .func (PySem.W.fnOf "quarter_of" "quarter_of" (defArgs s_quarter_of) (defBody s_quarter_of) (defScope s_quarter_of) .none kV_quarter_of dc_quarter_of pm_quarter_of an_quarter_of cd_quarter_of ct_quarter_of), sl_quarter_of⟩)
    (c_quarter_of : PySem.W.codeIn K cd_quarter_of "quarter_of" = true)
    (k_quarter_of : PySem.W.keepIn K (.ref f_quarter_of) = true)
    (a_quarter_span : PySem.W.nsIn K mainGlobals "quarter_span" = some (some (.ref f_quarter_span)))
    (l_quarter_span : K.lookup f_quarter_span = some ⟨oc_quarter_span, od_quarter_span, .func (PySem.W.fnOf "quarter_span" "quarter_span" (defArgs s_quarter_span) (defBody s_quarter_span) (defScope s_quarter_span) .none kV_quarter_span dc_quarter_span pm_quarter_span an_quarter_span cd_quarter_span ct_quarter_span), sl_quarter_span⟩)
    (c_quarter_span : PySem.W.codeIn K cd_quarter_span "quarter_span" = true)
    (k_quarter_span : PySem.W.keepIn K (.ref f_quarter_span) = true)
    (a_l_dip : PySem.W.nsIn K mainGlobals "_law_dip" = some (some (.ref f_l_dip)))
    (l_l_dip : K.lookup f_l_dip = some ⟨oc_l_dip, od_l_dip, .func (PySem.W.fnOf "_law_dip" "_law_dip" (defArgs s_l_dip) (defBody s_l_dip) (defScope s_l_dip) .none kV_l_dip dc_l_dip pm_l_dip an_l_dip cd_l_dip ct_l_dip), sl_l_dip⟩)
    (c_l_dip : PySem.W.codeIn K cd_l_dip "_law_dip" = true)
    (k_l_dip : PySem.W.keepIn K (.ref f_l_dip) = true)
    (a_l_take : PySem.W.nsIn K mainGlobals "_law_take" = some (some (.ref f_l_take)))
    (l_l_take : K.lookup f_l_take = some ⟨oc_l_take, od_l_take, .func (PySem.W.fnOf "_law_take" "_law_take" (defArgs s_l_take) (defBody s_l_take) (defScope s_l_take) .none kV_l_take dc_l_take pm_l_take an_l_take cd_l_take ct_l_take), sl_l_take⟩)
    (c_l_take : PySem.W.codeIn K cd_l_take "_law_take" = true)
    (k_l_take : PySem.W.keepIn K (.ref f_l_take) = true)
    (a_l_folded : PySem.W.nsIn K mainGlobals "_law_folded" = some (some (.ref f_l_folded)))
    (l_l_folded : K.lookup f_l_folded = some ⟨oc_l_folded, od_l_folded, .func (PySem.W.fnOf "_law_folded" "_law_folded" (defArgs s_l_folded) (defBody s_l_folded) (defScope s_l_folded) .none kV_l_folded dc_l_folded pm_l_folded an_l_folded cd_l_folded ct_l_folded), sl_l_folded⟩)
    (c_l_folded : PySem.W.codeIn K cd_l_folded "_law_folded" = true)
    (k_l_folded : PySem.W.keepIn K (.ref f_l_folded) = true)
    (a_l_same : PySem.W.nsIn K mainGlobals "_law_same" = some (some (.ref f_l_same)))
    (l_l_same : K.lookup f_l_same = some ⟨oc_l_same, od_l_same, .func (PySem.W.fnOf "_law_same" "_law_same" (defArgs s_l_same) (defBody s_l_same) (defScope s_l_same) .none kV_l_same dc_l_same pm_l_same an_l_same cd_l_same ct_l_same), sl_l_same⟩)
    (c_l_same : PySem.W.codeIn K cd_l_same "_law_same" = true)
    (k_l_same : PySem.W.keepIn K (.ref f_l_same) = true)
    (a_l_counted : PySem.W.nsIn K mainGlobals "_law_counted" = some (some (.ref f_l_counted)))
    (l_l_counted : K.lookup f_l_counted = some ⟨oc_l_counted, od_l_counted, .func (PySem.W.fnOf "_law_counted" "_law_counted" (defArgs s_l_counted) (defBody s_l_counted) (defScope s_l_counted) .none kV_l_counted dc_l_counted pm_l_counted an_l_counted cd_l_counted ct_l_counted), sl_l_counted⟩)
    (c_l_counted : PySem.W.codeIn K cd_l_counted "_law_counted" = true)
    (k_l_counted : PySem.W.keepIn K (.ref f_l_counted) = true)
    (a_law : PySem.W.nsIn K mainGlobals "law" = some (some (.ref f_law)))
    (l_law : K.lookup f_law = some ⟨oc_law, od_law, .func (PySem.W.fnOf "law" "law" (defArgs s_law) (defBody s_law) (defScope s_law) .none kV_law dc_law pm_law an_law cd_law ct_law), sl_law⟩)
    (c_law : PySem.W.codeIn K cd_law "law" = true)
    (k_law : PySem.W.keepIn K (.ref f_law) = true)
    (v_QUARTER_DAYS : PySem.W.nsIn K mainGlobals "QUARTER_DAYS" = some (some (.int 91 t_QUARTER_DAYS)))
    (v_YEAR_DAYS : PySem.W.nsIn K mainGlobals "YEAR_DAYS" = some (some (.int 364 t_YEAR_DAYS)))
    (z_abs : PySem.W.nsIn K mainGlobals "abs" = some none)
    (z_all : PySem.W.nsIn K mainGlobals "all" = some none)
    (z_bool : PySem.W.nsIn K mainGlobals "bool" = some none)
    (z_enumerate : PySem.W.nsIn K mainGlobals "enumerate" = some none)
    (z_int : PySem.W.nsIn K mainGlobals "int" = some none)
    (z_isinstance : PySem.W.nsIn K mainGlobals "isinstance" = some none)
    (z_len : PySem.W.nsIn K mainGlobals "len" = some none)
    (z_list : PySem.W.nsIn K mainGlobals "list" = some none)
    (z_range : PySem.W.nsIn K mainGlobals "range" = some none)
    (z_str : PySem.W.nsIn K mainGlobals "str" = some none)
    (z_tuple : PySem.W.nsIn K mainGlobals "tuple" = some none)
    (z_zip : PySem.W.nsIn K mainGlobals "zip" = some none) : Top K mg where
  a_year_of := f_year_of
  fd_year_of := PySem.W.fnOf "year_of" "year_of" (defArgs s_year_of) (defBody s_year_of) (defScope s_year_of) .none kV_year_of dc_year_of pm_year_of an_year_of cd_year_of ct_year_of
  F_year_of := fun_mk (st := s_year_of) l_year_of c_year_of k_year_of
  g_year_of := PySem.W.mg_of X G a_year_of
  b_year_of := (fun_mk (st := s_year_of) l_year_of c_year_of k_year_of).binds (ps := ["day"]) (fun _ _ _ _ _ _ us hl => match us, hl with | [_], _ => rfl)
  a_quarter_of := f_quarter_of
  fd_quarter_of := PySem.W.fnOf "quarter_of" "quarter_of" (defArgs s_quarter_of) (defBody s_quarter_of) (defScope s_quarter_of) .none kV_quarter_of dc_quarter_of pm_quarter_of an_quarter_of cd_quarter_of ct_quarter_of
  F_quarter_of := fun_mk (st := s_quarter_of) l_quarter_of c_quarter_of k_quarter_of
  g_quarter_of := PySem.W.mg_of X G a_quarter_of
  b_quarter_of := (fun_mk (st := s_quarter_of) l_quarter_of c_quarter_of k_quarter_of).binds (ps := ["day"]) (fun _ _ _ _ _ _ us hl => match us, hl with | [_], _ => rfl)
  a_quarter_span := f_quarter_span
  fd_quarter_span := PySem.W.fnOf "quarter_span" "quarter_span" (defArgs s_quarter_span) (defBody s_quarter_span) (defScope s_quarter_span) .none kV_quarter_span dc_quarter_span pm_quarter_span an_quarter_span cd_quarter_span ct_quarter_span
  F_quarter_span := fun_mk (st := s_quarter_span) l_quarter_span c_quarter_span k_quarter_span
  g_quarter_span := PySem.W.mg_of X G a_quarter_span
  b_quarter_span := (fun_mk (st := s_quarter_span) l_quarter_span c_quarter_span k_quarter_span).binds (ps := ["quarter"]) (fun _ _ _ _ _ _ us hl => match us, hl with | [_], _ => rfl)
  a_l_dip := f_l_dip
  fd_l_dip := PySem.W.fnOf "_law_dip" "_law_dip" (defArgs s_l_dip) (defBody s_l_dip) (defScope s_l_dip) .none kV_l_dip dc_l_dip pm_l_dip an_l_dip cd_l_dip ct_l_dip
  F_l_dip := fun_mk (st := s_l_dip) l_l_dip c_l_dip k_l_dip
  g_l_dip := PySem.W.mg_of X G a_l_dip
  b_l_dip := (fun_mk (st := s_l_dip) l_l_dip c_l_dip k_l_dip).binds (ps := ["_law_script", "_law_k"]) (fun _ _ _ _ _ _ us hl => match us, hl with | [_, _], _ => rfl)
  a_l_take := f_l_take
  fd_l_take := PySem.W.fnOf "_law_take" "_law_take" (defArgs s_l_take) (defBody s_l_take) (defScope s_l_take) .none kV_l_take dc_l_take pm_l_take an_l_take cd_l_take ct_l_take
  F_l_take := fun_mk (st := s_l_take) l_l_take c_l_take k_l_take
  g_l_take := PySem.W.mg_of X G a_l_take
  b_l_take := (fun_mk (st := s_l_take) l_l_take c_l_take k_l_take).binds (ps := ["_law_box", "_law_many"]) (fun _ _ _ _ _ _ us hl => match us, hl with | [_, _], _ => rfl)
  a_l_folded := f_l_folded
  fd_l_folded := PySem.W.fnOf "_law_folded" "_law_folded" (defArgs s_l_folded) (defBody s_l_folded) (defScope s_l_folded) .none kV_l_folded dc_l_folded pm_l_folded an_l_folded cd_l_folded ct_l_folded
  F_l_folded := fun_mk (st := s_l_folded) l_l_folded c_l_folded k_l_folded
  g_l_folded := PySem.W.mg_of X G a_l_folded
  b_l_folded := (fun_mk (st := s_l_folded) l_l_folded c_l_folded k_l_folded).binds (ps := ["_law_script", "_law_size"]) (fun _ _ _ _ _ _ us hl => match us, hl with | [_, _], _ => rfl)
  a_l_same := f_l_same
  fd_l_same := PySem.W.fnOf "_law_same" "_law_same" (defArgs s_l_same) (defBody s_l_same) (defScope s_l_same) .none kV_l_same dc_l_same pm_l_same an_l_same cd_l_same ct_l_same
  F_l_same := fun_mk (st := s_l_same) l_l_same c_l_same k_l_same
  g_l_same := PySem.W.mg_of X G a_l_same
  b_l_same := (fun_mk (st := s_l_same) l_l_same c_l_same k_l_same).binds (ps := ["_law_found", "_law_due"]) (fun _ _ _ _ _ _ us hl => match us, hl with | [_, _], _ => rfl)
  a_l_counted := f_l_counted
  fd_l_counted := PySem.W.fnOf "_law_counted" "_law_counted" (defArgs s_l_counted) (defBody s_l_counted) (defScope s_l_counted) .none kV_l_counted dc_l_counted pm_l_counted an_l_counted cd_l_counted ct_l_counted
  F_l_counted := fun_mk (st := s_l_counted) l_l_counted c_l_counted k_l_counted
  g_l_counted := PySem.W.mg_of X G a_l_counted
  b_l_counted := (fun_mk (st := s_l_counted) l_l_counted c_l_counted k_l_counted).binds (ps := []) (fun _ _ _ _ _ _ us hl => match us, hl with | [], _ => rfl)
  a_law := f_law
  fd_law := PySem.W.fnOf "law" "law" (defArgs s_law) (defBody s_law) (defScope s_law) .none kV_law dc_law pm_law an_law cd_law ct_law
  F_law := fun_mk (st := s_law) l_law c_law k_law
  b_law := (fun_mk (st := s_law) l_law c_law k_law).binds (ps := ["_law_script"]) (fun _ _ _ _ _ _ us hl => match us, hl with | [_], _ => rfl)
  kb_quarter_of_0_day := KB.mk0 (fun us ws h1 h2 => match us, ws, h1, h2 with | [], [_], _, _ => rfl)
  kb_quarter_span_0_quarter := KB.mk0 (fun us ws h1 h2 => match us, ws, h1, h2 with | [], [_], _, _ => rfl)
  kb_year_of_0_day := KB.mk0 (fun us ws h1 h2 => match us, ws, h1, h2 with | [], [_], _, _ => rfl)
  c_QUARTER_DAYS := ⟨_, PySem.W.mg_of X G v_QUARTER_DAYS, ⟨_, rfl⟩⟩
  c_YEAR_DAYS := ⟨_, PySem.W.mg_of X G v_YEAR_DAYS, ⟨_, rfl⟩⟩
  z_abs := PySem.W.mg_none_of X G z_abs
  z_all := PySem.W.mg_none_of X G z_all
  z_bool := PySem.W.mg_none_of X G z_bool
  z_enumerate := PySem.W.mg_none_of X G z_enumerate
  z_int := PySem.W.mg_none_of X G z_int
  z_isinstance := PySem.W.mg_none_of X G z_isinstance
  z_len := PySem.W.mg_none_of X G z_len
  z_list := PySem.W.mg_none_of X G z_list
  z_range := PySem.W.mg_none_of X G z_range
  z_str := PySem.W.mg_none_of X G z_str
  z_tuple := PySem.W.mg_none_of X G z_tuple
  z_zip := PySem.W.mg_none_of X G z_zip
theorem all_mk {l : PySem.W.OpenLaw} {w : World} {K : PySem.W.Frag} {h : Heap} {mg : Str → Option Value} {fa : Addr} (X : K.In h) (G : h.Ns mainGlobals mg) (hfa : mg "law" = some (.ref fa))
    {f_year_of : Addr} {oc_year_of : Value} {od_year_of an_year_of : Option Addr} {sl_year_of : Array (Option Value)} {kV_year_of dc_year_of pm_year_of cd_year_of ct_year_of : Value}
    {f_quarter_of : Addr} {oc_quarter_of : Value} {od_quarter_of an_quarter_of : Option Addr} {sl_quarter_of : Array (Option Value)} {kV_quarter_of dc_quarter_of pm_quarter_of cd_quarter_of ct_quarter_of : Value}
    {f_quarter_span : Addr} {oc_quarter_span : Value} {od_quarter_span an_quarter_span : Option Addr} {sl_quarter_span : Array (Option Value)} {kV_quarter_span dc_quarter_span pm_quarter_span cd_quarter_span ct_quarter_span : Value}
    {f_l_dip : Addr} {oc_l_dip : Value} {od_l_dip an_l_dip : Option Addr} {sl_l_dip : Array (Option Value)} {kV_l_dip dc_l_dip pm_l_dip cd_l_dip ct_l_dip : Value}
    {f_l_take : Addr} {oc_l_take : Value} {od_l_take an_l_take : Option Addr} {sl_l_take : Array (Option Value)} {kV_l_take dc_l_take pm_l_take cd_l_take ct_l_take : Value}
    {f_l_folded : Addr} {oc_l_folded : Value} {od_l_folded an_l_folded : Option Addr} {sl_l_folded : Array (Option Value)} {kV_l_folded dc_l_folded pm_l_folded cd_l_folded ct_l_folded : Value}
    {f_l_same : Addr} {oc_l_same : Value} {od_l_same an_l_same : Option Addr} {sl_l_same : Array (Option Value)} {kV_l_same dc_l_same pm_l_same cd_l_same ct_l_same : Value}
    {f_l_counted : Addr} {oc_l_counted : Value} {od_l_counted an_l_counted : Option Addr} {sl_l_counted : Array (Option Value)} {kV_l_counted dc_l_counted pm_l_counted cd_l_counted ct_l_counted : Value}
    {f_law : Addr} {oc_law : Value} {od_law an_law : Option Addr} {sl_law : Array (Option Value)} {kV_law dc_law pm_law cd_law ct_law : Value}
    {t_QUARTER_DAYS : Tok}
    {t_YEAR_DAYS : Tok}
    (a_year_of : PySem.W.nsIn K mainGlobals "year_of" = some (some (.ref f_year_of)))
    (l_year_of : K.lookup f_year_of = some ⟨oc_year_of, od_year_of, .func (PySem.W.fnOf "year_of" "year_of" (defArgs s_year_of) (defBody s_year_of) (defScope s_year_of) .none kV_year_of dc_year_of pm_year_of an_year_of cd_year_of ct_year_of), sl_year_of⟩)
    (c_year_of : PySem.W.codeIn K cd_year_of "year_of" = true)
    (k_year_of : PySem.W.keepIn K (.ref f_year_of) = true)
    (a_quarter_of : PySem.W.nsIn K mainGlobals "quarter_of" = some (some (.ref f_quarter_of)))
    (l_quarter_of : K.lookup f_quarter_of = some ⟨oc_quarter_of, od_quarter_of, .func (PySem.W.fnOf "quarter_of" "quarter_of" (defArgs s_quarter_of) (defBody s_quarter_of) (defScope s_quarter_of) .none kV_quarter_of dc_quarter_of pm_quarter_of an_quarter_of cd_quarter_of ct_quarter_of), sl_quarter_of⟩)
    (c_quarter_of : PySem.W.codeIn K cd_quarter_of "quarter_of" = true)
    (k_quarter_of : PySem.W.keepIn K (.ref f_quarter_of) = true)
    (a_quarter_span : PySem.W.nsIn K mainGlobals "quarter_span" = some (some (.ref f_quarter_span)))
    (l_quarter_span : K.lookup f_quarter_span = some ⟨oc_quarter_span, od_quarter_span, .func (PySem.W.fnOf "quarter_span" "quarter_span" (defArgs s_quarter_span) (defBody s_quarter_span) (defScope s_quarter_span) .none kV_quarter_span dc_quarter_span pm_quarter_span an_quarter_span cd_quarter_span ct_quarter_span), sl_quarter_span⟩)
    (c_quarter_span : PySem.W.codeIn K cd_quarter_span "quarter_span" = true)
    (k_quarter_span : PySem.W.keepIn K (.ref f_quarter_span) = true)
    (a_l_dip : PySem.W.nsIn K mainGlobals "_law_dip" = some (some (.ref f_l_dip)))
    (l_l_dip : K.lookup f_l_dip = some ⟨oc_l_dip, od_l_dip, .func (PySem.W.fnOf "_law_dip" "_law_dip" (defArgs s_l_dip) (defBody s_l_dip) (defScope s_l_dip) .none kV_l_dip dc_l_dip pm_l_dip an_l_dip cd_l_dip ct_l_dip), sl_l_dip⟩)
    (c_l_dip : PySem.W.codeIn K cd_l_dip "_law_dip" = true)
    (k_l_dip : PySem.W.keepIn K (.ref f_l_dip) = true)
    (a_l_take : PySem.W.nsIn K mainGlobals "_law_take" = some (some (.ref f_l_take)))
    (l_l_take : K.lookup f_l_take = some ⟨oc_l_take, od_l_take, .func (PySem.W.fnOf "_law_take" "_law_take" (defArgs s_l_take) (defBody s_l_take) (defScope s_l_take) .none kV_l_take dc_l_take pm_l_take an_l_take cd_l_take ct_l_take), sl_l_take⟩)
    (c_l_take : PySem.W.codeIn K cd_l_take "_law_take" = true)
    (k_l_take : PySem.W.keepIn K (.ref f_l_take) = true)
    (a_l_folded : PySem.W.nsIn K mainGlobals "_law_folded" = some (some (.ref f_l_folded)))
    (l_l_folded : K.lookup f_l_folded = some ⟨oc_l_folded, od_l_folded, .func (PySem.W.fnOf "_law_folded" "_law_folded" (defArgs s_l_folded) (defBody s_l_folded) (defScope s_l_folded) .none kV_l_folded dc_l_folded pm_l_folded an_l_folded cd_l_folded ct_l_folded), sl_l_folded⟩)
    (c_l_folded : PySem.W.codeIn K cd_l_folded "_law_folded" = true)
    (k_l_folded : PySem.W.keepIn K (.ref f_l_folded) = true)
    (a_l_same : PySem.W.nsIn K mainGlobals "_law_same" = some (some (.ref f_l_same)))
    (l_l_same : K.lookup f_l_same = some ⟨oc_l_same, od_l_same, .func (PySem.W.fnOf "_law_same" "_law_same" (defArgs s_l_same) (defBody s_l_same) (defScope s_l_same) .none kV_l_same dc_l_same pm_l_same an_l_same cd_l_same ct_l_same), sl_l_same⟩)
    (c_l_same : PySem.W.codeIn K cd_l_same "_law_same" = true)
    (k_l_same : PySem.W.keepIn K (.ref f_l_same) = true)
    (a_l_counted : PySem.W.nsIn K mainGlobals "_law_counted" = some (some (.ref f_l_counted)))
    (l_l_counted : K.lookup f_l_counted = some ⟨oc_l_counted, od_l_counted, .func (PySem.W.fnOf "_law_counted" "_law_counted" (defArgs s_l_counted) (defBody s_l_counted) (defScope s_l_counted) .none kV_l_counted dc_l_counted pm_l_counted an_l_counted cd_l_counted ct_l_counted), sl_l_counted⟩)
    (c_l_counted : PySem.W.codeIn K cd_l_counted "_law_counted" = true)
    (k_l_counted : PySem.W.keepIn K (.ref f_l_counted) = true)
    (a_law : PySem.W.nsIn K mainGlobals "law" = some (some (.ref f_law)))
    (l_law : K.lookup f_law = some ⟨oc_law, od_law, .func (PySem.W.fnOf "law" "law" (defArgs s_law) (defBody s_law) (defScope s_law) .none kV_law dc_law pm_law an_law cd_law ct_law), sl_law⟩)
    (c_law : PySem.W.codeIn K cd_law "law" = true)
    (k_law : PySem.W.keepIn K (.ref f_law) = true)
    (v_QUARTER_DAYS : PySem.W.nsIn K mainGlobals "QUARTER_DAYS" = some (some (.int 91 t_QUARTER_DAYS)))
    (v_YEAR_DAYS : PySem.W.nsIn K mainGlobals "YEAR_DAYS" = some (some (.int 364 t_YEAR_DAYS)))
    (z_abs : PySem.W.nsIn K mainGlobals "abs" = some none)
    (z_all : PySem.W.nsIn K mainGlobals "all" = some none)
    (z_bool : PySem.W.nsIn K mainGlobals "bool" = some none)
    (z_enumerate : PySem.W.nsIn K mainGlobals "enumerate" = some none)
    (z_int : PySem.W.nsIn K mainGlobals "int" = some none)
    (z_isinstance : PySem.W.nsIn K mainGlobals "isinstance" = some none)
    (z_len : PySem.W.nsIn K mainGlobals "len" = some none)
    (z_list : PySem.W.nsIn K mainGlobals "list" = some none)
    (z_range : PySem.W.nsIn K mainGlobals "range" = some none)
    (z_str : PySem.W.nsIn K mainGlobals "str" = some none)
    (z_tuple : PySem.W.nsIn K mainGlobals "tuple" = some none)
    (z_zip : PySem.W.nsIn K mainGlobals "zip" = some none) :
    ∃ fd : FuncData, (∀ (s : Shared) (v : Value), BindsTo s fd ⟨[v], []⟩ [("_law_script", v)]) ∧ ∀ base : Heap, K.In base → base.Ns mainGlobals mg → FnOk l.prog w K mg base CX0 lawLevel fa fd ["_law_script"] (spLaw K) := by
  have e := hfa.symm.trans (PySem.W.mg_of X G a_law)
  cases e
  have T : Top K mg := top_mk X G a_year_of l_year_of c_year_of k_year_of a_quarter_of l_quarter_of c_quarter_of k_quarter_of a_quarter_span l_quarter_span c_quarter_span k_quarter_span a_l_dip l_l_dip c_l_dip k_l_dip a_l_take l_l_take c_l_take k_l_take a_l_folded l_l_folded c_l_folded k_l_folded a_l_same l_l_same c_l_same k_l_same a_l_counted l_l_counted c_l_counted k_l_counted a_law l_law c_law k_law v_QUARTER_DAYS v_YEAR_DAYS z_abs z_all z_bool z_enumerate z_int z_isinstance z_len z_list z_range z_str z_tuple z_zip
  exact ⟨_, fun s v => .of_eq rfl, fun base _ _ => ok_law (top_mk X G a_year_of l_year_of c_year_of k_year_of a_quarter_of l_quarter_of c_quarter_of k_quarter_of a_quarter_span l_quarter_span c_quarter_span k_quarter_span a_l_dip l_l_dip c_l_dip k_l_dip a_l_take l_l_take c_l_take k_l_take a_l_folded l_l_folded c_l_folded k_l_folded a_l_same l_l_same c_l_same k_l_same a_l_counted l_l_counted c_l_counted k_l_counted a_law l_law c_law k_law v_QUARTER_DAYS v_YEAR_DAYS z_abs z_all z_bool z_enumerate z_int z_isinstance z_len z_list z_range z_str z_tuple z_zip)⟩
end G61
open PySem PySem.W PyProof.Rows
set_option maxRecDepth 100000 in
set_option maxHeartbeats 0 in
theorem PySem.Challenge.cw_lettolls_k05_years_and_quarters_holds : PySem.Challenge.rw_lettolls_k05_years_and_quarters.Holds := by
  w_on; o_law; k_head; (case hw => w_witness2)
  k_fill
  refine L2.walk_of (l := PySem.Challenge.rw_lettolls_k05_years_and_quarters) (n := 63) (k := G61.lawLevel) (x := "_law_script") (CX := fun _ => L2.CX0) (sp := fun w => G61.spLaw _) rfl (by decide) rfl ⟨rfl, by decide, by decide⟩ (fun w h Y => PySem.W.kIn_of Y) ?F (fun _ _ a ns hl _ hS => ⟨a, ns, rfl, hS, hl, fun _ => rfl⟩) (fun _ _ _ _ _ h => h)
  case F =>
    intro w mg fa h KX G hmg
    refine' G61.all_mk KX G hmg ?a_year_of ?l_year_of ?c_year_of ?k_year_of ?a_quarter_of ?l_quarter_of ?c_quarter_of ?k_quarter_of ?a_quarter_span ?l_quarter_span ?c_quarter_span ?k_quarter_span ?a_l_dip ?l_l_dip ?c_l_dip ?k_l_dip ?a_l_take ?l_l_take ?c_l_take ?k_l_take ?a_l_folded ?l_l_folded ?c_l_folded ?k_l_folded ?a_l_same ?l_l_same ?c_l_same ?k_l_same ?a_l_counted ?l_l_counted ?c_l_counted ?k_l_counted ?a_law ?l_law ?c_law ?k_law ?v_QUARTER_DAYS ?v_YEAR_DAYS ?z_abs ?z_all ?z_bool ?z_enumerate ?z_int ?z_isinstance ?z_len ?z_list ?z_range ?z_str ?z_tuple ?z_zip
    (case a_year_of => k_is); (case l_year_of => k_is); (case c_year_of => k_is); (case k_year_of => k_is); (case a_quarter_of => k_is); (case l_quarter_of => k_is); (case c_quarter_of => k_is); (case k_quarter_of => k_is); (case a_quarter_span => k_is); (case l_quarter_span => k_is); (case c_quarter_span => k_is); (case k_quarter_span => k_is); (case a_l_dip => k_is); (case l_l_dip => k_is); (case c_l_dip => k_is); (case k_l_dip => k_is); (case a_l_take => k_is); (case l_l_take => k_is); (case c_l_take => k_is); (case k_l_take => k_is); (case a_l_folded => k_is); (case l_l_folded => k_is); (case c_l_folded => k_is); (case k_l_folded => k_is); (case a_l_same => k_is); (case l_l_same => k_is); (case c_l_same => k_is); (case k_l_same => k_is); (case a_l_counted => k_is); (case l_l_counted => k_is); (case c_l_counted => k_is); (case k_l_counted => k_is); (case a_law => k_is); (case l_law => k_is); (case c_law => k_is); (case k_law => k_is); (case v_QUARTER_DAYS => k_is); (case v_YEAR_DAYS => k_is); (case z_abs => k_is); (case z_all => k_is); (case z_bool => k_is); (case z_enumerate => k_is); (case z_int => k_is); (case z_isinstance => k_is); (case z_len => k_is); (case z_list => k_is); (case z_range => k_is); (case z_str => k_is); (case z_tuple => k_is); (case z_zip => k_is)
