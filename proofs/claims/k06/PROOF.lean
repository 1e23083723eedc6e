import PyProof.Rows.All
import Wide.All
import OpenK.AllK
import Wide.FinOn
import HandS.ForMost
import HandS.Wide
import HandS.IsInst
import HandS.Defaults
import HandS.Zip
import HandS.Walk
import HandS.Style
import HandS.Flow
import HandS.TupAny
import HandS.SetFor
import HandS.Strs
import PySem.Challenge.RW_lettolls_k06_parts_by_days
set_option Elab.async false
set_option maxRecDepth 100000
set_option maxHeartbeats 4000000
namespace G61
open PySem L2 RZ
def topS (i : Nat) : Stmt := PySem.Challenge.pw_lettolls_k06_parts_by_days.main.body.getD i (.Pass ⟨0, 0, 0, 0⟩)
abbrev s_part_of : Stmt := topS 1
theorem sc_part_of : FnScope ["total", "many", "first", "last", "end"] ["total", "many", "first", "last"] (defScope s_part_of) := ⟨rfl, rfl, rfl, by decide +kernel, rfl, by decide +kernel, by decide +kernel⟩
abbrev s_l_dip : Stmt := topS 3
theorem sc_l_dip : FnScope ["_law_script", "_law_k", "_law_cell"] ["_law_script", "_law_k"] (defScope s_l_dip) := ⟨rfl, rfl, rfl, by decide +kernel, rfl, by decide +kernel, by decide +kernel⟩
abbrev s_l_take : Stmt := topS 4
theorem sc_l_take : FnScope ["_law_box", "_law_many", "_law_found", "_law_once", "_law_twice"] ["_law_box", "_law_many"] (defScope s_l_take) := ⟨rfl, rfl, rfl, by decide +kernel, rfl, by decide +kernel, by decide +kernel⟩
abbrev s_l_folded : Stmt := topS 5
theorem sc_l_folded : FnScope ["_law_script", "_law_size", "_law_cells", "_law_k", "_law_cell"] ["_law_script", "_law_size"] (defScope s_l_folded) := ⟨rfl, rfl, rfl, by decide +kernel, rfl, by decide +kernel, by decide +kernel⟩
abbrev s_l_total : Stmt := topS 6
theorem sc_l_total : FnScope ["_law_box", "_law_way", "_law_some"] ["_law_box"] (defScope s_l_total) := ⟨rfl, rfl, rfl, by decide +kernel, rfl, by decide +kernel, by decide +kernel⟩
abbrev s_l_is_number : Stmt := topS 7
theorem sc_l_is_number : FnScope ["_law_thing"] ["_law_thing"] (defScope s_l_is_number) := ⟨rfl, rfl, rfl, by decide +kernel, rfl, by decide +kernel, by decide +kernel⟩
abbrev s_l_due : Stmt := topS 8
theorem sc_l_due : FnScope ["_law_total_here", "_law_many", "_law_first", "_law_end"] ["_law_total_here", "_law_many", "_law_first", "_law_end"] (defScope s_l_due) := ⟨rfl, rfl, rfl, by decide +kernel, rfl, by decide +kernel, by decide +kernel⟩
abbrev s_l_cut : Stmt := topS 9
theorem sc_l_cut : FnScope ["_law_box", "_law_many", "_law_ends", "_law_turn", "_law_first", "_law_end"] ["_law_box", "_law_many"] (defScope s_l_cut) := ⟨rfl, rfl, rfl, by decide +kernel, rfl, by decide +kernel, by decide +kernel⟩
abbrev s_l_right : Stmt := topS 10
theorem sc_l_right : FnScope ["_law_box", "_law_total_here", "_law_many", "_law_found", "_law_first", "_law_end", "_law_part", "_law_days", "_law_day"] ["_law_box", "_law_total_here", "_law_many"] (defScope s_l_right) := ⟨rfl, rfl, rfl, by decide +kernel, rfl, by decide +kernel, by decide +kernel⟩
abbrev s_law : Stmt := topS 11
theorem sc_law : FnScope ["_law_script", "_law_cells", "_law_k", "_law_box", "_law_turn", "_law_many"] ["_law_script"] (defScope s_law) := ⟨rfl, rfl, rfl, by decide +kernel, rfl, by decide +kernel, by decide +kernel⟩
/-! ### rules of one's own over the hand layer: constants, calls by keywords -/
theorem pe_gl {X : Cx} {x : Str} {v : V} {pos : Pos} (hg : Gl X x) (hm : ∃ u, X.mg x = some u ∧ RelV v u) (hd : (x == ("__debug__" : Str)) = false := by decide) : PE X (.Name x pos) (tC v) := by
  obtain ⟨u, h, r⟩ := hm
  exact pe_glob hg h r hd
inductive Src where
  | u (i : Nat) | w (i : Nat) | d (i : Nat)
def pick {α : Type} (z : α) (us ws ds : List α) : List Src → List α
  | [] => []
  | .u i :: r => us.getD i z :: pick z us ws ds r
  | .w i :: r => ws.getD i z :: pick z us ws ds r
  | .d i :: r => ds.getD i z :: pick z us ws ds r
theorem vals_getD : ∀ {xs : List V} {us : List Value}, Vals xs us → ∀ i : Nat, RelV (xs.getD i V.non) (us.getD i Value.none)
  | _, _, .nil, i => by simp [RelV]
  | _, _, .cons r _, 0 => r
  | _, _, .cons _ t, i + 1 => by simpa using vals_getD t i
theorem vals_pick {vs zs ds : List V} {us ws its : List Value} (r : Vals vs us) (rz : Vals zs ws) (rd : Vals ds its) : ∀ src : List Src, Vals (pick V.non vs zs ds src) (pick Value.none us ws its src)
  | [] => .nil
  | .u i :: t => .cons (vals_getD r i) (vals_pick r rz rd t)
  | .w i :: t => .cons (vals_getD rz i) (vals_pick r rz rd t)
  | .d i :: t => .cons (vals_getD rd i) (vals_pick r rz rd t)
/-- how a call with n positional values and keywords ks binds; dv: the defaults -/
def KB (K : PySem.W.Frag) (fd : FuncData) (ps : List Str) (n : Nat) (ks : List Str) (src : List Src) (dv : List V) : Prop :=
  ∃ its : List Value, KBn K fd ps n ks (fun us ws => pick Value.none us ws its src) (fun vs zs => pick V.non vs zs dv src)
theorem KB.mk0 {K : PySem.W.Frag} {fd : FuncData} {ps ks : List Str} {n : Nat} {src : List Src}
    (h : ∀ us ws : List Value, us.length = n → ws.length = ks.length → bindArgs fd ⟨us, ks.zip ws⟩ = pure (ps.zip (pick Value.none us ws [] src))) : KB K fd ps n ks src [] :=
  ⟨[], ⟨fun _ us ws _ l1 l2 => .of_eq (h us ws l1 l2), fun r rz => vals_pick r rz .nil src⟩⟩
abbrev FunDD (K : PySem.W.Frag) (x qual : Str) (st : Stmt) (dvs : List V) (f : Addr) (fd : FuncData) : Prop := FunD K x qual (defArgs st) (defBody st) (defScope st) dvs [] f fd
theorem KB.mkD {K : PySem.W.Frag} {x qual : Str} {st : Stmt} {dvs : List V} {f : Addr} {fd : FuncData} {ps ks : List Str} {n : Nat} {src : List Src} (F : FunDD K x qual st dvs f fd) (hd : dvs ≠ [])
    (h : ∀ (T : Addr) (kV doc pm : Value) (an : Option Addr) (cdv ct : Value) (us its ws : List Value), us.length = n → its.length = dvs.length → ws.length = ks.length →
      ∃ k, bindArgs (PySem.W.fnOf x qual (defArgs st) (defBody st) (defScope st) (.ref T) kV doc pm an cdv ct) ⟨us, ks.zip ws⟩ = seqItems? (.ref T) >>= k ∧ k (some its.toArray) = pure (ps.zip (pick Value.none us ws its src))) :
    KB K fd ps n ks src dvs := by
  obtain ⟨oc, od, dV, kV, doc, pm, an, cdv, ct, osl, rfl, lk, hcd, hD, hK⟩ := F.ex
  rcases hD with ⟨e, _⟩ | ⟨_, T, o, its, m, rfl, lT, oT, rT⟩
  · exact absurd e hd
  · refine ⟨its, ⟨fun s us ws X l1 l2 => ?_, fun r rz => vals_pick r rz rT src⟩⟩
    obtain ⟨k, e1, e2⟩ := h T kV doc pm an cdv ct us its ws l1 rT.length.symm l2
    refine BindsTo.of_looks fun M => ?_
    rw [e1]
    exact looks_items X lT oT (.of_pure e2)
section
variable {X : Cx} {CX : CXT} {k n : Nat} {f : Addr} {fd : FuncData} {ps ks : List Str} {sp : Sp} {E : XK} {x : Str} {p pos : Pos} {e : Expr} {es : List Expr} {kws : List Keyword} {t tk : TA} {src : List Src} {dv : List V}
theorem pe_callKB (F : FnOk X.prog X.w X.K X.mg X.base CX k f fd ps sp) (hr : Room k X.A) (hg : Gl X x) (hm : X.mg x = some (.ref f)) (hk : PySem.W.keepIn X.K (.ref f) = true) (hb : KB X.K fd ps n ks src dv) (hx : Passes CX X E)
    (ha : PA X (e :: es) t) (hkw : PK X kws tk) (hall : (backToKw pos (keywordEach kws X.env)).all (·.1.isSome) = true := by rfl) (hks : (backToKw pos (keywordEach kws X.env)).filterMap (·.1) = ks := by rfl)
    (hdb : (x == ("__debug__" : Str)) = false := by decide) (he : starEach (e :: es) X.env = (false, eval e X.env) :: starEach es X.env := by rfl)
    (hpl : ((backTo pos (starEach (e :: es) X.env)).any (·.1) || (backToKw pos (keywordEach kws X.env)).any (·.1.isNone)) = false := by rfl) :
    PE X (.Call (.Name x p) (e :: es) kws pos) (tCallN n ks.length sp (fun vs zs => pick V.non vs zs dv src) E t tk) := by
  obtain ⟨its, hb⟩ := hb
  exact pe_callN F hr hg hm hk hb hx ha hkw hall hks hdb he hpl
theorem pe_callKB0 (F : FnOk X.prog X.w X.K X.mg X.base CX k f fd ps sp) (hr : Room k X.A) (hg : Gl X x) (hm : X.mg x = some (.ref f)) (hk : PySem.W.keepIn X.K (.ref f) = true) (hb : KB X.K fd ps 0 ks src dv) (hx : Passes CX X E)
    (hkw : PK X kws tk) (hall : (backToKw pos (keywordEach kws X.env)).all (·.1.isSome) = true := by rfl) (hks : (backToKw pos (keywordEach kws X.env)).filterMap (·.1) = ks := by rfl)
    (hdb : (x == ("__debug__" : Str)) = false := by decide)
    (hpl : ((backTo pos (starEach [] X.env)).any (·.1) || (backToKw pos (keywordEach kws X.env)).any (·.1.isNone)) = false := by rfl) :
    PE X (.Call (.Name x p) [] kws pos) (tCallN 0 ks.length sp (fun vs zs => pick V.non vs zs dv src) E tNil tk) := by
  obtain ⟨its, hb⟩ := hb
  refine ⟨fun pins s σ H Q I h => ?_⟩
  refine wpAny_Call_Name_kw (ld_glob I hg hm ?_ hdb)
  refine PySem.W.callWith_KW0 (h₀ := X.base) I.ok.mod.kin hk hall ?_ hpl
  refine thn (hkw.run pos pins s σ H _ I h) fun ws s2 ⟨zs, H2, I2, rz, l1, l2, q2⟩ => ⟨I2.kIn, ?_⟩
  rw [hks]
  exact run_fnN (us := []) (vs := []) F hr hb hx I2 .nil rz rfl l2 q2
end
/-! ### heaps -/
theorem same_new {H : Hp} {p : Addr} {o : HO} (h : H p = none) : Same H (upd H p o) := fun b x e => by
  rw [upd_ne (ne_of_none e h)]
  exact e
theorem sqL {K : PySem.W.Frag} {H : Hp} {a : Addr} {xs : List V} (h : H a = some (.lst xs)) : SqL K H a xs := .inl (.inl h)
theorem sqT {K : PySem.W.Frag} {H : Hp} {a : Addr} {xs : List V} (h : H a = some (.tup xs)) : SqT K H a xs := .inl (.inl h)
theorem same_T {K : PySem.W.Frag} {H H' : Hp} {a : Addr} {xs : List V} (e : Same H H') (h : SqT K H a xs) : SqT K H' a xs := by
  rcases h with (h | ⟨o, h⟩) | h
  · exact .inl (.inl (e _ _ h))
  · exact .inl (.inr ⟨o, e _ _ h⟩)
  · exact .inr h
/-- all but p stands as it stood, what is free elsewhere is free -/
def But (p : Addr) (H H' : Hp) : Prop := ∀ q, q ≠ p → H' q = H q
theorem but_upd {H : Hp} {p : Addr} {o : HO} : But p H (upd H p o) := fun _ h => upd_ne h
/-- all but p stands as it stood -/
def Sav (p : Addr) (H H' : Hp) : Prop := ∀ b o, H b = some o → b ≠ p → H' b = some o
theorem Sav.refl (p : Addr) (H : Hp) : Sav p H H := fun _ _ h _ => h
theorem Sav.trans {p : Addr} {H H1 H2 : Hp} (a : Sav p H H1) (b : Sav p H1 H2) : Sav p H H2 := fun c o h n => b c o (a c o h n) n
theorem But.sav {p : Addr} {H H' : Hp} (h : But p H H') : Sav p H H' := fun b o e n => by rw [h b n]; exact e
theorem Sav.of {p : Addr} {H H' : Hp} (h : Same H H') : Sav p H H' := fun b o e _ => h b o e
theorem sav_upd {p : Addr} {H : Hp} {o : HO} : Sav p H (upd H p o) := fun _ _ e n => by rw [upd_ne n]; exact e
theorem Sav.new {p q : Addr} {H H' : Hp} {o : HO} (h : Sav p H H') (hq : H' q = none) : Sav p H (upd H' q o) := fun b u e n => by
  have := h b u e n
  rw [upd_ne (ne_of_none this hq)]
  exact this
theorem ixN_nat' {n j : Nat} (hj : j < n) : ixN n (j : Int) = some j := by
  unfold ixN
  rw [if_pos (by omega), if_pos (by omega), Int.toNat_natCast]
theorem iteD {P A B : Prop} [Decidable P] (h1 : P → A) (h2 : ¬ P → B) : if decide P = true then A else B := by
  by_cases h : P
  · rw [decide_eq_true h]; exact iteT (h1 h)
  · rw [decide_eq_false h]; exact iteF (h2 h)
theorem iteDn {P A B : Prop} [Decidable P] (h1 : ¬ P → A) (h2 : P → B) : if (!decide P) = true then A else B := by
  by_cases h : P
  · rw [decide_eq_true h]; exact iteF (h2 h)
  · rw [decide_eq_false h]; exact iteT (h1 h)
theorem szl {n : Nat} (h : Nat.ble n 100000 = true) : n ≤ sizeLine := Nat.le_trans (Nat.le_of_ble_eq_true h) (by decide)
theorem small5 {n : Nat} (h : n < 100000) : n < sizeLine := Nat.lt_of_lt_of_le h (by decide)
theorem same_but {H H1 H2 : Hp} {p : Addr} (s : Same H H1) (n : H p = none) (b : But p H1 H2) : Same H H2 := fun c o e => by
  rw [b c (ne_of_none e n)]
  exact s c o e
theorem dpi {K : PySem.W.Frag} {H : Hp} {i j : Int} (e : i = j) : Dp K H (.int i) (.int j) := by
  subst e
  exact .int _
theorem alc {α : Type} {Pr : α → Prop} {a : α} {l : List α} (h : Pr a) (t : ∀ x ∈ l, Pr x) : ∀ x ∈ a :: l, Pr x := fun x hx => by
  rcases List.mem_cons.mp hx with rfl | hx
  · exact h
  · exact t x hx
theorem aln {α : Type} {Pr : α → Prop} : ∀ x ∈ ([] : List α), Pr x := fun _ h => nomatch h
theorem alp {α : Type} {Pr : α → Prop} {l r : List α} (h : ∀ x ∈ l, Pr x) (t : ∀ x ∈ r, Pr x) : ∀ x ∈ l ++ r, Pr x := fun x hx => by
  rcases List.mem_append.mp hx with hx | hx
  · exact h x hx
  · exact t x hx
theorem at_pick {xs : List V} {i : Int} {Pr : V → Prop} (h0 : 0 ≤ i) (h1 : i < xs.length) (h : ∀ x ∈ xs, Pr x) : ∃ v, atI xs i = some v ∧ Pr v := by
  have hj : i.toNat < xs.length := by omega
  refine ⟨xs[i.toNat], ?_, h _ (List.getElem_mem hj)⟩
  exact at_of (j := i.toNat) (by omega) (List.getElem?_eq_getElem hj)
/-- a number within bounds, as a value -/
def Num (lo hi : Int) (v : V) : Prop := ∃ z, v = .int z ∧ lo ≤ z ∧ z ≤ hi
theorem num {lo hi z : Int} (h1 : lo ≤ z) (h2 : z ≤ hi) : Num lo hi (.int z) := ⟨z, rfl, h1, h2⟩
theorem But.trans {p : Addr} {H H1 H2 : Hp} (a : But p H H1) (b : But p H1 H2) : But p H H2 := fun q h => (b q h).trans (a q h)
theorem tyx_L {K : PySem.W.Frag} {H : Hp} {a : Addr} {xs : List V} (h : SqL K H a xs) : TyX K H (.ref a) (.type "list") := by
  rcases h with (h | ⟨o, h⟩) | ⟨o, its, n, h1, h2, _⟩
  · exact .base (.lst h)
  · exact .base (.frz h)
  · exact .kList h1 h2
theorem tyx_T {K : PySem.W.Frag} {H : Hp} {a : Addr} {xs : List V} (h : SqT K H a xs) : TyX K H (.ref a) (.type "tuple") := by
  rcases h with (h | ⟨o, h⟩) | ⟨o, its, n, h1, h2, _⟩
  · exact .base (.tup h)
  · exact .fTuple h
  · exact .kTuple h1 h2
theorem walk_zipT {K : PySem.W.Frag} {a b : Addr} {xs ys : List V} {n : Nat} (hn : n = min xs.length ys.length) : Walk (ItzT K a b) n (fun H => SqT K H a xs ∧ SqT K H b ys) (YPair (fun i => xs[i]?) (fun i => ys[i]?)) := by
  refine ⟨fun i H hi h => ?_, fun H h => ?_, fun i H v H' hi h y => ?_⟩
  · have h1 : i < xs.length := by omega
    have h2 : i < ys.length := by omega
    exact ⟨xs, ys, xs[i], ys[i], h.1, h.2, List.getElem?_eq_getElem h1, List.getElem?_eq_getElem h2⟩
  · exact ⟨xs, ys, h.1, h.2, by omega⟩
  · obtain ⟨T, x, y, ev, nT, eH, f1, f2⟩ := y
    exact ⟨T, x, y, ev, nT, eH, f1 _ h.1, f2 _ h.2⟩
theorem oIsi {X : Cx} : CallR X (.builtin "isinstance") (fun xs H Q => rIsi X.K xs H Q ∨ rIsiT X.K xs H Q) := CallR.or call_isi call_isiT
theorem iteFe {c : Bool} {A B : Prop} (e : c = false) (h : B) : if c = true then A else B := by
  subst e
  exact iteF h
theorem iteTe {c : Bool} {A B : Prop} (e : c = true) (h : A) : if c = true then A else B := by
  subst e
  exact iteT h
theorem kitF {K : PySem.W.Frag} {a b : String} (h : kitB a b = some false) : PySem.W.kitOne K (.type a) (.type b) = some false := kit_ty h
theorem kitFF {K : PySem.W.Frag} {a b c : String} (h : kitB a b = some false) (h' : kitB a c = some false) : PySem.W.kitAny K (.type a) [.type b, .type c] = some false :=
  kitAny_cons (b := false) (kit_ty h) (fun _ => kitAny_cons (b := false) (kit_ty h') (fun _ => kitAny_nil) (fun z => nomatch z)) (fun z => nomatch z)
theorem kitTF {K : PySem.W.Frag} {a b c : String} (h : kitB a b = some true) : PySem.W.kitAny K (.type a) [.type b, .type c] = some true :=
  kitAny_cons (b := true) (kit_ty h) (fun z => nomatch z) (fun _ => rfl)
theorem kitFT {K : PySem.W.Frag} {a b c : String} (h : kitB a b = some false) (h' : kitB a c = some true) : PySem.W.kitAny K (.type a) [.type b, .type c] = some true :=
  kitAny_cons (b := false) (kit_ty h) (fun _ => kitAny_cons (b := true) (kit_ty h') (fun z => nomatch z) (fun _ => rfl)) (fun z => nomatch z)

/-! ### the rules that lay a new object, told without its heap: what stood stands, and the new one is there -/
theorem PE.imp {X : Cx} {e : Expr} {t t' : TE} (h : PE X e t) (i : ∀ σ H Q, t' σ H Q → t σ H Q) : PE X e t' := ⟨fun pins s σ H Q I q => h.run pins s σ H Q I (i σ H Q q)⟩
theorem OpR.imp {X : Cx} {f : Value → Value → Sem Value} {r r' : R2} (h : OpR X f r) (i : ∀ x y H Q, r' x y H Q → r x y H Q) : OpR X f r' := fun pins s σ H x y v u Q I rx ry q => h pins s σ H x y v u Q I rx ry (i x y H Q q)
theorem CallR.imp {X : Cx} {f : Value} {r r' : List V → Hp → VK → Prop} (h : CallR X f r) (i : ∀ xs H Q, r' xs H Q → r xs H Q) : CallR X f r' := fun pins s σ H xs us Q I rv q => h pins s σ H xs us Q I rv (i xs H Q q)
theorem SlR.imp {X : Cx} {r r' : V → Option Int → Option Int → Hp → VK → Prop} (h : L2.SlR X r) (i : ∀ x lo hi H Q, r' x lo hi H Q → r x lo hi H Q) : L2.SlR X r' :=
  fun pins s σ H x v vl vu lo hi sl Q I rx hs pl pu q => h pins s σ H x v vl vu lo hi sl Q I rx hs pl pu (i x lo hi H Q q)
theorem MtM.imp {X : Cx} {id : String} {r r' : V → List V → Hp → VK → Prop} (h : MtM X id r) (i : ∀ x xs H Q, r' x xs H Q → r x xs H Q) : MtM X id r' := fun pins s σ H x xs v us Q I rx rv q => h pins s σ H x xs v us Q I rx rv (i x xs H Q q)
theorem PSet.imp {X : Cx} {r r' : TSet} (h : PSet X r) (i : ∀ o k v H Q, r' o k v H Q → r o k v H Q) : PSet X r' := fun pins s σ H o k v ov iv u Q I ro ri rv q => h pins s σ H o k v ov iv u Q I ro ri rv (i o k v H Q q)
/-- a new object o -/
def New (H : Hp) (o : HO) (Q : VK) : Prop := ∀ p H2, H p = none → Same H H2 → H2 p = some o → Q (.ref p) H2
theorem New.go {H : Hp} {o : HO} {Q : VK} (h : New H o Q) : ∀ p, H p = none → Q (.ref p) (upd H p o) := fun p np => h p _ np (same_new np) upd_same
/-- the object at l changed -/
def Chg (H : Hp) (l : Addr) (o : HO) (G : Hp → Prop) : Prop := ∀ H2, But l H H2 → H2 l = some o → G H2
theorem Chg.go {H : Hp} {l : Addr} {o : HO} {G : Hp → Prop} (h : Chg H l o G) : G (upd H l o) := h _ but_upd upd_same
def rCatS : R2 := fun x y H Q => ∃ l b xs zs, x = .ref l ∧ y = .ref b ∧ H l = some (.lst xs) ∧ H b = some (.lst zs) ∧ xs.length + zs.length ≤ sizeLine ∧ New H (.lst (xs ++ zs)) Q
theorem op_catS {X : Cx} : OpR X (binaryOp .Add) rCatS := OpR.imp op_cat fun _ _ _ _ ⟨l, b, xs, zs, e1, e2, h1, h2, hz, q⟩ => ⟨l, b, xs, zs, e1, e2, h1, h2, hz, q.go⟩
def rRepS : R2 := fun x y H Q => ∃ l k xs, x = .ref l ∧ y = .int k ∧ H l = some (.lst xs) ∧ -(2 ^ 63) ≤ k ∧ k < 2 ^ 63 ∧ xs.length * k.toNat ≤ sizeLine ∧ New H (.lst (List.replicate k.toNat xs).flatten) Q
theorem op_repS {X : Cx} : OpR X (binaryOp .Mult) rRepS := OpR.imp op_rep fun _ _ _ _ ⟨l, k, xs, e1, e2, h1, h2, h3, h4, q⟩ => ⟨l, k, xs, e1, e2, h1, h2, h3, h4, q.go⟩
/-- a tuple with these items, new or one that stood -/
def SomeT (K : PySem.W.Frag) (H : Hp) (xs : List V) (Q : VK) : Prop := ∀ p H2, Same H H2 → SqT K H2 p xs → Q (.ref p) H2
theorem SomeT.go {K : PySem.W.Frag} {H : Hp} {xs : List V} {Q : VK} (h : SomeT K H xs Q) : ∀ p, H p = none → Q (.ref p) (upd H p (.tup xs)) := fun p np => h p _ (same_new np) (sqT upd_same)
def rCatTS (K : PySem.W.Frag) : R2 := fun x y H Q => ∃ a b xs ys, x = .ref a ∧ y = .ref b ∧ SqT K H a xs ∧ SqT K H b ys ∧ xs.length + ys.length ≤ sizeLine ∧ SomeT K H (xs ++ ys) Q
theorem op_catTS {X : Cx} : OpR X (binaryOp .Add) (rCatTS X.K) := OpR.imp op_catA fun _ _ H _ ⟨a, b, xs, ys, e1, e2, h1, h2, hz, q⟩ => ⟨a, b, xs, ys, e1, e2, h1, h2, hz,
  (fun e => by subst e; exact q b H (Same.refl H) h2), (fun _ e => by subst e; exact q a H (Same.refl H) (by rw [List.append_nil]; exact h1)), fun _ _ => q.go⟩
def rSlLS (K : PySem.W.Frag) : V → Option Int → Option Int → Hp → VK → Prop := fun x lo hi H Q => ∃ a xs, x = .ref a ∧ SqL K H a xs ∧ New H (.lst (cutV xs lo hi)) Q
theorem sl_listS {X : Cx} : L2.SlR X (rSlLS X.K) := SlR.imp sl_list fun _ _ _ _ _ ⟨a, xs, e, h, q⟩ => ⟨a, xs, e, h, q.go⟩
theorem cutV_all {xs : List V} {lo hi : Option Int} (h : HT.sIx xs.length 0 lo = 0 ∧ HT.sIx xs.length xs.length hi = xs.length) : cutV xs lo hi = xs := by
  unfold cutV
  rw [h.1, h.2, List.drop_zero, Nat.sub_zero, List.take_length]
def rSlTS (K : PySem.W.Frag) : V → Option Int → Option Int → Hp → VK → Prop := fun x lo hi H Q => ∃ a xs, x = .ref a ∧ SqT K H a xs ∧ SomeT K H (cutV xs lo hi) Q
theorem sl_tupS {X : Cx} : L2.SlR X (rSlTS X.K) := SlR.imp sl_tupA fun _ _ _ H _ ⟨a, xs, e, h, q⟩ => ⟨a, xs, e, h, (fun z => q a H (Same.refl H) (by rw [cutV_all z]; exact h)), fun _ => q.go⟩
theorem call_listS {X : Cx} : CallR X (.type "list") (fun xs H Q => ∃ p ys, xs = [.ref p] ∧ (SqL X.K H p ys ∨ SqT X.K H p ys) ∧ New H (.lst ys) Q) := CallR.imp call_list_of fun _ _ _ ⟨p, ys, e, h, q⟩ => ⟨p, ys, e, h, q.go⟩
theorem call_tupleS {X : Cx} : CallR X (.type "tuple") (fun xs H Q => ∃ p ys, xs = [.ref p] ∧ (SqL X.K H p ys ∨ SqT X.K H p ys) ∧ SomeT X.K H ys Q) := CallR.imp call_tuple_of fun _ H _ ⟨p, ys, e, h, q⟩ => ⟨p, ys, e, by
  rcases h with h | h
  · exact .inl ⟨h, q.go⟩
  · exact .inr ⟨h, q p H (Same.refl H) h⟩⟩
theorem call_divmodS {X : Cx} : CallR X (.builtin "divmod") (fun xs H Q => ∃ i j, xs = [.int i, .int j] ∧ CDiv i j ∧ New H (.tup [.int (i / j), .int (i % j)]) Q) := CallR.imp call_divmod fun _ _ _ ⟨i, j, e, h, q⟩ => ⟨i, j, e, h, q.go⟩
def rAppendS : V → List V → Hp → VK → Prop := fun x vs H Q => ∃ l xs y, x = .ref l ∧ vs = [y] ∧ H l = some (.lst xs) ∧ xs.length < sizeLine ∧ Chg H l (.lst (xs ++ [y])) (Q .non)
theorem mt_appendS {X : Cx} : MtM X "list.append" rAppendS := MtM.imp mt_append fun _ _ _ _ ⟨l, xs, y, e1, e2, h1, h2, q⟩ => ⟨l, xs, y, e1, e2, h1, h2, q.go⟩
def rReverseS : V → List V → Hp → VK → Prop := fun x vs H Q => ∃ l xs, x = .ref l ∧ vs = [] ∧ H l = some (.lst xs) ∧ Chg H l (.lst xs.reverse) (Q .non)
theorem mt_reverseS {X : Cx} : MtM X "list.reverse" rReverseS := MtM.imp mt_reverse fun _ _ _ _ ⟨l, xs, e1, e2, h1, q⟩ => ⟨l, xs, e1, e2, h1, q.go⟩
def rExtendS : V → List V → Hp → VK → Prop := fun x vs H Q => ∃ l b xs zs, x = .ref l ∧ vs = [.ref b] ∧ H l = some (.lst xs) ∧ H b = some (.lst zs) ∧ xs.length + zs.length ≤ sizeLine ∧ Chg H l (.lst (xs ++ zs)) (Q .non)
theorem mt_extendS {X : Cx} : MtM X "list.extend" rExtendS := MtM.imp mt_extend fun _ _ _ _ ⟨l, b, xs, zs, e1, e2, h1, h2, h3, q⟩ => ⟨l, b, xs, zs, e1, e2, h1, h2, h3, q.go⟩
def rSetLS : V → V → V → Hp → (Hp → Prop) → Prop := fun o i v H Q => ∃ p xs k j, o = .ref p ∧ i = .int k ∧ H p = some (.lst xs) ∧ ixN xs.length k = some j ∧ Chg H p (.lst (xs.set j v)) Q
theorem set_listS {X : Cx} : PSet X rSetLS := PSet.imp set_list fun _ _ _ _ _ ⟨p, xs, k, j, e1, e2, h1, h2, q⟩ => ⟨p, xs, k, j, e1, e2, h1, h2, q.go⟩
/-- a pair that a walk gives: a new tuple -/
def YPairS (xs ys : Nat → Option V) : Nat → Hp → V → Hp → Prop := fun i H v H' => ∃ T x y, v = .ref T ∧ Same H H' ∧ H' T = some (.tup [x, y]) ∧ xs i = some x ∧ ys i = some y
theorem pairS {J : It} {n : Nat} {G : Hp → Prop} {xs ys : Nat → Option V} (w : L2.Walk J n G (YPair xs ys)) : L2.Walk J n G (YPairS xs ys) :=
  w.mono (fun _ h => h) fun _ _ _ _ _ _ ⟨T, x, y, e, nT, eH, e1, e2⟩ => ⟨T, x, y, e, by rw [eH]; exact same_new nT, by rw [eH]; exact upd_same, e1, e2⟩
/-- Sav, But: what a change of a list that is none of the elder ones keeps -/
theorem Sav.mut {p l : Addr} {H H1 H2 : Hp} (s : Sav p H H1) (n : H l = none) (b : But l H1 H2) : Sav p H H2 := fun c o e ne => by
  rw [b c (ne_of_none e n)]
  exact s c o e ne
theorem Sav.chg {p : Addr} {H H1 H2 : Hp} (s : Sav p H H1) (b : But p H1 H2) : Sav p H H2 := s.trans b.sav
theorem Sav.s {p : Addr} {H H1 H2 : Hp} (s : Sav p H H1) (b : Same H1 H2) : Sav p H H2 := s.trans (.of b)
theorem newF {H H1 : Hp} {p : Addr} {o : HO} (n : H p = none) (e : upd H p o = H1) : Same H H1 ∧ H1 p = some o := by
  subst e
  exact ⟨same_new n, upd_same⟩
theorem butF {H H1 : Hp} {p : Addr} {o : HO} (e : upd H p o = H1) : But p H H1 ∧ H1 p = some o := by
  subst e
  exact ⟨but_upd, upd_same⟩
theorem sz5 {n : Nat} (h : n ≤ 100000) : n ≤ sizeLine := Nat.le_trans h (by decide)
theorem get_push {α : Type} {l : List α} {a u : α} {j : Nat} (h : (l ++ [a])[j]? = some u) : l[j]? = some u ∨ (j = l.length ∧ u = a) := by
  by_cases hj : j < l.length
  · rw [List.getElem?_append_left hj] at h
    exact .inl h
  · rw [List.getElem?_append_right (by omega)] at h
    have hj2 : j - l.length = 0 := by
      have := (List.getElem?_eq_some_iff.mp h).1
      simp at this
      omega
    rw [hj2] at h
    simp at h
    exact .inr ⟨by omega, h.symm⟩

structure Top (K : PySem.W.Frag) (mg : Str → Option Value) where
  a_part_of : Addr
  fd_part_of : FuncData
  F_part_of : FunDD K "part_of" "part_of" s_part_of [.non] a_part_of fd_part_of
  g_part_of : mg "part_of" = some (.ref a_part_of)
  a_l_dip : Addr
  fd_l_dip : FuncData
  F_l_dip : Fun K "_law_dip" "_law_dip" s_l_dip a_l_dip fd_l_dip
  g_l_dip : mg "_law_dip" = some (.ref a_l_dip)
  b_l_dip : Binds K fd_l_dip ["_law_script", "_law_k"] []
  a_l_take : Addr
  fd_l_take : FuncData
  F_l_take : Fun K "_law_take" "_law_take" s_l_take a_l_take fd_l_take
  g_l_take : mg "_law_take" = some (.ref a_l_take)
  b_l_take : Binds K fd_l_take ["_law_box", "_law_many"] []
  a_l_folded : Addr
  fd_l_folded : FuncData
  F_l_folded : Fun K "_law_folded" "_law_folded" s_l_folded a_l_folded fd_l_folded
  g_l_folded : mg "_law_folded" = some (.ref a_l_folded)
  b_l_folded : Binds K fd_l_folded ["_law_script", "_law_size"] []
  a_l_total : Addr
  fd_l_total : FuncData
  F_l_total : Fun K "_law_total" "_law_total" s_l_total a_l_total fd_l_total
  g_l_total : mg "_law_total" = some (.ref a_l_total)
  b_l_total : Binds K fd_l_total ["_law_box"] []
  a_l_is_number : Addr
  fd_l_is_number : FuncData
  F_l_is_number : Fun K "_law_is_number" "_law_is_number" s_l_is_number a_l_is_number fd_l_is_number
  g_l_is_number : mg "_law_is_number" = some (.ref a_l_is_number)
  b_l_is_number : Binds K fd_l_is_number ["_law_thing"] []
  a_l_due : Addr
  fd_l_due : FuncData
  F_l_due : Fun K "_law_due" "_law_due" s_l_due a_l_due fd_l_due
  g_l_due : mg "_law_due" = some (.ref a_l_due)
  b_l_due : Binds K fd_l_due ["_law_total_here", "_law_many", "_law_first", "_law_end"] []
  a_l_cut : Addr
  fd_l_cut : FuncData
  F_l_cut : Fun K "_law_cut" "_law_cut" s_l_cut a_l_cut fd_l_cut
  g_l_cut : mg "_law_cut" = some (.ref a_l_cut)
  b_l_cut : Binds K fd_l_cut ["_law_box", "_law_many"] []
  a_l_right : Addr
  fd_l_right : FuncData
  F_l_right : Fun K "_law_right" "_law_right" s_l_right a_l_right fd_l_right
  g_l_right : mg "_law_right" = some (.ref a_l_right)
  b_l_right : Binds K fd_l_right ["_law_box", "_law_total_here", "_law_many"] []
  a_law : Addr
  fd_law : FuncData
  F_law : Fun K "law" "law" s_law a_law fd_law
  b_law : Binds K fd_law ["_law_script"] []
  kb_part_of_3 : KB K fd_part_of ["total", "many", "first", "last"] 3 [] [(.u 0), (.u 1), (.u 2), (.d 0)] [.non]
  kb_part_of_3_last : KB K fd_part_of ["total", "many", "first", "last"] 3 ["last"] [(.u 0), (.u 1), (.u 2), (.w 0)] [.non]
  kb_part_of_4 : KB K fd_part_of ["total", "many", "first", "last"] 4 [] [(.u 0), (.u 1), (.u 2), (.u 3)] [.non]
  z_abs : mg "abs" = none
  z_all : mg "all" = none
  z_bool : mg "bool" = none
  z_enumerate : mg "enumerate" = none
  z_int : mg "int" = none
  z_isinstance : mg "isinstance" = none
  z_len : mg "len" = none
  z_list : mg "list" = none
  z_min : mg "min" = none
  z_range : mg "range" = none
  z_set : mg "set" = none
  z_sorted : mg "sorted" = none
  z_sum : mg "sum" = none
  z_zip : mg "zip" = none

/-! ### the law's own helpers: dip, take, folded -/
/-- the box of draws at p: three numbers; at most n draws by reckoning so far -/
def BoxAt (H : Hp) (p : Addr) (n : Nat) : Prop := ∃ a b c : Int, H p = some (.lst [.int a, .int b, .int c]) ∧ 0 ≤ a ∧ 0 ≤ b ∧ b < 2 ^ 62 ∧ 0 ≤ c ∧ c ≤ n
theorem BoxAt.mono {H : Hp} {p : Addr} {m n : Nat} (h : BoxAt H p m) (l : m ≤ n) : BoxAt H p n := by
  obtain ⟨a, b, c, e, h1, h2, h3, h4, h5⟩ := h
  exact ⟨a, b, c, e, h1, h2, h3, h4, by omega⟩
theorem BoxAt.same {H H' : Hp} {p : Addr} {n : Nat} (h : BoxAt H p n) (s : Same H H') : BoxAt H' p n := by
  obtain ⟨a, b, c, e, r⟩ := h
  exact ⟨a, b, c, s _ _ e, r⟩
theorem BoxAt.new {H : Hp} {p q : Addr} {n : Nat} {o : HO} (h : BoxAt H p n) (hq : H q = none) : BoxAt (upd H q o) p n := h.same (same_new hq)
theorem BoxAt.but {H H' : Hp} {p l : Addr} {n : Nat} (h : BoxAt H p n) (b : But l H H') (ne : p ≠ l) : BoxAt H' p n := by
  obtain ⟨a, b', c, e, r⟩ := h
  exact ⟨a, b', c, by rw [b p ne]; exact e, r⟩
/-- what is free behind was free ahead -/
theorem Sav.free {p l : Addr} {H H' : Hp} {n : Nat} (s : Sav p H H') (B' : BoxAt H' p n) (h : H' l = none) : H l = none := by
  obtain ⟨a, b, c, e, _⟩ := B'
  cases hz : H l with
  | none => rfl
  | some o =>
    have := s l o hz (by intro z; rw [z, e] at h; cases h)
    rw [h] at this
    cases this
theorem BoxAt.some {H : Hp} {p : Addr} {n : Nat} (h : BoxAt H p n) : ∃ o, H p = Option.some o := by
  obtain ⟨a, b, c, e, r⟩ := h
  exact ⟨_, e⟩
def spTake : Sp := fun vs H Q _ => ∃ (p : Addr) (m : Int) (n : Nat), vs = [.ref p, .int m] ∧ BoxAt H p n ∧ 0 < m ∧ m < 2 ^ 64 ∧ n < 2 ^ 40 ∧
  ∀ (r : Int) (H' : Hp), 0 ≤ r → r < m → BoxAt H' p (n + 1) → But p H H' → Q (.int r) H'
def spDip (K : PySem.W.Frag) : Sp := fun vs H Q _ => ∃ (a : Addr) (ns : List Int) (k : Nat), vs = [.ref a, .int (k : Int)] ∧ SqL K H a (ns.map V.int) ∧ ns.length ≤ 1000 ∧ k ≤ 1000 ∧
  ∀ (p : Addr) (H' : Hp), H p = none → BoxAt H' p 0 → But p H H' → Q (.ref p) H'
def spFolded (K : PySem.W.Frag) : Sp := fun vs H Q _ => ∃ (a : Addr) (ns : List Int) (k : Nat), vs = [.ref a, .int (k : Int)] ∧ SqL K H a (ns.map V.int) ∧ ns.length ≤ 63 ∧ 1 ≤ k ∧ k ≤ 63 ∧
  ∀ (p : Addr) (ms : List Int) (H' : Hp), H p = none → H' p = some (.lst (ms.map V.int)) → ms.length = min k ns.length → Same H H' → Q (.ref p) H'
theorem fdiv_nonneg {a m : Int} (h : 0 ≤ a) (hm : 0 < m) : 0 ≤ a / m := Int.ediv_nonneg h (Int.le_of_lt hm)
section
variable {P : Program} {w : World} {K : PySem.W.Frag} {mg : Str → Option Value} {base : Heap}
theorem ok_take (T : Top K mg) : FnOk P w K mg base CX0 1 T.a_l_take T.fd_l_take ["_law_box", "_law_many"] spTake := by
  refine T.F_l_take.ok sc_l_take (fun vs H Q E h => ?_) (fun cdv A outer s H vs Q E hr h => ?_)
  · obtain ⟨p, m, n, rfl, _⟩ := h
    rfl
  · obtain ⟨p, m, n, rfl, ⟨a, b, c, hp, a0, b0, b1, c0, c1⟩, m0, m1, hn, k⟩ := h
    have m2 : m.natAbs < 2 ^ 64 := by omega
    refine ⟨_, (pss_cons (ps_if (pt_cmpR op_gt (pe_ix ix_list (pv 0) pe_int (fun _ _ => rfl)) pe_int (nomark _))
    (pss_cons (ps_set (i := 2) sc_l_take.nd rfl (Or.inl rfl) (pe_op op_mod (pe_ix ix_list (pv 0) pe_int (fun _ _ => rfl)) (pv 1)))
    (pss_cons (ps_asg (pe_op op_fdivW (pe_ix ix_list (pv 0) pe_int (fun _ _ => rfl)) (pv 1)) (pg_sub (pv 0) pe_int set_listS))
    (pss_one (ps_ret (pv 2)))))
    pss_nil)
  (pss_cons (ps_asg (pe_op op_add (pe_ix ix_list (pv 0) pe_int (fun _ _ => rfl)) pe_int) (pg_sub (pv 0) pe_int set_listS))
  (pss_cons (ps_set (i := 3) sc_l_take.nd rfl (Or.inl rfl) (pe_op op_mod (pe_op op_pow (pe_op op_add (pe_ix ix_list (pv 0) pe_int (fun _ _ => rfl)) (pe_op op_mul pe_int (pe_ix ix_list (pv 0) pe_int (fun _ _ => rfl)))) pe_int) pe_int))
  (pss_cons (ps_set (i := 4) sc_l_take.nd rfl (Or.inl rfl) (pe_op op_mod (pe_op op_mul (pe_op op_add (pe_op op_add (pv 3) (pe_ix ix_list (pv 0) pe_int (fun _ _ => rfl))) (pe_op op_fdivW (pe_ix ix_list (pv 0) pe_int (fun _ _ => rfl)) pe_int)) (pe_op op_add (pe_op op_add (pe_op op_mod (pv 3) pe_int) pe_int) (pe_ix ix_list (pv 0) pe_int (fun _ _ => rfl)))) pe_int))
  (pss_one (ps_ret (pe_op op_mod (pe_op op_fdivW (pe_op op_mod (pe_op op_add (pe_op op_mul (pv 4) pe_int) (pv 3)) pe_int) pe_int) (pv 1)))))))), ?_⟩
    have hS : SqL K H p [.int a, .int b, .int c] := sqL hp
    refine ⟨_, rfl, p, _, 0, _, rfl, rfl, hS, rfl, _, _, rfl, rfl, _, rfl, iteD (fun ha => ?_) (fun ha => ?_)⟩
    · -- the number's own digits
      refine ⟨_, rfl, p, _, 0, _, rfl, rfl, hS, rfl, _, rfl, _, _, rfl, rfl, m0, ?_⟩
      refine ⟨_, rfl, p, _, 0, _, rfl, rfl, hS, rfl, _, rfl, _, _, rfl, rfl, wide_div m0 m2 (by decide) (by decide), ?_⟩
      refine ⟨_, rfl, p, _, _, 0, rfl, rfl, hp, rfl, fun H1 f1 e1 => ?_⟩
      exact ⟨_, rfl, k _ _ (Int.emod_nonneg _ (by omega)) (Int.emod_lt_of_pos _ m0) ⟨_, _, _, e1, fdiv_nonneg a0 m0, b0, b1, c0, by omega⟩ f1⟩
    · -- mixed
      refine ⟨_, rfl, p, _, 2, _, rfl, rfl, hS, rfl, _, _, rfl, rfl, ?_⟩
      refine ⟨_, rfl, p, _, _, 2, rfl, rfl, hp, rfl, fun H1 hB e1 => ?_⟩
      have hp1 : H1 p = some (.lst [.int a, .int b, .int (c + 1)]) := e1
      have hS1 : SqL K H1 p [.int a, .int b, .int (c + 1)] := sqL hp1
      have q1 : (b + 39373 * (c + 1)).natAbs < 2 ^ 64 := by omega
      refine ⟨_, rfl, p, _, 1, _, rfl, rfl, hS1, rfl, _, rfl, p, _, 2, _, rfl, rfl, hS1, rfl, _, _, rfl, rfl, .inl ⟨by decide, by decide⟩, _, _, rfl, rfl, _, _, rfl, rfl, ⟨by decide, by decide, q1⟩, _, _, rfl, rfl, by show (0 : Int) < 2147483647; decide, ?_⟩
      generalize (b + 39373 * (c + 1)) ^ (5 : Int).toNat % 2147483647 = once
      refine ⟨_, rfl, _, rfl, p, _, 2, _, rfl, rfl, hS1, rfl, _, _, rfl, rfl, ?_⟩
      refine ⟨_, rfl, p, _, 1, _, rfl, rfl, hS1, rfl, _, _, rfl, rfl, wide_div (b := 64) (by decide) (by decide) (by decide) (by decide), _, _, rfl, rfl, ?_⟩
      refine ⟨_, rfl, _, _, rfl, rfl, by show (0 : Int) < 40009; decide, _, _, rfl, rfl, _, rfl, p, _, 2, _, rfl, rfl, hS1, rfl, _, _, rfl, rfl, ?_⟩
      have q2 := Int.emod_nonneg once (b := 40009) (by decide)
      have q3 := Int.emod_lt_of_pos once (b := 40009) (by decide)
      refine ⟨_, _, rfl, rfl, .inr ⟨by omega, by omega⟩, _, _, rfl, rfl, by show (0 : Int) < 2147483629; decide, ?_⟩
      refine ⟨_, rfl, _, _, rfl, rfl, .inr ⟨by decide, by decide⟩, _, rfl, _, _, rfl, rfl, _, _, rfl, rfl, by show (0 : Int) < 2147483587; decide, _, _, rfl, rfl, wide_div (b := 64) (by decide) (by decide) (by decide) (by decide), _, rfl, _, _, rfl, rfl, m0, ?_⟩
      exact k _ _ (Int.emod_nonneg _ (by omega)) (Int.emod_lt_of_pos _ m0) ⟨_, _, _, hp1, a0, b0, b1, by omega, by omega⟩ hB
theorem ok_dip (T : Top K mg) : FnOk P w K mg base CX0 1 T.a_l_dip T.fd_l_dip ["_law_script", "_law_k"] (spDip K) := by
  refine T.F_l_dip.ok sc_l_dip (fun vs H Q E h => ?_) (fun cdv A outer s H vs Q E hr h => ?_)
  · obtain ⟨p, m, n, rfl, _⟩ := h
    rfl
  · obtain ⟨a, ns, k, rfl, hS, hl, hk, q⟩ := h
    refine ⟨_, (pss_cons (ps_set (i := 2) sc_l_dip.nd rfl (Or.inl rfl) (pe_ifExp (pt_cmpR op_lt (pv 1) (pe_callB call_len (by rfl) T.z_len (by decide +kernel) (pa_cons (pv 0) pa_nil)) (nomark _)) (pe_ix ix_list (pv 0) (pv 1) (fun _ _ => rfl)) pe_int))
  (pss_one (ps_ret (pe_lst (pa_cons (pe_op op_mul (pe_callB call_abs (by rfl) T.z_abs (by decide +kernel) (pa_cons (pv 2) pa_nil)) (pe_callTy call_int1 (by rfl) T.z_int (by decide +kernel) (pa_cons (pe_cmpR op_ge (pe_callB call_abs (by rfl) T.z_abs (by decide +kernel) (pa_cons (pv 2) pa_nil)) (pe_op op_pow pe_int pe_int) (nomark _)) pa_nil))) (pa_cons (pe_op op_add (pe_op op_add (pe_op op_mod (pv 2) pe_int) (pe_op op_mul pe_int (pv 1))) pe_int) (pa_cons pe_int pa_nil))))))), ?_⟩
    refine ⟨_, rfl, _, rfl, _, _, rfl, .inl ⟨_, hS, rfl⟩, _, _, rfl, rfl, _, rfl, ?_⟩
    have b01 : ∀ c : Bool, 0 ≤ (if c = true then (1 : Int) else 0) ∧ (if c = true then (1 : Int) else 0) ≤ 1 := by intro c; cases c <;> decide
    have rest : ∀ (z : Int) (p : Addr), H p = none → Q (.ref p) (upd H p (.lst [.int ((if z < 0 then -z else z) * (if decide ((10 : Int) ^ (18 : Int).toNat ≤ (if z < 0 then -z else z)) = true then 1 else 0)), .int (z % 2305843009213693951 + 39373 * (k : Int) + 17), .int 0])) := by
      intro z p hp
      have q2 := Int.emod_nonneg z (b := 2305843009213693951) (by decide)
      have q3 := Int.emod_lt_of_pos z (b := 2305843009213693951) (by decide)
      refine q p _ hp ⟨_, _, _, upd_same, ?_, by omega, by omega, by decide, by decide⟩ but_upd
      exact Int.mul_nonneg (by split <;> omega) (b01 _).1
    have cm : ∀ z : Int, CMul (if z < 0 then -z else z) (if decide ((10 : Int) ^ (18 : Int).toNat ≤ (if z < 0 then -z else z)) = true then 1 else 0) := fun z => .inr ⟨Int.lt_of_lt_of_le (by decide) (b01 _).1, Int.lt_of_le_of_lt (b01 _).2 (by decide)⟩
    refine iteD (fun hlt => ?_) (fun hlt => ?_)
    · have hlt' : k < ns.length := by
        rw [List.length_map] at hlt
        omega
      refine ⟨_, rfl, _, rfl, a, _, _, _, rfl, rfl, hS, atI_nat (j := k) (v := .int ns[k]) (by simp [hlt']), ?_⟩
      refine ⟨_, rfl, _, rfl, _, rfl, _, rfl, _, _, rfl, rfl, ⟨by decide, by decide, by decide⟩, _, _, rfl, rfl, .inr ⟨_, rfl, _, _, rfl, rfl, cm _, ?_⟩⟩
      refine ⟨_, rfl, _, _, rfl, rfl, by show (0 : Int) < 2305843009213693951; decide, _, rfl, _, _, rfl, rfl, .inl ⟨by decide, by decide⟩, _, _, rfl, rfl, _, _, rfl, rfl, (by show 3 ≤ sizeLine; decide), ?_⟩
      exact rest ns[k]
    · refine ⟨_, rfl, _, rfl, _, rfl, _, rfl, _, _, rfl, rfl, ⟨by decide, by decide, by decide⟩, _, _, rfl, rfl, .inr ⟨_, rfl, _, _, rfl, rfl, cm _, ?_⟩⟩
      refine ⟨_, rfl, _, _, rfl, rfl, by show (0 : Int) < 2305843009213693951; decide, _, rfl, _, _, rfl, rfl, .inl ⟨by decide, by decide⟩, _, _, rfl, rfl, _, _, rfl, rfl, (by show 3 ≤ sizeLine; decide), ?_⟩
      exact rest 0
end
theorem same_mut {H H' : Hp} {l : Addr} {o : HO} (s : Same H H') (n : H l = none) : Same H (upd H' l o) := fun b x e => by
  rw [upd_ne (ne_of_none e n)]
  exact s b x e
theorem cutV_map {α : Type} (f : α → V) (xs : List α) (lo hi : Option Int) : cutV (xs.map f) lo hi = ((xs.drop (HT.sIx xs.length 0 lo)).take (HT.sIx xs.length xs.length hi - HT.sIx xs.length 0 lo)).map f := by
  unfold cutV
  rw [List.length_map, List.map_take, List.map_drop]
section
variable {P : Program} {w : World} {K : PySem.W.Frag} {mg : Str → Option Value} {base : Heap}
theorem ok_folded (T : Top K mg) : FnOk P w K mg base CX0 1 T.a_l_folded T.fd_l_folded ["_law_script", "_law_size"] (spFolded K) := by
  refine T.F_l_folded.ok sc_l_folded (fun vs H Q E h => ?_) (fun cdv A outer s H vs Q E hr h => ?_)
  · obtain ⟨p, m, n, rfl, _⟩ := h
    rfl
  · obtain ⟨a, ns, k, rfl, hS, hl, k1, k2, q⟩ := h
    refine ⟨_, (pss_cons (ps_set (i := 2) sc_l_folded.nd rfl (Or.inl rfl) (pe_callTy call_listS (by rfl) T.z_list (by decide +kernel) (pa_cons (pe_slice sl_listS (pv 0) po_none (po_some (pv 1))) pa_nil)))
  (pss_cons (ps_for PassesOwn.never rfl (pi_enum (by rfl) T.z_enumerate (pa_cons (pe_slice sl_listS (pv 0) (po_some (pv 1)) (po_some pe_int)) pa_nil)) (pg_tup rfl (pgs_cons (pg_name (i := 3) sc_l_folded.nd rfl (Or.inl rfl)) (pgs_cons (pg_name (i := 4) sc_l_folded.nd rfl (Or.inl rfl)) pgs_nil)))
    (pss_one (ps_asg (pe_op op_add (pe_ix ix_list (pv 2) (pe_op op_mod (pv 3) (pv 1)) (fun _ _ => rfl)) (pe_op op_mul (pv 4) (pe_op op_add (pv 3) pe_int))) (pg_sub (pv 2) (pe_op op_mod (pv 3) (pv 1)) set_listS))))
  (pss_one (ps_ret (pv 2))))), ?_⟩
    refine ⟨_, rfl, _, rfl, _, rfl, a, _, rfl, hS, fun p1 H1 np1 s1 e1 => ?_⟩
    refine ⟨p1, _, rfl, .inl (sqL e1), fun l H2 nl s12 e2 => ?_⟩
    have nl0 : H l = none := s1.free nl
    have s2 : Same H H2 := s1.trans s12
    rw [cutV_map, HT.sIx_none, HT.sIx_nat, Nat.sub_zero, List.drop_zero, ← List.take_eq_take_min] at e2
    refine ⟨_, rfl, _, rfl, _, rfl, _, rfl, a, _, rfl, s2.seq hS, fun p2 H2' np2 s22 e22 => ?_⟩
    rw [cutV_map] at e22
    revert e22
    generalize hcs : (ns.drop (HT.sIx ns.length 0 (some (k : Int)))).take (HT.sIx ns.length ns.length (some 63) - HT.sIx ns.length 0 (some (k : Int))) = cs
    have hcl : cs.length ≤ 63 ∧ (cs ≠ [] → k < ns.length) := by
      rw [← hcs, HT.sIx_nat, List.length_take, List.length_drop]
      refine ⟨by omega, fun h => ?_⟩
      by_cases hk : k < ns.length
      · exact hk
      · exact absurd (by rw [List.drop_eq_nil_of_le (by omega), List.take_nil]) h
    intro e22
    have np2l : l ≠ p2 := ne_of_none e2 np2
    refine ⟨p2, _, rfl, sqL e22, for_it (walk_enum (xs := cs.map V.int)) (fun i σ H3 => ∃ (ms : List Int) (y3 y4 : Option V), σ = [some (.ref a), some (.int (k : Int)), some (.ref l), y3, y4] ∧ H3 l = some (.lst (ms.map V.int)) ∧ ms.length = min k ns.length ∧ Same H H3 ∧ H3 p2 = some (.lst (cs.map V.int)))
      ⟨ns.take k, none, none, rfl, s22 _ _ e2, by rw [List.length_take], s2.trans s22, e22⟩ (fun i σ H3 _ ⟨_, _, _, _, _, _, _, h⟩ => sqL h) ?_ ?_⟩
    · rintro i x σ H3 H4 hi ⟨ms, y3, y4, rfl, el, hm, s3, ep⟩ ⟨t, x1, x2, rfl, nt, rfl, e1, e2'⟩
      cases e1
      rw [List.length_map] at hi
      have ex2 : x2 = .int cs[i] := by
        have e2' : (cs.map V.int)[i]? = some x2 := e2'
        rw [List.getElem?_map, List.getElem?_eq_getElem hi] at e2'
        exact (Option.some.inj e2').symm
      subst ex2
      have hk : k < ns.length := hcl.2 (by intro z; rw [z] at hi; exact absurd hi (Nat.not_lt_zero _))
      have ntl : l ≠ t := ne_of_none el nt
      have ntp : p2 ≠ t := ne_of_none ep nt
      have el4 : (upd H3 t (.tup [.int (i : Nat), .int cs[i]])) l = some (.lst (ms.map V.int)) := by rw [upd_ne ntl]; exact el
      have hj : i % k < ms.length := by rw [hm]; have := Nat.mod_lt i k1; omega
      have ej : ((i : Int) % (k : Int)) = ((i % k : Nat) : Int) := by omega
      have gj : (ms.map V.int)[i % k]? = some (.int ms[i % k]) := by simp [hj]
      have kp : (0 : Int) < (k : Int) := by omega
      refine ⟨t, _, rfl, sqT upd_same, rfl, _, _, rfl, _, _, rfl, rfl, ?_⟩
      refine ⟨_, rfl, _, rfl, _, rfl, _, _, rfl, rfl, kp, l, _, _, _, rfl, rfl, sqL el4, at_of ej gj, ?_⟩
      refine ⟨_, rfl, _, rfl, _, _, rfl, rfl, _, _, rfl, rfl, .inr ⟨by omega, by omega⟩, _, _, rfl, rfl, ?_⟩
      refine ⟨_, rfl, _, rfl, _, rfl, _, _, rfl, rfl, kp, l, _, _, i % k, rfl, rfl, el4, ?_, fun H5 f5 e5 => ?_⟩
      · rw [ej, List.length_map]
        exact ixN_nat' hj
      · refine ⟨ms.set (i % k) (ms[i % k] + cs[i] * ((i : Int) + 2)), _, _, rfl, ?_, by rw [List.length_set]; exact hm, same_but (s3.trans (same_new nt)) nl0 f5, ?_⟩
        · rw [e5, List.map_set]
        · rw [f5 _ np2l.symm, upd_ne ntp]; exact ep
    · rintro σ H3 ⟨ms, y3, y4, rfl, el, hm, s3, ep⟩
      exact ⟨_, rfl, q l ms H3 nl0 el hm s3⟩
end

/-! ### set(xs) of a list of whole numbers, to be sorted -/
section
open PySem.Spec PyProof.Rows
abbrev bareSet (w : World) : Obj := { cls := .type "set", dict := none, data := .set #[] 0 (.fresh 0 0 (!w.params.followText "set-order")) }
variable {P : Program} {w : World} {A : Around} {E : Value → Shared → Prop} {s : Shared}
set_option maxRecDepth 100000 in
set_option maxHeartbeats 3200000 in
theorem call_setOfInts {l : Addr} {its : Array Value} (ns : List Int) {Q : Value → Shared → Prop} (hh : A.handled = none) (hl : s.heap.IsList l its) (hit : IntsAre its.toList ns) (hb : ns.length + 1 < scanBound)
    (done : ∀ (g : Heap) (tk c : Nat), SetR w g s.heap.objs.size (fun j => decide (j ∈ ns)) c → c ≤ ns.length → (∀ b o, s.heap.get? b = some o → g.get? b = some o) → Q (.ref s.heap.objs.size) { s with heap := g, toks := tk }) :
    wpAny (model P w) A (call (.type "set") [.ref l]) Q E s := by
  have many : its.size = ns.length := by have q := IntsAre.length hit; rwa [Array.length_toList] at q
  obtain ⟨c0, tl, hmro⟩ := F.called_set.mro
  have made := F.called_set.made; have hsub := F.called_set.sub
  refine wpAny_call (codeAny_of_tree (show wpAny _ _ (callAny (.type "set") _) _ _ _ from ?_))
  refine wpAny_pure ⟨Code.quiet_builtin _ (by decide +kernel), codeAny_builtin F.entry_type_call ?_⟩; rw [Around.under_plain (weight_type_call_type "set" [.ref l] []) rfl]
  have k1 := F.called_set.notType; have k2 := F.called_set.canCreate; have k3 := F.typeCall_set_1 (.ref l)
  (repeat (any_goals (first | assumption | wp_step)))
  refine codeAny_mono (code_set_led1 (.ref l) (E := E) (Q₁ := fun obj s₁ => obj = .ref s.heap.objs.size ∧ s₁ = { s with heap := s.heap.push (bareSet w) }) ⟨rfl, rfl⟩) fun r s₁ hr => ?_
  match r, hr with
  | .error e, hr => exact hr
  | .ok .next, hr => exact hr.elim
  | .ok .brk, hr => exact hr.elim
  | .ok .cont, hr => exact hr.elim
  | .ok (.ret obj), hr =>
    obtain ⟨rfl, rfl⟩ := hr
    have atS : (s.heap.push (bareSet w)).get? s.heap.objs.size = some (bareSet w) := Heap.get?_push_size _ rfl
    have tyS : Shared.TypeIs { s with heap := s.heap.push (bareSet w) } (.ref s.heap.objs.size) "set" := ⟨_, atS, rfl⟩
    have li := F.called_set.init.lookup; have bi := F.called_set.init.bind (.ref s.heap.objs.size)
    (repeat (any_goals (first | assumption | wp_step)))
    refine codeAny_mono (codeAny_call_builtin (R := wants (fun r s₂ => r = .none ∧ ∃ g tk c, s₂ = { s with heap := g, toks := tk } ∧ SetR w g s.heap.objs.size (fun j => decide (j ∈ ns)) c ∧ c ≤ ns.length ∧ (∀ b o, s.heap.get? b = some o → g.get? b = some o)) E)
      F.called_set.init.plain F.entry_set_init (check_set_init_1 tyS ?_)) fun r₂ s₂ hr₂ => ?_
    · obtain ⟨⟨oc, od, odata, osl⟩, hol, hcl, nl, hdl⟩ := hl
      simp only at hcl hdl; subst hcl; subst hdl
      have hol2 : (s.heap.push (bareSet w)).get? l = some { cls := .type "list", dict := od, data := .seq its nl, slots := osl } := Heap.get?_push_of_some _ hol
      have f1 := F.sub_list_set; have f2 := F.sub_list_frozenset
      have f3 : (Value.type "list" == Value.type "dict") = false := by decide
      have hl1 : (s.heap.push (bareSet w)).IsList l its := ⟨_, hol2, rfl, nl, rfl⟩
      unfold Builtin.«set.__init__» noKeywords Builtin.Frozenset.updateFrom
      generalize hPI : pyIter = PI; wp_walk; subst hPI
      refine wpAny_pyIter_list hl1 (wpAny_bind (wpAny_runValue ?_))
      have lt : l < s.heap.objs.size := Heap.lt_size hol
      have hh3 : A.in1.in1.in1.handled = none := by simp [hh]
      have ne1 : l ≠ (s.heap.push (bareSet w)).objs.size := by rw [Heap.size_push]; exact Nat.ne_of_lt (Nat.lt_succ_of_lt lt)
      have off : s.heap.objs.size ∉ [(s.heap.push (bareSet w)).objs.size, l] := by
        rw [Heap.size_push]; simp only [List.mem_cons, List.not_mem_nil, or_false, not_or]; exact ⟨Nat.ne_of_lt (Nat.lt_succ_self _), Nat.ne_of_gt lt⟩
      have val : ∀ (i : Nat) (v : Value), its[i]? = some v → ∃ k t, ns[i]? = some k ∧ v = .int k t := fun i v hv => by
        have hi : i < ns.length := by rw [← many]; exact (Array.getElem?_eq_some_iff.mp hv).1
        obtain ⟨t, e⟩ := PyProof.Rows.IntsAre.int_at hit i v (by rw [Array.getElem?_toList]; exact hv)
        exact ⟨ns[i], t, List.getElem?_eq_getElem hi, by rw [e, List.getD_eq_getElem?_getD, List.getElem?_eq_getElem hi] <;> rfl⟩
      refine set_update_ints ((Walks.list hh3 _ l ne1 its).toS) s.heap.objs.size off ns many hb val (its.size - 0) 0 _ (by omega) (Nat.zero_le _) ⟨⟨_, Heap.get?_push_size _ rfl, rfl, rfl⟩, (hl1.push _)⟩ ?h0 ?hR
      case h0 => exact ⟨0, Nat.le_refl 0, setR_new_at (Heap.get?_push_of_some _ atS)⟩
      case hR =>
        rintro ⟨g, g2, d2, tk, os2⟩ c hm hc hS
        have e1 : g2 = s.gens := hm.gens
        have e2 : d2 = s.drawn := hm.drawn
        have e3 : os2 = s.os := hm.os
        subst e1 e2 e3
        refine (show wpAny _ _ _ _ _ _ from wpAny_pure (show wpAny _ _ (ret Value.none) _ _ _ from ?_))
        rw [many] at hc
        refine wpAny_pure ⟨rfl, g, tk, c, rfl, hS, hc, fun b o e => hm.heap b o ?_ (Heap.get?_push_of_some _ (Heap.get?_push_of_some _ e))⟩
        have b0 : b < s.heap.objs.size := Heap.lt_size e
        simp only [List.mem_cons, List.not_mem_nil, or_false, not_or, Heap.size_push]
        exact ⟨Nat.ne_of_lt b0, Nat.ne_of_lt (Nat.lt_succ_of_lt b0)⟩
    · match r₂, hr₂ with
      | .error e, hr₂ => exact hr₂
      | .ok .next, hr₂ => exact hr₂.elim
      | .ok .brk, hr₂ => exact hr₂.elim
      | .ok .cont, hr₂ => exact hr₂.elim
      | .ok (.ret r), hr₂ =>
        obtain ⟨rfl, g, tk, c, rfl, hS, hc, hk⟩ := hr₂
        (repeat (any_goals (first | assumption | wp_step)))
        exact done _ _ _ hS hc hk
end
def rSetOfL (K : PySem.W.Frag) (w : World) : List V → Hp → VK → Prop := fun xs H Q => ∃ (l : Addr) (ns : List Int), xs = [V.ref l] ∧ SqL K H l (ns.map V.int) ∧ ns.length ≤ 1000 ∧
  ∀ (p : Addr) (c : Nat), H p = none → c ≤ ns.length → Q (.ref p) (upd H p (SetO w p (fun j => decide (j ∈ ns)) c))
theorem cr_setOfL {X : Cx} (hc : X.calm = true) : CallR X (.type "set") (rSetOfL X.K X.w) := by
  intro pins s σ H xs us Q I r h
  obtain ⟨l, ns, rfl, hq, hl, q⟩ := h
  obtain ⟨its, rv, pl, hz⟩ := I.list hq
  rw [Vals.ref1 r]
  refine call_setOfInts ns (I.ok.hd hc) pl.isList (by simpa using intsAre_vals rv) (by unfold scanBound; omega) fun g tk c hS hc2 hk => ?_
  have hn : H s.heap.objs.size = none := I.hok.fresh (Nat.le_refl _)
  have J : Inv X pins σ (upd H s.heap.objs.size (SetO X.w s.heap.objs.size (fun j => decide (j ∈ ns)) c)) { s with heap := g, toks := tk } :=
    I.call (ch := []) (Un.laid hk (Nat.le_refl _) hn) (I.hok.laid hk (Nat.le_refl _) (setO_new hS)) I.bare (fun _ z => nomatch z)
  exact ⟨.ref s.heap.objs.size, _, J, rfl, q _ c hn hc2⟩

abbrev lawLevel : Nat := 4
theorem last_rising {es : List Int} {z : Int} (h : es.Pairwise (· < ·)) (hz : z ∈ es) (hm : ∀ e ∈ es, e ≤ z) : es.getLast? = some z := by
  cases es with
  | nil => cases hz
  | cons a r =>
    have e := List.dropLast_concat_getLast (List.cons_ne_nil a r)
    rw [List.getLast?_eq_some_getLast (List.cons_ne_nil a r)]
    congr 1
    have h1 := hm _ (List.getLast_mem (List.cons_ne_nil a r))
    rw [← e] at h hz
    rcases List.mem_append.mp hz with h2 | h2
    · have := (List.pairwise_append.mp h).2.2 z h2 _ (List.mem_singleton.mpr rfl)
      omega
    · exact (List.mem_singleton.mp h2).symm
theorem part_bd {a t m : Int} (hm : 0 < m) : t / m ≤ (a + t) / m - a / m ∧ (a + t) / m - a / m ≤ t / m + 1 := by
  have h1 := Int.mul_ediv_add_emod a m
  have h2 := Int.mul_ediv_add_emod t m
  have h3 := Int.mul_ediv_add_emod (a + t) m
  have a1 := Int.emod_nonneg a (Int.ne_of_gt hm)
  have a2 := Int.emod_lt_of_pos a hm
  have b1 := Int.emod_nonneg t (Int.ne_of_gt hm)
  have b2 := Int.emod_lt_of_pos t hm
  have c1 := Int.emod_nonneg (a + t) (Int.ne_of_gt hm)
  have c2 := Int.emod_lt_of_pos (a + t) hm
  have e : m * ((a + t) / m - a / m - t / m) = a % m + t % m - (a + t) % m := by
    rw [Int.mul_sub, Int.mul_sub]
    omega
  have lo : -1 < (a + t) / m - a / m - t / m := by
    refine Int.lt_of_mul_lt_mul_left (a := m) ?_ (Int.le_of_lt hm)
    rw [e]
    omega
  have hi : (a + t) / m - a / m - t / m < 2 := by
    refine Int.lt_of_mul_lt_mul_left (a := m) ?_ (Int.le_of_lt hm)
    rw [e]
    omega
  omega
def part (t m f e : Int) : Int := t * (e + 1) / m - t * f / m
theorem tot_bd {t : Int} (h0 : 0 ≤ t) (h1 : t ≤ 10 ^ 12) : -(2 ^ 64) < t ∧ t < 2 ^ 64 := by omega
theorem tele (t m f : Int) : ∀ n : Nat, ((List.range n).map fun j : Nat => part t m (f + j) (f + j)).sum = t * (f + n) / m - t * f / m
  | 0 => by simp
  | n + 1 => by
    rw [List.range_succ, List.map_append, List.sum_append, tele t m f n]
    simp only [List.map_cons, List.map_nil, List.sum_cons, List.sum_nil, part]
    have e : f + (n : Int) + 1 = f + ((n + 1 : Nat) : Int) := by omega
    rw [e]
    omega
theorem part_all {t m : Int} (hm : 0 < m) : part t m 0 (m - 1) = t := by
  unfold part
  rw [show m - 1 + 1 = m by omega, Int.mul_zero, Int.zero_ediv, Int.mul_ediv_cancel _ (Int.ne_of_gt hm)]
  omega
theorem one_bd {t m d : Int} (hm : 0 < m) : t / m ≤ part t m d d ∧ part t m d d ≤ t / m + 1 := by
  unfold part
  rw [show t * (d + 1) = t * d + t by rw [Int.mul_add, Int.mul_one]]
  exact part_bd hm

/-! ### part_of -/
def spPart : Sp := fun vs H Q _ => ∃ (t m f : Int) (l : V), vs = [.int t, .int m, .int f, l] ∧ 0 ≤ t ∧ t ≤ 10 ^ 12 ∧ 0 < m ∧ m ≤ 4000 ∧ ((l = .non ∧ Q (.int (part t m f f)) H) ∨ ∃ e, l = .int e ∧ Q (.int (part t m f e)) H)
def spIsNum : Sp := fun vs H Q _ => ∃ i : Int, vs = [.int i] ∧ Q (.bl true) H
def spDue : Sp := fun vs H Q _ => ∃ (t m f e : Int), vs = [.int t, .int m, .int f, .int e] ∧ 0 ≤ t ∧ t ≤ 10 ^ 12 ∧ 0 < m ∧ m ≤ 4000 ∧ Q (.int (part t m f e)) H
def spTotal : Sp := fun vs H Q _ => ∃ (p : Addr) (n : Nat), vs = [.ref p] ∧ BoxAt H p n ∧ n < 2 ^ 39 ∧ ∀ (r : Int) (H' : Hp), 0 ≤ r → r ≤ 10 ^ 12 → BoxAt H' p (n + 10) → Sav p H H' → Q (.int r) H'
def CutOk (H : Hp) (ts : List Addr) (es : List Int) (m : Int) : Prop := ts.length = es.length ∧ es.length ≤ 63 ∧ es.getLast? = some (m - 1) ∧
  ∀ (j : Nat) (t : Addr), ts[j]? = some t → ∃ a b : Int, ((-1 : Int) :: es)[j]? = some a ∧ es[j]? = some b ∧ H t = some (.tup [.int (a + 1), .int b])
def spCut : Sp := fun vs H Q _ => ∃ (p : Addr) (m : Int) (n : Nat), vs = [.ref p, .int m] ∧ BoxAt H p n ∧ n < 2 ^ 39 ∧ 0 < m ∧ m ≤ 4000 ∧
  ∀ (l : Addr) (ts : List Addr) (es : List Int) (H' : Hp), H l = none → H' l = some (.lst (ts.map V.ref)) → CutOk H' ts es m → BoxAt H' p (n + 20) → Sav p H H' → Q (.ref l) H'
section
variable {P : Program} {w : World} {K : PySem.W.Frag} {mg : Str → Option Value} {base : Heap}
theorem ok_part (T : Top K mg) : FnOk P w K mg base CX0 1 T.a_part_of T.fd_part_of ["total", "many", "first", "last"] spPart := by
  refine T.F_part_of.ok sc_part_of (fun vs H Q E h => ?_) (fun cdv A outer s H vs Q E hr h => ?_)
  · obtain ⟨t, m, f, l, rfl, _⟩ := h
    rfl
  · obtain ⟨t, m, f, l, rfl, h1, h2, h3, h4, h⟩ := h
    have hd : CDivW (t * f) m := wide_div (b := 64) h3 (by omega) (by decide) (by decide)
    have tb := tot_bd h1 h2
    refine ⟨_, (pss_cons (ps_set (i := 4) sc_part_of.nd rfl (Or.inl rfl) (pe_ifExp (pt_cmpR op_isN (pv 3) pe_non (nomark _)) (pv 2) (pv 3)))
  (pss_one (ps_ret (pe_op op_sub (pe_op op_fdivW (pe_op op_mul (pv 0) (pe_op op_add (pv 4) pe_int)) (pv 1)) (pe_op op_fdivW (pe_op op_mul (pv 0) (pv 2)) (pv 1)))))), ?_⟩
    rcases h with ⟨rfl, h⟩ | ⟨e, rfl, h⟩
    · refine ⟨_, rfl, rfl, _, rfl, iteTe (by simp) ⟨_, rfl, ?_⟩⟩
      exact ⟨_, rfl, _, rfl, _, _, rfl, rfl, _, _, rfl, rfl, .inl tb, _, rfl, _, _, rfl, rfl, hd, _, rfl, _, rfl, _, _, rfl, rfl, .inl tb, _, rfl, _, _, rfl, rfl, hd, _, _, rfl, rfl, h⟩
    · refine ⟨_, rfl, rfl, _, rfl, iteFe (by simp) ⟨_, rfl, ?_⟩⟩
      exact ⟨_, rfl, _, rfl, _, _, rfl, rfl, _, _, rfl, rfl, .inl tb, _, rfl, _, _, rfl, rfl, hd, _, rfl, _, rfl, _, _, rfl, rfl, .inl tb, _, rfl, _, _, rfl, rfl, hd, _, _, rfl, rfl, h⟩
theorem ok_isnum (T : Top K mg) : FnOk P w K mg base CX0 1 T.a_l_is_number T.fd_l_is_number ["_law_thing"] spIsNum := by
  refine T.F_l_is_number.ok sc_l_is_number (fun vs H Q E h => ?_) (fun cdv A outer s H vs Q E hr h => ?_)
  · obtain ⟨t, rfl, _⟩ := h
    rfl
  · obtain ⟨i, rfl, h⟩ := h
    refine ⟨_, (pss_one (ps_ret (pe_and (pe_callB oIsi (by rfl) T.z_isinstance (by decide +kernel) (pa_cons (pv 0) (pa_cons (pe_bltn (v := .ty "int") (by rfl) T.z_int (by decide +kernel) rfl) pa_nil))) (pe_one (pe_not (pe_callB oIsi (by rfl) T.z_isinstance (by decide +kernel) (pa_cons (pv 0) (pa_cons (pe_bltn (v := .ty "bool") (by rfl) T.z_bool (by decide +kernel) rfl) pa_nil)))))))), ?_⟩
    refine ⟨_, rfl, .inl ⟨_, _, _, _, _, rfl, .ty _, .base (.int i), kit_ty (r := true) (by decide +kernel), _, rfl, iteT ?_⟩⟩
    exact ⟨_, rfl, .inl ⟨_, _, _, _, _, rfl, .ty _, .base (.int i), kit_ty (r := false) (by decide +kernel), _, rfl, h⟩⟩
theorem ok_due (T : Top K mg) : FnOk P w K mg base CX0 1 T.a_l_due T.fd_l_due ["_law_total_here", "_law_many", "_law_first", "_law_end"] spDue := by
  refine T.F_l_due.ok sc_l_due (fun vs H Q E h => ?_) (fun cdv A outer s H vs Q E hr h => ?_)
  · obtain ⟨t, m, f, l, rfl, _⟩ := h
    rfl
  · obtain ⟨t, m, f, e, rfl, h1, h2, h3, h4, h⟩ := h
    have hd : CDivW (t * f) m := wide_div (b := 64) h3 (by omega) (by decide) (by decide)
    have tb := tot_bd h1 h2
    refine ⟨_, (pss_one (ps_ret (pe_op op_sub (pe_op op_fdivW (pe_op op_mul (pv 0) (pe_op op_add (pv 3) pe_int)) (pv 1)) (pe_op op_fdivW (pe_op op_mul (pv 0) (pv 2)) (pv 1))))), ?_⟩
    exact ⟨_, rfl, _, rfl, _, _, rfl, rfl, _, _, rfl, rfl, .inl tb, _, rfl, _, _, rfl, rfl, hd, _, rfl, _, rfl, _, _, rfl, rfl, .inl tb, _, rfl, _, _, rfl, rfl, hd, _, _, rfl, rfl, h⟩
theorem ok_total (T : Top K mg) : FnOk P w K mg base CX0 2 T.a_l_total T.fd_l_total ["_law_box"] spTotal := by
  have G_l_take := ok_take (P := P) (w := w) (base := base) T
  refine T.F_l_total.ok sc_l_total (fun vs H Q E h => ?_) (fun cdv A outer s H vs Q E hr h => ?_)
  · obtain ⟨p, n, rfl, _⟩ := h
    rfl
  · obtain ⟨p, n, rfl, B, hn, q⟩ := h
    refine ⟨_, (pss_cons (ps_set (i := 1) sc_l_total.nd rfl (Or.inl rfl) (pe_call G_l_take (hr.mono (by first | decide | omega)) (by rfl) T.g_l_take T.F_l_take.kp T.b_l_take .nil pass0 (pa_cons (pv 0) (pa_cons pe_int pa_nil))))
  (pss_cons (ps_set (i := 2) sc_l_total.nd rfl (Or.inl rfl) (pe_lst (pa_cons pe_int (pa_cons pe_int (pa_cons (pe_call G_l_take (hr.mono (by first | decide | omega)) (by rfl) T.g_l_take T.F_l_take.kp T.b_l_take .nil pass0 (pa_cons (pv 0) (pa_cons pe_int pa_nil))) (pa_cons (pe_call G_l_take (hr.mono (by first | decide | omega)) (by rfl) T.g_l_take T.F_l_take.kp T.b_l_take .nil pass0 (pa_cons (pv 0) (pa_cons (pe_op op_pow pe_int pe_int) pa_nil))) (pa_cons (pe_op op_sub (pe_op op_pow pe_int pe_int) (pe_call G_l_take (hr.mono (by first | decide | omega)) (by rfl) T.g_l_take T.F_l_take.kp T.b_l_take .nil pass0 (pa_cons (pv 0) (pa_cons pe_int pa_nil)))) pa_nil)))))))
  (pss_one (ps_ret (pe_ix ix_list (pe_op op_catS (pv 2) (pe_lst (pa_cons (pe_op op_add (pe_op op_mul (pe_call G_l_take (hr.mono (by first | decide | omega)) (by rfl) T.g_l_take T.F_l_take.kp T.b_l_take .nil pass0 (pa_cons (pv 0) (pa_cons (pe_op op_pow pe_int pe_int) pa_nil))) (pe_op op_pow pe_int pe_int)) (pe_call G_l_take (hr.mono (by first | decide | omega)) (by rfl) T.g_l_take T.F_l_take.kp T.b_l_take .nil pass0 (pa_cons (pv 0) (pa_cons (pe_op op_pow pe_int pe_int) pa_nil)))) pa_nil))) (pv 1) (fun _ _ => rfl)))))), ?_⟩
    refine ⟨_, rfl, p, 6, n, rfl, B, by decide, by decide, by omega, fun way H1 w0 w1 B1 f1 => ?_⟩
    refine ⟨_, rfl, p, 12, _, rfl, B1, by decide, by decide, by omega, fun x H2 x0 x1 B2 f2 => ?_⟩
    refine ⟨_, rfl, _, _, rfl, rfl, ⟨by decide, by decide, by decide⟩, p, 10 ^ 6, _, rfl, B2, by decide, by decide, by omega, fun y H3 y0 y1 B3 f3 => ?_⟩
    refine ⟨_, _, rfl, rfl, ⟨by decide, by decide, by decide⟩, _, rfl, p, 3, _, rfl, B3, by decide, by decide, by omega, fun z H4 z0 z1 B4 f4 => ?_⟩
    refine ⟨_, _, rfl, rfl, szl rfl, fun l1 nl1 => ?_⟩
    generalize hE : upd _ l1 _ = H5
    obtain ⟨s5, e5⟩ := newF nl1 hE
    have nl1p : l1 ≠ p := (ne_of_none B4.some.choose_spec nl1).symm
    refine ⟨_, rfl, _, rfl, _, _, rfl, rfl, ⟨by decide, by decide, by decide⟩, p, 10 ^ 6, _, rfl, B4.same s5, by decide, by decide, by omega, fun u H6 u0 u1 B6 f6 => ?_⟩
    refine ⟨_, _, rfl, rfl, ⟨by decide, by decide, by decide⟩, _, _, rfl, rfl, .inr ⟨by decide, by decide⟩, _, rfl, _, _, rfl, rfl, ⟨by decide, by decide, by decide⟩, p, 10 ^ 6, _, rfl, B6, by decide, by decide, by omega, fun v H7 v0 v1 B7 f7 => ?_⟩
    refine ⟨_, _, rfl, rfl, szl rfl, fun l2 nl2 => ?_⟩
    generalize hE2 : upd _ l2 _ = H8
    obtain ⟨s8, e8⟩ := newF nl2 hE2
    have e1 := e5
    rw [← f6 _ nl1p, ← f7 _ nl1p] at e1
    refine ⟨l1, l2, _, _, rfl, rfl, s8 _ _ e1, e8, szl rfl, fun l3 H9 nl3 s9 e9 => ?_⟩
    have tn : ((10 : Int) ^ (12 : Int).toNat) = 10 ^ 12 := by decide
    have t6 : ((10 : Int) ^ (6 : Int).toNat) = 10 ^ 6 := by decide
    obtain ⟨r, er, r', rfl, r0, r1⟩ := at_pick (xs := [.int 0, .int 1, .int x, .int y, .int (10 ^ (12 : Int).toNat - z)] ++ [.int (u * 10 ^ (6 : Int).toNat + v)]) (i := way) (Pr := Num 0 (10 ^ 12)) w0 (by show way < 6; exact w1)
      (alp (alc (num (by decide) (by decide)) (alc (num (by decide) (by decide)) (alc (num (by omega) (by omega)) (alc (num (by omega) (by omega)) (alc (num (by rw [tn]; omega) (by rw [tn]; omega)) aln))))) (alc (num (by rw [t6]; omega) (by rw [t6]; omega)) aln))
    refine ⟨_, rfl, l3, _, _, _, rfl, rfl, sqL e9, er, ?_⟩
    exact q r' H9 r0 r1 (((B7.same s8).same s9).mono (by omega)) (((((f1.trans f2).trans f3).trans f4).sav.s s5).chg (f6.trans f7) |>.s s8 |>.s s9)
end

section
variable {P : Program} {w : World} {K : PySem.W.Frag} {mg : Str → Option Value} {base : Heap}
theorem ok_cut (T : Top K mg) : FnOk P w K mg base CX0 2 T.a_l_cut T.fd_l_cut ["_law_box", "_law_many"] spCut := by
  have G_l_take := ok_take (P := P) (w := w) (base := base) T
  refine T.F_l_cut.ok sc_l_cut (fun vs H Q E h => ?_) (fun cdv A outer s H vs Q E hr h => ?_)
  · obtain ⟨p, m, n, rfl, _⟩ := h
    rfl
  · obtain ⟨p, m, n, rfl, B, hn, m0, m1, q⟩ := h
    refine ⟨_, (pss_cons (ps_set (i := 2) sc_l_cut.nd rfl (Or.inl rfl) (pe_callB (cr_sortedSet rfl) (by rfl) T.z_sorted (by decide +kernel) (pa_cons (pe_callTy (cr_setOfL rfl) (by rfl) T.z_set (by decide +kernel) (pa_cons (pe_op op_catS (pe_lc (own := [("_law_turn", 3)]) (g := gName 3) (tt := tYes) rfl sc_l_cut.nd (pi_range1 (by rfl) T.z_range (pa_cons (pe_call G_l_take (hr.mono (by first | decide | omega)) (by rfl) T.g_l_take T.F_l_take.kp T.b_l_take .nil pass0 (pa_cons (pv 0) (pa_cons pe_int pa_nil))) pa_nil)) (blkOk_by (own := [("_law_turn", 3)]) (N := ["_law_box", "_law_many", "_law_ends", "_law_turn", "_law_first", "_law_end"]) (sc := defScope s_l_cut) (by decide +kernel)) (fun _ _ _ _ _ => (pg_name (i := 3) sc_l_cut.nd rfl (by first | exact Or.inl rfl | exact Or.inr rfl))) (fun _ _ _ _ _ => pts_nil) (fun _ _ _ _ _ => (pe_call G_l_take (hr.mono (by first | decide | omega)) (by rfl) T.g_l_take T.F_l_take.kp T.b_l_take .nil pass0 (pa_cons (pv 0) (pa_cons (pv 1) pa_nil))))) (pe_lst (pa_cons (pe_op op_sub (pv 1) pe_int) pa_nil))) pa_nil)) pa_nil)))
  (pss_one (ps_ret (pe_lc (own := [("_law_first", 4), ("_law_end", 5)]) (g := gTup _ 2 (gCons (gName 4) (gCons (gName 5) (gNil)))) (tt := tYes) rfl sc_l_cut.nd (pi_zipA (by rfl) T.z_zip (pa_cons (pe_op op_catS (pe_lst (pa_cons (pe_un un_neg pe_int) pa_nil)) (pv 2)) (pa_cons (pv 2) pa_nil))) (blkOk_by (own := [("_law_first", 4), ("_law_end", 5)]) (N := ["_law_box", "_law_many", "_law_ends", "_law_turn", "_law_first", "_law_end"]) (sc := defScope s_l_cut) (by decide +kernel)) (fun _ _ _ _ _ => (pg_tup rfl (pgs_cons (pg_name (i := 4) sc_l_cut.nd rfl (by first | exact Or.inl rfl | exact Or.inr rfl)) (pgs_cons (pg_name (i := 5) sc_l_cut.nd rfl (by first | exact Or.inl rfl | exact Or.inr rfl)) pgs_nil)))) (fun _ _ _ _ _ => pts_nil) (fun _ _ _ _ _ => (pe_tup (pa_cons (pe_op op_add (pv 4) pe_int) (pa_cons (pv 5) pa_nil)))))))), ?_⟩
    refine ⟨_, rfl, p, 9, n, rfl, B, by decide, by decide, by omega, fun r H1 r0 r1 B1 f1 => ⟨_, rfl, by omega, by omega, fun D nD => ?_⟩⟩
    have Dp : D ≠ p := (ne_of_none B1.some.choose_spec nD).symm
    have nD0 : H D = none := by rw [← f1 D Dp]; exact nD
    refine lc_it walk_range (fun i H2 => ∃ ds : List Int, H2 D = some (.lst (ds.map V.int)) ∧ ds.length = i ∧ (∀ d ∈ ds, 0 ≤ d ∧ d < m) ∧ BoxAt H2 p (n + 1 + i) ∧ Sav p H H2)
      ⟨[], upd_same, rfl, aln, B1.new nD, f1.sav.new nD⟩ (fun _ _ _ _ => trivial) ?_ ?_
    · rintro i x H2 H3 hi ⟨ds, eD, hl, hb, B2, s2⟩ ⟨rfl, rfl⟩
      refine ⟨rfl, ?_⟩
      refine ⟨_, rfl, _, rfl, p, m, _, rfl, B2, m0, by omega, by omega, fun z H4 z0 z1 B4 f4 => ?_⟩
      refine ⟨_, by rw [f4 _ Dp]; exact eD, by rw [List.length_map, hl]; exact small5 (by omega), ds ++ [z], by rw [upd_same, List.map_append]; rfl, by simp [hl], alp hb (alc ⟨z0, z1⟩ aln), B4.but but_upd (Ne.symm Dp), (s2.chg f4).mut nD0 but_upd⟩
    · rintro H2 ⟨ds, eD, hl, hb, B2, s2⟩
      have hl9 : ds.length ≤ 9 := by omega
      refine ⟨_, rfl, _, _, rfl, rfl, szl rfl, fun l2 nl2 => ?_⟩
      generalize hE2 : upd _ l2 _ = H3
      obtain ⟨s3, e3⟩ := newF nl2 hE2
      refine ⟨D, l2, _, _, rfl, rfl, s3 _ _ eD, e3, by rw [List.length_map]; exact sz5 (show ds.length + 1 ≤ 100000 by omega), fun l3 H4 nl3 s4 e4 => ?_⟩
      refine ⟨l3, ds ++ [m - 1], rfl, sqL (by rw [e4, List.map_append]; rfl), by simp; omega, fun q1 c nq hc => ?_⟩
      generalize hE5 : upd _ q1 _ = H5
      obtain ⟨s5, e5⟩ := newF nq hE5
      refine ⟨q1, _, c, rfl, e5, by simp at hc; omega, fun es l4 hp hm hlen nl4 => ?_⟩
      generalize hE6 : upd _ l4 _ = HA
      obtain ⟨s6, eA⟩ := newF nl4 hE6
      have hes : es.length ≤ 10 := by simp at hc; omega
      have mem : ∀ k, k ∈ es ↔ k ∈ ds ++ [m - 1] := fun k => by rw [hm k]; simp
      have bd : ∀ k ∈ es, 0 ≤ k ∧ k < m := fun k hk => by
        rcases List.mem_append.mp ((mem k).mp hk) with h | h
        · exact hb k h
        · have := List.mem_singleton.mp h
          omega
      have hlast : es.getLast? = some (m - 1) := last_rising hp ((mem _).mpr (by simp)) fun e he => by have := bd e he; omega
      have sA' := ((s3.trans s4).trans s5).trans s6
      refine ⟨_, rfl, szl rfl, fun l5 nl5 => ?_⟩
      generalize hE7 : upd _ l5 _ = H7
      obtain ⟨s7, e7⟩ := newF nl5 hE7
      refine ⟨_, rfl, l5, l4, _, _, rfl, rfl, e7, s7 _ _ eA, by rw [List.length_map]; exact sz5 (show 1 + es.length ≤ 100000 by omega), fun l6 HB nl6 s8 eB6 => ?_⟩
      have eB := s8 _ _ (s7 _ _ eA)
      have sAB := (sA'.trans s7).trans s8
      refine ⟨_, rfl, l6, l4, _, _, rfl, .inl ⟨sqL eB6, sqL eB, fun D2 nD2 => ?_⟩⟩
      refine lc_it (pairS (walk_zip (n := es.length) (by simp))) (fun i H5 => ∃ ts : List Addr, H5 D2 = some (.lst (ts.map V.ref)) ∧ ts.length = i ∧ Same HB H5 ∧
        ∀ (j : Nat) (t : Addr), ts[j]? = some t → ∃ a b : Int, ((-1 : Int) :: es)[j]? = some a ∧ es[j]? = some b ∧ H5 t = some (.tup [.int (a + 1), .int b]))
        ⟨[], upd_same, rfl, same_new nD2, fun j t h => by simp at h⟩ (fun i H5 _ ⟨_, _, _, s5, _⟩ => ⟨sqL (s5 _ _ eB6), sqL (s5 _ _ eB)⟩) ?_ ?_
      · rintro i x H5 H6 hi ⟨ts, e5, l5', s5, f5⟩ ⟨t, x1, x2, rfl, st, et, e1, e2⟩
        have e1 : (((-1 : Int) :: es).map V.int)[i]? = some x1 := e1
        have e2 : (es.map V.int)[i]? = some x2 := e2
        have hi1 : i < ((-1 : Int) :: es).length := by simp; omega
        rw [List.getElem?_map, List.getElem?_eq_getElem hi1] at e1
        rw [List.getElem?_map, List.getElem?_eq_getElem hi] at e2
        cases e1
        cases e2
        refine ⟨t, _, rfl, sqT et, rfl, _, _, rfl, _, _, rfl, rfl, rfl, ?_⟩
        refine ⟨_, rfl, _, _, rfl, rfl, _, rfl, szl rfl, fun t2 nt2 => ?_⟩
        generalize hE8 : upd _ t2 _ = H8
        obtain ⟨s9, e9⟩ := newF nt2 hE8
        have st2 := st.trans s9
        refine ⟨_, st2 _ _ e5, by rw [List.length_map, l5']; exact small5 (by omega), ts ++ [t2], by rw [upd_same, List.map_append]; rfl, by simp [l5'], same_mut (s5.trans st2) nD2, fun j u hu => ?_⟩
        rcases get_push hu with hu | ⟨rfl, rfl⟩
        · obtain ⟨a, b, g1, g2, g3⟩ := f5 j u hu
          exact ⟨a, b, g1, g2, by rw [upd_ne (ne_of g3 e5 (by intro z; cases z))]; exact st2 _ _ g3⟩
        · rw [l5']
          exact ⟨_, _, List.getElem?_eq_getElem hi1, List.getElem?_eq_getElem hi, by rw [upd_ne (ne_of e9 (st2 _ _ e5) (by intro z; cases z))]; exact e9⟩
      · rintro H5 ⟨ts, e5, l5', s5, f5⟩
        have BB := (B2.same sAB).same s5
        have sav := (s2.s sAB).s s5
        exact q D2 ts es H5 ((s2.s sAB).free (B2.same sAB) nD2) e5 ⟨by omega, by omega, hlast, f5⟩ (BB.mono (by omega)) sav
end

def spRight : Sp := fun vs H Q _ => ∃ (p : Addr) (t m : Int) (n : Nat), vs = [.ref p, .int t, .int m] ∧ BoxAt H p n ∧ n < 2 ^ 38 ∧ 0 ≤ t ∧ t ≤ 10 ^ 12 ∧ 0 < m ∧ m ≤ 4000 ∧
  ∀ H' : Hp, BoxAt H' p (n + 30) → Sav p H H' → Q (.bl true) H'
def spLaw (K : PySem.W.Frag) : Sp := fun vs H Q _ => ∃ (a : Addr) (ns : List Int), vs = [.ref a] ∧ SqL K H a (ns.map V.int) ∧ ns.length ≤ 63 ∧ ∀ H', Q (.bl true) H'

section
variable {P : Program} {w : World} {K : PySem.W.Frag} {mg : Str → Option Value} {base : Heap}
theorem ok_right (T : Top K mg) : FnOk P w K mg base CX0 3 T.a_l_right T.fd_l_right ["_law_box", "_law_total_here", "_law_many"] spRight := by
  have G_l_take := ok_take (P := P) (w := w) (base := base) T
  have G_l_cut := ok_cut (P := P) (w := w) (base := base) T
  have G_part_of := ok_part (P := P) (w := w) (base := base) T
  have G_l_is_number := ok_isnum (P := P) (w := w) (base := base) T
  have G_l_due := ok_due (P := P) (w := w) (base := base) T
  refine T.F_l_right.ok sc_l_right (fun vs H Q E h => ?_) (fun cdv A outer s H vs Q E hr h => ?_)
  · obtain ⟨p, t, m, n, rfl, _⟩ := h
    rfl
  · obtain ⟨p, t, m, n, rfl, B, hn, t0, t1, m0, m1, q⟩ := h
    refine ⟨_, (pss_cons (ps_set (i := 3) sc_l_right.nd rfl (Or.inl rfl) (pe_lst pa_nil))
  (pss_cons (ps_for PassesOwn.never rfl (pi_list (pe_call G_l_cut (hr.mono (by first | decide | omega)) (by rfl) T.g_l_cut T.F_l_cut.kp T.b_l_cut .nil pass0 (pa_cons (pv 0) (pa_cons (pv 2) pa_nil)))) (pg_tup rfl (pgs_cons (pg_name (i := 4) sc_l_right.nd rfl (Or.inl rfl)) (pgs_cons (pg_name (i := 5) sc_l_right.nd rfl (Or.inl rfl)) pgs_nil)))
    (pss_cons (ps_set (i := 6) sc_l_right.nd rfl (Or.inl rfl) (pe_callKB G_part_of (hr.mono (by first | decide | omega)) (by rfl) T.g_part_of T.F_part_of.kp T.kb_part_of_4 pass0 (pa_cons (pv 1) (pa_cons (pv 2) (pa_cons (pv 4) (pa_cons (pv 5) pa_nil)))) pk_nil))
    (pss_cons (ps_if (PW.pt (pw_or (pt_not (pt_val (pe_call G_l_is_number (hr.mono (by first | decide | omega)) (by rfl) T.g_l_is_number T.F_l_is_number.kp T.b_l_is_number .nil pass0 (pa_cons (pv 6) pa_nil)))) (pw_or1 (pt_cmpR op_ne (pv 6) (pe_call G_l_due (hr.mono (by first | decide | omega)) (by rfl) T.g_l_due T.F_l_due.kp T.b_l_due .nil pass0 (pa_cons (pv 1) (pa_cons (pv 2) (pa_cons (pv 4) (pa_cons (pv 5) pa_nil))))) (nomark _)))))
      (pss_one (ps_ret pe_bl))
      pss_nil)
    (pss_cons (ps_if (pt_cmpR op_ne (pe_callKB G_part_of (hr.mono (by first | decide | omega)) (by rfl) T.g_part_of T.F_part_of.kp T.kb_part_of_3_last pass0 (pa_cons (pv 1) (pa_cons (pv 2) (pa_cons (pv 4) pa_nil))) (pk_cons (pv 5) pk_nil)) (pv 6) (nomark _))
      (pss_one (ps_ret pe_bl))
      pss_nil)
    (pss_one (ps_expr (pe_bm PySem.F.plainAttrs_list PySem.F.slot_list_append PySem.F.type_list_append mt_appendS (pv 3) (pa_cons (pv 6) pa_nil))))))))
  (pss_cons (ps_if (PW.pt (pw_or (pt_cmpR op_ne (pe_callB (cr_sum rfl) (by rfl) T.z_sum (by decide +kernel) (pa_cons (pv 3) pa_nil)) (pv 1) (nomark _)) (pw_or1 (pt_cmpR op_ne (pe_callKB G_part_of (hr.mono (by first | decide | omega)) (by rfl) T.g_part_of T.F_part_of.kp T.kb_part_of_3_last pass0 (pa_cons (pv 1) (pa_cons (pv 2) (pa_cons pe_int pa_nil))) (pk_cons (pe_op op_sub (pv 2) pe_int) pk_nil)) (pv 1) (nomark _)))))
    (pss_one (ps_ret pe_bl))
    pss_nil)
  (pss_cons (ps_set (i := 4) sc_l_right.nd rfl (Or.inl rfl) (pe_ix ix_list (pe_lst (pa_cons pe_int (pa_cons (pe_call G_l_take (hr.mono (by first | decide | omega)) (by rfl) T.g_l_take T.F_l_take.kp T.b_l_take .nil pass0 (pa_cons (pv 0) (pa_cons (pv 2) pa_nil))) pa_nil))) (pe_call G_l_take (hr.mono (by first | decide | omega)) (by rfl) T.g_l_take T.F_l_take.kp T.b_l_take .nil pass0 (pa_cons (pv 0) (pa_cons pe_int pa_nil))) (fun _ _ => rfl)))
  (pss_cons (ps_set (i := 5) sc_l_right.nd rfl (Or.inl rfl) (pe_callB (call_min2 rfl) (by rfl) T.z_min (by decide +kernel) (pa_cons (pe_op op_sub (pv 2) pe_int) (pa_cons (pe_op op_add (pv 4) (pe_call G_l_take (hr.mono (by first | decide | omega)) (by rfl) T.g_l_take T.F_l_take.kp T.b_l_take .nil pass0 (pa_cons (pv 0) (pa_cons pe_int pa_nil)))) pa_nil))))
  (pss_cons (ps_setLc (i := 7) (own := [("_law_day", 8)]) (g := gName 8) (tt := tYes) rfl sc_l_right.nd rfl rfl (sw_true rfl rfl rfl (by decide +kernel)) (pi_range2 (by rfl) T.z_range (pa_cons (pv 4) (pa_cons (pe_op op_add (pv 5) pe_int) pa_nil))) (blkOk_by (own := [("_law_day", 8)]) (N := ["_law_box", "_law_total_here", "_law_many", "_law_found", "_law_first", "_law_end", "_law_part", "_law_days", "_law_day"]) (sc := defScope s_l_right) (by decide +kernel)) (fun _ _ _ _ _ => (pg_name (i := 8) sc_l_right.nd rfl (by first | exact Or.inl rfl | exact Or.inr rfl))) (fun _ _ _ _ _ => pts_nil) (fun _ _ _ _ _ => (pe_callKB G_part_of (hr.mono (by first | decide | omega)) (by rfl) T.g_part_of T.F_part_of.kp T.kb_part_of_3 pass0 (pa_cons (pv 1) (pa_cons (pv 2) (pa_cons (pv 8) pa_nil))) pk_nil)))
  (pss_cons (ps_if (PW.pt (pw_or (pt_cmpR op_ne (pe_callB (cr_sum rfl) (by rfl) T.z_sum (by decide +kernel) (pa_cons (pv 7) pa_nil)) (pe_callKB G_part_of (hr.mono (by first | decide | omega)) (by rfl) T.g_part_of T.F_part_of.kp T.kb_part_of_4 pass0 (pa_cons (pv 1) (pa_cons (pv 2) (pa_cons (pv 4) (pa_cons (pv 5) pa_nil)))) pk_nil) (nomark _)) (pw_or1 (pt_not (pt_val (pe_callB (cr_all rfl) (by rfl) T.z_all (by decide +kernel) (pa_cons (pe_lc (own := [("_law_part", 6)]) (g := gName 6) (tt := tYes) rfl sc_l_right.nd (pi_list (pv 7)) (blkOk_by (own := [("_law_part", 6)]) (N := ["_law_box", "_law_total_here", "_law_many", "_law_found", "_law_first", "_law_end", "_law_part", "_law_days", "_law_day"]) (sc := defScope s_l_right) (by decide +kernel)) (fun _ _ _ _ _ => (pg_name (i := 6) sc_l_right.nd rfl (by first | exact Or.inl rfl | exact Or.inr rfl))) (fun _ _ _ _ _ => pts_nil) (fun _ _ _ _ _ => (pe_call G_l_is_number (hr.mono (by first | decide | omega)) (by rfl) T.g_l_is_number T.F_l_is_number.kp T.b_l_is_number .nil pass0 (pa_cons (pv 6) pa_nil)))) pa_nil)))))))
    (pss_one (ps_ret pe_bl))
    pss_nil)
  (pss_cons (ps_if (pt_not (pt_val (pe_callB (cr_all rfl) (by rfl) T.z_all (by decide +kernel) (pa_cons (pe_lc (own := [("_law_part", 6)]) (g := gName 6) (tt := tYes) rfl sc_l_right.nd (pi_list (pv 7)) (blkOk_by (own := [("_law_part", 6)]) (N := ["_law_box", "_law_total_here", "_law_many", "_law_found", "_law_first", "_law_end", "_law_part", "_law_days", "_law_day"]) (sc := defScope s_l_right) (by decide +kernel)) (fun _ _ _ _ _ => (pg_name (i := 6) sc_l_right.nd rfl (by first | exact Or.inl rfl | exact Or.inr rfl))) (fun _ _ _ _ _ => pts_nil) (fun _ _ _ _ _ => (pe_chain op_le op_le (pe_op op_fdivW (pv 1) (pv 2)) (pv 6) (pe_op op_add (pe_op op_fdivW (pv 1) (pv 2)) pe_int)))) pa_nil))))
    (pss_one (ps_ret pe_bl))
    pss_nil)
  (pss_one (ps_ret (pe_chain op_eq op_eq (pe_ix ix_list (pv 7) pe_int (fun _ _ => rfl)) (pe_callKB G_part_of (hr.mono (by first | decide | omega)) (by rfl) T.g_part_of T.F_part_of.kp T.kb_part_of_4 pass0 (pa_cons (pv 1) (pa_cons (pv 2) (pa_cons (pv 4) (pa_cons (pv 4) pa_nil)))) pk_nil) (pe_callKB G_part_of (hr.mono (by first | decide | omega)) (by rfl) T.g_part_of T.F_part_of.kp T.kb_part_of_4 pass0 (pa_cons (pv 1) (pa_cons (pv 2) (pa_cons (pv 4) (pa_cons pe_non pa_nil)))) pk_nil)))))))))))), ?_⟩
    refine ⟨szl rfl, fun lf nlf => ?_⟩
    generalize hE1 : upd _ lf _ = H1
    obtain ⟨s1, e1⟩ := newF nlf hE1
    have lfp : lf ≠ p := (ne_of_none B.some.choose_spec nlf).symm
    refine ⟨_, rfl, _, rfl, p, m, n, rfl, B.same s1, by omega, m0, m1, fun l ts es H2 nl el co B2 sv2 => ⟨l, rfl, ⟨_, sqL el⟩, ?_⟩⟩
    have e2 := sv2 _ _ e1 lfp
    have llf : l ≠ lf := (ne_of_none e1 nl).symm
    obtain ⟨co1, co2, co3, co4⟩ := co
    refine for_list (K := K) (a := l) (xs := ts.map V.ref) (fun i σ H3 => ∃ (fs : List Int) (x : Int) (y4 y5 y6 : Option V), σ = [some (.ref p), some (.int t), some (.int m), some (.ref lf), y4, y5, y6, none, none] ∧
        H3 lf = some (.lst (fs.map V.int)) ∧ fs.length = i ∧ ((-1 : Int) :: es)[i]? = some x ∧ fs.sum = t * (x + 1) / m ∧ But lf H2 H3)
      ⟨[], -1, none, none, none, rfl, e2, rfl, rfl, by simp, fun _ _ => rfl⟩ (fun i σ H3 _ ⟨_, _, _, _, _, _, _, _, _, _, f3⟩ => sqL (by rw [f3 l llf]; exact el)) ?_ ?_
    · rintro i x σ H3 hx ⟨fs, x0, y4, y5, y6, rfl, e3, hl, gx, hs, f3⟩
      obtain ⟨tt, ht, rfl⟩ : ∃ tt, ts[i]? = some tt ∧ x = .ref tt := by
        rw [List.getElem?_map] at hx
        cases h : ts[i]? with
        | none => rw [h] at hx; cases hx
        | some tt => rw [h] at hx; exact ⟨tt, rfl, (Option.some.inj hx).symm⟩
      obtain ⟨a, b, ga, gb, et⟩ := co4 i tt ht
      obtain rfl : x0 = a := Option.some.inj (gx.symm.trans ga)
      have et3 : H3 tt = some (.tup [.int (x0 + 1), .int b]) := by rw [f3 tt (ne_of et e2 (by intro z; cases z))]; exact et
      have hi : i < es.length := (List.getElem?_eq_some_iff.mp gb).1
      refine ⟨tt, _, rfl, sqT et3, rfl, _, _, rfl, _, _, rfl, rfl, ?_⟩
      refine ⟨_, rfl, _, rfl, _, rfl, _, rfl, rfl, rfl, t, m, x0 + 1, .int b, rfl, t0, t1, m0, m1, .inr ⟨b, rfl, ?_⟩⟩
      refine ⟨_, rfl, _, rfl, _, rfl, iteF ?_⟩
      refine ⟨_, rfl, _, rfl, _, rfl, _, rfl, _, rfl, t, m, x0 + 1, b, rfl, t0, t1, m0, m1, rfl, _, rfl, iteFe (by simp) ?_⟩
      refine ⟨_, rfl, _, rfl, _, rfl, _, rfl, rfl, rfl, t, m, x0 + 1, .int b, rfl, t0, t1, m0, m1, .inr ⟨b, rfl, ?_⟩⟩
      refine ⟨_, rfl, rfl, _, rfl, iteFe (by simp) ?_⟩
      refine ⟨_, rfl, .inl ⟨rfl, _, sqL e3⟩, _, rfl, lf, _, _, rfl, rfl, e3, by rw [List.length_map, hl]; exact small5 (by omega), fun H4 f4 e4 => ?_⟩
      refine ⟨fs ++ [part t m (x0 + 1) b], b, _, _, _, rfl, by rw [e4, List.map_append]; rfl, by simp [hl], by rw [List.getElem?_cons_succ]; exact gb, ?_, f3.trans f4⟩
      rw [List.sum_append, hs]
      simp only [part, List.sum_cons, List.sum_nil]
      omega
    · rintro σ H3 ⟨fs, x, y4, y5, y6, rfl, e3, hl, gx, hs, f3⟩
      have hx : x = m - 1 := by
        rw [List.length_map, co1] at gx
        rw [List.getLast?_eq_getElem?] at co3
        cases es with
        | nil => cases co3
        | cons e r =>
          rw [List.length_cons, List.getElem?_cons_succ] at gx
          rw [List.length_cons, Nat.add_sub_cancel] at co3
          exact Option.some.inj (gx.symm.trans co3)
      have hsum : fs.sum = t := by
        rw [hs, hx, show m - 1 + 1 = m by omega, Int.mul_ediv_cancel _ (Int.ne_of_gt m0)]
      have B3 : BoxAt H3 p (n + 20) := B2.but f3 lfp.symm
      have sv3 : Sav p H H3 := ((Sav.of s1).trans sv2).mut nlf f3
      refine ⟨_, rfl, lf, fs, rfl, sqL e3, _, rfl, rfl, _, rfl, iteFe (by rw [hsum]; simp) ?_⟩
      refine ⟨_, rfl, _, rfl, _, rfl, _, _, rfl, rfl, rfl, rfl, t, m, 0, .int (m - 1), rfl, t0, t1, m0, m1, .inr ⟨m - 1, rfl, ?_⟩⟩
      refine ⟨_, rfl, rfl, _, rfl, iteFe (by rw [part_all m0]; simp) ?_⟩
      -- first
      refine ⟨_, rfl, _, rfl, p, m, _, rfl, B3, m0, by omega, by omega, fun r1 H4 r10 r11 B4 f4 => ⟨szl rfl, fun l5 nl5 => ?_⟩⟩
      generalize hE5 : upd _ l5 _ = H5
      obtain ⟨s5, e5⟩ := newF nl5 hE5
      have l5p : l5 ≠ p := (ne_of_none B4.some.choose_spec nl5).symm
      refine ⟨_, rfl, p, 2, _, rfl, B4.same s5, by decide, by decide, by omega, fun r2 H6 r20 r21 B6 f6 => ?_⟩
      obtain ⟨v, ev, f, rfl, f0, fm⟩ := at_pick (xs := [.int 0, .int r1]) (i := r2) (Pr := Num 0 (m - 1)) r20 (by show r2 < 2; exact r21) (alc (num (by decide) (by omega)) (alc (num r10 (by omega)) aln))
      refine ⟨l5, _, _, _, rfl, rfl, sqL (by rw [f6 _ l5p]; exact e5), ev, ?_⟩
      -- end
      refine ⟨_, rfl, _, _, rfl, rfl, _, rfl, _, rfl, p, 30, _, rfl, B6, by decide, by decide, by omega, fun r3 H7 r30 r31 B7 f7 => ⟨_, _, rfl, rfl, _, _, rfl, ?_⟩⟩
      have he : f ≤ (if f + r3 < m - 1 then f + r3 else m - 1) ∧ (if f + r3 < m - 1 then f + r3 else m - 1) ≤ m - 1 := by split <;> omega
      revert he
      show (f ≤ (if f + r3 < m - 1 then f + r3 else m - 1) ∧ (if f + r3 < m - 1 then f + r3 else m - 1) ≤ m - 1) → _
      generalize (if f + r3 < m - 1 then f + r3 else m - 1) = e
      rintro ⟨he1, he2⟩
      have sv7 : Sav p H H7 := ((sv3.chg f4).s s5).chg (f6.trans f7)
      obtain ⟨N, hN⟩ : ∃ N : Nat, (e + 1 - f).toNat = N + 1 := ⟨(e + 1 - f).toNat - 1, by omega⟩
      refine ⟨_, rfl, _, rfl, _, _, rfl, rfl, f, e + 1, rfl, ⟨by omega, by omega, by omega, by omega⟩, fun D nD => ?_⟩
      refine lc_it walk_range (fun i H8 => H8 D = some (.lst (((List.range i).map fun j : Nat => part t m (f + j) (f + j)).map V.int)) ∧ Same H7 H8)
        ⟨upd_same, same_new nD⟩ (fun _ _ _ _ => trivial) ?_ ?_
      · rintro i x H8 H9 hi ⟨e8, s8⟩ ⟨rfl, rfl⟩
        refine ⟨rfl, ?_⟩
        refine ⟨_, rfl, _, rfl, _, rfl, rfl, rfl, t, m, f + i, .non, rfl, t0, t1, m0, m1, .inl ⟨rfl, ?_⟩⟩
        refine ⟨_, e8, by rw [List.length_map, List.length_map, List.length_range]; exact small5 (by omega), ?_, same_mut s8 nD⟩
        rw [upd_same, List.range_succ, List.map_append, List.map_append]
        rfl
      · rintro H8 ⟨e8, s8⟩
        rw [hN] at e8
        have B8 := B7.same s8
        have hsd := tele t m f (N + 1)
        have hf1 : f + ((N + 1 : Nat) : Int) = e + 1 := by omega
        rw [hf1] at hsd
        generalize hds : (List.range (N + 1)).map (fun j : Nat => part t m (f + j) (f + j)) = ds at e8 hsd
        have lds : ds.length = N + 1 := by rw [← hds, List.length_map, List.length_range]
        have gds : ∀ (i : Nat) (z : Int), ds[i]? = some z → z = part t m (f + i) (f + i) := fun i z hz => by
          rw [← hds, List.getElem?_map] at hz
          have hi : i < N + 1 := by
            rw [← lds]
            rw [← List.getElem?_map, hds] at hz
            exact (List.getElem?_eq_some_iff.mp hz).1
          rw [List.getElem?_range hi] at hz
          exact (Option.some.inj hz).symm
        refine ⟨_, rfl, D, ds, rfl, sqL e8, ?_⟩
        refine ⟨_, rfl, _, rfl, _, rfl, _, rfl, rfl, rfl, t, m, f, .int e, rfl, t0, t1, m0, m1, .inr ⟨e, rfl, rfl, _, rfl, iteFe (by rw [hsd]; simp [part]) ?_⟩⟩
        -- all numbers
        refine ⟨_, rfl, D, rfl, ⟨_, sqL e8⟩, fun D2 nD2 => ?_⟩
        refine lc_it (walk_list (K := K) (a := D) (xs := ds.map V.int)) (fun i H9 => H9 D2 = some (.lst (List.replicate i (.bl true))) ∧ Same H8 H9) ⟨upd_same, same_new nD2⟩ (fun i H9 _ h => sqL (h.2 _ _ e8)) ?_ ?_
        · rintro i x H9 H10 hi ⟨e9, s9⟩ ⟨rfl, hx⟩
          rw [List.length_map, lds] at hi
          rw [List.getElem?_map, List.getElem?_eq_getElem (by omega)] at hx
          cases hx
          refine ⟨rfl, ?_⟩
          refine ⟨_, rfl, _, rfl, _, e9, by rw [List.length_replicate]; exact small5 (by omega), by rw [upd_same, ← List.replicate_succ'], same_mut s9 nD2⟩
        rintro H9 ⟨e9, s9⟩
        refine ⟨D2, List.replicate (ds.map V.int).length true, rfl, sqL (by rw [e9, List.map_replicate]), _, rfl, iteFe (by simp) ?_⟩
        -- the bounds of each
        have e89 := s9 _ _ e8
        have cd : CDivW t m := wide_div (b := 64) m0 (by omega) (by decide) (by decide)
        refine ⟨_, rfl, D, rfl, ⟨_, sqL e89⟩, fun D3 nD3 => ?_⟩
        refine lc_it (walk_list (K := K) (a := D) (xs := ds.map V.int)) (fun i H10 => H10 D3 = some (.lst (List.replicate i (.bl true))) ∧ Same H9 H10) ⟨upd_same, same_new nD3⟩ (fun i H10 _ h => sqL (h.2 _ _ e89)) ?_ ?_
        · rintro i x H10 H11 hi ⟨e10, s10⟩ ⟨rfl, hx⟩
          rw [List.length_map, lds] at hi
          rw [List.getElem?_map, List.getElem?_eq_getElem (by omega)] at hx
          cases hx
          have hz := gds i _ (List.getElem?_eq_getElem (by omega))
          have ob := one_bd (t := t) (m := m) (d := f + i) m0
          refine ⟨rfl, ?_⟩
          refine ⟨_, rfl, _, rfl, _, _, rfl, rfl, cd, _, rfl, _, _, rfl, rfl, _, rfl, iteTe (by simp only [decide_eq_true_eq]; rw [hz]; exact ob.1) ?_⟩
          refine ⟨_, rfl, _, rfl, _, _, rfl, rfl, cd, _, _, rfl, rfl, _, _, rfl, rfl, ?_⟩
          refine ⟨_, e10, by rw [List.length_replicate]; exact small5 (by omega), ?_, same_mut s10 nD3⟩
          rw [upd_same]
          show some (HO.lst (List.replicate i (V.bl true) ++ [V.bl (decide (ds[i] ≤ t / m + 1))])) = _
          rw [decide_eq_true (show ds[i] ≤ t / m + 1 by rw [hz]; exact ob.2), ← List.replicate_succ']
        rintro H10 ⟨e10, s10⟩
        refine ⟨D3, List.replicate (ds.map V.int).length true, rfl, sqL (by rw [e10, List.map_replicate]), _, rfl, iteFe (by simp) ?_⟩
        have e810 := s10 _ _ e89
        have g0 : ds[0]? = some (part t m f f) := by
          have h0 : 0 < ds.length := by omega
          have := gds 0 _ (List.getElem?_eq_getElem h0)
          rw [List.getElem?_eq_getElem h0, this]
          simp
        refine ⟨_, rfl, D, _, 0, .int (part t m f f), rfl, rfl, sqL e810, atI_nat (j := 0) (by rw [List.getElem?_map, g0]; rfl), ?_⟩
        refine ⟨_, rfl, _, rfl, _, rfl, _, rfl, rfl, rfl, t, m, f, .int f, rfl, t0, t1, m0, m1, .inr ⟨f, rfl, rfl, _, rfl, iteTe (by simp) ?_⟩⟩
        refine ⟨_, rfl, _, rfl, _, rfl, rfl, rfl, t, m, f, .non, rfl, t0, t1, m0, m1, .inl ⟨rfl, rfl, ?_⟩⟩
        have fin := q H10 (((B8.same s9).same s10).mono (by omega)) (((sv7.s s8).s s9).s s10)
        simpa using fin
theorem ok_law (T : Top K mg) : FnOk P w K mg base CX0 lawLevel T.a_law T.fd_law ["_law_script"] (spLaw K) := by
  have G_l_dip := ok_dip (P := P) (w := w) (base := base) T
  have G_l_take := ok_take (P := P) (w := w) (base := base) T
  have G_l_folded := ok_folded (P := P) (w := w) (base := base) T
  have G_l_total := ok_total (P := P) (w := w) (base := base) T
  have G_l_right := ok_right (P := P) (w := w) (base := base) T
  refine T.F_law.ok sc_law (fun vs H Q E h => ?_) (fun cdv A outer s H vs Q E hr h => ?_)
  · obtain ⟨a, ns, rfl, _⟩ := h
    rfl
  · obtain ⟨a, ns, rfl, hS, hl, q⟩ := h
    refine ⟨_, (pss_cons (ps_set (i := 1) sc_law.nd rfl (Or.inl rfl) (pe_call G_l_folded (hr.mono (by first | decide | omega)) (by rfl) T.g_l_folded T.F_l_folded.kp T.b_l_folded .nil pass0 (pa_cons (pv 0) (pa_cons pe_int pa_nil))))
  (pss_cons (ps_for PassesOwn.never rfl (pi_range1 (by rfl) T.z_range (pa_cons (pe_op op_add pe_int (pe_callB call_len (by rfl) T.z_len (by decide +kernel) (pa_cons (pv 1) pa_nil))) pa_nil)) (pg_name (i := 2) sc_law.nd rfl (Or.inl rfl))
    (pss_cons (ps_set (i := 3) sc_law.nd rfl (Or.inl rfl) (pe_call G_l_dip (hr.mono (by first | decide | omega)) (by rfl) T.g_l_dip T.F_l_dip.kp T.b_l_dip .nil pass0 (pa_cons (pv 1) (pa_cons (pv 2) pa_nil))))
    (pss_one (ps_for PassesOwn.never rfl (pi_range1 (by rfl) T.z_range (pa_cons pe_int pa_nil)) (pg_name (i := 4) sc_law.nd rfl (Or.inl rfl))
      (pss_cons (ps_set (i := 5) sc_law.nd rfl (Or.inl rfl) (pe_ix ix_list (pe_lst (pa_cons pe_int (pa_cons pe_int (pa_cons pe_int (pa_cons pe_int (pa_cons (pe_op op_add pe_int (pe_call G_l_take (hr.mono (by first | decide | omega)) (by rfl) T.g_l_take T.F_l_take.kp T.b_l_take .nil pass0 (pa_cons (pv 3) (pa_cons pe_int pa_nil)))) (pa_cons (pe_op op_add pe_int (pe_call G_l_take (hr.mono (by first | decide | omega)) (by rfl) T.g_l_take T.F_l_take.kp T.b_l_take .nil pass0 (pa_cons (pv 3) (pa_cons pe_int pa_nil)))) pa_nil))))))) (pe_call G_l_take (hr.mono (by first | decide | omega)) (by rfl) T.g_l_take T.F_l_take.kp T.b_l_take .nil pass0 (pa_cons (pv 3) (pa_cons pe_int pa_nil))) (fun _ _ => rfl)))
      (pss_one (ps_if (pt_not (pt_val (pe_call G_l_right (hr.mono (by first | decide | omega)) (by rfl) T.g_l_right T.F_l_right.kp T.b_l_right .nil pass0 (pa_cons (pv 3) (pa_cons (pe_call G_l_total (hr.mono (by first | decide | omega)) (by rfl) T.g_l_total T.F_l_total.kp T.b_l_total .nil pass0 (pa_cons (pv 3) pa_nil)) (pa_cons (pv 5) pa_nil))))))
        (pss_one (ps_ret pe_bl))
        pss_nil)))))))
  (pss_one (ps_ret pe_bl)))), ?_⟩
    refine ⟨_, rfl, a, ns, 4, rfl, hS, hl, by decide, by decide, fun c ms H2 nc ec lm s2 => ?_⟩
    have lm4 : ms.length ≤ 4 := by omega
    refine ⟨_, rfl, _, _, rfl, .inl ⟨_, sqL ec, rfl⟩, _, _, rfl, rfl, _, rfl, by rw [List.length_map]; omega, by rw [List.length_map]; omega, ?_⟩
    refine for_range (lo := 0) (n := _) (fun i σ H4 => ∃ y2 y3 y4 y5 : Option V, σ = [some (.ref a), some (.ref c), y2, y3, y4, y5] ∧ H4 c = some (.lst (ms.map V.int))) ⟨_, _, _, _, rfl, ec⟩ ?_ ?_
    · rintro i σ H4 hi ⟨y2, y3, y4, y5, rfl, e4⟩
      rw [List.length_map] at hi
      refine ⟨_, rfl, _, rfl, c, ms, i, by rw [Int.zero_add]; rfl, sqL e4, by omega, by omega, fun b H5 nb B5 f5 => ?_⟩
      have cb : c ≠ b := ne_of_none e4 nb
      refine ⟨_, rfl, by decide, by decide, for_range (lo := 0) (n := 5) (fun j σ H6 => ∃ y4 y5 : Option V, σ = [some (.ref a), some (.ref c), some (.int (0 + (i : Int))), some (.ref b), y4, y5] ∧ H6 c = some (.lst (ms.map V.int)) ∧ BoxAt H6 b (60 * j))
        ⟨_, _, rfl, by rw [f5 c cb]; exact e4, B5⟩ ?_ ?_⟩
      · rintro j σ H6 hj ⟨y4, y5, rfl, e6, B6⟩
        refine ⟨_, rfl, b, 12, _, rfl, B6, by decide, by decide, by omega, fun r1 H7 r10 r11 B7 f7 => ⟨_, _, rfl, rfl, ?_⟩⟩
        refine ⟨_, rfl, b, 4000, _, rfl, B7, by decide, by decide, by omega, fun r2 H8 r20 r21 B8 f8 => ⟨_, _, rfl, rfl, szl rfl, fun l nl => ?_⟩⟩
        generalize hE9 : upd _ l _ = H9
        obtain ⟨s9, e9⟩ := newF nl hE9
        have lb : l ≠ b := (ne_of_none B8.some.choose_spec nl).symm
        refine ⟨_, rfl, b, 6, _, rfl, B8.same s9, by decide, by decide, by omega, fun r3 H10 r30 r31 B10 f10 => ?_⟩
        obtain ⟨v, ev, m, rfl, m0, m1⟩ := at_pick (xs := [.int 1, .int 91, .int 364, .int 4000, .int (1 + r1), .int (1 + r2)]) (i := r3) (Pr := Num 1 4000) r30 (by show r3 < 6; exact r31)
          (alc (num (by decide) (by decide)) (alc (num (by decide) (by decide)) (alc (num (by decide) (by decide)) (alc (num (by decide) (by decide)) (alc (num (by omega) (by omega)) (alc (num (by omega) (by omega)) aln))))))
        refine ⟨l, _, _, _, rfl, rfl, sqL (by rw [f10 _ lb]; exact e9), ev, ?_⟩
        refine ⟨_, rfl, _, rfl, b, _, rfl, B10, by omega, fun t H11 t0 t1 B11 s11 => ?_⟩
        refine ⟨_, rfl, b, t, m, _, rfl, B11, by omega, t0, t1, by omega, m1, fun H12 B12 s12 => ?_⟩
        refine ⟨_, rfl, iteF ?_⟩
        refine ⟨_, _, rfl, ?_, B12.mono (by omega)⟩
        refine s12 _ _ (s11 _ _ ?_ cb) cb
        rw [f10 _ cb]
        refine s9 _ _ ?_
        rw [f8 _ cb, f7 _ cb]
        exact e6
      · rintro σ H6 ⟨y4, y5, rfl, e6, B6⟩
        exact ⟨_, _, _, _, rfl, e6⟩
    · rintro σ H4 ⟨y2, y3, y4, y5, rfl, e4⟩
      exact q _
end

def top_mk {K : PySem.W.Frag} {h : Heap} {mg : Str → Option Value} (X : K.In h) (G : h.Ns mainGlobals mg)
    {f_part_of : Addr} {oc_part_of : Value} {od_part_of an_part_of : Option Addr} {sl_part_of : Array (Option Value)} {kV_part_of dc_part_of pm_part_of cd_part_of ct_part_of : Value}
    {T_part_of : Addr} {ocT_part_of : Value} {odT_part_of : Option Addr} {nT_part_of : Nat} {slT_part_of : Array (Option Value)}
    {f_l_dip : Addr} {oc_l_dip : Value} {od_l_dip an_l_dip : Option Addr} {sl_l_dip : Array (Option Value)} {kV_l_dip dc_l_dip pm_l_dip cd_l_dip ct_l_dip : Value}
    {f_l_take : Addr} {oc_l_take : Value} {od_l_take an_l_take : Option Addr} {sl_l_take : Array (Option Value)} {kV_l_take dc_l_take pm_l_take cd_l_take ct_l_take : Value}
    {f_l_folded : Addr} {oc_l_folded : Value} {od_l_folded an_l_folded : Option Addr} {sl_l_folded : Array (Option Value)} {kV_l_folded dc_l_folded pm_l_folded cd_l_folded ct_l_folded : Value}
    {f_l_total : Addr} {oc_l_total : Value} {od_l_total an_l_total : Option Addr} {sl_l_total : Array (Option Value)} {kV_l_total dc_l_total pm_l_total cd_l_total ct_l_total : Value}
    {f_l_is_number : Addr} {oc_l_is_number : Value} {od_l_is_number an_l_is_number : Option Addr} {sl_l_is_number : Array (Option Value)} {kV_l_is_number dc_l_is_number pm_l_is_number cd_l_is_number ct_l_is_number : Value}
    {f_l_due : Addr} {oc_l_due : Value} {od_l_due an_l_due : Option Addr} {sl_l_due : Array (Option Value)} {kV_l_due dc_l_due pm_l_due cd_l_due ct_l_due : Value}
    {f_l_cut : Addr} {oc_l_cut : Value} {od_l_cut an_l_cut : Option Addr} {sl_l_cut : Array (Option Value)} {kV_l_cut dc_l_cut pm_l_cut cd_l_cut ct_l_cut : Value}
    {f_l_right : Addr} {oc_l_right : Value} {od_l_right an_l_right : Option Addr} {sl_l_right : Array (Option Value)} {kV_l_right dc_l_right pm_l_right cd_l_right ct_l_right : Value}
    {f_law : Addr} {oc_law : Value} {od_law an_law : Option Addr} {sl_law : Array (Option Value)} {kV_law dc_law pm_law cd_law ct_law : Value}
    (a_part_of : PySem.W.nsIn K mainGlobals "part_of" = some (some (.ref f_part_of)))
    (l_part_of : K.lookup f_part_of = some ⟨oc_part_of, od_part_of, .func (PySem.W.fnOf "part_of" "part_of" (defArgs s_part_of) (defBody s_part_of) (defScope s_part_of) (.ref T_part_of) kV_part_of dc_part_of pm_part_of an_part_of cd_part_of ct_part_of), sl_part_of⟩)
    (c_part_of : PySem.W.codeIn K cd_part_of "part_of" = true)
    (k_part_of : PySem.W.keepIn K (.ref f_part_of) = true)
    (d_part_of : K.lookup T_part_of = some ⟨ocT_part_of, odT_part_of, .seq #[(PySem.Value.none)] nT_part_of, slT_part_of⟩)
    (a_l_dip : PySem.W.nsIn K mainGlobals "_law_dip" = some (some (.ref f_l_dip)))
    (l_l_dip : K.lookup f_l_dip = some ⟨oc_l_dip, od_l_dip, .func (PySem.W.fnOf "_law_dip" "_law_dip" (defArgs s_l_dip) (defBody s_l_dip) (defScope s_l_dip) .none kV_l_dip dc_l_dip pm_l_dip an_l_dip cd_l_dip ct_l_dip), sl_l_dip⟩)
    (c_l_dip : PySem.W.codeIn K cd_l_dip "_law_dip" = true)
    (k_l_dip : PySem.W.keepIn K (.ref f_l_dip) = true)
    (a_l_take : PySem.W.nsIn K mainGlobals "_law_take" = some (some (.ref f_l_take)))
    (l_l_take : K.lookup f_l_take = some ⟨oc_l_take, od_l_take, .func (PySem.W.fnOf "_law_take" "_law_take" (defArgs s_l_take) (defBody s_l_take) (defScope s_l_take) .none kV_l_take dc_l_take pm_l_take an_l_take cd_l_take ct_l_take), sl_l_take⟩)
    (c_l_take : PySem.W.codeIn K cd_l_take "_law_take" = true)
    (k_l_take : PySem.W.keepIn K (.ref f_l_take) = true)
    (a_l_folded : PySem.W.nsIn K mainGlobals "_law_folded" = some (some (.ref f_l_folded)))
    (l_l_folded : K.lookup f_l_folded = some ⟨oc_l_folded, od_l_folded, .func (PySem.W.fnOf "_law_folded" "_law_folded" (defArgs s_l_folded) (defBody s_l_folded) (defScope s_l_folded) .none kV_l_folded dc_l_folded pm_l_folded an_l_folded cd_l_folded ct_l_folded), sl_l_folded⟩)
    (c_l_folded : PySem.W.codeIn K cd_l_folded "_law_folded" = true)
    (k_l_folded : PySem.W.keepIn K (.ref f_l_folded) = true)
    (a_l_total : PySem.W.nsIn K mainGlobals "_law_total" = some (some (.ref f_l_total)))
    (l_l_total : K.lookup f_l_total = some ⟨oc_l_total, od_l_total, .func (PySem.W.fnOf "_law_total" "_law_total" (defArgs s_l_total) (defBody s_l_total) (defScope s_l_total) .none kV_l_total dc_l_total pm_l_total an_l_total cd_l_total ct_l_total), sl_l_total⟩)
    (c_l_total : PySem.W.codeIn K cd_l_total "_law_total" = true)
    (k_l_total : PySem.W.keepIn K (.ref f_l_total) = true)
    (a_l_is_number : PySem.W.nsIn K mainGlobals "_law_is_number" = some (some (.ref f_l_is_number)))
    (l_l_is_number : K.lookup f_l_is_number = some ⟨oc_l_is_number, od_l_is_number, .func (PySem.W.fnOf "_law_is_number" "_law_is_number" (defArgs s_l_is_number) (defBody s_l_is_number) (defScope s_l_is_number) .none kV_l_is_number dc_l_is_number pm_l_is_number an_l_is_number cd_l_is_number ct_l_is_number), sl_l_is_number⟩)
    (c_l_is_number : PySem.W.codeIn K cd_l_is_number "_law_is_number" = true)
    (k_l_is_number : PySem.W.keepIn K (.ref f_l_is_number) = true)
    (a_l_due : PySem.W.nsIn K mainGlobals "_law_due" = some (some (.ref f_l_due)))
    (l_l_due : K.lookup f_l_due = some ⟨oc_l_due, od_l_due, .func (PySem.W.fnOf "_law_due" "_law_due" (defArgs s_l_due) (defBody s_l_due) (defScope s_l_due) .none kV_l_due dc_l_due pm_l_due an_l_due cd_l_due ct_l_due), sl_l_due⟩)
    (c_l_due : PySem.W.codeIn K cd_l_due "_law_due" = true)
    (k_l_due : PySem.W.keepIn K (.ref f_l_due) = true)
    (a_l_cut : PySem.W.nsIn K mainGlobals "_law_cut" = some (some (.ref f_l_cut)))
    (l_l_cut : K.lookup f_l_cut = some ⟨oc_l_cut, od_l_cut, .func (PySem.W.fnOf "_law_cut" "_law_cut" (defArgs s_l_cut) (defBody s_l_cut) (defScope s_l_cut) .none kV_l_cut dc_l_cut pm_l_cut an_l_cut cd_l_cut ct_l_cut), sl_l_cut⟩)
    (c_l_cut : PySem.W.codeIn K cd_l_cut "_law_cut" = true)
    (k_l_cut : PySem.W.keepIn K (.ref f_l_cut) = true)
    (a_l_right : PySem.W.nsIn K mainGlobals "_law_right" = some (some (.ref f_l_right)))
    (l_l_right : K.lookup f_l_right = some ⟨oc_l_right, od_l_right, .func (PySem.W.fnOf "_law_right" "_law_right" (defArgs s_l_right) (defBody s_l_right) (defScope s_l_right) .none kV_l_right dc_l_right pm_l_right an_l_right cd_l_right ct_l_right), sl_l_right⟩)
    (c_l_right : PySem.W.codeIn K cd_l_right "_law_right" = true)
    (k_l_right : PySem.W.keepIn K (.ref f_l_right) = true)
    (a_law : PySem.W.nsIn K mainGlobals "law" = some (some (.ref f_law)))
    (l_law : K.lookup f_law = some ⟨oc_law, od_law, .func (PySem.W.fnOf "law" "law" (defArgs s_law) (defBody s_law) (defScope s_law) .none kV_law dc_law pm_law an_law cd_law ct_law), sl_law⟩)
    (c_law : PySem.W.codeIn K cd_law "law" = true)
    (k_law : PySem.W.keepIn K (.ref f_law) = true)
    (z_abs : PySem.W.nsIn K mainGlobals "abs" = some none)
    (z_all : PySem.W.nsIn K mainGlobals "all" = some none)
    (z_bool : PySem.W.nsIn K mainGlobals "bool" = some none)
    (z_enumerate : PySem.W.nsIn K mainGlobals "enumerate" = some none)
    (z_int : PySem.W.nsIn K mainGlobals "int" = some none)
    (z_isinstance : PySem.W.nsIn K mainGlobals "isinstance" = some none)
    (z_len : PySem.W.nsIn K mainGlobals "len" = some none)
    (z_list : PySem.W.nsIn K mainGlobals "list" = some none)
    (z_min : PySem.W.nsIn K mainGlobals "min" = some none)
    (z_range : PySem.W.nsIn K mainGlobals "range" = some none)
    (z_set : PySem.W.nsIn K mainGlobals "set" = some none)
    (z_sorted : PySem.W.nsIn K mainGlobals "sorted" = some none)
    (z_sum : PySem.W.nsIn K mainGlobals "sum" = some none)
    (z_zip : PySem.W.nsIn K mainGlobals "zip" = some none) : Top K mg where
  a_part_of := f_part_of
  fd_part_of := PySem.W.fnOf "part_of" "part_of" (defArgs s_part_of) (defBody s_part_of) (defScope s_part_of) (.ref T_part_of) kV_part_of dc_part_of pm_part_of an_part_of cd_part_of ct_part_of
  F_part_of := ⟨⟨_, _, _, _, _, _, _, _, _, _, rfl, l_part_of, c_part_of, .inr ⟨by simp, T_part_of, _, [_], nT_part_of, rfl, d_part_of, rfl, (.cons rfl .nil)⟩, .inl rfl⟩, k_part_of⟩
  g_part_of := PySem.W.mg_of X G a_part_of
  a_l_dip := f_l_dip
  fd_l_dip := PySem.W.fnOf "_law_dip" "_law_dip" (defArgs s_l_dip) (defBody s_l_dip) (defScope s_l_dip) .none kV_l_dip dc_l_dip pm_l_dip an_l_dip cd_l_dip ct_l_dip
  F_l_dip := fun_mk (st := s_l_dip) l_l_dip c_l_dip k_l_dip
  g_l_dip := PySem.W.mg_of X G a_l_dip
  b_l_dip := (fun_mk (st := s_l_dip) l_l_dip c_l_dip k_l_dip).binds (ps := ["_law_script", "_law_k"]) (fun _ _ _ _ _ _ us hl => match us, hl with | [_, _], _ => rfl)
  a_l_take := f_l_take
  fd_l_take := PySem.W.fnOf "_law_take" "_law_take" (defArgs s_l_take) (defBody s_l_take) (defScope s_l_take) .none kV_l_take dc_l_take pm_l_take an_l_take cd_l_take ct_l_take
  F_l_take := fun_mk (st := s_l_take) l_l_take c_l_take k_l_take
  g_l_take := PySem.W.mg_of X G a_l_take
  b_l_take := (fun_mk (st := s_l_take) l_l_take c_l_take k_l_take).binds (ps := ["_law_box", "_law_many"]) (fun _ _ _ _ _ _ us hl => match us, hl with | [_, _], _ => rfl)
  a_l_folded := f_l_folded
  fd_l_folded := PySem.W.fnOf "_law_folded" "_law_folded" (defArgs s_l_folded) (defBody s_l_folded) (defScope s_l_folded) .none kV_l_folded dc_l_folded pm_l_folded an_l_folded cd_l_folded ct_l_folded
  F_l_folded := fun_mk (st := s_l_folded) l_l_folded c_l_folded k_l_folded
  g_l_folded := PySem.W.mg_of X G a_l_folded
  b_l_folded := (fun_mk (st := s_l_folded) l_l_folded c_l_folded k_l_folded).binds (ps := ["_law_script", "_law_size"]) (fun _ _ _ _ _ _ us hl => match us, hl with | [_, _], _ => rfl)
  a_l_total := f_l_total
  fd_l_total := PySem.W.fnOf "_law_total" "_law_total" (defArgs s_l_total) (defBody s_l_total) (defScope s_l_total) .none kV_l_total dc_l_total pm_l_total an_l_total cd_l_total ct_l_total
  F_l_total := fun_mk (st := s_l_total) l_l_total c_l_total k_l_total
  g_l_total := PySem.W.mg_of X G a_l_total
  b_l_total := (fun_mk (st := s_l_total) l_l_total c_l_total k_l_total).binds (ps := ["_law_box"]) (fun _ _ _ _ _ _ us hl => match us, hl with | [_], _ => rfl)
  a_l_is_number := f_l_is_number
  fd_l_is_number := PySem.W.fnOf "_law_is_number" "_law_is_number" (defArgs s_l_is_number) (defBody s_l_is_number) (defScope s_l_is_number) .none kV_l_is_number dc_l_is_number pm_l_is_number an_l_is_number cd_l_is_number ct_l_is_number
  F_l_is_number := fun_mk (st := s_l_is_number) l_l_is_number c_l_is_number k_l_is_number
  g_l_is_number := PySem.W.mg_of X G a_l_is_number
  b_l_is_number := (fun_mk (st := s_l_is_number) l_l_is_number c_l_is_number k_l_is_number).binds (ps := ["_law_thing"]) (fun _ _ _ _ _ _ us hl => match us, hl with | [_], _ => rfl)
  a_l_due := f_l_due
  fd_l_due := PySem.W.fnOf "_law_due" "_law_due" (defArgs s_l_due) (defBody s_l_due) (defScope s_l_due) .none kV_l_due dc_l_due pm_l_due an_l_due cd_l_due ct_l_due
  F_l_due := fun_mk (st := s_l_due) l_l_due c_l_due k_l_due
  g_l_due := PySem.W.mg_of X G a_l_due
  b_l_due := (fun_mk (st := s_l_due) l_l_due c_l_due k_l_due).binds (ps := ["_law_total_here", "_law_many", "_law_first", "_law_end"]) (fun _ _ _ _ _ _ us hl => match us, hl with | [_, _, _, _], _ => rfl)
  a_l_cut := f_l_cut
  fd_l_cut := PySem.W.fnOf "_law_cut" "_law_cut" (defArgs s_l_cut) (defBody s_l_cut) (defScope s_l_cut) .none kV_l_cut dc_l_cut pm_l_cut an_l_cut cd_l_cut ct_l_cut
  F_l_cut := fun_mk (st := s_l_cut) l_l_cut c_l_cut k_l_cut
  g_l_cut := PySem.W.mg_of X G a_l_cut
  b_l_cut := (fun_mk (st := s_l_cut) l_l_cut c_l_cut k_l_cut).binds (ps := ["_law_box", "_law_many"]) (fun _ _ _ _ _ _ us hl => match us, hl with | [_, _], _ => rfl)
  a_l_right := f_l_right
  fd_l_right := PySem.W.fnOf "_law_right" "_law_right" (defArgs s_l_right) (defBody s_l_right) (defScope s_l_right) .none kV_l_right dc_l_right pm_l_right an_l_right cd_l_right ct_l_right
  F_l_right := fun_mk (st := s_l_right) l_l_right c_l_right k_l_right
  g_l_right := PySem.W.mg_of X G a_l_right
  b_l_right := (fun_mk (st := s_l_right) l_l_right c_l_right k_l_right).binds (ps := ["_law_box", "_law_total_here", "_law_many"]) (fun _ _ _ _ _ _ us hl => match us, hl with | [_, _, _], _ => rfl)
  a_law := f_law
  fd_law := PySem.W.fnOf "law" "law" (defArgs s_law) (defBody s_law) (defScope s_law) .none kV_law dc_law pm_law an_law cd_law ct_law
  F_law := fun_mk (st := s_law) l_law c_law k_law
  b_law := (fun_mk (st := s_law) l_law c_law k_law).binds (ps := ["_law_script"]) (fun _ _ _ _ _ _ us hl => match us, hl with | [_], _ => rfl)
  kb_part_of_3 := KB.mkD (st := s_part_of) ⟨⟨_, _, _, _, _, _, _, _, _, _, rfl, l_part_of, c_part_of, .inr ⟨by simp, T_part_of, _, [_], nT_part_of, rfl, d_part_of, rfl, (.cons rfl .nil)⟩, .inl rfl⟩, k_part_of⟩ (by simp) (fun _ _ _ _ _ _ _ us its ws h1 h2 h3 => match us, its, ws, h1, h2, h3 with | [_, _, _], [_], [], _, _, _ => ⟨_, rfl, rfl⟩)
  kb_part_of_3_last := KB.mkD (st := s_part_of) ⟨⟨_, _, _, _, _, _, _, _, _, _, rfl, l_part_of, c_part_of, .inr ⟨by simp, T_part_of, _, [_], nT_part_of, rfl, d_part_of, rfl, (.cons rfl .nil)⟩, .inl rfl⟩, k_part_of⟩ (by simp) (fun _ _ _ _ _ _ _ us its ws h1 h2 h3 => match us, its, ws, h1, h2, h3 with | [_, _, _], [_], [_], _, _, _ => ⟨_, rfl, rfl⟩)
  kb_part_of_4 := KB.mkD (st := s_part_of) ⟨⟨_, _, _, _, _, _, _, _, _, _, rfl, l_part_of, c_part_of, .inr ⟨by simp, T_part_of, _, [_], nT_part_of, rfl, d_part_of, rfl, (.cons rfl .nil)⟩, .inl rfl⟩, k_part_of⟩ (by simp) (fun _ _ _ _ _ _ _ us its ws h1 h2 h3 => match us, its, ws, h1, h2, h3 with | [_, _, _, _], [_], [], _, _, _ => ⟨_, rfl, rfl⟩)
  z_abs := PySem.W.mg_none_of X G z_abs
  z_all := PySem.W.mg_none_of X G z_all
  z_bool := PySem.W.mg_none_of X G z_bool
  z_enumerate := PySem.W.mg_none_of X G z_enumerate
  z_int := PySem.W.mg_none_of X G z_int
  z_isinstance := PySem.W.mg_none_of X G z_isinstance
  z_len := PySem.W.mg_none_of X G z_len
  z_list := PySem.W.mg_none_of X G z_list
  z_min := PySem.W.mg_none_of X G z_min
  z_range := PySem.W.mg_none_of X G z_range
  z_set := PySem.W.mg_none_of X G z_set
  z_sorted := PySem.W.mg_none_of X G z_sorted
  z_sum := PySem.W.mg_none_of X G z_sum
  z_zip := PySem.W.mg_none_of X G z_zip
theorem all_mk {l : PySem.W.OpenLaw} {w : World} {K : PySem.W.Frag} {h : Heap} {mg : Str → Option Value} {fa : Addr} (X : K.In h) (G : h.Ns mainGlobals mg) (hfa : mg "law" = some (.ref fa))
    {f_part_of : Addr} {oc_part_of : Value} {od_part_of an_part_of : Option Addr} {sl_part_of : Array (Option Value)} {kV_part_of dc_part_of pm_part_of cd_part_of ct_part_of : Value}
    {T_part_of : Addr} {ocT_part_of : Value} {odT_part_of : Option Addr} {nT_part_of : Nat} {slT_part_of : Array (Option Value)}
    {f_l_dip : Addr} {oc_l_dip : Value} {od_l_dip an_l_dip : Option Addr} {sl_l_dip : Array (Option Value)} {kV_l_dip dc_l_dip pm_l_dip cd_l_dip ct_l_dip : Value}
    {f_l_take : Addr} {oc_l_take : Value} {od_l_take an_l_take : Option Addr} {sl_l_take : Array (Option Value)} {kV_l_take dc_l_take pm_l_take cd_l_take ct_l_take : Value}
    {f_l_folded : Addr} {oc_l_folded : Value} {od_l_folded an_l_folded : Option Addr} {sl_l_folded : Array (Option Value)} {kV_l_folded dc_l_folded pm_l_folded cd_l_folded ct_l_folded : Value}
    {f_l_total : Addr} {oc_l_total : Value} {od_l_total an_l_total : Option Addr} {sl_l_total : Array (Option Value)} {kV_l_total dc_l_total pm_l_total cd_l_total ct_l_total : Value}
    {f_l_is_number : Addr} {oc_l_is_number : Value} {od_l_is_number an_l_is_number : Option Addr} {sl_l_is_number : Array (Option Value)} {kV_l_is_number dc_l_is_number pm_l_is_number cd_l_is_number ct_l_is_number : Value}
    {f_l_due : Addr} {oc_l_due : Value} {od_l_due an_l_due : Option Addr} {sl_l_due : Array (Option Value)} {kV_l_due dc_l_due pm_l_due cd_l_due ct_l_due : Value}
    {f_l_cut : Addr} {oc_l_cut : Value} {od_l_cut an_l_cut : Option Addr} {sl_l_cut : Array (Option Value)} {kV_l_cut dc_l_cut pm_l_cut cd_l_cut ct_l_cut : Value}
    {f_l_right : Addr} {oc_l_right : Value} {od_l_right an_l_right : Option Addr} {sl_l_right : Array (Option Value)} {kV_l_right dc_l_right pm_l_right cd_l_right ct_l_right : Value}
    {f_law : Addr} {oc_law : Value} {od_law an_law : Option Addr} {sl_law : Array (Option Value)} {kV_law dc_law pm_law cd_law ct_law : Value}
    (a_part_of : PySem.W.nsIn K mainGlobals "part_of" = some (some (.ref f_part_of)))
    (l_part_of : K.lookup f_part_of = some ⟨oc_part_of, od_part_of, .func (PySem.W.fnOf "part_of" "part_of" (defArgs s_part_of) (defBody s_part_of) (defScope s_part_of) (.ref T_part_of) kV_part_of dc_part_of pm_part_of an_part_of cd_part_of ct_part_of), sl_part_of⟩)
    (c_part_of : PySem.W.codeIn K cd_part_of "part_of" = true)
    (k_part_of : PySem.W.keepIn K (.ref f_part_of) = true)
    (d_part_of : K.lookup T_part_of = some ⟨ocT_part_of, odT_part_of, .seq #[(PySem.Value.none)] nT_part_of, slT_part_of⟩)
    (a_l_dip : PySem.W.nsIn K mainGlobals "_law_dip" = some (some (.ref f_l_dip)))
    (l_l_dip : K.lookup f_l_dip = some ⟨oc_l_dip, od_l_dip, .func (PySem.W.fnOf "_law_dip" "_law_dip" (defArgs s_l_dip) (defBody s_l_dip) (defScope s_l_dip) .none kV_l_dip dc_l_dip pm_l_dip an_l_dip cd_l_dip ct_l_dip), sl_l_dip⟩)
    (c_l_dip : PySem.W.codeIn K cd_l_dip "_law_dip" = true)
    (k_l_dip : PySem.W.keepIn K (.ref f_l_dip) = true)
    (a_l_take : PySem.W.nsIn K mainGlobals "_law_take" = some (some (.ref f_l_take)))
    (l_l_take : K.lookup f_l_take = some ⟨oc_l_take, od_l_take, .func (PySem.W.fnOf "_law_take" "_law_take" (defArgs s_l_take) (defBody s_l_take) (defScope s_l_take) .none kV_l_take dc_l_take pm_l_take an_l_take cd_l_take ct_l_take), sl_l_take⟩)
    (c_l_take : PySem.W.codeIn K cd_l_take "_law_take" = true)
    (k_l_take : PySem.W.keepIn K (.ref f_l_take) = true)
    (a_l_folded : PySem.W.nsIn K mainGlobals "_law_folded" = some (some (.ref f_l_folded)))
    (l_l_folded : K.lookup f_l_folded = some ⟨oc_l_folded, od_l_folded, .func (PySem.W.fnOf "_law_folded" "_law_folded" (defArgs s_l_folded) (defBody s_l_folded) (defScope s_l_folded) .none kV_l_folded dc_l_folded pm_l_folded an_l_folded cd_l_folded ct_l_folded), sl_l_folded⟩)
    (c_l_folded : PySem.W.codeIn K cd_l_folded "_law_folded" = true)
    (k_l_folded : PySem.W.keepIn K (.ref f_l_folded) = true)
    (a_l_total : PySem.W.nsIn K mainGlobals "_law_total" = some (some (.ref f_l_total)))
    (l_l_total : K.lookup f_l_total = some ⟨oc_l_total, od_l_total, .func (PySem.W.fnOf "_law_total" "_law_total" (defArgs s_l_total) (defBody s_l_total) (defScope s_l_total) .none kV_l_total dc_l_total pm_l_total an_l_total cd_l_total ct_l_total), sl_l_total⟩)
    (c_l_total : PySem.W.codeIn K cd_l_total "_law_total" = true)
    (k_l_total : PySem.W.keepIn K (.ref f_l_total) = true)
    (a_l_is_number : PySem.W.nsIn K mainGlobals "_law_is_number" = some (some (.ref f_l_is_number)))
    (l_l_is_number : K.lookup f_l_is_number = some ⟨oc_l_is_number, od_l_is_number, .func (PySem.W.fnOf "_law_is_number" "_law_is_number" (defArgs s_l_is_number) (defBody s_l_is_number) (defScope s_l_is_number) .none kV_l_is_number dc_l_is_number pm_l_is_number an_l_is_number cd_l_is_number ct_l_is_number), sl_l_is_number⟩)
    (c_l_is_number : PySem.W.codeIn K cd_l_is_number "_law_is_number" = true)
    (k_l_is_number : PySem.W.keepIn K (.ref f_l_is_number) = true)
    (a_l_due : PySem.W.nsIn K mainGlobals "_law_due" = some (some (.ref f_l_due)))
    (l_l_due : K.lookup f_l_due = some ⟨oc_l_due, od_l_due, .func (PySem.W.fnOf "_law_due" "_law_due" (defArgs s_l_due) (defBody s_l_due) (defScope s_l_due) .none kV_l_due dc_l_due pm_l_due an_l_due cd_l_due ct_l_due), sl_l_due⟩)
    (c_l_due : PySem.W.codeIn K cd_l_due "_law_due" = true)
    (k_l_due : PySem.W.keepIn K (.ref f_l_due) = true)
    (a_l_cut : PySem.W.nsIn K mainGlobals "_law_cut" = some (some (.ref f_l_cut)))
    (l_l_cut : K.lookup f_l_cut = some ⟨oc_l_cut, od_l_cut, .func (PySem.W.fnOf "_law_cut" "_law_cut" (defArgs s_l_cut) (defBody s_l_cut) (defScope s_l_cut) .none kV_l_cut dc_l_cut pm_l_cut an_l_cut cd_l_cut ct_l_cut), sl_l_cut⟩)
    (c_l_cut : PySem.W.codeIn K cd_l_cut "_law_cut" = true)
    (k_l_cut : PySem.W.keepIn K (.ref f_l_cut) = true)
    (a_l_right : PySem.W.nsIn K mainGlobals "_law_right" = some (some (.ref f_l_right)))
    (l_l_right : K.lookup f_l_right = some ⟨oc_l_right, od_l_right, .func (PySem.W.fnOf "_law_right" "_law_right" (defArgs s_l_right) (defBody s_l_right) (defScope s_l_right) .none kV_l_right dc_l_right pm_l_right an_l_right cd_l_right ct_l_right), sl_l_right⟩)
    (c_l_right : PySem.W.codeIn K cd_l_right "_law_right" = true)
    (k_l_right : PySem.W.keepIn K (.ref f_l_right) = true)
    (a_law : PySem.W.nsIn K mainGlobals "law" = some (some (.ref f_law)))
    (l_law : K.lookup f_law = some ⟨oc_law, od_law, .func (PySem.W.fnOf "law" "law" (defArgs s_law) (defBody s_law) (defScope s_law) .none kV_law dc_law pm_law an_law cd_law ct_law), sl_law⟩)
    (c_law : PySem.W.codeIn K cd_law "law" = true)
    (k_law : PySem.W.keepIn K (.ref f_law) = true)
    (z_abs : PySem.W.nsIn K mainGlobals "abs" = some none)
    (z_all : PySem.W.nsIn K mainGlobals "all" = some none)
    (z_bool : PySem.W.nsIn K mainGlobals "bool" = some none)
    (z_enumerate : PySem.W.nsIn K mainGlobals "enumerate" = some none)
    (z_int : PySem.W.nsIn K mainGlobals "int" = some none)
    (z_isinstance : PySem.W.nsIn K mainGlobals "isinstance" = some none)
    (z_len : PySem.W.nsIn K mainGlobals "len" = some none)
    (z_list : PySem.W.nsIn K mainGlobals "list" = some none)
    (z_min : PySem.W.nsIn K mainGlobals "min" = some none)
    (z_range : PySem.W.nsIn K mainGlobals "range" = some none)
    (z_set : PySem.W.nsIn K mainGlobals "set" = some none)
    (z_sorted : PySem.W.nsIn K mainGlobals "sorted" = some none)
    (z_sum : PySem.W.nsIn K mainGlobals "sum" = some none)
    (z_zip : PySem.W.nsIn K mainGlobals "zip" = some none) :
    ∃ fd : FuncData, (∀ (s : Shared) (v : Value), BindsTo s fd ⟨[v], []⟩ [("_law_script", v)]) ∧ ∀ base : Heap, K.In base → base.Ns mainGlobals mg → FnOk l.prog w K mg base CX0 lawLevel fa fd ["_law_script"] (spLaw K) := by
  have e := hfa.symm.trans (PySem.W.mg_of X G a_law)
  cases e
  have T : Top K mg := top_mk X G a_part_of l_part_of c_part_of k_part_of d_part_of a_l_dip l_l_dip c_l_dip k_l_dip a_l_take l_l_take c_l_take k_l_take a_l_folded l_l_folded c_l_folded k_l_folded a_l_total l_l_total c_l_total k_l_total a_l_is_number l_l_is_number c_l_is_number k_l_is_number a_l_due l_l_due c_l_due k_l_due a_l_cut l_l_cut c_l_cut k_l_cut a_l_right l_l_right c_l_right k_l_right a_law l_law c_law k_law z_abs z_all z_bool z_enumerate z_int z_isinstance z_len z_list z_min z_range z_set z_sorted z_sum z_zip
  exact ⟨_, fun s v => .of_eq rfl, fun base _ _ => ok_law (top_mk X G a_part_of l_part_of c_part_of k_part_of d_part_of a_l_dip l_l_dip c_l_dip k_l_dip a_l_take l_l_take c_l_take k_l_take a_l_folded l_l_folded c_l_folded k_l_folded a_l_total l_l_total c_l_total k_l_total a_l_is_number l_l_is_number c_l_is_number k_l_is_number a_l_due l_l_due c_l_due k_l_due a_l_cut l_l_cut c_l_cut k_l_cut a_l_right l_l_right c_l_right k_l_right a_law l_law c_law k_law z_abs z_all z_bool z_enumerate z_int z_isinstance z_len z_list z_min z_range z_set z_sorted z_sum z_zip)⟩
end G61
open PySem PySem.W PyProof.Rows
set_option maxRecDepth 100000 in
set_option maxHeartbeats 0 in
theorem PySem.Challenge.cw_lettolls_k06_parts_by_days_holds : PySem.Challenge.rw_lettolls_k06_parts_by_days.Holds := by
  w_on; o_law; k_head; (case hw => w_witness2)
  k_fill
  refine L2.walk_of (l := PySem.Challenge.rw_lettolls_k06_parts_by_days) (n := 63) (k := G61.lawLevel) (x := "_law_script") (CX := fun _ => L2.CX0) (sp := fun w => G61.spLaw _) rfl (by decide) rfl ⟨rfl, by decide, by decide⟩ (fun w h Y => PySem.W.kIn_of Y) ?F (fun _ _ a ns hl _ hS => ⟨a, ns, rfl, hS, hl, fun _ => rfl⟩) (fun _ _ _ _ _ h => h)
  case F =>
    intro w mg fa h KX G hmg
    refine' G61.all_mk KX G hmg ?a_part_of ?l_part_of ?c_part_of ?k_part_of ?d_part_of ?a_l_dip ?l_l_dip ?c_l_dip ?k_l_dip ?a_l_take ?l_l_take ?c_l_take ?k_l_take ?a_l_folded ?l_l_folded ?c_l_folded ?k_l_folded ?a_l_total ?l_l_total ?c_l_total ?k_l_total ?a_l_is_number ?l_l_is_number ?c_l_is_number ?k_l_is_number ?a_l_due ?l_l_due ?c_l_due ?k_l_due ?a_l_cut ?l_l_cut ?c_l_cut ?k_l_cut ?a_l_right ?l_l_right ?c_l_right ?k_l_right ?a_law ?l_law ?c_law ?k_law ?z_abs ?z_all ?z_bool ?z_enumerate ?z_int ?z_isinstance ?z_len ?z_list ?z_min ?z_range ?z_set ?z_sorted ?z_sum ?z_zip
    (case a_part_of => k_is); (case l_part_of => k_is); (case c_part_of => k_is); (case k_part_of => k_is); (case d_part_of => k_is); (case a_l_dip => k_is); (case l_l_dip => k_is); (case c_l_dip => k_is); (case k_l_dip => k_is); (case a_l_take => k_is); (case l_l_take => k_is); (case c_l_take => k_is); (case k_l_take => k_is); (case a_l_folded => k_is); (case l_l_folded => k_is); (case c_l_folded => k_is); (case k_l_folded => k_is); (case a_l_total => k_is); (case l_l_total => k_is); (case c_l_total => k_is); (case k_l_total => k_is); (case a_l_is_number => k_is); (case l_l_is_number => k_is); (case c_l_is_number => k_is); (case k_l_is_number => k_is); (case a_l_due => k_is); (case l_l_due => k_is); (case c_l_due => k_is); (case k_l_due => k_is); (case a_l_cut => k_is); (case l_l_cut => k_is); (case c_l_cut => k_is); (case k_l_cut => k_is); (case a_l_right => k_is); (case l_l_right => k_is); (case c_l_right => k_is); (case k_l_right => k_is); (case a_law => k_is); (case l_law => k_is); (case c_law => k_is); (case k_law => k_is); (case z_abs => k_is); (case z_all => k_is); (case z_bool => k_is); (case z_enumerate => k_is); (case z_int => k_is); (case z_isinstance => k_is); (case z_len => k_is); (case z_list => k_is); (case z_min => k_is); (case z_range => k_is); (case z_set => k_is); (case z_sorted => k_is); (case z_sum => k_is); (case z_zip => k_is)
