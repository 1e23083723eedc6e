import PyProof.Rows.All
import Wide.All
import OpenK.AllK
import Wide.FinOn
import HandS.ForMost
import HandS.Wide
import HandS.IsInst
import HandS.Defaults
import HandS.Zip
import HandS.Walk
import HandS.Style
import HandS.Flow
import KE.KDictZip
import HandS.TupAny
import HandS.SetFor
import HandS.SlotsOwn
import HandS.SortKw
import HandS.SortRule
import HandS.SortInts
import HandS.Conv
import HandS.MakeKwOnly
import KE.KMinKey
import HandS.Strs
import HandS.Exc
import HandS.ExcOwn
import HandS.WordsExc
import HandS.IntHex
import HandS.StrMore
import HandS.Replace
import PyProof.ListStr
import PyProof.AutoIntOps
import HandS.RaiseMore
import KE.KRevSl
import PyProof.FitsReplace
import PyProof.ReprRoads
import PyProof.FitsInt
import PyProof.StrLawsRepr
import KE.IntTextLaws
import HandS.More
import KE.DataMinMax
import KE.SortData
import HandS.Set
import PyProof.SetRoads
import HandS.TupMul
import PyProof.Rows.IntBool
import PyProof.Rows.SortStr
import HandS.TupSets
import PySem.Challenge.RW_lettolls_k62_tickets_written
set_option Elab.async false
set_option maxRecDepth 100000
set_option maxHeartbeats 4000000
set_option linter.unusedVariables false
set_option linter.unusedSimpArgs false
namespace DV
open PySem L2
/-! ### data, told as values -/
inductive D where
  | non | bl (b : Bool) | int (i : Int) | str (x : Str)
  | tup (xs : List D)
  | lst (o : Bool) (xs : List D)
  | dct (o : Bool) (ks : List Key) (ds : List D)
  | dcT (o : Bool) (ks : List (List Key)) (ds : List D)
  | ins (o : Bool) (c : Nat) (ns : List Str) (ds : List D)
  | ty (n : String)
  | scr (ns : List Int)
mutual
def clean : D → Bool
  | .tup ds => cleans ds
  | .lst o ds => !o && cleans ds
  | .dct o _ ds => !o && cleans ds
  | .dcT o _ ds => !o && cleans ds
  | .ins o _ _ ds => !o && cleans ds
  | _ => true
def cleans : List D → Bool
  | [] => true
  | d :: ds => clean d && cleans ds
end
mutual
def freeze : D → D
  | .tup ds => .tup (freezes ds)
  | .lst _ ds => .lst false (freezes ds)
  | .dct _ ks ds => .dct false ks (freezes ds)
  | .dcT _ ks ds => .dcT false ks (freezes ds)
  | .ins _ c ns ds => .ins false c ns (freezes ds)
  | .non => .non
  | .bl b => .bl b
  | .int i => .int i
  | .str x => .str x
  | .ty n => .ty n
  | .scr ns => .scr ns
def freezes : List D → List D
  | [] => []
  | d :: ds => freeze d :: freezes ds
end
abbrev Env := List (Option D)
def gt : Env → Nat → Option D
  | [], _ => none
  | x :: _, 0 => x
  | _ :: r, n + 1 => gt r n
def st : Env → Nat → Option D → Env
  | [], _, _ => []
  | _ :: r, 0, d => d :: r
  | x :: r, n + 1, d => x :: st r n d
theorem st_length : ∀ (δ : Env) (i : Nat) (d : Option D), (st δ i d).length = δ.length
  | [], _, _ => rfl
  | _ :: _, 0, _ => rfl
  | _ :: r, n + 1, d => by simp [st, st_length r n d]
theorem gt_st_ne : ∀ {δ : Env} {i j : Nat} {d : Option D}, i ≠ j → gt (st δ i d) j = gt δ j
  | [], _, _, _, _ => rfl
  | _ :: _, 0, 0, _, h => absurd rfl h
  | _ :: _, 0, j + 1, _, _ => rfl
  | _ :: _, i + 1, 0, _, _ => rfl
  | _ :: r, i + 1, j + 1, d, h => gt_st_ne (δ := r) (fun e => h (by rw [e]))
theorem gt_st_same : ∀ {δ : Env} {i : Nat} {d : Option D}, i < δ.length → gt (st δ i d) i = d
  | [], _, _, h => absurd h (Nat.not_lt_zero _)
  | _ :: _, 0, _, _ => rfl
  | _ :: r, i + 1, d, h => gt_st_same (δ := r) (Nat.lt_of_succ_lt_succ h)
theorem gt_lt : ∀ {δ : Env} {i : Nat} {d : D}, gt δ i = some d → i < δ.length
  | [], _, _, h => nomatch h
  | _ :: _, 0, _, _ => Nat.succ_pos _
  | _ :: r, i + 1, _, h => Nat.succ_lt_succ (gt_lt (δ := r) h)
theorem gt_st_none {δ : Env} {i j : Nat} {d : D} (h : gt (st δ i none) j = some d) : gt δ j = some d ∧ i ≠ j := by
  by_cases e : i = j
  · subst e
    by_cases hl : i < δ.length
    · rw [gt_st_same hl] at h; cases h
    · have := gt_lt h
      rw [st_length] at this
      exact absurd this hl
  · rw [gt_st_ne e] at h
    exact ⟨h, e⟩
theorem gt_st_some {δ : Env} {i j : Nat} {d d' : D} (h : gt (st δ i (some d')) j = some d) : (i = j ∧ d = d') ∨ (i ≠ j ∧ gt δ j = some d) := by
  by_cases e : i = j
  · subst e
    have hl : i < δ.length := by
      have := gt_lt h
      rwa [st_length] at this
    rw [gt_st_same hl] at h
    cases h
    exact .inl ⟨rfl, rfl⟩
  · rw [gt_st_ne e] at h
    exact .inr ⟨e, h⟩
inductive ECls where
  | own (c : Nat) | blt (n : String)
structure Exn where
  c : ECls
  fs : List (Str × V)
inductive R (α : Type) where
  | ok (a : α) (δ : Env) | ex (x : Exn) (δ : Env) | bad
def R.bind {α β : Type} (r : R α) (k : α → Env → R β) : R β :=
  match r with
  | .ok a δ => k a δ
  | .ex x δ => .ex x δ
  | .bad => .bad
@[simp] theorem R.bind_ok {α β : Type} {a : α} {δ : Env} {k : α → Env → R β} : (R.ok a δ).bind k = k a δ := rfl
@[simp] theorem R.bind_ex {α β : Type} {x : Exn} {δ : Env} {k : α → Env → R β} : (R.ex x δ : R α).bind k = .ex x δ := rfl
@[simp] theorem R.bind_bad {α β : Type} {k : α → Env → R β} : (R.bad : R α).bind k = .bad := rfl
abbrev Ev := Env → R D
/-! ### what stands for what -/
abbrev Fp := Addr → Prop
def Dj (F F' : Fp) : Prop := ∀ a, F a → F' a → False
def Le (F F' : Fp) : Prop := ∀ a, F a → F' a
theorem Dj.symm {F F' : Fp} (h : Dj F F') : Dj F' F := fun a x y => h a y x
theorem Dj.le {F F' E E' : Fp} (h : Dj F F') (l : Le E F) (l' : Le E' F') : Dj E E' := fun a x y => h a (l a x) (l' a y)
theorem Le.refl (F : Fp) : Le F F := fun _ h => h
theorem Le.trans {F F' F'' : Fp} (a : Le F F') (b : Le F' F'') : Le F F'' := fun x h => b x (a x h)
/-- the empty footprint -/
abbrev Fe : Fp := fun _ => False
structure Cfg where
  K : PySem.W.Frag
  C : Nat → Addr
/-- a list that stands for good -/
def ShL (G : Fp) (H : Hp) (a : Addr) (vs : List V) : Prop := H a = some (.lst vs) ∧ G a
theorem ShL.sq {K : PySem.W.Frag} {G : Fp} {H : Hp} {a : Addr} {vs : List V} (h : ShL G H a vs) : SqL K H a vs := .inl (.inl h.1)
theorem ShL.mono {G G' : Fp} {H : Hp} {a : Addr} {vs : List V} (h : ShL G H a vs) (gm : Le G G') : ShL G' H a vs := ⟨h.1, gm a h.2⟩
/-- the law's own list, wherever it stands -/
def ScA (K : PySem.W.Frag) (G : Fp) (H : Hp) (a : Addr) (vs : List V) : Prop :=
  (H a = some (.lst vs) ∧ G a) ∨ (∃ o, H a = some (.frz o (.lst vs))) ∨
    ∃ (o : Obj) (its : Array Value) (n : Nat), K.lookup a = some o ∧ o.cls = .type "list" ∧ o.dict = none ∧ o.data = .seq its n ∧ its.size ≤ sizeLine ∧ Vals vs its.toList
theorem ScA.sq {K : PySem.W.Frag} {G : Fp} {H : Hp} {a : Addr} {vs : List V} (h : ScA K G H a vs) : SqL K H a vs := by
  rcases h with h | ⟨o, h⟩ | h
  · exact .inl (.inl h.1)
  · exact .inl (.inr ⟨o, h⟩)
  · exact .inr h
theorem ScA.mono {K : PySem.W.Frag} {G G' : Fp} {H : Hp} {a : Addr} {vs : List V} (h : ScA K G H a vs) (gm : Le G G') : ScA K G' H a vs := by
  rcases h with h | h | h
  · exact .inl ⟨h.1, gm a h.2⟩
  · exact .inr (.inl h)
  · exact .inr (.inr h)
mutual
def Rep (g : Cfg) (G : Fp) (H : Hp) : D → V → Fp → Prop
  | .non, v, _ => v = .non
  | .bl b, v, _ => v = .bl b
  | .int i, v, _ => v = .int i
  | .str x, v, _ => v = .str x
  | .ty n, v, _ => v = .ty n
  | .scr ns, v, _ => ∃ a, v = .ref a ∧ ScA g.K G H a (ns.map V.int)
  | .tup ds, v, F => ∃ a vs, v = .ref a ∧ SqT g.K H a vs ∧ Reps g G H ds vs F
  | .lst o ds, v, F => ∃ a vs F', v = .ref a ∧ (if o = true then H a = some (.lst vs) ∧ F a else ShL G H a vs ∧ Le F' Fe) ∧ (∀ b, F' b → F b ∧ b ≠ a) ∧ Reps g G H ds vs F'
  | .dct o ks ds, v, F => ∃ a vs F', v = .ref a ∧ H a = some (.dK (ks.zip vs)) ∧ ks.length = vs.length ∧ (if o = true then F a else G a ∧ Le F' Fe) ∧ (∀ b, F' b → F b ∧ b ≠ a) ∧ Reps g G H ds vs F'
  | .dcT o ks ds, v, F => ∃ a vs F', v = .ref a ∧ H a = some (.dT (ks.zip vs)) ∧ ks.length = vs.length ∧ (if o = true then F a else G a ∧ Le F' Fe) ∧ (∀ b, F' b → F b ∧ b ≠ a) ∧ Reps g G H ds vs F'
  | .ins o c ns ds, v, F => ∃ a dx vs F', v = .ref a ∧ H a = some (.ins (g.C c) dx (ns.zip vs)) ∧ ns.length = vs.length ∧ (if o = true then F a else G a ∧ Le F' Fe) ∧ (∀ b, F' b → F b ∧ b ≠ a) ∧ Reps g G H ds vs F'
def Reps (g : Cfg) (G : Fp) (H : Hp) : List D → List V → Fp → Prop
  | [], vs, _ => vs = []
  | d :: ds, vs, F => ∃ v vr F1 F2, vs = v :: vr ∧ Le F1 F ∧ Le F2 F ∧ Dj F1 F2 ∧ Rep g G H d v F1 ∧ Reps g G H ds vr F2
end
section
variable {g : Cfg} {G G' F F' : Fp} {H H' : Hp}
mutual
theorem Rep.le : ∀ {d : D} {v : V} {F F' : Fp}, Rep g G H d v F → Le F F' → Rep g G H d v F'
  | .non, _, _, _, h, _ => h
  | .bl _, _, _, _, h, _ => h
  | .int _, _, _, _, h, _ => h
  | .str _, _, _, _, h, _ => h
  | .ty _, _, _, _, h, _ => h
  | .scr _, _, _, _, h, _ => h
  | .tup _, _, _, _, ⟨a, vs, e, q, r⟩, l => ⟨a, vs, e, q, Reps.le r l⟩
  | .lst o _, _, _, _, ⟨a, vs, F1, e, q, n, r⟩, l => ⟨a, vs, F1, e, by cases o with | true => exact ⟨q.1, l a q.2⟩ | false => exact q, fun b hb => ⟨l b (n b hb).1, (n b hb).2⟩, r⟩
  | .dct o _ _, _, _, _, ⟨a, vs, F1, e, q, z, x, n, r⟩, l => ⟨a, vs, F1, e, q, z, by cases o with | true => exact l a x | false => exact x, fun b hb => ⟨l b (n b hb).1, (n b hb).2⟩, r⟩
  | .dcT o _ _, _, _, _, ⟨a, vs, F1, e, q, z, x, n, r⟩, l => ⟨a, vs, F1, e, q, z, by cases o with | true => exact l a x | false => exact x, fun b hb => ⟨l b (n b hb).1, (n b hb).2⟩, r⟩
  | .ins o _ _ _, _, _, _, ⟨a, dx, vs, F1, e, q, z, x, n, r⟩, l => ⟨a, dx, vs, F1, e, q, z, by cases o with | true => exact l a x | false => exact x, fun b hb => ⟨l b (n b hb).1, (n b hb).2⟩, r⟩
theorem Reps.le : ∀ {ds : List D} {vs : List V} {F F' : Fp}, Reps g G H ds vs F → Le F F' → Reps g G H ds vs F'
  | [], _, _, _, h, _ => h
  | _ :: _, _, _, _, ⟨v, vr, F1, F2, e, l1, l2, dj, r, rs⟩, l => ⟨v, vr, F1, F2, e, l1.trans l, l2.trans l, dj, r, rs⟩
end
/-- what may be owned at all: a thing that can be changed, none that stands for good -/
def Ok (G : Fp) (H : Hp) (F : Fp) : Prop := ∀ a, F a → Mut (H a) ∧ ¬ G a
theorem sqT_keep {a : Addr} {vs : List V} {U : Fp} (h : SqT g.K H a vs) (k : ∀ a o, H a = some o → ¬ U a → H' a = some o) (m : Ok G H U) : SqT g.K H' a vs := by
  rcases h with (h | ⟨o, h⟩) | h
  · exact .inl (.inl (k _ _ h fun z => by have := (m a z).1; rw [h] at this; exact this))
  · exact .inl (.inr ⟨o, k _ _ h fun z => by have := (m a z).1; rw [h] at this; exact this⟩)
  · exact .inr h
theorem shL_keep {a : Addr} {vs : List V} {U : Fp} (h : ShL G H a vs) (k : ∀ a o, H a = some o → ¬ U a → H' a = some o) (m : Ok G H U) (gm : Le G G') : ShL G' H' a vs := ⟨k _ _ h.1 fun z => (m a z).2 h.2, gm a h.2⟩
theorem scA_keep {K : PySem.W.Frag} {a : Addr} {vs : List V} {U : Fp} (h : ScA K G H a vs) (k : ∀ a o, H a = some o → ¬ U a → H' a = some o) (m : Ok G H U) (gm : Le G G') : ScA K G' H' a vs := by
  rcases h with h | ⟨o, h⟩ | h
  · exact .inl ⟨k _ _ h.1 fun z => (m a z).2 h.2, gm a h.2⟩
  · exact .inr (.inl ⟨o, k _ _ h fun z => by have := (m a z).1; rw [h] at this; exact this⟩)
  · exact .inr (.inr h)
mutual
/-- a thing stays what it is where nothing of its own is changed -/
theorem Rep.keep {U : Fp} (k : ∀ a o, H a = some o → ¬ U a → H' a = some o) (m : Ok G H U) (gm : Le G G') : ∀ {d : D} {v : V} {F : Fp}, Rep g G H d v F → Dj F U → Rep g G' H' d v F
  | .non, _, _, h, _ => h
  | .bl _, _, _, h, _ => h
  | .int _, _, _, h, _ => h
  | .str _, _, _, h, _ => h
  | .ty _, _, _, h, _ => h
  | .scr _, _, _, ⟨a, e, h⟩, _ => ⟨a, e, scA_keep h k m gm⟩
  | .tup _, _, _, ⟨a, vs, e, q, r⟩, dj => ⟨a, vs, e, sqT_keep q k m, Reps.keep k m gm r dj⟩
  | .lst o _, _, _, ⟨a, vs, F1, e, q, n, r⟩, dj => ⟨a, vs, F1, e, by
      cases o with
      | true => exact ⟨k _ _ q.1 (dj a q.2), q.2⟩
      | false => exact ⟨shL_keep q.1 k m gm, q.2⟩, n, Reps.keep k m gm r (fun b x y => dj b (n b x).1 y)⟩
  | .dct o _ _, _, _, ⟨a, vs, F1, e, q, z, x, n, r⟩, dj => ⟨a, vs, F1, e, k _ _ q (by
      cases o with
      | true => exact dj a x
      | false => exact fun z => (m a z).2 x.1), z, by
      cases o with
      | true => exact x
      | false => exact ⟨gm a x.1, x.2⟩, n, Reps.keep k m gm r (fun b x y => dj b (n b x).1 y)⟩
  | .dcT o _ _, _, _, ⟨a, vs, F1, e, q, z, x, n, r⟩, dj => ⟨a, vs, F1, e, k _ _ q (by
      cases o with
      | true => exact dj a x
      | false => exact fun z => (m a z).2 x.1), z, by
      cases o with
      | true => exact x
      | false => exact ⟨gm a x.1, x.2⟩, n, Reps.keep k m gm r (fun b x y => dj b (n b x).1 y)⟩
  | .ins o _ _ _, _, _, ⟨a, dx, vs, F1, e, q, z, x, n, r⟩, dj => ⟨a, dx, vs, F1, e, k _ _ q (by
      cases o with
      | true => exact dj a x
      | false => exact fun z => (m a z).2 x.1), z, by
      cases o with
      | true => exact x
      | false => exact ⟨gm a x.1, x.2⟩, n, Reps.keep k m gm r (fun b x y => dj b (n b x).1 y)⟩
theorem Reps.keep {U : Fp} (k : ∀ a o, H a = some o → ¬ U a → H' a = some o) (m : Ok G H U) (gm : Le G G') : ∀ {ds : List D} {vs : List V} {F : Fp}, Reps g G H ds vs F → Dj F U → Reps g G' H' ds vs F
  | [], _, _, h, _ => h
  | _ :: _, _, _, ⟨v, vr, F1, F2, e, l1, l2, dj0, r, rs⟩, dj => ⟨v, vr, F1, F2, e, l1, l2, dj0, Rep.keep k m gm r (dj.le l1 (Le.refl _)), Reps.keep k m gm rs (dj.le l2 (Le.refl _))⟩
end
mutual
/-- a clean thing owns nothing -/
theorem Rep.clean : ∀ {d : D} {v : V} {F : Fp}, Rep g G H d v F → DV.clean d = true → Rep g G H d v Fe
  | .non, _, _, h, _ => h
  | .bl _, _, _, h, _ => h
  | .int _, _, _, h, _ => h
  | .str _, _, _, h, _ => h
  | .ty _, _, _, h, _ => h
  | .scr _, _, _, h, _ => h
  | .tup _, _, _, ⟨a, vs, e, q, r⟩, c => ⟨a, vs, e, q, Reps.clean r (by simpa [DV.clean] using c)⟩
  | .lst true _, _, _, _, c => by simp [DV.clean] at c
  | .lst false _, _, _, ⟨a, vs, F1, e, q, n, r⟩, c => ⟨a, vs, F1, e, q, fun b hb => (q.2 b hb).elim, r⟩
  | .dct true _ _, _, _, _, c => by simp [DV.clean] at c
  | .dct false _ _, _, _, ⟨a, vs, F1, e, q, z, x, n, r⟩, c => ⟨a, vs, F1, e, q, z, x, fun b hb => (x.2 b hb).elim, r⟩
  | .dcT true _ _, _, _, _, c => by simp [DV.clean] at c
  | .dcT false _ _, _, _, ⟨a, vs, F1, e, q, z, x, n, r⟩, c => ⟨a, vs, F1, e, q, z, x, fun b hb => (x.2 b hb).elim, r⟩
  | .ins true _ _ _, _, _, _, c => by simp [DV.clean] at c
  | .ins false _ _ _, _, _, ⟨a, dx, vs, F1, e, q, z, x, n, r⟩, c => ⟨a, dx, vs, F1, e, q, z, x, fun b hb => (x.2 b hb).elim, r⟩
theorem Reps.clean : ∀ {ds : List D} {vs : List V} {F : Fp}, Reps g G H ds vs F → cleans ds = true → Reps g G H ds vs Fe
  | [], _, _, h, _ => h
  | _ :: _, _, _, ⟨v, vr, F1, F2, e, l1, l2, dj0, r, rs⟩, c => by
    simp only [cleans, Bool.and_eq_true] at c
    exact ⟨v, vr, Fe, Fe, e, fun _ z => z, fun _ z => z, fun _ z _ => z, Rep.clean r c.1, Reps.clean rs c.2⟩
end
mutual
/-- let go of for good -/
theorem Rep.freeze : ∀ {d : D} {v : V} {F : Fp}, Rep g G H d v F → Le F G' → Le G G' → Rep g G' H (freeze d) v Fe
  | .non, _, _, h, _, _ => h
  | .bl _, _, _, h, _, _ => h
  | .int _, _, _, h, _, _ => h
  | .str _, _, _, h, _, _ => h
  | .ty _, _, _, h, _, _ => h
  | .scr _, _, _, ⟨a, e, h⟩, _, gm => ⟨a, e, h.mono gm⟩
  | .tup _, _, _, ⟨a, vs, e, q, r⟩, l, gm => ⟨a, vs, e, q, Reps.freeze r l gm⟩
  | .lst o _, _, _, ⟨a, vs, F1, e, q, n, r⟩, l, gm => ⟨a, vs, Fe, e, by
      cases o with
      | true => exact ⟨⟨q.1, l a q.2⟩, fun _ z => z⟩
      | false => exact ⟨q.1.mono gm, fun _ z => z⟩, fun _ z => z.elim, Reps.freeze r (fun b hb => l b (n b hb).1) gm⟩
  | .dct o _ _, _, _, ⟨a, vs, F1, e, q, z, x, n, r⟩, l, gm => ⟨a, vs, Fe, e, q, z, ⟨by
      cases o with
      | true => exact l a x
      | false => exact gm a x.1, fun _ z => z⟩, fun _ z => z.elim, Reps.freeze r (fun b hb => l b (n b hb).1) gm⟩
  | .dcT o _ _, _, _, ⟨a, vs, F1, e, q, z, x, n, r⟩, l, gm => ⟨a, vs, Fe, e, q, z, ⟨by
      cases o with
      | true => exact l a x
      | false => exact gm a x.1, fun _ z => z⟩, fun _ z => z.elim, Reps.freeze r (fun b hb => l b (n b hb).1) gm⟩
  | .ins o _ _ _, _, _, ⟨a, dx, vs, F1, e, q, z, x, n, r⟩, l, gm => ⟨a, dx, vs, Fe, e, q, z, ⟨by
      cases o with
      | true => exact l a x
      | false => exact gm a x.1, fun _ z => z⟩, fun _ z => z.elim, Reps.freeze r (fun b hb => l b (n b hb).1) gm⟩
theorem Reps.freeze : ∀ {ds : List D} {vs : List V} {F : Fp}, Reps g G H ds vs F → Le F G' → Le G G' → Reps g G' H (freezes ds) vs Fe
  | [], _, _, h, _, _ => h
  | _ :: _, _, _, ⟨v, vr, F1, F2, e, l1, l2, dj0, r, rs⟩, l, gm => ⟨v, vr, Fe, Fe, e, fun _ z => z, fun _ z => z, fun _ z _ => z, Rep.freeze r (l1.trans l) gm, Reps.freeze rs (l2.trans l) gm⟩
end
theorem Reps.length : ∀ {ds : List D} {vs : List V} {F : Fp}, Reps g G H ds vs F → vs.length = ds.length
  | [], _, _, h => by rw [h]; rfl
  | _ :: ds, _, _, ⟨v, vr, F1, F2, e, l1, l2, dj0, r, rs⟩ => by rw [e, List.length_cons, List.length_cons, Reps.length rs]
end
end DV

namespace DV
open PySem L2
abbrev U (F : Nat → Fp) : Fp := fun a => ∃ i, F i a
abbrev Un2 (F F' : Fp) : Fp := fun a => F a ∨ F' a
/-- slots σ over the heap H stand for δ -/
structure StR (g : Cfg) (G : Fp) (H : Hp) (σ : St) (δ : Env) (F : Nat → Fp) : Prop where
  len : δ.length = σ.length
  at_ : ∀ i d, gt δ i = some d → ∃ v, σ[i]? = some (some v) ∧ Rep g G H d v (F i)
  dj : ∀ i j, i ≠ j → Dj (F i) (F j)
  ok : ∀ i, Ok G H (F i)
  gs : ∀ a, G a → H a ≠ none
theorem StR.okU {g : Cfg} {G : Fp} {H : Hp} {σ : St} {δ : Env} {F : Nat → Fp} (S : StR g G H σ δ F) : Ok G H (U F) := fun a ⟨i, h⟩ => S.ok i a h
structure Ext (G : Fp) (H : Hp) (U : Fp) (G' : Fp) (H' : Hp) (U' : Fp) : Prop where
  keep : ∀ a o, H a = some o → ¬ U a → H' a = some o
  gm : Le G G'
  gn : ∀ a, G' a → G a ∨ U a ∨ H a = none
  un : ∀ a, U' a → U a ∨ H a = none
section
variable {g : Cfg} {G G' G1 G2 : Fp} {H H' H1 H2 : Hp} {U0 U1 U1' U2 : Fp} {σ : St} {δ δ' : Env} {F F' : Nat → Fp}
theorem Ext.refl (h : Le U1 U0) : Ext G H U0 G H U1 := ⟨fun _ _ e _ => e, Le.refl _, fun _ h => .inl h, fun a z => .inl (h a z)⟩
theorem Ext.none_of (E : Ext G H U0 G1 H1 U1) {a : Addr} (h : H1 a = none) : U0 a ∨ H a = none := by
  cases e : H a with
  | none => exact .inr rfl
  | some o =>
    by_cases u : U0 a
    · exact .inl u
    · rw [E.keep a o e u] at h; cases h
theorem Ext.trans (E : Ext G H U0 G1 H1 U1) (E' : Ext G1 H1 U1' G2 H2 U2) (l : Le U1' U1) : Ext G H U0 G2 H2 U2 where
  keep := fun a o e n => E'.keep a o (E.keep a o e n) fun z => by
    rcases E.un a (l a z) with u | u
    · exact n u
    · rw [u] at e; cases e
  gm := E.gm.trans E'.gm
  gn := fun a h => by
    rcases E'.gn a h with h | h | h
    · exact E.gn a h
    · exact .inr (E.un a (l a h))
    · exact .inr (E.none_of h)
  un := fun a h => by
    rcases E'.un a h with h | h
    · exact E.un a (l a h)
    · exact E.none_of h
/-- what is changed is less than U0, more is told as changed behind -/
theorem Ext.frame (E : Ext G H U0 G1 H1 U1) {Fh : Fp} : Ext G H (Un2 U0 Fh) G1 H1 (Un2 U1 Fh) where
  keep := fun a o e n => E.keep a o e fun z => n (.inl z)
  gm := E.gm
  gn := fun a h => (E.gn a h).elim .inl fun h => .inr (h.elim (fun z => .inl (.inl z)) .inr)
  un := fun a h => h.elim (fun h => (E.un a h).elim (fun z => .inl (.inl z)) .inr) fun h => .inl (.inr h)
theorem Ext.weak (E : Ext G H U0 G1 H1 U1) {V0 V1 : Fp} (h0 : Le U0 V0) (h1 : Le V1 U1) : Ext G H V0 G1 H1 V1 where
  keep := fun a o e n => E.keep a o e fun z => n (h0 a z)
  gm := E.gm
  gn := fun a h => (E.gn a h).elim .inl fun h => .inr (h.elim (fun z => .inl (h0 a z)) .inr)
  un := fun a h => (E.un a (h1 a h)).elim (fun z => .inl (h0 a z)) .inr
/-- what is held meanwhile -/
theorem Ext.ok (E : Ext G H U0 G1 H1 U1) {Fh : Fp} (o : Ok G H Fh) (dj : Dj Fh U0) : Ok G1 H1 Fh := fun a h => by
  obtain ⟨m, n⟩ := o a h
  cases e : H a with
  | none => rw [e] at m; exact m.elim
  | some ob =>
    refine ⟨by rw [E.keep a ob e (dj a h)]; rw [e] at m; exact m, fun z => ?_⟩
    rcases E.gn a z with z | z | z
    · exact n z
    · exact dj a h z
    · rw [e] at z; cases z
theorem Ext.dj (E : Ext G H U0 G1 H1 U1) {Fh : Fp} (o : Ok G H Fh) (dj : Dj Fh U0) : Dj Fh U1 := fun a h z => by
  rcases E.un a z with z | z
  · exact dj a h z
  · have m := (o a h).1
    rw [z] at m; exact m
theorem Ext.rep (E : Ext G H U0 G1 H1 U1) (ou : Ok G H U0) {d : D} {v : V} {Fh : Fp} (r : Rep g G H d v Fh) (dj : Dj Fh U0) : Rep g G1 H1 d v Fh := r.keep E.keep ou E.gm dj
theorem Ext.reps (E : Ext G H U0 G1 H1 U1) (ou : Ok G H U0) {ds : List D} {vs : List V} {Fh : Fp} (r : Reps g G H ds vs Fh) (dj : Dj Fh U0) : Reps g G1 H1 ds vs Fh := r.keep E.keep ou E.gm dj
end
/-! ### readings -/
def ECls.val (g : Cfg) : ECls → Value
  | .own c => .ref (g.C c)
  | .blt n => .type n
def ExR (g : Cfg) (x : Exn) (cls : Value) (dd : Option Addr) (H : Hp) : Prop := cls = x.c.val g ∧ (x.fs = [] ∨ ∃ d, dd = some d ∧ H d = some (.xd x.fs))
def PostG (g : Cfg) (W : WX) (G : Fp) (H : Hp) (F : Nat → Fp) (σ : St) {α : Type} (r : R α) (N : α → Env → Hp → Fp → (Nat → Fp) → Prop) : Prop :=
  match r with
  | .ok a δ' => ∀ H' G' F', StR g G' H' σ δ' F' → N a δ' H' G' F'
  | .ex x δ' => ∀ cls dd H' G' F', StR g G' H' σ δ' F' → ExR g x cls dd H' → Ext G H (U F) G' H' (U F') → W cls dd σ H'
  | .bad => False
def Post (g : Cfg) (W : WX) (G : Fp) (H : Hp) (F : Nat → Fp) (σ : St) (r : R D) (Q : VK) : Prop :=
  PostG g W G H F σ r fun d _ H' G' F' => ∀ v Fv, Rep g G' H' d v Fv → Ok G' H' Fv → Dj Fv (U F') → Ext G H (U F) G' H' (Un2 (U F') Fv) → Q v H'
def tE (g : Cfg) (W : WX) (f : Ev) : TE := fun σ H Q => ∃ G δ F, StR g G H σ δ F ∧ Post g W G H F σ (f δ) Q
abbrev SE (X : Cx) (g : Cfg) (W : WX) (e : Expr) (f : Ev) : Prop := PE X e (tE g W f)
/-! ### operands: a value, or a name that is looked at when all are there -/
inductive Od where
  | val (f : Ev) | var (i : Nat)
inductive OV where
  | tmp (d : D) | late (i : Nat)
def evOd : Od → Env → R OV
  | .val f, δ => (f δ).bind fun d δ1 => .ok (.tmp d) δ1
  | .var i, δ => match gt δ i with
    | some _ => .ok (.late i) δ
    | none => .bad
def evOds : List Od → Env → R (List OV)
  | [], δ => .ok [] δ
  | o :: os, δ => (evOd o δ).bind fun x δ1 => (evOds os δ1).bind fun xs δ2 => .ok (x :: xs) δ2
def resO (δ : Env) : OV → Option D
  | .tmp d => some d
  | .late i => gt δ i
def resL (δ : Env) : List OV → Option (List D)
  | [] => some []
  | x :: xs => match resO δ x, resL δ xs with
    | some d, some ds => some (d :: ds)
    | _, _ => none
def tO (g : Cfg) (W : WX) : Od → TE
  | .val f => tE g W f
  | .var i => tVar i
def tOs (g : Cfg) (W : WX) : List Od → TA
  | [] => tNil
  | o :: os => tCons (tO g W o) (tOs g W os)
abbrev SO (X : Cx) (g : Cfg) (W : WX) (e : Expr) (o : Od) : Prop := PE X e (tO g W o)
def RepOs (g : Cfg) (G : Fp) (H : Hp) (σ : St) : List OV → List V → Fp → Prop
  | [], vs, _ => vs = []
  | .tmp d :: xs, vs, F => ∃ v vr F1 F2, vs = v :: vr ∧ Le F1 F ∧ Le F2 F ∧ Dj F1 F2 ∧ Rep g G H d v F1 ∧ RepOs g G H σ xs vr F2
  | .late i :: xs, vs, F => ∃ v vr, vs = v :: vr ∧ σ[i]? = some (some v) ∧ RepOs g G H σ xs vr F
section
variable {g : Cfg} {W : WX} {G G' G1 G2 : Fp} {H H' H1 H2 : Hp} {σ : St} {δ δ' : Env} {F F' : Nat → Fp} {Q : VK}
theorem PostG.mono {α : Type} {r : R α} {N N' : α → Env → Hp → Fp → (Nat → Fp) → Prop} (h : PostG g W G H F σ r N) (i : ∀ a δ' H' G' F', StR g G' H' σ δ' F' → N a δ' H' G' F' → N' a δ' H' G' F') : PostG g W G H F σ r N' := by
  cases r with
  | ok a δ' => exact fun H' G' F' S => i a δ' H' G' F' S (h H' G' F' S)
  | ex x δ' => exact h
  | bad => exact h
theorem PostG.bind {α β : Type} {r : R α} {k : α → Env → R β} {N : β → Env → Hp → Fp → (Nat → Fp) → Prop} (h : PostG g W G H F σ (r.bind k) N) :
    PostG g W G H F σ r fun a δ' H' G' F' => PostG g W G H F σ (k a δ') N := by
  cases r with
  | ok a δ' => exact fun _ _ _ _ => h
  | ex x δ' => exact h
  | bad => exact h
/-- the start moved on -/
theorem PostG.on {α : Type} {r : R α} {N : α → Env → Hp → Fp → (Nat → Fp) → Prop} (h : PostG g W G H F σ r N) {U1 : Fp} (E : Ext G H (U F) G1 H1 U1) {F1 : Nat → Fp} (l : Le (U F1) U1) : PostG g W G1 H1 F1 σ r N := by
  cases r with
  | ok a δ' => exact h
  | ex x δ' => exact fun cls dd H' G' F' S x E' => h cls dd H' G' F' S x (E.trans E' l)
  | bad => exact h
theorem Le.inl {A B : Fp} : Le A (Un2 A B) := fun _ h => .inl h
theorem Le.inr {A B : Fp} : Le B (Un2 A B) := fun _ h => .inr h
theorem tE_of {f : Ev} (S : StR g G H σ δ F) (P : Post g W G H F σ (f δ) Q) : tE g W f σ H Q := ⟨G, δ, F, S, P⟩
theorem RepOs.le : ∀ {xs : List OV} {vs : List V} {A B : Fp}, RepOs g G H σ xs vs A → Le A B → RepOs g G H σ xs vs B
  | [], _, _, _, h, _ => h
  | .tmp _ :: _, _, _, _, ⟨v, vr, F1, F2, e, l1, l2, dj, r, rs⟩, l => ⟨v, vr, F1, F2, e, l1.trans l, l2.trans l, dj, r, rs⟩
  | .late _ :: xs, _, _, _, ⟨v, vr, e, h, rs⟩, l => ⟨v, vr, e, h, RepOs.le rs l⟩
theorem RepOs.ext : ∀ {xs : List OV} {vs : List V} {A U0 U1 : Fp}, RepOs g G H σ xs vs A → Ext G H U0 G1 H1 U1 → Ok G H U0 → Dj A U0 → RepOs g G1 H1 σ xs vs A
  | [], _, _, _, _, h, _, _, _ => h
  | .tmp _ :: _, _, _, _, _, ⟨v, vr, F1, F2, e, l1, l2, dj0, r, rs⟩, E, o, dj => ⟨v, vr, F1, F2, e, l1, l2, dj0, E.rep o r (dj.le l1 (Le.refl _)), RepOs.ext rs E o (dj.le l2 (Le.refl _))⟩
  | .late _ :: xs, _, _, _, _, ⟨v, vr, e, h, rs⟩, E, o, dj => ⟨v, vr, e, h, RepOs.ext rs E o dj⟩
/-- one operand -/
theorem od_run {o : Od} {M : V → Hp → Prop} (S : StR g G H σ δ F)
    (P : PostG g W G H F σ (evOd o δ) fun x δ' H' G' F' => ∀ v Fv, RepOs g G' H' σ [x] [v] Fv → Ok G' H' Fv → Dj Fv (U F') → Ext G H (U F) G' H' (Un2 (U F') Fv) → M v H') : tO g W o σ H M := by
  cases o with
  | val f =>
    refine tE_of S ?_
    refine PostG.mono (PostG.bind P) fun d δ' H' G' F' S' P' v Fv r o dj E => ?_
    exact P' H' G' F' S' v Fv ⟨v, [], Fv, Fe, rfl, Le.refl _, fun _ z => z.elim, fun _ _ z => z, r, rfl⟩ o dj E
  | var i =>
    show ∃ v, σ[i]? = some (some v) ∧ M v H
    cases e : gt δ i with
    | none => simp only [evOd, e] at P; exact False.elim P
    | some d =>
      simp only [evOd, e] at P
      obtain ⟨v, ev, r⟩ := S.at_ i d e
      exact ⟨v, ev, P H G F S v Fe ⟨v, [], rfl, ev, rfl⟩ (fun _ z => z.elim) (fun _ z => z.elim) (.refl fun _ z => z.elim id (fun z => z.elim))⟩
theorem ods_run : ∀ {os : List Od} {G : Fp} {H : Hp} {δ : Env} {F : Nat → Fp} {M : List V → Hp → Prop}, StR g G H σ δ F →
    (PostG g W G H F σ (evOds os δ) fun xs δ' H' G' F' => ∀ vs Fv, RepOs g G' H' σ xs vs Fv → Ok G' H' Fv → Dj Fv (U F') → Ext G H (U F) G' H' (Un2 (U F') Fv) → M vs H') → tOs g W os σ H M
  | [], G, H, δ, F, M, S, P => P H G F S [] Fe rfl (fun _ z => z.elim) (fun _ z => z.elim) (.refl fun _ z => z.elim id fun z => z.elim)
  | o :: os, G, H, δ, F, M, S, P => by
    show tO g W o σ H fun x H1 => tOs g W os σ H1 fun xs H2 => M (x :: xs) H2
    refine od_run S (PostG.mono (PostG.bind P) fun x δ1 H1 G1 F1 S1 P1 v Fv r ok1 dj1 E1 => ?_)
    refine ods_run S1 ((PostG.mono (PostG.bind P1) fun xs δ2 H2 G2 F2 S2 P2 vs Fvs rs ok2 dj2 E2 => ?_).on E1 Le.inl)
    have P3 : PostG g W G H F σ (R.ok (x :: xs) δ2) _ := P2
    have okF : Ok G1 H1 (U F1) := S1.okU
    refine P3 H2 G2 F2 S2 (v :: vs) (Un2 Fv Fvs) ?_ (fun a h => h.elim (E2.ok ok1 dj1 a) (ok2 a)) (fun a h z => h.elim (fun h => E2.dj ok1 dj1 a h (.inl z)) fun h => dj2 a h z) ?_
    · cases x with
      | tmp d =>
        obtain ⟨v', vr, A, B, e, l1, l2, dj0, r, e2⟩ := r
        cases e
        refine ⟨v, vs, Fv, Fvs, rfl, Le.inl, Le.inr, fun a h z => E2.dj ok1 dj1 a h (.inr z), (E2.rep okF r ?_).le l1, rs⟩
        exact dj1.le l1 (Le.refl _)
      | late i =>
        obtain ⟨v', vr, e, h, e2⟩ := r
        cases e
        exact ⟨v, vs, rfl, h, rs.le Le.inr⟩
    · refine E1.trans (U1' := Un2 (U F1) Fv) (E2.frame (Fh := Fv)) (Le.refl _) |>.weak (Le.refl _) fun a h => ?_
      rcases h with h | h | h
      · exact .inl (.inl h)
      · exact .inr h
      · exact .inl (.inr h)
end
end DV

namespace DV
open PySem L2
theorem PE.imp {X : Cx} {e : Expr} {t t' : TE} (h : PE X e t) (i : ∀ σ H Q, t' σ H Q → t σ H Q) : PE X e t' := ⟨fun pins s σ H Q I q => h.run pins s σ H Q I (i σ H Q q)⟩
theorem PT.imp {X : Cx} {e : Expr} {t t' : TT} (h : PT X e t) (i : ∀ σ H Q, t' σ H Q → t σ H Q) : PT X e t' := ⟨fun pins s σ H Q I q => h.run pins s σ H Q I (i σ H Q q)⟩
theorem PW.imp {X : Cx} {e : Expr} {t t' : TT} (h : PW X e t) (i : ∀ σ H Q, t' σ H Q → t σ H Q) : PW X e t' := ⟨fun wh pins s σ H Q I q => h.run wh pins s σ H Q I (i σ H Q q)⟩
theorem PS.imp {X : Cx} {e : Stmt} {t t' : TS} (h : PS X e t) (i : ∀ D σ H, t' D σ H → t D σ H) : PS X e t' := ⟨fun pins s σ H D I q => h.run pins s σ H D I (i D σ H q)⟩
theorem PSs.imp {X : Cx} {e : List Stmt} {t t' : TS} (h : PSs X e t) (i : ∀ D σ H, t' D σ H → t D σ H) : PSs X e t' := ⟨fun pins s σ H D I q => h.run pins s σ H D I (i D σ H q)⟩
section
variable {g : Cfg} {W : WX} {G G' G1 G2 : Fp} {H H' H1 H2 : Hp} {σ : St} {δ δ' : Env} {F F' : Nat → Fp} {Q : VK}
/-- a slot told anew -/
def Fst (F : Nat → Fp) (i : Nat) (Fv : Fp) : Nat → Fp := fun j => if j = i then Fv else F j
theorem Fst_same {i : Nat} {Fv : Fp} : Fst F i Fv i = Fv := by unfold Fst; rw [if_pos rfl]
theorem Fst_ne {i j : Nat} {Fv : Fp} (h : j ≠ i) : Fst F i Fv j = F j := by unfold Fst; rw [if_neg h]
theorem U_Fst {i : Nat} {Fv : Fp} : Le (U (Fst F i Fv)) (Un2 (U F) Fv) := fun a ⟨j, h⟩ => by
  by_cases e : j = i
  · subst e; rw [Fst_same] at h; exact .inr h
  · rw [Fst_ne e] at h; exact .inl ⟨j, h⟩
/-- a slot forgotten, its things held -/
theorem StR.out (S : StR g G H σ δ F) (i : Nat) : StR g G H σ (st δ i none) (Fst F i Fe) where
  len := by rw [st_length]; exact S.len
  at_ := fun j d h => by
    obtain ⟨h, ne⟩ := gt_st_none h
    rw [Fst_ne (Ne.symm ne)]
    exact S.at_ j d h
  dj := fun j k h a x y => by
    by_cases e : j = i
    · subst e; rw [Fst_same] at x; exact x
    · by_cases e' : k = i
      · subst e'; rw [Fst_same] at y; exact y
      · rw [Fst_ne e] at x; rw [Fst_ne e'] at y; exact S.dj j k h a x y
  ok := fun j a h => by
    by_cases e : j = i
    · subst e; rw [Fst_same] at h; exact h.elim
    · rw [Fst_ne e] at h; exact S.ok j a h
  gs := S.gs
theorem out_dj (S : StR g G H σ δ F) (i : Nat) : Dj (F i) (U (Fst F i Fe)) := fun a x ⟨j, y⟩ => by
  by_cases e : j = i
  · subst e; rw [Fst_same] at y; exact y
  · rw [Fst_ne e] at y; exact S.dj i j (Ne.symm e) a x y
/-- a slot that holds another thing from now on -/
theorem StR.put (S : StR g G H σ δ F) {i : Nat} {d : D} {v : V} {Fv : Fp} (r : Rep g G H d v Fv) (o : Ok G H Fv) (dj : Dj Fv (U F)) (hv : (σ.set i (some v))[i]? = some (some v) ∨ δ.length ≤ i) :
    StR g G H (σ.set i (some v)) (st δ i (some d)) (Fst F i Fv) where
  len := by rw [st_length, List.length_set]; exact S.len
  at_ := fun j d' h => by
    rcases gt_st_some h with ⟨e, e'⟩ | ⟨ne, h⟩
    · subst e e'
      rw [Fst_same]
      have hl : i < δ.length := by
        have := gt_lt h
        rwa [st_length] at this
      rcases hv with hv | hv
      · exact ⟨v, hv, r⟩
      · omega
    · obtain ⟨v', e, r'⟩ := S.at_ j d' h
      rw [Fst_ne (Ne.symm ne), List.getElem?_set_ne ne]
      exact ⟨v', e, r'⟩
  dj := fun j k h a x y => by
    by_cases e : j = i
    · subst e
      rw [Fst_same] at x; rw [Fst_ne (Ne.symm h)] at y
      exact dj a x ⟨k, y⟩
    · by_cases e' : k = i
      · subst e'
        rw [Fst_same] at y; rw [Fst_ne h] at x
        exact dj a y ⟨j, x⟩
      · rw [Fst_ne e] at x; rw [Fst_ne e'] at y; exact S.dj j k h a x y
  ok := fun j a h => by
    by_cases e : j = i
    · subst e; rw [Fst_same] at h; exact o a h
    · rw [Fst_ne e] at h; exact S.ok j a h
  gs := S.gs
theorem StR.set (S : StR g G H σ δ F) {i : Nat} {d : D} {v : V} {Fv : Fp} (r : Rep g G H d v Fv) (o : Ok G H Fv) (dj : Dj Fv (U F)) : StR g G H (σ.set i (some v)) (st δ i (some d)) (Fst F i Fv) :=
  S.put r o dj (by
    by_cases h : i < σ.length
    · exact .inl (List.getElem?_set_self h)
    · exact .inr (by rw [S.len]; omega))
/-- the slot's own thing is another one from now on (it was changed) -/
theorem StR.re (S : StR g G H σ δ F) {i : Nat} {d : D} {v : V} {Fv : Fp} (r : Rep g G H d v Fv) (o : Ok G H Fv) (dj : Dj Fv (U F)) (hv : σ[i]? = some (some v)) : StR g G H σ (st δ i (some d)) (Fst F i Fv) := by
  have e : σ.set i (some v) = σ := by
    apply List.ext_getElem?
    intro j
    by_cases h : i = j
    · subst h
      rw [List.getElem?_set_self (List.getElem?_eq_some_iff.mp hv).1, hv]
    · rw [List.getElem?_set_ne h]
  have := S.put (i := i) r o dj (.inl (by rw [e]; exact hv))
  rwa [e] at this
/-- all stands where nothing but new things came -/
theorem StR.same (S : StR g G H σ δ F) (s : Same H H') : StR g G H' σ δ F where
  len := S.len
  at_ := fun i d h => by
    obtain ⟨v, e, r⟩ := S.at_ i d h
    exact ⟨v, e, r.keep (U := Fe) (fun a o e _ => s a o e) (fun _ z => z.elim) (Le.refl _) (fun _ _ z => z)⟩
  dj := S.dj
  ok := fun i a h => by
    obtain ⟨m, n⟩ := S.ok i a h
    refine ⟨?_, n⟩
    cases e : H a with
    | none => rw [e] at m; exact m.elim
    | some o => rw [s a o e]; rw [e] at m; exact m
  gs := fun a h z => by
    cases e : H a with
    | none => exact S.gs a h e
    | some o => rw [s a o e] at z; cases z
/-- some of what stood free stands for good now -/
theorem StR.grow (S : StR g G H σ δ F) (gm : Le G G') (h : ∀ i, Dj (F i) G' ) (gs : ∀ a, G' a → H a ≠ none) : StR g G' H σ δ F where
  len := S.len
  at_ := fun i d e => by
    obtain ⟨v, e, r⟩ := S.at_ i d e
    exact ⟨v, e, r.keep (U := Fe) (fun a o e _ => e) (fun _ z => z.elim) gm (fun _ _ z => z)⟩
  dj := S.dj
  ok := fun i a z => ⟨(S.ok i a z).1, fun y => h i a z y⟩
  gs := gs
theorem Rep.same {d : D} {v : V} {Fv : Fp} (r : Rep g G H d v Fv) (s : Same H H') : Rep g G H' d v Fv := r.keep (U := Fe) (fun a o e _ => s a o e) (fun _ z => z.elim) (Le.refl _) (fun _ _ z => z)
theorem Reps.same {d : List D} {v : List V} {Fv : Fp} (r : Reps g G H d v Fv) (s : Same H H') : Reps g G H' d v Fv := r.keep (U := Fe) (fun a o e _ => s a o e) (fun _ z => z.elim) (Le.refl _) (fun _ _ z => z)
theorem ok_same {Fv : Fp} (o : Ok G H Fv) (s : Same H H') : Ok G H' Fv := fun a h => by
  obtain ⟨m, n⟩ := o a h
  refine ⟨?_, n⟩
  cases e : H a with
  | none => rw [e] at m; exact m.elim
  | some o => rw [s a o e]; rw [e] at m; exact m
theorem Ext.new {U0 U1 Fv : Fp} (s : Same H H') (l : Le U1 U0) (n : ∀ a, Fv a → H a = none) : Ext G H U0 G H' (Un2 U1 Fv) := ⟨fun a o e _ => s a o e, Le.refl _, fun _ h => .inl h, fun a h => h.elim (fun h => .inl (l a h)) fun h => .inr (n a h)⟩
theorem st_st : ∀ {δ : Env} {i : Nat} {x y : Option D}, st (st δ i x) i y = st δ i y
  | [], _, _, _ => rfl
  | _ :: _, 0, _, _ => rfl
  | z :: r, i + 1, x, y => by simp only [st]; rw [st_st (δ := r)]
/-! ### names and constants -/
def eVar (i : Nat) : Ev := fun δ => match gt δ i with
  | some d => if clean d = true then .ok d δ else .bad
  | none => .bad
def eMv (i : Nat) : Ev := fun δ => match gt δ i with
  | some d => .ok d (st δ i none)
  | none => .bad
def eFz (i : Nat) : Ev := fun δ => match gt δ i with
  | some d => .ok (freeze d) (st δ i (some (freeze d)))
  | none => .bad
def eC (d : D) : Ev := fun δ => .ok d δ
theorem var_run {i : Nat} (S : StR g G H σ δ F) (P : Post g W G H F σ (eVar i δ) Q) : tVar i σ H Q := by
  cases e : gt δ i with
  | none => simp only [eVar, e] at P; exact False.elim P
  | some d =>
    by_cases c : clean d = true
    · simp only [eVar, e, c, if_true] at P
      obtain ⟨v, ev, r⟩ := S.at_ i d e
      exact ⟨v, ev, P H G F S v Fe (r.clean c) (fun _ z => z.elim) (fun _ z => z.elim) (.refl fun _ z => z.elim id fun z => z.elim)⟩
    · simp only [eVar, e] at P
      rw [if_neg c] at P; exact False.elim P
theorem mv_run {i : Nat} (S : StR g G H σ δ F) (P : Post g W G H F σ (eMv i δ) Q) : tVar i σ H Q := by
  cases e : gt δ i with
  | none => simp only [eMv, e] at P; exact False.elim P
  | some d =>
    simp only [eMv, e] at P
    obtain ⟨v, ev, r⟩ := S.at_ i d e
    refine ⟨v, ev, P H G (Fst F i Fe) (S.out i) v (F i) r (S.ok i) (out_dj S i) (.refl fun a h => ?_)⟩
    rcases h with h | h
    · rcases U_Fst a h with h | h
      · exact h
      · exact h.elim
    · exact ⟨i, h⟩
theorem fz_run {i : Nat} (S : StR g G H σ δ F) (P : Post g W G H F σ (eFz i δ) Q) : tVar i σ H Q := by
  cases e : gt δ i with
  | none => simp only [eFz, e] at P; exact False.elim P
  | some d =>
    simp only [eFz, e] at P
    obtain ⟨v, ev, r⟩ := S.at_ i d e
    have fr : Rep g (Un2 G (F i)) H (freeze d) v Fe := r.freeze Le.inr Le.inl
    have gs : ∀ a, Un2 G (F i) a → H a ≠ none := fun a h => h.elim (S.gs a) fun h z => by
      have := (S.ok i a h).1
      rw [z] at this; exact this
    have S1 := (S.out i).grow (G' := Un2 G (F i)) Le.inl (fun j a x y => y.elim (fun y => ((S.out i).ok j a x).2 y) fun y => out_dj S i a y ⟨j, x⟩) gs
    have S2 := S1.re (i := i) fr (fun _ z => z.elim) (fun _ z => z.elim) ev
    rw [st_st] at S2
    refine ⟨v, ev, P H _ _ S2 v Fe fr (fun _ z => z.elim) (fun _ z => z.elim) ⟨fun a o e _ => e, Le.inl, fun a h => h.elim .inl fun h => .inr (.inl ⟨i, h⟩), fun a h => ?_⟩⟩
    rcases h with ⟨j, h⟩ | h
    · by_cases ej : j = i
      · subst ej; rw [Fst_same] at h; exact h.elim
      · rw [Fst_ne ej, Fst_ne ej] at h; exact .inl ⟨j, h⟩
    · exact h.elim
theorem c_run {d : D} {v : V} (S : StR g G H σ δ F) (r : Rep g G H d v Fe) (P : Post g W G H F σ (eC d δ) Q) : Q v H :=
  P H G F S v Fe r (fun _ z => z.elim) (fun _ z => z.elim) (.refl fun _ z => z.elim id fun z => z.elim)
end
section
variable {X : Cx} {g : Cfg} {W : WX}
theorem SE.var {e : Expr} {i : Nat} (h : PE X e (tVar i)) : SE X g W e (eVar i) := PE.imp h fun σ H Q ⟨G, δ, F, S, P⟩ => var_run S P
theorem SE.mv {e : Expr} {i : Nat} (h : PE X e (tVar i)) : SE X g W e (eMv i) := PE.imp h fun σ H Q ⟨G, δ, F, S, P⟩ => mv_run S P
theorem SE.fz {e : Expr} {i : Nat} (h : PE X e (tVar i)) : SE X g W e (eFz i) := PE.imp h fun σ H Q ⟨G, δ, F, S, P⟩ => fz_run S P
theorem SE.cst {e : Expr} {d : D} {v : V} (h : PE X e (tC v)) (r : ∀ G H, Rep g G H d v Fe) : SE X g W e (eC d) := PE.imp h fun σ H Q ⟨G, δ, F, S, P⟩ => c_run S (r G H) P
theorem se_int {i : Int} {j pos} : SE X g W (.Constant (.int i) j pos) (eC (.int i)) := .cst pe_int fun _ _ => rfl
theorem se_bl {i : Bool} {j pos} : SE X g W (.Constant (.bool i) j pos) (eC (.bl i)) := .cst pe_bl fun _ _ => rfl
theorem se_str {i : Str} {j pos} : SE X g W (.Constant (.str i) j pos) (eC (.str i)) := .cst pe_str fun _ _ => rfl
theorem se_non {j pos} : SE X g W (.Constant .none j pos) (eC .non) := .cst pe_non fun _ _ => rfl
theorem SO.val {e : Expr} {f : Ev} (h : SE X g W e f) : SO X g W e (.val f) := h
theorem SO.var {e : Expr} {i : Nat} (h : PE X e (tVar i)) : SO X g W e (.var i) := h
end
/-! ### operations that only look at their operands -/
def eOps (k : List D → Option D) (os : List Od) : Ev := fun δ => (evOds os δ).bind fun xs δ1 => match resL δ1 xs with
  | some ds => match k ds with
    | some d => .ok d δ1
    | none => .bad
  | none => .bad
def Bor (g : Cfg) (G : Fp) (H : Hp) : List D → List V → Prop
  | [], vs => vs = []
  | d :: ds, vs => ∃ v vr F, vs = v :: vr ∧ Rep g G H d v F ∧ Bor g G H ds vr
/-- what an operation promises -/
def Ins (g : Cfg) (k : List D → Option D) (r : List V → Hp → VK → Prop) : Prop := ∀ (G : Fp) (H : Hp) (ds : List D) (vs : List V) (d : D) (Q : VK), Bor g G H ds vs → k ds = some d →
  (∀ v H' Fv, Same H H' → Rep g G H' d v Fv → (∀ a, Fv a → H a = none ∧ Mut (H' a)) → Q v H') → r vs H Q
section
variable {g : Cfg} {W : WX} {G G' G1 G2 : Fp} {H H' H1 H2 : Hp} {σ : St} {δ δ' : Env} {F F' : Nat → Fp} {Q : VK}
theorem bor_of (S : StR g G H σ δ F) : ∀ {xs : List OV} {vs : List V} {ds : List D} {A : Fp}, RepOs g G H σ xs vs A → resL δ xs = some ds → Bor g G H ds vs
  | [], vs, ds, _, h, e => by cases e; exact h
  | .tmp d :: xs, vs, ds, _, ⟨v, vr, F1, F2, e1, l1, l2, dj, r, rs⟩, e => by
    unfold resL at e
    cases h : resL δ xs with
    | none => rw [h] at e; simp [resO] at e
    | some es =>
      rw [h] at e
      simp only [resO, Option.some.injEq] at e
      subst e
      exact ⟨v, vr, F1, e1, r, bor_of S rs h⟩
  | .late i :: xs, vs, ds, _, ⟨v, vr, e1, hv, rs⟩, e => by
    unfold resL at e
    cases h : resL δ xs with
    | none => rw [h] at e; cases h' : resO δ (.late i) <;> rw [h'] at e <;> cases e
    | some es =>
      cases h' : gt δ i with
      | none => rw [h, show resO δ (.late i) = none from h'] at e; cases e
      | some d =>
        rw [h, show resO δ (.late i) = some d from h'] at e
        simp only [Option.some.injEq] at e
        subst e
        obtain ⟨v', ev, r⟩ := S.at_ i d h'
        rw [hv] at ev
        cases ev
        exact ⟨v, vr, F i, e1, r, bor_of S rs h⟩
theorem ops_run {k : List D → Option D} {r : List V → Hp → VK → Prop} {os : List Od} (hk : Ins g k r) (S : StR g G H σ δ F) (P : Post g W G H F σ (eOps k os δ) Q) : tOs g W os σ H fun vs H1 => r vs H1 Q := by
  refine ods_run S (PostG.mono (PostG.bind P) fun xs δ1 H1 G1 F1 S1 P1 vs Fv rs ok dj E1 => ?_)
  cases e : resL δ1 xs with
  | none => simp only [e] at P1; exact False.elim P1
  | some ds =>
    cases e2 : k ds with
    | none => simp only [e, e2] at P1; exact False.elim P1
    | some d =>
      simp only [e, e2] at P1
      refine hk G1 H1 ds vs d Q (bor_of S1 rs e) e2 fun v H' Fv' same rep new => ?_
      refine P1 H' G1 F1 (S1.same same) v Fv' rep (fun a h => ⟨(new a h).2, fun z => S1.gs a z (new a h).1⟩) (fun a h ⟨i, z⟩ => ?_) (E1.trans (.new (U1 := U F1) same (Le.refl _) fun a h => (new a h).1) Le.inl)
      have := (S1.ok i a z).1
      rw [(new a h).1] at this; exact this
end
section
variable {X : Cx} {g : Cfg} {W : WX} {k : List D → Option D}
def on1 (r : V → Hp → VK → Prop) : List V → Hp → VK → Prop := fun vs H Q => match vs with
  | [x] => r x H Q
  | _ => False
def on2 (r : R2) : List V → Hp → VK → Prop := fun vs H Q => match vs with
  | [x, y] => r x y H Q
  | _ => False
theorem se_bin {op : Operator} {r : R2} {a b : Expr} {oa ob : Od} {pos : Pos} (ho : OpR X (binaryOp op) r) (hk : Ins g k (on2 r)) (ha : SO X g W a oa) (hb : SO X g W b ob) : SE X g W (.BinOp a op b pos) (eOps k [oa, ob]) :=
  PE.imp (pe_op ho ha hb) fun σ H Q ⟨G, δ, F, S, P⟩ => ops_run hk S P
theorem se_un {op : UnaryOp} {r : V → Hp → VK → Prop} {a : Expr} {oa : Od} {pos : Pos} (ho : UnR X (unaryOp op) r) (hk : Ins g k (on1 r)) (ha : SO X g W a oa) : SE X g W (.UnaryOp op a pos) (eOps k [oa]) :=
  PE.imp (pe_un ho ha) fun σ H Q ⟨G, δ, F, S, P⟩ => ops_run hk S P
theorem se_cmp {op : CmpOp} {r : R2} {a b : Expr} {oa ob : Od} {pos : Pos} (ho : OpR X (compareOp op) r) (hk : Ins g k (on2 r)) (ha : SO X g W a oa) (hb : SO X g W b ob) (hm : behindInMarks op b = false) : SE X g W (.Compare a [op] [b] pos) (eOps k [oa, ob]) :=
  PE.imp (pe_cmpR ho ha hb hm) fun σ H Q ⟨G, δ, F, S, P⟩ => ops_run hk S P
theorem se_ix {r : R2} {a b : Expr} {oa ob : Od} {pos : Pos} (ho : IxR X r) (hk : Ins g k (on2 r)) (ha : SO X g W a oa) (hb : SO X g W b ob) (hs : PlainIx b) : SE X g W (.Subscript a b pos) (eOps k [oa, ob]) :=
  PE.imp (pe_ix ho ha hb hs) fun σ H Q ⟨G, δ, F, S, P⟩ => ops_run hk S P
inductive SOs (X : Cx) (g : Cfg) (W : WX) : List Expr → List Od → Prop
  | nil : SOs X g W [] []
  | cons {e : Expr} {es : List Expr} {o : Od} {os : List Od} : SO X g W e o → SOs X g W es os → starEach (e :: es) X.env = (false, eval e X.env) :: starEach es X.env → SOs X g W (e :: es) (o :: os)
theorem SOs.pa {es : List Expr} {os : List Od} (h : SOs X g W es os) : PA X es (tOs g W os) := by
  induction h with
  | nil => exact pa_nil
  | cons h _ hs ih => exact pa_cons h ih hs
theorem so_nil : SOs X g W [] [] := .nil
theorem so_cons {e : Expr} {es : List Expr} {o : Od} {os : List Od} (h : SO X g W e o) (t : SOs X g W es os) (hs : starEach (e :: es) X.env = (false, eval e X.env) :: starEach es X.env := by rfl) : SOs X g W (e :: es) (o :: os) := .cons h t hs
theorem se_callB {x : Str} {p pos : Pos} {id : String} {r : List V → Hp → VK → Prop} {e : Expr} {es : List Expr} {os : List Od} (hc : CallR X (.builtin id) r) (hk : Ins g k r) (hg : Gl X x) (hm : X.mg x = none) (hv : bootBuiltins x = some (.builtin id)) (ha : SOs X g W (e :: es) os)
    (hn : x ≠ "__name__" := by decide) (hdb : (x == ("__debug__" : Str)) = false := by decide) (he : starEach (e :: es) X.env = (false, eval e X.env) :: starEach es X.env := by rfl) (hpl : (backTo pos (starEach es X.env)).any (·.1) = false := by rfl) :
    SE X g W (.Call (.Name x p) (e :: es) [] pos) (eOps k os) := PE.imp (pe_callB hc hg hm hv ha.pa hn hdb he hpl) fun σ H Q ⟨G, δ, F, S, P⟩ => ops_run hk S P
theorem se_callTy {x : Str} {p pos : Pos} {T : String} {r : List V → Hp → VK → Prop} {e : Expr} {es : List Expr} {os : List Od} (hc : CallR X (.type T) r) (hk : Ins g k r) (hg : Gl X x) (hm : X.mg x = none) (hv : bootBuiltins x = some (.type T)) (ha : SOs X g W (e :: es) os)
    (hn : x ≠ "__name__" := by decide) (hdb : (x == ("__debug__" : Str)) = false := by decide) (he : starEach (e :: es) X.env = (false, eval e X.env) :: starEach es X.env := by rfl) (hpl : (backTo pos (starEach es X.env)).any (·.1) = false := by rfl) :
    SE X g W (.Call (.Name x p) (e :: es) [] pos) (eOps k os) := PE.imp (pe_callTy hc hg hm hv ha.pa hn hdb he hpl) fun σ H Q ⟨G, δ, F, S, P⟩ => ops_run hk S P
end
/-! ### displays: what owns its items -/
def evL : List Ev → Env → R (List D)
  | [], δ => .ok [] δ
  | f :: fs, δ => (f δ).bind fun d δ1 => (evL fs δ1).bind fun ds δ2 => .ok (d :: ds) δ2
def tEs (g : Cfg) (W : WX) : List Ev → TA
  | [] => tNil
  | f :: fs => tCons (tE g W f) (tEs g W fs)
def eTup (fs : List Ev) : Ev := fun δ => (evL fs δ).bind fun ds δ1 => if ds.length ≤ 100000 then .ok (.tup ds) δ1 else .bad
def eLst (fs : List Ev) : Ev := fun δ => (evL fs δ).bind fun ds δ1 => if ds.length ≤ 100000 then .ok (.lst true ds) δ1 else .bad
section
variable {g : Cfg} {W : WX} {G G' G1 G2 : Fp} {H H' H1 H2 : Hp} {σ : St} {δ δ' : Env} {F F' : Nat → Fp} {Q : VK}
theorem evs_run : ∀ {fs : List Ev} {G : Fp} {H : Hp} {δ : Env} {F : Nat → Fp} {M : List V → Hp → Prop}, StR g G H σ δ F →
    (PostG g W G H F σ (evL fs δ) fun ds δ' H' G' F' => ∀ vs Fv, Reps g G' H' ds vs Fv → Ok G' H' Fv → Dj Fv (U F') → Ext G H (U F) G' H' (Un2 (U F') Fv) → M vs H') → tEs g W fs σ H M
  | [], G, H, δ, F, M, S, P => P H G F S [] Fe rfl (fun _ z => z.elim) (fun _ z => z.elim) (.refl fun _ z => z.elim id fun z => z.elim)
  | f :: fs, G, H, δ, F, M, S, P => by
    show tE g W f σ H fun x H1 => tEs g W fs σ H1 fun xs H2 => M (x :: xs) H2
    refine tE_of S (PostG.mono (PostG.bind P) fun d δ1 H1 G1 F1 S1 P1 v Fv r ok1 dj1 E1 => ?_)
    refine evs_run S1 ((PostG.mono (PostG.bind P1) fun ds δ2 H2 G2 F2 S2 P2 vs Fvs rs ok2 dj2 E2 => ?_).on E1 Le.inl)
    have P3 : PostG g W G H F σ (R.ok (d :: ds) δ2) _ := P2
    have okF : Ok G1 H1 (U F1) := S1.okU
    refine P3 H2 G2 F2 S2 (v :: vs) (Un2 Fv Fvs) ?_ (fun a h => h.elim (E2.ok ok1 dj1 a) (ok2 a)) (fun a h z => h.elim (fun h => E2.dj ok1 dj1 a h (.inl z)) fun h => dj2 a h z) ?_
    · exact ⟨v, vs, Fv, Fvs, rfl, Le.inl, Le.inr, fun a h z => E2.dj ok1 dj1 a h (.inr z), E2.rep okF r dj1, rs⟩
    · refine E1.trans (U1' := Un2 (U F1) Fv) (E2.frame (Fh := Fv)) (Le.refl _) |>.weak (Le.refl _) fun a h => ?_
      rcases h with h | h | h
      · exact .inl (.inl h)
      · exact .inr h
      · exact .inl (.inr h)
/-- a new object with these items -/
theorem mk_run {d : D} {Fv Fd : Fp} {o : HO} {p : Addr} {P : Post g W G H F σ (.ok d δ') Q} (S1 : StR g G1 H1 σ δ' F') (ok1 : Ok G1 H1 Fv) (dj1 : Dj Fv (U F')) (E1 : Ext G H (U F) G1 H1 (Un2 (U F') Fv)) (np : H1 p = none)
    (r : Rep g G1 (upd H1 p o) d (.ref p) Fd) (l : ∀ a, Fd a → Fv a ∨ (a = p ∧ Mut (some o))) : Q (.ref p) (upd H1 p o) := by
  have s : Same H1 (upd H1 p o) := fun b x e => by rw [upd_ne (ne_of_none e np)]; exact e
  refine P _ G1 F' (S1.same s) (.ref p) Fd r (fun a h => ?_) (fun a h ⟨i, z⟩ => ?_) ?_
  · rcases l a h with h | ⟨rfl, m⟩
    · exact ok_same ok1 s a h
    · exact ⟨by rw [upd_same]; exact m, fun z => S1.gs a z np⟩
  · rcases l a h with h | ⟨rfl, m⟩
    · exact dj1 a h ⟨i, z⟩
    · have := (S1.ok i a z).1
      rw [np] at this; exact this
  · refine E1.trans (.new (U1 := Un2 (U F') Fv) (Fv := fun a => a = p) s (Le.refl _) fun a h => by rw [h]; exact np) (Le.refl _) |>.weak (Le.refl _) fun a h => ?_
    rcases h with h | h
    · exact .inl (.inl h)
    · rcases l a h with h | ⟨h, _⟩
      · exact .inl (.inr h)
      · exact .inr h
theorem sz5 {n : Nat} (h : n ≤ 100000) : n ≤ sizeLine := Nat.le_trans h (by decide)
theorem tup_run {fs : List Ev} (S : StR g G H σ δ F) (P : Post g W G H F σ (eTup fs δ) Q) : tEs g W fs σ H fun vs H1 => vs.length ≤ sizeLine ∧ ∀ p, H1 p = none → Q (.ref p) (upd H1 p (.tup vs)) := by
  refine evs_run S (PostG.mono (PostG.bind P) fun ds δ1 H1 G1 F1 S1 P1 vs Fv rs ok dj E1 => ?_)
  by_cases h : ds.length ≤ 100000
  · simp only [h, if_true] at P1
    refine ⟨by rw [rs.length]; exact sz5 h, fun p np => mk_run (P := P1) S1 ok dj E1 np ⟨p, vs, rfl, .inl (.inl upd_same), rs.same fun b x e => by rw [upd_ne (ne_of_none e np)]; exact e⟩ fun a h => .inl h⟩
  · rw [if_neg h] at P1; exact False.elim P1
theorem lst_run {fs : List Ev} (S : StR g G H σ δ F) (P : Post g W G H F σ (eLst fs δ) Q) : tEs g W fs σ H fun vs H1 => vs.length ≤ sizeLine ∧ ∀ p, H1 p = none → Q (.ref p) (upd H1 p (.lst vs)) := by
  refine evs_run S (PostG.mono (PostG.bind P) fun ds δ1 H1 G1 F1 S1 P1 vs Fv rs ok dj E1 => ?_)
  by_cases h : ds.length ≤ 100000
  · simp only [h, if_true] at P1
    refine ⟨by rw [rs.length]; exact sz5 h, fun p np => mk_run (Fd := fun a => Fv a ∨ a = p) (P := P1) S1 ok dj E1 np ⟨p, vs, Fv, rfl, ⟨upd_same, .inr rfl⟩, fun b hb => ⟨.inl hb, fun e => ?_⟩, rs.same fun b x e => by rw [upd_ne (ne_of_none e np)]; exact e⟩ fun a h => h.elim .inl fun h => .inr ⟨h, trivial⟩⟩
    have := (ok b hb).1
    rw [e, np] at this; exact this
  · rw [if_neg h] at P1; exact False.elim P1
end
section
variable {X : Cx} {g : Cfg} {W : WX}
inductive SEs (X : Cx) (g : Cfg) (W : WX) : List Expr → List Ev → Prop
  | nil : SEs X g W [] []
  | cons {e : Expr} {es : List Expr} {o : Ev} {os : List Ev} : SE X g W e o → SEs X g W es os → starEach (e :: es) X.env = (false, eval e X.env) :: starEach es X.env → SEs X g W (e :: es) (o :: os)
theorem SEs.pa {es : List Expr} {os : List Ev} (h : SEs X g W es os) : PA X es (tEs g W os) := by
  induction h with
  | nil => exact pa_nil
  | cons h _ hs ih => exact pa_cons h ih hs
theorem es_nil : SEs X g W [] [] := .nil
theorem es_cons {e : Expr} {es : List Expr} {o : Ev} {os : List Ev} (h : SE X g W e o) (t : SEs X g W es os) (hs : starEach (e :: es) X.env = (false, eval e X.env) :: starEach es X.env := by rfl) : SEs X g W (e :: es) (o :: os) := .cons h t hs
theorem se_tup {es : List Expr} {fs : List Ev} {k} {pos : Pos} (h : SEs X g W es fs) : SE X g W (.Tuple es k pos) (eTup fs) := PE.imp (pe_tup h.pa) fun σ H Q ⟨G, δ, F, S, P⟩ => tup_run S P
theorem se_lst {es : List Expr} {fs : List Ev} {pos : Pos} (h : SEs X g W es fs) : SE X g W (.List es pos) (eLst fs) := PE.imp (pe_lst h.pa) fun σ H Q ⟨G, δ, F, S, P⟩ => lst_run S P
end
/-! ### tests, conditional expressions -/
abbrev Tv := Env → R Bool
def tT (g : Cfg) (W : WX) (f : Tv) : TT := fun σ H Q => ∃ G δ F, StR g G H σ δ F ∧ PostG g W G H F σ (f δ) fun b δ' H' G' F' => Ext G H (U F) G' H' (U F') → Q b H'
abbrev ST (X : Cx) (g : Cfg) (W : WX) (e : Expr) (f : Tv) : Prop := PT X e (tT g W f)
def eB (f : Ev) : Tv := fun δ => (f δ).bind fun d δ1 => match d with
  | .bl b => .ok b δ1
  | _ => .bad
def tNt (f : Tv) : Tv := fun δ => (f δ).bind fun b δ1 => .ok (!b) δ1
def tAn (f h : Tv) : Tv := fun δ => (f δ).bind fun b δ1 => if b = true then h δ1 else .ok false δ1
def tOrr (f h : Tv) : Tv := fun δ => (f δ).bind fun b δ1 => if b = true then .ok true δ1 else h δ1
def eIf (t : Tv) (f h : Ev) : Ev := fun δ => (t δ).bind fun b δ1 => if b = true then f δ1 else h δ1
def eAn (f h : Ev) : Ev := fun δ => (f δ).bind fun d δ1 => match d with
  | .bl true => h δ1
  | .bl false => .ok (.bl false) δ1
  | _ => .bad
def eOr (f h : Ev) : Ev := fun δ => (f δ).bind fun d δ1 => match d with
  | .bl false => h δ1
  | .bl true => .ok (.bl true) δ1
  | _ => .bad
section
variable {g : Cfg} {W : WX} {G G' G1 G2 : Fp} {H H' H1 H2 : Hp} {σ : St} {δ δ' : Env} {F F' : Nat → Fp} {Q : VK}
theorem tT_of {f : Tv} {Q : Bool → Hp → Prop} (S : StR g G H σ δ F) (P : PostG g W G H F σ (f δ) fun b δ' H' G' F' => Ext G H (U F) G' H' (U F') → Q b H') : tT g W f σ H Q := ⟨G, δ, F, S, P⟩
theorem b_run {f : Ev} {Q : Bool → Hp → Prop} (S : StR g G H σ δ F) (P : PostG g W G H F σ (eB f δ) fun b δ' H' G' F' => Ext G H (U F) G' H' (U F') → Q b H') : tE g W f σ H fun x H1 => ∃ k, x = .bl k ∧ Q k H1 := by
  refine tE_of S (PostG.mono (PostG.bind P) fun d δ1 H1 G1 F1 S1 P1 v Fv r ok dj E1 => ?_)
  cases d with
  | bl b => exact ⟨b, r, P1 H1 G1 F1 S1 (E1.weak (Le.refl _) Le.inl)⟩
  | _ => exact False.elim P1
/-- behind a test -/
theorem then_run {t : Tv} {β : Type} {k : Bool → Env → R β} {N : β → Env → Hp → Fp → (Nat → Fp) → Prop} {M : Bool → Hp → Prop} (S : StR g G H σ δ F) (P : PostG g W G H F σ ((t δ).bind k) N)
    (h : ∀ b δ1 H1 G1 F1, StR g G1 H1 σ δ1 F1 → Ext G H (U F) G1 H1 (U F1) → PostG g W G H F σ (k b δ1) N → M b H1) : tT g W t σ H M :=
  tT_of S (PostG.mono (PostG.bind P) fun b δ1 H1 G1 F1 S1 P1 E1 => h b δ1 H1 G1 F1 S1 E1 P1)
/-- the rest, from here on -/
theorem Post.on {r : R D} (P : Post g W G H F σ r Q) (E : Ext G H (U F) G1 H1 (U F')) : Post g W G1 H1 F' σ r Q :=
  PostG.mono (PostG.on P E (F1 := F') (Le.refl _)) fun d δ' H2 G2 F2 S2 P2 v Fv r o dj E2 => P2 v Fv r o dj (E.trans E2 (Le.refl _))
theorem PostT.on {r : R Bool} {Q : Bool → Hp → Prop} (P : PostG g W G H F σ r fun b δ' H' G' F' => Ext G H (U F) G' H' (U F') → Q b H') (E : Ext G H (U F) G1 H1 (U F')) :
    PostG g W G1 H1 F' σ r fun b δ' H' G2 F2 => Ext G1 H1 (U F') G2 H' (U F2) → Q b H' :=
  PostG.mono (PostG.on P E (F1 := F') (Le.refl _)) fun d δ' H2 G2 F2 S2 P2 E2 => P2 (E.trans E2 (Le.refl _))
end
section
variable {X : Cx} {g : Cfg} {W : WX}
theorem st_val {e : Expr} {f : Ev} (h : SE X g W e f) (he : ∀ whole, isTrue e X.env whole = (do let v ← whole; standAt e.pos; holding [v] (truthy v)) := by intro _; rfl) : ST X g W e (eB f) :=
  PT.imp (pt_val h he) fun σ H Q ⟨G, δ, F, S, P⟩ => b_run S P
theorem st_cmp {op : CmpOp} {r : R2} {k : List D → Option D} {a b : Expr} {oa ob : Od} {pos : Pos} (ho : OpR X (compareOp op) r) (hk : Ins g k (on2 r)) (ha : SO X g W a oa) (hb : SO X g W b ob) (hm : behindInMarks op b = false) : ST X g W (.Compare a [op] [b] pos) (eB (eOps k [oa, ob])) :=
  PT.imp (pt_cmpR ho ha hb hm) fun σ H Q ⟨G, δ, F, S, P⟩ => by
    have : Post g W G H F σ (eOps k [oa, ob] δ) fun x H1 => ∃ c, x = .bl c ∧ Q c H1 := by
      refine PostG.mono (PostG.bind P) fun d δ1 H1 G1 F1 S1 P1 v Fv r ok dj E1 => ?_
      cases d with
      | bl b => exact ⟨b, r, P1 H1 G1 F1 S1 (E1.weak (Le.refl _) Le.inl)⟩
      | _ => exact False.elim P1
    exact ops_run hk S this
theorem st_not {e : Expr} {f : Tv} {pos : Pos} (h : ST X g W e f) : ST X g W (.UnaryOp .Not e pos) (tNt f) := PT.imp (pt_not h) fun σ H Q ⟨G, δ, F, S, P⟩ =>
  then_run S P fun b δ1 H1 G1 F1 S1 E1 P1 => P1 H1 G1 F1 S1 E1
abbrev SW (X : Cx) (g : Cfg) (W : WX) (e : Expr) (f : Tv) : Prop := PW X e (tT g W f)
variable {a b : Expr} {rest : List Expr} {pos : Pos} {f h : Tv}
theorem sw_and1 (ha : ST X g W a f) : SW X g W (.BoolOp .And [a] pos) f := pw_and1 ha
theorem sw_or1 (ha : ST X g W a f) : SW X g W (.BoolOp .Or [a] pos) f := pw_or1 ha
theorem sw_and (ha : ST X g W a f) (hb : SW X g W (.BoolOp .And (b :: rest) pos) h) : SW X g W (.BoolOp .And (a :: b :: rest) pos) (tAn f h) := PW.imp (pw_and ha hb) fun σ H Q ⟨G, δ, F, S, P⟩ =>
  then_run S P fun b δ1 H1 G1 F1 S1 E1 P1 => by
    cases b with
    | true => simp only [if_true] at P1 ⊢; exact tT_of S1 (PostT.on P1 E1)
    | false => simp only [Bool.false_eq_true, if_false] at P1 ⊢; exact P1 H1 G1 F1 S1 E1
theorem sw_or (ha : ST X g W a f) (hb : SW X g W (.BoolOp .Or (b :: rest) pos) h) : SW X g W (.BoolOp .Or (a :: b :: rest) pos) (tOrr f h) := PW.imp (pw_or ha hb) fun σ H Q ⟨G, δ, F, S, P⟩ =>
  then_run S P fun b δ1 H1 G1 F1 S1 E1 P1 => by
    cases b with
    | true => simp only [if_true] at P1 ⊢; exact P1 H1 G1 F1 S1 E1
    | false => simp only [Bool.false_eq_true, if_false] at P1 ⊢; exact tT_of S1 (PostT.on P1 E1)
theorem st_bool {e : Expr} (h : SW X g W e f) : ST X g W e f := PW.pt h
theorem se_if {c x y : Expr} {t : Tv} {u v : Ev} (hc : ST X g W c t) (ha : SE X g W x u) (hb : SE X g W y v) : SE X g W (.IfExp c x y pos) (eIf t u v) := PE.imp (pe_ifExp hc ha hb) fun σ H Q ⟨G, δ, F, S, P⟩ =>
  then_run S P fun b δ1 H1 G1 F1 S1 E1 P1 => by
    cases b with
    | true => simp only [if_true] at P1 ⊢; exact tE_of S1 (Post.on P1 E1)
    | false => simp only [Bool.false_eq_true, if_false] at P1 ⊢; exact tE_of S1 (Post.on P1 E1)
theorem se_one {op} {x : Expr} {u : Ev} (h : SE X g W x u) : SE X g W (.BoolOp op [x] pos) u := pe_one h
theorem se_and {u v : Ev} (ha : SE X g W a u) (hb : SE X g W (.BoolOp .And (b :: rest) pos) v) : SE X g W (.BoolOp .And (a :: b :: rest) pos) (eAn u v) := PE.imp (pe_and ha hb) fun σ H Q ⟨G, δ, F, S, P⟩ => by
  refine tE_of S (PostG.mono (PostG.bind P) fun d δ1 H1 G1 F1 S1 P1 v' Fv r ok dj E1 => ?_)
  cases d with
  | bl b =>
    refine ⟨b, r, ?_⟩
    have E2 := E1.weak (V1 := U F1) (Le.refl _) Le.inl
    cases b with
    | true => simp only [if_true]; exact tE_of S1 (Post.on P1 E2)
    | false => simp only [Bool.false_eq_true, if_false]; exact P1 H1 G1 F1 S1 _ Fe rfl (fun _ z => z.elim) (fun _ z => z.elim) (E2.weak (Le.refl _) fun _ h => h.elim id fun z => z.elim)
  | _ => exact False.elim P1
theorem se_or {u v : Ev} (ha : SE X g W a u) (hb : SE X g W (.BoolOp .Or (b :: rest) pos) v) : SE X g W (.BoolOp .Or (a :: b :: rest) pos) (eOr u v) := PE.imp (pe_or ha hb) fun σ H Q ⟨G, δ, F, S, P⟩ => by
  refine tE_of S (PostG.mono (PostG.bind P) fun d δ1 H1 G1 F1 S1 P1 v' Fv r ok dj E1 => ?_)
  cases d with
  | bl b =>
    refine ⟨b, r, ?_⟩
    have E2 := E1.weak (V1 := U F1) (Le.refl _) Le.inl
    cases b with
    | false => simp only [Bool.false_eq_true, if_false]; exact tE_of S1 (Post.on P1 E2)
    | true => simp only [if_true]; exact P1 H1 G1 F1 S1 _ Fe rfl (fun _ z => z.elim) (fun _ z => z.elim) (E2.weak (Le.refl _) fun _ h => h.elim id fun z => z.elim)
  | _ => exact False.elim P1
end
end DV

namespace DV
open PySem L2
/-! ### statements -/
inductive RS where
  | nx (δ : Env) | rt (d : D) (δ : Env) | bk (δ : Env) | ct (δ : Env) | ex (x : Exn) (δ : Env) | bad
abbrev Sv := Env → RS
def R.thn {α : Type} (r : R α) (k : α → Env → RS) : RS :=
  match r with
  | .ok a δ => k a δ
  | .ex x δ => .ex x δ
  | .bad => .bad
@[simp] theorem R.thn_ok {α : Type} {a : α} {δ : Env} {k : α → Env → RS} : (R.ok a δ).thn k = k a δ := rfl
@[simp] theorem R.thn_ex {α : Type} {x : Exn} {δ : Env} {k : α → Env → RS} : (R.ex x δ : R α).thn k = .ex x δ := rfl
@[simp] theorem R.thn_bad {α : Type} {k : α → Env → RS} : (R.bad : R α).thn k = .bad := rfl
/-- but for the slots of a, all names are as they were -/
abbrev As := Nat → Bool
def Ag (a : As) (σ σ' : St) : Prop := σ'.length = σ.length ∧ ∀ i, a i = false → σ'[i]? = σ[i]?
def a0 : As := fun _ => false
def a1 (i : Nat) : As := fun j => Nat.beq j i
def aOr (a b : As) : As := fun i => a i || b i
theorem Ag.refl {a : As} {σ : St} : Ag a σ σ := ⟨rfl, fun _ _ => rfl⟩
theorem Ag.trans {a b : As} {σ σ1 σ2 : St} (h : Ag a σ σ1) (h' : Ag b σ1 σ2) : Ag (aOr a b) σ σ2 := ⟨h'.1.trans h.1, fun i e => by
  simp only [aOr, Bool.or_eq_false_iff] at e
  rw [h'.2 i e.2, h.2 i e.1]⟩
theorem Ag.le {a b : As} {σ σ1 : St} (h : Ag a σ σ1) (l : ∀ i, b i = false → a i = false) : Ag b σ σ1 := ⟨h.1, fun i e => h.2 i (l i e)⟩
theorem Ag.l {a b : As} {σ σ1 : St} (h : Ag a σ σ1) : Ag (aOr a b) σ σ1 := h.le fun i e => by simp only [aOr, Bool.or_eq_false_iff] at e; exact e.1
theorem Ag.r {a b : As} {σ σ1 : St} (h : Ag b σ σ1) : Ag (aOr a b) σ σ1 := h.le fun i e => by simp only [aOr, Bool.or_eq_false_iff] at e; exact e.2
theorem Ag.tr {a : As} {σ σ1 σ2 : St} (h : Ag a σ σ1) (h' : Ag a σ1 σ2) : Ag a σ σ2 := ⟨h'.1.trans h.1, fun i e => by rw [h'.2 i e, h.2 i e]⟩
theorem Ag.set {σ : St} {i : Nat} {v : Option V} : Ag (a1 i) σ (σ.set i v) := ⟨List.length_set, fun j e => by
  have : i ≠ j := fun z => by
    subst z
    simp only [a1, Nat.beq_refl] at e
    cases e
  rw [List.getElem?_set_ne this]⟩
def PostS (g : Cfg) (W : WX) (a : As) (G : Fp) (H : Hp) (F : Nat → Fp) (σ : St) (r : RS) (D : Ends) : Prop :=
  match r with
  | .nx δ' => ∀ σ' H' G' F', StR g G' H' σ' δ' F' → Ag a σ σ' → Ext G H (U F) G' H' (U F') → D.nx σ' H'
  | .bk δ' => ∀ σ' H' G' F', StR g G' H' σ' δ' F' → Ag a σ σ' → Ext G H (U F) G' H' (U F') → D.bk σ' H'
  | .ct δ' => ∀ σ' H' G' F', StR g G' H' σ' δ' F' → Ag a σ σ' → Ext G H (U F) G' H' (U F') → D.ct σ' H'
  | .rt d δ' => ∀ v σ' H' G' F' Fv, StR g G' H' σ' δ' F' → Ag a σ σ' → Rep g G' H' d v Fv → Ok G' H' Fv → Dj Fv (U F') → Ext G H (U F) G' H' (Un2 (U F') Fv) → D.rt v H'
  | .ex x δ' => ∀ cls dd σ' H' G' F', StR g G' H' σ' δ' F' → Ag a σ σ' → ExR g x cls dd H' → Ext G H (U F) G' H' (U F') → W cls dd σ' H'
  | .bad => False
def tS (g : Cfg) (W : WX) (a : As) (f : Sv) : TS := fun D σ H => ∃ G δ F, StR g G H σ δ F ∧ PostS g W a G H F σ (f δ) D
abbrev SS (X : Cx) (g : Cfg) (W : WX) (a : As) (s : Stmt) (f : Sv) : Prop := PS X s (tS g W a f)
abbrev SSs (X : Cx) (g : Cfg) (W : WX) (a : As) (s : List Stmt) (f : Sv) : Prop := PSs X s (tS g W a f)
section
variable {g : Cfg} {W : WX} {a b : As} {G G' G1 G2 : Fp} {H H' H1 H2 : Hp} {σ σ1 : St} {δ δ' : Env} {F F' F1 : Nat → Fp} {D : Ends}
theorem tS_of {f : Sv} (S : StR g G H σ δ F) (P : PostS g W a G H F σ (f δ) D) : tS g W a f D σ H := ⟨G, δ, F, S, P⟩
/-- the rest, from here on -/
theorem PostS.on {r : RS} (P : PostS g W (aOr a b) G H F σ r D) (ag : Ag a σ σ1) (E : Ext G H (U F) G1 H1 (U F1)) : PostS g W b G1 H1 F1 σ1 r D := by
  cases r with
  | nx δ' => exact fun σ' H' G' F' S ag' E' => P σ' H' G' F' S (ag.trans ag') (E.trans E' (Le.refl _))
  | bk δ' => exact fun σ' H' G' F' S ag' E' => P σ' H' G' F' S (ag.trans ag') (E.trans E' (Le.refl _))
  | ct δ' => exact fun σ' H' G' F' S ag' E' => P σ' H' G' F' S (ag.trans ag') (E.trans E' (Le.refl _))
  | rt d δ' => exact fun v σ' H' G' F' Fv S ag' r o dj E' => P v σ' H' G' F' Fv S (ag.trans ag') r o dj (E.trans E' (Le.refl _))
  | ex x δ' => exact fun cls dd σ' H' G' F' S ag' x E' => P cls dd σ' H' G' F' S (ag.trans ag') x (E.trans E' (Le.refl _))
  | bad => exact P
theorem PostS.le {r : RS} (P : PostS g W b G H F σ r D) (l : ∀ i, b i = false → a i = false) : PostS g W a G H F σ r D := by
  cases r with
  | nx δ' => exact fun σ' H' G' F' S ag' E' => P σ' H' G' F' S (ag'.le l) E'
  | bk δ' => exact fun σ' H' G' F' S ag' E' => P σ' H' G' F' S (ag'.le l) E'
  | ct δ' => exact fun σ' H' G' F' S ag' E' => P σ' H' G' F' S (ag'.le l) E'
  | rt d δ' => exact fun v σ' H' G' F' Fv S ag' r o dj E' => P v σ' H' G' F' Fv S (ag'.le l) r o dj E'
  | ex x δ' => exact fun cls dd σ' H' G' F' S ag' x E' => P cls dd σ' H' G' F' S (ag'.le l) x E'
  | bad => exact P
theorem PostS.at {r : RS} (P : PostS g W b G H F σ r D) (E : Ext G H (U F) G1 H1 (U F1)) : PostS g W b G1 H1 F1 σ r D := by
  cases r with
  | nx δ' => exact fun σ' H' G' F' S ag' E' => P σ' H' G' F' S ag' (E.trans E' (Le.refl _))
  | bk δ' => exact fun σ' H' G' F' S ag' E' => P σ' H' G' F' S ag' (E.trans E' (Le.refl _))
  | ct δ' => exact fun σ' H' G' F' S ag' E' => P σ' H' G' F' S ag' (E.trans E' (Le.refl _))
  | rt d δ' => exact fun v σ' H' G' F' Fv S ag' r o dj E' => P v σ' H' G' F' Fv S ag' r o dj (E.trans E' (Le.refl _))
  | ex x δ' => exact fun cls dd σ' H' G' F' S ag' x E' => P cls dd σ' H' G' F' S ag' x (E.trans E' (Le.refl _))
  | bad => exact P
theorem PostS.bind {α : Type} {r : R α} {k : α → Env → RS} (P : PostS g W a G H F σ (r.thn k) D) : PostG g W G H F σ r fun x δ' H' G' F' => PostS g W a G H F σ (k x δ') D := by
  cases r with
  | ok x δ' => exact fun _ _ _ _ => P
  | ex x δ' => exact fun cls dd H' G' F' S xr E => P cls dd σ H' G' F' S .refl xr E
  | bad => exact P
end
def sSkip : Sv := fun δ => .nx δ
def sSeq (f h : Sv) : Sv := fun δ => match f δ with
  | .nx δ1 => h δ1
  | r => r
def sIf (t : Tv) (f h : Sv) : Sv := fun δ => (t δ).thn fun b δ1 => if b = true then f δ1 else h δ1
def sRet (f : Ev) : Sv := fun δ => (f δ).thn fun d δ1 => .rt d δ1
def sRetN : Sv := fun δ => .rt .non δ
def sBrk : Sv := fun δ => .bk δ
def sCnt : Sv := fun δ => .ct δ
def sExpr (f : Ev) : Sv := fun δ => (f δ).thn fun _ δ1 => .nx δ1
def sSet (i : Nat) (f : Ev) : Sv := fun δ => (f δ).thn fun d δ1 => .nx (st δ1 i (some d))
section
variable {X : Cx} {g : Cfg} {W : WX} {a b : As} {s : Stmt} {rest : List Stmt} {f h : Sv} {pos : Pos} {e : Expr} {u : Ev}
theorem ss_skip (hs : PS X s tNext) : SS X g W a0 s sSkip := PS.imp hs fun D σ H ⟨G, δ, F, S, P⟩ => P σ H G F S .refl (.refl (Le.refl _))
theorem sss_nil : SSs X g W a0 [] sSkip := PSs.imp pss_nil fun D σ H ⟨G, δ, F, S, P⟩ => P σ H G F S .refl (.refl (Le.refl _))
theorem sss_one (hs : SS X g W a s f) : SSs X g W a [s] f := pss_one hs
theorem sss_cons (hs : SS X g W a s f) (hr : SSs X g W b rest h) : SSs X g W (aOr a b) (s :: rest) (sSeq f h) := PSs.imp (pss_cons hs hr) fun D σ H ⟨G, δ, F, S, P⟩ => by
  refine tS_of S ?_
  unfold sSeq at P
  cases e : f δ with
  | nx δ1 =>
    rw [e] at P
    exact fun σ1 H1 G1 F1 S1 ag E1 => tS_of S1 (PostS.on P ag E1)
  | bk δ1 => rw [e] at P; exact fun σ' H' G' F' S' ag' E' => P σ' H' G' F' S' ag'.l E'
  | ct δ1 => rw [e] at P; exact fun σ' H' G' F' S' ag' E' => P σ' H' G' F' S' ag'.l E'
  | rt d δ1 => rw [e] at P; exact fun v σ' H' G' F' Fv S' ag' r o dj E' => P v σ' H' G' F' Fv S' ag'.l r o dj E'
  | ex x δ1 => rw [e] at P; exact fun cls dd σ' H' G' F' S' ag' x E' => P cls dd σ' H' G' F' S' ag'.l x E'
  | bad => rw [e] at P; exact P
theorem ss_if {c : Expr} {x y : List Stmt} {t : Tv} (hc : ST X g W c t) (ha : SSs X g W a x f) (hb : SSs X g W b y h) : SS X g W (aOr a b) (.If c x y pos) (sIf t f h) := PS.imp (ps_if hc ha hb) fun D σ H ⟨G, δ, F, S, P⟩ => by
  refine tT_of S (PostG.mono (PostS.bind P) fun b δ1 H1 G1 F1 S1 P1 E1 => ?_)
  cases b with
  | true => simp only [if_true] at P1 ⊢; exact tS_of S1 (PostS.le (PostS.at P1 E1) fun i e => by simp only [aOr, Bool.or_eq_false_iff] at e; exact e.1)
  | false => simp only [Bool.false_eq_true, if_false] at P1 ⊢; exact tS_of S1 (PostS.le (PostS.at P1 E1) fun i e => by simp only [aOr, Bool.or_eq_false_iff] at e; exact e.2)
theorem ss_ret (he : SE X g W e u) : SS X g W a0 (.Return (some e) pos) (sRet u) := PS.imp (ps_ret he) fun D σ H ⟨G, δ, F, S, P⟩ =>
  tE_of S (PostG.mono (PostS.bind P) fun d δ1 H1 G1 F1 S1 P1 v Fv r o dj E => P1 v σ H1 G1 F1 Fv S1 .refl r o dj E)
theorem ss_retN : SS X g W a0 (.Return none pos) sRetN := PS.imp ps_retN fun D σ H ⟨G, δ, F, S, P⟩ => P .non σ H G F Fe S .refl rfl (fun _ z => z.elim) (fun _ z => z.elim) (.refl fun _ z => z.elim id fun z => z.elim)
theorem ss_break : SS X g W a0 (.Break pos) sBrk := PS.imp ps_break fun D σ H ⟨G, δ, F, S, P⟩ => P σ H G F S .refl (.refl (Le.refl _))
theorem ss_continue : SS X g W a0 (.Continue pos) sCnt := PS.imp ps_continue fun D σ H ⟨G, δ, F, S, P⟩ => P σ H G F S .refl (.refl (Le.refl _))
theorem ss_expr (he : SE X g W e u) (hs : swapsWith e none pos.line X.env = pure false := by rfl) : SS X g W a0 (.Expr e pos) (sExpr u) := PS.imp (ps_expr he hs) fun D σ H ⟨G, δ, F, S, P⟩ =>
  tE_of S (PostG.mono (PostS.bind P) fun d δ1 H1 G1 F1 S1 P1 v Fv r o dj E => P1 σ H1 G1 F1 S1 .refl (E.weak (Le.refl _) Le.inl))
theorem ss_asg_of {i : Nat} (hp : PS X s (tAsg (tE g W u) (gName i))) : SS X g W (a1 i) s (sSet i u) := PS.imp hp fun D σ H ⟨G, δ, F, S, P⟩ =>
  tE_of S (PostG.mono (PostS.bind P) fun d δ1 H1 G1 F1 S1 P1 v Fv r o dj E => P1 _ H1 G1 _ (S1.set r o dj) .set (E.weak (Le.refl _) U_Fst))
theorem ss_set {i : Nat} {x : Str} {pos' : Pos} (hN : X.N.Nodup) (hi : X.N[i]? = some x) (hx : Loc X.env.scope x) (he : SE X g W e u) (hs : swapsWith e (some (.Name x pos')) pos.line X.env = pure false := by rfl)
    (hf : X.fn x = true ∨ X.env.scope.names.lookup x = some .local := by first | exact .inl rfl | exact .inr rfl | assumption) : SS X g W (a1 i) (.Assign [.Name x pos'] e pos) (sSet i u) := ss_asg_of (ps_set hN hi hx he hs hf)
end
/-! ### targets -/
inductive Tg where
  | nm (i : Nat) | tp (ts : List Tg)
mutual
def tgD : Tg → D → Env → Option Env
  | .nm i, d, δ => some (st δ i (some d))
  | .tp ts, .tup ds, δ => tgsD ts ds δ
  | .tp _, _, _ => none
def tgsD : List Tg → List D → Env → Option Env
  | [], [], δ => some δ
  | t :: ts, d :: ds, δ => match tgD t d δ with
    | some δ1 => tgsD ts ds δ1
    | none => none
  | _, _, _ => none
end
mutual
def tgG (K : PySem.W.Frag) : Tg → TG
  | .nm i => gName i
  | .tp ts => gTup K ts.length (tgGs K ts)
def tgGs (K : PySem.W.Frag) : List Tg → TGs
  | [] => gNil
  | t :: ts => gCons (tgG K t) (tgGs K ts)
end
mutual
def tgA : Tg → As
  | .nm i => a1 i
  | .tp ts => tgAs ts
def tgAs : List Tg → As
  | [] => a0
  | t :: ts => aOr (tgA t) (tgAs ts)
end
section
variable {g : Cfg} {G G' G1 G2 : Fp} {H H' H1 H2 : Hp}
mutual
theorem tg_run : ∀ {t : Tg} {d : D} {σ : St} {δ δ' : Env} {F : Nat → Fp} {v : V} {Fv : Fp} {Q : St → Hp → Prop}, StR g G H σ δ F → Rep g G H d v Fv → Ok G H Fv → Dj Fv (U F) → tgD t d δ = some δ' →
    (∀ σ' F', StR g G H σ' δ' F' → Ag (tgA t) σ σ' → Le (U F') (Un2 (U F) Fv) → Q σ' H) → tgG g.K t v σ H Q
  | .nm i, d, σ, δ, δ', F, v, Fv, Q, S, r, o, dj, e, q => by
    simp only [tgD, Option.some.injEq] at e
    subst e
    exact q _ _ (S.set r o dj) .set U_Fst
  | .tp ts, .tup ds, σ, δ, δ', F, v, Fv, Q, S, ⟨p, vs, ev, sq, rs⟩, o, dj, e, q => by
    have e' : tgsD ts ds δ = some δ' := by simpa only [tgD] using e
    refine ⟨p, vs, ev, sq, ?_, tgs_run S rs o dj e' q⟩
    rw [rs.length]
    exact (tgs_len e').symm
  | .tp _, .non, _, _, _, _, _, _, _, _, _, _, _, e, _ => by simp [tgD] at e
  | .tp _, .bl _, _, _, _, _, _, _, _, _, _, _, _, e, _ => by simp [tgD] at e
  | .tp _, .int _, _, _, _, _, _, _, _, _, _, _, _, e, _ => by simp [tgD] at e
  | .tp _, .str _, _, _, _, _, _, _, _, _, _, _, _, e, _ => by simp [tgD] at e
  | .tp _, .ty _, _, _, _, _, _, _, _, _, _, _, _, e, _ => by simp [tgD] at e
  | .tp _, .scr _, _, _, _, _, _, _, _, _, _, _, _, e, _ => by simp [tgD] at e
  | .tp _, .lst _ _, _, _, _, _, _, _, _, _, _, _, _, e, _ => by simp [tgD] at e
  | .tp _, .dct _ _ _, _, _, _, _, _, _, _, _, _, _, _, e, _ => by simp [tgD] at e
  | .tp _, .dcT _ _ _, _, _, _, _, _, _, _, _, _, _, _, e, _ => by simp [tgD] at e
  | .tp _, .ins _ _ _ _, _, _, _, _, _, _, _, _, _, _, _, e, _ => by simp [tgD] at e
theorem tgs_len : ∀ {ts : List Tg} {ds : List D} {δ δ' : Env}, tgsD ts ds δ = some δ' → ts.length = ds.length
  | [], [], _, _, _ => rfl
  | [], _ :: _, _, _, e => by simp [tgsD] at e
  | _ :: _, [], _, _, e => by simp [tgsD] at e
  | t :: ts, d :: ds, δ, δ', e => by
    simp only [tgsD] at e
    cases h : tgD t d δ with
    | none => rw [h] at e; cases e
    | some δ1 => rw [h] at e; rw [List.length_cons, List.length_cons, tgs_len e]
theorem tgs_run : ∀ {ts : List Tg} {ds : List D} {σ : St} {δ δ' : Env} {F : Nat → Fp} {vs : List V} {Fv : Fp} {Q : St → Hp → Prop}, StR g G H σ δ F → Reps g G H ds vs Fv → Ok G H Fv → Dj Fv (U F) → tgsD ts ds δ = some δ' →
    (∀ σ' F', StR g G H σ' δ' F' → Ag (tgAs ts) σ σ' → Le (U F') (Un2 (U F) Fv) → Q σ' H) → tgGs g.K ts vs σ H Q
  | [], [], σ, δ, δ', F, vs, Fv, Q, S, r, o, dj, e, q => by
    simp only [tgsD, Option.some.injEq] at e
    subst e
    exact ⟨r, q σ F S .refl Le.inl⟩
  | [], _ :: _, _, _, _, _, _, _, _, _, _, _, _, e, _ => by simp [tgsD] at e
  | _ :: _, [], _, _, _, _, _, _, _, _, _, _, _, e, _ => by simp [tgsD] at e
  | t :: ts, d :: ds, σ, δ, δ', F, vs, Fv, Q, S, ⟨v, vr, F1, F2, e1, l1, l2, dj0, r, rs⟩, o, dj, e, q => by
    simp only [tgsD] at e
    cases h : tgD t d δ with
    | none => rw [h] at e; cases e
    | some δ1 =>
      rw [h] at e
      refine ⟨v, vr, e1, tg_run S r (fun a z => o a (l1 a z)) (dj.le l1 (Le.refl _)) h fun σ1 F' S1 ag le => ?_⟩
      refine tgs_run S1 rs (fun a z => o a (l2 a z)) (fun a x y => ?_) e fun σ2 F2' S2 ag2 le2 => q σ2 F2' S2 (ag.trans ag2) fun a z => ?_
      · rcases le a y with y | y
        · exact dj a (l2 a x) y
        · exact dj0 a y x
      · rcases le2 a z with z | z
        · rcases le a z with z | z
          · exact .inl z
          · exact .inr (l1 a z)
        · exact .inr (l2 a z)
end
end
section
variable {X : Cx} {g : Cfg} {W : WX}
inductive SGs (X : Cx) (g : Cfg) : List Expr → List Tg → Prop
  | nil : SGs X g [] []
  | cons {e : Expr} {es : List Expr} {t : Tg} {ts : List Tg} : PG X e (tgG g.K t) → SGs X g es ts → (assignEach (e :: es) X.env).map (·.2) = assign e X.env :: (assignEach es X.env).map (·.2) → SGs X g (e :: es) (t :: ts)
theorem SGs.pgs {es : List Expr} {ts : List Tg} (h : SGs X g es ts) : PGs X es (tgGs g.K ts) := by
  induction h with
  | nil => exact pgs_nil
  | cons h _ hs ih => exact pgs_cons h ih hs
abbrev SG (X : Cx) (g : Cfg) (e : Expr) (t : Tg) : Prop := PG X e (tgG g.K t)
theorem sg_name {i : Nat} {x : Str} {pos : Pos} (hN : X.N.Nodup) (hi : X.N[i]? = some x) (hx : Loc X.env.scope x) (hf : X.fn x = true ∨ X.env.scope.names.lookup x = some .local := by first | exact .inl rfl | exact .inr rfl | assumption) : SG X g (.Name x pos) (.nm i) := pg_name hN hi hx hf
theorem sg_tup {es : List Expr} {ts : List Tg} {k : Nat} {pos : Pos} (hK : X.K = g.K) (hc : X.calm = true) (h : SGs X g es ts) (hn : (assignEach es X.env).length = ts.length := by rfl) (hst : (assignEach es X.env).findIdx? (·.1) = none := by rfl) :
    SG X g (.Tuple es k pos) (.tp ts) := by
  have := pg_tup (k := k) (pos := pos) hc h.pgs hn hst
  rw [hK] at this
  exact this
theorem sgs_nil : SGs X g [] [] := .nil
theorem sgs_cons {e : Expr} {es : List Expr} {t : Tg} {ts : List Tg} (h : SG X g e t) (hr : SGs X g es ts) (hs : (assignEach (e :: es) X.env).map (·.2) = assign e X.env :: (assignEach es X.env).map (·.2) := by rfl) : SGs X g (e :: es) (t :: ts) := .cons h hr hs
def sAsg (t : Tg) (f : Ev) : Sv := fun δ => (f δ).thn fun d δ1 => match tgD t d δ1 with
  | some δ2 => .nx δ2
  | none => .bad
theorem ss_asg {tg e : Expr} {t : Tg} {u : Ev} {pos : Pos} (he : SE X g W e u) (hg : SG X g tg t) (hs : swapsWithSole [tg] e pos.line X.env = pure false := by rfl) (hw : swappedStores [tg] e X.env = pure none := by rfl)
    (h1 : (assignEach [tg] X.env).map (·.2) = [assign tg X.env] := by rfl) : SS X g W (tgA t) (.Assign [tg] e pos) (sAsg t u) := PS.imp (ps_asg he hg hs hw h1) fun D σ H ⟨G, δ, F, S, P⟩ =>
  tE_of S (PostG.mono (PostS.bind P) fun d δ1 H1 G1 F1 S1 P1 v Fv r o dj E => by
    cases e : tgD t d δ1 with
    | none => simp only [e] at P1; exact False.elim P1
    | some δ2 =>
      simp only [e] at P1
      exact tg_run S1 r o dj e fun σ' F' S' ag le => P1 σ' H1 G1 F' S' ag (E.weak (Le.refl _) le))
/-- a, b = x, y -/
def sPar (i j : Nat) (u v : Ev) : Sv := fun δ => (evL [u, v] δ).thn fun ds δ1 => match ds with
  | [d, e] => .nx (st (st δ1 i (some d)) j (some e))
  | _ => .bad
theorem ss_par {i j : Nat} {x y : Str} {a b : Expr} {u v : Ev} {px py pt pos : Pos} {kt k2 pt2} (hc : X.calm = true) (hN : X.N.Nodup) (hi : X.N[i]? = some x) (hj : X.N[j]? = some y) (hij : i ≠ j)
    (hx : X.env.scope.names.lookup x = some .local) (hy : X.env.scope.names.lookup y = some .local) (ha : SEs X g W [a, b] [u, v])
    (hw : swappedStores [.Tuple [.Name x px, .Name y py] kt pt] (.Tuple [a, b] k2 pt2) X.env = pure (some [x, y]))
    (hs : swapsWithSole [.Tuple [.Name x px, .Name y py] kt pt] (.Tuple [a, b] k2 pt2) pos.line X.env = pure false := by rfl) :
    SS X g W (aOr (a1 i) (a1 j)) (.Assign [.Tuple [.Name x px, .Name y py] kt pt] (.Tuple [a, b] k2 pt2) pos) (sPar i j u v) := PS.imp (ps_par hc hN hi hj hij hx hy ha.pa hw hs) fun D σ H ⟨G, δ, F, S, P⟩ =>
  evs_run S (PostG.mono (PostS.bind P) fun ds δ1 H1 G1 F1 S1 P1 vs Fv rs ok dj E => by
    match ds, rs, P1 with
    | [d, e], ⟨v, vr, A, B, e1, l1, l2, dj0, r, ⟨w, vr2, C, C2, e2, l3, l4, dj1, r2, e3⟩⟩, P1 =>
      subst e1 e2 e3
      refine ⟨v, w, rfl, ?_⟩
      have S2 := S1.set (i := i) r (fun a z => ok a (l1 a z)) (dj.le l1 (Le.refl _))
      have lC : Le C Fv := l3.trans l2
      have dj2 : Dj C (U (Fst F1 i A)) := fun a x y => by
        rcases U_Fst a y with y | y
        · exact dj a (lC a x) y
        · exact dj0 a y (l3 a x)
      have S3 := S2.set (i := j) r2 (fun a z => ok a (lC a z)) dj2
      refine P1 _ H1 G1 _ S3 (Ag.set.trans Ag.set) (E.weak (Le.refl _) fun a z => ?_)
      rcases U_Fst a z with z | z
      · rcases U_Fst a z with z | z
        · exact .inl z
        · exact .inr (l1 a z)
      · exact .inr (lC a z)
    | [], _, P1 => exact False.elim P1
    | [_], _, P1 => exact False.elim P1
    | _ :: _ :: _ :: _, _, P1 => exact False.elim P1)
end
end DV

namespace DV
open PySem L2
/-! ### for -/
/-- a walk that gives ds, one by one, whatever becomes of what U' has -/
structure Wk (g : Cfg) (G' : Fp) (H' : Hp) (U' : Fp) (ds : List D) (J : It) : Prop where
  go : ∀ H2 : Hp, (∀ a o, H' a = some o → ¬ U' a → H2 a = some o) → ∀ i, i < ds.length → J.go i H2
  stop : ∀ H2 : Hp, (∀ a o, H' a = some o → ¬ U' a → H2 a = some o) → J.stop ds.length H2
  yld : ∀ (H2 : Hp) (G2 : Fp), (∀ a o, H' a = some o → ¬ U' a → H2 a = some o) → Le G' G2 → ∀ i x H3, i < ds.length → J.yld i H2 x H3 → Same H2 H3 ∧ ∃ d, ds[i]? = some d ∧ Rep g G2 H3 d x Fe
abbrev Src := Env → R (List D)
/-- slots hidden meanwhile -/
def outL : List Nat → Env → Env
  | [], δ => δ
  | i :: hs, δ => outL hs (st δ i none)
def outF : List Nat → (Nat → Fp) → (Nat → Fp)
  | [], F => F
  | i :: hs, F => outF hs (Fst F i Fe)
/-- .. and put back -/
def putL : List Nat → Env → Env → Env
  | [], _, δ => δ
  | i :: hs, δ0, δ => match gt δ0 i with
    | some d => st (putL hs (st δ0 i none) δ) i (some d)
    | none => putL hs (st δ0 i none) δ
def RS.map (f : Env → Env) : RS → RS
  | .nx δ => .nx (f δ)
  | .rt d δ => .rt d (f δ)
  | .bk δ => .bk (f δ)
  | .ct δ => .ct (f δ)
  | .ex x δ => .ex x (f δ)
  | .bad => .bad
def R.map {α : Type} (f : Env → Env) : R α → R α
  | .ok a δ => .ok a (f δ)
  | .ex x δ => .ex x (f δ)
  | .bad => .bad
section
variable {g : Cfg} {W : WX} {a : As} {G G' G1 G2 : Fp} {H H' H1 H2 : Hp} {σ σ1 σ' : St} {δ δ' δ1 : Env} {F F' F1 : Nat → Fp}
theorem outL_run : ∀ {hs : List Nat} {δ : Env} {F : Nat → Fp}, StR g G H σ δ F → StR g G H σ (outL hs δ) (outF hs F)
  | [], _, _, S => S
  | i :: hs, δ, F, S => by
    show StR g G H σ (outL hs (st δ i none)) (outF hs (Fst F i Fe))
    exact outL_run (hs := hs) (S.out i)
theorem outF_le : ∀ {hs : List Nat} {F : Nat → Fp} {j : Nat}, Le (outF hs F j) (F j)
  | [], _, _ => Le.refl _
  | i :: hs, F, j => Le.trans (outF_le (hs := hs)) fun a h => by
    by_cases e : j = i
    · subst e; rw [Fst_same] at h; exact h.elim
    · rw [Fst_ne e] at h; exact h
theorem outF_U {hs : List Nat} {F : Nat → Fp} : Le (U (outF hs F)) (U F) := fun a ⟨j, h⟩ => ⟨j, outF_le a h⟩
def hidF (hs : List Nat) (F : Nat → Fp) : Fp := fun a => ∃ i, i ∈ hs ∧ F i a
theorem outF_at : ∀ {hs : List Nat} {F : Nat → Fp} {j : Nat}, j ∈ hs → Le (outF hs F j) Fe
  | i :: hs, F, j, h => fun a z => by
    rcases List.mem_cons.mp h with e | h
    · subst e
      have := outF_le (hs := hs) a z
      rw [Fst_same] at this; exact this
    · exact outF_at (hs := hs) h a z
theorem hid_dj (S : StR g G H σ δ F) {hs : List Nat} : Dj (hidF hs F) (U (outF hs F)) := fun a ⟨i, hi, x⟩ ⟨j, y⟩ => by
  by_cases e : j = i
  · subst e; exact outF_at hi a y
  · exact S.dj i j (Ne.symm e) a x (outF_le a y)
theorem hid_ok (S : StR g G H σ δ F) {hs : List Nat} : Ok G H (hidF hs F) := fun a ⟨i, _, x⟩ => S.ok i a x
theorem putL_run : ∀ {hs : List Nat} {δ1 : Env} {F1 : Nat → Fp}, StR g G1 H1 σ δ1 F1 → StR g G' H' σ' δ' F' → Ext G1 H1 (U (outF hs F1)) G' H' (U F') → (∀ i, i ∈ hs → σ'[i]? = σ[i]?) →
    ∃ F2, StR g G' H' σ' (putL hs δ1 δ') F2 ∧ Le (U F2) (Un2 (U F') (hidF hs F1))
  | [], δ1, F1, S1, S', E, ag => ⟨F', S', Le.inl⟩
  | i :: hs, δ1, F1, S1, S', E, ag => by
    obtain ⟨F2, S2, le2⟩ := putL_run (hs := hs) (S1.out i) S' E fun j hj => ag j (List.mem_cons_of_mem _ hj)
    have le3 : Le (U F2) (Un2 (U F') (hidF (i :: hs) F1)) := fun a h => by
      rcases le2 a h with h | ⟨j, hj, h⟩
      · exact .inl h
      · by_cases e : j = i
        · subst e; rw [Fst_same] at h; exact h.elim
        · rw [Fst_ne e] at h; exact .inr ⟨j, List.mem_cons_of_mem _ hj, h⟩
    unfold putL
    cases e : gt δ1 i with
    | none => exact ⟨F2, S2, le3⟩
    | some d =>
      obtain ⟨v, ev, r⟩ := S1.at_ i d e
      have djo : Dj (F1 i) (U (outF (i :: hs) F1)) := (hid_dj S1 (hs := i :: hs)).le (fun a h => ⟨i, List.mem_cons_self, h⟩) (Le.refl _)
      have r' : Rep g G' H' d v (F1 i) := E.rep (outL_run (hs := i :: hs) S1).okU r djo
      have o' : Ok G' H' (F1 i) := E.ok (S1.ok i) djo
      have d' : Dj (F1 i) (U F2) := fun a x y => by
        rcases le2 a y with y | ⟨j, hj, y⟩
        · exact E.dj (S1.ok i) djo a x y
        · exact out_dj S1 i a x ⟨j, y⟩
      refine ⟨_, S2.re r' o' d' (by rw [ag i List.mem_cons_self]; exact ev), fun a h => ?_⟩
      rcases U_Fst a h with h | h
      · exact le3 a h
      · exact .inr ⟨i, List.mem_cons_self, h⟩
theorem ext_put {hs : List Nat} {V1 V2 : Fp} (E : Ext G H (U F) G1 H1 (U F1)) (E' : Ext G1 H1 (U (outF hs F1)) G' H' V1) (le : Le V2 (Un2 V1 (hidF hs F1))) : Ext G H (U F) G' H' V2 := by
  have E2 : Ext G1 H1 (U F1) G' H' (Un2 V1 (hidF hs F1)) := (E'.frame (Fh := hidF hs F1)).weak (fun a h => h.elim (fun h => outF_U a h) fun ⟨i, _, h⟩ => ⟨i, h⟩) (Le.refl _)
  exact E.trans (E2.weak (Le.refl _) le) (Le.refl _)
theorem map_run {hs : List Nat} {r : RS} {D : Ends} (S1 : StR g G1 H1 σ δ1 F1) (E : Ext G H (U F) G1 H1 (U F1)) (ha : ∀ i, i ∈ hs → a i = false) (P : PostS g W a G H F σ (r.map (putL hs δ1)) D) : PostS g W a G1 H1 (outF hs F1) σ r D := by
  cases r with
  | nx δ' =>
    intro σ' H' G' F' S' ag' E'
    obtain ⟨F2, S2, le⟩ := putL_run (hs := hs) S1 S' E' fun i hi => ag'.2 i (ha i hi)
    exact P σ' H' G' F2 S2 ag' (ext_put E E' le)
  | bk δ' =>
    intro σ' H' G' F' S' ag' E'
    obtain ⟨F2, S2, le⟩ := putL_run (hs := hs) S1 S' E' fun i hi => ag'.2 i (ha i hi)
    exact P σ' H' G' F2 S2 ag' (ext_put E E' le)
  | ct δ' =>
    intro σ' H' G' F' S' ag' E'
    obtain ⟨F2, S2, le⟩ := putL_run (hs := hs) S1 S' E' fun i hi => ag'.2 i (ha i hi)
    exact P σ' H' G' F2 S2 ag' (ext_put E E' le)
  | rt d δ' =>
    intro v σ' H' G' F' Fv S' ag' r o dj E'
    obtain ⟨F2, S2, le⟩ := putL_run (hs := hs) S1 S' (E'.weak (Le.refl _) Le.inl) fun i hi => ag'.2 i (ha i hi)
    refine P v σ' H' G' F2 Fv S2 ag' r o (fun a x y => ?_) (ext_put E E' fun a h => ?_)
    · rcases le a y with y | y
      · exact dj a x y
      · exact E'.dj (hid_ok S1) (hid_dj S1) a y (.inr x)
    · rcases h with h | h
      · rcases le a h with h | h
        · exact .inl (.inl h)
        · exact .inr h
      · exact .inl (.inr h)
  | ex x δ' =>
    intro cls dd σ' H' G' F' S' ag' xr E'
    obtain ⟨F2, S2, le⟩ := putL_run (hs := hs) S1 S' E' fun i hi => ag'.2 i (ha i hi)
    exact P cls dd σ' H' G' F2 S2 ag' xr (ext_put E E' le)
  | bad => exact P
end
def tI (g : Cfg) (W : WX) (hs : List Nat) (src : Src) : TI := fun σ H M => ∃ G δ F, StR g G H σ δ F ∧ PostG g W G H F σ (src δ) fun ds δ' H' G' F' => ∀ J Fv, Ok G' H' Fv → Dj Fv (U F') → Ext G H (U F) G' H' (Un2 (U F') Fv) → Wk g G' H' (U (outF hs F')) ds J → M J H'
abbrev SI (X : Cx) (g : Cfg) (W : WX) (hs : List Nat) (tg e : Expr) (src : Src) : Prop := PI X tg e (tI g W hs src)
def forL (t : Tg) (body : Sv) : List D → Env → RS
  | [], δ => .nx δ
  | d :: ds, δ => match tgD t d δ with
    | none => .bad
    | some δ1 => match body δ1 with
      | .nx δ2 => forL t body ds δ2
      | .ct δ2 => forL t body ds δ2
      | .bk δ2 => .nx δ2
      | .rt d δ2 => .rt d δ2
      | .ex x δ2 => .ex x δ2
      | .bad => .bad
def sFor (hs : List Nat) (src : Src) (t : Tg) (body : Sv) : Sv := fun δ => (src δ).thn fun ds δ1 => (forL t body ds (outL hs δ1)).map (putL hs δ1)
section
variable {g : Cfg} {W : WX} {a b : As} {G G' G1 G2 : Fp} {H H' H1 H2 : Hp} {σ σ1 : St} {δ δ' : Env} {F F' F1 : Nat → Fp} {D : Ends}
theorem drop_get {α : Type} {ds : List α} {i : Nat} (h : i < ds.length) : ds.drop i = ds[i] :: ds.drop (i + 1) := List.drop_eq_getElem_cons h
theorem for_run {hs : List Nat} {src : Src} {t : Tg} {body : Sv} (ha : ∀ i, i ∈ hs → aOr (tgA t) a i = false) (S : StR g G H σ δ F) (P : PostS g W (aOr (tgA t) a) G H F σ (sFor hs src t body δ) D) : tFor (tI g W hs src) (tgG g.K t) (tS g W a body) D σ H := by
  refine ⟨G, δ, F, S, PostG.mono (PostS.bind P) fun ds δ1' H1 G1 F1' S1' P1 J Fv ok dj E wk => ?_⟩
  have P1 := map_run S1' (E.weak (Le.refl _) (Le.inl (A := U F1'))) ha P1
  have S1 := outL_run (hs := hs) S1'
  revert P1 S1 wk
  generalize outL hs δ1' = δ1
  generalize outF hs F1' = F1
  intro wk P1 S1
  refine ⟨fun i m σ' H' => m = ds.length - i ∧ i ≤ ds.length ∧ ∃ G' δ' F', StR g G' H' σ' δ' F' ∧ Ag (aOr (tgA t) a) σ σ' ∧ Ext G1 H1 (U F1) G' H' (U F') ∧ PostS g W (aOr (tgA t) a) G1 H1 F1 σ (forL t body (ds.drop i) δ') D,
    ⟨ds.length, rfl, Nat.zero_le _, G1, δ1, F1, S1, .refl, .refl (Le.refl _), P1⟩, ?_⟩
  rintro i m σ2 H2 ⟨rfl, hi, G2, δ2, F2, S2, ag2, E2, P2⟩
  by_cases hlt : i < ds.length
  · refine .inr ⟨wk.go H2 E2.keep i hlt, fun σ' H' => ∃ G' δ' F', StR g G' H' σ' δ' F' ∧ Ag (aOr (tgA t) a) σ σ' ∧ Ext G1 H1 (U F1) G' H' (U F') ∧ PostS g W (aOr (tgA t) a) G1 H1 F1 σ (forL t body (ds.drop (i + 1)) δ') D,
      fun σ' H' h => ⟨ds.length - (i + 1), by omega, rfl, hlt, h⟩, fun x H3 y => ?_⟩
    obtain ⟨same, d, ed, rd⟩ := wk.yld H2 G2 E2.keep E2.gm i x H3 hlt y
    have ed' : ds[i] = d := by rw [List.getElem?_eq_getElem hlt] at ed; exact Option.some.inj ed
    rw [drop_get hlt, ed'] at P2
    unfold forL at P2
    cases e : tgD t d δ2 with
    | none => simp only [e] at P2; exact False.elim P2
    | some δ3 =>
      simp only [e] at P2
      have S3 := S2.same same
      have E3 : Ext G1 H1 (U F1) G2 H3 (U F2) := E2.trans (.new (U1 := U F2) (Fv := Fe) same (Le.refl _) fun _ z => z.elim) (Le.refl _) |>.weak (Le.refl _) Le.inl
      refine tg_run S3 rd (fun _ z => z.elim) (fun _ z => z.elim) e fun σ4 F4 S4 ag4 le4 => ?_
      have E4 : Ext G1 H1 (U F1) G2 H3 (U F4) := E3.weak (Le.refl _) fun a h => (le4 a h).elim id fun z => z.elim
      have ag5 := ag2.tr (ag4.l (b := a))
      refine tS_of S4 ?_
      cases eb : body δ3 with
      | nx δ5 =>
        simp only [eb] at P2
        exact fun σ6 H6 G6 F6 S6 ag6 E6 => ⟨G6, δ5, F6, S6, ag5.tr ag6.r, E4.trans E6 (Le.refl _), P2⟩
      | ct δ5 =>
        simp only [eb] at P2
        exact fun σ6 H6 G6 F6 S6 ag6 E6 => ⟨G6, δ5, F6, S6, ag5.tr ag6.r, E4.trans E6 (Le.refl _), P2⟩
      | bk δ5 =>
        simp only [eb] at P2
        exact fun σ6 H6 G6 F6 S6 ag6 E6 => P2 σ6 H6 G6 F6 S6 (ag5.tr ag6.r) (E4.trans E6 (Le.refl _))
      | rt d5 δ5 =>
        simp only [eb] at P2
        exact fun v σ6 H6 G6 F6 Fv6 S6 ag6 r6 o6 dj6 E6 => P2 v σ6 H6 G6 F6 Fv6 S6 (ag5.tr ag6.r) r6 o6 dj6 (E4.trans E6 (Le.refl _))
      | ex x5 δ5 =>
        simp only [eb] at P2
        exact fun cls dd σ6 H6 G6 F6 S6 ag6 xr6 E6 => P2 cls dd σ6 H6 G6 F6 S6 (ag5.tr ag6.r) xr6 (E4.trans E6 (Le.refl _))
      | bad => simp only [eb] at P2; exact P2
  · have e : i = ds.length := by omega
    subst e
    rw [List.drop_length] at P2
    exact .inl ⟨wk.stop H2 E2.keep, P2 σ2 H2 G2 F2 S2 ag2 E2⟩
end
section
variable {X : Cx} {g : Cfg} {W : WX} {a : As}
theorem ss_for {hs : List Nat} {tg iter : Expr} {body : List Stmt} {src : Src} {t : Tg} {f : Sv} {pos : Pos} (hp : PassesOwn (model X.prog X.w) X.A X.env X.xe) (hc : X.calm = true) (hi : SI X g W hs tg iter src) (hg : SG X g tg t) (hb : SSs X g W a body f) (ha : ∀ i, i ∈ hs → aOr (tgA t) a i = false)
    (hz : ∀ x, foldedSetIterable iter X.env x = pure x := by intro _; rfl) : SS X g W (aOr (tgA t) a) (.For tg iter body [] pos) (sFor hs src t f) := PS.imp (ps_for hp hc hi hg hb hz) fun D σ H ⟨G, δ, F, S, P⟩ => for_run ha S P
end
/-! ### sources -/
/-- items that can be walked while they are looked at -/
def isLst : D → Option (List D)
  | .lst _ ds => if cleans ds = true then some ds else none
  | _ => none
def isTup : D → Option (List D)
  | .tup ds => if cleans ds = true then some ds else none
  | _ => none
/-- items of operands that stay hidden while they are walked -/
def iWk (k : List D → Option (List D)) (os : List Od) : Src := fun δ => (evOds os δ).bind fun xs δ1 => match resL δ1 xs with
  | some ds => match k ds with
    | some es => .ok es δ1
    | none => .bad
  | none => .bad
def kL : List D → Option (List D)
  | [d] => isLst d
  | _ => none
def kT : List D → Option (List D)
  | [d] => isTup d
  | _ => none
def iS (f : Ev) : Src := fun δ => (f δ).bind fun d δ1 => match d with
  | .str z => .ok (z.cps.toList.map fun c => .str ⟨#[c]⟩) δ1
  | _ => .bad
def intsD (lo : Int) (n : Nat) : List D := (List.range n).map fun j : Nat => D.int (lo + (j : Int))
def kR1 : List D → Option (List D)
  | [.int j] => if -(2 ^ 62) ≤ j ∧ j < 2 ^ 62 then some (intsD 0 j.toNat) else none
  | _ => none
def kR2 : List D → Option (List D)
  | [.int i, .int j] => if -(2 ^ 62) ≤ i ∧ i < 2 ^ 62 ∧ -(2 ^ 62) ≤ j ∧ j < 2 ^ 62 then some (intsD i (j - i).toNat) else none
  | _ => none
def enumD : Nat → List D → List D
  | _, [] => []
  | n, d :: ds => .tup [.int n, d] :: enumD (n + 1) ds
def zipD : List D → List D → List D
  | d :: ds, e :: es => .tup [d, e] :: zipD ds es
  | _, _ => []
section
variable {g : Cfg} {G : Fp} {H : Hp}
theorem Reps.get : ∀ {ds : List D} {vs : List V} {A : Fp} {i : Nat} {v : V}, Reps g G H ds vs A → vs[i]? = some v → ∃ d, ds[i]? = some d ∧ ∃ B, Le B A ∧ Rep g G H d v B
  | [], _, _, i, v, h, e => by rw [h] at e; simp at e
  | d :: ds, _, A, 0, v, ⟨w, vr, F1, F2, e1, l1, l2, dj, r, rs⟩, e => by
    subst e1
    simp at e
    subst e
    exact ⟨d, rfl, F1, l1, r⟩
  | d :: ds, _, A, i + 1, v, ⟨w, vr, F1, F2, e1, l1, l2, dj, r, rs⟩, e => by
    subst e1
    obtain ⟨d', h1, B, l, r'⟩ := Reps.get (i := i) rs (by simpa using e)
    exact ⟨d', by simpa using h1, B, l.trans l2, r'⟩
theorem Rep.lst_sq {o : Bool} {ds : List D} {v : V} {A : Fp} (r : Rep g G H (.lst o ds) v A) : ∃ p vs, v = .ref p ∧ SqL g.K H p vs ∧ Reps g G H ds vs A := by
  obtain ⟨p, vs, F', e, q, n, rs⟩ := r
  refine ⟨p, vs, e, ?_, rs.le fun b hb => (n b hb).1⟩
  cases o with
  | true => exact .inl (.inl q.1)
  | false => exact q.1.sq
theorem enumD_get : ∀ {ds : List D} {n i : Nat} {d : D}, ds[i]? = some d → (enumD n ds)[i]? = some (.tup [.int ((n + i : Nat) : Int), d])
  | [], _, _, _, h => by simp at h
  | d :: ds, n, 0, d', h => by simp at h; subst h; rfl
  | d :: ds, n, i + 1, d', h => by
    have := enumD_get (ds := ds) (n := n + 1) (i := i) (d := d') (by simpa using h)
    simp only [enumD, List.getElem?_cons_succ]
    rw [this]
    congr 5
    omega
theorem enumD_length : ∀ {ds : List D} {n : Nat}, (enumD n ds).length = ds.length
  | [], _ => rfl
  | _ :: ds, n => by simp only [enumD, List.length_cons, enumD_length (ds := ds)]
theorem zipD_get : ∀ {ds es : List D} {i : Nat} {d e : D}, ds[i]? = some d → es[i]? = some e → (zipD ds es)[i]? = some (.tup [d, e])
  | [], _, _, _, _, h, _ => by simp at h
  | _ :: _, [], _, _, _, _, h => by simp at h
  | d :: ds, e :: es, 0, _, _, h, h' => by simp at h h'; subst h h'; rfl
  | d :: ds, e :: es, i + 1, _, _, h, h' => by simpa [zipD] using zipD_get (by simpa using h) (by simpa using h')
theorem zipD_length : ∀ {ds es : List D}, (zipD ds es).length = min ds.length es.length
  | [], _ => by simp [zipD]
  | _ :: _, [] => by simp [zipD]
  | _ :: ds, _ :: es => by simp only [zipD, List.length_cons, zipD_length (ds := ds)]; omega
theorem Rep.lst_walk {v : V} {o : Bool} {ds : List D} {A U0 : Fp} (r : Rep g G H (.lst o ds) v A) (ok : Ok G H U0) (dj : Dj A U0) :
    ∃ p vs, v = .ref p ∧ Reps g G H ds vs A ∧ ∀ H2 : Hp, (∀ a o, H a = some o → ¬ U0 a → H2 a = some o) → SqL g.K H2 p vs := by
  obtain ⟨p, vs, F', e, q, n, rs⟩ := r
  refine ⟨p, vs, e, rs.le fun b hb => (n b hb).1, fun H2 k => ?_⟩
  cases o with
  | true => exact .inl (.inl (k _ _ q.1 (dj p q.2)))
  | false => exact (shL_keep (G' := G) q.1 k ok (Le.refl _)).sq
theorem Rep.tup_walk {v : V} {ds : List D} {A U0 : Fp} (r : Rep g G H (.tup ds) v A) (ok : Ok G H U0) :
    ∃ p vs, v = .ref p ∧ Reps g G H ds vs A ∧ ∀ H2 : Hp, (∀ a o, H a = some o → ¬ U0 a → H2 a = some o) → SqT g.K H2 p vs := by
  obtain ⟨p, vs, e, q, rs⟩ := r
  exact ⟨p, vs, e, rs, fun H2 k => sqT_keep q k ok⟩
end
section
variable {X : Cx} {g : Cfg} {W : WX} {tg : Expr}
theorem cleans_get : ∀ {ds : List D} {i : Nat} {d : D}, cleans ds = true → ds[i]? = some d → clean d = true
  | [], _, _, _, h => by simp at h
  | d :: ds, 0, _, c, h => by
    simp only [cleans, Bool.and_eq_true] at c
    simp at h
    subst h
    exact c.1
  | d :: ds, i + 1, _, c, h => by
    simp only [cleans, Bool.and_eq_true] at c
    exact cleans_get c.2 (by simpa using h)
/-- operands that stand while hs is hidden: names of hs, and what was made -/
def OdH (hs : List Nat) : Od → Prop
  | .val _ => True
  | .var i => i ∈ hs
/-- a thing that stands for ever, as far as U0 goes -/
def Stn (g : Cfg) (G : Fp) (H : Hp) (U0 : Fp) : List D → List V → Prop
  | [], vs => vs = []
  | d :: ds, vs => ∃ v vr A, vs = v :: vr ∧ Rep g G H d v A ∧ Dj A U0 ∧ Stn g G H U0 ds vr
theorem stn_of {G : Fp} {H : Hp} {σ : St} {hs : List Nat} {F : Nat → Fp} : ∀ {os : List Od} {δ0 δ : Env} {xs : List OV} {vs : List V} {ds : List D} {A : Fp}, StR g G H σ δ F → (∀ o, o ∈ os → OdH hs o) → evOds os δ0 = .ok xs δ → RepOs g G H σ xs vs A → Dj A (U F) → resL δ xs = some ds →
    Stn g G H (U (outF hs F)) ds vs
  | [], δ0, δ, xs, vs, ds, A, S, hh, ev, r, dj, e => by
    simp only [evOds, R.ok.injEq] at ev
    obtain ⟨rfl, rfl⟩ := ev
    cases e
    exact r
  | o :: os, δ0, δ, xs, vs, ds, A, S, hh, ev, r, dj, e => by
    simp only [evOds] at ev
    cases h1 : evOd o δ0 with
    | bad => rw [h1] at ev; cases ev
    | ex x y => rw [h1] at ev; cases ev
    | ok x δ1 =>
      rw [h1] at ev
      simp only [R.bind_ok] at ev
      cases h2 : evOds os δ1 with
      | bad => rw [h2] at ev; cases ev
      | ex x y => rw [h2] at ev; cases ev
      | ok ys δ2 =>
        rw [h2] at ev
        simp only [R.bind_ok, R.ok.injEq] at ev
        obtain ⟨rfl, rfl⟩ := ev
        have hh2 : ∀ o, o ∈ os → OdH hs o := fun o ho => hh o (List.mem_cons_of_mem _ ho)
        cases x with
        | tmp d =>
          obtain ⟨v, vr, A1, A2, e1, l1, l2, dj0, r1, rs⟩ := r
          unfold resL at e
          cases h3 : resL δ2 ys with
          | none => rw [h3] at e; simp [resO] at e
          | some es =>
            rw [h3] at e
            simp only [resO, Option.some.injEq] at e
            subst e
            exact ⟨v, vr, A1, e1, r1, dj.le l1 outF_U, stn_of S hh2 h2 rs (dj.le l2 (Le.refl _)) h3⟩
        | late i =>
          obtain ⟨v, vr, e1, hv, rs⟩ := r
          have hi : i ∈ hs := by
            cases o with
            | val f =>
              simp only [evOd] at h1
              cases h4 : f δ0 with
              | bad => rw [h4] at h1; cases h1
              | ex x y => rw [h4] at h1; cases h1
              | ok d δ5 => rw [h4] at h1; simp at h1
            | var k =>
              simp only [evOd] at h1
              split at h1
              · simp only [R.ok.injEq, OV.late.injEq] at h1
                rw [← h1.1]
                exact hh (.var k) List.mem_cons_self
              · cases h1
          unfold resL at e
          cases h3 : resL δ2 ys with
          | none => rw [h3] at e; cases h' : resO δ2 (.late i) <;> rw [h'] at e <;> cases e
          | some es =>
            cases h' : gt δ2 i with
            | none => rw [h3, show resO δ2 (.late i) = none from h'] at e; cases e
            | some d =>
              rw [h3, show resO δ2 (.late i) = some d from h'] at e
              simp only [Option.some.injEq] at e
              subst e
              obtain ⟨v', ev', r'⟩ := S.at_ i d h'
              rw [hv] at ev'
              cases ev'
              exact ⟨v, vr, F i, e1, r', (hid_dj S (hs := hs)).le (fun a h => ⟨i, hi, h⟩) (Le.refl _), stn_of S hh2 h2 rs dj h3⟩
theorem wk_run {G : Fp} {H : Hp} {σ : St} {δ : Env} {F : Nat → Fp} {hs : List Nat} {k : List D → Option (List D)} {r : List V → Hp → (It → Hp → Prop) → Prop} {os : List Od} {M : It → Hp → Prop} (hh : ∀ o, o ∈ os → OdH hs o)
    (hk : ∀ G H U0 ds vs es (M : It → Hp → Prop), Ok G H U0 → Stn g G H U0 ds vs → k ds = some es → (∀ J, Wk g G H U0 es J → M J H) → r vs H M) (S : StR g G H σ δ F)
    (P : PostG g W G H F σ (iWk k os δ) fun ds δ' H' G' F' => ∀ J Fv, Ok G' H' Fv → Dj Fv (U F') → Ext G H (U F) G' H' (Un2 (U F') Fv) → Wk g G' H' (U (outF hs F')) ds J → M J H') : tOs g W os σ H fun vs H1 => r vs H1 M := by
  cases e0 : evOds os δ with
  | bad => simp only [iWk, e0] at P; exact False.elim P
  | ex x y => simp only [iWk, e0] at P; exact ods_run S (by rw [e0]; exact P)
  | ok xs δ1 =>
    simp only [iWk, e0] at P
    refine ods_run S ?_
    rw [e0]
    intro H1 G1 F1 S1 vs Fv rs ok dj E1
    cases e : resL δ1 xs with
    | none => simp only [R.bind_ok, e] at P; exact False.elim P
    | some ds =>
      cases e2 : k ds with
      | none => simp only [R.bind_ok, e, e2] at P; exact False.elim P
      | some es =>
        simp only [R.bind_ok, e, e2] at P
        exact hk G1 H1 (U (outF hs F1)) ds vs es M (outL_run (hs := hs) S1).okU (stn_of S1 hh e0 rs dj e) e2 fun J wk => P H1 G1 F1 S1 J Fv ok dj E1 wk
theorem so_one {e : Expr} {o : Od} (h : SO X g W e o) {M : List V → Hp → Prop} {σ : St} {H : Hp} (q : tOs g W [o] σ H M) : tO g W o σ H fun v H1 => M [v] H1 := q
theorem si_list {hs : List Nat} {e : Expr} {o : Od} (hK : X.K = g.K) (h : SO X g W e o) (hh : OdH hs o) : SI X g W hs tg e (iWk kL [o]) := by
  have := pi_list (tg := tg) h
  refine ⟨fun pins s σ H M I ⟨G, δ, F, S, P⟩ => this.run pins s σ H M I ?_⟩
  refine so_one h (wk_run (r := fun vs H1 R => match vs with | [x] => ∃ a, x = .ref a ∧ (∃ xs, SqL X.K H1 a xs) ∧ R (Itl X.K a) H1 | _ => False) (fun o' ho => by cases List.mem_singleton.mp ho; exact hh) (fun G H U0 ds vs es M ok st e q => ?_) S P)
  match ds, e, st with
  | [d], e, ⟨v, vr, A, ev, r, dj, evr⟩ =>
    cases (show vr = [] from evr)
    subst ev
    simp only [kL] at e
    cases d with
    | lst b ds =>
      simp only [isLst] at e
      split at e
      · rename_i c
        cases e
        obtain ⟨p, vs, rfl, rs, wk⟩ := r.lst_walk ok dj
        rw [hK]
        refine ⟨p, rfl, ⟨vs, wk H fun _ _ h _ => h⟩, q _ ⟨fun H2 k i hi => ⟨vs, vs[i]'(by rw [rs.length]; exact hi), wk H2 k, by simp⟩, fun H2 k => ⟨vs, wk H2 k, by rw [rs.length]; exact Nat.le_refl _⟩, fun H2 G2 k gm i x H3 hi y => ?_⟩⟩
        obtain ⟨rfl, y2⟩ := y
        obtain ⟨d, ed, B, l, rd⟩ := ((rs.keep k ok gm dj).clean c).get (y2 vs (wk _ k))
        exact ⟨Same.refl _, d, ed, rd.le l⟩
      · cases e
    | _ => cases e
theorem si_tup {hs : List Nat} {e : Expr} {o : Od} (hK : X.K = g.K) (h : SO X g W e o) (hh : OdH hs o) : SI X g W hs tg e (iWk kT [o]) := by
  have := pi_tup (tg := tg) h
  refine ⟨fun pins s σ H M I ⟨G, δ, F, S, P⟩ => this.run pins s σ H M I ?_⟩
  refine so_one h (wk_run (r := fun vs H1 R => match vs with | [x] => ∃ a, x = .ref a ∧ (∃ xs, SqT X.K H1 a xs) ∧ R (Itt X.K a) H1 | _ => False) (fun o' ho => by cases List.mem_singleton.mp ho; exact hh) (fun G H U0 ds vs es M ok st e q => ?_) S P)
  match ds, e, st with
  | [d], e, ⟨v, vr, A, ev, r, dj, evr⟩ =>
    cases (show vr = [] from evr)
    subst ev
    simp only [kT] at e
    cases d with
    | tup ds =>
      simp only [isTup] at e
      split at e
      · rename_i c
        cases e
        obtain ⟨p, vs, rfl, rs, wk⟩ := r.tup_walk ok
        rw [hK]
        refine ⟨p, rfl, ⟨vs, wk H fun _ _ h _ => h⟩, q _ ⟨fun H2 k i hi => ⟨vs, vs[i]'(by rw [rs.length]; exact hi), wk H2 k, by simp⟩, fun H2 k => ⟨vs, wk H2 k, by rw [rs.length]; exact Nat.le_refl _⟩, fun H2 G2 k gm i x H3 hi y => ?_⟩⟩
        obtain ⟨rfl, y2⟩ := y
        obtain ⟨d, ed, B, l, rd⟩ := ((rs.keep k ok gm dj).clean c).get (y2 vs (wk _ k))
        exact ⟨Same.refl _, d, ed, rd.le l⟩
      · cases e
    | _ => cases e
theorem si_str {hs : List Nat} {e : Expr} {f : Ev} (h : SE X g W e f) : SI X g W hs tg e (iS f) := by
  have := pi_str (tg := tg) h
  refine ⟨fun pins s σ H M I q => this.run pins s σ H M I ?_⟩
  obtain ⟨G, δ, F, S, P⟩ := q
  refine tE_of S (PostG.mono (PostG.bind P) fun d δ1 H1 G1 F1 S1 P1 v Fv r ok dj E1 => ?_)
  cases d with
  | str z =>
    refine ⟨z, r, P1 H1 G1 F1 S1 _ Fv ok dj E1 ⟨fun H2 k i hi => ?_, fun H2 k => ?_, fun H2 G2 k gm i x H3 hi y => ?_⟩⟩
    · exact walk_str.goes i H2 (by simpa using hi) trivial
    · have := (walk_str (z := z)).stops H2 trivial
      simpa using this
    · obtain ⟨rfl, c, hc, rfl⟩ := walk_str.yields i H2 x H3 (by simpa using hi) trivial y
      refine ⟨Same.refl _, .str ⟨#[c]⟩, ?_, rfl⟩
      rw [List.getElem?_map, Array.getElem?_toList, hc]
      rfl
  | _ => exact False.elim P1
theorem wk_range {G' : Fp} {H' : Hp} {U' : Fp} {lo : Int} {n : Nat} : Wk g G' H' U' (intsD lo n) (Itr lo n) := by
  have hl : (intsD lo n).length = n := by simp [intsD]
  refine ⟨fun H2 k i hi => walk_range.goes i H2 (by rw [← hl]; exact hi) trivial, fun H2 k => by rw [hl]; exact walk_range.stops H2 trivial, fun H2 G2 k gm i x H3 hi y => ?_⟩
  rw [hl] at hi
  obtain ⟨rfl, rfl⟩ := walk_range.yields i H2 x H3 hi trivial y
  refine ⟨Same.refl _, .int (lo + i), ?_, rfl⟩
  unfold intsD
  rw [List.getElem?_map, List.getElem?_range hi]
  rfl
theorem bor1 {G : Fp} {H : Hp} {d : D} {vs : List V} (b : Bor g G H [d] vs) : ∃ v A, vs = [v] ∧ Rep g G H d v A := by
  obtain ⟨v, vr, A, e, r, e2⟩ := b
  cases (show vr = [] from e2)
  exact ⟨v, A, e, r⟩
theorem bor2 {G : Fp} {H : Hp} {d e : D} {vs : List V} (b : Bor g G H [d, e] vs) : ∃ v w A B, vs = [v, w] ∧ Rep g G H d v A ∧ Rep g G H e w B := by
  obtain ⟨v, vr, A, e1, r, b2⟩ := b
  obtain ⟨w, B, e2, r2⟩ := bor1 b2
  subst e2
  exact ⟨v, w, A, B, e1, r, r2⟩
theorem bor3 {G : Fp} {H : Hp} {d e f : D} {vs : List V} (b : Bor g G H [d, e, f] vs) : ∃ v w u A B C, vs = [v, w, u] ∧ Rep g G H d v A ∧ Rep g G H e w B ∧ Rep g G H f u C := by
  obtain ⟨v, vr, A, e1, r, b2⟩ := b
  obtain ⟨w, u, B, C, e2, r2, r3⟩ := bor2 b2
  subst e2
  exact ⟨v, w, u, A, B, C, e1, r, r2, r3⟩
theorem stn1 {G : Fp} {H : Hp} {U0 : Fp} {d : D} {vs : List V} (b : Stn g G H U0 [d] vs) : ∃ v A, vs = [v] ∧ Rep g G H d v A ∧ Dj A U0 := by
  obtain ⟨v, vr, A, e, r, dj, e2⟩ := b
  cases (show vr = [] from e2)
  exact ⟨v, A, e, r, dj⟩
theorem stn2 {G : Fp} {H : Hp} {U0 : Fp} {d e : D} {vs : List V} (b : Stn g G H U0 [d, e] vs) : ∃ v w A B, vs = [v, w] ∧ Rep g G H d v A ∧ Dj A U0 ∧ Rep g G H e w B ∧ Dj B U0 := by
  obtain ⟨v, vr, A, e1, r, dj, b2⟩ := b
  obtain ⟨w, B, e2, r2, dj2⟩ := stn1 b2
  subst e2
  exact ⟨v, w, A, B, e1, r, dj, r2, dj2⟩
/-- operands of a source -/
def OdHs (hs : List Nat) (os : List Od) : Prop := ∀ o, o ∈ os → OdH hs o
theorem hh_nil {hs : List Nat} : OdHs hs [] := fun _ h => nomatch h
theorem hh_val {hs : List Nat} {f : Ev} {os : List Od} (h : OdHs hs os) : OdHs hs (.val f :: os) := fun o ho => by
  rcases List.mem_cons.mp ho with rfl | ho
  · trivial
  · exact h o ho
theorem hh_var {hs : List Nat} {i : Nat} {os : List Od} (hi : i ∈ hs) (h : OdHs hs os) : OdHs hs (.var i :: os) := fun o ho => by
  rcases List.mem_cons.mp ho with rfl | ho
  · exact hi
  · exact h o ho
/-- a range's ends are numbers: what a name holds needn't be hidden -/
theorem nums_run {G : Fp} {H : Hp} {σ : St} {δ : Env} {F : Nat → Fp} {hs : List Nat} {k : List D → Option (List D)} {r : List V → Hp → (It → Hp → Prop) → Prop} {os : List Od} {M : It → Hp → Prop}
    (hk : ∀ G H ds vs es (M : It → Hp → Prop), Bor g G H ds vs → k ds = some es → (∀ J, (∀ G' H' U', Wk g G' H' U' es J) → M J H) → r vs H M) (S : StR g G H σ δ F)
    (P : PostG g W G H F σ (iWk k os δ) fun ds δ' H' G' F' => ∀ J Fv, Ok G' H' Fv → Dj Fv (U F') → Ext G H (U F) G' H' (Un2 (U F') Fv) → Wk g G' H' (U (outF hs F')) ds J → M J H') : tOs g W os σ H fun vs H1 => r vs H1 M := by
  refine ods_run S (PostG.mono (PostG.bind P) fun xs δ1 H1 G1 F1 S1 P1 vs Fv rs ok dj E1 => ?_)
  cases e : resL δ1 xs with
  | none => simp only [e] at P1; exact False.elim P1
  | some ds =>
    cases e2 : k ds with
    | none => simp only [e, e2] at P1; exact False.elim P1
    | some es =>
      simp only [e, e2] at P1
      exact hk G1 H1 ds vs es M (bor_of S1 rs e) e2 fun J wk => P1 H1 G1 F1 S1 J Fv ok dj E1 (wk G1 H1 _)
theorem si_range1 {hs : List Nat} {a : Expr} {os : List Od} {p pos : Pos} (hg : Gl X "range") (hm : X.mg "range" = none) (ha : SOs X g W [a] os) (hst : starEach [a] X.env = [(false, eval a X.env)] := by rfl) : SI X g W hs tg (.Call (.Name "range" p) [a] [] pos) (iWk kR1 os) := by
  have := pi_range1 (tg := tg) (pos := pos) (p := p) hg hm ha.pa hst
  refine ⟨fun pins s σ H M I ⟨G, δ, F, S, P⟩ => this.run pins s σ H M I (nums_run (r := fun vs H1 R => ∃ j : Int, vs = [.int j] ∧ -(2 ^ 62) ≤ j ∧ j < 2 ^ 62 ∧ R (Itr 0 j.toNat) H1) (fun G H ds vs es M b e q => ?_) S P)⟩
  match ds, e, b with
  | [.int j], e, b =>
    simp only [kR1] at e
    obtain ⟨v, A, rfl, r⟩ := bor1 b
    cases (show v = .int j from r)
    split at e
    · rename_i c
      cases e
      exact ⟨j, rfl, c.1, c.2, q _ fun _ _ _ => wk_range⟩
    · cases e
theorem si_range2 {hs : List Nat} {a b : Expr} {os : List Od} {p pos : Pos} (hg : Gl X "range") (hm : X.mg "range" = none) (ha : SOs X g W [a, b] os) (hst : starEach [a, b] X.env = [(false, eval a X.env), (false, eval b X.env)] := by rfl) (hst2 : starEach [b] X.env = [(false, eval b X.env)] := by rfl) :
    SI X g W hs tg (.Call (.Name "range" p) [a, b] [] pos) (iWk kR2 os) := by
  have := pi_range2 (tg := tg) (pos := pos) (p := p) hg hm ha.pa hst hst2
  refine ⟨fun pins s σ H M I ⟨G, δ, F, S, P⟩ => this.run pins s σ H M I (nums_run (r := fun vs H1 R => ∃ i j : Int, vs = [.int i, .int j] ∧ (-(2 ^ 62) ≤ i ∧ i < 2 ^ 62 ∧ -(2 ^ 62) ≤ j ∧ j < 2 ^ 62) ∧ R (Itr i (j - i).toNat) H1) (fun G H ds vs es M b e q => ?_) S P)⟩
  match ds, e, b with
  | [.int i, .int j], e, b =>
    simp only [kR2] at e
    obtain ⟨v, w, A, B, rfl, r, r2⟩ := bor2 b
    cases (show v = .int i from r)
    cases (show w = .int j from r2)
    split at e
    · rename_i c
      cases e
      exact ⟨i, j, rfl, c, q _ fun _ _ _ => wk_range⟩
    · cases e
end
/-! ### enumerate, zip -/
def kEn : List D → Option (List D)
  | [.lst _ ds] => if cleans ds = true then some (enumD 0 ds) else none
  | _ => none
def kZp : List D → Option (List D)
  | [.lst o ds, .lst p es] => if (cleans ds && cleans es) = true then some (zipD ds es) else none
  | [.tup ds, .tup es] => if (cleans ds && cleans es) = true then some (zipD ds es) else none
  | _ => none
section
variable {X : Cx} {g : Cfg} {W : WX}
theorem same_new {H : Hp} {p : Addr} {o : HO} (h : H p = none) : Same H (upd H p o) := fun b x e => by rw [upd_ne (ne_of_none e h)]; exact e
theorem rep_pair {G : Fp} {H : Hp} {T : Addr} {x y : V} {d e : D} (h : H T = some (.tup [x, y])) (r : Rep g G H d x Fe) (r2 : Rep g G H e y Fe) : Rep g G H (.tup [d, e]) (.ref T) Fe :=
  ⟨T, _, rfl, .inl (.inl h), _, _, Fe, Fe, rfl, Le.refl _, Le.refl _, fun _ z _ => z, r, _, _, Fe, Fe, rfl, Le.refl _, Le.refl _, fun _ z _ => z, r2, rfl⟩
theorem si_enum {hs : List Nat} {a : Expr} {p pos tpos : Pos} {elts : List Expr} {kk : Nat} {os : List Od} (hK : X.K = g.K) (hg : Gl X "enumerate") (hm : X.mg "enumerate" = none) (ha : SOs X g W [a] os) (hh : OdHs hs os) (hst : starEach [a] X.env = [(false, eval a X.env)] := by rfl) :
    SI X g W hs (.Tuple elts kk tpos) (.Call (.Name "enumerate" p) [a] [] pos) (iWk kEn os) := by
  have := pi_enum (elts := elts) (kk := kk) (tpos := tpos) (pos := pos) (p := p) hg hm ha.pa hst
  refine ⟨fun pins s σ H M I ⟨G, δ, F, S, P⟩ => this.run pins s σ H M I (wk_run (r := fun vs H1 R => ∃ a xs, vs = [.ref a] ∧ SqL X.K H1 a xs ∧ R (Ite X.K a) H1) hh (fun G H U0 ds vs es M ok st e q => ?_) S P)⟩
  match ds, e, st with
  | [.lst o ds], e, st =>
    obtain ⟨v, A, rfl, r, dj⟩ := stn1 st
    simp only [kEn] at e
    by_cases c : cleans ds = true
    · rw [if_pos c] at e
      cases e
      obtain ⟨p, vs, rfl, rs, wk⟩ := r.lst_walk ok dj
      rw [hK]
      refine ⟨p, vs, rfl, wk H fun _ _ h _ => h, q _ ⟨fun H2 k i hi => ?_, fun H2 k => ?_, fun H2 G2 k gm i x H3 hi y => ?_⟩⟩
      · rw [enumD_length, ← rs.length] at hi
        exact walk_enum.goes i H2 hi (wk H2 k)
      · rw [enumD_length, ← rs.length]
        exact walk_enum.stops H2 (wk H2 k)
      · rw [enumD_length, ← rs.length] at hi
        obtain ⟨T, x1, x2, rfl, nT, rfl, e1, e2⟩ := walk_enum.yields i H2 x H3 hi (wk H2 k) y
        cases e1
        obtain ⟨d, ed, B, l, rd⟩ := ((rs.keep k ok gm dj).clean c).get e2
        refine ⟨same_new nT, .tup [.int ((0 + i : Nat) : Int), d], enumD_get ed, rep_pair upd_same ?_ ((rd.le l).same (same_new nT))⟩
        rw [Nat.zero_add]
        rfl
    · rw [if_neg c] at e; cases e
theorem si_zip {hs : List Nat} {a b : Expr} {p pos tpos : Pos} {elts : List Expr} {kk : Nat} {os : List Od} (hK : X.K = g.K) (hg : Gl X "zip") (hm : X.mg "zip" = none) (ha : SOs X g W [a, b] os) (hh : OdHs hs os)
    (hst : starEach [a, b] X.env = (false, eval a X.env) :: starEach [b] X.env := by rfl) (hpl : (backTo pos (starEach [b] X.env)).any (·.1) = false := by rfl) :
    SI X g W hs (.Tuple elts kk tpos) (.Call (.Name "zip" p) [a, b] [] pos) (iWk kZp os) := by
  have := RZ.pi_zipA (elts := elts) (kk := kk) (tpos := tpos) (pos := pos) (p := p) hg hm ha.pa hst hpl
  refine ⟨fun pins s σ H M I ⟨G, δ, F, S, P⟩ => this.run pins s σ H M I (wk_run (r := fun vs H1 R => ∃ a b xs ys, vs = [.ref a, .ref b] ∧ ((SqL X.K H1 a xs ∧ SqL X.K H1 b ys ∧ R (Itz X.K a b) H1) ∨ (SqT X.K H1 a xs ∧ SqT X.K H1 b ys ∧ R (RZ.ItzT X.K a b) H1))) hh (fun G H U0 ds vs es M ok st e q => ?_) S P)⟩
  match ds, e, st with
  | [.lst o ds, .lst o' es], e, st =>
    obtain ⟨v, w, A, B, rfl, r, dj, r2, dj2⟩ := stn2 st
    simp only [kZp] at e
    by_cases c : (cleans ds && cleans es) = true
    · rw [if_pos c] at e
      cases e
      simp only [Bool.and_eq_true] at c
      obtain ⟨p, vs, rfl, rs, wk⟩ := r.lst_walk ok dj
      obtain ⟨p2, vs2, rfl, rs2, wk2⟩ := r2.lst_walk ok dj2
      rw [hK]
      refine ⟨p, p2, vs, vs2, rfl, .inl ⟨wk H fun _ _ h _ => h, wk2 H fun _ _ h _ => h, q _ ⟨fun H2 k i hi => ?_, fun H2 k => ?_, fun H2 G2 k gm i x H3 hi y => ?_⟩⟩⟩
      · rw [zipD_length, ← rs.length, ← rs2.length] at hi
        exact (walk_zip rfl).goes i H2 hi ⟨wk H2 k, wk2 H2 k⟩
      · rw [zipD_length, ← rs.length, ← rs2.length]
        exact (walk_zip rfl).stops H2 ⟨wk H2 k, wk2 H2 k⟩
      · rw [zipD_length, ← rs.length, ← rs2.length] at hi
        obtain ⟨T, x1, x2, rfl, nT, rfl, e1, e2⟩ := (walk_zip rfl).yields i H2 x H3 hi ⟨wk H2 k, wk2 H2 k⟩ y
        obtain ⟨d, ed, B, l, rd⟩ := ((rs.keep k ok gm dj).clean c.1).get e1
        obtain ⟨d', ed', B', l', rd'⟩ := ((rs2.keep k ok gm dj2).clean c.2).get e2
        exact ⟨same_new nT, .tup [d, d'], zipD_get ed ed', rep_pair upd_same ((rd.le l).same (same_new nT)) ((rd'.le l').same (same_new nT))⟩
    · rw [if_neg c] at e; cases e
  | [.tup ds, .tup es], e, st =>
    obtain ⟨v, w, A, B, rfl, r, dj, r2, dj2⟩ := stn2 st
    simp only [kZp] at e
    by_cases c : (cleans ds && cleans es) = true
    · rw [if_pos c] at e
      cases e
      simp only [Bool.and_eq_true] at c
      obtain ⟨p, vs, rfl, rs, wk⟩ := r.tup_walk ok
      obtain ⟨p2, vs2, rfl, rs2, wk2⟩ := r2.tup_walk ok
      rw [hK]
      have wz : ∀ H2 : Hp, SqT g.K H2 p vs → SqT g.K H2 p2 vs2 → ∀ i, (i < min vs.length vs2.length → (RZ.ItzT g.K p p2).go i H2) := fun H2 s1 s2 i hi => ⟨vs, vs2, vs[i]'(by omega), vs2[i]'(by omega), s1, s2, List.getElem?_eq_getElem (by omega), List.getElem?_eq_getElem (by omega)⟩
      refine ⟨p, p2, vs, vs2, rfl, .inr ⟨wk H fun _ _ h _ => h, wk2 H fun _ _ h _ => h, q _ ⟨fun H2 k i hi => ?_, fun H2 k => ?_, fun H2 G2 k gm i x H3 hi y => ?_⟩⟩⟩
      · rw [zipD_length, ← rs.length, ← rs2.length] at hi
        exact wz H2 (wk H2 k) (wk2 H2 k) i hi
      · rw [zipD_length, ← rs.length, ← rs2.length]
        exact ⟨vs, vs2, wk H2 k, wk2 H2 k, by omega⟩
      · obtain ⟨T, x1, x2, rfl, nT, rfl, f1, f2⟩ := y
        have e1 := f1 _ (wk H2 k)
        have e2 := f2 _ (wk2 H2 k)
        obtain ⟨d, ed, B, l, rd⟩ := ((rs.keep k ok gm dj).clean c.1).get e1
        obtain ⟨d', ed', B', l', rd'⟩ := ((rs2.keep k ok gm dj2).clean c.2).get e2
        exact ⟨same_new nT, .tup [d, d'], zipD_get ed ed', rep_pair upd_same ((rd.le l).same (same_new nT)) ((rd'.le l').same (same_new nT))⟩
    · rw [if_neg c] at e; cases e
end
end DV

namespace DV
open PySem L2
/-! ### while -/
def loopW (t : Tv) (body : Sv) : Nat → Env → RS
  | 0, _ => .bad
  | n + 1, δ => (t δ).thn fun b δ1 => if b = true then match body δ1 with
      | .nx δ2 => loopW t body n δ2
      | .ct δ2 => loopW t body n δ2
      | .bk δ2 => .nx δ2
      | .rt d δ2 => .rt d δ2
      | .ex x δ2 => .ex x δ2
      | .bad => .bad
    else .nx δ1
def sWhile (n : Nat) (t : Tv) (body : Sv) : Sv := fun δ => loopW t body n δ
section
variable {g : Cfg} {W : WX} {a : As} {G G' G1 G2 : Fp} {H H' H1 H2 : Hp} {σ σ1 : St} {δ δ' : Env} {F F' F1 : Nat → Fp} {D : Ends}
theorem while_run {n : Nat} {t : Tv} {body : Sv} (S : StR g G H σ δ F) (P : PostS g W a G H F σ (sWhile n t body δ) D) : tWhile (tT g W t) (tS g W a body) D σ H := by
  refine ⟨fun m σ' H' => ∃ G' δ' F', StR g G' H' σ' δ' F' ∧ Ag a σ σ' ∧ Ext G H (U F) G' H' (U F') ∧ PostS g W a G H F σ (loopW t body m δ') D, ⟨n, G, δ, F, S, .refl, .refl (Le.refl _), P⟩, ?_⟩
  rintro m σ1 H1 ⟨G1, δ1, F1, S1, ag1, E1, P1⟩
  cases m with
  | zero => exact False.elim P1
  | succ m =>
    simp only [loopW] at P1
    have P2 : PostG g W G H F σ1 (t δ1) fun b δ' H' G' F' => PostS g W a G H F σ (if b = true then match body δ' with
      | .nx δ2 => loopW t body m δ2
      | .ct δ2 => loopW t body m δ2
      | .bk δ2 => .nx δ2
      | .rt d δ2 => .rt d δ2
      | .ex x δ2 => .ex x δ2
      | .bad => .bad
    else .nx δ') D := by
      cases e : t δ1 with
      | ok b δ2 => rw [e] at P1; exact fun _ _ _ _ => P1
      | ex x δ2 => rw [e] at P1; exact fun cls dd H' G' F' S' xr E' => P1 cls dd σ1 H' G' F' S' ag1 xr E'
      | bad => rw [e] at P1; exact P1
    refine tT_of S1 (PostG.mono (PostG.on P2 E1 (Le.refl _)) fun b δ2 H2 G2 F2 S2 P3 E2 => ?_)
    have E12 := E1.trans E2 (Le.refl _)
    cases b with
    | false => simp only [Bool.false_eq_true, if_false] at P3 ⊢; exact P3 σ1 H2 G2 F2 S2 ag1 E12
    | true =>
      simp only [if_true] at P3 ⊢
      refine ⟨fun σ' H' => ∃ G' δ' F', StR g G' H' σ' δ' F' ∧ Ag a σ σ' ∧ Ext G H (U F) G' H' (U F') ∧ PostS g W a G H F σ (loopW t body m δ') D, fun σ' H' h => ⟨m, Nat.lt_succ_self _, h⟩, tS_of S2 ?_⟩
      cases eb : body δ2 with
      | nx δ5 => rw [eb] at P3; exact fun σ6 H6 G6 F6 S6 ag6 E6 => ⟨G6, δ5, F6, S6, ag1.tr ag6, E12.trans E6 (Le.refl _), P3⟩
      | ct δ5 => rw [eb] at P3; exact fun σ6 H6 G6 F6 S6 ag6 E6 => ⟨G6, δ5, F6, S6, ag1.tr ag6, E12.trans E6 (Le.refl _), P3⟩
      | bk δ5 => rw [eb] at P3; exact fun σ6 H6 G6 F6 S6 ag6 E6 => P3 σ6 H6 G6 F6 S6 (ag1.tr ag6) (E12.trans E6 (Le.refl _))
      | rt d5 δ5 => rw [eb] at P3; exact fun v σ6 H6 G6 F6 Fv6 S6 ag6 r6 o6 dj6 E6 => P3 v σ6 H6 G6 F6 Fv6 S6 (ag1.tr ag6) r6 o6 dj6 (E12.trans E6 (Le.refl _))
      | ex x5 δ5 => rw [eb] at P3; exact fun cls dd σ6 H6 G6 F6 S6 ag6 xr6 E6 => P3 cls dd σ6 H6 G6 F6 S6 (ag1.tr ag6) xr6 (E12.trans E6 (Le.refl _))
      | bad => rw [eb] at P3; exact P3
end
theorem ss_while {X : Cx} {g : Cfg} {W : WX} {a : As} {c : Expr} {body : List Stmt} {pos : Pos} {t : Tv} {f : Sv} (n : Nat) (hp : PassesOwn (model X.prog X.w) X.A X.env X.xe) (hc : ST X g W c t) (hb : SSs X g W a body f) : SS X g W a (.While c body [] pos) (sWhile n t f) :=
  PS.imp (ps_while hp hc hb) fun D σ H ⟨G, δ, F, S, P⟩ => while_run S P
/-! ### comprehensions -/
abbrev wNo : WX := fun _ _ _ _ => False
def R.nox {α : Type} : R α → R α
  | .ok a δ => .ok a δ
  | .ex _ _ => .bad
  | .bad => .bad
def tvO : Option Tv → Tv
  | none => fun δ => .ok true δ
  | some f => f
def compL (own : List Nat) (t : Tg) (tt : Option Tv) (el : Ev) : List D → List D → Env → R (List D)
  | [], acc, δ => .ok acc δ
  | d :: ds, acc, δ => match tgD t d δ with
    | none => .bad
    | some δ1 => (tvO tt δ1).nox.bind fun b δ2 => if b = true then (el δ2).nox.bind fun y δ3 => if acc.length < 100000 then compL own t tt el ds (acc ++ [y]) (outL own δ3) else .bad
      else compL own t tt el ds acc (outL own δ2)
def eComp (hs : List Nat) (src : Src) (own : List Nat) (t : Tg) (tt : Option Tv) (el : Ev) : Ev := fun δ => (src δ).bind fun ds δ1 =>
  (compL own t tt el ds [] (outL own (outL hs δ1))).bind fun acc δ2 => .ok (.lst true acc) (putL hs δ1 δ2)
section
variable {g : Cfg} {W : WX} {a : As} {G G' G1 G2 : Fp} {H H' H1 H2 : Hp} {σ σ1 : St} {δ δ' : Env} {F F' F1 : Nat → Fp} {Q : VK}
theorem StR.ext {U0 U1 : Fp} (S : StR g G H σ δ F) (E : Ext G H U0 G1 H1 U1) (o : Ok G H U0) (dj : Dj (U F) U0) (gs : ∀ a, G1 a → H1 a ≠ none) : StR g G1 H1 σ δ F where
  len := S.len
  at_ := fun i d h => by
    obtain ⟨v, e, r⟩ := S.at_ i d h
    exact ⟨v, e, E.rep o r (dj.le (fun a h => ⟨i, h⟩) (Le.refl _))⟩
  dj := S.dj
  ok := fun i => E.ok (S.ok i) (dj.le (fun a h => ⟨i, h⟩) (Le.refl _))
  gs := gs
theorem Reps.push : ∀ {ds : List D} {vs : List V} {A B : Fp} {d : D} {v : V}, Reps g G H ds vs A → Rep g G H d v B → Dj A B → Reps g G H (ds ++ [d]) (vs ++ [v]) (Un2 A B)
  | [], vs, A, B, d, v, h, r, dj => by
    rw [show vs = [] from h]
    exact ⟨v, [], B, Fe, rfl, Le.inr, fun _ z => z.elim, fun _ _ z => z, r, rfl⟩
  | e :: ds, _, A, B, d, v, ⟨w, vr, F1, F2, e1, l1, l2, dj0, r1, rs⟩, r, dj => by
    subst e1
    have := Reps.push rs r (dj.le l2 (Le.refl _))
    refine ⟨w, vr ++ [v], F1, Un2 F2 B, rfl, l1.trans Le.inl, fun a h => h.elim (fun h => .inl (l2 a h)) .inr, fun a x y => y.elim (dj0 a x) fun y => dj a (l1 a x) y, r1, this⟩
theorem gt_outL : ∀ {hs : List Nat} {δ : Env} {i : Nat} {d : D}, gt (outL hs δ) i = some d → gt δ i = some d ∧ i ∉ hs
  | [], _, _, _, h => ⟨h, fun z => nomatch z⟩
  | j :: hs, δ, i, d, h => by
    obtain ⟨h1, h2⟩ := gt_outL (hs := hs) (δ := st δ j none) h
    obtain ⟨h3, h4⟩ := gt_st_none h1
    exact ⟨h3, fun z => (List.mem_cons.mp z).elim (fun e => h4 e.symm) h2⟩
theorem wipe_get {vs : List Nat} {i : Nat} (h : i ∉ vs) : (wipe σ vs)[i]? = σ[i]? := by
  induction vs with
  | nil => rfl
  | cons v vs ih =>
    simp only [List.mem_cons, not_or] at h
    unfold wipe
    rw [List.getElem?_set_ne (fun e => h.1 e.symm), ih h.2]
theorem wipe_in {vs : List Nat} {i : Nat} (h : i ∈ vs) (hi : i < σ.length) : (wipe σ vs)[i]? = some none := by
  induction vs with
  | nil => nomatch h
  | cons v vs ih =>
    unfold wipe
    by_cases e : v = i
    · subst e
      exact List.getElem?_set_self (by rw [wipe_length]; exact hi)
    · rw [List.getElem?_set_ne e]
      exact ih ((List.mem_cons.mp h).resolve_left fun z => e z.symm)
theorem wipe_eq {vs : List Nat} {σ2 : St} (hl : σ2.length = σ.length) (h : ∀ i, i ∉ vs → σ2[i]? = σ[i]?) : wipe σ2 vs = wipe σ vs := by
  apply List.ext_getElem?
  intro i
  by_cases hi : i ∈ vs
  · by_cases hl2 : i < σ.length
    · rw [wipe_in hi hl2, wipe_in hi (by omega)]
    · rw [List.getElem?_eq_none (by rw [wipe_length]; omega), List.getElem?_eq_none (by rw [wipe_length]; omega)]
  · rw [wipe_get hi, wipe_get hi, h i hi]
theorem StR.wipe (S : StR g G H σ δ F) {vs : List Nat} : StR g G H (wipe σ vs) (outL vs δ) (outF vs F) := by
  have S1 := outL_run (hs := vs) S
  refine ⟨by rw [wipe_length]; exact S1.len, fun i d h => ?_, S1.dj, S1.ok, S1.gs⟩
  obtain ⟨v, e, r⟩ := S1.at_ i d h
  exact ⟨v, by rw [wipe_get (gt_outL h).2]; exact e, r⟩
theorem StR.unwipe {vs : List Nat} (S : StR g G H (L2.wipe σ vs) δ F) : StR g G H σ δ F := by
  refine ⟨by rw [← wipe_length σ vs]; exact S.len, fun i d h => ?_, S.dj, S.ok, S.gs⟩
  obtain ⟨v, e, r⟩ := S.at_ i d h
  exact ⟨v, (wipe_some e).1, r⟩
theorem Ag.len {b : As} {σ2 : St} (S : StR g G H σ δ F) (S2 : StR g G1 H1 σ2 δ' F') (e : δ'.length = δ.length) : σ2.length = σ.length := by rw [← S2.len, ← S.len, e]
mutual
theorem tgD_len : ∀ {t : Tg} {d : D} {δ δ' : Env}, tgD t d δ = some δ' → δ'.length = δ.length
  | .nm i, d, δ, δ', h => by
    simp only [tgD, Option.some.injEq] at h
    rw [← h, st_length]
  | .tp ts, d, δ, δ', h => by
    cases d with
    | tup ds => simp only [tgD] at h; exact tgsD_len h
    | _ => simp [tgD] at h
theorem tgsD_len : ∀ {ts : List Tg} {ds : List D} {δ δ' : Env}, tgsD ts ds δ = some δ' → δ'.length = δ.length
  | [], [], δ, δ', h => by simp only [tgsD, Option.some.injEq] at h; rw [h]
  | [], _ :: _, _, _, h => by simp [tgsD] at h
  | _ :: _, [], _, _, h => by simp [tgsD] at h
  | t :: ts, d :: ds, δ, δ', h => by
    simp only [tgsD] at h
    cases e : tgD t d δ with
    | none => rw [e] at h; cases h
    | some δ1 =>
      rw [e] at h
      rw [tgsD_len h, tgD_len e]
end
def cT (g : Cfg) : Option Tv → TT
  | none => tYes
  | some f => tT g wNo f
theorem cT_run {tt : Option Tv} {M : Bool → Hp → Prop} (S : StR g G H σ δ F) (P : PostG g wNo G H F σ (tvO tt δ) fun b δ' H' G' F' => Ext G H (U F) G' H' (U F') → M b H') : cT g tt σ H M := by
  cases tt with
  | none => exact P H G F S (.refl (Le.refl _))
  | some f => exact tT_of S P
/-- what is held of the list that is made -/
abbrev fD (Fa : Fp) (p : Addr) : Fp := fun a => Fa a ∨ a = p
theorem comp_run {hs own : List Nat} {src : Src} {t : Tg} {tt : Option Tv} {el : Ev} (ho : ∀ i, i ∉ own → tgA t i = false) (S : StR g G H σ δ F) (P : Post g W G H F σ (eComp hs src own t tt el δ) Q) :
    tLc (tI g W hs src) (tgG g.K t) (cT g tt) (tE g wNo el) own σ H Q := by
  refine ⟨G, δ, F, S, PostG.mono (PostG.bind P) fun ds δ1 H1 G1 F1 S1 P1 J Fv ok dj E wk p np => ?_⟩
  have E1 : Ext G H (U F) G1 H1 (U F1) := E.weak (Le.refl _) Le.inl
  have Sh := outL_run (hs := hs) S1
  have So := Sh.wipe (vs := own)
  have leO : Le (U (outF own (outF hs F1))) (U (outF hs F1)) := outF_U
  -- what is wanted at the end
  have PC : ∀ acc δ2, compL own t tt el ds [] (outL own (outL hs δ1)) = .ok acc δ2 → ∀ H2 G2 F2 vsa Fa, StR g G2 H2 (L2.wipe σ own) δ2 F2 → H2 p = some (.lst vsa) → Reps g G2 H2 acc vsa Fa → Ok G2 H2 (fD Fa p) → ¬ Fa p → Dj (fD Fa p) (U F2) →
      Ext G1 H1 (U (outF hs F1)) G2 H2 (Un2 (U F2) (fD Fa p)) → Q (.ref p) H2 := by
    intro acc δ2 ec H2 G2 F2 vsa Fa S2 hp rs ok2 nf dj2 E2
    rw [ec] at P1
    obtain ⟨F3, S3, le3⟩ := putL_run (hs := hs) S1 S2.unwipe (E2.weak (Le.refl _) Le.inl) fun i _ => rfl
    refine P1 H2 G2 F3 S3 (.ref p) (fD Fa p) ⟨p, vsa, Fa, rfl, ⟨hp, .inr rfl⟩, fun b hb => ⟨.inl hb, fun e => nf (by rw [← e]; exact hb)⟩, rs⟩ ok2 (fun a x y => ?_) (ext_put (hs := hs) E1 E2 fun a h => ?_)
    · rcases le3 a y with y | y
      · exact dj2 a x y
      · exact E2.dj (hid_ok S1) (hid_dj S1) a y (.inr x)
    · rcases h with h | h
      · rcases le3 a h with h | h
        · exact .inl (.inl h)
        · exact .inr h
      · exact .inl (.inr h)
  have nbad : ∀ r, compL own t tt el ds [] (outL own (outL hs δ1)) = r → (∃ acc δ2, r = .ok acc δ2) ∨ ∃ x δ2, r = .ex x δ2 := by
    intro r e
    cases r with
    | ok acc δ2 => exact .inl ⟨_, _, rfl⟩
    | ex x δ2 => exact .inr ⟨_, _, rfl⟩
    | bad => rw [e] at P1; exact False.elim P1
  have noex : ∀ (ds : List D) (acc : List D) (δ : Env) x δ2, compL own t tt el ds acc δ ≠ .ex x δ2 := by
    intro ds
    induction ds with
    | nil => intro acc δ x δ2 e; cases e
    | cons d ds ih =>
      intro acc δ x δ2 e
      simp only [compL] at e
      cases e1 : tgD t d δ with
      | none => rw [e1] at e; cases e
      | some δ3 =>
        rw [e1] at e
        simp only at e
        cases e2 : tvO tt δ3 with
        | bad => rw [e2] at e; cases e
        | ex y z => rw [e2] at e; cases e
        | ok b δ4 =>
          rw [e2] at e
          simp only [R.nox, R.bind_ok] at e
          split at e
          · cases e3 : el δ4 with
            | bad => rw [e3] at e; cases e
            | ex y z => rw [e3] at e; cases e
            | ok y δ5 =>
              rw [e3] at e
              simp only [R.bind_ok] at e
              split at e
              · exact ih _ _ _ _ e
              · cases e
          · exact ih _ _ _ _ e
  have PC0 : ∃ acc0 δ0, compL own t tt el ds [] (outL own (outL hs δ1)) = .ok acc0 δ0 := by
    rcases nbad _ rfl with h | ⟨x, δ2, h⟩
    · exact h
    · exact (noex _ _ _ _ _ h).elim
  obtain ⟨acc0, δ0, e0⟩ := PC0
  have PC1 := PC acc0 δ0 e0
  have kp : ∀ (H2 : Hp) (G2 : Fp) (V2 : Fp), Ext G1 H1 (U (outF hs F1)) G2 H2 V2 → ∀ a o, H1 a = some o → ¬ U (outF hs F1) a → H2 a = some o := fun H2 G2 V2 E => E.keep
  have sN : Same H1 (upd H1 p (.lst [])) := same_new np
  refine ⟨fun i m H' => m = ds.length - i ∧ i ≤ ds.length ∧ ∃ G' δ' F' acc vsa Fa, StR g G' H' (L2.wipe σ own) δ' F' ∧ H' p = some (.lst vsa) ∧ Reps g G' H' acc vsa Fa ∧ Ok G' H' (fD Fa p) ∧ ¬ Fa p ∧ Dj (fD Fa p) (U F') ∧
      Ext G1 H1 (U (outF hs F1)) G' H' (Un2 (U F') (fD Fa p)) ∧ compL own t tt el (ds.drop i) acc δ' = .ok acc0 δ0, ⟨ds.length, rfl, Nat.zero_le _, G1, outL own (outL hs δ1), outF own (outF hs F1), [], [], Fe, So.same sN, upd_same, rfl, ?_, fun z => z, ?_, ?_, e0⟩, ?_⟩
  · intro a h
    rcases h with h | rfl
    · exact h.elim
    · exact ⟨by rw [upd_same]; trivial, fun z => S1.gs _ z np⟩
  · intro a h ⟨i, z⟩
    rcases h with h | rfl
    · exact h
    · have := (So.ok i _ z).1
      rw [np] at this; exact this
  · exact (Ext.new (U1 := U (outF own (outF hs F1))) (Fv := fun a => a = p) sN leO fun a h => by rw [h]; exact np).weak (Le.refl _) fun a h => h.elim .inl fun h => h.elim (fun z => z.elim) .inr
  rintro i m H2 ⟨rfl, hi, G2, δ2, F2, acc, vsa, Fa, S2, hp, rs, ok2, nf, dj2, E2, e2⟩
  by_cases hlt : i < ds.length
  · refine .inr ⟨wk.go H2 E2.keep i hlt, fun H' => ∃ G' δ' F' acc vsa Fa, StR g G' H' (L2.wipe σ own) δ' F' ∧ H' p = some (.lst vsa) ∧ Reps g G' H' acc vsa Fa ∧ Ok G' H' (fD Fa p) ∧ ¬ Fa p ∧ Dj (fD Fa p) (U F') ∧
      Ext G1 H1 (U (outF hs F1)) G' H' (Un2 (U F') (fD Fa p)) ∧ compL own t tt el (ds.drop (i + 1)) acc δ' = .ok acc0 δ0, fun H' h => ⟨ds.length - (i + 1), by omega, rfl, hlt, h⟩, fun x H3 y => ?_⟩
    obtain ⟨same, d, ed, rd⟩ := wk.yld H2 G2 E2.keep E2.gm i x H3 hlt y
    have ed' : ds[i] = d := by rw [List.getElem?_eq_getElem hlt] at ed; exact Option.some.inj ed
    rw [drop_get hlt, ed'] at e2
    simp only [compL] at e2
    cases et : tgD t d δ2 with
    | none => rw [et] at e2; cases e2
    | some δ3 =>
      rw [et] at e2
      simp only at e2
      have S3 := S2.same same
      refine tg_run S3 rd (fun _ z => z.elim) (fun _ z => z.elim) et fun σ4 F4 S4 ag4 le4 => ?_
      have le4' : Le (U F4) (U F2) := fun a h => (le4 a h).elim id fun z => z.elim
      have hw : L2.wipe σ4 own = L2.wipe σ own := by
        have : L2.wipe σ4 own = L2.wipe (L2.wipe σ own) own := wipe_eq (Ag.len (b := a0) S3 S4 (tgD_len et)) fun j hj => ag4.2 j (ho j hj)
        rw [this]
        exact wipe_eq (wipe_length _ _) fun j hj => wipe_get hj
      refine ⟨hw, ?_⟩
      have hp3 : H3 p = some (.lst vsa) := same _ _ hp
      have rs3 := rs.same same
      have ok3 : Ok G2 H3 (fD Fa p) := ok_same ok2 same
      have E3 : Ext G1 H1 (U (outF hs F1)) G2 H3 (Un2 (U F4) (fD Fa p)) := (E2.trans (.new (U1 := Un2 (U F2) (fD Fa p)) (Fv := Fe) same (Le.refl _) fun _ z => z.elim) (Le.refl _)).weak (Le.refl _) fun a h => h.elim (fun h => .inl (.inl (le4' a h))) fun h => .inl (.inr h)
      have dj3 : Dj (fD Fa p) (U F4) := dj2.le (Le.refl _) le4'
      cases eb : tvO tt δ3 with
      | bad => rw [eb] at e2; cases e2
      | ex y z => rw [eb] at e2; cases e2
      | ok b δ5 =>
        rw [eb] at e2
        simp only [R.nox, R.bind_ok] at e2
        refine cT_run S4 ?_
        rw [eb]
        intro H5 G5 F5 S5 E5
        have okU4 : Ok G2 H3 (U F4) := S4.okU
        have hp5 : H5 p = some (.lst vsa) := E5.keep _ _ hp3 fun z => dj3 p (.inr rfl) z
        have rs5 : Reps g G5 H5 acc vsa Fa := E5.reps okU4 rs3 (dj3.le (fun a h => .inl h) (Le.refl _))
        have ok5 : Ok G5 H5 (fD Fa p) := E5.ok ok3 dj3
        have dj5 : Dj (fD Fa p) (U F5) := E5.dj ok3 dj3
        have E15 : Ext G1 H1 (U (outF hs F1)) G5 H5 (Un2 (U F5) (fD Fa p)) := E3.trans (E5.frame (Fh := fD Fa p)) (Le.refl _)
        cases b with
        | false =>
          simp only [Bool.false_eq_true, if_false] at e2 ⊢
          have Sw := S5.wipe (vs := own)
          rw [hw] at Sw
          exact ⟨G5, _, _, acc, vsa, Fa, Sw, hp5, rs5, ok5, nf, dj5.le (Le.refl _) outF_U, E15.weak (Le.refl _) fun a h => h.elim (fun h => .inl (outF_U a h)) .inr, e2⟩
        | true =>
          simp only [if_true] at e2 ⊢
          cases ey : el δ5 with
          | bad => rw [ey] at e2; cases e2
          | ex y z => rw [ey] at e2; cases e2
          | ok y δ6 =>
            rw [ey] at e2
            simp only [R.bind_ok] at e2
            refine tE_of S5 ?_
            rw [ey]
            intro H6 G6 F6 S6 v Fy ry oky djy E6
            have okU5 : Ok G5 H5 (U F5) := S5.okU
            have hp6 : H6 p = some (.lst vsa) := E6.keep _ _ hp5 fun z => dj5 p (.inr rfl) z
            have rs6 : Reps g G6 H6 acc vsa Fa := E6.reps okU5 rs5 (dj5.le (fun a h => .inl h) (Le.refl _))
            have ok6 : Ok G6 H6 (fD Fa p) := E6.ok ok5 dj5
            have dj6 : Dj (fD Fa p) (Un2 (U F6) Fy) := E6.dj ok5 dj5
            split at e2
            · rename_i hz
              refine ⟨vsa, hp6, by rw [rs6.length]; exact Nat.lt_of_lt_of_le hz (by decide), ?_⟩
              -- the list has one more
              have okp : Ok G6 H6 (fun a => a = p) := fun a h => ok6 a (.inr h)
              have Ep : Ext G6 H6 (fun a => a = p) G6 (upd H6 p (.lst (vsa ++ [v]))) (fun a => a = p) := ⟨fun a o e n => by rw [upd_ne n]; exact e, Le.refl _, fun _ h => .inl h, fun a h => .inl h⟩
              have gs7 : ∀ a, G6 a → upd H6 p (.lst (vsa ++ [v])) a ≠ none := fun a h z => by
                by_cases e : a = p
                · rw [e, upd_same] at z; cases z
                · rw [upd_ne e] at z; exact S6.gs a h z
              have S7 := S6.ext Ep okp (fun a x y => dj6 a (.inr y) (.inl x)) gs7
              have rs7 := Ep.reps okp rs6 (fun a x y => nf (by rw [← (show a = p from y)]; exact x))
              have ry7 := Ep.rep okp ry (fun a x y => dj6 a (.inr y) (.inr x))
              have Sw := S7.wipe (vs := own)
              rw [hw] at Sw
              refine ⟨G6, _, _, acc ++ [y], vsa ++ [v], Un2 Fa Fy, Sw, upd_same, rs7.push ry7 (fun a x z => dj6 a (.inl x) (.inr z)), fun a h => ?_, fun h => ?_, fun a x z => ?_, ?_, e2⟩
              · by_cases e : a = p
                · rw [e, upd_same]; exact ⟨trivial, by rw [← e]; rw [e]; exact (ok6 p (.inr rfl)).2⟩
                · rw [upd_ne e]
                  rcases h with (h | h) | h
                  · exact ok6 a (.inl h)
                  · exact oky a h
                  · exact absurd h e
              · rcases h with h | h
                · exact nf h
                · exact dj6 p (.inr rfl) (.inr h)
              · have z := outF_U a z
                rcases x with (x | x) | x
                · exact dj6 a (.inl x) (.inl z)
                · exact djy a x z
                · exact dj6 a (.inr x) (.inl z)
              · have E67 : Ext G5 H5 (Un2 (U F5) (fD Fa p)) G6 (upd H6 p (.lst (vsa ++ [v]))) (Un2 (Un2 (U F6) Fy) (fD Fa p)) := (E6.frame (Fh := fD Fa p)).trans (U1' := Un2 (Un2 (U F6) Fy) (fD Fa p)) ⟨fun a o e n => by rw [upd_ne fun z => n (.inr (.inr z))]; exact e, Le.refl _, fun _ h => .inl h, fun a h => .inl h⟩ (Le.refl _)
                refine (E15.trans E67 (Le.refl _)).weak (Le.refl _) fun a h => ?_
                rcases h with h | (h | h) | h
                · exact .inl (.inl (outF_U a h))
                · exact .inr (.inl h)
                · exact .inl (.inr h)
                · exact .inr (.inr h)
            · cases e2
  · have e : i = ds.length := by omega
    subst e
    rw [List.drop_length] at e2
    simp only [compL, R.ok.injEq] at e2
    obtain ⟨rfl, rfl⟩ := e2
    exact .inl ⟨wk.stop H2 E2.keep, PC1 H2 G2 F2 vsa Fa S2 hp rs ok2 nf dj2 E2⟩
end
end DV
namespace DV
open PySem L2
section
variable {X : Cx} {g : Cfg} {W : WX}
def tgI : Tg → List Nat
  | .nm i => [i]
  | .tp ts => tgsI ts
where tgsI : List Tg → List Nat
  | [] => []
  | t :: ts => tgI t ++ tgsI ts
mutual
theorem tgI_ok : ∀ {t : Tg} {i : Nat}, tgA t i = true → i ∈ tgI t
  | .nm j, i, h => by
    have : i = j := by simpa [tgA, a1] using h
    simp [tgI, this]
  | .tp ts, i, h => by
    simp only [tgA] at h
    simp only [tgI]
    exact tgsI_ok h
theorem tgsI_ok : ∀ {ts : List Tg} {i : Nat}, tgAs ts i = true → i ∈ tgI.tgsI ts
  | [], i, h => by simp [tgAs, a0] at h
  | t :: ts, i, h => by
    simp only [tgAs, aOr, Bool.or_eq_true] at h
    simp only [tgI.tgsI, List.mem_append]
    exact h.elim (fun h => .inl (tgI_ok h)) fun h => .inr (tgsI_ok h)
end
theorem own_ok {t : Tg} {own : List Nat} (h : ∀ i, i ∈ tgI t → i ∈ own) : ∀ i, i ∉ own → tgA t i = false := fun i hi => by
  cases e : tgA t i with
  | false => rfl
  | true => exact absurd (h i (tgI_ok e)) hi
abbrev SCs (X : Cx) (g : Cfg) (ifs : List Expr) (tt : Option Tv) : Prop := PTs X ifs (cT g tt)
theorem sc_nil : SCs X g [] none := pts_nil
theorem sc_one {c : Expr} {f : Tv} (h : ST X g wNo c f) : SCs X g [c] (some f) := pts_one h
theorem se_lc {elt tg iter : Expr} {ifs : List Expr} {scope : Scope} {own : List (Str × Nat)} {pos : Pos} {hs : List Nat} {src : Src} {t : Tg} {tt : Option Tv} {el : Ev} (hc : X.calm = true) (hN : X.N.Nodup) (hi : SI X g W hs tg iter src) (ok : BlkOk X.N X.env.scope scope own)
    (hg : ∀ (s : Shared) (H : Hp) (C : Addr) (cl : List (Str × Addr)) (fp : List Addr), SG (X.blk s H scope (compEnvC scope cl C X.env) fp) g tg t) (ht : ∀ (s : Shared) (H : Hp) (C : Addr) (cl : List (Str × Addr)) (fp : List Addr), SCs (X.blk s H scope (compEnvC scope cl C X.env) fp) g ifs tt)
    (he : ∀ (s : Shared) (H : Hp) (C : Addr) (cl : List (Str × Addr)) (fp : List Addr), SE (X.blk s H scope (compEnvC scope cl C X.env) fp) g wNo elt el) (ho : ∀ i, i ∈ tgI t → i ∈ own.map (·.2)) (hz : ∀ x, foldedSetIterable iter X.env x = pure x := by intro _; rfl) :
    SE X g W (.ListComp elt [⟨tg, iter, ifs, 0⟩] scope pos) (eComp hs src (own.map (·.2)) t tt el) :=
  PE.imp (pe_lc hc hN hi ok hg ht he hz) fun σ H Q ⟨G, δ, F, S, P⟩ => comp_run (own_ok ho) S P
theorem ss_lc {i : Nat} {y : Str} {py : Pos} {elt tg iter : Expr} {ifs : List Expr} {scope : Scope} {own : List (Str × Nat)} {pos spos : Pos} {hs : List Nat} {src : Src} {t : Tg} {tt : Option Tv} {el : Ev} (hc : X.calm = true) (hN : X.N.Nodup) (hy : X.N[i]? = some y) (hyl : X.env.scope.names.lookup y = some .local)
    (hsw : swapsWith (.ListComp elt [⟨tg, iter, ifs, 0⟩] scope pos) (some (.Name y py)) spos.line X.env = pure true) (hi : SI X g W hs tg iter src) (ok : BlkOk X.N X.env.scope scope own)
    (hg : ∀ (s : Shared) (H : Hp) (C : Addr) (cl : List (Str × Addr)) (fp : List Addr), SG (X.blk s H scope (compEnvC scope cl C X.env) fp) g tg t) (ht : ∀ (s : Shared) (H : Hp) (C : Addr) (cl : List (Str × Addr)) (fp : List Addr), SCs (X.blk s H scope (compEnvC scope cl C X.env) fp) g ifs tt)
    (he : ∀ (s : Shared) (H : Hp) (C : Addr) (cl : List (Str × Addr)) (fp : List Addr), SE (X.blk s H scope (compEnvC scope cl C X.env) fp) g wNo elt el) (ho : ∀ i, i ∈ tgI t → i ∈ own.map (·.2)) (hz : ∀ x, foldedSetIterable iter X.env x = pure x := by intro _; rfl) :
    SS X g W (a1 i) (.Assign [.Name y py] (.ListComp elt [⟨tg, iter, ifs, 0⟩] scope pos) spos) (sSet i (eComp hs src (own.map (·.2)) t tt el)) :=
  PS.imp (ps_setLc hc hN hy hyl hsw hi ok hg ht he hz) fun D σ H ⟨G, δ, F, S, P⟩ => comp_run (own_ok ho) S (PostG.mono (PostS.bind P) fun d δ1 H1 G1 F1 S1 P1 v Fv r o dj E => P1 _ H1 G1 _ (S1.set r o dj) .set (E.weak (Le.refl _) U_Fst))
end
end DV

namespace DV
open PySem L2
/-! ### calls of own defs -/
abbrev Fn := Env → R D
structure Arg where
  d : D
  k : Option Nat
/-- what is handed on: a value, or what a name owns -/
def prep (δ : Env) : List OV → Option (List Arg)
  | [] => some []
  | .tmp d :: xs => match prep δ xs with
    | some as => some (⟨d, none⟩ :: as)
    | none => none
  | .late i :: xs => match gt δ i, prep δ xs with
    | some d, some as => some (⟨d, if clean d = true then none else some i⟩ :: as)
    | _, _ => none
def argE (as : List Arg) : Env := as.map fun a => some a.d
def owns : List Arg → List Nat
  | [] => []
  | a :: as => match a.k with
    | some i => i :: owns as
    | none => owns as
/-- what the callee left of what was handed on -/
def wb (ε : Env) : Nat → List Arg → Env → Env
  | _, [], δ => δ
  | j, a :: as, δ => match a.k with
    | none => wb ε (j + 1) as δ
    | some i => wb ε (j + 1) as (st δ i (gt ε j))
def fin (fn : Fn) (as : List Arg) (δ : Env) : R D := if (owns as).Nodup then match fn (argE as) with
    | .ok d ε => .ok d (wb ε 0 as (outL (owns as) δ))
    | .ex x ε => .ex x (wb ε 0 as (outL (owns as) δ))
    | .bad => .bad
  else .bad
def spF (g : Cfg) (n : Nat) (fn : Fn) : Sp := fun vs H Q E => vs.length = n ∧ ∃ G ε F, StR g G H (vs.map some) ε F ∧ Post g (fun c d _ H => E c d H) G H F (vs.map some) (fn ε) Q
structure ArgI (g : Cfg) (G : Fp) (H : Hp) (σ : St) (F : Nat → Fp) (Fv : Fp) (as : List Arg) (vs : List V) (Fa : Nat → Fp) : Prop where
  len : vs.length = as.length
  at_ : ∀ i a, as[i]? = some a → ∃ v, vs[i]? = some v ∧ Rep g G H a.d v (Fa i) ∧ ∀ k, a.k = some k → σ[k]? = some (some v)
  dj : ∀ i j, i ≠ j → Dj (Fa i) (Fa j)
  ok : ∀ i, Ok G H (Fa i)
  in_ : ∀ i x, Fa i x → Fv x ∨ ∃ a k, as[i]? = some a ∧ a.k = some k ∧ F k x
section
variable {g : Cfg} {W : WX} {G G' G1 G2 : Fp} {H H' H1 H2 : Hp} {σ : St} {δ δ' δ1 : Env} {F F' F1 : Nat → Fp} {Q : VK}
theorem gt_map {as : List Arg} {i : Nat} {d : D} (h : gt (argE as) i = some d) : ∃ a, as[i]? = some a ∧ a.d = d := by
  induction as generalizing i with
  | nil => cases h
  | cons a as ih =>
    cases i with
    | zero => exact ⟨a, rfl, Option.some.inj h⟩
    | succ i => exact ih (i := i) h
theorem ArgI.str {Fv : Fp} {as : List Arg} {vs : List V} {Fa : Nat → Fp} (A : ArgI g G H σ F Fv as vs Fa) (gs : ∀ a, G a → H a ≠ none) : StR g G H (vs.map some) (argE as) Fa where
  len := by rw [argE, List.length_map, List.length_map, A.len]
  at_ := fun i d h => by
    obtain ⟨a, e, rfl⟩ := gt_map h
    obtain ⟨v, ev, r, _⟩ := A.at_ i a e
    exact ⟨v, by rw [List.getElem?_map, ev]; rfl, r⟩
  dj := A.dj
  ok := A.ok
  gs := gs
theorem owns_get : ∀ {as : List Arg} {i k : Nat} {a : Arg}, as[i]? = some a → a.k = some k → k ∈ owns as
  | [], _, _, _, h, _ => by simp at h
  | b :: as, 0, k, a, h, e => by
    simp at h
    subst h
    unfold owns
    rw [e]
    exact List.mem_cons_self
  | b :: as, i + 1, k, a, h, e => by
    have := owns_get (as := as) (i := i) (by simpa using h) e
    unfold owns
    cases b.k with
    | none => exact this
    | some j => exact List.mem_cons_of_mem _ this
theorem args_of (S : StR g G H σ δ F) : ∀ {xs : List OV} {vs : List V} {as : List Arg} {Fv : Fp}, RepOs g G H σ xs vs Fv → Ok G H Fv → Dj Fv (U F) → prep δ xs = some as → (owns as).Nodup → ∃ Fa, ArgI g G H σ F Fv as vs Fa
  | [], vs, as, Fv, r, o, dj, e, nd => by
    cases e
    rw [show vs = [] from r]
    exact ⟨fun _ => Fe, rfl, fun i a h => by simp at h, fun _ _ _ _ z _ => z, fun _ _ z => z.elim, fun _ _ z => z.elim⟩
  | .tmp d :: xs, _, as, Fv, ⟨v, vr, A1, A2, e1, l1, l2, dj0, r, rs⟩, o, dj, e, nd => by
    unfold prep at e
    cases e2 : prep δ xs with
    | none => rw [e2] at e; cases e
    | some bs =>
      rw [e2] at e
      cases e
      subst e1
      obtain ⟨Fa, A⟩ := args_of S rs (fun a h => o a (l2 a h)) (dj.le l2 (Le.refl _)) e2 nd
      refine ⟨fun i => match i with | 0 => A1 | i + 1 => Fa i, by rw [List.length_cons, List.length_cons, A.len], fun i a h => ?_, fun i j h => ?_, fun i => ?_, fun i => ?_⟩
      · cases i with
        | zero => cases h; exact ⟨v, rfl, r, fun k z => nomatch z⟩
        | succ i => exact A.at_ i a h
      · have key : ∀ j, Dj A1 (Fa j) := fun j a x y => by
          rcases A.in_ j a y with y | ⟨b, k, _, _, y⟩
          · exact dj0 a x y
          · exact dj a (l1 a x) ⟨k, y⟩
        cases i with
        | zero =>
          cases j with
          | zero => exact absurd rfl h
          | succ j => exact key j
        | succ i =>
          cases j with
          | zero => exact (key i).symm
          | succ j => exact A.dj i j fun e => h (by rw [e])
      · cases i with
        | zero => exact fun a h => o a (l1 a h)
        | succ i => exact A.ok i
      · cases i with
        | zero => exact fun a h => .inl (l1 a h)
        | succ i => exact fun a h => (A.in_ i a h).elim (fun h => .inl (l2 a h)) .inr
  | .late k :: xs, _, as, Fv, ⟨v, vr, e1, hv, rs⟩, o, dj, e, nd => by
    unfold prep at e
    cases e2 : prep δ xs with
    | none => rw [e2] at e; cases h : gt δ k <;> rw [h] at e <;> cases e
    | some bs =>
      cases e3 : gt δ k with
      | none => rw [e3] at e; cases e
      | some d =>
        rw [e2, e3] at e
        cases e
        subst e1
        obtain ⟨v', ev, r⟩ := S.at_ k d e3
        rw [hv] at ev
        cases ev
        by_cases c : clean d = true
        · rw [if_pos c] at nd ⊢
          have nd' : (owns bs).Nodup := nd
          obtain ⟨Fa, A⟩ := args_of S rs o dj e2 nd'
          refine ⟨fun i => match i with | 0 => Fe | i + 1 => Fa i, by rw [List.length_cons, List.length_cons, A.len], fun i a h => ?_, fun i j h => ?_, fun i => ?_, fun i => ?_⟩
          · cases i with
            | zero => cases h; exact ⟨v, rfl, r.clean c, fun k z => nomatch z⟩
            | succ i => exact A.at_ i a h
          · cases i with
            | zero => exact fun _ z _ => z
            | succ i =>
              cases j with
              | zero => exact fun _ _ z => z
              | succ j => exact A.dj i j fun e => h (by rw [e])
          · cases i with
            | zero => exact fun _ z => z.elim
            | succ i => exact A.ok i
          · cases i with
            | zero => exact fun _ z => z.elim
            | succ i => exact A.in_ i
        · rw [if_neg c] at nd ⊢
          have nd1 : (k :: owns bs).Nodup := nd
          obtain ⟨nk, nd'⟩ := List.nodup_cons.mp nd1
          obtain ⟨Fa, A⟩ := args_of S rs o dj e2 nd'
          have key : ∀ j, Dj (F k) (Fa j) := fun j a x y => by
            rcases A.in_ j a y with y | ⟨b, k', hb, hk, y⟩
            · exact dj a y ⟨k, x⟩
            · exact S.dj k k' (fun e => nk (by rw [e]; exact owns_get hb hk)) a x y
          refine ⟨fun i => match i with | 0 => F k | i + 1 => Fa i, by rw [List.length_cons, List.length_cons, A.len], fun i a h => ?_, fun i j h => ?_, fun i => ?_, fun i => ?_⟩
          · cases i with
            | zero => cases h; exact ⟨v, rfl, r, fun k' z => by cases z; exact hv⟩
            | succ i => exact A.at_ i a h
          · cases i with
            | zero =>
              cases j with
              | zero => exact absurd rfl h
              | succ j => exact key j
            | succ i =>
              cases j with
              | zero => exact (key i).symm
              | succ j => exact A.dj i j fun e => h (by rw [e])
          · cases i with
            | zero => exact S.ok k
            | succ i => exact A.ok i
          · cases i with
            | zero => exact fun a h => .inr ⟨_, k, rfl, rfl, h⟩
            | succ i => exact A.in_ i
/-- what a callee's own arguments are told by behind it -/
def retF (as : List Arg) (j : Nat) (F' : Nat → Fp) : Fp := fun x => ∃ i b k, as[i]? = some b ∧ b.k = some k ∧ F' (j + i) x
theorem retF_U {as : List Arg} {j : Nat} {F' : Nat → Fp} : Le (retF as j F') (U F') := fun x ⟨i, _, _, _, _, h⟩ => ⟨j + i, h⟩
theorem retF_tail {a : Arg} {as : List Arg} {j : Nat} {F' : Nat → Fp} : Le (retF as (j + 1) F') (retF (a :: as) j F') := fun x ⟨i, b, k, h1, h2, h3⟩ => ⟨i + 1, b, k, by simpa using h1, h2, by rw [show j + (i + 1) = j + 1 + i by omega]; exact h3⟩
/-- the slots behind a call -/
theorem wb_run {vs : List V} {ε : Env} {F' : Nat → Fp} (S' : StR g G' H' (vs.map some) ε F') : ∀ {as : List Arg} {j : Nat} {δ : Env} {F : Nat → Fp}, StR g G' H' σ δ F → (∀ i a k, as[i]? = some a → a.k = some k → ∃ v, vs[j + i]? = some v ∧ σ[k]? = some (some v)) →
    (∀ i, j ≤ i → Dj (F' i) (U F)) → ∃ F2, StR g G' H' σ (wb ε j as δ) F2 ∧ Le (U F2) (Un2 (U F) (retF as j F'))
  | [], j, δ, F, S, ha, dj => ⟨F, S, Le.inl⟩
  | a :: as, j, δ, F, S, ha, dj => by
    have ha' : ∀ i b k, as[i]? = some b → b.k = some k → ∃ v, vs[j + 1 + i]? = some v ∧ σ[k]? = some (some v) := fun i b k h h' => by
      obtain ⟨v, e1, e2⟩ := ha (i + 1) b k (by simpa using h) h'
      exact ⟨v, by rw [← e1]; congr 1; omega, e2⟩
    unfold wb
    cases ek : a.k with
    | none =>
      obtain ⟨F2, S2, le⟩ := wb_run S' S ha' fun i hi => dj i (by omega)
      exact ⟨F2, S2, fun x h => (le x h).elim .inl fun h => .inr (retF_tail x h)⟩
    | some k =>
      obtain ⟨v, e1, e2⟩ := ha 0 a k rfl ek
      cases eg : gt ε j with
      | none =>
        obtain ⟨F2, S2, le⟩ := wb_run S' (S.out k) ha' (as := as) (j := j + 1) fun i hi => (dj i (by omega)).le (Le.refl _) fun a h => (U_Fst a h).elim id fun z => z.elim
        exact ⟨F2, S2, fun a h => (le a h).elim (fun h => (U_Fst a h).elim .inl fun z => z.elim) fun h => .inr (retF_tail a h)⟩
      | some d =>
        obtain ⟨v', e3, r⟩ := S'.at_ j d eg
        rw [List.getElem?_map, show vs[j]? = some v by simpa using e1] at e3
        cases e3
        have S1 := S.re (i := k) r (S'.ok j) (dj j (Nat.le_refl _)) e2
        obtain ⟨F2, S2, le⟩ := wb_run S' S1 ha' (as := as) (j := j + 1) fun i hi a x y => by
          rcases U_Fst a y with y | y
          · exact dj i (by omega) a x y
          · exact S'.dj i j (by omega) a x y
        exact ⟨F2, S2, fun x h => (le x h).elim (fun h => (U_Fst x h).elim .inl fun h => .inr ⟨0, a, k, rfl, ek, h⟩) fun h => .inr (retF_tail x h)⟩
/-- behind a call: the slots, and what was changed -/
theorem back_run {as : List Arg} {vs : List V} {Fv : Fp} {Fa : Nat → Fp} {ε : Env} {V' : Fp} (S1 : StR g G1 H1 σ δ1 F1) (A : ArgI g G1 H1 σ F1 Fv as vs Fa) (djv : Dj Fv (U F1)) (E1 : Ext G H (U F) G1 H1 (Un2 (U F1) Fv))
    (S' : StR g G' H' (vs.map some) ε F') (E' : Ext G1 H1 (U Fa) G' H' V') (le : Le (U F') V') : ∃ F2, StR g G' H' σ (wb ε 0 as (outL (owns as) δ1)) F2 ∧ Le (U F2) (Un2 (U (outF (owns as) F1)) (retF as 0 F')) ∧ Dj V' (U (outF (owns as) F1)) ∧
      ∀ V2, Le V2 (Un2 V' (U (outF (owns as) F1))) → Ext G H (U F) G' H' V2 := by
  have So := outL_run (hs := owns as) S1
  have djo : Dj (U (outF (owns as) F1)) (U Fa) := fun a x ⟨i, y⟩ => by
    rcases A.in_ i a y with y | ⟨b, k, hb, hk, y⟩
    · exact djv a y (outF_U a x)
    · exact hid_dj S1 a ⟨k, owns_get hb hk, y⟩ x
  have SA := A.str S1.gs
  have So' := So.ext E' SA.okU djo S'.gs
  have dj2 : Dj V' (U (outF (owns as) F1)) := (E'.dj (fun a h => So.okU a h) djo).symm
  obtain ⟨F2, S2, le2⟩ := wb_run S' So' (as := as) (j := 0) (fun i a k h h' => by
    obtain ⟨v, ev, _, q⟩ := A.at_ i a h
    exact ⟨v, by simpa using ev, q k h'⟩) (fun i _ a x y => dj2 a (le a ⟨i, x⟩) y)
  refine ⟨F2, S2, le2, dj2, fun V2 l2 => E1.trans ((E'.frame (Fh := U (outF (owns as) F1))).weak (V0 := Un2 (U F1) Fv) (fun a h => ?_) l2) (Le.refl _)⟩
  rcases h with ⟨i, h⟩ | h
  · rcases A.in_ i a h with h | ⟨b, k, _, _, h⟩
    · exact .inr h
    · exact .inl ⟨k, h⟩
  · exact .inl (outF_U a h)
/-- a call, over its arguments -/
theorem fin_run {n : Nat} {fn : Fn} {as : List Arg} {vs : List V} {Fv : Fp} {Fa : Nat → Fp} (S1 : StR g G1 H1 σ δ1 F1) (A : ArgI g G1 H1 σ F1 Fv as vs Fa) (djv : Dj Fv (U F1)) (E1 : Ext G H (U F) G1 H1 (Un2 (U F1) Fv)) (hn : vs.length = n)
    (P : Post g W G H F σ (fin fn as δ1) Q) : spF g n fn vs H1 Q (fun c d H => W c d σ H) := by
  refine ⟨hn, G1, argE as, Fa, A.str S1.gs, ?_⟩
  unfold fin at P
  by_cases nd : (owns as).Nodup
  · rw [if_pos nd] at P
    cases e : fn (argE as) with
    | bad => rw [e] at P; exact False.elim P
    | ex x ε =>
      rw [e] at P
      intro cls dd H' G' F' S' xr E'
      obtain ⟨F2, S2, le, dj2, ext⟩ := back_run S1 A djv E1 S' E' (Le.refl _)
      exact P cls dd H' G' F2 S2 xr (ext _ fun a h => (le a h).elim .inr fun h => .inl (retF_U a h))
    | ok d ε =>
      rw [e] at P
      intro H' G' F' S' v Fr r o dj E'
      obtain ⟨F2, S2, le, dj2, ext⟩ := back_run S1 A djv E1 S' E' Le.inl
      refine P H' G' F2 S2 v Fr r o (fun a x y => ?_) (ext _ fun a h => ?_)
      · rcases le a y with y | y
        · exact dj2 a (.inr x) y
        · exact dj a x (retF_U a y)
      · rcases h with h | h
        · exact (le a h).elim .inr fun h => .inl (.inl (retF_U a h))
        · exact .inl (.inr h)
  · rw [if_neg nd] at P; exact False.elim P
theorem PostG.congr {α : Type} {r : R α} {N : α → Env → Hp → Fp → (Nat → Fp) → Prop} (h : PostG g W G H F σ r N) : PostG g W G H F σ r N := h
theorem tO_mono {o : Od} {M M' : V → Hp → Prop} (i : ∀ v H, M v H → M' v H) (h : tO g W o σ H M) : tO g W o σ H M' := by
  cases o with
  | val f =>
    obtain ⟨G, δ, F, S, P⟩ := h
    exact ⟨G, δ, F, S, PostG.mono P fun d δ' H' G' F' S' q v Fv r o dj E => i _ _ (q v Fv r o dj E)⟩
  | var k => obtain ⟨v, e, q⟩ := h; exact ⟨v, e, i _ _ q⟩
theorem tOs_mono : ∀ {os : List Od} {H : Hp} {M M' : List V → Hp → Prop}, (∀ v H, M v H → M' v H) → tOs g W os σ H M → tOs g W os σ H M'
  | [], H, M, M', i, h => i _ _ h
  | o :: os, H, M, M', i, h => tO_mono (fun v H1 q => tOs_mono (fun vs H2 q => i _ _ q) q) (show tO g W o σ H fun x H1 => tOs g W os σ H1 fun xs H2 => M (x :: xs) H2 from h)
theorem tOs_len : ∀ {os : List Od} {H : Hp} {M : List V → Hp → Prop}, tOs g W os σ H M → tOs g W os σ H fun vs H1 => vs.length = os.length ∧ M vs H1
  | [], H, M, h => ⟨rfl, h⟩
  | o :: os, H, M, h => tO_mono (fun v H1 q => tOs_mono (fun vs H2 q => ⟨by rw [List.length_cons, List.length_cons, q.1], q.2⟩) (tOs_len q)) (show tO g W o σ H fun x H1 => tOs g W os σ H1 fun xs H2 => M (x :: xs) H2 from h)
theorem tOs_append : ∀ {os1 os2 : List Od} {H : Hp} {M : List V → Hp → Prop}, tOs g W (os1 ++ os2) σ H M → tOs g W os1 σ H fun vs H1 => tOs g W os2 σ H1 fun zs H2 => M (vs ++ zs) H2
  | [], os2, H, M, h => h
  | o :: os1, os2, H, M, h => tO_mono (fun v H1 q => tOs_append (os1 := os1) q) (show tO g W o σ H fun x H1 => tOs g W (os1 ++ os2) σ H1 fun xs H2 => M (x :: xs) H2 from h)
end
/-! ### which operand, which default comes to which parameter -/
inductive Sr where
  | u (i : Nat) | w (i : Nat) | d (i : Nat)
def pick {α : Type} (z : α) (us ws ds : List α) : List Sr → List α
  | [] => []
  | .u i :: r => us.getD i z :: pick z us ws ds r
  | .w i :: r => ws.getD i z :: pick z us ws ds r
  | .d i :: r => ds.getD i z :: pick z us ws ds r
theorem vals_getD : ∀ {xs : List V} {us : List Value}, Vals xs us → ∀ i : Nat, RelV (xs.getD i V.non) (us.getD i Value.none)
  | _, _, .nil, i => by simp [RelV]
  | _, _, .cons r _, 0 => r
  | _, _, .cons _ t, i + 1 => by simpa using vals_getD t i
theorem vals_pick {vs zs ds : List V} {us ws its : List Value} (r : Vals vs us) (rz : Vals zs ws) (rd : Vals ds its) : ∀ src : List Sr, Vals (pick V.non vs zs ds src) (pick Value.none us ws its src)
  | [] => .nil
  | .u i :: t => .cons (vals_getD r i) (vals_pick r rz rd t)
  | .w i :: t => .cons (vals_getD rz i) (vals_pick r rz rd t)
  | .d i :: t => .cons (vals_getD rd i) (vals_pick r rz rd t)
/-- how a call with n positional values and keywords ks binds; dv: the defaults -/
def KB (K : PySem.W.Frag) (fd : FuncData) (ps : List Str) (n : Nat) (ks : List Str) (src : List Sr) (dv : List V) : Prop :=
  ∃ its : List Value, KBn K fd ps n ks (fun us ws => pick Value.none us ws its src) (fun vs zs => pick V.non vs zs dv src)
theorem KB.mk0 {K : PySem.W.Frag} {fd : FuncData} {ps ks : List Str} {n : Nat} {src : List Sr}
    (h : ∀ us ws : List Value, us.length = n → ws.length = ks.length → bindArgs fd ⟨us, ks.zip ws⟩ = pure (ps.zip (pick Value.none us ws [] src))) : KB K fd ps n ks src [] :=
  ⟨[], ⟨fun _ us ws _ l1 l2 => .of_eq (h us ws l1 l2), fun r rz => vals_pick r rz .nil src⟩⟩
abbrev FunDD (K : PySem.W.Frag) (x qual : Str) (st : Stmt) (dvs : List V) (f : Addr) (fd : FuncData) : Prop := FunD K x qual (defArgs st) (defBody st) (defScope st) dvs [] f fd
theorem KB.mkD {K : PySem.W.Frag} {x qual : Str} {st : Stmt} {dvs : List V} {f : Addr} {fd : FuncData} {ps ks : List Str} {n : Nat} {src : List Sr} (F : FunDD K x qual st dvs f fd) (hd : dvs ≠ [])
    (h : ∀ (T : Addr) (kV doc pm : Value) (an : Option Addr) (cdv ct : Value) (us its ws : List Value), us.length = n → its.length = dvs.length → ws.length = ks.length →
      ∃ k, bindArgs (PySem.W.fnOf x qual (defArgs st) (defBody st) (defScope st) (.ref T) kV doc pm an cdv ct) ⟨us, ks.zip ws⟩ = seqItems? (.ref T) >>= k ∧ k (some its.toArray) = pure (ps.zip (pick Value.none us ws its src))) :
    KB K fd ps n ks src dvs := by
  obtain ⟨oc, od, dV, kV, doc, pm, an, cdv, ct, osl, rfl, lk, hcd, hD, hK⟩ := F.ex
  rcases hD with ⟨e, _⟩ | ⟨_, T, o, its, m, rfl, lT, oT, rT⟩
  · exact absurd e hd
  · refine ⟨its, ⟨fun s us ws X l1 l2 => ?_, fun r rz => vals_pick r rz rT src⟩⟩
    obtain ⟨k, e1, e2⟩ := h T kV doc pm an cdv ct us its ws l1 rT.length.symm l2
    refine BindsTo.of_looks fun M => ?_
    rw [e1]
    exact looks_items X lT oT (.of_pure e2)
/-- atoms, as data and as values -/
def atomV : D → Option V
  | .non => some .non
  | .bl b => some (.bl b)
  | .int i => some (.int i)
  | .str x => some (.str x)
  | _ => none
theorem atom_rep {g : Cfg} {G : Fp} {H : Hp} {d : D} {v : V} (h : atomV d = some v) : Rep g G H d v Fe := by
  cases d <;> simp only [atomV] at h <;> cases h <;> rfl
/-- the parameters' arguments -/
def permA (n : Nat) (dv : List D) (as : List Arg) : List Sr → Option (List Arg)
  | [] => some []
  | .u i :: r => match as[i]?, permA n dv as r with
    | some a, some ps => if i < n then some (a :: ps) else none
    | _, _ => none
  | .w i :: r => match as[n + i]?, permA n dv as r with
    | some a, some ps => some (a :: ps)
    | _, _ => none
  | .d i :: r => match dv[i]?, permA n dv as r with
    | some d, some ps => some (⟨d, none⟩ :: ps)
    | _, _ => none
def srIx (n : Nat) : List Sr → List Nat
  | [] => []
  | .u i :: r => i :: srIx n r
  | .w i :: r => (n + i) :: srIx n r
  | .d _ :: r => srIx n r
/-- where a parameter's value comes from -/
def srAt (n : Nat) : Sr → Option Nat
  | .u i => some i
  | .w i => some (n + i)
  | .d _ => none
section
variable {g : Cfg} {W : WX} {G G' G1 G2 : Fp} {H H' H1 H2 : Hp} {σ : St} {δ δ' δ1 : Env} {F F' F1 : Nat → Fp} {Q : VK}
def shF (A0 : Fp) (Fb : Nat → Fp) : Nat → Fp
  | 0 => A0
  | i + 1 => Fb i
theorem getD_of {α : Type} {l : List α} {i : Nat} {z v : α} (h : l[i]? = some v) : l.getD i z = v := by simp [h]
theorem perm_of {Fv : Fp} {as : List Arg} {vs zs : List V} {Fa : Nat → Fp} {n : Nat} {dv : List D} {dvV : List V} (A : ArgI g G H σ F Fv as (vs ++ zs) Fa) (hv : vs.length = n) (hd : dv.map atomV = dvV.map some) :
    ∀ {src : List Sr} {ps : List Arg}, (srIx n src).Nodup → permA n dv as src = some ps → ∃ Fb, ArgI g G H σ F Fv ps (pick V.non vs zs dvV src) Fb ∧ ∀ i x, Fb i x → ∃ j, j ∈ srIx n src ∧ Fa j x
  | [], ps, nd, e => by
    cases e
    exact ⟨fun _ => Fe, ⟨rfl, fun i a h => by simp at h, fun _ _ _ _ z _ => z, fun _ _ z => z.elim, fun _ _ z => z.elim⟩, fun _ _ z => z.elim⟩
  | s :: src, ps, nd, e => by
    -- one more ahead
    have more : ∀ {a : Arg} {v : V} {qs : List Arg} {A0 : Fp} {Fb : Nat → Fp}, ArgI g G H σ F Fv qs (pick V.non vs zs dvV src) Fb → Rep g G H a.d v A0 → (∀ k, a.k = some k → σ[k]? = some (some v)) → Ok G H A0 → (∀ j, Dj A0 (Fb j)) →
        (∀ x, A0 x → Fv x ∨ ∃ k, a.k = some k ∧ F k x) → ArgI g G H σ F Fv (a :: qs) (v :: pick V.non vs zs dvV src) (shF A0 Fb) := fun {a v qs A0 Fb} B r hk o dj hin => by
      refine ⟨by rw [List.length_cons, List.length_cons, B.len], fun i b h => ?_, fun i j h => ?_, fun i => ?_, fun i x hx => ?_⟩
      · cases i with
        | zero => cases h; exact ⟨v, rfl, r, hk⟩
        | succ i => exact B.at_ i b h
      · cases i with
        | zero =>
          cases j with
          | zero => exact absurd rfl h
          | succ j => exact dj j
        | succ i =>
          cases j with
          | zero => exact (dj i).symm
          | succ j => exact B.dj i j fun e => h (by rw [e])
      · cases i with
        | zero => exact o
        | succ i => exact B.ok i
      · cases i with
        | zero => exact (hin x hx).elim .inl fun ⟨k, e1, e2⟩ => .inr ⟨a, k, rfl, e1, e2⟩
        | succ i => exact B.in_ i x hx
    have opnd : ∀ {i : Nat} {a : Arg}, as[i]? = some a → ∃ v, (vs ++ zs)[i]? = some v ∧ Rep g G H a.d v (Fa i) ∧ (∀ k, a.k = some k → σ[k]? = some (some v)) ∧ ∀ x, Fa i x → Fv x ∨ ∃ k, a.k = some k ∧ F k x := fun {i a} h => by
      obtain ⟨v, e1, r, q⟩ := A.at_ i a h
      refine ⟨v, e1, r, q, fun x hx => ?_⟩
      rcases A.in_ i x hx with h1 | ⟨b, k, h1, h2, h3⟩
      · exact .inl h1
      · rw [h] at h1; cases h1; exact .inr ⟨k, h2, h3⟩
    cases s with
    | u i =>
      unfold permA at e
      cases e1 : as[i]? with
      | none => rw [e1] at e; cases e
      | some a =>
        cases e2 : permA n dv as src with
        | none => rw [e1, e2] at e; cases e
        | some qs =>
          rw [e1, e2] at e
          simp only at e
          split at e
          · rename_i hi
            cases e
            have nd' : (i :: srIx n src).Nodup := nd
            obtain ⟨n1, n2⟩ := List.nodup_cons.mp nd'
            obtain ⟨Fb, B, hB⟩ := perm_of A hv hd n2 e2
            obtain ⟨v, ev, r, q, hin⟩ := opnd e1
            have ev' : vs[i]? = some v := by rw [← ev, List.getElem?_append_left (by omega)]
            refine ⟨shF (Fa i) Fb, ?_, ?_⟩
            · show ArgI g G H σ F Fv (a :: qs) (vs.getD i V.non :: pick V.non vs zs dvV src) _
              rw [getD_of ev']
              exact more B r q (A.ok i) (fun j x h1 h2 => by
                obtain ⟨j', hj, h3⟩ := hB j x h2
                exact A.dj i j' (fun e => n1 (by rw [e]; exact hj)) x h1 h3) hin
            · intro k x hx
              cases k with
              | zero => exact ⟨i, List.mem_cons_self, hx⟩
              | succ k => obtain ⟨j, hj, h3⟩ := hB k x hx; exact ⟨j, List.mem_cons_of_mem _ hj, h3⟩
          · cases e
    | w i =>
      unfold permA at e
      cases e1 : as[n + i]? with
      | none => rw [e1] at e; cases e
      | some a =>
        cases e2 : permA n dv as src with
        | none => rw [e1, e2] at e; cases e
        | some qs =>
          rw [e1, e2] at e
          cases e
          have nd' : ((n + i) :: srIx n src).Nodup := nd
          obtain ⟨n1, n2⟩ := List.nodup_cons.mp nd'
          obtain ⟨Fb, B, hB⟩ := perm_of A hv hd n2 e2
          obtain ⟨v, ev, r, q, hin⟩ := opnd e1
          have ev' : zs[i]? = some v := by rw [← ev, List.getElem?_append_right (by omega)]; congr 1; omega
          refine ⟨shF (Fa (n + i)) Fb, ?_, ?_⟩
          · show ArgI g G H σ F Fv (a :: qs) (zs.getD i V.non :: pick V.non vs zs dvV src) _
            rw [getD_of ev']
            exact more B r q (A.ok (n + i)) (fun j x h1 h2 => by
              obtain ⟨j', hj, h3⟩ := hB j x h2
              exact A.dj (n + i) j' (fun e => n1 (by rw [e]; exact hj)) x h1 h3) hin
          · intro k x hx
            cases k with
            | zero => exact ⟨n + i, List.mem_cons_self, hx⟩
            | succ k => obtain ⟨j, hj, h3⟩ := hB k x hx; exact ⟨j, List.mem_cons_of_mem _ hj, h3⟩
    | d i =>
      unfold permA at e
      cases e1 : dv[i]? with
      | none => rw [e1] at e; cases e
      | some d =>
        cases e2 : permA n dv as src with
        | none => rw [e1, e2] at e; cases e
        | some qs =>
          rw [e1, e2] at e
          cases e
          have nd' : (srIx n src).Nodup := nd
          obtain ⟨Fb, B, hB⟩ := perm_of A hv hd nd' e2
          have h1 : (dv.map atomV)[i]? = some (atomV d) := by rw [List.getElem?_map, e1]; rfl
          rw [hd, List.getElem?_map] at h1
          cases h2 : dvV[i]? with
          | none => rw [h2] at h1; cases h1
          | some v =>
            rw [h2] at h1
            have h3 : atomV d = some v := (Option.some.inj h1).symm
            refine ⟨shF Fe Fb, ?_, ?_⟩
            · show ArgI g G H σ F Fv (⟨d, none⟩ :: qs) (dvV.getD i V.non :: pick V.non vs zs dvV src) _
              rw [getD_of h2]
              exact more (A0 := Fe) B (atom_rep h3) (fun k z => nomatch z) (fun _ z => z.elim) (fun _ _ z => z.elim) (fun _ z => z.elim)
            · intro k x hx
              cases k with
              | zero => exact hx.elim
              | succ k => exact hB k x hx
end
end DV

namespace DV
open PySem L2
def callF (fn : Fn) (n : Nat) (src : List Sr) (dv : List D) (as : List Arg) (δ1 : Env) : R D := if (owns as).Nodup then match permA n dv as src with
    | some ps => fin fn ps δ1
    | none => .bad
  else .bad
def callE (fn : Fn) (n : Nat) (src : List Sr) (dv : List D) (os : List Od) : Ev := fun δ => (evOds os δ).bind fun xs δ1 => match prep δ1 xs with
  | none => .bad
  | some as => callF fn n src dv as δ1
def methE (fn : Fn) (c : Nat) (m : Str) (n : Nat) (src : List Sr) (dv : List D) (o0 : Od) (os : List Od) : Ev := fun δ => (evOd o0 δ).bind fun x0 δ0 => match resO δ0 x0 with
  | some (.ins _ c' ns _) => if c' = c ∧ ¬ m ∈ ns then (evOds os δ0).bind fun xs δ1 => match prep δ1 (x0 :: xs) with
      | none => .bad
      | some as => callF fn n src dv as δ1
    else .bad
  | _ => .bad
def mkF (fn : Fn) (ps : List Arg) (δ : Env) : R D := if (owns ps).Nodup then match fn (argE ps) with
    | .ok .non ε => match gt ε 0 with
      | some d => .ok d (wb ε 0 ps (outL (owns ps) δ))
      | none => .bad
    | .ok _ _ => .bad
    | .ex x ε => .ex x (wb ε 0 ps (outL (owns ps) δ))
    | .bad => .bad
  else .bad
def makeE (fn : Fn) (c : Nat) (n : Nat) (src : List Sr) (dv : List D) (os : List Od) : Ev := fun δ => (evOds os δ).bind fun xs δ1 => match prep δ1 xs with
  | none => .bad
  | some as => if (owns as).Nodup then match permA n dv (⟨.ins true c [] [], none⟩ :: as) src with
      | some ps => match ps with
        | ⟨_, none⟩ :: _ => mkF fn ps δ1
        | _ => .bad
      | none => .bad
    else .bad
section
variable {g : Cfg} {W : WX} {G G' G1 G2 : Fp} {H H' H1 H2 : Hp} {σ : St} {δ δ' δ1 : Env} {F F' F1 : Nat → Fp} {Q : VK}
theorem callF_run {m n : Nat} {fn : Fn} {src : List Sr} {dv : List D} {dvV : List V} {xs : List OV} {vs zs : List V} {Fv : Fp} (hd : dv.map atomV = dvV.map some) (nd : (srIx n src).Nodup) (hm : src.length = m) (S1 : StR g G1 H1 σ δ1 F1)
    (rs : RepOs g G1 H1 σ xs (vs ++ zs) Fv) (ok : Ok G1 H1 Fv) (dj : Dj Fv (U F1)) (E1 : Ext G H (U F) G1 H1 (Un2 (U F1) Fv)) (hv : vs.length = n)
    (P : Post g W G H F σ (match prep δ1 xs with | none => .bad | some as => callF fn n src dv as δ1) Q) : spF g m fn (pick V.non vs zs dvV src) H1 Q (fun c d H => W c d σ H) := by
  cases e : prep δ1 xs with
  | none => rw [e] at P; exact False.elim P
  | some as =>
    rw [e] at P
    simp only [callF] at P
    by_cases nd1 : (owns as).Nodup
    · rw [if_pos nd1] at P
      obtain ⟨Fa, A⟩ := args_of S1 rs ok dj e nd1
      cases e2 : permA n dv as src with
      | none => rw [e2] at P; exact False.elim P
      | some ps =>
        rw [e2] at P
        obtain ⟨Fb, B, _⟩ := perm_of A hv hd nd e2
        refine fin_run S1 B dj E1 ?_ P
        rw [B.len]
        exact (permA_len e2).trans hm
    · rw [if_neg nd1] at P; exact False.elim P
where
  permA_len : ∀ {n : Nat} {dv : List D} {as : List Arg} {src : List Sr} {ps : List Arg}, permA n dv as src = some ps → ps.length = src.length
    | _, _, _, [], ps, e => by cases e; rfl
    | n, dv, as, .u i :: r, ps, e => by
      unfold permA at e
      cases e1 : as[i]? with
      | none => rw [e1] at e; cases e
      | some a =>
        cases e2 : permA n dv as r with
        | none => rw [e1, e2] at e; cases e
        | some qs =>
          rw [e1, e2] at e
          simp only at e
          split at e
          · cases e; rw [List.length_cons, List.length_cons, permA_len e2]
          · cases e
    | n, dv, as, .w i :: r, ps, e => by
      unfold permA at e
      cases e1 : as[n + i]? with
      | none => rw [e1] at e; cases e
      | some a =>
        cases e2 : permA n dv as r with
        | none => rw [e1, e2] at e; cases e
        | some qs => rw [e1, e2] at e; cases e; rw [List.length_cons, List.length_cons, permA_len e2]
    | n, dv, as, .d i :: r, ps, e => by
      unfold permA at e
      cases e1 : dv[i]? with
      | none => rw [e1] at e; cases e
      | some a =>
        cases e2 : permA n dv as r with
        | none => rw [e1, e2] at e; cases e
        | some qs => rw [e1, e2] at e; cases e; rw [List.length_cons, List.length_cons, permA_len e2]
theorem repOs_len : ∀ {xs : List OV} {vs : List V} {A : Fp}, RepOs g G H σ xs vs A → vs.length = xs.length
  | [], _, _, h => by rw [h]; rfl
  | .tmp _ :: xs, _, _, ⟨v, vr, F1, F2, e, l1, l2, dj, r, rs⟩ => by rw [e, List.length_cons, List.length_cons, repOs_len rs]
  | .late _ :: xs, _, _, ⟨v, vr, e, h, rs⟩ => by rw [e, List.length_cons, List.length_cons, repOs_len rs]
theorem call_read {m n : Nat} {fn : Fn} {src : List Sr} {dv : List D} {dvV : List V} {os1 os2 : List Od} (hd : dv.map atomV = dvV.map some) (nd : (srIx n src).Nodup) (hm : src.length = m) (hn : os1.length = n) (S : StR g G H σ δ F)
    (P : Post g W G H F σ (callE fn n src dv (os1 ++ os2) δ) Q) : tOs g W os1 σ H fun vs H1 => tOs g W os2 σ H1 fun zs H2 => vs.length = n ∧ zs.length = os2.length ∧ spF g m fn (pick V.non vs zs dvV src) H2 Q (fun c d H => W c d σ H) := by
  have h0 : tOs g W (os1 ++ os2) σ H fun ws H2 => ∀ vs zs, ws = vs ++ zs → vs.length = n → spF g m fn (pick V.non vs zs dvV src) H2 Q (fun c d H => W c d σ H) :=
    ods_run S (PostG.mono (PostG.bind P) fun xs δ1 H1 G1 F1 S1 P1 ws Fv rs ok dj E1 vs zs e hv => callF_run hd nd hm S1 (by rw [← e]; exact rs) ok dj E1 hv P1)
  have h1 := tOs_len (tOs_append h0)
  refine tOs_mono (fun vs H1 ⟨q1, q2⟩ => ?_) h1
  have q3 := tOs_len q2
  exact tOs_mono (fun zs H2 ⟨q4, q5⟩ => ⟨q1.trans hn, q4, q5 vs zs rfl (q1.trans hn)⟩) q3
theorem lookup_zip {m : Str} : ∀ {ns : List Str} {vs : List V}, ¬ m ∈ ns → (ns.zip vs).lookup m = none
  | [], _, _ => rfl
  | _ :: _, [], _ => rfl
  | n :: ns, w :: vs, hm => by
    simp only [List.mem_cons, not_or] at hm
    rw [List.zip_cons_cons, List.lookup_cons]
    have : (m == n) = false := by simpa using hm.1
    rw [this]
    exact lookup_zip hm.2
theorem ins_at {o : Bool} {c : Nat} {ns : List Str} {ds : List D} {v : V} {A : Fp} {m : Str} (r : Rep g G H (.ins o c ns ds) v A) (hm : ¬ m ∈ ns) : ∃ a dx fs, v = .ref a ∧ H a = some (.ins (g.C c) dx fs) ∧ fs.lookup m = none := by
  obtain ⟨a, dx, vs, F', e, h, _⟩ := r
  exact ⟨a, dx, _, e, h, lookup_zip hm⟩
theorem meth_read {m n c : Nat} {name : Str} {fn : Fn} {src : List Sr} {dv : List D} {dvV : List V} {o0 : Od} {os1 os2 : List Od} (hd : dv.map atomV = dvV.map some) (nd : (srIx n src).Nodup) (hm : src.length = m) (hn : os1.length + 1 = n) (S : StR g G H σ δ F)
    (P : Post g W G H F σ (methE fn c name n src dv o0 (os1 ++ os2) δ) Q) : tO g W o0 σ H fun x H1 => ∃ a dx fs, x = .ref a ∧ H1 a = some (.ins (g.C c) dx fs) ∧ fs.lookup name = none ∧
      tOs g W os1 σ H1 fun vs H2 => tOs g W os2 σ H2 fun zs H3 => (V.ref a :: vs).length = n ∧ zs.length = os2.length ∧ spF g m fn (pick V.non (.ref a :: vs) zs dvV src) H3 Q (fun c d H => W c d σ H) := by
  refine od_run S (PostG.mono (PostG.bind P) fun x0 δ1 H1 G1 F1 S1 P1 v Fv r ok1 dj1 E1 => ?_)
  have hins : ∀ {o c' ns ds}, resO δ1 x0 = some (.ins o c' ns ds) → ∃ A, Rep g G1 H1 (.ins o c' ns ds) v A := fun {o c' ns ds} e => by
    cases x0 with
    | tmp d =>
      obtain ⟨v', vr, A, B, e1, l1, l2, dj0, r, e2⟩ := r
      cases e1
      cases e
      exact ⟨A, r⟩
    | late i =>
      obtain ⟨v', vr, e1, h, e2⟩ := r
      cases e1
      obtain ⟨v2, ev, r⟩ := S1.at_ i _ e
      rw [h] at ev
      cases ev
      exact ⟨_, r⟩
  split at P1
  · rename_i o c' ns ds e
    split at P1
    · rename_i hc
      obtain ⟨A, rI⟩ := hins e
      obtain ⟨a, dx, fs, rfl, ha, hl⟩ := ins_at rI hc.2
      rw [hc.1] at ha
      refine ⟨a, dx, fs, rfl, ha, hl, ?_⟩
      have h0 : tOs g W (os1 ++ os2) σ H1 fun ws H2 => ∀ vs zs, ws = vs ++ zs → vs.length + 1 = n → spF g m fn (pick V.non (.ref a :: vs) zs dvV src) H2 Q (fun c d H => W c d σ H) := by
        refine ods_run S1 ((PostG.mono (PostG.bind P1) fun xs δ2 H2 G2 F2 S2 P2 ws Fvs rs ok2 dj2 E2 vs zs e hv => ?_).on E1 Le.inl)
        have okF : Ok G1 H1 (U F1) := S1.okU
        refine callF_run (xs := x0 :: xs) (vs := .ref a :: vs) (zs := zs) (Fv := Un2 Fv Fvs) hd nd hm S2 ?_ (fun a h => h.elim (E2.ok ok1 dj1 a) (ok2 a)) (fun a h z => h.elim (fun h => E2.dj ok1 dj1 a h (.inl z)) fun h => dj2 a h z) ?_ (by rw [List.length_cons]; exact hv) P2
        · show RepOs g G2 H2 σ (x0 :: xs) (.ref a :: (vs ++ zs)) _
          rw [← e]
          cases x0 with
          | tmp d =>
            obtain ⟨v', vr, A, B, e, l1, l2, dj0, r, e2⟩ := r
            cases e
            exact ⟨_, ws, Fv, Fvs, rfl, Le.inl, Le.inr, fun a h z => E2.dj ok1 dj1 a h (.inr z), (E2.rep okF r (dj1.le l1 (Le.refl _))).le l1, rs⟩
          | late i =>
            obtain ⟨v', vr, e, h, e2⟩ := r
            cases e
            exact ⟨_, ws, rfl, h, rs.le Le.inr⟩
        · refine E1.trans (U1' := Un2 (U F1) Fv) (E2.frame (Fh := Fv)) (Le.refl _) |>.weak (Le.refl _) fun a h => ?_
          rcases h with h | h | h
          · exact .inl (.inl h)
          · exact .inr h
          · exact .inl (.inr h)
      have h1 := tOs_len (tOs_append h0)
      refine tOs_mono (fun vs H2 ⟨q1, q2⟩ => ?_) h1
      exact tOs_mono (fun zs H3 ⟨q4, q5⟩ => ⟨by rw [List.length_cons, q1]; exact hn, q4, q5 vs zs rfl (by rw [q1]; exact hn)⟩) (tOs_len q2)
    · exact False.elim P1
  · exact False.elim P1
theorem make_read {m n c : Nat} {fn : Fn} {src : List Sr} {dv : List D} {dvV : List V} {os1 os2 : List Od} (hs0 : src.head? = some (.u 0)) (hd : dv.map atomV = dvV.map some) (nd : (srIx (n + 1) src).Nodup) (hm : src.length = m) (hn : os1.length = n) (S : StR g G H σ δ F)
    (P : Post g W G H F σ (makeE fn c (n + 1) src dv (os1 ++ os2) δ) Q) : tOs g W os1 σ H fun vs H1 => tOs g W os2 σ H1 fun zs H2 => vs.length = n ∧ zs.length = os2.length ∧ ∀ x dx, H2 x = none → H2 dx = none → dx ≠ x →
      spF g m fn (pick V.non (.ref x :: vs) zs dvV src) (upd (upd H2 dx (.own x)) x (.ins (g.C c) dx [])) (fun v H3 => v = .non ∧ Q (.ref x) H3) (fun c d H => W c d σ H) := by
  have h0 : tOs g W (os1 ++ os2) σ H fun ws H2 => ∀ vs zs, ws = vs ++ zs → vs.length = n → ∀ x dx, H2 x = none → H2 dx = none → dx ≠ x →
      spF g m fn (pick V.non (.ref x :: vs) zs dvV src) (upd (upd H2 dx (.own x)) x (.ins (g.C c) dx [])) (fun v H3 => v = .non ∧ Q (.ref x) H3) (fun c d H => W c d σ H) := by
    refine ods_run S (PostG.mono (PostG.bind P) fun xs δ1 H1 G1 F1 S1 P1 ws Fv rs ok dj E1 vs zs e hv x dx hx hdx ne => ?_)
    cases ep : prep δ1 xs with
    | none => simp only [ep] at P1; exact False.elim P1
    | some as =>
      simp only [ep] at P1
      by_cases nd1 : (owns as).Nodup
      · rw [if_pos nd1] at P1
        rw [e] at rs
        obtain ⟨Fa, A⟩ := args_of S1 rs ok dj ep nd1
        cases e2 : permA (n + 1) dv (⟨.ins true c [] [], none⟩ :: as) src with
        | none => rw [e2] at P1; exact False.elim P1
        | some ps =>
          rw [e2] at P1
          -- the new instance
          generalize hH : upd (upd H1 dx (.own x)) x (.ins (g.C c) dx []) = H3
          have hx2 : upd H1 dx (.own x) x = none := by rw [upd_ne (Ne.symm ne)]; exact hx
          have sm : Same H1 H3 := by
            rw [← hH]
            exact (same_new hdx).trans (same_new hx2)
          have h3x : H3 x = some (.ins (g.C c) dx []) := by rw [← hH]; exact upd_same
          let Fx : Fp := fun a => a = x
          have okx : Ok G1 H3 Fx := fun a h => by
            rw [show a = x from h, h3x]
            exact ⟨trivial, fun z => S1.gs _ z hx⟩
          have rx : Rep g G1 H3 (.ins true c [] []) (.ref x) Fx := ⟨x, dx, [], Fe, rfl, h3x, rfl, rfl, fun _ z => z.elim, rfl⟩
          have S3 := S1.same sm
          have newx : ∀ {B : Fp}, Ok G1 H1 B → Dj Fx B := fun {B} o a h z => by
            have := (o a z).1
            rw [show a = x from h, hx] at this
            exact this
          have A3 : ArgI g G1 H3 σ F1 (Un2 Fv Fx) (⟨.ins true c [] [], none⟩ :: as) (.ref x :: (vs ++ zs)) (shF Fx Fa) := by
            refine ⟨by rw [List.length_cons, List.length_cons, A.len], fun i b h => ?_, fun i j h => ?_, fun i => ?_, fun i y hy => ?_⟩
            · cases i with
              | zero => cases h; exact ⟨_, rfl, rx, fun k z => nomatch z⟩
              | succ i =>
                obtain ⟨v, e1, r, q⟩ := A.at_ i b h
                exact ⟨v, e1, r.same sm, q⟩
            · cases i with
              | zero =>
                cases j with
                | zero => exact absurd rfl h
                | succ j => exact newx (A.ok j)
              | succ i =>
                cases j with
                | zero => exact (newx (A.ok i)).symm
                | succ j => exact A.dj i j fun e => h (by rw [e])
            · cases i with
              | zero => exact okx
              | succ i => exact ok_same (A.ok i) sm
            · cases i with
              | zero => exact .inl (.inr hy)
              | succ i => exact (A.in_ i y hy).elim (fun h => .inl (.inl h)) fun ⟨b, k, h1, h2, h3⟩ => .inr ⟨b, k, h1, h2, h3⟩
          obtain ⟨Fb, B, _⟩ := perm_of (vs := .ref x :: vs) A3 (by rw [List.length_cons, hv]) hd nd e2
          have djv : Dj (Un2 Fv Fx) (U F1) := fun a h z => h.elim (fun h => dj a h z) fun h => newx S1.okU a h z
          have E3 : Ext G H (U F) G1 H3 (Un2 (U F1) (Un2 Fv Fx)) := (E1.trans (.new (U1 := Un2 (U F1) Fv) (Fv := Fx) sm (Le.refl _) fun a h => by rw [show a = x from h]; exact hx) (Le.refl _)).weak (Le.refl _) fun a h => by
            rcases h with h | h | h
            · exact .inl (.inl h)
            · exact .inl (.inr h)
            · exact .inr h
          have hl : (pick V.non (.ref x :: vs) zs dvV src).length = m := by rw [B.len]; exact (callF_run.permA_len e2).trans hm
          refine ⟨hl, G1, argE ps, Fb, B.str S3.gs, ?_⟩
          match ps, P1 with
          | ⟨d0, none⟩ :: ps, P1 =>
            simp only [mkF] at P1
            by_cases nd2 : (owns (⟨d0, none⟩ :: ps)).Nodup
            · rw [if_pos nd2] at P1
              -- its first argument is the instance
              have hp0 : (pick V.non (.ref x :: vs) zs dvV src)[0]? = some (.ref x) := by
                cases src with
                | nil => cases hs0
                | cons s r => cases hs0; rfl
              cases ef : fn (argE (⟨d0, none⟩ :: ps)) with
              | bad => rw [ef] at P1; exact False.elim P1
              | ex y ε =>
                rw [ef] at P1
                intro cls dd H' G' F' S' xr E'
                obtain ⟨F2, S2, le, dj2, ext⟩ := back_run S3 B djv E3 S' E' (Le.refl _)
                exact P1 cls dd H' G' F2 S2 xr (ext _ fun a h => (le a h).elim .inr fun h => .inl (retF_U a h))
              | ok d ε =>
                rw [ef] at P1
                cases d with
                | non =>
                  simp only at P1
                  cases eg : gt ε 0 with
                  | none => rw [eg] at P1; exact False.elim P1
                  | some d1 =>
                    rw [eg] at P1
                    intro H' G' F' S' v Fr r o dj E'
                    obtain ⟨F2, S2, le, dj2, ext⟩ := back_run S3 B djv E3 S' E' Le.inl
                    obtain ⟨v1, ev1, r1⟩ := S'.at_ 0 d1 eg
                    rw [List.getElem?_map, hp0] at ev1
                    cases ev1
                    refine ⟨r, P1 H' G' F2 S2 (.ref x) (F' 0) r1 (S'.ok 0) (fun a x y => ?_) (ext _ fun a h => ?_)⟩
                    · rcases le a y with y | ⟨i, b, k, hb, hk, y⟩
                      · exact dj2 a (.inl ⟨0, x⟩) y
                      · cases i with
                        | zero => cases hb; cases hk
                        | succ i => exact S'.dj 0 (0 + (i + 1)) (by omega) a x y
                    · rcases h with h | h
                      · exact (le a h).elim .inr fun h => .inl (.inl (retF_U a h))
                      · exact .inl (.inl ⟨0, h⟩)
                | _ => exact False.elim P1
            · rw [if_neg nd2] at P1; exact False.elim P1
          | ⟨_, some _⟩ :: _, P1 => exact False.elim P1
          | [], P1 => exact False.elim P1
      · rw [if_neg nd1] at P1; exact False.elim P1
  have h1 := tOs_len (tOs_append h0)
  refine tOs_mono (fun vs H1 ⟨q1, q2⟩ => ?_) h1
  exact tOs_mono (fun zs H2 ⟨q4, q5⟩ => ⟨q1.trans hn, q4, q5 vs zs rfl (q1.trans hn)⟩) (tOs_len q2)
end
end DV

namespace DV
open PySem L2 PyProof.Rows
/-! ### room, with nothing guarded on the stack (repr wants it) -/
structure Room (k : Nat) (A : Around) : Prop where
  rm : L2.Room k A
  gd : A.guards = some []
theorem Room.hd {k : Nat} {A : Around} (r : Room k A) : A.handled = none := r.rm.hd
theorem Room.un {k : Nat} {A : Around} (r : Room k A) : A.units + 16 * k + 200 < cLine := r.rm.un
theorem Room.dp {k : Nat} {A : Around} (r : Room k A) : A.depth + 3 * k + 5 < recursionLimit := r.rm.dp
theorem Room.mono {j k : Nat} {A : Around} (r : Room k A) (h : j ≤ k) : Room j A := ⟨r.rm.mono h, r.gd⟩
theorem Room.deeper {k : Nat} {A : Around} (r : Room (k + 1) A) (env : _root_.PySem.Env) : Room k (A.deeper env) := ⟨r.rm.deeper env, r.gd⟩
theorem Room.make {k : Nat} {A : Around} (r : Room (k + 1) A) (C : Addr) (us : List Value) (kw : List (Str × Value)) : Room k (A.under (.builtin "type.__call__" ⟨.ref C :: us, kw⟩)) := by
  refine ⟨r.rm.make C us kw, ?_⟩
  have g := r.gd
  simp [Around.under, Code.guards, Code.isGuard, guardIds, pushGuards, g]
/-- a def keeps its promise, where nothing is guarded -/
structure FnOk (P : Program) (w : World) (K : PySem.W.Frag) (mg : Str → Option Value) (base : Heap) (CX : CXT) (k : Nat) (f : Addr) (fd : FuncData) (ps : List Str) (sp : Sp) : Prop where
  len : ∀ vs H Q E, sp vs H Q E → vs.length = ps.length
  run : ∀ (A : Around) (outer : List _root_.PySem.Env) (s : Shared) (H : Hp) (args : Args) (us : List Value) (vs : List V) (Q : VK) (E : XK), Room k A → Env0 P w K mg base A outer s H → BindsTo s fd args (ps.zip us) →
    Vals vs us → sp vs H Q E → codeAny (model P w) A (.call (.ref f) args) (CR CX outer P w H s Q E) s
section
variable {P : Program} {w : World} {K : PySem.W.Frag} {mg : Str → Option Value} {base : Heap} {CX : CXT} {k : Nat} {f : Addr} {fd : FuncData} {ps : List Str}
theorem FnOk.imp {sp sp' : Sp} (F : FnOk P w K mg base CX k f fd ps sp) (h : ∀ vs H Q E, sp' vs H Q E → sp vs H Q E) : FnOk P w K mg base CX k f fd ps sp' :=
  ⟨fun _ _ _ _ q => F.len _ _ _ _ (h _ _ _ _ q), fun A o s H as us vs Q E r e b v q => F.run A o s H as us vs Q E r e b v (h _ _ _ _ q)⟩
/-- the rule for a def, by its body -/
theorem fnOk_of {x qual : Str} {params : Arguments} {body : List Stmt} {scope : Scope} {dvs : List V} {kws : List (Str × V)} {N : List Str} {sp : Sp} (F : FunD K x qual params body scope dvs kws f fd) (S : FnScope N ps scope) (len : ∀ vs H Q E, sp vs H Q E → vs.length = ps.length)
    (hbody : ∀ (cdv : Value) (A : Around) (outer : List _root_.PySem.Env) (s : Shared) (H : Hp) (vs : List V) (Q : VK) (E : XK), Room k (A.deeper (envOfC qual scope s.heap.objs.size f cdv)) → sp vs H Q E →
      ∃ t, PSs (cxOf CX P w K mg base N qual scope f cdv A outer s H E) body t ∧ t { nx := fun _ J => Q .non J, rt := Q } (L2.start N vs) H) : FnOk P w K mg base CX (k + 1) f fd ps sp := by
  obtain ⟨c0, d0, v1, v2, dc, pm, an, cdv, ct, sl, e0, lk, hcd, _, _⟩ := F.ex
  subst e0
  refine ⟨len, fun A outer s H args us vs Q E hr env hb rv hsp => ?_⟩
  have n := len vs H Q E hsp
  have grown : ∀ b o, base.get? b = some o → s.heap.get? b = some o := fun b o e => (env.bs b o e).1
  have kin : K.In s.heap := env.mod.kin.keeps grown
  have kinds : ∀ y ∈ ps.zip us, scope.names.lookup y.1 = some .local ∨ (scope.names.lookup y.1 = some .cell ∧ ((cellsFrom (s.heap.objs.size + 1) scope.names []).lookup y.1).isSome = true) := by
    rintro ⟨nm, v⟩ hy
    exact (S.par nm (List.of_mem_zip hy).1).imp id fun q => ⟨q, PySem.W.cellsFrom_some _ _ _ (.inl q)⟩
  refine codeAny_call_function hr.rm.depth (kin _ _ lk) rfl S.co S.gen rfl (PySem.W.codeRec_of kin hcd) (hb _ _ _ _ (wpAny_newFunctionEnv_cells S.kind kinds fun env2 he s1 inc => ?_))
  subst he
  obtain ⟨t, ht, hq⟩ := hbody cdv A outer s H vs Q E (hr.deeper _) hsp
  have I := inv_start (CX := CX) (E := E) (cd := cdv) (f := f) (qual := qual) S hr.hd env n rv inc
  refine ⟨(env.mod.nolimit.keeps grown).keeps inc.toInCall.keep, codeAny_func (wpAny_mono (ht.run [] s1 (L2.start N vs) H _ I hq) (fun fl s' hs => ?_) fun _ _ z => z)⟩
  cases fl with
  | ret u => obtain ⟨v, σ', J, I2, rv2, q⟩ := hs; exact ⟨v, J, I2.os, I2.bare, I2.base, I2.hok, rv2, q⟩
  | next => obtain ⟨σ', J, I2, q⟩ := hs; exact ⟨V.non, J, I2.os, I2.bare, I2.base, I2.hok, rfl, q⟩
  | brk => obtain ⟨_, _, _, z⟩ := hs; exact z.elim
  | cont => obtain ⟨_, _, _, z⟩ := hs; exact z.elim
end
/-! ### the law's call -/
section
variable {P : Program} {w : World} {K : PySem.W.Frag} {mg mb : Str → Option Value} {CX : CXT} {k : Nat} {fa a : Addr} {fd : FuncData} {x : Str} {sp : Sp} {s0 : Shared} {us : List Value} {ns : List Int}
abbrev LawEnd (s0 : Shared) (r : Result) (s' : Shared) : Prop := r = .ok (.ret (.bool true)) ∧ OldK s0.heap s'.heap ∧ s'.os = s0.os ∧ AllBare s'.gens
/-- .. from an abstract heap in which nothing but the script may stand -/
theorem call_core (KX : K.In s0.heap) (hns : s0.heap.Ns mainGlobals mg) (hb : s0.heap.Ns builtinsNs mb) (hbb : ∀ x : Str, x ≠ "__name__" → mb x = bootBuiltins x) (hlim : s0.heap.NoLimit) (hg : s0.gens = #[])
    (ha : s0.heap.get? a = some { cls := .type "list", data := .seq us.toArray }) (hr : Room k callerA) (F : ∀ base : Heap, K.In base → base.Ns mainGlobals mg → FnOk P w K mg base CX k fa fd [x] sp)
    (hbind : ∀ (s : Shared) (u : Value), BindsTo s fd ⟨[u], []⟩ [(x, u)]) (hCX : ∀ H e s', CX [] H s0 (fun _ _ _ => False) e s' → False) (H : Hp) (hO : Only H) (hsp : sp [.ref a] H (fun v _ => v = .bl true) fun _ _ _ => False)
    (hok : HOk P w H s0.heap) (hA : ∀ b, H b ≠ none → b = a) (hK : H a ≠ none → K.lookup a = none) : codeAny (model P w) callerA (.call (.ref fa) ⟨[.ref a], []⟩) (LawEnd s0) s0 := by
  have free : ∀ {b : Addr}, b ≠ a → H b = none := fun {b} n => Classical.byContradiction fun z => n (hA b z)
  have hid : ∀ {b : Addr} {o : Obj}, s0.heap.get? b = some o → H b = none → (hidT s0.heap H).get? b = some o := fun e z => hidT_get e z
  have notA : ∀ {b : Addr} {o : Obj} {es : Array DictEntry} {ep : Nat}, s0.heap.get? b = some o → o.data = .dict es ep → b ≠ a := fun {b o es ep} e d z => by
    rw [z, ha] at e
    cases e
    cases d
  have space : ∀ {b : Addr} {m : Str → Option Value}, s0.heap.Ns b m → (hidT s0.heap H).Ns b m := fun {b m} ⟨o, es, ep, e, d, r⟩ => ⟨o, es, ep, hid e (free (notA e d)), d, r⟩
  have kin : K.In (hidT s0.heap H) := fun b o e => hid (KX b o e) (Classical.byContradiction fun z => by
    have eb := hA b z
    rw [eb] at z e
    rw [hK z] at e
    cases e)
  have md : Mod K mg (hidT s0.heap H) := ⟨kin, space hns, ⟨mb, space hb, hbb⟩, let ⟨mc, h1, h2⟩ := hlim; ⟨mc, space h1, h2⟩⟩
  have none_in : ∀ b : Addr, ¬ b ∈ ([] : List Addr) := fun b z => by cases z
  have env : Env0 P w K mg (hidT s0.heap H) callerA [] s0 H := ⟨rfl, md, fun _ _ e => of_hidT e, Nat.le_of_eq (hidT_size _ _), trivial, fun b z => (none_in b z).elim, hok, .of_eq hg⟩
  refine codeAny_mono ((F _ kin (space hns)).run callerA [] s0 H ⟨[.ref a], []⟩ [.ref a] [.ref a] (fun v _ => v = .bl true) (fun _ _ _ => False) hr env (hbind s0 (.ref a)) (.cons rfl .nil) hsp) fun r s' q => ?_
  match r, q with
  | .error e, q => exact (hCX H e s' q).elim
  | .ok .next, q => exact q.elim
  | .ok .brk, q => exact q.elim
  | .ok .cont, q => exact q.elim
  | .ok (.ret u), ⟨v, J, hos, hbare, un, hok2, rv, ev⟩ =>
    cases (show v = .bl true from ev)
    cases (show u = Value.bool true from rv)
    refine ⟨rfl, OldK.of_keep fun b o e => ?_, hos, hbare⟩
    by_cases z : H b = none
    · exact un.keep b o e z (none_in b) (none_in b)
    · obtain ⟨ob, xs, z2⟩ := (hO b).resolve_left z
      have g1 := (hok b _ z2).1
      have g2 := (hok2 b _ (un.frzs b ob _ z2)).1
      rw [e] at g1
      cases g1
      exact g2
theorem law_callR (KX : K.In s0.heap) (hns : s0.heap.Ns mainGlobals mg) (hb : s0.heap.Ns builtinsNs mb) (hbb : ∀ x : Str, x ≠ "__name__" → mb x = bootBuiltins x) (hlim : s0.heap.NoLimit) (hg : s0.gens = #[])
    (ha : s0.heap.get? a = some { cls := .type "list", data := .seq us.toArray }) (hi : IntsAre us ns) (hl : ns.length ≤ sizeLine) (hr : Room k callerA) (F : ∀ base : Heap, K.In base → base.Ns mainGlobals mg → FnOk P w K mg base CX k fa fd [x] sp)
    (hbind : ∀ (s : Shared) (u : Value), BindsTo s fd ⟨[u], []⟩ [(x, u)]) (hsp : ∀ H : Hp, Only H → SqL K H a (ns.map V.int) → sp [.ref a] H (fun v _ => v = .bl true) fun _ _ _ => False)
    (hCX : ∀ H e s', CX [] H s0 (fun _ _ _ => False) e s' → False) : codeAny (model P w) callerA (.call (.ref fa) ⟨[.ref a], []⟩) (LawEnd s0) s0 := by
  have rv := vals_ints hi
  cases lk : K.lookup a with
  | some o =>
    have e := KX a o lk
    rw [ha] at e
    cases e
    have O : Only (fun _ => none) := fun _ => .inl rfl
    exact call_core KX hns hb hbb hlim hg ha hr F hbind hCX (fun _ => none) O (hsp _ O (.inr ⟨_, us.toArray, _, lk, rfl, rfl, rfl, by rw [List.size_toArray, hi.length]; exact hl, by simpa using rv⟩)) (fun _ _ z => nomatch z) (fun _ z => (z rfl).elim) fun z => (z rfl).elim
  | none =>
    generalize hH : (fun b => if b = a then some (HO.frz { cls := .type "list", data := .seq us.toArray } (.lst (ns.map V.int))) else none : Hp) = H
    have at_a : H a = some (HO.frz { cls := .type "list", data := .seq us.toArray } (.lst (ns.map V.int))) := by rw [← hH]; exact if_pos rfl
    have off_a : ∀ {b : Addr}, b ≠ a → H b = none := fun {b} n => by rw [← hH]; exact if_neg n
    have O : Only H := fun b => by
      by_cases n : b = a
      · exact .inr ⟨_, _, n ▸ at_a⟩
      · exact .inl (off_a n)
    refine call_core KX hns hb hbb hlim hg ha hr F hbind hCX H O (hsp H O (.inl (.inr ⟨_, at_a⟩))) (fun b u z => ?_) (fun b z => Classical.byContradiction fun n => z (off_a n)) fun _ => lk
    by_cases n : b = a
    · subst n
      rw [at_a] at z
      cases z
      exact ⟨ha, by rw [List.length_map]; exact hl, us, _, rv, ha⟩
    · rw [off_a n] at z
      cases z
end
/-- the goal that the head leaves, from the law's promise -/
theorem walk_of {l : PySem.W.OpenLaw} {n k : Nat} {q : Program} {loose : List Str} {XP : (Str → Option Value) → Heap → Prop} {YP : World → Heap → Prop} {d : DefRec} {K : Params → PySem.W.Frag} {CX : World → CXT} {sp : World → Sp} {x : Str}
    (hn : l.most = some n) (hn2 : n ≤ sizeLine) (hdf : d.params.defaults = []) (hr : Room k callerA) (hY : ∀ (w : World) (h : Heap), YP w h → (K w.params).In h)
    (F : ∀ (w : World) (mg : Str → Option Value) (fa : Addr) (h : Heap), (K w.params).In h → h.Ns mainGlobals mg → mg d.name = some (.ref fa) →
      ∃ fd : FuncData, (∀ (s : Shared) (u : Value), BindsTo s fd ⟨[u], []⟩ [(x, u)]) ∧ ∀ base : Heap, (K w.params).In base → base.Ns mainGlobals mg → FnOk l.prog w (K w.params) mg base (CX w) k fa fd [x] (sp w))
    (hsp : ∀ (w : World) (H : Hp) (a : Addr) (ns : List Int), ns.length ≤ n → Only H → SqL (K w.params) H a (ns.map V.int) → sp w [.ref a] H (fun v _ => v = .bl true) fun _ _ _ => False)
    (hCX : ∀ (w : World) (H : Hp) (s : Shared) (e : Value) (s' : Shared), CX w [] H s (fun _ _ _ => False) e s' → False) : PySem.W.WalkO q loose XP YP l.row.toRowW d [] (fun f vs => PySem.call f vs) := by
  refine Att.attach_call hn hdf fun w s₀ s₁ mg mb fa o pm cd doc a vs ns G Y ho hd hcd hmg hobj hints hlen hg => ?_
  have kin := hY w s₁.heap Y
  obtain ⟨fd, hbind, hF⟩ := F w mg fa s₁.heap kin G.T.g hmg
  exact law_callR kin G.T.g G.T.b G.T.builtins G.T.nolimit hg hobj hints (Nat.le_trans hlen hn2) hr hF hbind (fun H O S => hsp w H a ns hlen O S) fun H e s' => hCX w H s₁ e s'
end DV

namespace DV
open PySem L2
section
variable {X : Cx} {g : Cfg} {W : WX} {k m n c : Nat} {f C : Addr} {fd : FuncData} {ps ks : List Str} {sp : Sp} {x name : Str} {p pos apos kpos : Pos} {e o : Expr} {es : List Expr} {kws : List Keyword} {os1 os2 : List Od} {o0 : Od} {src : List Sr} {dv : List D} {dvV : List V} {fn : Fn}
abbrev Fo (X : Cx) (g : Cfg) (k m : Nat) (f : Addr) (fd : FuncData) (ps : List Str) (fn : Fn) : Prop := FnOk X.prog X.w X.K X.mg X.base (L2.CX X.prog X.w) k f fd ps (spF g m fn)
theorem run_fnNS {gf : List Value → List Value → List Value} {gV : List V → List V → List V} {CX : CXT} {E : XK} {pins : List (Addr × Obj)} {σ : St} {H : Hp} {s : Shared} {Q : VK} {us ws : List Value} {vs zs : List V} (F : FnOk X.prog X.w X.K X.mg X.base CX k f fd ps sp) (hr : Room k X.A) (hb : KBn X.K fd ps n ks gf gV)
    (hx : PassesAt CX X σ E) (I : Inv X pins σ H s) (r : Vals vs us) (rz : Vals zs ws) (l1 : vs.length = n) (l2 : zs.length = ks.length) (h : sp (gV vs zs) H Q E) : wpAny (model X.prog X.w) X.A (call (.ref f) us (ks.zip ws)) (EP X pins σ Q) X.xe s := by
  have r2 := hb.rel r rz
  refine wpAny_call (codeAny_mono (F.run X.A X.stack s H ⟨us, ks.zip ws⟩ (gf us ws) (gV vs zs) Q E hr I.env0 (hb.to s us ws I.kIn (r.length.symm.trans l1) (rz.length.symm.trans l2)) r2 h) fun r s' hq => ?_)
  cases r with
  | error e => exact hx pins H s e s' I hq
  | ok fl =>
    cases fl with
    | ret u => exact I.after hq
    | next => exact False.elim hq
    | brk => exact False.elim hq
    | cont => exact False.elim hq
theorem run_makeNS {gf : List Value → List Value → List Value} {gV : List V → List V → List V} {CX : CXT} {E : XK} {pins : List (Addr × Obj)} {σ : St} {H : Hp} {s : Shared} {Q : VK} {us ws : List Value} {vs zs : List V} (M : Mk X.K C f) (F : FnOk X.prog X.w X.K X.mg X.base CX k f fd ps sp) (hr : Room (k + 1) X.A)
    (hb : KBn X.K fd ps (n + 1) ks gf gV) (hx : PassesAt CX X σ E) (I : Inv X pins σ H s) (r : Vals vs us) (rz : Vals zs ws) (l1 : vs.length = n) (l2 : zs.length = ks.length)
    (h : ∀ x dx, H x = none → H dx = none → dx ≠ x → sp (gV (.ref x :: vs) zs) (upd (upd H dx (.own x)) x (.ins C dx [])) (fun v H2 => v = .non ∧ Q (.ref x) H2) E) :
    wpAny (model X.prog X.w) X.A (call (.ref C) us (ks.zip ws)) (EP X pins σ Q) X.xe s := by
  have hq := h (s.heap.objs.size + 1) s.heap.objs.size (I.hok.fresh (Nat.le_succ _)) (I.hok.fresh (Nat.le_refl _)) (Nat.ne_of_lt (Nat.lt_succ_self _))
  have I2 := Inv.made (C := C) I
  have r1 : Vals (V.ref (s.heap.objs.size + 1) :: vs) (Value.ref (s.heap.objs.size + 1) :: us) := .cons rfl r
  have r2 := hb.rel r1 rz
  have n1 : (Value.ref (s.heap.objs.size + 1) :: us).length = n + 1 := by
    rw [List.length_cons, ← r.length, l1]
  refine wpAny_call (make_map (f := f) I.kIn M.makes M.init (beq_iff_eq.mp M.fn) (codeAny_mono (F.run _ X.stack _ _ ⟨Value.ref (s.heap.objs.size + 1) :: us, ks.zip ws⟩ (gf (Value.ref (s.heap.objs.size + 1) :: us) ws) _ _ E (hr.make C us (ks.zip ws))
    (I2.env0.make C us (ks.zip ws)) (hb.to _ (Value.ref (s.heap.objs.size + 1) :: us) ws I2.kIn n1 (rz.length.symm.trans l2)) r2 hq) fun r s' hq' => ?_))
  cases r with
  | error e => exact hx pins _ _ e s' I2 hq'
  | ok fl =>
    cases fl with
    | ret u =>
      obtain ⟨v, H', I3, rv, ev, q3⟩ := I2.after hq'
      subst ev
      exact ⟨rv, ⟨V.ref (s.heap.objs.size + 1), H', I3, rfl, q3⟩⟩
    | next => exact False.elim hq'
    | brk => exact False.elim hq'
    | cont => exact False.elim hq'
/-- keywords' operands -/
inductive SKs (X : Cx) (g : Cfg) (W : WX) : List Keyword → List Od → Prop
  | nil : SKs X g W [] []
  | cons {nm : Option Str} {e : Expr} {kp : Pos} {kws : List Keyword} {o : Od} {os : List Od} : SO X g W e o → SKs X g W kws os → SKs X g W (⟨nm, e, kp⟩ :: kws) (o :: os)
theorem SKs.pk {kws : List Keyword} {os : List Od} (h : SKs X g W kws os) : PK X kws (tOs g W os) := by
  induction h with
  | nil => exact pk_nil
  | cons h _ ih => exact pk_cons h ih
theorem SKs.len {kws : List Keyword} {os : List Od} (h : SKs X g W kws os) : os.length = kws.length := by
  induction h with
  | nil => rfl
  | cons h _ ih => rw [List.length_cons, List.length_cons, ih]
theorem SOs.len {es : List Expr} {os : List Od} (h : SOs X g W es os) : os.length = es.length := by
  induction h with
  | nil => rfl
  | cons h _ _ ih => rw [List.length_cons, List.length_cons, ih]
/-- what a call's rule asks of how it binds -/
structure Bd (K : PySem.W.Frag) (fd : FuncData) (ps ks : List Str) (n m : Nat) (src : List Sr) (dv : List D) (dvV : List V) : Prop where
  kb : KB K fd ps n ks src dvV
  dv : dv.map atomV = dvV.map some
  nd : (srIx n src).Nodup
  len : src.length = m
theorem se_call (F : Fo X g k m f fd ps fn) (hr : Room k X.A) (tk : Takes X W) (hg : Gl X x) (hm : X.mg x = some (.ref f)) (hk : PySem.W.keepIn X.K (.ref f) = true) (hb : Bd X.K fd ps ks n m src dv dvV) (ha : SOs X g W (e :: es) os1) (hkw : SKs X g W kws os2) (hn : (e :: es).length = n) (h2 : kws.length = ks.length)
    (hall : (backToKw pos (keywordEach kws X.env)).all (·.1.isSome) = true := by rfl) (hks : (backToKw pos (keywordEach kws X.env)).filterMap (·.1) = ks := by rfl) (hdb : (x == ("__debug__" : Str)) = false := by decide)
    (he : starEach (e :: es) X.env = (false, eval e X.env) :: starEach es X.env := by rfl) (hpl : ((backTo pos (starEach (e :: es) X.env)).any (·.1) || (backToKw pos (keywordEach kws X.env)).any (·.1.isNone)) = false := by rfl) :
    SE X g W (.Call (.Name x p) (e :: es) kws pos) (callE fn n src dv (os1 ++ os2)) := by
  obtain ⟨its, kb⟩ := hb.kb
  refine ⟨fun pins s σ H Q I ⟨G, δ, F', S, P⟩ => ?_⟩
  have h := call_read hb.dv hb.nd hb.len (ha.len.trans hn) S P
  refine wpAny_Call_Name_kw (ld_glob I hg hm ?_ hdb)
  refine PySem.W.callWith_KW (h₀ := X.base) I.ok.mod.kin hk hall (thn (ha.pa.run pos pins s σ H _ I h) fun us s1 ⟨vs, H1, I1, r, q⟩ => ?_) hpl he
  refine thn (hkw.pk.run pos pins s1 σ H1 _ I1 q) fun ws s2 ⟨zs, H2, I2, rz, l1, l2, q2⟩ => ⟨I2.kIn, ?_⟩
  rw [hks]
  exact run_fnNS F hr kb (passAt tk σ) I2 r rz l1 (l2.trans (hkw.len.trans h2)) q2
theorem se_call0 (F : Fo X g k m f fd ps fn) (hr : Room k X.A) (tk : Takes X W) (hg : Gl X x) (hm : X.mg x = some (.ref f)) (hk : PySem.W.keepIn X.K (.ref f) = true) (hb : Bd X.K fd ps ks 0 m src dv dvV) (hkw : SKs X g W kws os2) (h2 : kws.length = ks.length)
    (hall : (backToKw pos (keywordEach kws X.env)).all (·.1.isSome) = true := by rfl) (hks : (backToKw pos (keywordEach kws X.env)).filterMap (·.1) = ks := by rfl) (hdb : (x == ("__debug__" : Str)) = false := by decide)
    (hpl : ((backTo pos (starEach [] X.env)).any (·.1) || (backToKw pos (keywordEach kws X.env)).any (·.1.isNone)) = false := by rfl) :
    SE X g W (.Call (.Name x p) [] kws pos) (callE fn 0 src dv os2) := by
  obtain ⟨its, kb⟩ := hb.kb
  refine ⟨fun pins s σ H Q I ⟨G, δ, F', S, P⟩ => ?_⟩
  have h := call_read (os1 := []) hb.dv hb.nd hb.len rfl S P
  refine wpAny_Call_Name_kw (ld_glob I hg hm ?_ hdb)
  refine PySem.W.callWith_KW0 (h₀ := X.base) I.ok.mod.kin hk hall ?_ hpl
  refine thn (hkw.pk.run pos pins s σ H _ I h) fun ws s2 ⟨zs, H2, I2, rz, l1, l2, q2⟩ => ⟨I2.kIn, ?_⟩
  rw [hks]
  exact run_fnNS (us := []) (vs := []) F hr kb (passAt tk σ) I2 .nil rz rfl (l2.trans (hkw.len.trans h2)) q2
theorem se_make (hC : g.C c = C) (M : Mk X.K C f) (F : Fo X g k m f fd ps fn) (hr : Room (k + 1) X.A) (tk : Takes X W) (hg : Gl X x) (hm : X.mg x = some (.ref C)) (hb : Bd X.K fd ps ks (n + 1) m src dv dvV) (hs0 : src.head? = some (.u 0)) (ha : SOs X g W (e :: es) os1) (hkw : SKs X g W kws os2) (hn : (e :: es).length = n) (h2 : kws.length = ks.length)
    (hall : (backToKw pos (keywordEach kws X.env)).all (·.1.isSome) = true := by rfl) (hks : (backToKw pos (keywordEach kws X.env)).filterMap (·.1) = ks := by rfl) (hdb : (x == ("__debug__" : Str)) = false := by decide)
    (he : starEach (e :: es) X.env = (false, eval e X.env) :: starEach es X.env := by rfl) (hpl : ((backTo pos (starEach (e :: es) X.env)).any (·.1) || (backToKw pos (keywordEach kws X.env)).any (·.1.isNone)) = false := by rfl) :
    SE X g W (.Call (.Name x p) (e :: es) kws pos) (makeE fn c (n + 1) src dv (os1 ++ os2)) := by
  obtain ⟨its, kb⟩ := hb.kb
  refine ⟨fun pins s σ H Q I ⟨G, δ, F', S, P⟩ => ?_⟩
  have h := make_read hs0 hb.dv hb.nd hb.len (ha.len.trans hn) S P
  rw [hC] at h
  refine wpAny_Call_Name_kw (ld_glob I hg hm ?_ hdb)
  refine PySem.W.callWith_KW (h₀ := X.base) I.ok.mod.kin M.kp hall (thn (ha.pa.run pos pins s σ H _ I h) fun us s1 ⟨vs, H1, I1, r, q⟩ => ?_) hpl he
  refine thn (hkw.pk.run pos pins s1 σ H1 _ I1 q) fun ws s2 ⟨zs, H2, I2, rz, l1, l2, q2⟩ => ⟨I2.kIn, ?_⟩
  rw [hks]
  exact run_makeNS M F hr kb (passAt tk σ) I2 r rz l1 (l2.trans (hkw.len.trans h2)) q2
theorem se_make0 (hC : g.C c = C) (M : Mk X.K C f) (F : Fo X g k m f fd ps fn) (hr : Room (k + 1) X.A) (tk : Takes X W) (hg : Gl X x) (hm : X.mg x = some (.ref C)) (hb : Bd X.K fd ps ks 1 m src dv dvV) (hs0 : src.head? = some (.u 0)) (hkw : SKs X g W kws os2) (h2 : kws.length = ks.length)
    (hall : (backToKw pos (keywordEach kws X.env)).all (·.1.isSome) = true := by rfl) (hks : (backToKw pos (keywordEach kws X.env)).filterMap (·.1) = ks := by rfl) (hdb : (x == ("__debug__" : Str)) = false := by decide)
    (hpl : ((backTo pos (starEach [] X.env)).any (·.1) || (backToKw pos (keywordEach kws X.env)).any (·.1.isNone)) = false := by rfl) :
    SE X g W (.Call (.Name x p) [] kws pos) (makeE fn c 1 src dv os2) := by
  obtain ⟨its, kb⟩ := hb.kb
  refine ⟨fun pins s σ H Q I ⟨G, δ, F', S, P⟩ => ?_⟩
  have h := make_read (os1 := []) (n := 0) hs0 hb.dv hb.nd hb.len rfl S P
  rw [hC] at h
  refine wpAny_Call_Name_kw (ld_glob I hg hm ?_ hdb)
  refine PySem.W.callWith_KW0 (h₀ := X.base) I.ok.mod.kin M.kp hall ?_ hpl
  refine thn (hkw.pk.run pos pins s σ H _ I h) fun ws s2 ⟨zs, H2, I2, rz, l1, l2, q2⟩ => ⟨I2.kIn, ?_⟩
  rw [hks]
  exact run_makeNS (us := []) (vs := []) M F hr kb (passAt tk σ) I2 .nil rz rfl (l2.trans (hkw.len.trans h2)) q2
theorem se_meth {pl : Sem Bool} (hC : g.C c = C) (he : SO X g W o o0) (cl : Cls X.K C) (hm : Meth X.K C name f) (F : Fo X g k m f fd ps fn) (hr : Room k X.A) (tk : Takes X W) (hb : Bd X.K fd ps ks n m src dv dvV) (ha : SOs X g W (e :: es) os1) (hkw : SKs X g W kws os2) (hn : (e :: es).length + 1 = n) (h2 : kws.length = ks.length)
    (hall : (backToKw pos (keywordEach kws X.env)).all (·.1.isSome) = true := by rfl) (hks : (backToKw pos (keywordEach kws X.env)).filterMap (·.1) = ks := by rfl) (hst : starEach (e :: es) X.env = (false, eval e X.env) :: starEach es X.env := by rfl)
    (hpl : ((backTo pos (starEach (e :: es) X.env)).any (·.1) || (backToKw pos (keywordEach kws X.env)).any (·.1.isNone)) = false := by rfl)
    (ht : eval (.Call (.Attribute o name apos) (e :: es) kws pos) X.env = (do let ov ← eval o X.env; standAt apos.atName; let (f, first) ← holding [ov] (getMethod ov name pl); callWith pos f first (backTo pos (starEach (e :: es) X.env)) (backToKw pos (keywordEach kws X.env))) := by rfl) :
    SE X g W (.Call (.Attribute o name apos) (e :: es) kws pos) (methE fn c name n src dv o0 (os1 ++ os2)) := by
  obtain ⟨its, kb⟩ := hb.kb
  refine ⟨fun pins s σ H Q I ⟨G, δ, F', S, P⟩ => ?_⟩
  have h := meth_read hb.dv hb.nd hb.len (by rw [ha.len]; exact hn) S P
  rw [hC] at h
  refine PySem.W.methodCall_KW (pl := pl) (thn (he.run pins s σ H _ I h) fun u s1 ⟨x, H1, I1, rx, a, dx, fs, ex, ea, l, q⟩ => ?_) ht
  subst ex; obtain rfl : u = Value.ref a := rx
  refine getmeth_ok I1 ea cl hm l (PySem.W.callWith_KW (first := [.ref a]) (h₀ := X.base) I.ok.mod.kin hm.kp hall (thn (ha.pa.run pos pins s1 σ H1 _ I1 q) fun us s2 ⟨vs, H2, I2, r, q2⟩ => ?_) hpl hst)
  refine thn (hkw.pk.run pos pins s2 σ H2 _ I2 q2) fun ws s3 ⟨zs, H3, I3, rz, l1, l2, q3⟩ => ⟨I3.kIn, ?_⟩
  rw [hks]
  exact run_fnNS (us := .ref a :: us) (vs := .ref a :: vs) F hr kb (passAt tk σ) I3 (.cons rfl r) rz l1 (l2.trans (hkw.len.trans h2)) q3
theorem se_meth0 {pl : Sem Bool} (hC : g.C c = C) (he : SO X g W o o0) (cl : Cls X.K C) (hm : Meth X.K C name f) (F : Fo X g k m f fd ps fn) (hr : Room k X.A) (tk : Takes X W) (hb : Bd X.K fd ps ks 1 m src dv dvV) (hkw : SKs X g W kws os2) (h2 : kws.length = ks.length)
    (hall : (backToKw pos (keywordEach kws X.env)).all (·.1.isSome) = true := by rfl) (hks : (backToKw pos (keywordEach kws X.env)).filterMap (·.1) = ks := by rfl)
    (hpl : ((backTo pos (starEach [] X.env)).any (·.1) || (backToKw pos (keywordEach kws X.env)).any (·.1.isNone)) = false := by rfl)
    (ht : eval (.Call (.Attribute o name apos) [] kws pos) X.env = (do let ov ← eval o X.env; standAt apos.atName; let (f, first) ← holding [ov] (getMethod ov name pl); callWith pos f first (backTo pos (starEach [] X.env)) (backToKw pos (keywordEach kws X.env))) := by rfl) :
    SE X g W (.Call (.Attribute o name apos) [] kws pos) (methE fn c name 1 src dv o0 os2) := by
  obtain ⟨its, kb⟩ := hb.kb
  refine ⟨fun pins s σ H Q I ⟨G, δ, F', S, P⟩ => ?_⟩
  have h := meth_read (os1 := []) hb.dv hb.nd hb.len rfl S P
  rw [hC] at h
  refine PySem.W.methodCall_KW (pl := pl) (thn (he.run pins s σ H _ I h) fun u s1 ⟨x, H1, I1, rx, a, dx, fs, ex, ea, l, q⟩ => ?_) ht
  subst ex; obtain rfl : u = Value.ref a := rx
  refine getmeth_ok I1 ea cl hm l (PySem.W.callWith_KW0 (first := [.ref a]) (h₀ := X.base) I.ok.mod.kin hm.kp hall ?_ hpl)
  refine thn (hkw.pk.run pos pins s1 σ H1 _ I1 q) fun ws s3 ⟨zs, H3, I3, rz, l1, l2, q3⟩ => ⟨I3.kIn, ?_⟩
  rw [hks]
  exact run_fnNS (us := [.ref a]) (vs := [.ref a]) F hr kb (passAt tk σ) I3 (.cons rfl .nil) rz l1 (l2.trans (hkw.len.trans h2)) q3
end
/-! ### a def -/
def outP (a : As) : Nat → Nat → Env → Env
  | _, 0, _ => []
  | _, _, [] => []
  | i, n + 1, d :: δ => (if a i = true then none else d) :: outP a (i + 1) n δ
/-- a def's worth: its body over its parameters; N: how many names there are, a: what is stored -/
def mkFn (N : Nat) (a : As) (body : Sv) : Fn := fun ε => match body (ε ++ List.replicate (N - ε.length) none) with
  | .rt d δ => .ok d (outP a 0 ε.length δ)
  | .nx δ => .ok .non (outP a 0 ε.length δ)
  | .ex x δ => .ex x (outP a 0 ε.length δ)
  | _ => .bad
theorem gt_outP {a : As} : ∀ {n i : Nat} {δ : Env} {j : Nat} {d : D}, gt (outP a i n δ) j = some d → gt δ j = some d ∧ j < n ∧ a (i + j) = false
  | 0, _, _, _, _, h => by simp [outP, gt] at h
  | n + 1, i, [], _, _, h => by simp [outP, gt] at h
  | n + 1, i, x :: δ, 0, d, h => by
    simp only [outP, gt] at h
    split at h
    · cases h
    · rename_i e
      exact ⟨h, Nat.succ_pos _, by simpa using e⟩
  | n + 1, i, x :: δ, j + 1, d, h => by
    have := gt_outP (n := n) (i := i + 1) (δ := δ) (j := j) h
    exact ⟨this.1, Nat.succ_lt_succ this.2.1, by rw [show i + (j + 1) = i + 1 + j by omega]; exact this.2.2⟩
theorem outP_length {a : As} : ∀ {n i : Nat} {δ : Env}, n ≤ δ.length → (outP a i n δ).length = n
  | 0, _, _, _ => rfl
  | n + 1, _, [], h => absurd h (Nat.not_succ_le_zero _)
  | n + 1, i, x :: δ, h => by simp only [outP, List.length_cons]; rw [outP_length (Nat.le_of_succ_le_succ h)]
theorem gt_app : ∀ {ε : Env} {m : Nat} {i : Nat} {d : D}, gt (ε ++ List.replicate m none) i = some d → gt ε i = some d
  | [], m, i, d, h => by
    rw [List.nil_append] at h
    induction m generalizing i with
    | zero => exact h
    | succ m ih =>
      cases i with
      | zero => cases h
      | succ i => exact ih i h
  | x :: ε, m, 0, d, h => h
  | x :: ε, m, i + 1, d, h => gt_app (ε := ε) h
section
variable {P : Program} {w : World} {K : PySem.W.Frag} {mg : Str → Option Value} {base : Heap} {g : Cfg}
theorem StR.start {G : Fp} {H : Hp} {vs : List V} {ε : Env} {F : Nat → Fp} {N : List Str} (S : StR g G H (vs.map some) ε F) (hl : vs.length ≤ N.length) : StR g G H (L2.start N vs) (ε ++ List.replicate (N.length - ε.length) none) F where
  len := by
    have := S.len
    rw [List.length_map] at this
    unfold L2.start
    simp only [List.length_append, List.length_map, List.length_replicate]
    omega
  at_ := fun i d h => by
    have h' := gt_app h
    obtain ⟨v, e, r⟩ := S.at_ i d h'
    refine ⟨v, ?_, r⟩
    unfold L2.start
    rw [List.getElem?_append_left (List.getElem?_eq_some_iff.mp e).1]
    exact e
  dj := S.dj
  ok := S.ok
  gs := S.gs
theorem StR.back {G G' : Fp} {H H' : Hp} {vs : List V} {ε δ' : Env} {F F' : Nat → Fp} {N : List Str} {a : As} {σ' : St} (S : StR g G H (vs.map some) ε F) (S' : StR g G' H' σ' δ' F') (ag : Ag a (L2.start N vs) σ') (hN : vs.length ≤ N.length) :
    StR g G' H' (vs.map some) (outP a 0 ε.length δ') F' := by
  have hl : ε.length = vs.length := by have := S.len; rw [List.length_map] at this; exact this
  refine ⟨?_, fun i d h => ?_, S'.dj, S'.ok, S'.gs⟩
  · have h1 := S'.len
    have h2 := ag.1
    unfold L2.start at h2
    rw [List.length_append, List.length_map, List.length_replicate] at h2
    rw [List.length_map, ← hl]
    exact outP_length (by omega)
  · obtain ⟨h1, h2, h3⟩ := gt_outP h
    rw [Nat.zero_add] at h3
    obtain ⟨v, e, r⟩ := S'.at_ i d h1
    refine ⟨v, ?_, r⟩
    rw [ag.2 i h3] at e
    unfold L2.start at e
    rw [List.getElem?_append_left (by rw [List.length_map]; omega)] at e
    exact e
theorem fn_run {vs : List V} {H : Hp} {Q : VK} {E : XK} {N : List Str} {a : As} {body : Sv} {m : Nat} (hm : m ≤ N.length) (h : spF g m (mkFn N.length a body) vs H Q E) :
    tS g (fun cls d _ H => E cls d H) a body { nx := fun _ H' => Q .non H', rt := Q } (L2.start N vs) H := by
  obtain ⟨hl, G, ε, F, S, P⟩ := h
  have hlN : vs.length ≤ N.length := by omega
  refine ⟨G, _, F, S.start hlN, ?_⟩
  unfold mkFn at P
  cases e : body (ε ++ List.replicate (N.length - ε.length) none) with
  | nx δ' =>
    rw [e] at P
    exact fun σ' H' G' F' S' ag E' => P H' G' F' (S.back S' ag hlN) .non Fe rfl (fun _ z => z.elim) (fun _ z => z.elim) (E'.weak (Le.refl _) fun a h => h.elim id fun z => z.elim)
  | rt d δ' =>
    rw [e] at P
    exact fun v σ' H' G' F' Fv S' ag r o dj E' => P H' G' F' (S.back S' ag hlN) v Fv r o dj E'
  | ex x δ' =>
    rw [e] at P
    exact fun cls dd σ' H' G' F' S' ag xr E' => P cls dd H' G' F' (S.back S' ag hlN) xr E'
  | bk δ' => rw [e] at P; exact False.elim P
  | ct δ' => rw [e] at P; exact False.elim P
  | bad => rw [e] at P; exact False.elim P
/-- a def keeps what its body says -/
theorem fn_ok {x qual : Str} {st : Stmt} {f : Addr} {fd : FuncData} {N ps : List Str} {k m : Nat} {dvs : List V} {a : As} {body : Sv} (F : FunDD K x qual st dvs f fd) (S : FnScope N ps (defScope st)) (hm : ps.length = m)
    (h : ∀ (cdv : Value) (A : Around) (outer : List _root_.PySem.Env) (s : Shared) (H : Hp) (E : XK), Room k (A.deeper (PyProof.Rows.envOfC qual (defScope st) s.heap.objs.size f cdv)) →
      SSs (cxOf (L2.CX P w) P w K mg base N qual (defScope st) f cdv A outer s H E) g (fun cls d _ H => E cls d H) a (defBody st) body) : FnOk P w K mg base (L2.CX P w) (k + 1) f fd ps (spF g m (mkFn N.length a body)) := by
  have hpl : m ≤ N.length := by
    have := congrArg List.length S.pre
    rw [List.length_take] at this
    omega
  exact fnOk_of F S (fun vs H Q E h => h.1.trans hm.symm) fun cdv A outer s H vs Q E hr hsp => ⟨_, h cdv A outer s H E hr, fn_run hpl hsp⟩
end
end DV

namespace DV
open PySem L2
/-! ### operations -/
def kAdd : List D → Option D
  | [.int i, .int j] => some (.int (i + j))
  | [.str a, .str b] => if a.length + b.length ≤ 1000000 then some (.str (a ++ b)) else none
  | [.lst _ xs, .lst _ ys] => if (cleans xs && cleans ys) = true ∧ xs.length + ys.length ≤ 100000 then some (.lst true (xs ++ ys)) else none
  | [.tup xs, .tup ys] => if (cleans xs && cleans ys) = true ∧ xs.length + ys.length ≤ 100000 then some (.tup (xs ++ ys)) else none
  | _ => none
def kSub : List D → Option D
  | [.int i, .int j] => some (.int (i - j))
  | _ => none
def kMul : List D → Option D
  | [.int i, .int j] => if (-(2 ^ 64) < i ∧ i < 2 ^ 64) ∨ (-(2 ^ 64) < j ∧ j < 2 ^ 64) then some (.int (i * j)) else none
  | [.lst _ xs, .int k] => if cleans xs = true ∧ k ≤ 100000 ∧ xs.length * k.toNat ≤ 100000 ∧ -(2 ^ 63) ≤ k then some (.lst true (List.replicate k.toNat xs).flatten) else none
  | _ => none
def kFdiv : List D → Option D
  | [.int i, .int j] => if 0 < j ∧ j < 2 ^ 64 then some (.int (i / j)) else none
  | _ => none
def kMod : List D → Option D
  | [.int i, .int j] => if 0 < j then some (.int (i % j)) else none
  | _ => none
def kPow : List D → Option D
  | [.int i, .int j] => if 0 ≤ j ∧ j ≤ 1000000 ∧ i.natAbs < 2 ^ 64 then some (.int (i ^ j.toNat)) else none
  | _ => none
def kNeg : List D → Option D
  | [.int i] => some (.int (-i))
  | _ => none
def kLt : List D → Option D
  | [.int i, .int j] => some (.bl (decide (i < j)))
  | _ => none
def kLe : List D → Option D
  | [.int i, .int j] => some (.bl (decide (i ≤ j)))
  | _ => none
def kGt : List D → Option D
  | [.int i, .int j] => some (.bl (decide (j < i)))
  | _ => none
def kGe : List D → Option D
  | [.int i, .int j] => some (.bl (decide (j ≤ i)))
  | _ => none
def isNon : D → Bool
  | .non => true
  | _ => false
def kIsN : List D → Option D
  | [d, .non] => some (.bl (isNon d))
  | _ => none
def kNotN : List D → Option D
  | [d, .non] => some (.bl (!isNon d))
  | _ => none
section
variable {g : Cfg} {X : Cx}
theorem fin0 {G : Fp} {H : Hp} {d : D} {v : V} {Q : VK} (fin : ∀ v H' Fv, Same H H' → Rep g G H' d v Fv → (∀ a, Fv a → H a = none ∧ Mut (H' a)) → Q v H') (r : Rep g G H d v Fe) : Q v H := fin v H Fe (Same.refl H) r fun _ z => z.elim
theorem finL {G : Fp} {H : Hp} {ds : List D} {vs : List V} {Q : VK} (fin : ∀ v H' Fv, Same H H' → Rep g G H' (.lst true ds) v Fv → (∀ a, Fv a → H a = none ∧ Mut (H' a)) → Q v H') (r : Reps g G H ds vs Fe) : ∀ p, H p = none → Q (.ref p) (upd H p (.lst vs)) := fun p np =>
  fin (.ref p) _ (fun a => a = p) (same_new np) ⟨p, vs, Fe, rfl, ⟨upd_same, rfl⟩, fun _ z => z.elim, r.same (same_new np)⟩ fun a h => by
    rw [show a = p from h]
    exact ⟨np, by rw [upd_same]; trivial⟩
theorem finT {G : Fp} {H : Hp} {ds : List D} {vs : List V} {Q : VK} (fin : ∀ v H' Fv, Same H H' → Rep g G H' (.tup ds) v Fv → (∀ a, Fv a → H a = none ∧ Mut (H' a)) → Q v H') (r : Reps g G H ds vs Fe) : ∀ p, H p = none → Q (.ref p) (upd H p (.tup vs)) := fun p np =>
  fin (.ref p) _ Fe (same_new np) ⟨p, vs, rfl, .inl (.inl upd_same), r.same (same_new np)⟩ fun a h => h.elim
theorem lst_tr {G : Fp} {H : Hp} {o : Bool} {ds : List D} {v : V} {A : Fp} (r : Rep g G H (.lst o ds) v A) : ∃ p vs, v = .ref p ∧ H p = some (.lst vs) ∧ Reps g G H ds vs A := by
  obtain ⟨p, vs, F', e, q, n, rs⟩ := r
  refine ⟨p, vs, e, ?_, rs.le fun b hb => (n b hb).1⟩
  cases o with
  | true => exact q.1
  | false => exact q.1.1
theorem tup_tr {G : Fp} {H : Hp} {ds : List D} {v : V} {A : Fp} (r : Rep g G H (.tup ds) v A) : ∃ p vs, v = .ref p ∧ SqT g.K H p vs ∧ Reps g G H ds vs A := r
theorem Reps.app : ∀ {G : Fp} {H : Hp} {ds es : List D} {vs ws : List V}, Reps g G H ds vs Fe → Reps g G H es ws Fe → Reps g G H (ds ++ es) (vs ++ ws) Fe
  | G, H, [], es, vs, ws, r, q => by rw [show vs = [] from r]; exact q
  | G, H, d :: ds, es, _, ws, ⟨v, vr, F1, F2, e, l1, l2, dj, r, rs⟩, q => by
    subst e
    exact ⟨v, vr ++ ws, Fe, Fe, rfl, Le.refl _, Le.refl _, fun _ z _ => z, r.le l1, Reps.app (rs.le l2) q⟩
theorem Reps.repl {G : Fp} {H : Hp} {ds : List D} {vs : List V} (r : Reps g G H ds vs Fe) : ∀ n : Nat, Reps g G H (List.replicate n ds).flatten (List.replicate n vs).flatten Fe
  | 0 => rfl
  | n + 1 => by
    rw [List.replicate_succ, List.replicate_succ, List.flatten_cons, List.flatten_cons]
    exact r.app (Reps.repl r n)
theorem flat_len {α : Type} (xs : List α) : ∀ n : Nat, (List.replicate n xs).flatten.length = n * xs.length
  | 0 => by simp
  | n + 1 => by rw [List.replicate_succ, List.flatten_cons, List.length_append, flat_len xs n, Nat.succ_mul, Nat.add_comm]
theorem szS {n : Nat} (h : n ≤ 1000000) : n ≤ sizeLine := Nat.le_trans h (by decide)
def rAddD (K : PySem.W.Frag) : R2 := fun x y H Q => (rI0 (fun i j => .int (i + j)) x y H Q) ∨ ((∃ i j, x = .str i ∧ y = .str j ∧ i.length + j.length ≤ sizeLine ∧ Q (.str (i ++ j)) H) ∨ (rCat x y H Q ∨ rCatA K x y H Q))
theorem op_addD : OpR X (binaryOp .Add) (rAddD X.K) := op_add.or (op_add_str.or (op_cat.or op_catA))
theorem ins_add (hK : X.K = g.K) : Ins g kAdd (on2 (rAddD X.K)) := by
  intro G H ds vs d Q b e fin
  match ds, e, b with
  | [.int i, .int j], e, b =>
    obtain ⟨v, w, A, B, rfl, r, r2⟩ := bor2 b
    cases e
    exact .inl ⟨i, j, r, r2, fin0 fin rfl⟩
  | [.str i, .str j], e, b =>
    obtain ⟨v, w, A, B, rfl, r, r2⟩ := bor2 b
    simp only [kAdd] at e
    split at e
    · rename_i c
      cases e
      exact .inr (.inl ⟨i, j, r, r2, szS c, fin0 fin rfl⟩)
    · cases e
  | [.lst o xs, .lst o' ys], e, b =>
    obtain ⟨v, w, A, B, rfl, r, r2⟩ := bor2 b
    simp only [kAdd] at e
    split at e
    · rename_i c
      cases e
      simp only [Bool.and_eq_true] at c
      obtain ⟨p, us, rfl, hp, rs⟩ := lst_tr r
      obtain ⟨p2, us2, rfl, hp2, rs2⟩ := lst_tr r2
      exact .inr (.inr (.inl ⟨p, p2, us, us2, rfl, rfl, hp, hp2, by rw [rs.length, rs2.length]; exact sz5 c.2, finL fin ((rs.clean c.1.1).app (rs2.clean c.1.2))⟩))
    · cases e
  | [.tup xs, .tup ys], e, b =>
    obtain ⟨v, w, A, B, rfl, r, r2⟩ := bor2 b
    simp only [kAdd] at e
    split at e
    · rename_i c
      cases e
      simp only [Bool.and_eq_true] at c
      obtain ⟨p, us, rfl, hp, rs⟩ := tup_tr r
      obtain ⟨p2, us2, rfl, hp2, rs2⟩ := tup_tr r2
      have ra := rs.clean c.1.1
      have rb := rs2.clean c.1.2
      have rab := ra.app rb
      rw [← hK] at hp hp2
      refine .inr (.inr (.inr ⟨p, p2, us, us2, rfl, rfl, hp, hp2, by rw [rs.length, rs2.length]; exact sz5 c.2, fun e => ?_, fun _ e => ?_, fun _ _ => finT fin rab⟩))
      · subst e
        exact fin0 fin ⟨p2, us2, rfl, by rw [← hK]; exact hp2, rab⟩
      · subst e
        exact fin0 fin ⟨p, us, rfl, by rw [← hK]; exact hp, by rw [List.append_nil] at rab; exact rab⟩
    · cases e
theorem ins_sub : Ins g kSub (on2 (rI0 fun i j => .int (i - j))) := by
  intro G H ds vs d Q b e fin
  match ds, e, b with
  | [.int i, .int j], e, b =>
    obtain ⟨v, w, A, B, rfl, r, r2⟩ := bor2 b
    cases e
    exact ⟨i, j, r, r2, fin0 fin rfl⟩
theorem op_mulD : OpR X (binaryOp .Mult) (fun x y H Q => rI CMul (fun i j => .int (i * j)) x y H Q ∨ rRep x y H Q) := op_mul.or op_rep
theorem ins_mul : Ins g kMul (on2 (fun x y H Q => rI CMul (fun i j => .int (i * j)) x y H Q ∨ rRep x y H Q)) := by
  intro G H ds vs d Q b e fin
  match ds, e, b with
  | [.int i, .int j], e, b =>
    obtain ⟨v, w, A, B, rfl, r, r2⟩ := bor2 b
    simp only [kMul] at e
    split at e
    · rename_i c
      cases e
      exact .inl ⟨i, j, r, r2, c, fin0 fin rfl⟩
    · cases e
  | [.lst o xs, .int k], e, b =>
    obtain ⟨v, w, A, B, rfl, r, r2⟩ := bor2 b
    simp only [kMul] at e
    split at e
    · rename_i c
      cases e
      obtain ⟨p, us, rfl, hp, rs⟩ := lst_tr r
      exact .inr ⟨p, k, us, rfl, r2, hp, c.2.2.2, by omega, by rw [rs.length]; exact sz5 c.2.2.1, finL fin ((rs.clean c.1).repl _)⟩
    · cases e
theorem ins_fdiv : Ins g kFdiv (on2 (rI CDivW fun i j => .int (i / j))) := by
  intro G H ds vs d Q b e fin
  match ds, e, b with
  | [.int i, .int j], e, b =>
    obtain ⟨v, w, A, B, rfl, r, r2⟩ := bor2 b
    simp only [kFdiv] at e
    split at e
    · rename_i c
      cases e
      exact ⟨i, j, r, r2, wide_div (b := 64) c.1 (by omega) (by decide) (by decide), fin0 fin rfl⟩
    · cases e
theorem ins_mod : Ins g kMod (on2 (rI (fun _ j => 0 < j) fun i j => .int (i % j))) := by
  intro G H ds vs d Q b e fin
  match ds, e, b with
  | [.int i, .int j], e, b =>
    obtain ⟨v, w, A, B, rfl, r, r2⟩ := bor2 b
    simp only [kMod] at e
    split at e
    · rename_i c
      cases e
      exact ⟨i, j, r, r2, c, fin0 fin rfl⟩
    · cases e
theorem ins_pow : Ins g kPow (on2 (rI CPow fun i j => .int (i ^ j.toNat))) := by
  intro G H ds vs d Q b e fin
  match ds, e, b with
  | [.int i, .int j], e, b =>
    obtain ⟨v, w, A, B, rfl, r, r2⟩ := bor2 b
    simp only [kPow] at e
    split at e
    · rename_i c
      cases e
      exact ⟨i, j, r, r2, c, fin0 fin rfl⟩
    · cases e
theorem ins_neg : Ins g kNeg (on1 (rU fun i => .int (-i))) := by
  intro G H ds vs d Q b e fin
  match ds, e, b with
  | [.int i], e, b =>
    obtain ⟨v, A, rfl, r⟩ := bor1 b
    cases e
    exact ⟨i, r, fin0 fin rfl⟩
theorem ins_lt : Ins g kLt (on2 (rI0 fun i j => .bl (decide (i < j)))) := by
  intro G H ds vs d Q b e fin
  match ds, e, b with
  | [.int i, .int j], e, b =>
    obtain ⟨v, w, A, B, rfl, r, r2⟩ := bor2 b
    cases e
    exact ⟨i, j, r, r2, fin0 fin rfl⟩
theorem ins_le : Ins g kLe (on2 (rI0 fun i j => .bl (decide (i ≤ j)))) := by
  intro G H ds vs d Q b e fin
  match ds, e, b with
  | [.int i, .int j], e, b =>
    obtain ⟨v, w, A, B, rfl, r, r2⟩ := bor2 b
    cases e
    exact ⟨i, j, r, r2, fin0 fin rfl⟩
theorem ins_gt : Ins g kGt (on2 (rI0 fun i j => .bl (decide (j < i)))) := by
  intro G H ds vs d Q b e fin
  match ds, e, b with
  | [.int i, .int j], e, b =>
    obtain ⟨v, w, A, B, rfl, r, r2⟩ := bor2 b
    cases e
    exact ⟨i, j, r, r2, fin0 fin rfl⟩
theorem ins_ge : Ins g kGe (on2 (rI0 fun i j => .bl (decide (j ≤ i)))) := by
  intro G H ds vs d Q b e fin
  match ds, e, b with
  | [.int i, .int j], e, b =>
    obtain ⟨v, w, A, B, rfl, r, r2⟩ := bor2 b
    cases e
    exact ⟨i, j, r, r2, fin0 fin rfl⟩
theorem rep_non {G : Fp} {H : Hp} {d : D} {v : V} {A : Fp} (r : Rep g G H d v A) : decide (v = .non) = isNon d := by
  cases d with
  | non => cases (show v = _ from r); rfl
  | bl _ => cases (show v = _ from r); rfl
  | int _ => cases (show v = _ from r); rfl
  | str _ => cases (show v = _ from r); rfl
  | ty _ => cases (show v = _ from r); rfl
  | scr _ => obtain ⟨a, e, _⟩ := r; cases e; rfl
  | tup _ => obtain ⟨a, vs, e, _⟩ := r; cases e; rfl
  | lst _ _ => obtain ⟨a, vs, F, e, _⟩ := r; cases e; rfl
  | dct _ _ _ => obtain ⟨a, vs, F, e, _⟩ := r; cases e; rfl
  | dcT _ _ _ => obtain ⟨a, vs, F, e, _⟩ := r; cases e; rfl
  | ins _ _ _ _ => obtain ⟨a, dx, vs, F, e, _⟩ := r; cases e; rfl
theorem ins_isN : Ins g kIsN (on2 fun x y H Q => y = .non ∧ Q (.bl (decide (x = .non))) H) := by
  intro G H ds vs d Q b e fin
  match ds, e, b with
  | [d1, .non], e, b =>
    obtain ⟨v, w, A, B, rfl, r, r2⟩ := bor2 b
    cases e
    exact ⟨r2, by rw [rep_non r]; exact fin0 fin rfl⟩
theorem ins_notN : Ins g kNotN (on2 fun x y H Q => y = .non ∧ Q (.bl (!decide (x = .non))) H) := by
  intro G H ds vs d Q b e fin
  match ds, e, b with
  | [d1, .non], e, b =>
    obtain ⟨v, w, A, B, rfl, r, r2⟩ := bor2 b
    cases e
    exact ⟨r2, by rw [rep_non r]; exact fin0 fin rfl⟩
end
/-! ### items, slices, lengths -/
def lenD : D → Option Nat
  | .str z => if z.length ≤ 1000000 then some z.length else none
  | .lst _ ds => some ds.length
  | .tup ds => some ds.length
  | .scr ns => some ns.length
  | _ => none
def kLen : List D → Option D
  | [d] => (lenD d).map fun n => .int n
  | _ => none
def kIx : List D → Option D
  | [.lst _ ds, .int i] => match atI ds i with
    | some d => if clean d = true then some d else none
    | none => none
  | [.tup ds, .int i] => match atI ds i with
    | some d => if clean d = true then some d else none
    | none => none
  | [.str z, .int i] => if z.length ≤ 1000000 then (atI z.cps.toList i).map fun c => .str ⟨#[c]⟩ else none
  | [.scr ns, .int i] => (atI ns i).map .int
  | _ => none
section
variable {g : Cfg} {X : Cx}
theorem reps_at {G : Fp} {H : Hp} {ds : List D} {vs : List V} {A : Fp} {i : Int} {d : D} (r : Reps g G H ds vs A) (h : atI ds i = some d) : ∃ v B, atI vs i = some v ∧ Le B A ∧ Rep g G H d v B := by
  unfold atI at h ⊢
  rw [r.length]
  cases e : ixN ds.length i with
  | none => rw [e] at h; cases h
  | some j =>
    rw [e] at h
    have h : ds[j]? = some d := h
    have hj := (List.getElem?_eq_some_iff.mp h).1
    have : vs[j]? = some (vs[j]'(by rw [r.length]; exact hj)) := List.getElem?_eq_getElem _
    obtain ⟨d', e1, B, l, rd⟩ := r.get this
    rw [h] at e1
    cases e1
    exact ⟨_, B, this, l, rd⟩
def rLenD (K : PySem.W.Frag) : List V → Hp → VK → Prop := fun xs H Q => (∃ p ys, xs = [.ref p] ∧ (SqL K H p ys ∨ SqT K H p ys) ∧ Q (.int ys.length) H) ∨ ∃ z, xs = [.str z] ∧ z.length ≤ sizeLine ∧ Q (.int z.length) H
theorem call_lenD : CallR X (.builtin "len") (rLenD X.K) := CallR.or call_len_seq call_len_str
theorem ins_lenD (hK : X.K = g.K) : Ins g kLen (rLenD X.K) := by
  intro G H ds vs d Q b e fin
  match ds, e, b with
  | [d1], e, b =>
    obtain ⟨v, A, rfl, r⟩ := bor1 b
    simp only [kLen] at e
    cases d1 with
    | str z =>
      simp only [lenD] at e
      split at e
      · rename_i c
        cases e
        cases (show v = _ from r)
        exact .inr ⟨z, rfl, szS c, fin0 fin rfl⟩
      · cases e
    | lst o es =>
      cases e
      obtain ⟨p, us, rfl, hp, rs⟩ := lst_tr r
      exact .inl ⟨p, us, rfl, .inl (.inl (.inl hp)), by rw [rs.length]; exact fin0 fin rfl⟩
    | tup es =>
      cases e
      obtain ⟨p, us, rfl, hp, rs⟩ := tup_tr r
      exact .inl ⟨p, us, rfl, .inr (by rw [hK]; exact hp), by rw [rs.length]; exact fin0 fin rfl⟩
    | scr ns =>
      cases e
      obtain ⟨p, rfl, hp⟩ := r
      exact .inl ⟨p, _, rfl, .inl (by rw [hK]; exact hp.sq), by rw [List.length_map]; exact fin0 fin rfl⟩
    | _ => cases e
theorem ixN_le {n : Nat} {i : Int} {j : Nat} (h : ixN n i = some j) : j < n := (ixN_seq h).2.1
theorem ins_ix (hK : X.K = g.K) : Ins g kIx (on2 (rIx X.K)) := by
  intro G H ds vs d Q b e fin
  match ds, e, b with
  | [.lst o es, .int i], e, b =>
    obtain ⟨v, w, A, B, rfl, r, r2⟩ := bor2 b
    simp only [kIx] at e
    cases h : atI es i with
    | none => rw [h] at e; cases e
    | some d1 =>
      rw [h] at e
      simp only at e
      split at e
      · rename_i c
        cases e
        obtain ⟨p, us, rfl, hp, rs⟩ := lst_tr r
        obtain ⟨u, B', h1, l, rd⟩ := reps_at rs h
        exact .inl ⟨p, us, i, u, rfl, r2, .inl (.inl hp), h1, fin0 fin (rd.clean c)⟩
      · cases e
  | [.tup es, .int i], e, b =>
    obtain ⟨v, w, A, B, rfl, r, r2⟩ := bor2 b
    simp only [kIx] at e
    cases h : atI es i with
    | none => rw [h] at e; cases e
    | some d1 =>
      rw [h] at e
      simp only at e
      split at e
      · rename_i c
        cases e
        obtain ⟨p, us, rfl, hp, rs⟩ := tup_tr r
        obtain ⟨u, B', h1, l, rd⟩ := reps_at rs h
        exact .inr (.inl ⟨p, us, i, u, rfl, r2, by rw [hK]; exact hp, h1, fin0 fin (rd.clean c)⟩)
      · cases e
  | [.str z, .int i], e, b =>
    obtain ⟨v, w, A, B, rfl, r, r2⟩ := bor2 b
    simp only [kIx] at e
    split at e
    · rename_i c
      cases h : atI z.cps.toList i with
      | none => rw [h] at e; cases e
      | some k =>
        rw [h] at e
        cases e
        exact .inr (.inr ⟨z, i, k, r, r2, szS c, h, fin0 fin rfl⟩)
    · cases e
  | [.scr ns, .int i], e, b =>
    obtain ⟨v, w, A, B, rfl, r, r2⟩ := bor2 b
    simp only [kIx] at e
    cases h : atI ns i with
    | none => rw [h] at e; cases e
    | some k =>
      rw [h] at e
      cases e
      obtain ⟨p, rfl, hp⟩ := r
      refine .inl ⟨p, _, i, .int k, rfl, r2, by rw [hK]; exact hp.sq, ?_, fin0 fin rfl⟩
      unfold atI at h ⊢
      rw [List.length_map]
      cases e : ixN ns.length i with
      | none => rw [e] at h; cases h
      | some j =>
        rw [e] at h
        have h : ns[j]? = some k := h
        show (ns.map V.int)[j]? = some (.int k)
        rw [List.getElem?_map, h]
        rfl
end
/-! ### slices: e[lo:hi] -/
def cutD (ds : List D) (lo hi : Option Int) : List D := (ds.drop (HT.sIx ds.length 0 lo)).take (HT.sIx ds.length ds.length hi - HT.sIx ds.length 0 lo)
def partO : Option Ev → List Ev
  | none => []
  | some f => [f]
/-- which bounds there are: both, the first, the last, none -/
inductive Sh where
  | bb | bn | nb | nn
def shArgs : Sh → List D → Option (D × Option Int × Option Int)
  | .bb, [d, .int i, .int j] => some (d, some i, some j)
  | .bn, [d, .int i] => some (d, some i, none)
  | .nb, [d, .int j] => some (d, none, some j)
  | .nn, [d] => some (d, none, none)
  | _, _ => none
def cutsD : D → Option Int → Option Int → Option D
  | .lst _ ds, lo, hi => if cleans ds = true then some (.lst true (cutD ds lo hi)) else none
  | .tup ds, lo, hi => if cleans ds = true then some (.tup (cutD ds lo hi)) else none
  | .str z, lo, hi => if z.length ≤ 1000000 then some (.str (cutS z lo hi)) else none
  | .scr ns, lo, hi => some (.lst true (cutD (ns.map .int) lo hi))
  | _, _, _ => none
def kSl (h : Sh) (ds : List D) : Option D := match shArgs h ds with
  | some (d, lo, hi) => cutsD d lo hi
  | none => none
section
variable {g : Cfg} {W : WX} {X : Cx}
theorem Reps.drop : ∀ {G : Fp} {H : Hp} {ds : List D} {vs : List V} (n : Nat), Reps g G H ds vs Fe → Reps g G H (ds.drop n) (vs.drop n) Fe
  | G, H, ds, vs, 0, r => r
  | G, H, [], vs, n + 1, r => by rw [show vs = [] from r]; rfl
  | G, H, d :: ds, _, n + 1, ⟨v, vr, F1, F2, e, l1, l2, dj, r, rs⟩ => by subst e; exact Reps.drop n (rs.le l2)
theorem Reps.take : ∀ {G : Fp} {H : Hp} {ds : List D} {vs : List V} (n : Nat), Reps g G H ds vs Fe → Reps g G H (ds.take n) (vs.take n) Fe
  | G, H, ds, vs, 0, r => by rw [List.take_zero, List.take_zero]; rfl
  | G, H, [], vs, n + 1, r => by rw [show vs = [] from r]; rfl
  | G, H, d :: ds, _, n + 1, ⟨v, vr, F1, F2, e, l1, l2, dj, r, rs⟩ => by subst e; exact ⟨v, _, Fe, Fe, rfl, Le.refl _, Le.refl _, fun _ z _ => z, r.le l1, Reps.take n (rs.le l2)⟩
theorem Reps.cut {G : Fp} {H : Hp} {ds : List D} {vs : List V} {lo hi : Option Int} (r : Reps g G H ds vs Fe) : Reps g G H (cutD ds lo hi) (cutV vs lo hi) Fe := by
  unfold cutD cutV
  rw [r.length]
  exact (r.drop _).take _
theorem reps_ints {G : Fp} {H : Hp} : ∀ ns : List Int, Reps g G H (ns.map D.int) (ns.map V.int) Fe
  | [] => rfl
  | n :: ns => ⟨_, _, Fe, Fe, rfl, Le.refl _, Le.refl _, fun _ z _ => z, rfl, reps_ints ns⟩
def rSlD (K : PySem.W.Frag) : V → Option Int → Option Int → Hp → VK → Prop := fun x lo hi H Q => rSlL K x lo hi H Q ∨ (rSlA K x lo hi H Q ∨ rSlS x lo hi H Q)
theorem sl_D : L2.SlR X (rSlD X.K) := SlR.or sl_list (SlR.or sl_tupA sl_str)
theorem ins_cut (hK : X.K = g.K) {G : Fp} {H : Hp} {d1 d : D} {v : V} {A : Fp} {lo hi : Option Int} {Q : VK} (r : Rep g G H d1 v A) (e : cutsD d1 lo hi = some d)
    (fin : ∀ v H' Fv, Same H H' → Rep g G H' d v Fv → (∀ a, Fv a → H a = none ∧ Mut (H' a)) → Q v H') : rSlD X.K v lo hi H Q := by
  cases d1 with
  | lst o es =>
    simp only [cutsD] at e
    split at e
    · rename_i c
      cases e
      obtain ⟨p, us, rfl, hp, rs⟩ := lst_tr r
      exact .inl ⟨p, us, rfl, .inl (.inl hp), finL fin (rs.clean c).cut⟩
    · cases e
  | tup es =>
    simp only [cutsD] at e
    split at e
    · rename_i c
      cases e
      obtain ⟨p, us, rfl, hp, rs⟩ := tup_tr r
      have rc := (rs.clean c).cut (lo := lo) (hi := hi)
      refine .inr (.inl ⟨p, us, rfl, by rw [hK]; exact hp, fun z => ?_, fun _ => finT fin rc⟩)
      have : cutV us lo hi = us := by
        unfold cutV
        rw [z.1, z.2, List.drop_zero, Nat.sub_zero, List.take_length]
      rw [this] at rc
      exact fin0 fin ⟨p, us, rfl, hp, rc⟩
    · cases e
  | str z =>
    simp only [cutsD] at e
    split at e
    · rename_i c
      cases e
      exact .inr (.inr ⟨z, r, szS c, fin0 fin rfl⟩)
    · cases e
  | scr ns =>
    cases e
    obtain ⟨p, rfl, hp⟩ := r
    exact .inl ⟨p, _, rfl, by rw [hK]; exact hp.sq, finL fin (reps_ints ns).cut⟩
  | _ => cases e
def evI : Option Ev → Env → R (Option Int)
  | none, δ => .ok none δ
  | some f, δ => (f δ).bind fun d δ1 => match d with
    | .int i => .ok (some i) δ1
    | _ => .bad
def eSl (o : Od) (lo hi : Option Ev) : Ev := fun δ => (evOd o δ).bind fun x δ0 => (evI lo δ0).bind fun l δ1 => (evI hi δ1).bind fun h δ2 => match resO δ2 x with
  | some d => match cutsD d l h with
    | some r => .ok r δ2
    | none => .bad
  | none => .bad
def tP (g : Cfg) (W : WX) : Option Ev → TO
  | none => tNoPart
  | some f => tPart (tE g W f)
theorem part_run {G : Fp} {H : Hp} {σ : St} {δ : Env} {F : Nat → Fp} {lo : Option Ev} {M : Option Int → Hp → Prop} (S : StR g G H σ δ F) (P : PostG g W G H F σ (evI lo δ) fun l δ' H' G' F' => Ext G H (U F) G' H' (U F') → M l H') : tP g W lo σ H M := by
  cases lo with
  | none => exact P H G F S (.refl (Le.refl _))
  | some f =>
    refine tE_of S (PostG.mono (PostG.bind P) fun d δ1 H1 G1 F1 S1 P1 v Fv r ok dj E1 => ?_)
    cases d with
    | int i => exact ⟨i, r, P1 H1 G1 F1 S1 (E1.weak (Le.refl _) Le.inl)⟩
    | _ => exact False.elim P1
theorem sl_run (hK : X.K = g.K) {G : Fp} {H : Hp} {σ : St} {δ : Env} {F : Nat → Fp} {o : Od} {lo hi : Option Ev} {Q : VK} (S : StR g G H σ δ F) (P : Post g W G H F σ (eSl o lo hi δ) Q) : tSl (rSlD X.K) (tO g W o) (tP g W lo) (tP g W hi) σ H Q := by
  refine od_run S (PostG.mono (PostG.bind P) fun x δ1 H1 G1 F1 S1 P1 v Fv r ok1 dj1 E1 => ?_)
  refine part_run S1 ((PostG.mono (PostG.bind P1) fun l δ2 H2 G2 F2 S2 P2 E2 => ?_).on E1 Le.inl)
  have E12 : Ext G H (U F) G2 H2 (Un2 (U F2) Fv) := E1.trans (E2.frame (Fh := Fv)) (Le.refl _)
  refine part_run S2 ((PostG.mono (PostG.bind P2) fun h δ3 H3 G3 F3 S3 P3 E3 => ?_).on E12 Le.inl)
  have E13 : Ext G H (U F) G3 H3 (Un2 (U F3) Fv) := E12.trans (E3.frame (Fh := Fv)) (Le.refl _)
  have ok2 : Ok G2 H2 Fv := E2.ok ok1 dj1
  have dj2 : Dj Fv (U F2) := E2.dj ok1 dj1
  have hd : ∀ d, resO δ3 x = some d → ∃ A, Rep g G3 H3 d v A := fun d e => by
    cases x with
    | tmp d' =>
      obtain ⟨v', vr, A, B, e1, l1, l2, dj0, r, e2⟩ := r
      cases e1
      cases e
      exact ⟨A, E3.rep S2.okU (E2.rep S1.okU r (dj1.le l1 (Le.refl _))) (dj2.le l1 (Le.refl _))⟩
    | late i =>
      obtain ⟨v', vr, e1, h, e2⟩ := r
      cases e1
      obtain ⟨v2, ev, r⟩ := S3.at_ i _ e
      rw [h] at ev
      cases ev
      exact ⟨_, r⟩
  cases e : resO δ3 x with
  | none => simp only [e] at P3; exact False.elim P3
  | some d =>
    cases e2 : cutsD d l h with
    | none => simp only [e, e2] at P3; exact False.elim P3
    | some d' =>
      simp only [e, e2] at P3
      obtain ⟨A, rd⟩ := hd d e
      refine ins_cut hK rd e2 fun w H4 Fw same rep new => ?_
      refine P3 H4 G3 F3 (S3.same same) w Fw rep (fun a h => ⟨(new a h).2, fun z => S3.gs a z (new a h).1⟩) (fun a h ⟨i, z⟩ => ?_) (E13.trans (.new (U1 := U F3) same (Le.refl _) fun a h => (new a h).1) Le.inl)
      have := (S3.ok i a z).1
      rw [(new a h).1] at this; exact this
variable {e elo ehi : Expr} {o : Od} {f1 f2 : Ev} {p2 pos : Pos}
theorem se_slbb (hK : X.K = g.K) (he : SO X g W e o) (h1 : SE X g W elo f1) (h2 : SE X g W ehi f2) : SE X g W (.Subscript e (.Slice (some elo) (some ehi) none p2) pos) (eSl o (some f1) (some f2)) :=
  PE.imp (pe_slice sl_D he (po_some h1) (po_some h2)) fun σ H Q ⟨G, δ, F, S, P⟩ => sl_run hK S P
theorem se_slbn (hK : X.K = g.K) (he : SO X g W e o) (h1 : SE X g W elo f1) : SE X g W (.Subscript e (.Slice (some elo) none none p2) pos) (eSl o (some f1) none) :=
  PE.imp (pe_slice sl_D he (po_some h1) po_none) fun σ H Q ⟨G, δ, F, S, P⟩ => sl_run hK S P
theorem se_slnb (hK : X.K = g.K) (he : SO X g W e o) (h2 : SE X g W ehi f2) : SE X g W (.Subscript e (.Slice none (some ehi) none p2) pos) (eSl o none (some f2)) :=
  PE.imp (pe_slice sl_D he po_none (po_some h2)) fun σ H Q ⟨G, δ, F, S, P⟩ => sl_run hK S P
theorem se_slnn (hK : X.K = g.K) (he : SO X g W e o) : SE X g W (.Subscript e (.Slice none none none p2) pos) (eSl o none none) :=
  PE.imp (pe_slice sl_D he po_none po_none) fun σ H Q ⟨G, δ, F, S, P⟩ => sl_run hK S P
end
/-! ### built-in calls -/
def kAbs : List D → Option D
  | [.int i] => some (.int (if i < 0 then -i else i))
  | _ => none
def kMax2 : List D → Option D
  | [.int i, .int j] => some (.int (if j > i then j else i))
  | _ => none
def kMin2 : List D → Option D
  | [.int i, .int j] => some (.int (if j < i then j else i))
  | _ => none
def kInt1 : List D → Option D
  | [.int i] => some (.int i)
  | [.bl b] => some (.int (if b then 1 else 0))
  | _ => none
def kBool1 : List D → Option D
  | [.int i] => some (.bl (i != 0))
  | [.bl b] => some (.bl b)
  | _ => none
def kList : List D → Option D
  | [.lst _ ds] => if cleans ds = true then some (.lst true ds) else none
  | [.tup ds] => if cleans ds = true then some (.lst true ds) else none
  | [.scr ns] => some (.lst true (ns.map .int))
  | _ => none
def kTuple : List D → Option D
  | [.lst _ ds] => if cleans ds = true then some (.tup ds) else none
  | [.tup ds] => if cleans ds = true then some (.tup ds) else none
  | _ => none
def boolsO : List D → Option (List Bool)
  | [] => some []
  | .bl b :: ds => (boolsO ds).map (b :: ·)
  | _ => none
def intsO : List D → Option (List Int)
  | [] => some []
  | .int b :: ds => (intsO ds).map (b :: ·)
  | _ => none
def kAll : List D → Option D
  | [.lst _ ds] => (boolsO ds).map fun bs => .bl (bs.all id)
  | _ => none
def kAny : List D → Option D
  | [.lst _ ds] => (boolsO ds).map fun bs => .bl (bs.any id)
  | _ => none
def kSum : List D → Option D
  | [.lst _ ds] => (intsO ds).map fun bs => .int bs.sum
  | _ => none
def maxI : Int → List Int → Int
  | m, [] => m
  | m, i :: is => maxI (if m < i then i else m) is
def minI : Int → List Int → Int
  | m, [] => m
  | m, i :: is => minI (if i < m then i else m) is
def kMax : List D → Option D
  | [.lst _ ds] => match intsO ds with
    | some (i :: is) => some (.int (maxI i is))
    | _ => none
  | _ => none
def kMin : List D → Option D
  | [.lst _ ds] => match intsO ds with
    | some (i :: is) => some (.int (minI i is))
    | _ => none
  | _ => none
theorem maxI_ok : ∀ (is : List Int) (m : Int), (maxI m is ∈ m :: is) ∧ ∀ y, y ∈ m :: is → y ≤ maxI m is
  | [], m => ⟨List.mem_cons_self, fun y h => by rcases List.mem_cons.mp h with h | h; exact Int.le_of_eq h; cases h⟩
  | i :: is, m => by
    obtain ⟨h1, h2⟩ := maxI_ok is (if m < i then i else m)
    simp only [maxI]
    refine ⟨?_, fun y hy => ?_⟩
    · rcases List.mem_cons.mp h1 with h | h
      · rw [h]
        split
        · exact List.mem_cons_of_mem _ List.mem_cons_self
        · exact List.mem_cons_self
      · exact List.mem_cons_of_mem _ (List.mem_cons_of_mem _ h)
    · have h0 := h2 _ List.mem_cons_self
      rcases List.mem_cons.mp hy with e | hy
      · subst e
        refine Int.le_trans ?_ h0
        split <;> omega
      · rcases List.mem_cons.mp hy with e | hy
        · subst e
          refine Int.le_trans ?_ h0
          split <;> omega
        · exact h2 y (List.mem_cons_of_mem _ hy)
theorem minI_ok : ∀ (is : List Int) (m : Int), (minI m is ∈ m :: is) ∧ ∀ y, y ∈ m :: is → minI m is ≤ y
  | [], m => ⟨List.mem_cons_self, fun y h => by rcases List.mem_cons.mp h with h | h; exact Int.le_of_eq h.symm; cases h⟩
  | i :: is, m => by
    obtain ⟨h1, h2⟩ := minI_ok is (if i < m then i else m)
    simp only [minI]
    refine ⟨?_, fun y hy => ?_⟩
    · rcases List.mem_cons.mp h1 with h | h
      · rw [h]
        split
        · exact List.mem_cons_of_mem _ List.mem_cons_self
        · exact List.mem_cons_self
      · exact List.mem_cons_of_mem _ (List.mem_cons_of_mem _ h)
    · have h0 := h2 _ List.mem_cons_self
      rcases List.mem_cons.mp hy with e | hy
      · subst e
        refine Int.le_trans h0 ?_
        split <;> omega
      · rcases List.mem_cons.mp hy with e | hy
        · subst e
          refine Int.le_trans h0 ?_
          split <;> omega
        · exact h2 y (List.mem_cons_of_mem _ hy)
section
variable {g : Cfg} {X : Cx}
theorem bools_of {G : Fp} {H : Hp} : ∀ {ds : List D} {vs : List V} {bs : List Bool} {A : Fp}, Reps g G H ds vs A → boolsO ds = some bs → vs = bs.map V.bl
  | [], vs, bs, A, r, e => by cases e; exact r
  | d :: ds, _, bs, A, ⟨v, vr, F1, F2, e1, l1, l2, dj, r, rs⟩, e => by
    cases d with
    | bl b =>
      simp only [boolsO] at e
      cases h : boolsO ds with
      | none => rw [h] at e; cases e
      | some cs =>
        rw [h] at e
        cases e
        rw [e1, bools_of rs h, show v = .bl b from r]
        rfl
    | _ => cases e
theorem ints_of {G : Fp} {H : Hp} : ∀ {ds : List D} {vs : List V} {bs : List Int} {A : Fp}, Reps g G H ds vs A → intsO ds = some bs → vs = bs.map V.int
  | [], vs, bs, A, r, e => by cases e; exact r
  | d :: ds, _, bs, A, ⟨v, vr, F1, F2, e1, l1, l2, dj, r, rs⟩, e => by
    cases d with
    | int b =>
      simp only [intsO] at e
      cases h : intsO ds with
      | none => rw [h] at e; cases e
      | some cs =>
        rw [h] at e
        cases e
        rw [e1, ints_of rs h, show v = .int b from r]
        rfl
    | _ => cases e
theorem ins_abs : Ins g kAbs (fun xs H Q => ∃ i, xs = [.int i] ∧ Q (.int (if i < 0 then -i else i)) H) := by
  intro G H ds vs d Q b e fin
  match ds, e, b with
  | [.int i], e, b =>
    obtain ⟨v, A, rfl, r⟩ := bor1 b
    cases e
    exact ⟨i, by rw [show v = .int i from r], fin0 fin rfl⟩
theorem ins_max2 : Ins g kMax2 (fun xs H Q => ∃ i j, xs = [.int i, .int j] ∧ Q (.int (if j > i then j else i)) H) := by
  intro G H ds vs d Q b e fin
  match ds, e, b with
  | [.int i, .int j], e, b =>
    obtain ⟨v, w, A, B, rfl, r, r2⟩ := bor2 b
    cases e
    exact ⟨i, j, by rw [show v = .int i from r, show w = .int j from r2], fin0 fin rfl⟩
theorem ins_min2 : Ins g kMin2 (fun xs H Q => ∃ i j, xs = [.int i, .int j] ∧ Q (.int (if j < i then j else i)) H) := by
  intro G H ds vs d Q b e fin
  match ds, e, b with
  | [.int i, .int j], e, b =>
    obtain ⟨v, w, A, B, rfl, r, r2⟩ := bor2 b
    cases e
    exact ⟨i, j, by rw [show v = .int i from r, show w = .int j from r2], fin0 fin rfl⟩
theorem ins_int1 : Ins g kInt1 (fun xs H Q => (∃ i, xs = [.int i] ∧ Q (.int i) H) ∨ ∃ k, xs = [.bl k] ∧ Q (.int (if k then 1 else 0)) H) := by
  intro G H ds vs d Q b e fin
  match ds, e, b with
  | [.int i], e, b =>
    obtain ⟨v, A, rfl, r⟩ := bor1 b
    cases e
    exact .inl ⟨i, by rw [show v = .int i from r], fin0 fin rfl⟩
  | [.bl i], e, b =>
    obtain ⟨v, A, rfl, r⟩ := bor1 b
    cases e
    exact .inr ⟨i, by rw [show v = .bl i from r], fin0 fin rfl⟩
theorem ins_bool1 : Ins g kBool1 (fun xs H Q => (∃ i, xs = [.int i] ∧ Q (.bl (i != 0)) H) ∨ ∃ k, xs = [.bl k] ∧ Q (.bl k) H) := by
  intro G H ds vs d Q b e fin
  match ds, e, b with
  | [.int i], e, b =>
    obtain ⟨v, A, rfl, r⟩ := bor1 b
    cases e
    exact .inl ⟨i, by rw [show v = .int i from r], fin0 fin rfl⟩
  | [.bl i], e, b =>
    obtain ⟨v, A, rfl, r⟩ := bor1 b
    cases e
    exact .inr ⟨i, by rw [show v = .bl i from r], fin0 fin rfl⟩
theorem ins_list (hK : X.K = g.K) : Ins g kList (fun xs H Q => ∃ p ys, xs = [.ref p] ∧ (SqL X.K H p ys ∨ SqT X.K H p ys) ∧ ∀ l, H l = none → Q (.ref l) (upd H l (.lst ys))) := by
  intro G H ds vs d Q b e fin
  match ds, e, b with
  | [.lst o es], e, b =>
    obtain ⟨v, A, rfl, r⟩ := bor1 b
    simp only [kList] at e
    split at e
    · rename_i c
      cases e
      obtain ⟨p, us, rfl, hp, rs⟩ := lst_tr r
      exact ⟨p, us, rfl, .inl (.inl (.inl hp)), finL fin (rs.clean c)⟩
    · cases e
  | [.tup es], e, b =>
    obtain ⟨v, A, rfl, r⟩ := bor1 b
    simp only [kList] at e
    split at e
    · rename_i c
      cases e
      obtain ⟨p, us, rfl, hp, rs⟩ := tup_tr r
      exact ⟨p, us, rfl, .inr (by rw [hK]; exact hp), finL fin (rs.clean c)⟩
    · cases e
  | [.scr ns], e, b =>
    obtain ⟨v, A, rfl, r⟩ := bor1 b
    cases e
    obtain ⟨p, rfl, hp⟩ := r
    exact ⟨p, _, rfl, .inl (by rw [hK]; exact hp.sq), finL fin (reps_ints ns)⟩
theorem ins_tuple (hK : X.K = g.K) : Ins g kTuple (fun xs H Q => ∃ p ys, xs = [.ref p] ∧ ((SqL X.K H p ys ∧ ∀ l, H l = none → Q (.ref l) (upd H l (.tup ys))) ∨ (SqT X.K H p ys ∧ Q (.ref p) H))) := by
  intro G H ds vs d Q b e fin
  match ds, e, b with
  | [.lst o es], e, b =>
    obtain ⟨v, A, rfl, r⟩ := bor1 b
    simp only [kTuple] at e
    split at e
    · rename_i c
      cases e
      obtain ⟨p, us, rfl, hp, rs⟩ := lst_tr r
      exact ⟨p, us, rfl, .inl ⟨.inl (.inl hp), finT fin (rs.clean c)⟩⟩
    · cases e
  | [.tup es], e, b =>
    obtain ⟨v, A, rfl, r⟩ := bor1 b
    simp only [kTuple] at e
    split at e
    · rename_i c
      cases e
      obtain ⟨p, us, rfl, hp, rs⟩ := tup_tr r
      exact ⟨p, us, rfl, .inr ⟨by rw [hK]; exact hp, fin0 fin ⟨p, us, rfl, hp, rs.clean c⟩⟩⟩
    · cases e
theorem ins_all : Ins g kAll (rAll X.K) := by
  intro G H ds vs d Q b e fin
  match ds, e, b with
  | [.lst o es], e, b =>
    obtain ⟨v, A, rfl, r⟩ := bor1 b
    simp only [kAll] at e
    cases h : boolsO es with
    | none => rw [h] at e; cases e
    | some bs =>
      rw [h] at e
      cases e
      obtain ⟨p, us, rfl, hp, rs⟩ := lst_tr r
      exact ⟨p, bs, rfl, by rw [← bools_of rs h]; exact .inl (.inl hp), fin0 fin rfl⟩
theorem ins_any : Ins g kAny (rAny X.K) := by
  intro G H ds vs d Q b e fin
  match ds, e, b with
  | [.lst o es], e, b =>
    obtain ⟨v, A, rfl, r⟩ := bor1 b
    simp only [kAny] at e
    cases h : boolsO es with
    | none => rw [h] at e; cases e
    | some bs =>
      rw [h] at e
      cases e
      obtain ⟨p, us, rfl, hp, rs⟩ := lst_tr r
      exact ⟨p, bs, rfl, by rw [← bools_of rs h]; exact .inl (.inl hp), fin0 fin rfl⟩
theorem ins_sum : Ins g kSum (rSum X.K) := by
  intro G H ds vs d Q b e fin
  match ds, e, b with
  | [.lst o es], e, b =>
    obtain ⟨v, A, rfl, r⟩ := bor1 b
    simp only [kSum] at e
    cases h : intsO es with
    | none => rw [h] at e; cases e
    | some bs =>
      rw [h] at e
      cases e
      obtain ⟨p, us, rfl, hp, rs⟩ := lst_tr r
      exact ⟨p, bs, rfl, by rw [← ints_of rs h]; exact .inl (.inl hp), fin0 fin rfl⟩
theorem ins_max : Ins g kMax (rMax X.K) := by
  intro G H ds vs d Q b e fin
  match ds, e, b with
  | [.lst o es], e, b =>
    obtain ⟨v, A, rfl, r⟩ := bor1 b
    simp only [kMax] at e
    cases h : intsO es with
    | none => rw [h] at e; cases e
    | some bs =>
      cases bs with
      | nil => rw [h] at e; cases e
      | cons i is =>
        rw [h] at e
        cases e
        obtain ⟨p, us, rfl, hp, rs⟩ := lst_tr r
        refine ⟨p, i :: is, rfl, by rw [← ints_of rs h]; exact .inl (.inl hp), Nat.succ_pos _, fun m hm hy => ?_⟩
        obtain ⟨h1, h2⟩ := maxI_ok is i
        have : m = maxI i is := Int.le_antisymm (h2 m hm) (hy _ h1)
        rw [this]
        exact fin0 fin rfl
theorem ins_min : Ins g kMin (rMin X.K) := by
  intro G H ds vs d Q b e fin
  match ds, e, b with
  | [.lst o es], e, b =>
    obtain ⟨v, A, rfl, r⟩ := bor1 b
    simp only [kMin] at e
    cases h : intsO es with
    | none => rw [h] at e; cases e
    | some bs =>
      cases bs with
      | nil => rw [h] at e; cases e
      | cons i is =>
        rw [h] at e
        cases e
        obtain ⟨p, us, rfl, hp, rs⟩ := lst_tr r
        refine ⟨p, i :: is, rfl, by rw [← ints_of rs h]; exact .inl (.inl hp), Nat.succ_pos _, fun m hm hy => ?_⟩
        obtain ⟨h1, h2⟩ := minI_ok is i
        have : m = minI i is := Int.le_antisymm (hy _ h1) (h2 m hm)
        rw [this]
        exact fin0 fin rfl
end
end DV

namespace DV
open PySem L2
open PySem.SeqAt (EqAt RcAt RcNeAt)
/-! ### equality -/
mutual
def eqD : D → D → Bool
  | .non, .non => true
  | .bl a, .bl b => a == b
  | .bl a, .int j => (if a then 1 else 0) == j
  | .int i, .bl b => i == (if b then 1 else 0)
  | .int i, .int j => i == j
  | .str x, .str y => x == y
  | .lst _ xs, .lst _ ys => eqDs xs ys
  | .tup xs, .tup ys => eqDs xs ys
  | _, _ => false
def eqDs : List D → List D → Bool
  | [], [] => true
  | x :: xs, y :: ys => eqD x y && eqDs xs ys
  | _, _ => false
end
mutual
def dep : D → Nat
  | .tup xs => deps xs + 1
  | .lst _ xs => deps xs + 1
  | _ => 1
def deps : List D → Nat
  | [] => 0
  | x :: xs => max (dep x) (deps xs)
end
mutual
/-- data that can be compared -/
def dataD : D → Bool
  | .non => true
  | .bl _ => true
  | .int _ => true
  | .str _ => true
  | .tup xs => dataDs xs
  | .lst _ xs => dataDs xs
  | _ => false
def dataDs : List D → Bool
  | [] => true
  | x :: xs => dataD x && dataDs xs
end
mutual
def RdD (h : Heap) : D → Value → Prop
  | .non, v => v = .none
  | .bl b, v => v = .bool b
  | .int i, v => ∃ t, v = .int i t
  | .str x, v => ∃ t, v = .str x t
  | .lst _ xs, v => ∃ l vs, v = .ref l ∧ h.IsList l vs ∧ RdDs h xs vs.toList
  | .tup xs, v => ∃ l vs, v = .ref l ∧ h.IsTuple l vs ∧ RdDs h xs vs.toList
  | _, _ => False
def RdDs (h : Heap) : List D → List Value → Prop
  | [], vs => vs = []
  | x :: xs, vs => ∃ v vr, vs = v :: vr ∧ RdD h x v ∧ RdDs h xs vr
end
theorem RdDs.length {h : Heap} : ∀ {xs : List D} {vs : List Value}, RdDs h xs vs → vs.length = xs.length
  | [], _, e => by rw [show _ = _ from e]; rfl
  | _ :: xs, _, ⟨v, vr, e, _, r⟩ => by subst e; rw [List.length_cons, List.length_cons, RdDs.length r]
theorem isL_uniq {h : Heap} {l : Addr} {vs ws : Array Value} (a : h.IsList l vs) (b : h.IsList l ws) : vs = ws := by
  obtain ⟨o, ho, _, n, hd⟩ := a
  obtain ⟨o2, ho2, _, n2, hd2⟩ := b
  rw [ho] at ho2; cases ho2
  rw [hd] at hd2; cases hd2
  rfl
theorem isT_uniq {h : Heap} {l : Addr} {vs ws : Array Value} (a : h.IsTuple l vs) (b : h.IsTuple l ws) : vs = ws := by
  obtain ⟨o, ho, _, n, hd⟩ := a
  obtain ⟨o2, ho2, _, n2, hd2⟩ := b
  rw [ho] at ho2; cases ho2
  rw [hd] at hd2; cases hd2
  rfl
theorem isLT {h : Heap} {l : Addr} {vs ws : Array Value} (a : h.IsList l vs) (b : h.IsTuple l ws) : False := by
  obtain ⟨o, ho, hc, n, hd⟩ := a
  obtain ⟨o2, ho2, hc2, n2, hd2⟩ := b
  rw [ho] at ho2; cases ho2
  rw [hc] at hc2
  exact absurd hc2 (by simp)
mutual
theorem sameD {h : Heap} : ∀ {d e : D} {v : Value}, RdD h d v → RdD h e v → eqD d e = true
  | .non, .non, _, ra, rb => by rfl
  | .non, .bl x', _, ra, rb => by exfalso; revert rb; cases (show _ = _ from ra); intro rb; cases (show _ = _ from rb)
  | .non, .int x', _, ra, rb => by exfalso; revert rb; cases (show _ = _ from ra); intro rb; obtain ⟨_, e⟩ := rb; cases e
  | .non, .str x', _, ra, rb => by exfalso; revert rb; cases (show _ = _ from ra); intro rb; obtain ⟨_, e⟩ := rb; cases e
  | .non, .lst o' xs', _, ra, rb => by exfalso; revert rb; cases (show _ = _ from ra); intro rb; obtain ⟨_, _, e, _⟩ := rb; cases e
  | .non, .tup xs', _, ra, rb => by exfalso; revert rb; cases (show _ = _ from ra); intro rb; obtain ⟨_, _, e, _⟩ := rb; cases e
  | .bl x, .non, _, ra, rb => by exfalso; revert rb; cases (show _ = _ from ra); intro rb; cases (show _ = _ from rb)
  | .bl x, .bl x', _, ra, rb => by cases (show _ = _ from ra); cases (show _ = _ from rb); simp [eqD]
  | .bl x, .int x', _, ra, rb => by exfalso; revert rb; cases (show _ = _ from ra); intro rb; obtain ⟨_, e⟩ := rb; cases e
  | .bl x, .str x', _, ra, rb => by exfalso; revert rb; cases (show _ = _ from ra); intro rb; obtain ⟨_, e⟩ := rb; cases e
  | .bl x, .lst o' xs', _, ra, rb => by exfalso; revert rb; cases (show _ = _ from ra); intro rb; obtain ⟨_, _, e, _⟩ := rb; cases e
  | .bl x, .tup xs', _, ra, rb => by exfalso; revert rb; cases (show _ = _ from ra); intro rb; obtain ⟨_, _, e, _⟩ := rb; cases e
  | .int x, .non, _, ra, rb => by exfalso; revert rb; obtain ⟨t, rfl⟩ := ra; intro rb; cases (show _ = _ from rb)
  | .int x, .bl x', _, ra, rb => by exfalso; revert rb; obtain ⟨t, rfl⟩ := ra; intro rb; cases (show _ = _ from rb)
  | .int x, .int x', _, ra, rb => by obtain ⟨t, rfl⟩ := ra; obtain ⟨t2, e⟩ := rb; cases e; simp [eqD]
  | .int x, .str x', _, ra, rb => by exfalso; revert rb; obtain ⟨t, rfl⟩ := ra; intro rb; obtain ⟨_, e⟩ := rb; cases e
  | .int x, .lst o' xs', _, ra, rb => by exfalso; revert rb; obtain ⟨t, rfl⟩ := ra; intro rb; obtain ⟨_, _, e, _⟩ := rb; cases e
  | .int x, .tup xs', _, ra, rb => by exfalso; revert rb; obtain ⟨t, rfl⟩ := ra; intro rb; obtain ⟨_, _, e, _⟩ := rb; cases e
  | .str x, .non, _, ra, rb => by exfalso; revert rb; obtain ⟨t, rfl⟩ := ra; intro rb; cases (show _ = _ from rb)
  | .str x, .bl x', _, ra, rb => by exfalso; revert rb; obtain ⟨t, rfl⟩ := ra; intro rb; cases (show _ = _ from rb)
  | .str x, .int x', _, ra, rb => by exfalso; revert rb; obtain ⟨t, rfl⟩ := ra; intro rb; obtain ⟨_, e⟩ := rb; cases e
  | .str x, .str x', _, ra, rb => by obtain ⟨t, rfl⟩ := ra; obtain ⟨t2, e⟩ := rb; cases e; simp [eqD]
  | .str x, .lst o' xs', _, ra, rb => by exfalso; revert rb; obtain ⟨t, rfl⟩ := ra; intro rb; obtain ⟨_, _, e, _⟩ := rb; cases e
  | .str x, .tup xs', _, ra, rb => by exfalso; revert rb; obtain ⟨t, rfl⟩ := ra; intro rb; obtain ⟨_, _, e, _⟩ := rb; cases e
  | .lst o xs, .non, _, ra, rb => by exfalso; revert rb; obtain ⟨l, vs, rfl, hl, h4⟩ := ra; intro rb; cases (show _ = _ from rb)
  | .lst o xs, .bl x', _, ra, rb => by exfalso; revert rb; obtain ⟨l, vs, rfl, hl, h4⟩ := ra; intro rb; cases (show _ = _ from rb)
  | .lst o xs, .int x', _, ra, rb => by exfalso; revert rb; obtain ⟨l, vs, rfl, hl, h4⟩ := ra; intro rb; obtain ⟨_, e⟩ := rb; cases e
  | .lst o xs, .str x', _, ra, rb => by exfalso; revert rb; obtain ⟨l, vs, rfl, hl, h4⟩ := ra; intro rb; obtain ⟨_, e⟩ := rb; cases e
  | .lst o xs, .lst o' xs', _, ra, rb => by
    obtain ⟨l, vs, e, hl, h4⟩ := ra
    obtain ⟨l', vs', e', hl', h4'⟩ := rb
    subst e
    cases e'
    obtain rfl := isL_uniq hl hl'
    exact sameDs h4 h4'
  | .lst o xs, .tup xs', _, ra, rb => by obtain ⟨l, vs, rfl, hl, h4⟩ := ra; obtain ⟨l', vs', e, hl', h4'⟩ := rb; cases e; exact (isLT hl hl').elim
  | .tup xs, .non, _, ra, rb => by exfalso; revert rb; obtain ⟨l, vs, rfl, hl, h4⟩ := ra; intro rb; cases (show _ = _ from rb)
  | .tup xs, .bl x', _, ra, rb => by exfalso; revert rb; obtain ⟨l, vs, rfl, hl, h4⟩ := ra; intro rb; cases (show _ = _ from rb)
  | .tup xs, .int x', _, ra, rb => by exfalso; revert rb; obtain ⟨l, vs, rfl, hl, h4⟩ := ra; intro rb; obtain ⟨_, e⟩ := rb; cases e
  | .tup xs, .str x', _, ra, rb => by exfalso; revert rb; obtain ⟨l, vs, rfl, hl, h4⟩ := ra; intro rb; obtain ⟨_, e⟩ := rb; cases e
  | .tup xs, .lst o' xs', _, ra, rb => by obtain ⟨l, vs, rfl, hl, h4⟩ := ra; obtain ⟨l', vs', e, hl', h4'⟩ := rb; cases e; exact (isLT hl' hl).elim
  | .tup xs, .tup xs', _, ra, rb => by
    obtain ⟨l, vs, e, hl, h4⟩ := ra
    obtain ⟨l', vs', e', hl', h4'⟩ := rb
    subst e
    cases e'
    obtain rfl := isT_uniq hl hl'
    exact sameDs h4 h4'
  | .dct _ _ _, _, _, ra, _ => False.elim ra
  | .dcT _ _ _, _, _, ra, _ => False.elim ra
  | .ins _ _ _ _, _, _, ra, _ => False.elim ra
  | .ty _, _, _, ra, _ => False.elim ra
  | .scr _, _, _, ra, _ => False.elim ra
  | .non, .dct _ _ _, _, _, rb => False.elim rb
  | .bl _, .dct _ _ _, _, _, rb => False.elim rb
  | .int _, .dct _ _ _, _, _, rb => False.elim rb
  | .str _, .dct _ _ _, _, _, rb => False.elim rb
  | .lst _ _, .dct _ _ _, _, _, rb => False.elim rb
  | .tup _, .dct _ _ _, _, _, rb => False.elim rb
  | .non, .dcT _ _ _, _, _, rb => False.elim rb
  | .bl _, .dcT _ _ _, _, _, rb => False.elim rb
  | .int _, .dcT _ _ _, _, _, rb => False.elim rb
  | .str _, .dcT _ _ _, _, _, rb => False.elim rb
  | .lst _ _, .dcT _ _ _, _, _, rb => False.elim rb
  | .tup _, .dcT _ _ _, _, _, rb => False.elim rb
  | .non, .ins _ _ _ _, _, _, rb => False.elim rb
  | .bl _, .ins _ _ _ _, _, _, rb => False.elim rb
  | .int _, .ins _ _ _ _, _, _, rb => False.elim rb
  | .str _, .ins _ _ _ _, _, _, rb => False.elim rb
  | .lst _ _, .ins _ _ _ _, _, _, rb => False.elim rb
  | .tup _, .ins _ _ _ _, _, _, rb => False.elim rb
  | .non, .ty _, _, _, rb => False.elim rb
  | .bl _, .ty _, _, _, rb => False.elim rb
  | .int _, .ty _, _, _, rb => False.elim rb
  | .str _, .ty _, _, _, rb => False.elim rb
  | .lst _ _, .ty _, _, _, rb => False.elim rb
  | .tup _, .ty _, _, _, rb => False.elim rb
  | .non, .scr _, _, _, rb => False.elim rb
  | .bl _, .scr _, _, _, rb => False.elim rb
  | .int _, .scr _, _, _, rb => False.elim rb
  | .str _, .scr _, _, _, rb => False.elim rb
  | .lst _ _, .scr _, _, _, rb => False.elim rb
  | .tup _, .scr _, _, _, rb => False.elim rb
theorem sameDs {h : Heap} : ∀ {d e : List D} {v : List Value}, RdDs h d v → RdDs h e v → eqDs d e = true
  | [], [], _, _, _ => rfl
  | [], _ :: _, _, a, ⟨_, _, e, _⟩ => by rw [show _ = _ from a] at e; cases e
  | _ :: _, [], _, ⟨_, _, e, _⟩, a => by rw [show _ = _ from a] at e; cases e
  | d :: ds, e :: es, _, ⟨v, vr, e1, r, rs⟩, ⟨v2, vr2, e2, r2, rs2⟩ => by
    subst e1
    cases e2
    simp only [eqDs, Bool.and_eq_true]
    exact ⟨sameD r r2, sameDs rs rs2⟩
end
abbrev pairEqD (xs ys : List D) (j : Nat) : Bool := eqD (xs.getD j .non) (ys.getD j .non)
theorem eqDs_eq : ∀ xs ys : List D, ((List.range (min xs.length ys.length)).all (pairEqD xs ys) && xs.length == ys.length) = eqDs xs ys
  | [], [] => rfl
  | [], _ :: _ => by simp [eqDs]
  | _ :: _, [] => by simp [eqDs]
  | x :: xs, y :: ys => by
    have ih := eqDs_eq xs ys
    have e1 : min (x :: xs).length (y :: ys).length = min xs.length ys.length + 1 := by simp only [List.length_cons]; omega
    have e2 : ((x :: xs).length == (y :: ys).length) = (xs.length == ys.length) := by simp
    have e3 : (List.range (min xs.length ys.length + 1)).all (pairEqD (x :: xs) (y :: ys)) = (eqD x y && (List.range (min xs.length ys.length)).all (pairEqD xs ys)) := by
      rw [List.range_succ_eq_map, List.all_cons, List.all_map]
      first | rfl | simp [pairEqD, Function.comp_def]
    rw [e1, e2, e3, eqDs, ← ih, Bool.and_assoc]
theorem eqDs_same {xs ys : List D} (h : xs.length = ys.length) : (List.range xs.length).all (pairEqD xs ys) = eqDs xs ys := by
  have := eqDs_eq xs ys
  rw [← h, Nat.min_self] at this
  simpa using this
theorem eqDs_other {xs ys : List D} (h : xs.length ≠ ys.length) : eqDs xs ys = false := by
  rw [← eqDs_eq xs ys]
  simp [h]
def notF : Value → Bool
  | .float _ _ => false
  | _ => true
theorem RdD.nf {h : Heap} : ∀ {d : D} {v : Value}, RdD h d v → notF v = true
  | .non, _, e => by rw [show _ = _ from e]; rfl
  | .bl _, _, e => by rw [show _ = _ from e]; rfl
  | .int _, _, ⟨_, e⟩ => by rw [e]; rfl
  | .str _, _, ⟨_, e⟩ => by rw [e]; rfl
  | .lst _ _, _, ⟨_, _, e, _⟩ => by rw [e]; rfl
  | .tup _, _, ⟨_, _, e, _⟩ => by rw [e]; rfl
theorem eqAt_of {A : Around} {s : Shared} {a b : Value} {k : Bool} (nf : notF a = true) (rc : RcAt A s a b k) (h : a = b → k = true) : EqAt A s a b k := fun prog w E Q hq => by
  unfold eqBool
  refine wpAny_holding ?_
  refine wpAny_ite_split (fun hab => ?_) (fun _ => ?_)
  · rw [h (eq_of_beq hab)] at hq
    exact wpAny_bind (wpAny_rule (wpAny_pure hq))
  · cases a with
    | float _ _ => cases nf
    | _ => exact wpAny_bind (rc prog w E _ (wpAny_truthy_bool hq))
open PySem.SeqAt (room_in room_head room_tail)
mutual
theorem rcD : ∀ {d e : D} {A : Around} {s : Shared} {a b : Value}, RdD s.heap d a → RdD s.heap e b → A.units + min (dep d) (dep e) < cLine → RcAt A s a b (eqD d e)
  | .non, .non, A, s, _, _, ra, rb, hu => by
    cases (show _ = _ from ra)
    cases (show _ = _ from rb)
    exact RcAt.none_none
  | .non, .bl x', A, s, _, _, ra, rb, hu => by
    cases (show _ = _ from ra)
    cases (show _ = _ from rb)
    exact RcAt.none_bool x'
  | .non, .int x', A, s, _, _, ra, rb, hu => by
    cases (show _ = _ from ra)
    obtain ⟨t', rfl⟩ := rb
    exact RcAt.none_int x' t'
  | .non, .str x', A, s, _, _, ra, rb, hu => by
    cases (show _ = _ from ra)
    obtain ⟨t', rfl⟩ := rb
    exact RcAt.none_str x' t'
  | .non, .lst o' xs', A, s, _, _, ra, rb, hu => by
    cases (show _ = _ from ra)
    obtain ⟨l', vs', rfl, hl', h4'⟩ := rb
    exact RcAt.none_list hl' (Nat.lt_of_le_of_lt (Nat.le_add_right _ _) hu)
  | .non, .tup xs', A, s, _, _, ra, rb, hu => by
    cases (show _ = _ from ra)
    obtain ⟨l', vs', rfl, hl', h4'⟩ := rb
    exact RcAt.none_tuple hl' (Nat.lt_of_le_of_lt (Nat.le_add_right _ _) hu)
  | .bl x, .non, A, s, _, _, ra, rb, hu => by
    cases (show _ = _ from ra)
    cases (show _ = _ from rb)
    exact RcAt.bool_none x
  | .bl x, .bl x', A, s, _, _, ra, rb, hu => by
    cases (show _ = _ from ra)
    cases (show _ = _ from rb)
    exact RcAt.bool_bool x x'
  | .bl x, .int x', A, s, _, _, ra, rb, hu => by
    cases (show _ = _ from ra)
    obtain ⟨t', rfl⟩ := rb
    exact RcAt.bool_int x x' t'
  | .bl x, .str x', A, s, _, _, ra, rb, hu => by
    cases (show _ = _ from ra)
    obtain ⟨t', rfl⟩ := rb
    exact RcAt.bool_str x x' t'
  | .bl x, .lst o' xs', A, s, _, _, ra, rb, hu => by
    cases (show _ = _ from ra)
    obtain ⟨l', vs', rfl, hl', h4'⟩ := rb
    exact RcAt.bool_list x hl' (Nat.lt_of_le_of_lt (Nat.le_add_right _ _) hu)
  | .bl x, .tup xs', A, s, _, _, ra, rb, hu => by
    cases (show _ = _ from ra)
    obtain ⟨l', vs', rfl, hl', h4'⟩ := rb
    exact RcAt.bool_tuple x hl' (Nat.lt_of_le_of_lt (Nat.le_add_right _ _) hu)
  | .int x, .non, A, s, _, _, ra, rb, hu => by
    obtain ⟨t, rfl⟩ := ra
    cases (show _ = _ from rb)
    exact RcAt.int_none x t
  | .int x, .bl x', A, s, _, _, ra, rb, hu => by
    obtain ⟨t, rfl⟩ := ra
    cases (show _ = _ from rb)
    exact RcAt.int_bool x t x'
  | .int x, .int x', A, s, _, _, ra, rb, hu => by
    obtain ⟨t, rfl⟩ := ra
    obtain ⟨t', rfl⟩ := rb
    exact RcAt.int_int x t x' t'
  | .int x, .str x', A, s, _, _, ra, rb, hu => by
    obtain ⟨t, rfl⟩ := ra
    obtain ⟨t', rfl⟩ := rb
    exact RcAt.int_str x t x' t'
  | .int x, .lst o' xs', A, s, _, _, ra, rb, hu => by
    obtain ⟨t, rfl⟩ := ra
    obtain ⟨l', vs', rfl, hl', h4'⟩ := rb
    exact RcAt.int_list x t hl' (Nat.lt_of_le_of_lt (Nat.le_add_right _ _) hu)
  | .int x, .tup xs', A, s, _, _, ra, rb, hu => by
    obtain ⟨t, rfl⟩ := ra
    obtain ⟨l', vs', rfl, hl', h4'⟩ := rb
    exact RcAt.int_tuple x t hl' (Nat.lt_of_le_of_lt (Nat.le_add_right _ _) hu)
  | .str x, .non, A, s, _, _, ra, rb, hu => by
    obtain ⟨t, rfl⟩ := ra
    cases (show _ = _ from rb)
    exact RcAt.str_none x t
  | .str x, .bl x', A, s, _, _, ra, rb, hu => by
    obtain ⟨t, rfl⟩ := ra
    cases (show _ = _ from rb)
    exact RcAt.str_bool x t x'
  | .str x, .int x', A, s, _, _, ra, rb, hu => by
    obtain ⟨t, rfl⟩ := ra
    obtain ⟨t', rfl⟩ := rb
    exact RcAt.str_int x t x' t'
  | .str x, .str x', A, s, _, _, ra, rb, hu => by
    obtain ⟨t, rfl⟩ := ra
    obtain ⟨t', rfl⟩ := rb
    exact RcAt.str_str x t x' t'
  | .str x, .lst o' xs', A, s, _, _, ra, rb, hu => by
    obtain ⟨t, rfl⟩ := ra
    obtain ⟨l', vs', rfl, hl', h4'⟩ := rb
    exact RcAt.str_list x t hl' (Nat.lt_of_le_of_lt (Nat.le_add_right _ _) hu)
  | .str x, .tup xs', A, s, _, _, ra, rb, hu => by
    obtain ⟨t, rfl⟩ := ra
    obtain ⟨l', vs', rfl, hl', h4'⟩ := rb
    exact RcAt.str_tuple x t hl' (Nat.lt_of_le_of_lt (Nat.le_add_right _ _) hu)
  | .lst o xs, .non, A, s, _, _, ra, rb, hu => by
    obtain ⟨l, vs, rfl, hl, h4⟩ := ra
    cases (show _ = _ from rb)
    exact RcAt.list_none hl (Nat.lt_of_le_of_lt (Nat.le_add_right _ _) hu)
  | .lst o xs, .bl x', A, s, _, _, ra, rb, hu => by
    obtain ⟨l, vs, rfl, hl, h4⟩ := ra
    cases (show _ = _ from rb)
    exact RcAt.list_bool x' hl (Nat.lt_of_le_of_lt (Nat.le_add_right _ _) hu)
  | .lst o xs, .int x', A, s, _, _, ra, rb, hu => by
    obtain ⟨l, vs, rfl, hl, h4⟩ := ra
    obtain ⟨t', rfl⟩ := rb
    exact RcAt.list_int x' t' hl (Nat.lt_of_le_of_lt (Nat.le_add_right _ _) hu)
  | .lst o xs, .str x', A, s, _, _, ra, rb, hu => by
    obtain ⟨l, vs, rfl, hl, h4⟩ := ra
    obtain ⟨t', rfl⟩ := rb
    exact RcAt.list_str x' t' hl (Nat.lt_of_le_of_lt (Nat.le_add_right _ _) hu)
  | .lst o xs, .lst o' xs', A, s, _, _, ra, rb, hu => by
    obtain ⟨l, vs, rfl, hl, h4⟩ := ra
    obtain ⟨l', vs', rfl, hl', h4'⟩ := rb
    have n1 : vs.size = xs.length := by simpa using RdDs.length h4
    have n2 : vs'.size = xs'.length := by simpa using RdDs.length h4'
    have hr := room_in hu
    have he : ∀ j (j1 : j < vs.size) (j2 : j < vs'.size), EqAt A.in1 s vs[j] vs'[j] (pairEqD xs xs' j) := fun j j1 j2 => by
      have := rcDs (A := A.in1) h4 h4' hr j (by simpa using j1) (by simpa using j2)
      simpa using this
    show RcAt A s (.ref l) (.ref l') (eqDs xs xs')
    by_cases hsz : vs.size = vs'.size
    · rw [← eqDs_same (by omega : xs.length = xs'.length), ← n1]
      exact RcAt.lists hl hl' hsz (Nat.lt_of_le_of_lt (Nat.le_add_right _ _) hu) he
    · rw [eqDs_other (by omega : xs.length ≠ xs'.length)]
      exact RcAt.lists_lengths hl hl' (by simpa using hsz) (Nat.lt_of_le_of_lt (Nat.le_add_right _ _) hu)
  | .lst o xs, .tup xs', A, s, _, _, ra, rb, hu => by
    obtain ⟨l, vs, rfl, hl, h4⟩ := ra
    obtain ⟨l', vs', rfl, hl', h4'⟩ := rb
    exact RcAt.list_tuple hl hl' (Nat.lt_of_le_of_lt (Nat.le_add_right _ _) hu)
  | .tup xs, .non, A, s, _, _, ra, rb, hu => by
    obtain ⟨l, vs, rfl, hl, h4⟩ := ra
    cases (show _ = _ from rb)
    exact RcAt.tuple_none hl (Nat.lt_of_le_of_lt (Nat.le_add_right _ _) hu)
  | .tup xs, .bl x', A, s, _, _, ra, rb, hu => by
    obtain ⟨l, vs, rfl, hl, h4⟩ := ra
    cases (show _ = _ from rb)
    exact RcAt.tuple_bool x' hl (Nat.lt_of_le_of_lt (Nat.le_add_right _ _) hu)
  | .tup xs, .int x', A, s, _, _, ra, rb, hu => by
    obtain ⟨l, vs, rfl, hl, h4⟩ := ra
    obtain ⟨t', rfl⟩ := rb
    exact RcAt.tuple_int x' t' hl (Nat.lt_of_le_of_lt (Nat.le_add_right _ _) hu)
  | .tup xs, .str x', A, s, _, _, ra, rb, hu => by
    obtain ⟨l, vs, rfl, hl, h4⟩ := ra
    obtain ⟨t', rfl⟩ := rb
    exact RcAt.tuple_str x' t' hl (Nat.lt_of_le_of_lt (Nat.le_add_right _ _) hu)
  | .tup xs, .lst o' xs', A, s, _, _, ra, rb, hu => by
    obtain ⟨l, vs, rfl, hl, h4⟩ := ra
    obtain ⟨l', vs', rfl, hl', h4'⟩ := rb
    exact RcAt.tuple_list hl hl' (Nat.lt_of_le_of_lt (Nat.le_add_right _ _) hu)
  | .tup xs, .tup xs', A, s, _, _, ra, rb, hu => by
    obtain ⟨l, vs, rfl, hl, h4⟩ := ra
    obtain ⟨l', vs', rfl, hl', h4'⟩ := rb
    have n1 : vs.size = xs.length := by simpa using RdDs.length h4
    have n2 : vs'.size = xs'.length := by simpa using RdDs.length h4'
    have hr := room_in hu
    have he : ∀ j (j1 : j < vs.size) (j2 : j < vs'.size), EqAt A.in1 s vs[j] vs'[j] (pairEqD xs xs' j) := fun j j1 j2 => by
      have := rcDs (A := A.in1) h4 h4' hr j (by simpa using j1) (by simpa using j2)
      simpa using this
    show RcAt A s (.ref l) (.ref l') (eqDs xs xs')
    rw [← eqDs_eq xs xs', ← n1, ← n2]
    exact RcAt.tuples hl hl' (Nat.lt_of_le_of_lt (Nat.le_add_right _ _) hu) he
  | .dct _ _ _, _, _, _, _, _, ra, _, _ => False.elim ra
  | .dcT _ _ _, _, _, _, _, _, ra, _, _ => False.elim ra
  | .ins _ _ _ _, _, _, _, _, _, ra, _, _ => False.elim ra
  | .ty _, _, _, _, _, _, ra, _, _ => False.elim ra
  | .scr _, _, _, _, _, _, ra, _, _ => False.elim ra
  | .non, .dct _ _ _, _, _, _, _, _, rb, _ => False.elim rb
  | .bl _, .dct _ _ _, _, _, _, _, _, rb, _ => False.elim rb
  | .int _, .dct _ _ _, _, _, _, _, _, rb, _ => False.elim rb
  | .str _, .dct _ _ _, _, _, _, _, _, rb, _ => False.elim rb
  | .lst _ _, .dct _ _ _, _, _, _, _, _, rb, _ => False.elim rb
  | .tup _, .dct _ _ _, _, _, _, _, _, rb, _ => False.elim rb
  | .non, .dcT _ _ _, _, _, _, _, _, rb, _ => False.elim rb
  | .bl _, .dcT _ _ _, _, _, _, _, _, rb, _ => False.elim rb
  | .int _, .dcT _ _ _, _, _, _, _, _, rb, _ => False.elim rb
  | .str _, .dcT _ _ _, _, _, _, _, _, rb, _ => False.elim rb
  | .lst _ _, .dcT _ _ _, _, _, _, _, _, rb, _ => False.elim rb
  | .tup _, .dcT _ _ _, _, _, _, _, _, rb, _ => False.elim rb
  | .non, .ins _ _ _ _, _, _, _, _, _, rb, _ => False.elim rb
  | .bl _, .ins _ _ _ _, _, _, _, _, _, rb, _ => False.elim rb
  | .int _, .ins _ _ _ _, _, _, _, _, _, rb, _ => False.elim rb
  | .str _, .ins _ _ _ _, _, _, _, _, _, rb, _ => False.elim rb
  | .lst _ _, .ins _ _ _ _, _, _, _, _, _, rb, _ => False.elim rb
  | .tup _, .ins _ _ _ _, _, _, _, _, _, rb, _ => False.elim rb
  | .non, .ty _, _, _, _, _, _, rb, _ => False.elim rb
  | .bl _, .ty _, _, _, _, _, _, rb, _ => False.elim rb
  | .int _, .ty _, _, _, _, _, _, rb, _ => False.elim rb
  | .str _, .ty _, _, _, _, _, _, rb, _ => False.elim rb
  | .lst _ _, .ty _, _, _, _, _, _, rb, _ => False.elim rb
  | .tup _, .ty _, _, _, _, _, _, rb, _ => False.elim rb
  | .non, .scr _, _, _, _, _, _, rb, _ => False.elim rb
  | .bl _, .scr _, _, _, _, _, _, rb, _ => False.elim rb
  | .int _, .scr _, _, _, _, _, _, rb, _ => False.elim rb
  | .str _, .scr _, _, _, _, _, _, rb, _ => False.elim rb
  | .lst _ _, .scr _, _, _, _, _, _, rb, _ => False.elim rb
  | .tup _, .scr _, _, _, _, _, _, rb, _ => False.elim rb
theorem rcDs : ∀ {xs ys : List D} {A : Around} {s : Shared} {vs ws : List Value}, RdDs s.heap xs vs → RdDs s.heap ys ws → A.units + min (deps xs) (deps ys) < cLine → ∀ j (h1 : j < vs.length) (h2 : j < ws.length), EqAt A s vs[j] ws[j] (pairEqD xs ys j)
  | [], _, _, _, _, _, ra, _, _, j, h1, _ => by rw [show _ = _ from ra] at h1; exact absurd h1 (Nat.not_lt_zero _)
  | _ :: _, [], _, _, _, _, _, rb, _, j, _, h2 => by rw [show _ = _ from rb] at h2; exact absurd h2 (Nat.not_lt_zero _)
  | x :: xs, y :: ys, A, s, _, _, ⟨v, vr, e1, r, rs⟩, ⟨v', vr', e2, r', rs'⟩, hu, j, h1, h2 => by
    subst e1 e2
    cases j with
    | zero => exact eqAt_of r.nf (rcD r r' (room_head hu)) fun e => by subst e; exact sameD r r'
    | succ j => exact rcDs rs rs' (room_tail hu) j (Nat.lt_of_succ_lt_succ h1) (Nat.lt_of_succ_lt_succ h2)
end
theorem eqAtD {d e : D} {A : Around} {s : Shared} {a b : Value} (r : RdD s.heap d a) (r' : RdD s.heap e b) (hu : A.units + min (dep d) (dep e) < cLine) : EqAt A s a b (eqD d e) := eqAt_of r.nf (rcD r r' hu) fun e => by subst e; exact sameD r r'
theorem neD : ∀ {d e : D} {A : Around} {s : Shared} {a b : Value}, RdD s.heap d a → RdD s.heap e b → A.units + min (dep d) (dep e) < cLine → RcNeAt A s a b (!eqD d e)
  | .non, .non, A, s, _, _, ra, rb, hu => by
    cases (show _ = _ from ra)
    cases (show _ = _ from rb)
    exact RcNeAt.none_none
  | .non, .bl x', A, s, _, _, ra, rb, hu => by
    cases (show _ = _ from ra)
    cases (show _ = _ from rb)
    exact RcNeAt.none_bool x'
  | .non, .int x', A, s, _, _, ra, rb, hu => by
    cases (show _ = _ from ra)
    obtain ⟨t', rfl⟩ := rb
    exact RcNeAt.none_int x' t'
  | .non, .str x', A, s, _, _, ra, rb, hu => by
    cases (show _ = _ from ra)
    obtain ⟨t', rfl⟩ := rb
    exact RcNeAt.none_str x' t'
  | .non, .lst o' xs', A, s, _, _, ra, rb, hu => by
    cases (show _ = _ from ra)
    obtain ⟨l', vs', rfl, hl', h4'⟩ := rb
    exact RcNeAt.none_list hl' (Nat.lt_of_le_of_lt (Nat.le_add_right _ _) hu)
  | .non, .tup xs', A, s, _, _, ra, rb, hu => by
    cases (show _ = _ from ra)
    obtain ⟨l', vs', rfl, hl', h4'⟩ := rb
    exact RcNeAt.none_tuple hl' (Nat.lt_of_le_of_lt (Nat.le_add_right _ _) hu)
  | .bl x, .non, A, s, _, _, ra, rb, hu => by
    cases (show _ = _ from ra)
    cases (show _ = _ from rb)
    exact RcNeAt.bool_none x
  | .bl x, .bl x', A, s, _, _, ra, rb, hu => by
    cases (show _ = _ from ra)
    cases (show _ = _ from rb)
    exact RcNeAt.bool_bool x x'
  | .bl x, .int x', A, s, _, _, ra, rb, hu => by
    cases (show _ = _ from ra)
    obtain ⟨t', rfl⟩ := rb
    exact RcNeAt.bool_int x x' t'
  | .bl x, .str x', A, s, _, _, ra, rb, hu => by
    cases (show _ = _ from ra)
    obtain ⟨t', rfl⟩ := rb
    exact RcNeAt.bool_str x x' t'
  | .bl x, .lst o' xs', A, s, _, _, ra, rb, hu => by
    cases (show _ = _ from ra)
    obtain ⟨l', vs', rfl, hl', h4'⟩ := rb
    exact RcNeAt.bool_list x hl' (Nat.lt_of_le_of_lt (Nat.le_add_right _ _) hu)
  | .bl x, .tup xs', A, s, _, _, ra, rb, hu => by
    cases (show _ = _ from ra)
    obtain ⟨l', vs', rfl, hl', h4'⟩ := rb
    exact RcNeAt.bool_tuple x hl' (Nat.lt_of_le_of_lt (Nat.le_add_right _ _) hu)
  | .int x, .non, A, s, _, _, ra, rb, hu => by
    obtain ⟨t, rfl⟩ := ra
    cases (show _ = _ from rb)
    exact RcNeAt.int_none x t
  | .int x, .bl x', A, s, _, _, ra, rb, hu => by
    obtain ⟨t, rfl⟩ := ra
    cases (show _ = _ from rb)
    exact RcNeAt.int_bool x t x'
  | .int x, .int x', A, s, _, _, ra, rb, hu => by
    obtain ⟨t, rfl⟩ := ra
    obtain ⟨t', rfl⟩ := rb
    exact RcNeAt.int_int x t x' t'
  | .int x, .str x', A, s, _, _, ra, rb, hu => by
    obtain ⟨t, rfl⟩ := ra
    obtain ⟨t', rfl⟩ := rb
    exact RcNeAt.int_str x t x' t'
  | .int x, .lst o' xs', A, s, _, _, ra, rb, hu => by
    obtain ⟨t, rfl⟩ := ra
    obtain ⟨l', vs', rfl, hl', h4'⟩ := rb
    exact RcNeAt.int_list x t hl' (Nat.lt_of_le_of_lt (Nat.le_add_right _ _) hu)
  | .int x, .tup xs', A, s, _, _, ra, rb, hu => by
    obtain ⟨t, rfl⟩ := ra
    obtain ⟨l', vs', rfl, hl', h4'⟩ := rb
    exact RcNeAt.int_tuple x t hl' (Nat.lt_of_le_of_lt (Nat.le_add_right _ _) hu)
  | .str x, .non, A, s, _, _, ra, rb, hu => by
    obtain ⟨t, rfl⟩ := ra
    cases (show _ = _ from rb)
    exact RcNeAt.str_none x t
  | .str x, .bl x', A, s, _, _, ra, rb, hu => by
    obtain ⟨t, rfl⟩ := ra
    cases (show _ = _ from rb)
    exact RcNeAt.str_bool x t x'
  | .str x, .int x', A, s, _, _, ra, rb, hu => by
    obtain ⟨t, rfl⟩ := ra
    obtain ⟨t', rfl⟩ := rb
    exact RcNeAt.str_int x t x' t'
  | .str x, .str x', A, s, _, _, ra, rb, hu => by
    obtain ⟨t, rfl⟩ := ra
    obtain ⟨t', rfl⟩ := rb
    exact RcNeAt.str_str x t x' t'
  | .str x, .lst o' xs', A, s, _, _, ra, rb, hu => by
    obtain ⟨t, rfl⟩ := ra
    obtain ⟨l', vs', rfl, hl', h4'⟩ := rb
    exact RcNeAt.str_list x t hl' (Nat.lt_of_le_of_lt (Nat.le_add_right _ _) hu)
  | .str x, .tup xs', A, s, _, _, ra, rb, hu => by
    obtain ⟨t, rfl⟩ := ra
    obtain ⟨l', vs', rfl, hl', h4'⟩ := rb
    exact RcNeAt.str_tuple x t hl' (Nat.lt_of_le_of_lt (Nat.le_add_right _ _) hu)
  | .lst o xs, .non, A, s, _, _, ra, rb, hu => by
    obtain ⟨l, vs, rfl, hl, h4⟩ := ra
    cases (show _ = _ from rb)
    exact RcNeAt.list_none hl (Nat.lt_of_le_of_lt (Nat.le_add_right _ _) hu)
  | .lst o xs, .bl x', A, s, _, _, ra, rb, hu => by
    obtain ⟨l, vs, rfl, hl, h4⟩ := ra
    cases (show _ = _ from rb)
    exact RcNeAt.list_bool x' hl (Nat.lt_of_le_of_lt (Nat.le_add_right _ _) hu)
  | .lst o xs, .int x', A, s, _, _, ra, rb, hu => by
    obtain ⟨l, vs, rfl, hl, h4⟩ := ra
    obtain ⟨t', rfl⟩ := rb
    exact RcNeAt.list_int x' t' hl (Nat.lt_of_le_of_lt (Nat.le_add_right _ _) hu)
  | .lst o xs, .str x', A, s, _, _, ra, rb, hu => by
    obtain ⟨l, vs, rfl, hl, h4⟩ := ra
    obtain ⟨t', rfl⟩ := rb
    exact RcNeAt.list_str x' t' hl (Nat.lt_of_le_of_lt (Nat.le_add_right _ _) hu)
  | .lst o xs, .lst o' xs', A, s, _, _, ra, rb, hu => by
    obtain ⟨l, vs, rfl, hl, h4⟩ := ra
    obtain ⟨l', vs', rfl, hl', h4'⟩ := rb
    have n1 : vs.size = xs.length := by simpa using RdDs.length h4
    have n2 : vs'.size = xs'.length := by simpa using RdDs.length h4'
    have hr := room_in hu
    have he : ∀ j (j1 : j < vs.size) (j2 : j < vs'.size), EqAt A.in1 s vs[j] vs'[j] (pairEqD xs xs' j) := fun j j1 j2 => by
      have := rcDs (A := A.in1) h4 h4' hr j (by simpa using j1) (by simpa using j2)
      simpa using this
    show RcNeAt A s (.ref l) (.ref l') (!eqDs xs xs')
    by_cases hsz : vs.size = vs'.size
    · rw [← eqDs_same (by omega : xs.length = xs'.length), ← n1]
      exact RcNeAt.lists hl hl' hsz (Nat.lt_of_le_of_lt (Nat.le_add_right _ _) hu) he
    · rw [eqDs_other (by omega : xs.length ≠ xs'.length)]
      exact RcNeAt.lists_lengths hl hl' (by simpa using hsz) (Nat.lt_of_le_of_lt (Nat.le_add_right _ _) hu)
  | .lst o xs, .tup xs', A, s, _, _, ra, rb, hu => by
    obtain ⟨l, vs, rfl, hl, h4⟩ := ra
    obtain ⟨l', vs', rfl, hl', h4'⟩ := rb
    exact RcNeAt.list_tuple hl hl' (Nat.lt_of_le_of_lt (Nat.le_add_right _ _) hu)
  | .tup xs, .non, A, s, _, _, ra, rb, hu => by
    obtain ⟨l, vs, rfl, hl, h4⟩ := ra
    cases (show _ = _ from rb)
    exact RcNeAt.tuple_none hl (Nat.lt_of_le_of_lt (Nat.le_add_right _ _) hu)
  | .tup xs, .bl x', A, s, _, _, ra, rb, hu => by
    obtain ⟨l, vs, rfl, hl, h4⟩ := ra
    cases (show _ = _ from rb)
    exact RcNeAt.tuple_bool x' hl (Nat.lt_of_le_of_lt (Nat.le_add_right _ _) hu)
  | .tup xs, .int x', A, s, _, _, ra, rb, hu => by
    obtain ⟨l, vs, rfl, hl, h4⟩ := ra
    obtain ⟨t', rfl⟩ := rb
    exact RcNeAt.tuple_int x' t' hl (Nat.lt_of_le_of_lt (Nat.le_add_right _ _) hu)
  | .tup xs, .str x', A, s, _, _, ra, rb, hu => by
    obtain ⟨l, vs, rfl, hl, h4⟩ := ra
    obtain ⟨t', rfl⟩ := rb
    exact RcNeAt.tuple_str x' t' hl (Nat.lt_of_le_of_lt (Nat.le_add_right _ _) hu)
  | .tup xs, .lst o' xs', A, s, _, _, ra, rb, hu => by
    obtain ⟨l, vs, rfl, hl, h4⟩ := ra
    obtain ⟨l', vs', rfl, hl', h4'⟩ := rb
    exact RcNeAt.tuple_list hl hl' (Nat.lt_of_le_of_lt (Nat.le_add_right _ _) hu)
  | .tup xs, .tup xs', A, s, _, _, ra, rb, hu => by
    obtain ⟨l, vs, rfl, hl, h4⟩ := ra
    obtain ⟨l', vs', rfl, hl', h4'⟩ := rb
    have n1 : vs.size = xs.length := by simpa using RdDs.length h4
    have n2 : vs'.size = xs'.length := by simpa using RdDs.length h4'
    have hr := room_in hu
    have he : ∀ j (j1 : j < vs.size) (j2 : j < vs'.size), EqAt A.in1 s vs[j] vs'[j] (pairEqD xs xs' j) := fun j j1 j2 => by
      have := rcDs (A := A.in1) h4 h4' hr j (by simpa using j1) (by simpa using j2)
      simpa using this
    show RcNeAt A s (.ref l) (.ref l') (!eqDs xs xs')
    rw [← eqDs_eq xs xs', ← n1, ← n2]
    exact RcNeAt.tuples hl hl' (Nat.lt_of_le_of_lt (Nat.le_add_right _ _) hu) he
  | .dct _ _ _, _, _, _, _, _, ra, _, _ => False.elim ra
  | .dcT _ _ _, _, _, _, _, _, ra, _, _ => False.elim ra
  | .ins _ _ _ _, _, _, _, _, _, ra, _, _ => False.elim ra
  | .ty _, _, _, _, _, _, ra, _, _ => False.elim ra
  | .scr _, _, _, _, _, _, ra, _, _ => False.elim ra
  | .non, .dct _ _ _, _, _, _, _, _, rb, _ => False.elim rb
  | .bl _, .dct _ _ _, _, _, _, _, _, rb, _ => False.elim rb
  | .int _, .dct _ _ _, _, _, _, _, _, rb, _ => False.elim rb
  | .str _, .dct _ _ _, _, _, _, _, _, rb, _ => False.elim rb
  | .lst _ _, .dct _ _ _, _, _, _, _, _, rb, _ => False.elim rb
  | .tup _, .dct _ _ _, _, _, _, _, _, rb, _ => False.elim rb
  | .non, .dcT _ _ _, _, _, _, _, _, rb, _ => False.elim rb
  | .bl _, .dcT _ _ _, _, _, _, _, _, rb, _ => False.elim rb
  | .int _, .dcT _ _ _, _, _, _, _, _, rb, _ => False.elim rb
  | .str _, .dcT _ _ _, _, _, _, _, _, rb, _ => False.elim rb
  | .lst _ _, .dcT _ _ _, _, _, _, _, _, rb, _ => False.elim rb
  | .tup _, .dcT _ _ _, _, _, _, _, _, rb, _ => False.elim rb
  | .non, .ins _ _ _ _, _, _, _, _, _, rb, _ => False.elim rb
  | .bl _, .ins _ _ _ _, _, _, _, _, _, rb, _ => False.elim rb
  | .int _, .ins _ _ _ _, _, _, _, _, _, rb, _ => False.elim rb
  | .str _, .ins _ _ _ _, _, _, _, _, _, rb, _ => False.elim rb
  | .lst _ _, .ins _ _ _ _, _, _, _, _, _, rb, _ => False.elim rb
  | .tup _, .ins _ _ _ _, _, _, _, _, _, rb, _ => False.elim rb
  | .non, .ty _, _, _, _, _, _, rb, _ => False.elim rb
  | .bl _, .ty _, _, _, _, _, _, rb, _ => False.elim rb
  | .int _, .ty _, _, _, _, _, _, rb, _ => False.elim rb
  | .str _, .ty _, _, _, _, _, _, rb, _ => False.elim rb
  | .lst _ _, .ty _, _, _, _, _, _, rb, _ => False.elim rb
  | .tup _, .ty _, _, _, _, _, _, rb, _ => False.elim rb
  | .non, .scr _, _, _, _, _, _, rb, _ => False.elim rb
  | .bl _, .scr _, _, _, _, _, _, rb, _ => False.elim rb
  | .int _, .scr _, _, _, _, _, _, rb, _ => False.elim rb
  | .str _, .scr _, _, _, _, _, _, rb, _ => False.elim rb
  | .lst _ _, .scr _, _, _, _, _, _, rb, _ => False.elim rb
  | .tup _, .scr _, _, _, _, _, _, rb, _ => False.elim rb
end DV

namespace DV
open PySem L2
/-! ### equality, in, isinstance, chains -/
section
variable {X : Cx} {g : Cfg} {pins : List (Addr × Obj)} {σ : St} {H : Hp} {s : Shared} {G : Fp}
mutual
theorem rep_rd (hK : X.K = g.K) (I : Inv X pins σ H s) : ∀ {d : D} {v : V} {u : Value} {A : Fp}, Rep g G H d v A → RelV v u → dataD d = true → RdD s.heap d u
  | .non, _, _, _, r, rv, _ => by cases (show _ = _ from r); exact rv
  | .bl _, _, _, _, r, rv, _ => by cases (show _ = _ from r); exact rv
  | .int _, _, _, _, r, rv, _ => by cases (show _ = _ from r); exact rv
  | .str _, _, _, _, r, rv, _ => by cases (show _ = _ from r); exact rv
  | .tup ds, _, _, _, ⟨a, vs, e, q, rs⟩, rv, c => by
    subst e
    cases (show _ = Value.ref a from rv)
    rw [← hK] at q
    obtain ⟨its, r, pl, _⟩ := I.tuple q
    exact ⟨a, its.toArray, rfl, pl, reps_rd hK I rs r (by simpa only [dataD] using c)⟩
  | .lst o ds, _, _, _, ⟨a, vs, F', e, q, n, rs⟩, rv, c => by
    subst e
    cases (show _ = Value.ref a from rv)
    have sq : SqL X.K H a vs := by
      cases o with
      | true => exact .inl (.inl q.1)
      | false => exact q.1.sq
    obtain ⟨its, r, pl, _⟩ := I.list sq
    exact ⟨a, its.toArray, rfl, pl.isList, reps_rd hK I rs r (by simpa only [dataD] using c)⟩
  | .dct _ _ _, _, _, _, _, _, c => by simp [dataD] at c
  | .dcT _ _ _, _, _, _, _, _, c => by simp [dataD] at c
  | .ins _ _ _ _, _, _, _, _, _, c => by simp [dataD] at c
  | .ty _, _, _, _, _, _, c => by simp [dataD] at c
  | .scr _, _, _, _, _, _, c => by simp [dataD] at c
theorem reps_rd (hK : X.K = g.K) (I : Inv X pins σ H s) : ∀ {ds : List D} {vs : List V} {us : List Value} {A : Fp}, Reps g G H ds vs A → Vals vs us → dataDs ds = true → RdDs s.heap ds us
  | [], _, _, _, r, rv, _ => by
    rw [show _ = _ from r] at rv
    cases rv
    rfl
  | d :: ds, _, _, _, ⟨v, vr, F1, F2, e, l1, l2, dj, r, rs⟩, rv, c => by
    subst e
    simp only [dataDs, Bool.and_eq_true] at c
    cases rv with
    | cons r1 r2 => exact ⟨_, _, rfl, rep_rd hK I r r1 c.1, reps_rd hK I rs r2 c.2⟩
end
end
def eqOk (d e : D) : Bool := dataD d && dataD e && decide (min (dep d) (dep e) ≤ 64)
theorem eqOk_dep {d e : D} (h : eqOk d e = true) : dataD d = true ∧ dataD e = true ∧ min (dep d) (dep e) ≤ 64 := by
  simpa only [eqOk, Bool.and_eq_true, decide_eq_true_eq, and_assoc] using h
def kEq : List D → Option D
  | [d, e] => if eqOk d e = true then some (.bl (eqD d e)) else none
  | _ => none
def kNe : List D → Option D
  | [d, e] => if eqOk d e = true then some (.bl (!eqD d e)) else none
  | _ => none
def rEqV (g : Cfg) (n : Bool) : R2 := fun x y H Q => ∃ G d e A B, Rep g G H d x A ∧ Rep g G H e y B ∧ eqOk d e = true ∧ Q (.bl (if n = true then !eqD d e else eqD d e)) H
section
variable {X : Cx} {g : Cfg}
theorem op_eqDV (hK : X.K = g.K) (hu : X.A.units + 65 < cLine) : OpR X (compareOp .Eq) (rEqV g false) := by
  intro pins s σ H x y v u Q I rx ry ⟨G, d, e, A, B, r, r2, c, q⟩
  obtain ⟨c1, c2, c3⟩ := eqOk_dep c
  exact rcD (rep_rd hK I r rx c1) (rep_rd hK I r2 ry c2) (by omega) _ _ _ _ ⟨.bl _, H, I, rfl, q⟩
theorem op_neDV (hK : X.K = g.K) (hu : X.A.units + 65 < cLine) : OpR X (compareOp .NotEq) (rEqV g true) := by
  intro pins s σ H x y v u Q I rx ry ⟨G, d, e, A, B, r, r2, c, q⟩
  obtain ⟨c1, c2, c3⟩ := eqOk_dep c
  exact neD (rep_rd hK I r rx c1) (rep_rd hK I r2 ry c2) (by omega) _ _ _ _ ⟨.bl _, H, I, rfl, q⟩
theorem ins_eq : Ins g kEq (on2 (rEqV g false)) := by
  intro G H ds vs d Q b e fin
  match ds, e, b with
  | [d1, d2], e, b =>
    obtain ⟨v, w, A, B, rfl, r, r2⟩ := bor2 b
    simp only [kEq] at e
    split at e
    · rename_i c
      cases e
      exact ⟨G, d1, d2, A, B, r, r2, c, by simp only [Bool.false_eq_true, if_false]; exact fin0 fin rfl⟩
    · cases e
theorem ins_ne : Ins g kNe (on2 (rEqV g true)) := by
  intro G H ds vs d Q b e fin
  match ds, e, b with
  | [d1, d2], e, b =>
    obtain ⟨v, w, A, B, rfl, r, r2⟩ := bor2 b
    simp only [kNe] at e
    split at e
    · rename_i c
      cases e
      exact ⟨G, d1, d2, A, B, r, r2, c, by simp only [if_true]; exact fin0 fin rfl⟩
    · cases e
end
/-! in: lists and tuples of data; a sign in a text -/
mutual
theorem eqD_frz : ∀ {d e : D}, eqD (freeze d) e = eqD d e
  | .non, e => rfl
  | .bl _, e => rfl
  | .int _, e => rfl
  | .str _, e => rfl
  | .ty _, e => rfl
  | .scr _, e => rfl
  | .tup xs, e => by cases e <;> simp only [freeze, eqD]; exact eqDs_frz
  | .lst _ xs, e => by cases e <;> simp only [freeze, eqD]; exact eqDs_frz
  | .dct _ _ _, e => by cases e <;> simp only [freeze, eqD]
  | .dcT _ _ _, e => by cases e <;> simp only [freeze, eqD]
  | .ins _ _ _ _, e => by cases e <;> simp only [freeze, eqD]
theorem eqDs_frz : ∀ {d e : List D}, eqDs (freezes d) e = eqDs d e
  | [], _ => rfl
  | d :: ds, [] => rfl
  | d :: ds, e :: es => by simp only [freezes, eqDs]; rw [eqD_frz, eqDs_frz]
end
mutual
theorem sameF {h : Heap} : ∀ {d e : D} {v : Value}, RdD h d v → RdD h e v → freeze d = freeze e
  | .non, .non, _, ra, rb => by rfl
  | .non, .bl x', _, ra, rb => by exfalso; revert rb; cases (show _ = _ from ra); intro rb; cases (show _ = _ from rb)
  | .non, .int x', _, ra, rb => by exfalso; revert rb; cases (show _ = _ from ra); intro rb; obtain ⟨_, e⟩ := rb; cases e
  | .non, .str x', _, ra, rb => by exfalso; revert rb; cases (show _ = _ from ra); intro rb; obtain ⟨_, e⟩ := rb; cases e
  | .non, .lst o' xs', _, ra, rb => by exfalso; revert rb; cases (show _ = _ from ra); intro rb; obtain ⟨_, _, e, _⟩ := rb; cases e
  | .non, .tup xs', _, ra, rb => by exfalso; revert rb; cases (show _ = _ from ra); intro rb; obtain ⟨_, _, e, _⟩ := rb; cases e
  | .bl x, .non, _, ra, rb => by exfalso; revert rb; cases (show _ = _ from ra); intro rb; cases (show _ = _ from rb)
  | .bl x, .bl x', _, ra, rb => by cases (show _ = _ from ra); cases (show _ = _ from rb); rfl
  | .bl x, .int x', _, ra, rb => by exfalso; revert rb; cases (show _ = _ from ra); intro rb; obtain ⟨_, e⟩ := rb; cases e
  | .bl x, .str x', _, ra, rb => by exfalso; revert rb; cases (show _ = _ from ra); intro rb; obtain ⟨_, e⟩ := rb; cases e
  | .bl x, .lst o' xs', _, ra, rb => by exfalso; revert rb; cases (show _ = _ from ra); intro rb; obtain ⟨_, _, e, _⟩ := rb; cases e
  | .bl x, .tup xs', _, ra, rb => by exfalso; revert rb; cases (show _ = _ from ra); intro rb; obtain ⟨_, _, e, _⟩ := rb; cases e
  | .int x, .non, _, ra, rb => by exfalso; revert rb; obtain ⟨t, rfl⟩ := ra; intro rb; cases (show _ = _ from rb)
  | .int x, .bl x', _, ra, rb => by exfalso; revert rb; obtain ⟨t, rfl⟩ := ra; intro rb; cases (show _ = _ from rb)
  | .int x, .int x', _, ra, rb => by obtain ⟨t, rfl⟩ := ra; obtain ⟨t2, e⟩ := rb; cases e; rfl
  | .int x, .str x', _, ra, rb => by exfalso; revert rb; obtain ⟨t, rfl⟩ := ra; intro rb; obtain ⟨_, e⟩ := rb; cases e
  | .int x, .lst o' xs', _, ra, rb => by exfalso; revert rb; obtain ⟨t, rfl⟩ := ra; intro rb; obtain ⟨_, _, e, _⟩ := rb; cases e
  | .int x, .tup xs', _, ra, rb => by exfalso; revert rb; obtain ⟨t, rfl⟩ := ra; intro rb; obtain ⟨_, _, e, _⟩ := rb; cases e
  | .str x, .non, _, ra, rb => by exfalso; revert rb; obtain ⟨t, rfl⟩ := ra; intro rb; cases (show _ = _ from rb)
  | .str x, .bl x', _, ra, rb => by exfalso; revert rb; obtain ⟨t, rfl⟩ := ra; intro rb; cases (show _ = _ from rb)
  | .str x, .int x', _, ra, rb => by exfalso; revert rb; obtain ⟨t, rfl⟩ := ra; intro rb; obtain ⟨_, e⟩ := rb; cases e
  | .str x, .str x', _, ra, rb => by obtain ⟨t, rfl⟩ := ra; obtain ⟨t2, e⟩ := rb; cases e; rfl
  | .str x, .lst o' xs', _, ra, rb => by exfalso; revert rb; obtain ⟨t, rfl⟩ := ra; intro rb; obtain ⟨_, _, e, _⟩ := rb; cases e
  | .str x, .tup xs', _, ra, rb => by exfalso; revert rb; obtain ⟨t, rfl⟩ := ra; intro rb; obtain ⟨_, _, e, _⟩ := rb; cases e
  | .lst o xs, .non, _, ra, rb => by exfalso; revert rb; obtain ⟨l, vs, rfl, hl, h4⟩ := ra; intro rb; cases (show _ = _ from rb)
  | .lst o xs, .bl x', _, ra, rb => by exfalso; revert rb; obtain ⟨l, vs, rfl, hl, h4⟩ := ra; intro rb; cases (show _ = _ from rb)
  | .lst o xs, .int x', _, ra, rb => by exfalso; revert rb; obtain ⟨l, vs, rfl, hl, h4⟩ := ra; intro rb; obtain ⟨_, e⟩ := rb; cases e
  | .lst o xs, .str x', _, ra, rb => by exfalso; revert rb; obtain ⟨l, vs, rfl, hl, h4⟩ := ra; intro rb; obtain ⟨_, e⟩ := rb; cases e
  | .lst o xs, .lst o' xs', _, ra, rb => by
    obtain ⟨l, vs, e, hl, h4⟩ := ra
    obtain ⟨l', vs', e', hl', h4'⟩ := rb
    subst e
    cases e'
    obtain rfl := isL_uniq hl hl'
    simp only [freeze]
    rw [sameFs h4 h4']
  | .lst o xs, .tup xs', _, ra, rb => by obtain ⟨l, vs, rfl, hl, h4⟩ := ra; obtain ⟨l', vs', e, hl', h4'⟩ := rb; cases e; exact (isLT hl hl').elim
  | .tup xs, .non, _, ra, rb => by exfalso; revert rb; obtain ⟨l, vs, rfl, hl, h4⟩ := ra; intro rb; cases (show _ = _ from rb)
  | .tup xs, .bl x', _, ra, rb => by exfalso; revert rb; obtain ⟨l, vs, rfl, hl, h4⟩ := ra; intro rb; cases (show _ = _ from rb)
  | .tup xs, .int x', _, ra, rb => by exfalso; revert rb; obtain ⟨l, vs, rfl, hl, h4⟩ := ra; intro rb; obtain ⟨_, e⟩ := rb; cases e
  | .tup xs, .str x', _, ra, rb => by exfalso; revert rb; obtain ⟨l, vs, rfl, hl, h4⟩ := ra; intro rb; obtain ⟨_, e⟩ := rb; cases e
  | .tup xs, .lst o' xs', _, ra, rb => by obtain ⟨l, vs, rfl, hl, h4⟩ := ra; obtain ⟨l', vs', e, hl', h4'⟩ := rb; cases e; exact (isLT hl' hl).elim
  | .tup xs, .tup xs', _, ra, rb => by
    obtain ⟨l, vs, e, hl, h4⟩ := ra
    obtain ⟨l', vs', e', hl', h4'⟩ := rb
    subst e
    cases e'
    obtain rfl := isT_uniq hl hl'
    simp only [freeze]
    rw [sameFs h4 h4']
  | .dct _ _ _, _, _, ra, _ => False.elim ra
  | .dcT _ _ _, _, _, ra, _ => False.elim ra
  | .ins _ _ _ _, _, _, ra, _ => False.elim ra
  | .ty _, _, _, ra, _ => False.elim ra
  | .scr _, _, _, ra, _ => False.elim ra
  | .non, .dct _ _ _, _, _, rb => False.elim rb
  | .bl _, .dct _ _ _, _, _, rb => False.elim rb
  | .int _, .dct _ _ _, _, _, rb => False.elim rb
  | .str _, .dct _ _ _, _, _, rb => False.elim rb
  | .lst _ _, .dct _ _ _, _, _, rb => False.elim rb
  | .tup _, .dct _ _ _, _, _, rb => False.elim rb
  | .non, .dcT _ _ _, _, _, rb => False.elim rb
  | .bl _, .dcT _ _ _, _, _, rb => False.elim rb
  | .int _, .dcT _ _ _, _, _, rb => False.elim rb
  | .str _, .dcT _ _ _, _, _, rb => False.elim rb
  | .lst _ _, .dcT _ _ _, _, _, rb => False.elim rb
  | .tup _, .dcT _ _ _, _, _, rb => False.elim rb
  | .non, .ins _ _ _ _, _, _, rb => False.elim rb
  | .bl _, .ins _ _ _ _, _, _, rb => False.elim rb
  | .int _, .ins _ _ _ _, _, _, rb => False.elim rb
  | .str _, .ins _ _ _ _, _, _, rb => False.elim rb
  | .lst _ _, .ins _ _ _ _, _, _, rb => False.elim rb
  | .tup _, .ins _ _ _ _, _, _, rb => False.elim rb
  | .non, .ty _, _, _, rb => False.elim rb
  | .bl _, .ty _, _, _, rb => False.elim rb
  | .int _, .ty _, _, _, rb => False.elim rb
  | .str _, .ty _, _, _, rb => False.elim rb
  | .lst _ _, .ty _, _, _, rb => False.elim rb
  | .tup _, .ty _, _, _, rb => False.elim rb
  | .non, .scr _, _, _, rb => False.elim rb
  | .bl _, .scr _, _, _, rb => False.elim rb
  | .int _, .scr _, _, _, rb => False.elim rb
  | .str _, .scr _, _, _, rb => False.elim rb
  | .lst _ _, .scr _, _, _, rb => False.elim rb
  | .tup _, .scr _, _, _, rb => False.elim rb
theorem sameFs {h : Heap} : ∀ {d e : List D} {v : List Value}, RdDs h d v → RdDs h e v → freezes d = freezes e
  | [], [], _, _, _ => rfl
  | [], _ :: _, _, a, ⟨_, _, e, _⟩ => by rw [show _ = _ from a] at e; cases e
  | _ :: _, [], _, ⟨_, _, e, _⟩, a => by rw [show _ = _ from a] at e; cases e
  | d :: ds, e :: es, _, ⟨v, vr, e1, r, rs⟩, ⟨v2, vr2, e2, r2, rs2⟩ => by
    subst e1
    cases e2
    simp only [freezes]
    rw [sameF r r2, sameFs rs rs2]
end
def inD (d : D) (ds : List D) : Bool := ds.any fun z => eqD z d
def kInB (d e : D) : Option Bool := match e with
  | .lst _ ds => if (dataD d && dataDs ds && decide (dep d ≤ 64)) = true then some (inD d ds) else none
  | .tup ds => if (dataD d && dataDs ds && decide (dep d ≤ 64)) = true then some (inD d ds) else none
  | .str z => match d with
    | .str x => match x.cps.toList with
      | [c] => some (decide (c ∈ z.cps.toList))
      | _ => none
    | _ => none
  | _ => none
def kIn : List D → Option D
  | [d, e] => (kInB d e).map .bl
  | _ => none
def kNotIn : List D → Option D
  | [d, e] => (kInB d e).map fun b => .bl (!b)
  | _ => none
def rInV (g : Cfg) (n : Bool) : R2 := fun x y H Q => ∃ G d e A B b, Rep g G H d x A ∧ Rep g G H e y B ∧ kInB d e = some b ∧ Q (.bl (if n = true then !b else b)) H
section
variable {X : Cx} {g : Cfg}
open Classical in
theorem items_eq {A : Around} {s : Shared} {d : D} {u : Value} {ds : List D} {us : List Value} (rd : RdD s.heap d u) (rs : RdDs s.heap ds us) (hu : A.units + 1 + dep d < cLine) :
    ∃ f : Value → Bool, (∀ y, y ∈ us → PySem.SeqAt.EqAt A.in1 s y u (f y)) ∧ us.any f = inD d ds := by
  refine ⟨fun y => if h : ∃ z, RdD s.heap z y then eqD h.choose d else false, fun y hy => ?_, ?_⟩
  · have : ∃ z, RdD s.heap z y := by
      clear hu rd
      induction us generalizing ds with
      | nil => cases hy
      | cons v vs ih =>
        cases ds with
        | nil => cases (show _ = _ from rs)
        | cons z zs =>
          obtain ⟨v', vr, e, r, rs'⟩ := rs
          cases e
          rcases List.mem_cons.mp hy with rfl | hy
          · exact ⟨z, r⟩
          · exact ih rs' hy
    simp only [this, dif_pos]
    refine eqAtD this.choose_spec rd ?_
    have h1 : min (dep this.choose) (dep d) ≤ dep d := Nat.min_le_right _ _
    show A.units + 1 + min (dep this.choose) (dep d) < cLine
    omega
  · clear hu
    induction us generalizing ds with
    | nil =>
      cases ds with
      | nil => rfl
      | cons z zs => obtain ⟨_, _, e, _⟩ := rs; cases e
    | cons v vs ih =>
      cases ds with
      | nil => cases (show _ = _ from rs)
      | cons z zs =>
        obtain ⟨v', vr, e, r, rs'⟩ := rs
        cases e
        have h : ∃ z, RdD s.heap z v := ⟨z, r⟩
        show ((if h : ∃ z, RdD s.heap z v then eqD h.choose d else false) || vs.any _) = (eqD z d || inD d zs)
        rw [dif_pos h, ih rs', ← eqD_frz, sameF h.choose_spec r, eqD_frz]
theorem in_data {d : D} {ds : List D} (h : (dataD d && dataDs ds && decide (dep d ≤ 64)) = true) : dataD d = true ∧ dataDs ds = true ∧ dep d ≤ 64 := by
  simpa only [Bool.and_eq_true, decide_eq_true_eq, and_assoc] using h
theorem kInB_str {d : D} {z : Str} {b : Bool} (h : kInB d (.str z) = some b) : ∃ c, d = .str ⟨#[c]⟩ ∧ b = decide (c ∈ z.cps.toList) := by
  cases d with
  | str x =>
    simp only [kInB] at h
    split at h
    · rename_i c e
      refine ⟨c, ?_, (Option.some.inj h).symm⟩
      obtain ⟨a⟩ := x
      obtain ⟨l⟩ := a
      simp only at e
      rw [e]
    · cases h
  | _ => cases h
theorem any_arr {us : List Value} {f : Value → Bool} : us.toArray.any f = us.any f := by simp
theorem op_inDV (hK : X.K = g.K) (hu : X.A.units + 66 < cLine) : OpR X (compareOp .In) (rInV g false) := by
  intro pins s σ H x y v u Q I rx ry ⟨G, d, e, A, B, b, r, r2, c, q⟩
  have q' : Q (.bl b) H := q
  cases e with
  | lst o ds =>
    simp only [kInB] at c
    split at c
    · rename_i hc
      cases c
      obtain ⟨c1, c2, c3⟩ := in_data hc
      obtain ⟨l, us, rfl, hl, h4⟩ := rep_rd hK I r2 ry (by simpa only [dataD] using c2)
      obtain ⟨f, h1, h2⟩ := items_eq (A := X.A) (rep_rd hK I r rx c1) h4 (by omega)
      refine PySem.SeqAt.in_listAt f hl (fun y hy => h1 y (by simpa using hy)) ⟨.bl _, H, I, rfl, ?_⟩
      rw [← Array.any_toList, h2]
      exact q'
    · cases c
  | tup ds =>
    simp only [kInB] at c
    split at c
    · rename_i hc
      cases c
      obtain ⟨c1, c2, c3⟩ := in_data hc
      obtain ⟨l, us, rfl, hl, h4⟩ := rep_rd hK I r2 ry (by simpa only [dataD] using c2)
      obtain ⟨f, h1, h2⟩ := items_eq (A := X.A) (rep_rd hK I r rx c1) h4 (by omega)
      refine PySem.SeqAt.in_tupleAt f hl (fun y hy => h1 y (by simpa using hy)) ⟨.bl _, H, I, rfl, ?_⟩
      rw [← Array.any_toList, h2]
      exact q'
    · cases c
  | str z =>
    obtain ⟨cp, rfl, rfl⟩ := kInB_str c
    cases (show _ = _ from r)
    cases (show _ = _ from r2)
    exact op_in_sign pins s σ H _ _ v u Q I rx ry ⟨cp, z, rfl, rfl, q'⟩
  | _ => cases c
theorem op_notInDV (hK : X.K = g.K) (hu : X.A.units + 66 < cLine) : OpR X (compareOp .NotIn) (rInV g true) := by
  intro pins s σ H x y v u Q I rx ry ⟨G, d, e, A, B, b, r, r2, c, q⟩
  have q' : Q (.bl (!b)) H := q
  cases e with
  | lst o ds =>
    simp only [kInB] at c
    split at c
    · rename_i hc
      cases c
      obtain ⟨c1, c2, c3⟩ := in_data hc
      obtain ⟨l, us, rfl, hl, h4⟩ := rep_rd hK I r2 ry (by simpa only [dataD] using c2)
      obtain ⟨f, h1, h2⟩ := items_eq (A := X.A) (rep_rd hK I r rx c1) h4 (by omega)
      refine PySem.SeqAt.notIn_listAt f hl (fun y hy => h1 y (by simpa using hy)) ⟨.bl _, H, I, rfl, ?_⟩
      rw [← Array.any_toList, h2]
      exact q'
    · cases c
  | tup ds =>
    simp only [kInB] at c
    split at c
    · rename_i hc
      cases c
      obtain ⟨c1, c2, c3⟩ := in_data hc
      obtain ⟨l, us, rfl, hl, h4⟩ := rep_rd hK I r2 ry (by simpa only [dataD] using c2)
      obtain ⟨f, h1, h2⟩ := items_eq (A := X.A) (rep_rd hK I r rx c1) h4 (by omega)
      refine PySem.SeqAt.notIn_tupleAt f hl (fun y hy => h1 y (by simpa using hy)) ⟨.bl _, H, I, rfl, ?_⟩
      rw [← Array.any_toList, h2]
      exact q'
    · cases c
  | str z =>
    obtain ⟨cp, rfl, rfl⟩ := kInB_str c
    cases (show _ = _ from r)
    cases (show _ = _ from r2)
    exact op_notIn_sign pins s σ H _ _ v u Q I rx ry ⟨cp, z, rfl, rfl, q'⟩
  | _ => cases c
theorem ins_in : Ins g kIn (on2 (rInV g false)) := by
  intro G H ds vs d Q b e fin
  match ds, e, b with
  | [d1, d2], e, b =>
    obtain ⟨v, w, A, B, rfl, r, r2⟩ := bor2 b
    simp only [kIn, Option.map_eq_some_iff] at e
    obtain ⟨k, ek, rfl⟩ := e
    exact ⟨G, d1, d2, A, B, k, r, r2, ek, fin0 fin rfl⟩
theorem ins_notIn : Ins g kNotIn (on2 (rInV g true)) := by
  intro G H ds vs d Q b e fin
  match ds, e, b with
  | [d1, d2], e, b =>
    obtain ⟨v, w, A, B, rfl, r, r2⟩ := bor2 b
    simp only [kNotIn, Option.map_eq_some_iff] at e
    obtain ⟨k, ek, rfl⟩ := e
    exact ⟨G, d1, d2, A, B, k, r, r2, ek, fin0 fin rfl⟩
end
/-! isinstance, built-in types -/
def tyN : D → Option String
  | .non => some "NoneType"
  | .bl _ => some "bool"
  | .int _ => some "int"
  | .str _ => some "str"
  | .tup _ => some "tuple"
  | .lst _ _ => some "list"
  | .scr _ => some "list"
  | .dct _ _ _ => some "dict"
  | .dcT _ _ _ => some "dict"
  | _ => none
def tyKs : List String := ["NoneType", "bool", "int", "str", "tuple", "list", "dict"]
def tyCs : List String := ["bool", "int", "str", "tuple", "list", "dict"]
def isT (a b : String) : Bool := a == b || (a == "bool" && b == "int")
theorem isT_ok : ∀ a, a ∈ tyKs → ∀ b, b ∈ tyCs → kitB a b = some (isT a b) := by decide +kernel
theorem tyN_in {d : D} {a : String} (h : tyN d = some a) : a ∈ tyKs := by
  cases d <;> simp only [tyN] at h <;> cases h <;> decide
def tysO : List D → Option (List String)
  | [] => some []
  | .ty n :: ds => if n ∈ tyCs then (tysO ds).map fun ns => n :: ns else none
  | _ => none
def kIsi : List D → Option D
  | [d, .ty n] => match tyN d with
    | some a => if n ∈ tyCs then some (.bl (isT a n)) else none
    | none => none
  | [d, .tup ts] => match tyN d, tysO ts with
    | some a, some ns => some (.bl (ns.any (isT a)))
    | _, _ => none
  | _ => none
def rIsiS (K : PySem.W.Frag) : List V → Hp → VK → Prop := fun xs H Q => ∃ (x : V) (tp : Addr) (cs : List V) (t : Value) (us : List Value) (b : Bool), xs = [x, .ref tp] ∧ SqT K H tp cs ∧ Paired ClsV cs us ∧ TyX K H x t ∧ PySem.W.kitAny K t us = some b ∧ Q (.bl b) H
section
variable {X : Cx} {g : Cfg}
theorem call_isiS : CallR X (.builtin "isinstance") (rIsiS X.K) := by
  intro pins s σ H xs us Q I r h
  obtain ⟨x, tp, cs, t, ws, b, rfl, hT, k, ty, e, q⟩ := h
  obtain ⟨u1, u2, rfl, r1, r2⟩ := _root_.L2.Vals.two r
  cases (show u2 = Value.ref tp from r2)
  obtain ⟨P, Z, p, hx⟩ := kit_of I r1 ty
  obtain ⟨its, rv, ⟨o, h1, h2, n, h3⟩, _⟩ := I.tuple hT
  have e3 := ClsV.all k rv
  subst e3
  obtain ⟨oc, od, dt, sl⟩ := o
  simp only at h2 h3
  subst h2 h3
  exact PySem.W.kia_tup Z I.kIn p h1 e hx fun tk => ⟨.bl b, H, I.tok tk, rfl, q⟩
def rIsiD (K : PySem.W.Frag) : List V → Hp → VK → Prop := fun xs H Q => rIsi K xs H Q ∨ rIsiS K xs H Q
theorem call_isiD : CallR X (.builtin "isinstance") (rIsiD X.K) := CallR.or call_isi call_isiS
theorem tyx_of {K : PySem.W.Frag} {G : Fp} {H : Hp} {d : D} {v : V} {A : Fp} {a : String} (hK : K = g.K) (r : Rep g G H d v A) (h : tyN d = some a) : TyX K H v (.type a) := by
  cases d <;> simp only [tyN] at h <;> cases h
  · cases (show v = _ from r); exact .base .non
  · cases (show v = _ from r); exact .base (.bl _)
  · cases (show v = _ from r); exact .base (.int _)
  · cases (show v = _ from r); exact .base (.str _)
  · obtain ⟨p, vs, rfl, (q | ⟨o, q⟩) | ⟨o, its, n, h1, h2, _⟩, _⟩ := r
    · exact .base (.tup q)
    · exact .fTuple q
    · exact .kTuple (by rw [hK]; exact h1) h2
  · obtain ⟨p, vs, rfl, hp, _⟩ := lst_tr r
    exact .base (.lst hp)
  · obtain ⟨p, vs, F', rfl, q, _⟩ := r
    exact .base (.dK q)
  · obtain ⟨p, vs, F', rfl, q, _⟩ := r
    exact .base (.dT q)
  · obtain ⟨p, rfl, q⟩ := r
    rcases q with q | ⟨o, q⟩ | ⟨o, its, n, h1, h2, _⟩
    · exact .base (.lst q.1)
    · exact .base (.frz q)
    · exact .kList (by rw [hK]; exact h1) h2
theorem tys_any {K : PySem.W.Frag} {a : String} (ha : a ∈ tyKs) : ∀ {ts : List D} {ns : List String}, tysO ts = some ns → PySem.W.kitAny K (.type a) (ns.map Value.type) = some (ns.any (isT a))
  | [], _, h => by cases h; rfl
  | .ty n :: ts, ns, h => by
    simp only [tysO] at h
    split at h
    · rename_i hn
      obtain ⟨ms, e, rfl⟩ := Option.map_eq_some_iff.mp h
      refine kitAny_cons (kit_ty (isT_ok a ha n hn)) (fun z => ?_) (fun z => ?_)
      · rw [List.any_cons, z, Bool.false_or]; exact tys_any ha e
      · rw [List.any_cons, z, Bool.true_or]
    · cases h
theorem tys_cls {G : Fp} {H : Hp} : ∀ {ts : List D} {ns : List String} {vs : List V} {A : Fp}, tysO ts = some ns → Reps g G H ts vs A → Paired ClsV vs (ns.map Value.type)
  | [], _, _, _, h, r => by cases h; rw [show _ = _ from r]; exact .nil
  | .ty n :: ts, ns, _, _, h, ⟨v, vr, F1, F2, e, l1, l2, dj, r, rs⟩ => by
    subst e
    simp only [tysO] at h
    split at h
    · obtain ⟨ms, e, rfl⟩ := Option.map_eq_some_iff.mp h
      cases (show v = _ from r)
      exact .cons (.ty n) (tys_cls e rs)
    · cases h
theorem ins_isi (hK : X.K = g.K) : Ins g kIsi (rIsiD X.K) := by
  intro G H ds vs d Q b e fin
  match ds, e, b with
  | [d1, .ty n], e, b =>
    obtain ⟨v, w, A, B, rfl, r, r2⟩ := bor2 b
    cases (show w = _ from r2)
    simp only [kIsi] at e
    cases ht : tyN d1 with
    | none => rw [ht] at e; cases e
    | some a =>
      rw [ht] at e
      simp only at e
      split at e
      · rename_i hn
        cases e
        exact .inl ⟨v, .ty n, _, _, _, rfl, .ty n, tyx_of hK r ht, kit_ty (isT_ok a (tyN_in ht) n hn), fin0 fin rfl⟩
      · cases e
  | [d1, .tup ts], e, b =>
    obtain ⟨v, w, A, B, rfl, r, r2⟩ := bor2 b
    simp only [kIsi] at e
    cases ht : tyN d1 with
    | none => rw [ht] at e; cases e
    | some a =>
      cases hs : tysO ts with
      | none => rw [ht, hs] at e; cases e
      | some ns =>
        rw [ht, hs] at e
        cases e
        obtain ⟨p, us, rfl, hp, rs⟩ := tup_tr r2
        exact .inr ⟨v, p, us, _, _, _, rfl, by rw [hK]; exact hp, tys_cls hs rs, tyx_of hK r ht, tys_any (tyN_in ht) hs, fin0 fin rfl⟩
/-! `is` with truths -/
def kIsB : List D → Option D
  | [.bl a, .bl b] => some (.bl (decide (a = b)))
  | _ => none
def kNotB : List D → Option D
  | [.bl a, .bl b] => some (.bl (!decide (a = b)))
  | _ => none
theorem ins_isB : Ins g kIsB (on2 fun x y H Q => ∃ a b, x = .bl a ∧ y = .bl b ∧ Q (.bl (decide (a = b))) H) := by
  intro G H ds vs d Q b e fin
  match ds, e, b with
  | [.bl i, .bl j], e, b =>
    obtain ⟨v, w, A, B, rfl, r, r2⟩ := bor2 b
    cases e
    exact ⟨i, j, r, r2, fin0 fin rfl⟩
theorem ins_notB : Ins g kNotB (on2 fun x y H Q => ∃ a b, x = .bl a ∧ y = .bl b ∧ Q (.bl (!decide (a = b))) H) := by
  intro G H ds vs d Q b e fin
  match ds, e, b with
  | [.bl i, .bl j], e, b =>
    obtain ⟨v, w, A, B, rfl, r, r2⟩ := bor2 b
    cases e
    exact ⟨i, j, r, r2, fin0 fin rfl⟩
end
/-! a op b op' c, b a number -/
def eChain (k k' : List D → Option D) (oa ob oc : Od) : Ev := fun δ => (evOds [oa, ob] δ).bind fun xs δ1 => match resL δ1 xs with
  | some [d, .int j] => match k [d, .int j] with
    | some (.bl true) => eOps k' [.val (eC (.int j)), oc] δ1
    | some (.bl false) => .ok (.bl false) δ1
    | _ => .bad
  | _ => .bad
section
variable {X : Cx} {g : Cfg} {W : WX} {k k' : List D → Option D} {op op' : CmpOp} {r r' : R2} {a b c : Expr} {oa ob oc : Od} {pos : Pos} {G : Fp} {H : Hp} {σ : St} {δ : Env} {F : Nat → Fp} {Q : VK}
theorem chain_run (hk : Ins g k (on2 r)) (hk' : Ins g k' (on2 r')) (S : StR g G H σ δ F) (P : Post g W G H F σ (eChain k k' oa ob oc δ) Q) : tChain r r' (tO g W oa) (tO g W ob) (tO g W oc) σ H Q := by
  have h : tOs g W [oa, ob] σ H fun vs H2 => match vs with
    | [x, y] => r x y H2 fun z H3 => ∃ k, z = .bl k ∧ (if k = true then tO g W oc σ H3 fun w' H4 => r' y w' H4 Q else Q (.bl false) H3)
    | _ => False := by
    refine ods_run S (PostG.mono (PostG.bind P) fun xs δ1 H1 G1 F1 S1 P1 vs Fv rs ok dj E1 => ?_)
    cases e : resL δ1 xs with
    | none => simp only [e] at P1; exact False.elim P1
    | some ds =>
      have bo := bor_of S1 rs e
      simp only [e] at P1
      split at P1
      · rename_i d j he
        cases he
        have bo' := bo
        obtain ⟨v, w, A, B, rfl, rd, r2⟩ := bor2 bo'
        cases (show w = .int j from r2)
        cases ek : k [d, .int j] with
        | none => simp only [ek] at P1; exact False.elim P1
        | some z =>
          cases z with
          | bl kb =>
            refine hk G1 H1 _ _ (.bl kb) _ bo ek fun v' H' Fv' same rep new => ?_
            cases (show v' = _ from rep)
            refine ⟨kb, rfl, ?_⟩
            have S2 := S1.same same
            have E2 : Ext G H (U F) G1 H' (U F1) := (E1.trans (.new (U1 := Un2 (U F1) Fv) (Fv := Fe) same (Le.refl _) fun _ z => z.elim) (Le.refl _)).weak (Le.refl _) fun a h => .inl (.inl h)
            cases kb with
            | false =>
              simp only [ek] at P1
              simp only [Bool.false_eq_true, if_false]
              exact P1 H' G1 F1 S2 _ Fe rfl (fun _ z => z.elim) (fun _ z => z.elim) (E2.weak (Le.refl _) fun a h => h.elim id fun z => z.elim)
            | true =>
              simp only [ek] at P1
              simp only [if_true]
              have q := ops_run (W := W) hk' S2 (Post.on P1 E2)
              obtain ⟨G3, δ3, F3, S3, P3⟩ : tE g W (eC (.int j)) σ H' fun x H1 => tOs g W [oc] σ H1 fun xs H2 => on2 r' (x :: xs) H2 Q := q
              exact P3 H' G3 F3 S3 (.int j) Fe rfl (fun _ z => z.elim) (fun _ z => z.elim) (.refl fun _ z => z.elim id fun z => z.elim)
          | _ => simp only [ek] at P1; exact False.elim P1
      · exact False.elim P1
  exact h
theorem se_chain (ho : OpR X (compareOp op) r) (ho' : OpR X (compareOp op') r') (hk : Ins g k (on2 r)) (hk' : Ins g k' (on2 r')) (ha : SO X g W a oa) (hb : SO X g W b ob) (hc : SO X g W c oc)
    (hm : lastMarks [op, op'] [b, c] = false := by with_unfolding_all rfl) : SE X g W (.Compare a [op, op'] [b, c] pos) (eChain k k' oa ob oc) :=
  PE.imp (pe_chain ho ho' ha hb hc hm) fun σ H Q ⟨G, δ, F, S, P⟩ => chain_run hk hk' S P
theorem st_chain (ho : OpR X (compareOp op) r) (ho' : OpR X (compareOp op') r') (hk : Ins g k (on2 r)) (hk' : Ins g k' (on2 r')) (ha : SO X g W a oa) (hb : SO X g W b ob) (hc : SO X g W c oc)
    (hm : lastMarks [op, op'] [b, c] = false := by with_unfolding_all rfl) : ST X g W (.Compare a [op, op'] [b, c] pos) (eB (eChain k k' oa ob oc)) :=
  PT.imp (pt_chain ho ho' ha hb hc hm) fun σ H Q ⟨G, δ, F, S, P⟩ => by
    have : Post g W G H F σ (eChain k k' oa ob oc δ) fun x H1 => ∃ c, x = .bl c ∧ Q c H1 := by
      refine PostG.mono (PostG.bind P) fun d δ1 H1 G1 F1 S1 P1 v Fv r ok dj E1 => ?_
      cases d with
      | bl b => exact ⟨b, r, P1 H1 G1 F1 S1 (E1.weak (Le.refl _) Le.inl)⟩
      | _ => exact False.elim P1
    exact chain_run hk hk' S this
end
/-! what is made is let go of -/
def eFrz (f : Ev) : Ev := fun δ => (f δ).bind fun d δ1 => .ok (freeze d) δ1
section
variable {X : Cx} {g : Cfg} {W : WX}
theorem SE.frz {e : Expr} {f : Ev} (h : SE X g W e f) : SE X g W e (eFrz f) := PE.imp h fun σ H Q ⟨G, δ, F, S, P⟩ => by
  refine tE_of S (PostG.mono (PostG.bind P) fun d δ1 H1 G1 F1 S1 P1 v Fv r ok dj E1 => ?_)
  have fr : Rep g (Un2 G1 Fv) H1 (freeze d) v Fe := r.freeze Le.inr Le.inl
  have gs : ∀ a, Un2 G1 Fv a → H1 a ≠ none := fun a h => h.elim (S1.gs a) fun h z => by
    have := (ok a h).1
    rw [z] at this; exact this
  have S2 := S1.grow (G' := Un2 G1 Fv) Le.inl (fun j a x y => y.elim (fun y => (S1.ok j a x).2 y) fun y => dj a y ⟨j, x⟩) gs
  refine P1 H1 _ _ S2 v Fe fr (fun _ z => z.elim) (fun _ z => z.elim) ⟨E1.keep, E1.gm.trans Le.inl, fun a h => h.elim (E1.gn a) fun h => .inr (E1.un a (.inr h)), fun a h => h.elim (fun h => E1.un a (.inl h)) fun z => z.elim⟩
end
/-! max, min with default -/
def kMaxD (zs : List D) (d : D) : Option D := match intsO zs with
  | some [] => if clean d = true then some d else none
  | some (i :: is) => some (.int (maxI i is))
  | none => none
def kMinD (zs : List D) (d : D) : Option D := match intsO zs with
  | some [] => if clean d = true then some d else none
  | some (i :: is) => some (.int (minI i is))
  | none => none
/-! range, downwards -/
def kR3 : List D → Option (List D)
  | [.int i, .int j, .int (-1)] => if -(2 ^ 62) ≤ i ∧ i < 2 ^ 62 ∧ -(2 ^ 62) ≤ j ∧ j < 2 ^ 62 then some ((List.range (i - j).toNat).map fun t : Nat => D.int (i - t)) else none
  | _ => none
end DV

namespace DV
open PySem L2
/-! ### what changes a list -/
/-- the type whose methods are looked up -/
def tyM : D → Option String
  | .str _ => some "str"
  | .lst _ _ => some "list"
  | .scr _ => some "list"
  | .dct _ _ _ => some "dict"
  | .dcT _ _ _ => some "dict"
  | _ => none
/-- an operation that changes d: what it promises; ds: values that it takes over -/
def InsM (g : Cfg) (k : D → List D → Option (D × D)) (r : V → List V → Hp → VK → Prop) : Prop :=
  ∀ (G : Fp) (H : Hp) (d : D) (ds : List D) (v : V) (vs : List V) (F Fv : Fp) (res d' : D) (Q : VK), Rep g G H d v F → Ok G H F → Reps g G H ds vs Fv → Ok G H Fv → Dj F Fv → k d ds = some (res, d') →
    (∀ w H' F' Fw, (∀ a o, H a = some o → ¬ F a → H' a = some o) → Rep g G H' d' v F' → Rep g G H' res w Fw → Ok G H' F' → Ok G H' Fw → Dj F' Fw → (∀ a, F' a ∨ Fw a → F a ∨ Fv a ∨ H a = none) → Q w H') → r v vs H Q
/-- .. ds: values that it only looks at -/
def InsL (g : Cfg) (k : D → List D → Option (D × D)) (r : V → List V → Hp → VK → Prop) : Prop :=
  ∀ (G : Fp) (H : Hp) (d : D) (ds : List D) (v : V) (vs : List V) (F : Fp) (res d' : D) (Q : VK), Rep g G H d v F → Ok G H F → Bor g G H ds vs → k d ds = some (res, d') →
    (∀ w H' F' Fw, (∀ a o, H a = some o → ¬ F a → H' a = some o) → Rep g G H' d' v F' → Rep g G H' res w Fw → Ok G H' F' → Ok G H' Fw → Dj F' Fw → (∀ a, F' a ∨ Fw a → F a ∨ H a = none) → Q w H') → r v vs H Q
def eBm (T : String) (k : List D → Option D) (o : Od) (os : List Od) : Ev := fun δ => (evOd o δ).bind fun x0 δ0 => match resO δ0 x0 with
  | some d0 => if tyM d0 = some T then (evOds os δ0).bind fun xs δ1 => match resL δ1 (x0 :: xs) with
      | some ds => match k ds with
        | some d => .ok d δ1
        | none => .bad
      | none => .bad
    else .bad
  | none => .bad
def eMutV (T : String) (k : D → List D → Option (D × D)) (i : Nat) (fs : List Ev) : Ev := fun δ => match gt δ i with
  | some d => if tyM d = some T then (evL fs δ).bind fun ds δ1 => match gt δ1 i with
      | some d1 => match k d1 ds with
        | some (res, d') => .ok res (st δ1 i (some d'))
        | none => .bad
      | none => .bad
    else .bad
  | none => .bad
def eMutL (T : String) (k : D → List D → Option (D × D)) (i : Nat) (os : List Od) : Ev := fun δ => match gt δ i with
  | some d => if tyM d = some T then (evOds os δ).bind fun xs δ1 => match gt δ1 i, resL δ1 xs with
      | some d1, some ds => match k d1 ds with
        | some (res, d') => .ok res (st δ1 i (some d'))
        | none => .bad
      | _, _ => .bad
    else .bad
  | none => .bad
def onM (r : V → List V → Hp → VK → Prop) : List V → Hp → VK → Prop := fun vs H Q => match vs with
  | x :: xs => r x xs H Q
  | [] => False
section
variable {g : Cfg} {W : WX} {G G' G1 G2 : Fp} {H H' H1 H2 : Hp} {σ : St} {δ δ' δ1 : Env} {F F' F1 : Nat → Fp} {Q : VK} {K : PySem.W.Frag}
theorem tyV_of {d : D} {v : V} {A : Fp} {T : String} (hK : K = g.K) (r : Rep g G H d v A) (h : tyM d = some T) : tyV K T v H := by
  cases d <;> simp only [tyM] at h <;> cases h
  · cases (show v = _ from r); rfl
  · obtain ⟨p, vs, rfl, hp, _⟩ := lst_tr r; exact .inl ⟨rfl, vs, .inl (.inl hp)⟩
  · obtain ⟨p, vs, F', rfl, q, _⟩ := r; exact .inr (.inr (.inl ⟨rfl, .inl ⟨_, q⟩⟩))
  · obtain ⟨p, vs, F', rfl, q, _⟩ := r; exact .inr (.inr (.inl ⟨rfl, .inr ⟨_, q⟩⟩))
  · obtain ⟨p, rfl, q⟩ := r; exact .inl ⟨rfl, _, by rw [hK]; exact q.sq⟩
/-- one operand ahead of the others -/
theorem pre_run {o : Od} {os : List Od} {M : V → Hp → Prop} {N : V → List V → Hp → Prop} (S : StR g G H σ δ F) {kk : OV → Env → R D}
    (P : Post g W G H F σ ((evOd o δ).bind kk) Q)
    (h : ∀ x0 δ0 H0 G0 F0 v Fv, StR g G0 H0 σ δ0 F0 → RepOs g G0 H0 σ [x0] [v] Fv → Ok G0 H0 Fv → Dj Fv (U F0) → Ext G H (U F) G0 H0 (Un2 (U F0) Fv) → Post g W G H F σ (kk x0 δ0) Q → M v H0) : tO g W o σ H M :=
  od_run S (PostG.mono (PostG.bind P) fun x0 δ0 H0 G0 F0 S0 P0 v Fv r ok dj E => h x0 δ0 H0 G0 F0 v Fv S0 r ok dj E P0)
theorem rep_res {x0 : OV} {v : V} {Fv : Fp} {d : D} (S : StR g G H σ δ F) (r : RepOs g G H σ [x0] [v] Fv) (e : resO δ x0 = some d) : ∃ A, Rep g G H d v A := by
  cases x0 with
  | tmp d' =>
    obtain ⟨v', vr, A, B, e1, l1, l2, dj0, r, e2⟩ := r
    cases e1
    cases e
    exact ⟨A, r⟩
  | late i =>
    obtain ⟨v', vr, e1, h, e2⟩ := r
    cases e1
    obtain ⟨v2, ev, r⟩ := S.at_ i _ e
    rw [h] at ev
    cases ev
    exact ⟨_, r⟩
theorem repOs_cons {x0 : OV} {xs : List OV} {v : V} {vs : List V} {Fv Fvs : Fp} {F2 : Nat → Fp} (okF : Ok G1 H1 (U F1)) (r : RepOs g G1 H1 σ [x0] [v] Fv) (ok1 : Ok G1 H1 Fv) (dj1 : Dj Fv (U F1)) (E2 : Ext G1 H1 (U F1) G2 H2 (Un2 (U F2) Fvs)) (rs : RepOs g G2 H2 σ xs vs Fvs) :
    RepOs g G2 H2 σ (x0 :: xs) (v :: vs) (Un2 Fv Fvs) := by
  cases x0 with
  | tmp d =>
    obtain ⟨v', vr, A, B, e, l1, l2, dj0, r, e2⟩ := r
    cases e
    exact ⟨v, vs, Fv, Fvs, rfl, Le.inl, Le.inr, fun a h z => E2.dj ok1 dj1 a h (.inr z), (E2.rep okF r (dj1.le l1 (Le.refl _))).le l1, rs⟩
  | late i =>
    obtain ⟨v', vr, e, h, e2⟩ := r
    cases e
    exact ⟨v, vs, rfl, h, rs.le Le.inr⟩
theorem bm_run {T : String} {k : List D → Option D} {r : V → List V → Hp → VK → Prop} {o : Od} {os : List Od} (hK : K = g.K) (hk : Ins g k (onM r)) (S : StR g G H σ δ F) (P : Post g W G H F σ (eBm T k o os δ) Q) :
    tO g W o σ H fun x H1 => tyV K T x H1 ∧ tOs g W os σ H1 fun xs H2 => r x xs H2 Q := by
  refine pre_run (os := os) (N := fun _ _ _ => True) S P fun x0 δ0 H0 G0 F0 v Fv S0 rx ok0 dj0 E0 P0 => ?_
  cases e : resO δ0 x0 with
  | none => simp only [e] at P0; exact False.elim P0
  | some d0 =>
    simp only [e] at P0
    split at P0
    · rename_i ht
      obtain ⟨A, rA⟩ := rep_res S0 rx e
      refine ⟨tyV_of hK rA ht, ?_⟩
      refine ods_run S0 ((PostG.mono (PostG.bind P0) fun xs δ2 H2 G2 F2 S2 P2 vs Fvs rs ok2 dj2 E2 => ?_).on E0 Le.inl)
      have okF : Ok G0 H0 (U F0) := S0.okU
      have rall := repOs_cons okF rx ok0 dj0 E2 rs
      cases e2 : resL δ2 (x0 :: xs) with
      | none => simp only [e2] at P2; exact False.elim P2
      | some ds =>
        cases e3 : k ds with
        | none => simp only [e2, e3] at P2; exact False.elim P2
        | some d =>
          simp only [e2, e3] at P2
          refine hk G2 H2 ds (v :: vs) d Q (bor_of S2 rall e2) e3 fun w H' Fw same rep new => ?_
          have E2' : Ext G H (U F) G2 H2 (Un2 (U F2) (Un2 Fv Fvs)) := by
            refine E0.trans (U1' := Un2 (U F0) Fv) (E2.frame (Fh := Fv)) (Le.refl _) |>.weak (Le.refl _) fun a h => ?_
            rcases h with h | h | h
            · exact .inl (.inl h)
            · exact .inr h
            · exact .inl (.inr h)
          refine P2 H' G2 F2 (S2.same same) w Fw rep (fun a h => ⟨(new a h).2, fun z => S2.gs a z (new a h).1⟩) (fun a h ⟨i, z⟩ => ?_) (E2'.trans (.new (U1 := U F2) same (Le.refl _) fun a h => (new a h).1) Le.inl)
          have := (S2.ok i a z).1
          rw [(new a h).1] at this; exact this
    · exact False.elim P0
/-- a slot's thing changed -/
theorem chg_run {i : Nat} {v w : V} {d' res : D} {Fv F' Fw : Fp} {P : Post g W G H F σ (.ok res (st δ1 i (some d'))) Q} (S1 : StR g G1 H1 σ δ1 F1) (hv : σ[i]? = some (some v)) (ok1 : Ok G1 H1 Fv) (dj1 : Dj Fv (U F1)) (E1 : Ext G H (U F) G1 H1 (Un2 (U F1) Fv))
    (kp : ∀ a o, H1 a = some o → ¬ F1 i a → H' a = some o) (r' : Rep g G1 H' d' v F') (rw' : Rep g G1 H' res w Fw) (o' : Ok G1 H' F') (ow : Ok G1 H' Fw) (dj' : Dj F' Fw) (nw : ∀ a, F' a ∨ Fw a → F1 i a ∨ Fv a ∨ H1 a = none) : Q w H' := by
  have oi : Ok G1 H1 (F1 i) := S1.ok i
  have Ec : Ext G1 H1 (F1 i) G1 H' (F1 i) := ⟨kp, Le.refl _, fun _ h => .inl h, fun _ h => .inl h⟩
  have gs : ∀ a, G1 a → H' a ≠ none := fun a h z => by
    cases e : H1 a with
    | none => exact S1.gs a h e
    | some o => rw [kp a o e fun y => (oi a y).2 h] at z; cases z
  have So := (S1.out i).ext Ec oi (out_dj S1 i).symm gs
  have none_U : ∀ a, U (Fst F1 i Fe) a → H1 a ≠ none := fun a h z => by
    have := ((S1.out i).okU a h).1
    rw [z] at this; exact this
  have djF : Dj (Un2 F' Fw) (U (Fst F1 i Fe)) := fun a x y => by
    rcases nw a x with h | h | h
    · exact out_dj S1 i a h y
    · exact dj1 a h ((U_Fst a y).elim id fun z => z.elim)
    · exact none_U a y h
  have S2 := So.re (i := i) r' o' (djF.le Le.inl (Le.refl _)) hv
  rw [st_st] at S2
  have le2 : Le (U (Fst (Fst F1 i Fe) i F')) (Un2 (U (Fst F1 i Fe)) F') := U_Fst
  refine P H' G1 _ S2 w Fw rw' ow (fun a x y => ?_) (E1.trans (U1' := Un2 (U F1) Fv) ⟨fun a o e n => kp a o e fun y => n (.inl ⟨i, y⟩), Le.refl _, fun _ h => .inl h, fun a h => ?_⟩ (Le.refl _))
  · rcases le2 a y with y | y
    · exact djF a (.inr x) y
    · exact dj' a y x
  · have key : F' a ∨ Fw a → Un2 (U F1) Fv a ∨ H1 a = none := fun h => by
      rcases nw a h with h | h | h
      · exact .inl (.inl ⟨i, h⟩)
      · exact .inl (.inr h)
      · exact .inr h
    rcases h with h | h
    · rcases le2 a h with h | h
      · rcases U_Fst a h with h | h
        · exact .inl (.inl h)
        · exact h.elim
      · exact key (.inl h)
    · exact key (.inr h)
theorem mutV_run {T : String} {k : D → List D → Option (D × D)} {r : V → List V → Hp → VK → Prop} {i : Nat} {fs : List Ev} (hK : K = g.K) (hk : InsM g k r) (S : StR g G H σ δ F) (P : Post g W G H F σ (eMutV T k i fs δ) Q) :
    tVar i σ H fun x H1 => tyV K T x H1 ∧ tEs g W fs σ H1 fun xs H2 => r x xs H2 Q := by
  cases e : gt δ i with
  | none => simp only [eMutV, e] at P; exact False.elim P
  | some d =>
    simp only [eMutV, e] at P
    split at P
    · rename_i ht
      obtain ⟨v, ev, rv⟩ := S.at_ i d e
      refine ⟨v, ev, tyV_of hK rv ht, evs_run S (PostG.mono (PostG.bind P) fun ds δ1 H1 G1 F1 S1 P1 vs Fv rs ok1 dj1 E1 => ?_)⟩
      cases e1 : gt δ1 i with
      | none => simp only [e1] at P1; exact False.elim P1
      | some d1 =>
        simp only [e1] at P1
        obtain ⟨v', ev', r1⟩ := S1.at_ i d1 e1
        rw [ev] at ev'
        cases ev'
        cases e2 : k d1 ds with
        | none => simp only [e2] at P1; exact False.elim P1
        | some p =>
          obtain ⟨res, d'⟩ := p
          simp only [e2] at P1
          exact hk G1 H1 d1 ds v vs (F1 i) Fv res d' Q r1 (S1.ok i) rs ok1 (fun a x y => dj1 a y ⟨i, x⟩) e2 fun w H' F' Fw kp r' rw' o' ow dj' nw => chg_run (P := P1) S1 ev ok1 dj1 E1 kp r' rw' o' ow dj' nw
    · exact False.elim P
theorem mutL_run {T : String} {k : D → List D → Option (D × D)} {r : V → List V → Hp → VK → Prop} {i : Nat} {os : List Od} (hK : K = g.K) (hk : InsL g k r) (S : StR g G H σ δ F) (P : Post g W G H F σ (eMutL T k i os δ) Q) :
    tVar i σ H fun x H1 => tyV K T x H1 ∧ tOs g W os σ H1 fun xs H2 => r x xs H2 Q := by
  cases e : gt δ i with
  | none => simp only [eMutL, e] at P; exact False.elim P
  | some d =>
    simp only [eMutL, e] at P
    split at P
    · rename_i ht
      obtain ⟨v, ev, rv⟩ := S.at_ i d e
      refine ⟨v, ev, tyV_of hK rv ht, ods_run S (PostG.mono (PostG.bind P) fun xs δ1 H1 G1 F1 S1 P1 vs Fv rs ok1 dj1 E1 => ?_)⟩
      cases e1 : gt δ1 i with
      | none => simp only [e1] at P1; exact False.elim P1
      | some d1 =>
        cases e3 : resL δ1 xs with
        | none => simp only [e1, e3] at P1; exact False.elim P1
        | some ds =>
          simp only [e1, e3] at P1
          obtain ⟨v', ev', r1⟩ := S1.at_ i d1 e1
          rw [ev] at ev'
          cases ev'
          cases e2 : k d1 ds with
          | none => simp only [e2] at P1; exact False.elim P1
          | some p =>
            obtain ⟨res, d'⟩ := p
            simp only [e2] at P1
            exact hk G1 H1 d1 ds v vs (F1 i) res d' Q r1 (S1.ok i) (bor_of S1 rs e3) e2 fun w H' F' Fw kp r' rw' o' ow dj' nw => chg_run (P := P1) S1 ev ok1 dj1 E1 kp r' rw' o' ow dj' fun a h => (nw a h).elim .inl fun h => .inr (.inr h)
    · exact False.elim P
end
section
variable {X : Cx} {g : Cfg} {W : WX} {T id : String} {name : Str} {apos cpos : Pos} {o e : Expr} {es : List Expr}
theorem se_bm {k : List D → Option D} {r : V → List V → Hp → VK → Prop} {oo : Od} {os : List Od} (hK : X.K = g.K) (pa : PlainAttrs T) (slot : Slot T name id) (hty : typeOf (.builtin id) = pure (.type "method_descriptor")) (hm : MtR X id r) (hk : Ins g k (onM r)) (ho : SO X g W o oo) (ha : SOs X g W (e :: es) os)
    (hbase : attributeBase o name X.env (eval o X.env) = eval o X.env := by rfl)
    (hfew : ((backTo cpos (starEach (e :: es) X.env)).all (fun x => !x.1) && (backToKw cpos (keywordEach [] X.env)).all (fun x => x.1.isSome)
      && decide ((e :: es).length + ([] : List Keyword).length + (if ([] : List Keyword).isEmpty then 0 else 1) < 30)) = true := by rfl)
    (hline : (apos.endLine == cpos.line) = true := by rfl) (hs : starEach (e :: es) X.env = (false, eval e X.env) :: starEach es X.env := by rfl) (hplain : (backTo cpos (starEach es X.env)).any (·.1) = false := by rfl) :
    SE X g W (.Call (.Attribute o name apos) (e :: es) [] cpos) (eBm T k oo os) := PE.imp (pe_bm pa slot hty hm ho ha.pa hbase hfew hline hs hplain) fun σ H Q ⟨G, δ, F, S, P⟩ => bm_run hK hk S P
theorem se_bm0 {k : List D → Option D} {r : V → List V → Hp → VK → Prop} {oo : Od} (hK : X.K = g.K) (pa : PlainAttrs T) (slot : Slot T name id) (hty : typeOf (.builtin id) = pure (.type "method_descriptor")) (hm : MtR X id r) (hk : Ins g k (onM r)) (ho : SO X g W o oo)
    (hbase : attributeBase o name X.env (eval o X.env) = eval o X.env := by rfl) (hline : (apos.endLine == cpos.line) = true := by rfl) :
    SE X g W (.Call (.Attribute o name apos) [] [] cpos) (eBm T k oo []) := PE.imp (pe_bm0 pa slot hty hm ho hbase hline) fun σ H Q ⟨G, δ, F, S, P⟩ => bm_run hK hk S P
theorem se_mutV {k : D → List D → Option (D × D)} {r : V → List V → Hp → VK → Prop} {i : Nat} {fs : List Ev} (hK : X.K = g.K) (pa : PlainAttrs T) (slot : Slot T name id) (hty : typeOf (.builtin id) = pure (.type "method_descriptor")) (hm : MtR X id r) (hk : InsM g k r) (ho : PE X o (tVar i)) (ha : SEs X g W (e :: es) fs)
    (hbase : attributeBase o name X.env (eval o X.env) = eval o X.env := by rfl)
    (hfew : ((backTo cpos (starEach (e :: es) X.env)).all (fun x => !x.1) && (backToKw cpos (keywordEach [] X.env)).all (fun x => x.1.isSome)
      && decide ((e :: es).length + ([] : List Keyword).length + (if ([] : List Keyword).isEmpty then 0 else 1) < 30)) = true := by rfl)
    (hline : (apos.endLine == cpos.line) = true := by rfl) (hs : starEach (e :: es) X.env = (false, eval e X.env) :: starEach es X.env := by rfl) (hplain : (backTo cpos (starEach es X.env)).any (·.1) = false := by rfl) :
    SE X g W (.Call (.Attribute o name apos) (e :: es) [] cpos) (eMutV T k i fs) := PE.imp (pe_bm pa slot hty hm ho ha.pa hbase hfew hline hs hplain) fun σ H Q ⟨G, δ, F, S, P⟩ => mutV_run hK hk S P
theorem se_mut0 {k : D → List D → Option (D × D)} {r : V → List V → Hp → VK → Prop} {i : Nat} (hK : X.K = g.K) (pa : PlainAttrs T) (slot : Slot T name id) (hty : typeOf (.builtin id) = pure (.type "method_descriptor")) (hm : MtR X id r) (hk : InsM g k r) (ho : PE X o (tVar i))
    (hbase : attributeBase o name X.env (eval o X.env) = eval o X.env := by rfl) (hline : (apos.endLine == cpos.line) = true := by rfl) :
    SE X g W (.Call (.Attribute o name apos) [] [] cpos) (eMutV T k i []) := PE.imp (pe_bm0 pa slot hty hm ho hbase hline) fun σ H Q ⟨G, δ, F, S, P⟩ => mutV_run (fs := []) hK hk S P
theorem se_mutL {k : D → List D → Option (D × D)} {r : V → List V → Hp → VK → Prop} {i : Nat} {os : List Od} (hK : X.K = g.K) (pa : PlainAttrs T) (slot : Slot T name id) (hty : typeOf (.builtin id) = pure (.type "method_descriptor")) (hm : MtR X id r) (hk : InsL g k r) (ho : PE X o (tVar i)) (ha : SOs X g W (e :: es) os)
    (hbase : attributeBase o name X.env (eval o X.env) = eval o X.env := by rfl)
    (hfew : ((backTo cpos (starEach (e :: es) X.env)).all (fun x => !x.1) && (backToKw cpos (keywordEach [] X.env)).all (fun x => x.1.isSome)
      && decide ((e :: es).length + ([] : List Keyword).length + (if ([] : List Keyword).isEmpty then 0 else 1) < 30)) = true := by rfl)
    (hline : (apos.endLine == cpos.line) = true := by rfl) (hs : starEach (e :: es) X.env = (false, eval e X.env) :: starEach es X.env := by rfl) (hplain : (backTo cpos (starEach es X.env)).any (·.1) = false := by rfl) :
    SE X g W (.Call (.Attribute o name apos) (e :: es) [] cpos) (eMutL T k i os) := PE.imp (pe_bm pa slot hty hm ho ha.pa hbase hfew hline hs hplain) fun σ H Q ⟨G, δ, F, S, P⟩ => mutL_run hK hk S P
end
/-! the lists' own -/
def kAppend : D → List D → Option (D × D)
  | .lst true ds, [d] => if ds.length < 100000 then some (.non, .lst true (ds ++ [d])) else none
  | _, _ => none
def kReverse : D → List D → Option (D × D)
  | .lst true ds, [] => some (.non, .lst true ds.reverse)
  | _, _ => none
def kClear : D → List D → Option (D × D)
  | .lst true ds, [] => some (.non, .lst true [])
  | _, _ => none
def kExtend : D → List D → Option (D × D)
  | .lst true ds, [.lst _ es] => if cleans es = true ∧ ds.length + es.length ≤ 100000 then some (.non, .lst true (ds ++ es)) else none
  | _, _ => none
def kPop : D → List D → Option (D × D)
  | .lst true ds, [] => match ds.getLast? with
    | some d => some (d, .lst true ds.dropLast)
    | none => none
  | _, _ => none
section
variable {X : Cx} {g : Cfg} {G : Fp} {H : Hp}
theorem lst_own {ds : List D} {v : V} {F : Fp} (r : Rep g G H (.lst true ds) v F) : ∃ a vs F', v = .ref a ∧ H a = some (.lst vs) ∧ F a ∧ (∀ b, F' b → F b ∧ b ≠ a) ∧ Reps g G H ds vs F' := by
  obtain ⟨a, vs, F', e, q, n, rs⟩ := r
  exact ⟨a, vs, F', e, q.1, q.2, n, rs⟩
/-- the list at a has other items -/
theorem lst_chg {a : Addr} {vs : List V} {us : List V} {es : List D} {F Fi : Fp} (ha : H a = some (.lst vs)) (Fa : F a) (o : Ok G H F) (hi : ∀ b, Fi b → b ≠ a ∧ Ok G H Fi) (rs : Reps g G H es us Fi) :
    (∀ b o, H b = some o → ¬ F b → upd H a (.lst us) b = some o) ∧ Rep g G (upd H a (.lst us)) (.lst true es) (.ref a) (fun b => Fi b ∨ b = a) ∧ Ok G (upd H a (.lst us)) (fun b => Fi b ∨ b = a) := by
  have okp : Ok G H (fun b => b = a) := fun b h => by rw [show b = a from h]; exact o a Fa
  have kp : ∀ b o, H b = some o → ¬ (b = a) → upd H a (.lst us) b = some o := fun b o e n => by rw [upd_ne n]; exact e
  refine ⟨fun b o e n => kp b o e fun h => n (by rw [h]; exact Fa), ⟨a, us, Fi, rfl, ⟨upd_same, .inr rfl⟩, fun b hb => ⟨.inl hb, (hi b hb).1⟩, rs.keep (U := fun b => b = a) kp okp (Le.refl _) fun b x y => (hi b x).1 y⟩, fun b h => ?_⟩
  rcases h with h | h
  · have := (hi b h).2 b h
    rw [upd_ne (hi b h).1]; exact this
  · rw [h, upd_same]; exact ⟨trivial, (o a Fa).2⟩
theorem insM_append : InsM g kAppend rAppend := by
  intro G H d ds v vs F Fv res d' Q r o rs ov dj e fin
  match d, ds, e, r, rs with
  | .lst true es, [x], e, r, rs =>
    simp only [kAppend] at e
    split at e
    · rename_i c
      cases e
      obtain ⟨a, us, F', rfl, ha, Fa, n, rr⟩ := lst_own r
      obtain ⟨y, yr, A, B, rfl, l1, l2, dj0, ry, e2⟩ := rs
      cases (show yr = [] from e2)
      have okF' : Ok G H F' := fun b h => o b (n b h).1
      have okA : Ok G H A := fun b h => ov b (l1 b h)
      have hd : Dj F' A := fun b x y => dj b (n b x).1 (l1 b y)
      obtain ⟨k1, k2, k3⟩ := lst_chg (g := g) (Fi := Un2 F' A) ha Fa o (fun b h => ⟨h.elim (fun h => (n b h).2) (fun h e => dj b (by rw [e]; exact Fa) (l1 b h)), fun c z => z.elim (okF' c) (okA c)⟩) (rr.push ry hd)
      refine ⟨a, us, y, rfl, rfl, ha, by rw [rr.length]; exact Nat.lt_of_lt_of_le c (by decide), fin .non _ _ Fe k1 k2 rfl k3 (fun _ z => z.elim) (fun _ _ z => z) fun b h => ?_⟩
      rcases h with ((h | h) | h) | h
      · exact .inl (n b h).1
      · exact .inr (.inl (l1 b h))
      · exact .inl (by rw [h]; exact Fa)
      · exact h.elim
    · cases e
theorem Reps.rev : ∀ {ds : List D} {vs : List V} {F : Fp}, Reps g G H ds vs F → Reps g G H ds.reverse vs.reverse F
  | [], _, _, r => by rw [show _ = _ from r]; rfl
  | d :: ds, _, F, ⟨v, vr, A, B, e, l1, l2, dj, r, rs⟩ => by
    subst e
    rw [List.reverse_cons, List.reverse_cons]
    exact (Reps.rev rs).push r dj.symm |>.le fun a h => h.elim (l2 a) (l1 a)
theorem insM_reverse : InsM g kReverse rReverse := by
  intro G H d ds v vs F Fv res d' Q r o rs ov dj e fin
  match d, ds, e, r, rs with
  | .lst true es, [], e, r, rs =>
    cases e
    obtain ⟨a, us, F', rfl, ha, Fa, n, rr⟩ := lst_own r
    cases (show vs = [] from rs)
    obtain ⟨k1, k2, k3⟩ := lst_chg (g := g) (Fi := F') ha Fa o (fun b h => ⟨(n b h).2, fun c z => o c (n c z).1⟩) rr.rev
    exact ⟨a, us, rfl, rfl, ha, fin .non _ _ Fe k1 k2 rfl k3 (fun _ z => z.elim) (fun _ _ z => z) fun b h => .inl (h.elim (fun h => h.elim (fun h => (n b h).1) fun h => by rw [h]; exact Fa) fun z => z.elim)⟩
theorem insM_clear : InsM g kClear rClear := by
  intro G H d ds v vs F Fv res d' Q r o rs ov dj e fin
  match d, ds, e, r, rs with
  | .lst true es, [], e, r, rs =>
    cases e
    obtain ⟨a, us, F', rfl, ha, Fa, n, rr⟩ := lst_own r
    cases (show vs = [] from rs)
    obtain ⟨k1, k2, k3⟩ := lst_chg (g := g) (Fi := Fe) (es := []) (us := []) ha Fa o (fun b h => h.elim) rfl
    exact ⟨a, us, rfl, rfl, ha, fin .non _ _ Fe k1 k2 rfl k3 (fun _ z => z.elim) (fun _ _ z => z) fun b h => .inl (h.elim (fun h => h.elim (fun h => h.elim) fun h => by rw [h]; exact Fa) fun z => z.elim)⟩
theorem Reps.last : ∀ {ds : List D} {vs : List V} {F : Fp} {d : D}, Reps g G H ds vs F → ds.getLast? = some d → ∃ v A B, vs[vs.length - 1]? = some v ∧ Le A F ∧ Le B F ∧ Dj A B ∧ Rep g G H d v A ∧ Reps g G H ds.dropLast vs.dropLast B
  | [], _, _, _, _, e => by simp at e
  | [x], _, F, d, ⟨v, vr, A, B, e1, l1, l2, dj, r, rs⟩, e => by
    subst e1
    cases (show vr = [] from rs)
    simp at e
    subst e
    exact ⟨v, A, Fe, rfl, l1, fun _ z => z.elim, fun _ _ z => z, r, rfl⟩
  | x :: y :: ds, _, F, d, ⟨v, vr, A, B, e1, l1, l2, dj, r, rs⟩, e => by
    subst e1
    rw [List.getLast?_cons_cons] at e
    obtain ⟨w, A2, B2, h1, m1, m2, dj2, rw', rs'⟩ := Reps.last rs e
    obtain ⟨v2, vr2, _, _, e2, _⟩ := rs
    subst e2
    refine ⟨w, A2, Un2 A B2, by simpa using h1, m1.trans l2, fun a h => h.elim (l1 a) fun h => l2 a (m2 a h), fun a x y => y.elim (fun y => dj a y (m1 a x)) (dj2 a x), rw', ?_⟩
    exact ⟨v, _, A, B2, rfl, Le.inl, Le.inr, fun a x y => dj a x (m2 a y), r, rs'⟩
theorem insM_pop : InsM g kPop rPop := by
  intro G H d ds v vs F Fv res d' Q r o rs ov dj e fin
  match d, ds, e, r, rs with
  | .lst true es, [], e, r, rs =>
    simp only [kPop] at e
    cases el : es.getLast? with
    | none => rw [el] at e; cases e
    | some x =>
      rw [el] at e
      cases e
      obtain ⟨a, us, F', rfl, ha, Fa, n, rr⟩ := lst_own r
      cases (show vs = [] from rs)
      obtain ⟨w, A, B, h1, m1, m2, dj2, rw', rs'⟩ := rr.last el
      obtain ⟨k1, k2, k3⟩ := lst_chg (g := g) (Fi := B) ha Fa o (fun b h => ⟨(n b (m2 b h)).2, fun c z => o c (n c (m2 c z)).1⟩) rs'
      have okp : Ok G H (fun b => b = a) := fun b h => by rw [show b = a from h]; exact o a Fa
      refine ⟨a, us, w, rfl, rfl, ha, h1, fin w _ _ A k1 k2 (rw'.keep (U := fun b => b = a) (fun b o e n => by rw [upd_ne n]; exact e) okp (Le.refl _) fun b x y => (n b (m1 b x)).2 y) k3 (fun b h => ?_) (fun b x y => ?_) fun b h => .inl ?_⟩
      · rw [upd_ne (n b (m1 b h)).2]; exact o b (n b (m1 b h)).1
      · rcases x with x | x
        · exact dj2 b y x
        · exact (n b (m1 b y)).2 x
      · rcases h with (h | h) | h
        · exact (n b (m2 b h)).1
        · rw [h]; exact Fa
        · exact (n b (m1 b h)).1
theorem Reps.app2 : ∀ {ds es : List D} {vs ws : List V} {A : Fp}, Reps g G H ds vs A → Reps g G H es ws Fe → Reps g G H (ds ++ es) (vs ++ ws) A
  | [], es, vs, ws, A, r, q => by rw [show vs = [] from r]; exact q.le fun _ z => z.elim
  | d :: ds, es, _, ws, A, ⟨v, vr, F1, F2, e, l1, l2, dj, r, rs⟩, q => by
    subst e
    exact ⟨v, vr ++ ws, F1, F2, rfl, l1, l2, dj, r, Reps.app2 rs q⟩
theorem insL_extend : InsL g kExtend rExtend := by
  intro G H d ds v vs F res d' Q r o b e fin
  match d, ds, e, r, b with
  | .lst true es, [.lst o' fs], e, r, b =>
    simp only [kExtend] at e
    split at e
    · rename_i c
      cases e
      obtain ⟨w, B, rfl, r2⟩ := bor1 b
      obtain ⟨a, us, F', rfl, ha, Fa, n, rr⟩ := lst_own r
      obtain ⟨p, ws, rfl, hp, rs⟩ := lst_tr r2
      obtain ⟨k1, k2, k3⟩ := lst_chg (g := g) (Fi := F') ha Fa o (fun b h => ⟨(n b h).2, fun c z => o c (n c z).1⟩) (rr.app2 (rs.clean c.1))
      exact ⟨a, p, us, ws, rfl, rfl, ha, hp, by rw [rr.length, rs.length]; exact sz5 c.2, fin .non _ _ Fe k1 k2 rfl k3 (fun _ z => z.elim) (fun _ _ z => z) fun b h => .inl (h.elim (fun h => h.elim (fun h => (n b h).1) fun h => by rw [h]; exact Fa) fun z => z.elim)⟩
    · cases e
end
end DV

namespace DV
open PySem L2
/-! ### max, min with default: the model's loop -/
section
open PySem.Spec PyProof.Rows
variable {P : Program} {w : World} {A : Around} {E : Value → Shared → Prop} {R : Result → Shared → Prop} {s : Shared}
abbrev itObj (l : Addr) : Obj := { cls := .type "list_iterator", data := .fields #[.ref l, .int 0 0] }
theorem max_dflt_args (a d : Value) : argsOk "max" ⟨[a], [(Str.ofString "default", d)]⟩ := by unfold argsOk; kernel_rfl
theorem max_turns {I : Addr} {fp wr : List Addr} {n : Nat} {Pv : Nat → Value → Prop} {St : Nat → Heap → Prop} (W : Walks P w A.in1 I fp wr n Pv St) (bt : Nat → Nat → Bool) (cmp : CmpOf P w A.in1 .Gt Pv bt) (S : Addr) (off : S ∉ fp) (kw : List (Str × Value)) :
    ∀ (k j : Nat) (s : Shared) (vb : Value) (c : Nat), n - (j + 1) = k → j + 1 ≤ n → St (j + 1) s.heap → Pv (argBest bt j) vb → s.heap.get? S = some (seqObj "list" #[vb, vb] c) →
    (∀ v g tk, Pv (argBest bt (n - 1)) v → (∀ b o, b ∉ wr → b ≠ S → s.heap.get? b = some o → g.get? b = some o) → R (.ok (.ret v)) { s with heap := g, toks := tk }) →
    codeAny (model P w) A (.builtin "max.loop" ⟨[.ref I, .none, .ref S], kw⟩) R s := by
  have offw : S ∉ wr := fun h => off (W.sub _ h)
  have nm : (toString "max" ++ toString ".loop" : String) = "max.loop" := by decide
  intro k; induction k with
  | zero =>
    intro j s vb c hk hj st pb hS fin
    obtain rfl : j + 1 = n := by omega
    refine codeAny_builtin F.entry_max_loop ?_; rw [Around.under_plainId F.plain_max_loop _]
    refine (show wpAny _ A.in1 (seqItems? (.ref S) >>= _) _ _ s from wpAny_bind (wpAny_seqItems hS rfl ?_))
    refine (show wpAny _ A.in1 (tryCatch (pyNext (.ref I)) _ >>= _) _ _ s from wpAny_bind (wpAny_tryCatch (W.done s _ _ st fun g tk hg => ?_)))
    have hS2 := hg S _ offw hS
    refine (show wpAny _ A.in1 (updateSeq S (fun _ => #[]) >>= _) _ _ _ from wpAny_bind (wpAny_updateSeq hS2 rfl (wpAny_bind (wpAny_letGo (wpAny_pure ?_)))))
    exact fin vb _ tk (by simpa using pb) fun b o h1 h2 e => (Heap.get?_update_other _ _ (Ne.symm h2)).trans (hg b o h1 e)
  | succ k ih =>
    intro j s vb c hk hj st pb hS fin
    have lt : j + 1 < n := by omega
    refine codeAny_builtin F.entry_max_loop ?_; rw [Around.under_plainId F.plain_max_loop _]
    refine (show wpAny _ A.in1 (seqItems? (.ref S) >>= _) _ _ s from wpAny_bind (wpAny_seqItems hS rfl ?_))
    refine (show wpAny _ A.in1 (tryCatch (pyNext (.ref I)) _ >>= _) _ _ s from wpAny_bind (wpAny_tryCatch (W.item (j + 1) s _ _ lt st fun v g tk hP st2 hg => ?_)))
    have hS2 := hg S _ offw hS
    refine (show wpAny _ A.in1 (tryCatch (holding [v, v] (richCompare .Gt v vb >>= _)) _ >>= _) _ _ _ from wpAny_bind (wpAny_tryCatch (wpAny_holding (wpAny_bind (cmp (j + 1) (argBest bt j) v vb _ _ _ hP pb ?_)))))
    refine wpAny_bind (wpAny_holding (wpAny_truthy_bool (wpAny_bind (wpAny_letGo (wpAny_pure ?_)))))
    cases hb : bt (j + 1) (argBest bt j) with
    | true =>
      simp only [if_true]
      refine wpAny_bind (wpAny_updateSeq hS2 rfl (wpAny_bind (wpAny_letGo ?_))); rw [nm]
      refine wpAny_pure ⟨plainId_quiet F.plain_max_loop _, ih (j + 1) _ v _ (by omega) lt (W.frame _ _ _ st2 fun b hf o e => (Heap.get?_update_other _ _ (fun h : S = b => off (by rw [h]; exact hf))).trans e) (by simp only [argBest, hb, if_true]; exact hP) (Heap.get?_update_self _ hS2 rfl) fun v' g' tk' hP' hg' => ?_⟩
      exact fin v' g' tk' hP' fun b o h1 h2 e => hg' b o h1 h2 ((Heap.get?_update_other _ _ (Ne.symm h2)).trans (hg b o h1 e))
    | false =>
      simp only [Bool.false_eq_true, if_false]
      refine wpAny_bind (wpAny_letGo ?_); rw [nm]
      refine wpAny_pure ⟨plainId_quiet F.plain_max_loop _, ih (j + 1) _ vb c (by omega) lt st2 (by simp only [argBest, hb, Bool.false_eq_true, if_false]; exact pb) hS2 fun v' g' tk' hP' hg' => ?_⟩
      exact fin v' g' tk' hP' fun b o h1 h2 e => hg' b o h1 h2 (hg b o h1 e)
/-- max(xs, default=d) over a walk -/
theorem call_max_dflt {l : Addr} {its : Array Value} {d : Value} {Pv : Nat → Value → Prop} {bt : Nat → Nat → Bool} {Q : Value → Shared → Prop} (hh : A.handled = none) (hl : s.heap.IsList l its) (hp : ∀ i v, its[i]? = some v → Pv i v) (cmp : CmpOf P w A.in1 .Gt Pv bt)
    (none : its.size = 0 → ∀ g tk, (∀ b o, s.heap.get? b = some o → g.get? b = some o) → Q d { s with heap := g, toks := tk })
    (best : 0 < its.size → ∀ v g tk, its[argBest bt (its.size - 1)]? = some v → (∀ b o, s.heap.get? b = some o → g.get? b = some o) → Q v { s with heap := g, toks := tk }) :
    wpAny (model P w) A (call (.builtin "max") [.ref l] [(Str.ofString "default", d)]) Q E s := by
  have nm : (toString "max" ++ toString ".loop" : String) = "max.loop" := by decide
  have lt : l < s.heap.objs.size := by obtain ⟨_, e, _⟩ := hl; exact Heap.lt_size e
  refine kmk_tree PySem.F.kind_max PySem.F.plain_max PySem.F.entry_max (max_dflt_args _ _) ?_
  refine (show wpAny _ A.in1 (Builtin.Builtins.bindParams "max" ["key", "default"] 0 ⟨[], [(Str.ofString "default", d)]⟩ >>= _) _ _ s from ?_)
  refine wpAny_bind (wpAny_of_eq (show Builtin.Builtins.bindParams "max" ["key", "default"] 0 ⟨[], [(Str.ofString "default", d)]⟩ = pure [.none, some d] from rfl) (wpAny_bind (wpAny_pure ?_)))
  refine wpAny_bind (wpAny_pyIter_list hl (wpAny_bind (wpAny_newList ?_ (Nat.zero_le _)))); rw [nm]
  refine wpAny_pure ⟨plainId_quiet PySem.F.plain_max_loop _, ?_⟩
  have zI : (s.heap.push (itObj l)).objs.size = s.heap.objs.size + 1 := Heap.size_push ..
  have ne1 : l ≠ s.heap.objs.size := Nat.ne_of_lt lt
  have W := Walks.list (prog := P) (w := w) (A := A.in1) hh s.heap.objs.size l ne1 its
  have gI : ((s.heap.push (itObj l)).push (seqObj "list" #[] 0)).get? s.heap.objs.size = some (itObj l) := Heap.get?_push_of_some _ (Heap.get?_push_size _ rfl)
  have gS : ((s.heap.push (itObj l)).push (seqObj "list" #[] 0)).get? (s.heap.push (itObj l)).objs.size = some (seqObj "list" #[] 0) := Heap.get?_push_size _ rfl
  have off : (s.heap.push (itObj l)).objs.size ∉ [s.heap.objs.size, l] := by
    rw [zI]; simp only [List.mem_cons, List.not_mem_nil, or_false, not_or]; exact ⟨Nat.ne_of_gt (Nat.lt_succ_self _), Nat.ne_of_gt (Nat.lt_succ_of_lt lt)⟩
  have offw : (s.heap.push (itObj l)).objs.size ∉ [s.heap.objs.size] := fun h => off (W.sub _ h)
  have back : ∀ (g : Heap), (∀ b o, b ∉ [s.heap.objs.size] → b ≠ (s.heap.push (itObj l)).objs.size → ((s.heap.push (itObj l)).push (seqObj "list" #[] 0)).get? b = some o → g.get? b = some o) → ∀ b o, s.heap.get? b = some o → g.get? b = some o := fun g hg b o e => by
    have b0 := Heap.lt_size e
    refine hg b o ?_ ?_ (Heap.get?_push_of_some _ (Heap.get?_push_of_some _ e))
    · simp only [List.mem_cons, List.not_mem_nil, or_false]; exact Nat.ne_of_lt b0
    · rw [zI]; exact Nat.ne_of_lt (Nat.lt_succ_of_lt b0)
  refine codeAny_builtin PySem.F.entry_max_loop ?_; rw [Around.under_plainId PySem.F.plain_max_loop _]
  refine (show wpAny _ A.in1 (seqItems? (.ref _) >>= _) _ _ _ from wpAny_bind (wpAny_seqItems gS rfl ?_))
  have st0 : (fun i (h : Heap) => h.IsListIter s.heap.objs.size l i ∧ h.IsList l its) 0 ((s.heap.push (itObj l)).push (seqObj "list" #[] 0)) := ⟨⟨_, gI, rfl, rfl⟩, (hl.push _).push _⟩
  by_cases hz : its.size = 0
  · refine (show wpAny _ A.in1 (tryCatch (pyNext (.ref _)) _ >>= _) _ _ _ from wpAny_bind (wpAny_tryCatch (W.done _ _ _ (by rw [hz]; exact st0) fun g tk hg => ?_)))
    exact wpAny_bind (wpAny_rule (wpAny_pure (none hz g tk (back g fun b o h1 _ e => hg b o h1 e))))
  · have pos : 0 < its.size := Nat.pos_of_ne_zero hz
    refine (show wpAny _ A.in1 (tryCatch (pyNext (.ref _)) _ >>= _) _ _ _ from wpAny_bind (wpAny_tryCatch (W.item 0 _ _ _ pos st0 fun v g tk hP st2 hg => ?_)))
    have gS2 := hg _ _ offw gS
    refine (show wpAny _ A.in1 (updateSeq _ (fun _ => #[v, v]) >>= _) _ _ _ from wpAny_bind (wpAny_updateSeq gS2 rfl ?_)); rw [nm]
    refine wpAny_pure ⟨plainId_quiet PySem.F.plain_max_loop _, max_turns W bt (fun i j v u s' Q' E' h1 h2 hq => cmp i j v u s' Q' E' (hp _ _ h1) (hp _ _ h2) hq) _ off _ _ 0 _ v _ rfl pos (W.frame _ _ _ st2 fun b hf o e => (Heap.get?_update_other _ _ (fun h : _ = b => off (by rw [h]; exact hf))).trans e) hP (Heap.get?_update_self _ gS2 rfl) fun v' g' tk' hP' hg' => ?_⟩
    exact best pos v' g' tk' hP' (back g' fun b o h1 h2 e => hg' b o h1 h2 ((Heap.get?_update_other _ _ (Ne.symm h2)).trans (hg b o h1 e)))
/-- max(xs, default=d) of a list of whole numbers -/
def rmax_D (K : PySem.W.Frag) : List V → List V → Hp → VK → Prop := fun xs zs H Q => ∃ (a : Addr) (ns : List Int) (d : V), xs = [.ref a] ∧ zs = [d] ∧ SqL K H a (ns.map V.int) ∧ (ns = [] → Q d H) ∧ (∀ m, m ∈ ns → (∀ y, y ∈ ns → y ≤ m) → Q (.int m) H)
theorem cr_max_D {X : Cx} (hc : X.calm = true) : CallRK X (.builtin "max") [Str.ofString "default"] (rmax_D X.K) := by
  intro pins s σ H xs zs us ws Q I r rz h
  obtain ⟨a, ns, d, rfl, rfl, hs, h0, hm⟩ := h
  obtain ⟨its, rv, hl, _⟩ := I.list hs
  rw [Vals.ref1 r]
  obtain ⟨u, rfl, ru⟩ := rz.one
  have hi := rv.ints
  have hlen : its.toArray.size = ns.length := by rw [List.size_toArray]; have := IntsAre.length hi; omega
  have at_ : ∀ (i : Nat) (v : Value), its.toArray[i]? = some v → ∃ t, v = .int (ns.getD i 0) t := fun i v hv => IntsAre.int_at hi i v (by simpa using hv)
  refine call_max_dflt (P := X.prog) (w := X.w) (I.ok.hd hc) hl.isList (fun i v hv => at_ i v hv) (CmpOf.ints_gt (fun i => ns.getD i 0) (fun _ _ h => h)) (fun hz g tk hk => ?_) (fun hz v g tk hv hk => ?_)
  · exact ⟨d, H, I.kept hk, ru, h0 (List.length_eq_zero_iff.mp (hlen.symm.trans hz))⟩
  · obtain ⟨t, rfl⟩ := at_ _ _ hv
    obtain ⟨g1, g2⟩ := argBest_gt (fun i => ns.getD i 0) (its.toArray.size - 1)
    refine ⟨.int _, H, I.kept hk, ⟨t, rfl⟩, hm _ (getD_mem (by omega)) fun y hy => ?_⟩
    obtain ⟨j, hj, rfl⟩ := mem_getD hy
    exact g2 j (by omega)
theorem min_dflt_args (a d : Value) : argsOk "min" ⟨[a], [(Str.ofString "default", d)]⟩ := by unfold argsOk; kernel_rfl
theorem min_turns {I : Addr} {fp wr : List Addr} {n : Nat} {Pv : Nat → Value → Prop} {St : Nat → Heap → Prop} (W : Walks P w A.in1 I fp wr n Pv St) (bt : Nat → Nat → Bool) (cmp : CmpOf P w A.in1 .Lt Pv bt) (S : Addr) (off : S ∉ fp) (kw : List (Str × Value)) :
    ∀ (k j : Nat) (s : Shared) (vb : Value) (c : Nat), n - (j + 1) = k → j + 1 ≤ n → St (j + 1) s.heap → Pv (argBest bt j) vb → s.heap.get? S = some (seqObj "list" #[vb, vb] c) →
    (∀ v g tk, Pv (argBest bt (n - 1)) v → (∀ b o, b ∉ wr → b ≠ S → s.heap.get? b = some o → g.get? b = some o) → R (.ok (.ret v)) { s with heap := g, toks := tk }) →
    codeAny (model P w) A (.builtin "min.loop" ⟨[.ref I, .none, .ref S], kw⟩) R s := by
  have offw : S ∉ wr := fun h => off (W.sub _ h)
  have nm : (toString "min" ++ toString ".loop" : String) = "min.loop" := by decide
  intro k; induction k with
  | zero =>
    intro j s vb c hk hj st pb hS fin
    obtain rfl : j + 1 = n := by omega
    refine codeAny_builtin F.entry_min_loop ?_; rw [Around.under_plainId F.plain_min_loop _]
    refine (show wpAny _ A.in1 (seqItems? (.ref S) >>= _) _ _ s from wpAny_bind (wpAny_seqItems hS rfl ?_))
    refine (show wpAny _ A.in1 (tryCatch (pyNext (.ref I)) _ >>= _) _ _ s from wpAny_bind (wpAny_tryCatch (W.done s _ _ st fun g tk hg => ?_)))
    have hS2 := hg S _ offw hS
    refine (show wpAny _ A.in1 (updateSeq S (fun _ => #[]) >>= _) _ _ _ from wpAny_bind (wpAny_updateSeq hS2 rfl (wpAny_bind (wpAny_letGo (wpAny_pure ?_)))))
    exact fin vb _ tk (by simpa using pb) fun b o h1 h2 e => (Heap.get?_update_other _ _ (Ne.symm h2)).trans (hg b o h1 e)
  | succ k ih =>
    intro j s vb c hk hj st pb hS fin
    have lt : j + 1 < n := by omega
    refine codeAny_builtin F.entry_min_loop ?_; rw [Around.under_plainId F.plain_min_loop _]
    refine (show wpAny _ A.in1 (seqItems? (.ref S) >>= _) _ _ s from wpAny_bind (wpAny_seqItems hS rfl ?_))
    refine (show wpAny _ A.in1 (tryCatch (pyNext (.ref I)) _ >>= _) _ _ s from wpAny_bind (wpAny_tryCatch (W.item (j + 1) s _ _ lt st fun v g tk hP st2 hg => ?_)))
    have hS2 := hg S _ offw hS
    refine (show wpAny _ A.in1 (tryCatch (holding [v, v] (richCompare .Lt v vb >>= _)) _ >>= _) _ _ _ from wpAny_bind (wpAny_tryCatch (wpAny_holding (wpAny_bind (cmp (j + 1) (argBest bt j) v vb _ _ _ hP pb ?_)))))
    refine wpAny_bind (wpAny_holding (wpAny_truthy_bool (wpAny_bind (wpAny_letGo (wpAny_pure ?_)))))
    cases hb : bt (j + 1) (argBest bt j) with
    | true =>
      simp only [if_true]
      refine wpAny_bind (wpAny_updateSeq hS2 rfl (wpAny_bind (wpAny_letGo ?_))); rw [nm]
      refine wpAny_pure ⟨plainId_quiet F.plain_min_loop _, ih (j + 1) _ v _ (by omega) lt (W.frame _ _ _ st2 fun b hf o e => (Heap.get?_update_other _ _ (fun h : S = b => off (by rw [h]; exact hf))).trans e) (by simp only [argBest, hb, if_true]; exact hP) (Heap.get?_update_self _ hS2 rfl) fun v' g' tk' hP' hg' => ?_⟩
      exact fin v' g' tk' hP' fun b o h1 h2 e => hg' b o h1 h2 ((Heap.get?_update_other _ _ (Ne.symm h2)).trans (hg b o h1 e))
    | false =>
      simp only [Bool.false_eq_true, if_false]
      refine wpAny_bind (wpAny_letGo ?_); rw [nm]
      refine wpAny_pure ⟨plainId_quiet F.plain_min_loop _, ih (j + 1) _ vb c (by omega) lt st2 (by simp only [argBest, hb, Bool.false_eq_true, if_false]; exact pb) hS2 fun v' g' tk' hP' hg' => ?_⟩
      exact fin v' g' tk' hP' fun b o h1 h2 e => hg' b o h1 h2 (hg b o h1 e)
/-- min(xs, default=d) over a walk -/
theorem call_min_dflt {l : Addr} {its : Array Value} {d : Value} {Pv : Nat → Value → Prop} {bt : Nat → Nat → Bool} {Q : Value → Shared → Prop} (hh : A.handled = none) (hl : s.heap.IsList l its) (hp : ∀ i v, its[i]? = some v → Pv i v) (cmp : CmpOf P w A.in1 .Lt Pv bt)
    (none : its.size = 0 → ∀ g tk, (∀ b o, s.heap.get? b = some o → g.get? b = some o) → Q d { s with heap := g, toks := tk })
    (best : 0 < its.size → ∀ v g tk, its[argBest bt (its.size - 1)]? = some v → (∀ b o, s.heap.get? b = some o → g.get? b = some o) → Q v { s with heap := g, toks := tk }) :
    wpAny (model P w) A (call (.builtin "min") [.ref l] [(Str.ofString "default", d)]) Q E s := by
  have nm : (toString "min" ++ toString ".loop" : String) = "min.loop" := by decide
  have lt : l < s.heap.objs.size := by obtain ⟨_, e, _⟩ := hl; exact Heap.lt_size e
  refine kmk_tree PySem.F.kind_min PySem.F.plain_min PySem.F.entry_min (min_dflt_args _ _) ?_
  refine (show wpAny _ A.in1 (Builtin.Builtins.bindParams "min" ["key", "default"] 0 ⟨[], [(Str.ofString "default", d)]⟩ >>= _) _ _ s from ?_)
  refine wpAny_bind (wpAny_of_eq (show Builtin.Builtins.bindParams "min" ["key", "default"] 0 ⟨[], [(Str.ofString "default", d)]⟩ = pure [.none, some d] from rfl) (wpAny_bind (wpAny_pure ?_)))
  refine wpAny_bind (wpAny_pyIter_list hl (wpAny_bind (wpAny_newList ?_ (Nat.zero_le _)))); rw [nm]
  refine wpAny_pure ⟨plainId_quiet PySem.F.plain_min_loop _, ?_⟩
  have zI : (s.heap.push (itObj l)).objs.size = s.heap.objs.size + 1 := Heap.size_push ..
  have ne1 : l ≠ s.heap.objs.size := Nat.ne_of_lt lt
  have W := Walks.list (prog := P) (w := w) (A := A.in1) hh s.heap.objs.size l ne1 its
  have gI : ((s.heap.push (itObj l)).push (seqObj "list" #[] 0)).get? s.heap.objs.size = some (itObj l) := Heap.get?_push_of_some _ (Heap.get?_push_size _ rfl)
  have gS : ((s.heap.push (itObj l)).push (seqObj "list" #[] 0)).get? (s.heap.push (itObj l)).objs.size = some (seqObj "list" #[] 0) := Heap.get?_push_size _ rfl
  have off : (s.heap.push (itObj l)).objs.size ∉ [s.heap.objs.size, l] := by
    rw [zI]; simp only [List.mem_cons, List.not_mem_nil, or_false, not_or]; exact ⟨Nat.ne_of_gt (Nat.lt_succ_self _), Nat.ne_of_gt (Nat.lt_succ_of_lt lt)⟩
  have offw : (s.heap.push (itObj l)).objs.size ∉ [s.heap.objs.size] := fun h => off (W.sub _ h)
  have back : ∀ (g : Heap), (∀ b o, b ∉ [s.heap.objs.size] → b ≠ (s.heap.push (itObj l)).objs.size → ((s.heap.push (itObj l)).push (seqObj "list" #[] 0)).get? b = some o → g.get? b = some o) → ∀ b o, s.heap.get? b = some o → g.get? b = some o := fun g hg b o e => by
    have b0 := Heap.lt_size e
    refine hg b o ?_ ?_ (Heap.get?_push_of_some _ (Heap.get?_push_of_some _ e))
    · simp only [List.mem_cons, List.not_mem_nil, or_false]; exact Nat.ne_of_lt b0
    · rw [zI]; exact Nat.ne_of_lt (Nat.lt_succ_of_lt b0)
  refine codeAny_builtin PySem.F.entry_min_loop ?_; rw [Around.under_plainId PySem.F.plain_min_loop _]
  refine (show wpAny _ A.in1 (seqItems? (.ref _) >>= _) _ _ _ from wpAny_bind (wpAny_seqItems gS rfl ?_))
  have st0 : (fun i (h : Heap) => h.IsListIter s.heap.objs.size l i ∧ h.IsList l its) 0 ((s.heap.push (itObj l)).push (seqObj "list" #[] 0)) := ⟨⟨_, gI, rfl, rfl⟩, (hl.push _).push _⟩
  by_cases hz : its.size = 0
  · refine (show wpAny _ A.in1 (tryCatch (pyNext (.ref _)) _ >>= _) _ _ _ from wpAny_bind (wpAny_tryCatch (W.done _ _ _ (by rw [hz]; exact st0) fun g tk hg => ?_)))
    exact wpAny_bind (wpAny_rule (wpAny_pure (none hz g tk (back g fun b o h1 _ e => hg b o h1 e))))
  · have pos : 0 < its.size := Nat.pos_of_ne_zero hz
    refine (show wpAny _ A.in1 (tryCatch (pyNext (.ref _)) _ >>= _) _ _ _ from wpAny_bind (wpAny_tryCatch (W.item 0 _ _ _ pos st0 fun v g tk hP st2 hg => ?_)))
    have gS2 := hg _ _ offw gS
    refine (show wpAny _ A.in1 (updateSeq _ (fun _ => #[v, v]) >>= _) _ _ _ from wpAny_bind (wpAny_updateSeq gS2 rfl ?_)); rw [nm]
    refine wpAny_pure ⟨plainId_quiet PySem.F.plain_min_loop _, min_turns W bt (fun i j v u s' Q' E' h1 h2 hq => cmp i j v u s' Q' E' (hp _ _ h1) (hp _ _ h2) hq) _ off _ _ 0 _ v _ rfl pos (W.frame _ _ _ st2 fun b hf o e => (Heap.get?_update_other _ _ (fun h : _ = b => off (by rw [h]; exact hf))).trans e) hP (Heap.get?_update_self _ gS2 rfl) fun v' g' tk' hP' hg' => ?_⟩
    exact best pos v' g' tk' hP' (back g' fun b o h1 h2 e => hg' b o h1 h2 ((Heap.get?_update_other _ _ (Ne.symm h2)).trans (hg b o h1 e)))
/-- min(xs, default=d) of a list of whole numbers -/
def rmin_D (K : PySem.W.Frag) : List V → List V → Hp → VK → Prop := fun xs zs H Q => ∃ (a : Addr) (ns : List Int) (d : V), xs = [.ref a] ∧ zs = [d] ∧ SqL K H a (ns.map V.int) ∧ (ns = [] → Q d H) ∧ (∀ m, m ∈ ns → (∀ y, y ∈ ns → m ≤ y) → Q (.int m) H)
theorem cr_min_D {X : Cx} (hc : X.calm = true) : CallRK X (.builtin "min") [Str.ofString "default"] (rmin_D X.K) := by
  intro pins s σ H xs zs us ws Q I r rz h
  obtain ⟨a, ns, d, rfl, rfl, hs, h0, hm⟩ := h
  obtain ⟨its, rv, hl, _⟩ := I.list hs
  rw [Vals.ref1 r]
  obtain ⟨u, rfl, ru⟩ := rz.one
  have hi := rv.ints
  have hlen : its.toArray.size = ns.length := by rw [List.size_toArray]; have := IntsAre.length hi; omega
  have at_ : ∀ (i : Nat) (v : Value), its.toArray[i]? = some v → ∃ t, v = .int (ns.getD i 0) t := fun i v hv => IntsAre.int_at hi i v (by simpa using hv)
  refine call_min_dflt (P := X.prog) (w := X.w) (I.ok.hd hc) hl.isList (fun i v hv => at_ i v hv) (CmpOf.ints_lt (fun i => ns.getD i 0) (fun _ _ h => h)) (fun hz g tk hk => ?_) (fun hz v g tk hv hk => ?_)
  · exact ⟨d, H, I.kept hk, ru, h0 (List.length_eq_zero_iff.mp (hlen.symm.trans hz))⟩
  · obtain ⟨t, rfl⟩ := at_ _ _ hv
    obtain ⟨g1, g2⟩ := argBest_lt (fun i => ns.getD i 0) (its.toArray.size - 1)
    refine ⟨.int _, H, I.kept hk, ⟨t, rfl⟩, hm _ (getD_mem (by omega)) fun y hy => ?_⟩
    obtain ⟨j, hj, rfl⟩ := mem_getD hy
    exact g2 j (by omega)
end
end DV

namespace DV
open PySem L2
/-! ### stores into what a name holds -/
/-- what a store promises -/
def InsS (g : Cfg) (k : D → D → D → Option D) (t : TSet) : Prop :=
  ∀ (G : Fp) (H : Hp) (d kd vd : D) (v kv vv : V) (F Fk Fv : Fp) (d' : D) (Q : Hp → Prop), Rep g G H d v F → Ok G H F → Rep g G H kd kv Fk → Rep g G H vd vv Fv → Ok G H Fv → Dj F Fv → k d kd vd = some d' →
    (∀ H' F', (∀ a o, H a = some o → ¬ F a → H' a = some o) → Rep g G H' d' v F' → Ok G H' F' → (∀ a, F' a → F a ∨ Fv a) → Q H') → t v kv vv H Q
def kSet : D → D → D → Option D
  | .lst true ds, .int z, x => match ixN ds.length z with
    | some j => some (.lst true (ds.set j x))
    | none => none
  | _, _, _ => none
/-- x[ie] = ve -/
def sSto (k : D → D → D → Option D) (i : Nat) (fv fi : Ev) : Sv := fun δ => (fv δ).thn fun v δ1 => match gt δ1 i with
  | some _ => (fi δ1).thn fun kd δ2 => match gt δ2 i with
    | some d => match k d kd v with
      | some d' => .nx (st δ2 i (some d'))
      | none => .bad
    | none => .bad
  | none => .bad
section
variable {g : Cfg} {W : WX} {a : As} {G G' G1 G2 : Fp} {H H' H1 H2 : Hp} {σ : St} {δ δ' δ1 : Env} {F F' F1 : Nat → Fp} {Q : VK} {K : PySem.W.Frag} {DE : Ends}
/-- a slot's thing changed, by a statement -/
theorem chgS_run {i : Nat} {v : V} {d' : D} {Fv F' : Fp} (P : PostS g W a G H F σ (.nx (st δ1 i (some d'))) DE) (S1 : StR g G1 H1 σ δ1 F1) (hv : σ[i]? = some (some v)) (ok1 : Ok G1 H1 Fv) (dj1 : Dj Fv (U F1)) (E1 : Ext G H (U F) G1 H1 (Un2 (U F1) Fv))
    (kp : ∀ a o, H1 a = some o → ¬ F1 i a → H' a = some o) (r' : Rep g G1 H' d' v F') (o' : Ok G1 H' F') (nw : ∀ a, F' a → F1 i a ∨ Fv a ∨ H1 a = none) : DE.nx σ H' :=
  chg_run (Q := fun _ H' => DE.nx σ H') (w := .non) (res := .non) (Fw := Fe) (W := W) (P := fun H2 G2 F2 S2 v Fv r o dj E => P σ H2 G2 F2 S2 .refl (E.weak (Le.refl _) Le.inl)) S1 hv ok1 dj1 E1 kp r' rfl o' (fun _ z => z.elim) (fun _ _ z => z) fun a h => nw a (h.elim id fun z => z.elim)
theorem insS_list : InsS g kSet rSetL := by
  intro G H d kd vd v kv vv F Fk Fv d' Q r o rk rv ov dj e fin
  match d, kd, e, r, rk with
  | .lst true ds, .int z, e, r, rk =>
    simp only [kSet] at e
    cases ej : ixN ds.length z with
    | none => rw [ej] at e; cases e
    | some j =>
      rw [ej] at e
      cases e
      cases (show kv = _ from rk)
      obtain ⟨p, us, F', rfl, hp, Fa, n, rr⟩ := lst_own r
      obtain ⟨Fi, l, rs⟩ := set_reps rr rv (fun a x y => dj a (n a x).1 y) j
      have okF : ∀ c, Fi c → Ok G H Fi := fun _ _ c z => (l c z).elim (fun z => o c (n c z).1) (ov c)
      obtain ⟨k1, k2, k3⟩ := lst_chg (g := g) (Fi := Fi) hp Fa o (fun b h => ⟨(l b h).elim (fun h => (n b h).2) (fun h e => dj b (by rw [e]; exact Fa) h), okF b h⟩) rs
      exact ⟨p, us, z, j, rfl, rfl, hp, by rw [rr.length]; exact ej, fin _ _ k1 k2 k3 fun b h => h.elim (fun h => (l b h).elim (fun h => .inl (n b h).1) .inr) fun h => .inl (by rw [h]; exact Fa)⟩
where
  set_reps {G : Fp} {H : Hp} : ∀ {ds : List D} {vs : List V} {A B : Fp} {x : D} {v : V}, Reps g G H ds vs A → Rep g G H x v B → Dj A B → ∀ j : Nat, ∃ Fi, Le Fi (Un2 A B) ∧ Reps g G H (ds.set j x) (vs.set j v) Fi
    | [], vs, A, B, x, v, r, rx, dj, j => ⟨Fe, fun _ z => z.elim, by rw [show vs = [] from r]; rfl⟩
    | d :: ds, _, A, B, x, v, ⟨w, wr, A1, A2, e, l1, l2, dj0, r, rs⟩, rx, dj, 0 => by
      subst e
      exact ⟨Un2 A B, Le.refl _, v, wr, B, A2, rfl, Le.inr, fun a h => .inl (l2 a h), fun a x y => dj a (l2 a y) x, rx, rs⟩
    | d :: ds, _, A, B, x, v, ⟨w, wr, A1, A2, e, l1, l2, dj0, r, rs⟩, rx, dj, j + 1 => by
      subst e
      obtain ⟨Fi, l, rs'⟩ := set_reps rs rx (dj.le l2 (Le.refl _)) j
      exact ⟨Un2 A B, Le.refl _, w, _, A1, Fi, rfl, fun a h => .inl (l1 a h), fun a h => (l a h).elim (fun h => .inl (l2 a h)) .inr, fun a x y => (l a y).elim (dj0 a x) fun y => dj a (l1 a x) y, r, rs'⟩
theorem sto_run {k : D → D → D → Option D} {t : TSet} {i : Nat} {fv fi : Ev} (hk : InsS g k t) (S : StR g G H σ δ F) (P : PostS g W a G H F σ (sSto k i fv fi δ) DE) : tAsg (tE g W fv) (gSub (tVar i) (tE g W fi) t) DE σ H := by
  refine tE_of S (PostG.mono (PostS.bind P) fun vd δ1 H1 G1 F1 S1 P1 vv Fv rv ov dj E => ?_)
  show tVar i σ H1 _
  cases e : gt δ1 i with
  | none => simp only [e] at P1; exact False.elim P1
  | some d0 =>
    simp only [e] at P1
    obtain ⟨v, ev, r0⟩ := S1.at_ i d0 e
    refine ⟨v, ev, tE_of S1 (PostG.on (PostG.mono (PostS.bind P1) fun kd δ2 H2 G2 F2 S2 P2 kv Fk rk ok2 dj2 E2 => ?_) E Le.inl)⟩
    have okF1 : Ok G1 H1 (U F1) := S1.okU
    cases e2 : gt δ2 i with
    | none => simp only [e2] at P2; exact False.elim P2
    | some d =>
      simp only [e2] at P2
      obtain ⟨v', ev', r⟩ := S2.at_ i d e2
      rw [ev] at ev'
      cases ev'
      cases e3 : k d kd vd with
      | none => simp only [e3] at P2; exact False.elim P2
      | some d' =>
        simp only [e3] at P2
        have rv2 := E2.rep okF1 rv dj
        have ov2 := E2.ok ov dj
        have dv2 := E2.dj ov dj
        have E3 : Ext G H (U F) G2 H2 (Un2 (U F2) Fv) := (E.trans (U1' := Un2 (U F1) Fv) (E2.frame (Fh := Fv)) (Le.refl _)).weak (Le.refl _) fun a h => h.elim (fun h => .inl (.inl h)) .inr
        exact hk G2 H2 d kd vd v kv vv (F2 i) Fk Fv d' _ r (S2.ok i) rk rv2 ov2 (fun a x y => dv2 a y (.inl ⟨i, x⟩)) e3 fun H' F' kp r' o' nw => chgS_run P2 S2 ev ov2 (dv2.le (Le.refl _) Le.inl) E3 kp r' o' fun a h => (nw a h).elim .inl fun h => .inr (.inl h)
end
section
variable {X : Cx} {g : Cfg} {W : WX}
theorem ss_sto {k : D → D → D → Option D} {t : TSet} {i : Nat} {o ie e : Expr} {fv fi : Ev} {spos pos : Pos} (ht : PSet X t) (hk : InsS g k t) (ho : PE X o (tVar i)) (hi : SE X g W ie fi) (he : SE X g W e fv)
    (hs : swapsWithSole [.Subscript o ie spos] e pos.line X.env = pure false := by rfl) (hw : swappedStores [.Subscript o ie spos] e X.env = pure none := by rfl) (h1 : (assignEach [.Subscript o ie spos] X.env).map (·.2) = [assign (.Subscript o ie spos) X.env] := by rfl)
    (ha : ∀ v, assign (.Subscript o ie spos) X.env v = (do
      let ov ← holding [v] (eval o X.env)
      let iv ← holding [v, ov] (eval ie X.env)
      standAt spos
      holding [v, ov, iv] (setItem ov iv v)
      release [v, ov, iv] []) := by intro _; rfl) : SS X g W a0 (.Assign [.Subscript o ie spos] e pos) (sSto k i fv fi) :=
  PS.imp (ps_asg he (pg_sub ho hi ht ha) hs hw h1) fun D σ H ⟨G, δ, F, S, P⟩ => sto_run hk S P
end
/-! ### op= on numbers -/
def InsA (ka : Int → Int → Option Int) (ti : TIp) : Prop := ∀ n m r H Q, ka n m = some r → Q (.int r) H → ti (.int n) (.int m) H Q
def aAdd : Int → Int → Option Int := fun n m => some (n + m)
def aSub : Int → Int → Option Int := fun n m => some (n - m)
theorem insA_add : InsA aAdd (ipI fun i j => i + j) := fun n m r H Q e q => by cases e; exact ⟨n, m, rfl, rfl, q⟩
theorem insA_sub : InsA aSub (ipI fun i j => i - j) := fun n m r H Q e q => by cases e; exact ⟨n, m, rfl, rfl, q⟩
def sAug (ka : Int → Int → Option Int) (i : Nat) (f : Ev) : Sv := fun δ => match gt δ i with
  | some (.int n) => (f δ).thn fun d δ1 => match d with
    | .int m => match ka n m with
      | some r => .nx (st δ1 i (some (.int r)))
      | none => .bad
    | _ => .bad
  | _ => .bad
/-- x[ie] op= e, a list of numbers -/
def sAugI (ka : Int → Int → Option Int) (i : Nat) (fi fe : Ev) : Sv := fun δ => match gt δ i with
  | some _ => (fi δ).thn fun kd δ1 => match gt δ1 i with
    | some (.lst _ ds) => match kd with
      | .int z => match atI ds z with
        | some (.int n) => (fe δ1).thn fun d δ2 => match d with
          | .int m => match ka n m with
            | some r => match gt δ2 i with
              | some d2 => match kSet d2 (.int z) (.int r) with
                | some d' => .nx (st δ2 i (some d'))
                | none => .bad
              | none => .bad
            | none => .bad
          | _ => .bad
        | _ => .bad
      | _ => .bad
    | _ => .bad
  | none => .bad
section
variable {X : Cx} {g : Cfg} {W : WX}
theorem ss_aug {ka : Int → Int → Option Int} {ti : TIp} {i : Nat} {x : Str} {e : Expr} {f : Ev} {op : Operator} {pos pos' : Pos} (hk : InsA ka ti) (hN : X.N.Nodup) (hi : X.N[i]? = some x) (hx : Loc X.env.scope x) (he : SE X g W e f) (ho : PIp X op ti) (hf : X.fn x = true ∨ X.env.scope.names.lookup x = some .local := by first | exact .inl rfl | exact .inr rfl | assumption) :
    SS X g W (a1 i) (.AugAssign (.Name x pos') op e pos) (sAug ka i f) := PS.imp (ps_aug hN hi hx he ho hf) fun D σ H ⟨G, δ, F, S, P⟩ => by
  cases e0 : gt δ i with
  | none => simp only [sAug, e0] at P; exact False.elim P
  | some d0 =>
    cases d0 with
    | int n =>
      simp only [sAug, e0] at P
      obtain ⟨v, ev, r⟩ := S.at_ i _ e0
      cases (show v = _ from r)
      refine ⟨.int n, ev, tE_of S (PostG.mono (PostS.bind P) fun d δ1 H1 G1 F1 S1 P1 w Fv rw' ok dj E => ?_)⟩
      cases d with
      | int m =>
        cases (show w = _ from rw')
        simp only at P1
        cases e1 : ka n m with
        | none => simp only [e1] at P1; exact False.elim P1
        | some r =>
          simp only [e1] at P1
          exact hk n m r H1 _ e1 (P1 _ H1 G1 _ (S1.set (d := .int r) (Fv := Fe) rfl (fun _ z => z.elim) (fun _ z => z.elim)) .set (E.weak (Le.refl _) fun a h => (U_Fst a h).elim .inl fun z => z.elim))
      | _ => exact False.elim P1
    | _ => simp only [sAug, e0] at P; exact False.elim P
def rGetL (K : PySem.W.Frag) : V → V → Hp → VK → Prop := rIxL K
theorem get_list : PGet X (rGetL X.K) := by
  intro pins s σ H x y v u Q I rx ry h
  obtain ⟨p, xs, i, z, rfl, rfl, hq, he, q⟩ := h
  cases rx
  obtain ⟨t, rfl⟩ := ry
  obtain ⟨its, r, pl, hz⟩ := I.list hq
  obtain ⟨j, h1, h2, h3, h4, h5⟩ := atI_get he
  obtain ⟨w, ew, rw'⟩ := r.get h2
  have hl := r.length
  have hn := line63
  have fin : EP X pins σ Q w s := ⟨z, H, I, rw', q⟩
  by_cases h0 : 0 ≤ i
  · have hj : i.toNat = j := by
      rw [seqIndex_of h0 h5] at h1
      exact Option.some.inj h1
    exact wpAny_getItem_list pl.isList h0 (by omega) (by rw [hj]; simpa using ew) fin
  · have hj : (i + (its.toArray.size : Int)).toNat = j := by
      rw [seqIndex_neg (by omega) h4] at h1
      rw [List.size_toArray, ← hl]
      exact Option.some.inj h1
    exact wpAny_getItem_list_neg pl.isList (by omega) (by rw [List.size_toArray] <;> omega) (by omega) (by rw [hj]; simpa using ew) fin
end
section
variable {g : Cfg} {W : WX} {a : As} {G G' G1 G2 : Fp} {H H' H1 H2 : Hp} {σ : St} {δ δ' δ1 : Env} {F F' F1 : Nat → Fp} {Q : VK} {K : PySem.W.Frag} {DE : Ends}
theorem augI_run {ka : Int → Int → Option Int} {ti : TIp} {i : Nat} {fi fe : Ev} (hK : K = g.K) (hk : InsA ka ti) (S : StR g G H σ δ F) (P : PostS g W a0 G H F σ (sAugI ka i fi fe δ) DE) : tAugS (tVar i) (tE g W fi) (tE g W fe) (rGetL K) ti rSetL DE σ H := by
  show tVar i σ H _
  cases e : gt δ i with
  | none => simp only [sAugI, e] at P; exact False.elim P
  | some d0 =>
    simp only [sAugI, e] at P
    obtain ⟨v, ev, r0⟩ := S.at_ i d0 e
    refine ⟨v, ev, tE_of S (PostG.mono (PostS.bind P) fun kd δ1 H1 G1 F1 S1 P1 kv Fk rk okk djk E1 => ?_)⟩
    cases e1 : gt δ1 i with
    | none => simp only [e1] at P1; exact False.elim P1
    | some d1 =>
      cases d1 with
      | lst o ds =>
        cases kd with
        | int z =>
          simp only [e1] at P1
          cases e2 : atI ds z with
          | none => simp only [e2] at P1; exact False.elim P1
          | some d2 =>
            cases d2 with
            | int n =>
              simp only [e2] at P1
              obtain ⟨v', ev', r1⟩ := S1.at_ i _ e1
              rw [ev] at ev'
              cases ev'
              cases (show kv = _ from rk)
              obtain ⟨p, us, rfl, hp, rs⟩ := lst_tr r1
              obtain ⟨u, B, h1, l, rd⟩ := reps_at rs e2
              cases (show u = _ from rd)
              have E1' : Ext G H (U F) G1 H1 (U F1) := E1.weak (Le.refl _) Le.inl
              refine ⟨p, us, z, .int n, rfl, rfl, .inl (.inl hp), h1, tE_of S1 (PostG.on (F1 := F1) (PostG.mono (PostS.bind P1) fun md δ2 H2 G2 F2 S2 P2 w Fv rw' ok dj E2 => ?_) E1' (Le.refl _))⟩
              cases md with
              | int m =>
                cases (show w = _ from rw')
                simp only at P2
                cases e3 : ka n m with
                | none => simp only [e3] at P2; exact False.elim P2
                | some r =>
                  simp only [e3] at P2
                  cases e4 : gt δ2 i with
                  | none => simp only [e4] at P2; exact False.elim P2
                  | some d4 =>
                    simp only [e4] at P2
                    cases e5 : kSet d4 (.int z) (.int r) with
                    | none => simp only [e5] at P2; exact False.elim P2
                    | some d' =>
                      simp only [e5] at P2
                      obtain ⟨v', ev', r4⟩ := S2.at_ i _ e4
                      rw [ev] at ev'
                      cases ev'
                      refine hk n m r H2 _ e3 ?_
                      have E3 : Ext G H (U F) G2 H2 (Un2 (U F2) Fe) := (E1'.trans E2 (Le.refl _)).weak (Le.refl _) fun a h => h.elim .inl fun z => z.elim
                      exact insS_list G2 H2 d4 (.int z) (.int r) (.ref p) (.int z) (.int r) (F2 i) Fe Fe d' _ r4 (S2.ok i) rfl rfl (fun _ z => z.elim) (fun _ _ z => z) e5 fun H' F' kp r' o' nw => chgS_run P2 S2 ev (fun _ z => z.elim) (fun _ z => z.elim) E3 kp r' o' fun a h => (nw a h).elim .inl fun z => z.elim
              | _ => exact False.elim P2
            | _ => simp only [e2] at P1; exact False.elim P1
        | _ => simp only [e1] at P1; exact False.elim P1
      | _ => simp only [e1] at P1; exact False.elim P1
end
theorem ss_augI {X : Cx} {g : Cfg} {W : WX} {ka : Int → Int → Option Int} {ti : TIp} {i : Nat} {o ie e : Expr} {fi fe : Ev} {op : Operator} {tpos pos : Pos} (hK : X.K = g.K) (hk : InsA ka ti) (ho : PE X o (tVar i)) (hi : SE X g W ie fi) (he : SE X g W e fe) (hp : PIp X op ti)
    (ha : ∀ ov iv new, augStore ie ov iv new = (do holding [new, ov, iv] (setItem ov iv new); release [new, ov, iv] []; pure .next) := by intros; rfl) : SS X g W a0 (.AugAssign (.Subscript o ie tpos) op e pos) (sAugI ka i fi fe) :=
  PS.imp (ps_augS ho hi get_list he hp set_list ha) fun D σ H ⟨G, δ, F, S, P⟩ => augI_run hK hk S P
/-! ### things within things -/
/-- all that matters to what lies in Fo stands -/
structure Kp (g : Cfg) (G : Fp) (H : Hp) (G' : Fp) (H' : Hp) (Fo : Fp) : Prop where
  addr : ∀ a o, H a = some o → Fo a → H' a = some o
  gm : Le G G'
  sh : ∀ a o, H a = some o → G a → H' a = some o
  tup : ∀ a vs, SqT g.K H a vs → SqT g.K H' a vs
  rep : ∀ (ds : List D) vs A, Reps g G H ds vs A → Le A Fo → Reps g G' H' ds vs A
structure Foc (g : Cfg) (G : Fp) (H : Hp) (e : D) (w : V) (up : D → D) (v : V) (F Fi Fo : Fp) : Prop where
  li : Le Fi F
  lo : Le Fo F
  dj : Dj Fi Fo
  rep : Rep g G H e w Fi
  back : ∀ G' H' e' Fi', Kp g G H G' H' Fo → Rep g G' H' e' w Fi' → Dj Fi' Fo → Rep g G' H' (up e') v (Un2 Fi' Fo)
section
variable {g : Cfg} {G G' G1 G2 : Fp} {H H' H1 H2 : Hp}
theorem Kp.le {Fo Fo' : Fp} (k : Kp g G H G' H' Fo) (l : Le Fo' Fo) : Kp g G H G' H' Fo' := ⟨fun a o e h => k.addr a o e (l a h), k.gm, k.sh, k.tup, fun ds vs A r h => k.rep ds vs A r (h.trans l)⟩
theorem Kp.trans {Fo : Fp} (k : Kp g G H G1 H1 Fo) (k' : Kp g G1 H1 G2 H2 Fo) : Kp g G H G2 H2 Fo := ⟨fun a o e h => k'.addr a o (k.addr a o e h) h, k.gm.trans k'.gm, fun a o e h => k'.sh a o (k.sh a o e h) (k.gm a h), fun a vs h => k'.tup a vs (k.tup a vs h), fun ds vs A r h => k'.rep ds vs A (k.rep ds vs A r h) h⟩
theorem Kp.of {U0 Fo : Fp} (kp : ∀ a o, H a = some o → ¬ U0 a → H' a = some o) (ok : Ok G H U0) (gm : Le G G') (dj : Dj Fo U0) : Kp g G H G' H' Fo := ⟨fun a o e h => kp a o e (dj a h), gm, fun a o e h => kp a o e fun z => (ok a z).2 h, fun a vs h => sqT_keep h kp ok, fun ds vs A r l => r.keep kp ok gm (dj.le l (Le.refl _))⟩
theorem Ext.kp {U0 U1 Fo : Fp} (E : Ext G H U0 G' H' U1) (ok : Ok G H U0) (dj : Dj Fo U0) : Kp g G H G' H' Fo := .of E.keep ok E.gm dj
theorem foc_nil {d : D} {v : V} {F : Fp} (r : Rep g G H d v F) : Foc g G H d v id v F F Fe := ⟨Le.refl _, fun _ z => z.elim, fun _ _ z => z, r, fun G' H' e' Fi' k r dj => r.le Le.inl⟩
theorem Foc.kp {e : D} {w v : V} {up : D → D} {F Fi Fo : Fp} (f : Foc g G H e w up v F Fi Fo) (k : Kp g G H G' H' F) (r : Rep g G' H' e w Fi) : Foc g G' H' e w up v F Fi Fo := ⟨f.li, f.lo, f.dj, r, fun G2 H2 e' Fi' k2 r2 dj => f.back G2 H2 e' Fi' ((k.le f.lo).trans k2) r2 dj⟩
/-- one of some things -/
theorem foc_reps : ∀ {ds : List D} {vs : List V} {F : Fp} {j : Nat} {e : D}, Reps g G H ds vs F → ds[j]? = some e → ∃ w Fi Fo, vs[j]? = some w ∧ Le Fi F ∧ Le Fo F ∧ Dj Fi Fo ∧ Rep g G H e w Fi ∧
    ∀ G' H' e' Fi', Kp g G H G' H' Fo → Rep g G' H' e' w Fi' → Dj Fi' Fo → Reps g G' H' (ds.set j e') vs (Un2 Fi' Fo)
  | [], _, _, _, _, _, h => by simp at h
  | d :: ds, _, F, 0, e, ⟨v, vr, A, B, e1, l1, l2, dj, r, rs⟩, h => by
    subst e1
    simp at h
    subst h
    exact ⟨v, A, B, rfl, l1, l2, dj, r, fun G' H' e' Fi' k r' dj' => ⟨v, vr, Fi', B, rfl, Le.inl, Le.inr, dj', r', k.rep _ _ _ rs (Le.refl _)⟩⟩
  | d :: ds, _, F, j + 1, e, ⟨v, vr, A, B, e1, l1, l2, dj, r, rs⟩, h => by
    subst e1
    obtain ⟨w, Fi, Fo, h1, m1, m2, dj2, r2, back⟩ := foc_reps rs (j := j) (by simpa using h)
    refine ⟨w, Fi, Un2 A Fo, by simpa using h1, m1.trans l2, fun a h => h.elim (l1 a) fun h => l2 a (m2 a h), fun a x y => y.elim (fun y => dj a y (m1 a x)) (dj2 a x), r2, fun G' H' e' Fi' k r' dj' => ?_⟩
    have rA : Rep g G' H' d v A := by
      obtain ⟨_, _, A1, _, e2, l3, _, _, r3, _⟩ := k.rep [d] [v] A ⟨v, [], A, Fe, rfl, Le.refl _, fun _ z => z.elim, fun _ _ z => z, r, rfl⟩ Le.inl
      cases e2
      exact r3.le l3
    exact ⟨v, vr, A, Un2 Fi' Fo, rfl, fun a h => .inr (.inl h), fun a h => h.elim .inl fun h => .inr (.inr h), fun a x y => y.elim (fun y => dj' a y (.inl x)) (fun y => dj a x (m2 a y)), rA, back G' H' e' Fi' (k.le Le.inr) r' (dj'.le (Le.refl _) Le.inr)⟩
/-- one step in -/
def stepI : D → D → Option (D × (D → D))
  | .lst true ds, .int z => match ixN ds.length z with
    | some j => match ds[j]? with
      | some e => some (e, fun x => .lst true (ds.set j x))
      | none => none
    | none => none
  | .tup ds, .int z => match ixN ds.length z with
    | some j => match ds[j]? with
      | some e => some (e, fun x => .tup (ds.set j x))
      | none => none
    | none => none
  | _, _ => none
theorem foc_step {d e : D} {z : Int} {u : D → D} {v : V} {F : Fp} {M : VK} (hK : K = g.K) (o : Ok G H F) (r : Rep g G H d v F) (h : stepI d (.int z) = some (e, u)) (q : ∀ w Fi Fo, Foc g G H e w u v F Fi Fo → M w H) : rIx K v (.int z) H M := by
  cases d with
  | lst o1 ds =>
    cases o1 with
    | false => simp [stepI] at h
    | true =>
      simp only [stepI] at h
      cases h1 : ixN ds.length z with
      | none => rw [h1] at h; cases h
      | some j =>
        cases h2 : ds[j]? with
        | none => rw [h1] at h; simp only [h2] at h; cases h
        | some e0 =>
          rw [h1] at h
          simp only [h2] at h
          cases h
          obtain ⟨a, vs, F', rfl, q1, n, rs⟩ := r
          obtain ⟨w, Fi, Fo, h3, m1, m2, dj, rw', back⟩ := foc_reps rs h2
          refine .inl ⟨a, vs, z, w, rfl, rfl, .inl (.inl q1.1), ?_, ?_⟩
          · unfold atI; rw [rs.length, h1]; exact h3
          · refine q w Fi (fun b => Fo b ∨ b = a) ⟨fun b hb => (n b (m1 b hb)).1, fun b hb => hb.elim (fun hb => (n b (m2 b hb)).1) fun hb => by rw [hb]; exact q1.2, fun b x y => y.elim (dj b x) fun y => (n b (m1 b x)).2 y, rw', fun G' H' e' Fi' k r' dj' => ?_⟩
            exact ⟨a, vs, Un2 Fi' Fo, rfl, ⟨k.addr a _ q1.1 (.inr rfl), .inr (.inr rfl)⟩, fun b hb => ⟨hb.elim .inl fun h => .inr (.inl h), fun e => hb.elim (fun h => dj' b h (.inr e)) fun h => (n b (m2 b h)).2 e⟩, back G' H' e' Fi' (k.le fun _ h => .inl h) r' (dj'.le (Le.refl _) fun _ h => .inl h)⟩
  | tup ds =>
    simp only [stepI] at h
    cases h1 : ixN ds.length z with
    | none => rw [h1] at h; cases h
    | some j =>
      cases h2 : ds[j]? with
      | none => rw [h1] at h; simp only [h2] at h; cases h
      | some e0 =>
        rw [h1] at h
        simp only [h2] at h
        cases h
        obtain ⟨a, vs, rfl, q1, rs⟩ := r
        obtain ⟨w, Fi, Fo, h3, m1, m2, dj, rw', back⟩ := foc_reps rs h2
        refine .inr (.inl ⟨a, vs, z, w, rfl, rfl, by rw [hK]; exact q1, ?_, ?_⟩)
        · unfold atI; rw [rs.length, h1]; exact h3
        · exact q w Fi Fo ⟨m1, m2, dj, rw', fun G' H' e' Fi' k r' dj' => ⟨a, vs, rfl, k.tup a vs q1, back G' H' e' Fi' k r' dj'⟩⟩
  | _ => simp [stepI] at h
end
/-! places -/
inductive Pl where
  | nm (i : Nat) | ix (p : Pl) (f : Ev)
structure Lc where
  i : Nat
  d : D
  up : D → D
def evPl : Pl → Env → R Lc
  | .nm i, δ => match gt δ i with
    | some d => .ok ⟨i, d, id⟩ (st δ i none)
    | none => .bad
  | .ix p f, δ => (evPl p δ).bind fun l δ1 => (f δ1).bind fun k δ2 => match k with
    | .int z => match stepI l.d (.int z) with
      | some (e, u) => .ok ⟨l.i, e, fun x => l.up (u x)⟩ δ2
      | none => .bad
    | _ => .bad
def tPl (g : Cfg) (W : WX) (p : Pl) : TE := fun σ H M => ∃ G δ F, StR g G H σ δ F ∧ PostG g W G H F σ (evPl p δ) fun l δ' H' G' F' => ∀ w v A Fi Fo, σ[l.i]? = some (some v) → Ok G' H' A → Dj A (U F') → Foc g G' H' l.d w l.up v A Fi Fo → Ext G H (U F) G' H' (Un2 (U F') A) → M w H'
def eMutP (T : String) (k : D → List D → Option (D × D)) (p : Pl) (fs : List Ev) : Ev := fun δ => (evPl p δ).bind fun l δ1 => if tyM l.d = some T then (evL fs δ1).bind fun ds δ2 => match k l.d ds with
      | some (res, d') => .ok res (st δ2 l.i (some (l.up d')))
      | none => .bad
    else .bad
section
variable {g : Cfg} {W : WX} {a : As} {G G' G1 G2 : Fp} {H H' H1 H2 : Hp} {σ : St} {δ δ' δ1 : Env} {F F' F1 : Nat → Fp} {Q : VK} {K : PySem.W.Frag} {DE : Ends}
theorem plnm_run {i : Nat} {M : VK} (h : tPl g W (.nm i) σ H M) : tVar i σ H M := by
  obtain ⟨G, δ, F, S, P⟩ := h
  cases e : gt δ i with
  | none => simp only [evPl, e] at P; exact False.elim P
  | some d =>
    simp only [evPl, e] at P
    obtain ⟨v, ev, r⟩ := S.at_ i d e
    refine ⟨v, ev, P H G _ (S.out i) v v (F i) (F i) Fe ev (S.ok i) (out_dj S i) (foc_nil r) (.refl fun a h => ?_)⟩
    rcases h with h | h
    · exact (U_Fst a h).elim id fun z => z.elim
    · exact ⟨i, h⟩
theorem Foc.comp {d e : D} {w w2 v : V} {up u : D → D} {A Fi Fo Fi2 Fo2 : Fp} (f : Foc g G H d w up v A Fi Fo) (f2 : Foc g G H e w2 u w Fi Fi2 Fo2) : Foc g G H e w2 (fun x => up (u x)) v A Fi2 (Un2 Fo2 Fo) where
  li := f2.li.trans f.li
  lo := fun a h => h.elim (fun h => f.li a (f2.lo a h)) (f.lo a)
  dj := fun a x y => y.elim (f2.dj a x) fun y => f.dj a (f2.li a x) y
  rep := f2.rep
  back := fun G' H' e' Fi' k r' dj' => (f.back G' H' (u e') (Un2 Fi' Fo2) (k.le Le.inr) (f2.back G' H' e' Fi' (k.le Le.inl) r' (dj'.le (Le.refl _) Le.inl)) fun a x y => x.elim (fun x => dj' a x (.inr y)) fun x => f.dj a (f2.lo a x) y).le fun a h => by
    rcases h with (h | h) | h
    · exact .inl h
    · exact .inr (.inl h)
    · exact .inr (.inr h)
theorem plix_run {p : Pl} {f : Ev} {M : VK} (hK : K = g.K) (h : tPl g W (.ix p f) σ H M) : tOp (rIx K) (tPl g W p) (tE g W f) σ H M := by
  obtain ⟨G, δ, F, S, P⟩ := h
  refine ⟨G, δ, F, S, PostG.mono (PostG.bind P) fun l δ1 H1 G1 F1 S1 P1 w v A Fi Fo ev ok dj foc E => tE_of S1 (PostG.on (PostG.mono (PostG.bind P1) fun kd δ2 H2 G2 F2 S2 P2 kv Fk rk okk djk E2 => ?_) E Le.inl)⟩
  have okF1 : Ok G1 H1 (U F1) := S1.okU
  cases kd with
  | int z =>
    cases (show kv = _ from rk)
    simp only at P2
    cases es : stepI l.d (.int z) with
    | none => simp only [es] at P2; exact False.elim P2
    | some eu =>
      obtain ⟨e, u⟩ := eu
      simp only [es] at P2
      have foc2 := foc.kp (E2.kp okF1 dj) (E2.rep okF1 foc.rep (dj.le foc.li (Le.refl _)))
      have okA := E2.ok ok dj
      have djA := (E2.dj ok dj).le (Le.refl _) (Le.inl (B := Fk))
      refine foc_step hK (fun a h => okA a (foc.li a h)) foc2.rep es fun w2 Fi2 Fo2 f2 => P2 H2 G2 F2 S2 w2 v A Fi2 _ ev okA djA (foc2.comp f2) ?_
      exact (E.trans (U1' := Un2 (U F1) A) (E2.frame (Fh := A)) (Le.refl _)).weak (Le.refl _) fun a h => h.elim (fun h => .inl (.inl h)) .inr
  | _ => exact False.elim P2
theorem mutP_run {T : String} {k : D → List D → Option (D × D)} {r : V → List V → Hp → VK → Prop} {p : Pl} {fs : List Ev} (hK : K = g.K) (hk : InsM g k r) (S : StR g G H σ δ F) (P : Post g W G H F σ (eMutP T k p fs δ) Q) :
    tPl g W p σ H fun x H1 => tyV K T x H1 ∧ tEs g W fs σ H1 fun xs H2 => r x xs H2 Q := by
  refine ⟨G, δ, F, S, PostG.mono (PostG.bind P) fun l δ1 H1 G1 F1 S1 P1 w v A Fi Fo ev ok dj foc E => ?_⟩
  split at P1
  · rename_i ht
    refine ⟨tyV_of hK foc.rep ht, evs_run S1 (PostG.on (PostG.mono (PostG.bind P1) fun ds δ2 H2 G2 F2 S2 P2 vs Fv rs ok2 dj2 E2 => ?_) E Le.inl)⟩
    have okF1 : Ok G1 H1 (U F1) := S1.okU
    cases ek : k l.d ds with
    | none => simp only [ek] at P2; exact False.elim P2
    | some rd =>
      obtain ⟨res, d'⟩ := rd
      simp only [ek] at P2
      have foc2 := foc.kp (E2.kp okF1 dj) (E2.rep okF1 foc.rep (dj.le foc.li (Le.refl _)))
      have okA := E2.ok ok dj
      have djA := E2.dj ok dj
      have okFi : Ok G2 H2 Fi := fun a h => okA a (foc.li a h)
      refine hk G2 H2 l.d ds w vs Fi Fv res d' Q foc2.rep okFi rs ok2 (fun a x y => djA a (foc.li a x) (.inr y)) ek fun wv H' F' Fw kp r' rw' o' ow dj' nw => ?_
      have nwO : ∀ a, F' a ∨ Fw a → ¬ Fo a := fun a h z => by
        rcases nw a h with h | h | h
        · exact foc.dj a h z
        · exact djA a (foc.lo a z) (.inr h)
        · have := (okA a (foc.lo a z)).1
          rw [h] at this; exact this
      have nwU : ∀ a, F' a ∨ Fw a → ¬ U F2 a := fun a h z => by
        rcases nw a h with h | h | h
        · exact djA a (foc.li a h) (.inl z)
        · exact dj2 a h z
        · have := (S2.okU a z).1
          rw [h] at this; exact this
      have Ec : Ext G2 H2 Fi G2 H' Fi := ⟨kp, Le.refl _, fun _ h => .inl h, fun _ h => .inl h⟩
      have gs : ∀ a, G2 a → H' a ≠ none := fun a h z => by
        cases e : H2 a with
        | none => exact S2.gs a h e
        | some o => rw [kp a o e fun y => (okFi a y).2 h] at z; cases z
      have rN := foc2.back G2 H' d' F' (Kp.of kp okFi (Le.refl _) foc.dj.symm) r' fun a x y => nwO a (.inl x) y
      have So := S2.ext Ec okFi (fun a x y => djA a (foc.li a y) (.inl x)) gs
      have oFo : Ok G2 H' Fo := Ec.ok (fun a h => okA a (foc.lo a h)) foc.dj.symm
      have S3 := So.re (i := l.i) rN (fun a h => h.elim (o' a) (oFo a)) (fun a x y => x.elim (fun x => nwU a (.inl x) y) fun x => djA a (foc.lo a x) (.inl y)) ev
      refine P2 H' G2 _ S3 wv Fw rw' ow (fun a x y => ?_) ?_
      · rcases U_Fst a y with y | y | y
        · exact nwU a (.inr x) y
        · exact dj' a y x
        · exact nwO a (.inr x) y
      · have E3 := E.trans (U1' := Un2 (U F1) A) (E2.frame (Fh := A)) (Le.refl _)
        refine E3.trans (U1' := Un2 (Un2 (U F2) Fv) A) ⟨fun a o e n => kp a o e fun y => n (.inr (foc.li a y)), Le.refl _, fun _ h => .inl h, fun a h => ?_⟩ (Le.refl _)
        have key : F' a ∨ Fw a → Un2 (Un2 (U F2) Fv) A a ∨ H2 a = none := fun h => by
          rcases nw a h with h | h | h
          · exact .inl (.inr (foc.li a h))
          · exact .inl (.inl (.inr h))
          · exact .inr h
        rcases h with h | h
        · rcases U_Fst a h with h | h | h
          · exact .inl (.inl (.inl h))
          · exact key (.inl h)
          · exact .inl (.inr (foc.lo a h))
        · exact key (.inr h)
  · exact False.elim P1
end
section
variable {X : Cx} {g : Cfg} {W : WX} {T id : String} {name : Str} {apos cpos pos : Pos} {o b e : Expr} {es : List Expr}
abbrev SP (X : Cx) (g : Cfg) (W : WX) (e : Expr) (p : Pl) : Prop := PE X e (tPl g W p)
theorem sp_nm {i : Nat} (h : PE X e (tVar i)) : SP X g W e (.nm i) := PE.imp h fun σ H Q h => plnm_run h
theorem sp_ix {p : Pl} {f : Ev} (hK : X.K = g.K) (ho : SP X g W o p) (hi : SE X g W b f) (hs : PlainIx b) : SP X g W (.Subscript o b pos) (.ix p f) := PE.imp (pe_ix ix_seq ho hi hs) fun σ H Q h => plix_run hK h
theorem se_mutP {k : D → List D → Option (D × D)} {r : V → List V → Hp → VK → Prop} {p : Pl} {fs : List Ev} (hK : X.K = g.K) (pa : PlainAttrs T) (slot : Slot T name id) (hty : typeOf (.builtin id) = pure (.type "method_descriptor")) (hm : MtR X id r) (hk : InsM g k r) (ho : SP X g W o p) (ha : SEs X g W (e :: es) fs)
    (hbase : attributeBase o name X.env (eval o X.env) = eval o X.env := by rfl)
    (hfew : ((backTo cpos (starEach (e :: es) X.env)).all (fun x => !x.1) && (backToKw cpos (keywordEach [] X.env)).all (fun x => x.1.isSome)
      && decide ((e :: es).length + ([] : List Keyword).length + (if ([] : List Keyword).isEmpty then 0 else 1) < 30)) = true := by rfl)
    (hline : (apos.endLine == cpos.line) = true := by rfl) (hs : starEach (e :: es) X.env = (false, eval e X.env) :: starEach es X.env := by rfl) (hplain : (backTo cpos (starEach es X.env)).any (·.1) = false := by rfl) :
    SE X g W (.Call (.Attribute o name apos) (e :: es) [] cpos) (eMutP T k p fs) := PE.imp (pe_bm pa slot hty hm ho ha.pa hbase hfew hline hs hplain) fun σ H Q ⟨G, δ, F, S, P⟩ => mutP_run hK hk S P
theorem se_mutP0 {k : D → List D → Option (D × D)} {r : V → List V → Hp → VK → Prop} {p : Pl} (hK : X.K = g.K) (pa : PlainAttrs T) (slot : Slot T name id) (hty : typeOf (.builtin id) = pure (.type "method_descriptor")) (hm : MtR X id r) (hk : InsM g k r) (ho : SP X g W o p)
    (hbase : attributeBase o name X.env (eval o X.env) = eval o X.env := by rfl) (hline : (apos.endLine == cpos.line) = true := by rfl) :
    SE X g W (.Call (.Attribute o name apos) [] [] cpos) (eMutP T k p []) := PE.imp (pe_bm0 pa slot hty hm ho hbase hline) fun σ H Q ⟨G, δ, F, S, P⟩ => mutP_run (fs := []) hK hk S P
end
/-! ### range, downwards -/
def downD (i : Int) (n : Nat) : List D := (List.range n).map fun t : Nat => D.int (i + (t : Int) * (-1))
def kR3d : List D → Option (List D)
  | [.int i, .int j, .int c] => if c = -1 ∧ -(2 ^ 62) ≤ i ∧ i < 2 ^ 62 ∧ -(2 ^ 62) ≤ j ∧ j < 2 ^ 62 then some (downD i (i - j).toNat) else none
  | _ => none
section
variable {X : Cx} {g : Cfg} {W : WX} {tg : Expr}
theorem wk_down {G' : Fp} {H' : Hp} {U' : Fp} {lo : Int} {n : Nat} : Wk g G' H' U' (downD lo n) (Itc lo (-1) n) := by
  have hl : (downD lo n).length = n := by simp [downD]
  refine ⟨fun H2 k i hi => walk_rangeC.goes i H2 (by rw [← hl]; exact hi) trivial, fun H2 k => by rw [hl]; exact walk_rangeC.stops H2 trivial, fun H2 G2 k gm i x H3 hi y => ?_⟩
  rw [hl] at hi
  obtain ⟨rfl, rfl⟩ := walk_rangeC.yields i H2 x H3 hi trivial y
  refine ⟨Same.refl _, .int (lo + (i : Int) * (-1)), ?_, rfl⟩
  unfold downD
  rw [List.getElem?_map, List.getElem?_range hi]
  rfl
theorem si_range3 {hs : List Nat} {a b c : Expr} {os : List Od} {p pos : Pos} (hg : Gl X "range") (hm : X.mg "range" = none) (ha : SOs X g W [a, b, c] os) (hst : starEach [a, b, c] X.env = (false, eval a X.env) :: starEach [b, c] X.env := by rfl) (hpl : (backTo pos (starEach [b, c] X.env)).any (·.1) = false := by rfl) :
    SI X g W hs tg (.Call (.Name "range" p) [a, b, c] [] pos) (iWk kR3d os) := by
  have := pi_range3 (tg := tg) (pos := pos) (p := p) hg hm ha.pa hst hpl
  refine ⟨fun pins s σ H M I ⟨G, δ, F, S, P⟩ => this.run pins s σ H M I (nums_run (r := fun vs H1 R => ∃ (i j c : Int) (n : Nat), vs = [.int i, .int j, .int c] ∧ RgC i j c n ∧ R (Itc i c n) H1) (fun G H ds vs es M b e q => ?_) S P)⟩
  match ds, e, b with
  | [.int i, .int j, .int c], e, b =>
    obtain ⟨v, w, u, A, B, C, rfl, r, r2, r3⟩ := bor3 b
    cases (show v = _ from r)
    cases (show w = _ from r2)
    cases (show u = _ from r3)
    simp only [kR3d] at e
    split at e
    · rename_i cc
      cases e
      obtain ⟨rfl, cc⟩ := cc
      exact ⟨_, _, -1, _, rfl, RgC.neg cc.1 cc.2.1 cc.2.2.1 cc.2.2.2, q _ fun _ _ _ => wk_down⟩
    · cases e
end
/-! ### max, min of numbers with default -/
def eKw (k : List D → List D → Option D) (os1 os2 : List Od) : Ev := fun δ => (evOds (os1 ++ os2) δ).bind fun xs δ1 => match resL δ1 xs with
  | some ds => match k (ds.take os1.length) (ds.drop os1.length) with
    | some d => .ok d δ1
    | none => .bad
  | none => .bad
def kMaxDf : List D → List D → Option D
  | [.lst _ zs], [d] => kMaxD zs d
  | _, _ => none
def kMinDf : List D → List D → Option D
  | [.lst _ zs], [d] => kMinD zs d
  | _, _ => none
def InsK (g : Cfg) (k : List D → List D → Option D) (r : List V → List V → Hp → VK → Prop) : Prop := ∀ (G : Fp) (H : Hp) (ds es : List D) (vs ws : List V) (d : D) (Q : VK), Bor g G H ds vs → Bor g G H es ws → k ds es = some d →
  (∀ v H' Fv, Same H H' → Rep g G H' d v Fv → (∀ a, Fv a → H a = none ∧ Mut (H' a)) → Q v H') → r vs ws H Q
section
variable {X : Cx} {g : Cfg} {W : WX}
theorem bor_split {G : Fp} {H : Hp} : ∀ {ds : List D} {vs ws : List V}, Bor g G H ds (vs ++ ws) → Bor g G H (ds.take vs.length) vs ∧ Bor g G H (ds.drop vs.length) ws
  | ds, [], ws, b => ⟨by simp only [List.length_nil, List.take_zero]; rfl, by simpa using b⟩
  | [], v :: vs, ws, b => by cases (show _ = _ from b)
  | d :: ds, v :: vs, ws, ⟨v', vr, F, e, r, b⟩ => by
    cases e
    obtain ⟨h1, h2⟩ := bor_split b
    exact ⟨⟨v, vs, F, rfl, r, h1⟩, h2⟩
theorem kw_run {k : List D → List D → Option D} {r : List V → List V → Hp → VK → Prop} {os1 os2 : List Od} {G : Fp} {H : Hp} {σ : St} {δ : Env} {F : Nat → Fp} {Q : VK} (hk : InsK g k r) (S : StR g G H σ δ F) (P : Post g W G H F σ (eKw k os1 os2 δ) Q) :
    tOs g W os1 σ H fun vs H1 => tOs g W os2 σ H1 fun zs H2 => r vs zs H2 Q := by
  have h0 : tOs g W (os1 ++ os2) σ H fun ws H2 => ∀ vs zs, ws = vs ++ zs → vs.length = os1.length → r vs zs H2 Q := by
    refine ods_run S (PostG.mono (PostG.bind P) fun xs δ1 H1 G1 F1 S1 P1 ws Fv rs ok dj E1 vs zs e hv => ?_)
    cases e1 : resL δ1 xs with
    | none => simp only [e1] at P1; exact False.elim P1
    | some ds =>
      cases e2 : k (ds.take os1.length) (ds.drop os1.length) with
      | none => simp only [e1, e2] at P1; exact False.elim P1
      | some d =>
        simp only [e1, e2] at P1
        have b := bor_of S1 rs e1
        rw [e] at b
        obtain ⟨b1, b2⟩ := bor_split b
        rw [hv] at b1 b2
        refine hk G1 H1 _ _ vs zs d Q b1 b2 e2 fun v H' Fv' same rep new => ?_
        refine P1 H' G1 F1 (S1.same same) v Fv' rep (fun a h => ⟨(new a h).2, fun z => S1.gs a z (new a h).1⟩) (fun a h ⟨i, z⟩ => ?_) (E1.trans (.new (U1 := U F1) same (Le.refl _) fun a h => (new a h).1) Le.inl)
        have := (S1.ok i a z).1
        rw [(new a h).1] at this; exact this
  exact tOs_mono (fun vs H1 ⟨q1, q2⟩ => tOs_mono (fun zs H2 q => q vs zs rfl q1) q2) (tOs_len (tOs_append h0))
theorem se_callBK {x : Str} {p pos : Pos} {id : String} {ks : List Str} {k : List D → List D → Option D} {r : List V → List V → Hp → VK → Prop} {e : Expr} {es : List Expr} {kws : List Keyword} {os1 os2 : List Od} (hc : CallRK X (.builtin id) ks r) (hk : InsK g k r) (hg : Gl X x) (hm : X.mg x = none) (hv : bootBuiltins x = some (.builtin id))
    (ha : SOs X g W (e :: es) os1) (hkw : SKs X g W kws os2) (hn : x ≠ "__name__" := by decide) (hdb : (x == ("__debug__" : Str)) = false := by decide)
    (he : backTo pos (starEach (e :: es) X.env) = (false, eval e X.env) :: backTo pos (starEach es X.env) := by rfl) (hpl : (backTo pos (starEach (e :: es) X.env)).any (·.1) = false := by rfl)
    (hall : (backToKw pos (keywordEach kws X.env)).all (·.1.isSome) = true := by rfl) (hnone : (backToKw pos (keywordEach kws X.env)).any (·.1.isNone) = false := by rfl) (hks : (backToKw pos (keywordEach kws X.env)).filterMap (·.1) = ks := by rfl) :
    SE X g W (.Call (.Name x p) (e :: es) kws pos) (eKw k os1 os2) := PE.imp (pe_callBK hc hg hm hv ha.pa hkw.pk hn hdb he hpl hall hnone hks) fun σ H Q ⟨G, δ, F, S, P⟩ => kw_run hk S P
theorem insK_max : InsK g kMaxDf (rmax_D X.K) := by
  intro G H ds es vs ws d Q b b2 e fin
  match ds, es, e, b, b2 with
  | [.lst o zs], [d0], e, b, b2 =>
    obtain ⟨v, A, rfl, r⟩ := bor1 b
    obtain ⟨w, B, rfl, r2⟩ := bor1 b2
    obtain ⟨p, us, rfl, hp, rs⟩ := lst_tr r
    simp only [kMaxDf, kMaxD] at e
    split at e
    · rename_i ei
      split at e
      · rename_i c
        cases e
        have := ints_of rs ei
        refine ⟨p, [], w, rfl, rfl, .inl (.inl (by rw [hp, this])), fun _ => fin0 fin (r2.clean c), fun m hm => nomatch hm⟩
      · cases e
    · rename_i i is ei
      cases e
      have := ints_of rs ei
      obtain ⟨h1, h2⟩ := maxI_ok is i
      refine ⟨p, i :: is, w, rfl, rfl, .inl (.inl (by rw [hp, this])), (fun h => by cases h), fun m hm hb => ?_⟩
      have : m = maxI i is := Int.le_antisymm (h2 m hm) (hb _ h1)
      rw [this]
      exact fin0 fin rfl
    · cases e
theorem insK_min : InsK g kMinDf (rmin_D X.K) := by
  intro G H ds es vs ws d Q b b2 e fin
  match ds, es, e, b, b2 with
  | [.lst o zs], [d0], e, b, b2 =>
    obtain ⟨v, A, rfl, r⟩ := bor1 b
    obtain ⟨w, B, rfl, r2⟩ := bor1 b2
    obtain ⟨p, us, rfl, hp, rs⟩ := lst_tr r
    simp only [kMinDf, kMinD] at e
    split at e
    · rename_i ei
      split at e
      · rename_i c
        cases e
        have := ints_of rs ei
        refine ⟨p, [], w, rfl, rfl, .inl (.inl (by rw [hp, this])), fun _ => fin0 fin (r2.clean c), fun m hm => nomatch hm⟩
      · cases e
    · rename_i i is ei
      cases e
      have := ints_of rs ei
      obtain ⟨h1, h2⟩ := minI_ok is i
      refine ⟨p, i :: is, w, rfl, rfl, .inl (.inl (by rw [hp, this])), (fun h => by cases h), fun m hm hb => ?_⟩
      have : m = minI i is := Int.le_antisymm (hb _ h1) (h2 m hm)
      rw [this]
      exact fin0 fin rfl
    · cases e
end
end DV

namespace DV
open PySem L2
/-! ### walks over a list that the body reads: the name is watched -/
open Classical in
noncomputable def forLW (w : Nat) (d0 : D) (t : Tg) (body : Sv) : List D → Env → RS
  | [], δ => if gt δ w = some d0 then .nx δ else .bad
  | d :: ds, δ => if gt δ w = some d0 then match tgD t d δ with
    | none => .bad
    | some δ1 => match body δ1 with
      | .nx δ2 => forLW w d0 t body ds δ2
      | .ct δ2 => forLW w d0 t body ds δ2
      | .bk δ2 => .nx δ2
      | .rt d δ2 => .rt d δ2
      | .ex x δ2 => .ex x δ2
      | .bad => .bad
    else .bad
noncomputable def sForW (w : Nat) (k : List D → List D) (t : Tg) (body : Sv) : Sv := fun δ => match gt δ w with
  | some (.lst o ds) => if cleans ds = true then forLW w (.lst o ds) t body (k ds) δ else .bad
  | _ => .bad
/-- what a watched walk gives wherever the list stands with these items -/
structure WkW (g : Cfg) (p : Addr) (ds es : List D) (J : It) : Prop where
  go : ∀ (H2 : Hp) (vs : List V), SqL g.K H2 p vs → vs.length = ds.length → ∀ i, i < es.length → J.go i H2
  stop : ∀ (H2 : Hp) (vs : List V), SqL g.K H2 p vs → vs.length = ds.length → J.stop es.length H2
  yld : ∀ (H2 : Hp) (G2 : Fp) (vs : List V), SqL g.K H2 p vs → Reps g G2 H2 ds vs Fe → ∀ i x H3, i < es.length → J.yld i H2 x H3 → Same H2 H3 ∧ ∃ d, es[i]? = some d ∧ Rep g G2 H3 d x Fe
section
variable {g : Cfg} {W : WX} {a : As} {G : Fp} {H : Hp} {σ : St} {δ : Env} {F : Nat → Fp} {D : Ends}
open Classical in
theorem forW_run {w : Nat} {k : List DV.D → List DV.D} {t : Tg} {body : Sv} {ti : TI} (hi : ∀ σ H (M : It → Hp → Prop) p vs ds, σ[w]? = some (some (.ref p)) → SqL g.K H p vs → vs.length = ds.length → (∀ J, WkW g p ds (k ds) J → M J H) → ti σ H M)
    (hw : aOr (tgA t) a w = false) (S : StR g G H σ δ F) (P : PostS g W (aOr (tgA t) a) G H F σ (sForW w k t body δ) D) : tFor ti (tgG g.K t) (tS g W a body) D σ H := by
  unfold sForW at P
  cases e0 : gt δ w with
  | none => rw [e0] at P; exact False.elim P
  | some d0 =>
    rw [e0] at P
    cases d0 with
    | lst o ds =>
      simp only at P
      by_cases c : cleans ds = true
      · rw [if_pos c] at P
        obtain ⟨v, ev, r⟩ := S.at_ w _ e0
        obtain ⟨p, vs0, rfl, hp, rs0⟩ := lst_tr r
        refine hi σ H _ p vs0 ds ev (.inl (.inl hp)) rs0.length fun J wk => ?_
        refine ⟨fun i m σ' H' => m = (k ds).length - i ∧ i ≤ (k ds).length ∧ ∃ G' δ' F', StR g G' H' σ' δ' F' ∧ Ag (aOr (tgA t) a) σ σ' ∧ Ext G H (U F) G' H' (U F') ∧ PostS g W (aOr (tgA t) a) G H F σ (forLW w (.lst o ds) t body ((k ds).drop i) δ') D,
          ⟨(k ds).length, rfl, Nat.zero_le _, G, δ, F, S, .refl, .refl (Le.refl _), P⟩, ?_⟩
        rintro i m σ2 H2 ⟨rfl, hi, G2, δ2, F2, S2, ag2, E2, P2⟩
        have wat : ∀ {r : RS}, PostS g W (aOr (tgA t) a) G H F σ (if gt δ2 w = some (.lst o ds) then r else .bad) D → gt δ2 w = some (.lst o ds) := fun {r} h => by
          by_cases e : gt δ2 w = some (.lst o ds)
          · exact e
          · rw [if_neg e] at h; exact False.elim h
        have std : gt δ2 w = some (.lst o ds) → ∃ vs, SqL g.K H2 p vs ∧ Reps g G2 H2 ds vs Fe := fun e => by
          obtain ⟨v', ev', r'⟩ := S2.at_ w _ e
          rw [ag2.2 w hw, ev] at ev'
          cases ev'
          obtain ⟨p', vs, e', hp', rs⟩ := lst_tr r'
          cases e'
          exact ⟨vs, .inl (.inl hp'), rs.clean c⟩
        by_cases hlt : i < (k ds).length
        · rw [drop_get hlt] at P2
          unfold forLW at P2
          have ew := wat P2
          rw [if_pos ew] at P2
          obtain ⟨vs, hs, rs⟩ := std ew
          refine .inr ⟨wk.go H2 vs hs rs.length i hlt, fun σ' H' => ∃ G' δ' F', StR g G' H' σ' δ' F' ∧ Ag (aOr (tgA t) a) σ σ' ∧ Ext G H (U F) G' H' (U F') ∧ PostS g W (aOr (tgA t) a) G H F σ (forLW w (.lst o ds) t body ((k ds).drop (i + 1)) δ') D,
            fun σ' H' h => ⟨(k ds).length - (i + 1), by omega, rfl, hlt, h⟩, fun x H3 y => ?_⟩
          obtain ⟨same, d, ed, rd⟩ := wk.yld H2 G2 vs hs rs i x H3 hlt y
          have ed' : (k ds)[i] = d := by rw [List.getElem?_eq_getElem hlt] at ed; exact Option.some.inj ed
          rw [ed'] at P2
          cases e : tgD t d δ2 with
          | none => simp only [e] at P2; exact False.elim P2
          | some δ3 =>
            simp only [e] at P2
            have S3 := S2.same same
            have E3 : Ext G H (U F) G2 H3 (U F2) := E2.trans (.new (U1 := U F2) (Fv := Fe) same (Le.refl _) fun _ z => z.elim) (Le.refl _) |>.weak (Le.refl _) Le.inl
            refine tg_run S3 rd (fun _ z => z.elim) (fun _ z => z.elim) e fun σ4 F4 S4 ag4 le4 => ?_
            have E4 : Ext G H (U F) G2 H3 (U F4) := E3.weak (Le.refl _) fun a h => (le4 a h).elim id fun z => z.elim
            have ag5 := ag2.tr (ag4.l (b := a))
            refine tS_of S4 ?_
            cases eb : body δ3 with
            | nx δ5 => simp only [eb] at P2; exact fun σ6 H6 G6 F6 S6 ag6 E6 => ⟨G6, δ5, F6, S6, ag5.tr ag6.r, E4.trans E6 (Le.refl _), P2⟩
            | ct δ5 => simp only [eb] at P2; exact fun σ6 H6 G6 F6 S6 ag6 E6 => ⟨G6, δ5, F6, S6, ag5.tr ag6.r, E4.trans E6 (Le.refl _), P2⟩
            | bk δ5 => simp only [eb] at P2; exact fun σ6 H6 G6 F6 S6 ag6 E6 => P2 σ6 H6 G6 F6 S6 (ag5.tr ag6.r) (E4.trans E6 (Le.refl _))
            | rt d5 δ5 => simp only [eb] at P2; exact fun v σ6 H6 G6 F6 Fv6 S6 ag6 r6 o6 dj6 E6 => P2 v σ6 H6 G6 F6 Fv6 S6 (ag5.tr ag6.r) r6 o6 dj6 (E4.trans E6 (Le.refl _))
            | ex x5 δ5 => simp only [eb] at P2; exact fun cls dd σ6 H6 G6 F6 S6 ag6 xr6 E6 => P2 cls dd σ6 H6 G6 F6 S6 (ag5.tr ag6.r) xr6 (E4.trans E6 (Le.refl _))
            | bad => simp only [eb] at P2; exact P2
        · have e : i = (k ds).length := by omega
          subst e
          rw [List.drop_length] at P2
          unfold forLW at P2
          have ew := wat P2
          rw [if_pos ew] at P2
          obtain ⟨vs, hs, rs⟩ := std ew
          exact .inl ⟨wk.stop H2 vs hs rs.length, P2 σ2 H2 G2 F2 S2 ag2 E2⟩
      · rw [if_neg c] at P; exact False.elim P
    | _ => exact False.elim P
end
section
variable {X : Cx} {g : Cfg} {W : WX} {a : As} {tg : Expr} {body : List Stmt} {t : Tg} {f : Sv} {pos : Pos} {w : Nat}
theorem ss_forW {e : Expr} (hp : PassesOwn (model X.prog X.w) X.A X.env X.xe) (hc : X.calm = true) (hK : X.K = g.K) (hi : PE X e (tVar w)) (hg : SG X g tg t) (hb : SSs X g W a body f) (hw : aOr (tgA t) a w = false)
    (hz : ∀ x, foldedSetIterable e X.env x = pure x := by intro _; rfl) : SS X g W (aOr (tgA t) a) (.For tg e body [] pos) (sForW w id t f) := by
  refine PS.imp (ps_for hp hc (pi_list (tg := tg) hi) hg hb hz) fun D σ H ⟨G, δ, F, S, P⟩ => forW_run (fun σ H M p vs ds ev hs hl q => ?_) hw S P
  refine ⟨.ref p, ev, p, rfl, ⟨vs, by rw [hK]; exact hs⟩, q _ ⟨fun H2 vs2 h2 l2 i hi => ?_, fun H2 vs2 h2 l2 => ?_, fun H2 G2 vs2 h2 r2 i x H3 hi y => ?_⟩⟩
  · exact ⟨vs2, vs2[i]'(by rw [l2]; exact hi), by rw [hK]; exact h2, by simp⟩
  · exact ⟨vs2, by rw [hK]; exact h2, by rw [l2]; exact Nat.le_refl _⟩
  · obtain ⟨rfl, y2⟩ := y
    obtain ⟨d, ed, B, l, rd⟩ := r2.get (y2 vs2 (by rw [hK]; exact h2))
    exact ⟨Same.refl _, d, ed, rd.le l⟩
theorem ss_forWe {e : Expr} {elts : List Expr} {kk : Nat} {tpos p ipos : Pos} (hp : PassesOwn (model X.prog X.w) X.A X.env X.xe) (hc : X.calm = true) (hK : X.K = g.K) (hgl : Gl X "enumerate") (hm : X.mg "enumerate" = none) (hi : PE X e (tVar w)) (hg : SG X g (.Tuple elts kk tpos) t) (hb : SSs X g W a body f) (hw : aOr (tgA t) a w = false)
    (hst : starEach [e] X.env = [(false, eval e X.env)] := by rfl) (hz : ∀ x, foldedSetIterable (.Call (.Name "enumerate" p) [e] [] ipos) X.env x = pure x := by intro _; rfl) :
    SS X g W (aOr (tgA t) a) (.For (.Tuple elts kk tpos) (.Call (.Name "enumerate" p) [e] [] ipos) body [] pos) (sForW w (enumD 0) t f) := by
  refine PS.imp (ps_for hp hc (pi_enum (elts := elts) (kk := kk) (tpos := tpos) (pos := ipos) (p := p) hgl hm (pa_cons hi pa_nil hst) hst) hg hb hz) fun D σ H ⟨G, δ, F, S, P⟩ => forW_run (fun σ H M p vs ds ev hs hl q => ?_) hw S P
  refine ⟨.ref p, ev, p, vs, rfl, by rw [hK]; exact hs, q _ ⟨fun H2 vs2 h2 l2 i hi => ?_, fun H2 vs2 h2 l2 => ?_, fun H2 G2 vs2 h2 r2 i x H3 hi y => ?_⟩⟩
  · rw [enumD_length, ← l2] at hi
    exact walk_enum.goes i H2 hi (by rw [hK]; exact h2)
  · rw [enumD_length, ← l2]
    exact walk_enum.stops H2 (by rw [hK]; exact h2)
  · rw [enumD_length, ← r2.length] at hi
    obtain ⟨T, x1, x2, rfl, nT, rfl, e1, e2⟩ := walk_enum.yields i H2 x H3 hi (by rw [hK]; exact h2) y
    cases e1
    obtain ⟨d, ed, B, l, rd⟩ := r2.get e2
    refine ⟨same_new nT, .tup [.int ((0 + i : Nat) : Int), d], enumD_get ed, rep_pair upd_same ?_ ((rd.le l).same (same_new nT))⟩
    rw [Nat.zero_add]
    rfl
end
end DV

namespace DV
open PySem L2
/-! ### what the printed terms lean on -/
/-- a name's value: looked at where it is clean, taken where it is not -/
def eTk (i : Nat) : Ev := fun δ => match gt δ i with
  | some d => if clean d = true then .ok d δ else .ok d (st δ i none)
  | none => .bad
abbrev app2 (a b : List Od) : List Od := a ++ b
def eNt (f : Ev) : Ev := fun δ => (f δ).bind fun d δ1 => match d with
  | .bl b => .ok (.bl (!b)) δ1
  | _ => .bad
section
variable {X : Cx} {g : Cfg} {W : WX}
theorem SE.tk {e : Expr} {i : Nat} (h : PE X e (tVar i)) : SE X g W e (eTk i) := PE.imp h fun σ H Q ⟨G, δ, F, S, P⟩ => by
  cases e0 : gt δ i with
  | none => simp only [eTk, e0] at P; exact False.elim P
  | some d =>
    by_cases c : clean d = true
    · refine var_run S (W := W) ?_
      simp only [eTk, e0, c, if_true] at P
      simp only [eVar, e0, c, if_true]
      exact P
    · refine mv_run S (W := W) ?_
      simp only [eTk, e0] at P
      rw [if_neg c] at P
      simp only [eMv, e0]
      exact P
theorem hu65 {k : Nat} {A : Around} (hr : Room k A) : A.units + 65 < cLine := by have := hr.un; omega
theorem hu66 {k : Nat} {A : Around} (hr : Room k A) : A.units + 66 < cLine := by have := hr.un; omega
theorem se_notT {e : Expr} {f : Ev} {pos : Pos} (h : SE X g W e f) : SE X g W (.UnaryOp .Not e pos) (eNt f) := PE.imp (pe_not h) fun σ H Q ⟨G, δ, F, S, P⟩ => by
  refine tE_of S (PostG.mono (PostG.bind P) fun d δ1 H1 G1 F1 S1 P1 v Fv r ok dj E1 => ?_)
  cases d with
  | bl b => exact ⟨b, r, P1 H1 G1 F1 S1 _ Fe rfl (fun _ z => z.elim) (fun _ z => z.elim) (E1.weak (Le.refl _) fun a h => h.elim .inl fun z => z.elim)⟩
  | _ => exact False.elim P1
theorem pe_gl {x : Str} {v : V} {pos : Pos} (hg : Gl X x) (hm : ∃ u, X.mg x = some u ∧ RelV v u) (hd : (x == ("__debug__" : Str)) = false := by decide) : PE X (.Name x pos) (tC v) := by
  obtain ⟨u, h, r⟩ := hm
  exact pe_glob hg h r hd
end
theorem fn_bad {P : Program} {w : World} {K : PySem.W.Frag} {mg : Str → Option Value} {base : Heap} {CX : CXT} {k m : Nat} {f : Addr} {fd : FuncData} {ps : List Str} {g : Cfg} (h : ps.length = m) : FnOk P w K mg base CX k f fd ps (spF g m fun _ => .bad) :=
  ⟨fun vs H Q E q => q.1.trans h.symm, fun A outer s H args us vs Q E _ _ _ _ q => by
    obtain ⟨_, G, ε, F, S, P⟩ := q
    exact False.elim P⟩
theorem cx_no {P : Program} {w : World} {o : List _root_.PySem.Env} {H : Hp} {s : Shared} {e : Value} {s' : Shared} (h : L2.CX P w o H s (fun _ _ _ => False) e s') : False := by
  obtain ⟨_, _, _, _, _, _, _, _, _, _, _, _, z⟩ := h
  exact z
/-- the law's promise -/
def spLaw (K : PySem.W.Frag) : Sp := fun vs H Q _ => ∃ (a : Addr) (ns : List Int), vs = [.ref a] ∧ SqL K H a (ns.map V.int) ∧ ns.length ≤ 63 ∧ ∀ H', Q (.bl true) H'
theorem law_ok_of {P : Program} {w : World} {K : PySem.W.Frag} {mg : Str → Option Value} {base : Heap} {k : Nat} {f : Addr} {fd : FuncData} {g : Cfg} {fn : Fn} (hK : g.K = K) (ht : ∀ ns : List Int, ns.length ≤ 63 → ∃ δ, fn [some (.scr ns)] = .ok (.bl true) δ)
    (F : FnOk P w K mg base (L2.CX P w) k f fd ["_law_script"] (spF g 1 fn)) : FnOk P w K mg base (L2.CX P w) k f fd ["_law_script"] (spLaw K) := F.imp fun vs H Q E h => by
  obtain ⟨a, ns, rfl, hs, hl, q⟩ := h
  obtain ⟨δ, e⟩ := ht ns hl
  refine ⟨rfl, fun b => b = a ∧ H a ≠ none, [some (.scr ns)], fun _ => Fe, ⟨rfl, fun i d h => ?_, fun _ _ _ _ z _ => z, fun _ _ z => z.elim, fun b h => by rw [h.1]; exact h.2⟩, ?_⟩
  · cases i with
    | zero =>
      cases h
      refine ⟨.ref a, rfl, a, rfl, ?_⟩
      rcases hs with (h | ⟨o, h⟩) | h
      · exact .inl ⟨h, rfl, by rw [h]; simp⟩
      · exact .inr (.inl ⟨o, h⟩)
      · exact .inr (.inr (by rw [hK]; exact h))
    | succ i => cases i <;> cases h
  · show Post _ _ _ _ _ _ (fn _) Q
    rw [e]
    intro H' G' F' S v Fv r o dj E'
    rw [show v = .bl true from r]
    exact q H'
end DV

namespace DV
open PySem L2
/-! ### running the functions -/
/-- not yet: stands below an `if` that is open -/
structure pnd {α : Type} (r : R α) (Q : R α → Prop) : Prop where
  out : Q r
structure pndS (s : Sv) (δ : Env) (Q : RS → Prop) : Prop where
  out : Q (s δ)
structure pndR {α : Type} (f : Env → R α) (δ : Env) (Q : R α → Prop) : Prop where
  out : Q (f δ)
structure wR {α : Type} (r : R α) (Q : R α → Prop) : Prop where
  out : Q r
structure wS (r : RS) (Q : RS → Prop) : Prop where
  out : Q r
structure wO (os : List Od) (δ : Env) (Q : R (List OV) → Prop) : Prop where
  out : Q (evOds os δ)
structure wL (fs : List Ev) (δ : Env) (Q : R (List D) → Prop) : Prop where
  out : Q (evL fs δ)
structure wI (s : Src) (δ : Env) (Q : R (List D) → Prop) : Prop where
  out : Q (s δ)
structure IfW (c A B : Prop) : Prop where
  yes : c → A
  no : ¬ c → B
theorem wR_eq {α : Type} {r : R α} {Q : R α → Prop} : wR r Q = Q r := propext ⟨fun h => h.out, fun h => ⟨h⟩⟩
theorem wS_eq {r : RS} {Q : RS → Prop} : wS r Q = Q r := propext ⟨fun h => h.out, fun h => ⟨h⟩⟩
theorem wO_eq {os : List Od} {δ : Env} {Q : R (List OV) → Prop} : wO os δ Q = Q (evOds os δ) := propext ⟨fun h => h.out, fun h => ⟨h⟩⟩
theorem wL_eq {fs : List Ev} {δ : Env} {Q : R (List D) → Prop} : wL fs δ Q = Q (evL fs δ) := propext ⟨fun h => h.out, fun h => ⟨h⟩⟩
theorem pnd_eq {α : Type} {r : R α} {Q : R α → Prop} : pnd r Q = Q r := propext ⟨fun h => h.out, fun h => ⟨h⟩⟩
theorem pndS_eq {s : Sv} {δ : Env} {Q : RS → Prop} : pndS s δ Q = Q (s δ) := propext ⟨fun h => h.out, fun h => ⟨h⟩⟩
theorem pndR_eq {α : Type} {f : Env → R α} {δ : Env} {Q : R α → Prop} : pndR f δ Q = Q (f δ) := propext ⟨fun h => h.out, fun h => ⟨h⟩⟩
theorem wI_eq {s : Src} {δ : Env} {Q : R (List D) → Prop} : wI s δ Q = Q (s δ) := propext ⟨fun h => h.out, fun h => ⟨h⟩⟩
theorem ifW_t {A B : Prop} : IfW True A B = A := propext ⟨fun h => h.yes trivial, fun h => ⟨fun _ => h, fun z => (z trivial).elim⟩⟩
theorem ifW_f {A B : Prop} : IfW False A B = B := propext ⟨fun h => h.no id, fun h => ⟨fun z => z.elim, fun _ => h⟩⟩
theorem ifW_eq {c A B : Prop} [Decidable c] : IfW c A B = if c then A else B := by
  by_cases h : c
  · simp only [h, ifW_t, if_true]
  · simp only [h, ifW_f, if_false]

def opsK (k : List D → Option D) (Q : R D → Prop) : R (List OV) → Prop
  | .ok xs δ => Q (match resL δ xs with
    | some ds => match k ds with
      | some d => .ok d δ
      | none => .bad
    | none => .bad)
  | .ex x δ => Q (.ex x δ)
  | .bad => Q .bad
def ops3 (d : Option D) (δ : Env) (Q : R D → Prop) : Prop := Q (match d with
    | some d => .ok d δ
    | none => .bad)
def pnd3 (d : Option D) (δ : Env) (Q : R D → Prop) : Prop := ops3 d δ Q
def tk2 (c : Bool) (d : D) (i : Nat) (δ : Env) (Q : R D → Prop) : Prop := if c = true then Q (.ok d δ) else Q (.ok d (st δ i none))
def ops2 (k : List D → Option D) (ds : Option (List D)) (δ : Env) (Q : R D → Prop) : Prop := Q (match ds with
    | some ds => match k ds with
      | some d => .ok d δ
      | none => .bad
    | none => .bad)
def kTmp (d : D) (Q : R (List OV) → Prop) : R (List OV) → Prop
  | .ok xs δ => Q (.ok (.tmp d :: xs) δ)
  | .ex x δ => Q (.ex x δ)
  | .bad => Q .bad
def kLate (i : Nat) (Q : R (List OV) → Prop) : R (List OV) → Prop
  | .ok xs δ => Q (.ok (.late i :: xs) δ)
  | .ex x δ => Q (.ex x δ)
  | .bad => Q .bad
def kVal (os : List Od) (Q : R (List OV) → Prop) : R D → Prop
  | .ok d δ => wO os δ (kTmp d Q)
  | .ex x δ => Q (.ex x δ)
  | .bad => Q .bad
def varK (d : Option D) (i : Nat) (os : List Od) (δ : Env) (Q : R (List OV) → Prop) : Prop := match d with
  | some _ => wO os δ (kLate i Q)
  | none => Q .bad
def kCons (d : D) (Q : R (List D) → Prop) : R (List D) → Prop
  | .ok ds δ => Q (.ok (d :: ds) δ)
  | .ex x δ => Q (.ex x δ)
  | .bad => Q .bad
/-- what follows, told as a function of the answer -/
def bK {α β : Type} (k : α → Env → R β) (Q : R β → Prop) : R α → Prop
  | .ok a δ => Q (k a δ)
  | .ex x δ => Q (.ex x δ)
  | .bad => Q .bad
def tkK (d : Option D) (i : Nat) (δ : Env) (Q : R D → Prop) : Prop := match d with
  | some d => if clean d = true then Q (.ok d δ) else Q (.ok d (st δ i none))
  | none => Q .bad
def tupK (Q : R D → Prop) : R (List D) → Prop
  | .ok ds δ => if ds.length ≤ 100000 then Q (.ok (.tup ds) δ) else Q .bad
  | .ex x δ => Q (.ex x δ)
  | .bad => Q .bad
def lstK (Q : R D → Prop) : R (List D) → Prop
  | .ok ds δ => if ds.length ≤ 100000 then Q (.ok (.lst true ds) δ) else Q .bad
  | .ex x δ => Q (.ex x δ)
  | .bad => Q .bad
def ifK (f h : Ev) (Q : R D → Prop) : R Bool → Prop
  | .ok b δ => if b = true then wR (f δ) Q else wR (h δ) Q
  | .ex x δ => Q (.ex x δ)
  | .bad => Q .bad
def anK (h : Ev) (Q : R D → Prop) : R D → Prop
  | .ok (.bl b) δ => if b = true then wR (h δ) Q else Q (.ok (.bl false) δ)
  | .ok _ δ => Q .bad
  | .ex x δ => Q (.ex x δ)
  | .bad => Q .bad
def orK (h : Ev) (Q : R D → Prop) : R D → Prop
  | .ok (.bl b) δ => if b = true then Q (.ok (.bl true) δ) else wR (h δ) Q
  | .ok _ δ => Q .bad
  | .ex x δ => Q (.ex x δ)
  | .bad => Q .bad
def bbK (Q : R Bool → Prop) : R D → Prop
  | .ok (.bl b) δ => Q (.ok b δ)
  | .ok _ δ => Q .bad
  | .ex x δ => Q (.ex x δ)
  | .bad => Q .bad
def ntK (Q : R Bool → Prop) : R Bool → Prop
  | .ok b δ => Q (.ok (!b) δ)
  | .ex x δ => Q (.ex x δ)
  | .bad => Q .bad
def anT (u : Tv) (Q : R Bool → Prop) : R Bool → Prop
  | .ok b δ => if b = true then wR (u δ) Q else Q (.ok false δ)
  | .ex x δ => Q (.ex x δ)
  | .bad => Q .bad
def orT (u : Tv) (Q : R Bool → Prop) : R Bool → Prop
  | .ok b δ => if b = true then Q (.ok true δ) else wR (u δ) Q
  | .ex x δ => Q (.ex x δ)
  | .bad => Q .bad
def enK (Q : R D → Prop) : R D → Prop
  | .ok (.bl b) δ => Q (.ok (.bl (!b)) δ)
  | .ok _ δ => Q .bad
  | .ex x δ => Q (.ex x δ)
  | .bad => Q .bad
def fzK (Q : R D → Prop) : R D → Prop
  | .ok d δ => Q (.ok (freeze d) δ)
  | .ex x δ => Q (.ex x δ)
  | .bad => Q .bad
def kL2 (fs : List Ev) (Q : R (List D) → Prop) : R D → Prop
  | .ok d δ => wL fs δ (kCons d Q)
  | .ex x δ => Q (.ex x δ)
  | .bad => Q .bad
section
variable {δ : Env} {d : D} {i : Nat} {f h : Ev} {t u : Tv} {fs : List Ev} {os : List Od} {k : List D → Option D}
theorem r_C {Q : R D → Prop} : wR (eC d δ) Q = Q (.ok d δ) := by first | rfl | exact wR_eq | exact wS_eq | exact wO_eq | exact wL_eq | exact wI_eq | (simp only [wR_eq, wS_eq, wO_eq, wL_eq, wI_eq, pnd_eq, pndS_eq, pndR_eq]; rfl)
theorem r_tk {Q : R D → Prop} : wR (eTk i δ) Q = tkK (gt δ i) i δ Q := by first | exact (by simp only [wR_eq]; unfold eTk tkK; cases gt δ i with | none => rfl | some d => simp only; split <;> rfl) | (simp only [wR_eq, wS_eq, wO_eq, wL_eq, wI_eq, pnd_eq, pndS_eq, pndR_eq]; rfl)
theorem r_tks {Q : R D → Prop} : tkK (some d) i δ Q = tk2 (clean d) d i δ Q := by first | rfl | exact wR_eq | exact wS_eq | exact wO_eq | exact wL_eq | exact wI_eq | (simp only [wR_eq, wS_eq, wO_eq, wL_eq, wI_eq, pnd_eq, pndS_eq, pndR_eq]; rfl)
theorem r_tk2t {Q : R D → Prop} : tk2 true d i δ Q = Q (.ok d δ) := by first | rfl | exact wR_eq | exact wS_eq | exact wO_eq | exact wL_eq | exact wI_eq | (simp only [wR_eq, wS_eq, wO_eq, wL_eq, wI_eq, pnd_eq, pndS_eq, pndR_eq]; rfl)
theorem r_tk2f {Q : R D → Prop} : tk2 false d i δ Q = Q (.ok d (st δ i none)) := by first | rfl | exact wR_eq | exact wS_eq | exact wO_eq | exact wL_eq | exact wI_eq | (simp only [wR_eq, wS_eq, wO_eq, wL_eq, wI_eq, pnd_eq, pndS_eq, pndR_eq]; rfl)
theorem r_ops {Q : R D → Prop} : wR (eOps k os δ) Q = wO os δ (opsK k Q) := by first | exact (by simp only [wR_eq, wO_eq]; unfold eOps; cases evOds os δ <;> rfl) | (simp only [wR_eq, wS_eq, wO_eq, wL_eq, wI_eq, pnd_eq, pndS_eq, pndR_eq]; rfl)
theorem r_opsk {Q : R D → Prop} {xs : List OV} : opsK k Q (.ok xs δ) = ops2 k (resL δ xs) δ Q := by first | rfl | exact wR_eq | exact wS_eq | exact wO_eq | exact wL_eq | exact wI_eq | (simp only [wR_eq, wS_eq, wO_eq, wL_eq, wI_eq, pnd_eq, pndS_eq, pndR_eq]; rfl)
theorem r_ops2 {Q : R D → Prop} {ds : List D} : ops2 k (some ds) δ Q = ops3 (k ds) δ Q := by first | rfl | exact wR_eq | exact wS_eq | exact wO_eq | exact wL_eq | exact wI_eq | (simp only [wR_eq, wS_eq, wO_eq, wL_eq, wI_eq, pnd_eq, pndS_eq, pndR_eq]; rfl)
theorem r_ops3 {Q : R D → Prop} : ops3 (some d) δ Q = Q (.ok d δ) := by first | rfl | exact wR_eq | exact wS_eq | exact wO_eq | exact wL_eq | exact wI_eq | (simp only [wR_eq, wS_eq, wO_eq, wL_eq, wI_eq, pnd_eq, pndS_eq, pndR_eq]; rfl)
theorem r_ops3n {Q : R D → Prop} : ops3 none δ Q = Q .bad := by first | rfl | exact wR_eq | exact wS_eq | exact wO_eq | exact wL_eq | exact wI_eq | (simp only [wR_eq, wS_eq, wO_eq, wL_eq, wI_eq, pnd_eq, pndS_eq, pndR_eq]; rfl)
theorem r_ops3i {Q : R D → Prop} {c : Prop} [Decidable c] {x y : Option D} : ops3 (if c then x else y) δ Q = IfW (c) (pnd3 x δ Q) (pnd3 y δ Q) := by rw [ifW_eq]; first | exact (by split <;> rfl) | (simp only [wR_eq, wS_eq, wO_eq, wL_eq, wI_eq, pnd_eq, pndS_eq, pndR_eq]; first | rfl | (split <;> rfl))
theorem r_O0 {Q : R (List OV) → Prop} : wO [] δ Q = Q (.ok [] δ) := by first | rfl | exact wR_eq | exact wS_eq | exact wO_eq | exact wL_eq | exact wI_eq | (simp only [wR_eq, wS_eq, wO_eq, wL_eq, wI_eq, pnd_eq, pndS_eq, pndR_eq]; rfl)
theorem r_Ov {Q : R (List OV) → Prop} : wO (.var i :: os) δ Q = varK (gt δ i) i os δ Q := by first | exact (by simp only [wO_eq]; unfold varK; simp only [evOds, evOd]; cases gt δ i with | none => rfl | some d => simp only [R.bind_ok]; simp only [wO_eq] <;> (cases evOds os δ <;> rfl)) | (simp only [wR_eq, wS_eq, wO_eq, wL_eq, wI_eq, pnd_eq, pndS_eq, pndR_eq]; rfl)
theorem r_Ovs {Q : R (List OV) → Prop} : varK (some d) i os δ Q = wO os δ (kLate i Q) := by first | rfl | exact wR_eq | exact wS_eq | exact wO_eq | exact wL_eq | exact wI_eq | (simp only [wR_eq, wS_eq, wO_eq, wL_eq, wI_eq, pnd_eq, pndS_eq, pndR_eq]; rfl)
theorem r_Of {Q : R (List OV) → Prop} : wO (.val f :: os) δ Q = wR (f δ) (kVal os Q) := by first | exact (by simp only [wO_eq, wR_eq]; simp only [evOds, evOd]; cases f δ with | bad => rfl | ex x y => rfl | ok a b => simp only [R.bind_ok, kVal]; simp only [wO_eq] <;> (cases evOds os b <;> rfl)) | (simp only [wR_eq, wS_eq, wO_eq, wL_eq, wI_eq, pnd_eq, pndS_eq, pndR_eq]; rfl)
theorem r_kval {Q : R (List OV) → Prop} : kVal os Q (.ok d δ) = wO os δ (kTmp d Q) := by first | rfl | exact wR_eq | exact wS_eq | exact wO_eq | exact wL_eq | exact wI_eq | (simp only [wR_eq, wS_eq, wO_eq, wL_eq, wI_eq, pnd_eq, pndS_eq, pndR_eq]; rfl)
theorem r_ktmp {Q : R (List OV) → Prop} {xs : List OV} : kTmp d Q (.ok xs δ) = Q (.ok (.tmp d :: xs) δ) := by first | rfl | exact wR_eq | exact wS_eq | exact wO_eq | exact wL_eq | exact wI_eq | (simp only [wR_eq, wS_eq, wO_eq, wL_eq, wI_eq, pnd_eq, pndS_eq, pndR_eq]; rfl)
theorem r_klate {Q : R (List OV) → Prop} {xs : List OV} : kLate i Q (.ok xs δ) = Q (.ok (.late i :: xs) δ) := by first | rfl | exact wR_eq | exact wS_eq | exact wO_eq | exact wL_eq | exact wI_eq | (simp only [wR_eq, wS_eq, wO_eq, wL_eq, wI_eq, pnd_eq, pndS_eq, pndR_eq]; rfl)
theorem r_L0 {Q : R (List D) → Prop} : wL [] δ Q = Q (.ok [] δ) := by first | rfl | exact wR_eq | exact wS_eq | exact wO_eq | exact wL_eq | exact wI_eq | (simp only [wR_eq, wS_eq, wO_eq, wL_eq, wI_eq, pnd_eq, pndS_eq, pndR_eq]; rfl)
theorem r_L1 {Q : R (List D) → Prop} : wL (f :: fs) δ Q = wR (f δ) (kL2 fs Q) := by first | exact (by simp only [wL_eq, wR_eq]; simp only [evL]; cases f δ with | bad => rfl | ex x y => rfl | ok a b => simp only [R.bind_ok, kL2]; simp only [wL_eq] <;> (cases evL fs b <;> rfl)) | (simp only [wR_eq, wS_eq, wO_eq, wL_eq, wI_eq, pnd_eq, pndS_eq, pndR_eq]; rfl)
theorem r_kl2 {Q : R (List D) → Prop} : kL2 fs Q (.ok d δ) = wL fs δ (kCons d Q) := by first | rfl | exact wR_eq | exact wS_eq | exact wO_eq | exact wL_eq | exact wI_eq | (simp only [wR_eq, wS_eq, wO_eq, wL_eq, wI_eq, pnd_eq, pndS_eq, pndR_eq]; rfl)
theorem r_kcons {Q : R (List D) → Prop} {ds : List D} : kCons d Q (.ok ds δ) = Q (.ok (d :: ds) δ) := by first | rfl | exact wR_eq | exact wS_eq | exact wO_eq | exact wL_eq | exact wI_eq | (simp only [wR_eq, wS_eq, wO_eq, wL_eq, wI_eq, pnd_eq, pndS_eq, pndR_eq]; rfl)
theorem r_tup {Q : R D → Prop} : wR (eTup fs δ) Q = wL fs δ (tupK Q) := by first | exact (by simp only [wR_eq, wL_eq]; unfold eTup; cases evL fs δ with | bad => rfl | ex x y => rfl | ok a b => simp only [R.bind_ok, tupK]; split <;> rfl) | (simp only [wR_eq, wS_eq, wO_eq, wL_eq, wI_eq, pnd_eq, pndS_eq, pndR_eq]; rfl)
theorem r_tupk {Q : R D → Prop} {ds : List D} : tupK Q (.ok ds δ) = IfW (ds.length ≤ 100000) (Q (.ok (.tup ds) δ)) (Q .bad) := by rw [ifW_eq]; first | exact (rfl) | (simp only [wR_eq, wS_eq, wO_eq, wL_eq, wI_eq, pnd_eq, pndS_eq, pndR_eq]; first | rfl | (split <;> rfl))
theorem r_lst {Q : R D → Prop} : wR (eLst fs δ) Q = wL fs δ (lstK Q) := by first | exact (by simp only [wR_eq, wL_eq]; unfold eLst; cases evL fs δ with | bad => rfl | ex x y => rfl | ok a b => simp only [R.bind_ok, lstK]; split <;> rfl) | (simp only [wR_eq, wS_eq, wO_eq, wL_eq, wI_eq, pnd_eq, pndS_eq, pndR_eq]; rfl)
theorem r_lstk {Q : R D → Prop} {ds : List D} : lstK Q (.ok ds δ) = IfW (ds.length ≤ 100000) (Q (.ok (.lst true ds) δ)) (Q .bad) := by rw [ifW_eq]; first | exact (rfl) | (simp only [wR_eq, wS_eq, wO_eq, wL_eq, wI_eq, pnd_eq, pndS_eq, pndR_eq]; first | rfl | (split <;> rfl))
theorem r_if {Q : R D → Prop} : wR (eIf t f h δ) Q = wR (t δ) (ifK f h Q) := by first | exact (by simp only [wR_eq]; unfold eIf; cases t δ with | bad => rfl | ex x y => rfl | ok a b => simp only [R.bind_ok, ifK]; simp only [wR_eq]; split <;> rfl) | (simp only [wR_eq, wS_eq, wO_eq, wL_eq, wI_eq, pnd_eq, pndS_eq, pndR_eq]; rfl)
theorem r_ifkt {Q : R D → Prop} : ifK f h Q (.ok true δ) = wR (f δ) Q := by first | rfl | exact wR_eq | exact wS_eq | exact wO_eq | exact wL_eq | exact wI_eq | (simp only [wR_eq, wS_eq, wO_eq, wL_eq, wI_eq, pnd_eq, pndS_eq, pndR_eq]; rfl)
theorem r_ifkf {Q : R D → Prop} : ifK f h Q (.ok false δ) = wR (h δ) Q := by first | rfl | exact wR_eq | exact wS_eq | exact wO_eq | exact wL_eq | exact wI_eq | (simp only [wR_eq, wS_eq, wO_eq, wL_eq, wI_eq, pnd_eq, pndS_eq, pndR_eq]; rfl)
theorem r_ifku {Q : R D → Prop} {c : Prop} [Decidable c] : ifK f h Q (.ok (decide c) δ) = IfW (c) (pndR f δ Q) (pndR h δ Q) := by rw [ifW_eq]; first | exact (by by_cases hc : c <;> simp only [hc, decide_true, decide_false, if_true, if_false] <;> first | rfl | exact wR_eq | exact wS_eq | exact wR_eq.trans pndR_eq.symm | exact wS_eq.trans pndS_eq.symm | exact pnd_eq.symm | (simp only [wR_eq, wS_eq, pnd_eq, pndS_eq, pndR_eq]; rfl)) | (simp only [wR_eq, wS_eq, wO_eq, wL_eq, wI_eq, pnd_eq, pndS_eq, pndR_eq]; first | rfl | (split <;> rfl))
theorem r_ifkn {Q : R D → Prop} {c : Prop} [Decidable c] : ifK f h Q (.ok (!decide c) δ) = IfW (c) (pndR h δ Q) (pndR f δ Q) := by rw [ifW_eq]; first | exact (by by_cases hc : c <;> simp only [hc, decide_true, decide_false, if_true, if_false, Bool.not_true, Bool.not_false] <;> first | rfl | exact wR_eq | exact wS_eq | exact wR_eq.trans pndR_eq.symm | exact wS_eq.trans pndS_eq.symm | exact pnd_eq.symm | (simp only [wR_eq, wS_eq, pnd_eq, pndS_eq, pndR_eq]; rfl)) | (simp only [wR_eq, wS_eq, wO_eq, wL_eq, wI_eq, pnd_eq, pndS_eq, pndR_eq]; first | rfl | (split <;> rfl))
theorem r_an {Q : R D → Prop} : wR (eAn f h δ) Q = wR (f δ) (anK h Q) := by first | exact (by simp only [wR_eq]; unfold eAn; cases f δ with | bad => rfl | ex x y => rfl | ok a b => cases a with | bl c => (cases c <;> first | rfl | exact wR_eq.symm) | _ => rfl) | (simp only [wR_eq, wS_eq, wO_eq, wL_eq, wI_eq, pnd_eq, pndS_eq, pndR_eq]; rfl)
theorem r_ankt {Q : R D → Prop} : anK h Q (.ok (.bl true) δ) = wR (h δ) Q := by first | rfl | exact wR_eq | exact wS_eq | exact wO_eq | exact wL_eq | exact wI_eq | (simp only [wR_eq, wS_eq, wO_eq, wL_eq, wI_eq, pnd_eq, pndS_eq, pndR_eq]; rfl)
theorem r_ankf {Q : R D → Prop} : anK h Q (.ok (.bl false) δ) = Q (.ok (.bl false) δ) := by first | rfl | exact wR_eq | exact wS_eq | exact wO_eq | exact wL_eq | exact wI_eq | (simp only [wR_eq, wS_eq, wO_eq, wL_eq, wI_eq, pnd_eq, pndS_eq, pndR_eq]; rfl)
theorem r_anku {Q : R D → Prop} {c : Prop} [Decidable c] : anK h Q (.ok (.bl (decide c)) δ) = IfW (c) (pndR h δ Q) (pnd (.ok (.bl false) δ) Q) := by rw [ifW_eq]; first | exact (by by_cases hc : c <;> simp only [hc, decide_true, decide_false, if_true, if_false] <;> first | rfl | exact wR_eq | exact wS_eq | exact wR_eq.trans pndR_eq.symm | exact wS_eq.trans pndS_eq.symm | exact pnd_eq.symm | (simp only [wR_eq, wS_eq, pnd_eq, pndS_eq, pndR_eq]; rfl)) | (simp only [wR_eq, wS_eq, wO_eq, wL_eq, wI_eq, pnd_eq, pndS_eq, pndR_eq]; first | rfl | (split <;> rfl))
theorem r_ankn {Q : R D → Prop} {c : Prop} [Decidable c] : anK h Q (.ok (.bl (!decide c)) δ) = IfW (c) (pnd (.ok (.bl false) δ) Q) (pndR h δ Q) := by rw [ifW_eq]; first | exact (by by_cases hc : c <;> simp only [hc, decide_true, decide_false, if_true, if_false, Bool.not_true, Bool.not_false] <;> first | rfl | exact wR_eq | exact wS_eq | exact wR_eq.trans pndR_eq.symm | exact wS_eq.trans pndS_eq.symm | exact pnd_eq.symm | (simp only [wR_eq, wS_eq, pnd_eq, pndS_eq, pndR_eq]; rfl)) | (simp only [wR_eq, wS_eq, wO_eq, wL_eq, wI_eq, pnd_eq, pndS_eq, pndR_eq]; first | rfl | (split <;> rfl))
theorem r_or {Q : R D → Prop} : wR (eOr f h δ) Q = wR (f δ) (orK h Q) := by first | exact (by simp only [wR_eq]; unfold eOr; cases f δ with | bad => rfl | ex x y => rfl | ok a b => cases a with | bl c => (cases c <;> first | rfl | exact wR_eq.symm) | _ => rfl) | (simp only [wR_eq, wS_eq, wO_eq, wL_eq, wI_eq, pnd_eq, pndS_eq, pndR_eq]; rfl)
theorem r_orkt {Q : R D → Prop} : orK h Q (.ok (.bl true) δ) = Q (.ok (.bl true) δ) := by first | rfl | exact wR_eq | exact wS_eq | exact wO_eq | exact wL_eq | exact wI_eq | (simp only [wR_eq, wS_eq, wO_eq, wL_eq, wI_eq, pnd_eq, pndS_eq, pndR_eq]; rfl)
theorem r_orkf {Q : R D → Prop} : orK h Q (.ok (.bl false) δ) = wR (h δ) Q := by first | rfl | exact wR_eq | exact wS_eq | exact wO_eq | exact wL_eq | exact wI_eq | (simp only [wR_eq, wS_eq, wO_eq, wL_eq, wI_eq, pnd_eq, pndS_eq, pndR_eq]; rfl)
theorem r_orku {Q : R D → Prop} {c : Prop} [Decidable c] : orK h Q (.ok (.bl (decide c)) δ) = IfW (c) (pnd (.ok (.bl true) δ) Q) (pndR h δ Q) := by rw [ifW_eq]; first | exact (by by_cases hc : c <;> simp only [hc, decide_true, decide_false, if_true, if_false] <;> first | rfl | exact wR_eq | exact wS_eq | exact wR_eq.trans pndR_eq.symm | exact wS_eq.trans pndS_eq.symm | exact pnd_eq.symm | (simp only [wR_eq, wS_eq, pnd_eq, pndS_eq, pndR_eq]; rfl)) | (simp only [wR_eq, wS_eq, wO_eq, wL_eq, wI_eq, pnd_eq, pndS_eq, pndR_eq]; first | rfl | (split <;> rfl))
theorem r_orkn {Q : R D → Prop} {c : Prop} [Decidable c] : orK h Q (.ok (.bl (!decide c)) δ) = IfW (c) (pndR h δ Q) (pnd (.ok (.bl true) δ) Q) := by rw [ifW_eq]; first | exact (by by_cases hc : c <;> simp only [hc, decide_true, decide_false, if_true, if_false, Bool.not_true, Bool.not_false] <;> first | rfl | exact wR_eq | exact wS_eq | exact wR_eq.trans pndR_eq.symm | exact wS_eq.trans pndS_eq.symm | exact pnd_eq.symm | (simp only [wR_eq, wS_eq, pnd_eq, pndS_eq, pndR_eq]; rfl)) | (simp only [wR_eq, wS_eq, wO_eq, wL_eq, wI_eq, pnd_eq, pndS_eq, pndR_eq]; first | rfl | (split <;> rfl))
theorem r_bb {Q : R Bool → Prop} : wR (eB f δ) Q = wR (f δ) (bbK Q) := by first | exact (by simp only [wR_eq]; unfold eB; cases f δ with | bad => rfl | ex x y => rfl | ok a b => cases a <;> rfl) | (simp only [wR_eq, wS_eq, wO_eq, wL_eq, wI_eq, pnd_eq, pndS_eq, pndR_eq]; rfl)
theorem r_bbk {Q : R Bool → Prop} {b : Bool} : bbK Q (.ok (.bl b) δ) = Q (.ok b δ) := by first | rfl | exact wR_eq | exact wS_eq | exact wO_eq | exact wL_eq | exact wI_eq | (simp only [wR_eq, wS_eq, wO_eq, wL_eq, wI_eq, pnd_eq, pndS_eq, pndR_eq]; rfl)
theorem r_nt {Q : R Bool → Prop} : wR (tNt t δ) Q = wR (t δ) (ntK Q) := by first | exact (by simp only [wR_eq]; unfold tNt; cases t δ <;> rfl) | (simp only [wR_eq, wS_eq, wO_eq, wL_eq, wI_eq, pnd_eq, pndS_eq, pndR_eq]; rfl)
theorem r_ntk {Q : R Bool → Prop} {b : Bool} : ntK Q (.ok b δ) = Q (.ok (!b) δ) := by first | rfl | exact wR_eq | exact wS_eq | exact wO_eq | exact wL_eq | exact wI_eq | (simp only [wR_eq, wS_eq, wO_eq, wL_eq, wI_eq, pnd_eq, pndS_eq, pndR_eq]; rfl)
theorem r_tan {Q : R Bool → Prop} : wR (tAn t u δ) Q = wR (t δ) (anT u Q) := by first | exact (by simp only [wR_eq]; unfold tAn; cases t δ with | bad => rfl | ex x y => rfl | ok a b => simp only [R.bind_ok, anT]; simp only [wR_eq]; split <;> rfl) | (simp only [wR_eq, wS_eq, wO_eq, wL_eq, wI_eq, pnd_eq, pndS_eq, pndR_eq]; rfl)
theorem r_tankt {Q : R Bool → Prop} : anT u Q (.ok true δ) = wR (u δ) Q := by first | rfl | exact wR_eq | exact wS_eq | exact wO_eq | exact wL_eq | exact wI_eq | (simp only [wR_eq, wS_eq, wO_eq, wL_eq, wI_eq, pnd_eq, pndS_eq, pndR_eq]; rfl)
theorem r_tankf {Q : R Bool → Prop} : anT u Q (.ok false δ) = Q (.ok false δ) := by first | rfl | exact wR_eq | exact wS_eq | exact wO_eq | exact wL_eq | exact wI_eq | (simp only [wR_eq, wS_eq, wO_eq, wL_eq, wI_eq, pnd_eq, pndS_eq, pndR_eq]; rfl)
theorem r_tanku {Q : R Bool → Prop} {c : Prop} [Decidable c] : anT u Q (.ok (decide c) δ) = IfW (c) (pndR u δ Q) (pnd (.ok false δ) Q) := by rw [ifW_eq]; first | exact (by by_cases hc : c <;> simp only [hc, decide_true, decide_false, if_true, if_false] <;> first | rfl | exact wR_eq | exact wS_eq | exact wR_eq.trans pndR_eq.symm | exact wS_eq.trans pndS_eq.symm | exact pnd_eq.symm | (simp only [wR_eq, wS_eq, pnd_eq, pndS_eq, pndR_eq]; rfl)) | (simp only [wR_eq, wS_eq, wO_eq, wL_eq, wI_eq, pnd_eq, pndS_eq, pndR_eq]; first | rfl | (split <;> rfl))
theorem r_tankn {Q : R Bool → Prop} {c : Prop} [Decidable c] : anT u Q (.ok (!decide c) δ) = IfW (c) (pnd (.ok false δ) Q) (pndR u δ Q) := by rw [ifW_eq]; first | exact (by by_cases hc : c <;> simp only [hc, decide_true, decide_false, if_true, if_false, Bool.not_true, Bool.not_false] <;> first | rfl | exact wR_eq | exact wS_eq | exact wR_eq.trans pndR_eq.symm | exact wS_eq.trans pndS_eq.symm | exact pnd_eq.symm | (simp only [wR_eq, wS_eq, pnd_eq, pndS_eq, pndR_eq]; rfl)) | (simp only [wR_eq, wS_eq, wO_eq, wL_eq, wI_eq, pnd_eq, pndS_eq, pndR_eq]; first | rfl | (split <;> rfl))
theorem r_tor {Q : R Bool → Prop} : wR (tOrr t u δ) Q = wR (t δ) (orT u Q) := by first | exact (by simp only [wR_eq]; unfold tOrr; cases t δ with | bad => rfl | ex x y => rfl | ok a b => simp only [R.bind_ok, orT]; simp only [wR_eq]; split <;> rfl) | (simp only [wR_eq, wS_eq, wO_eq, wL_eq, wI_eq, pnd_eq, pndS_eq, pndR_eq]; rfl)
theorem r_torkt {Q : R Bool → Prop} : orT u Q (.ok true δ) = Q (.ok true δ) := by first | rfl | exact wR_eq | exact wS_eq | exact wO_eq | exact wL_eq | exact wI_eq | (simp only [wR_eq, wS_eq, wO_eq, wL_eq, wI_eq, pnd_eq, pndS_eq, pndR_eq]; rfl)
theorem r_torkf {Q : R Bool → Prop} : orT u Q (.ok false δ) = wR (u δ) Q := by first | rfl | exact wR_eq | exact wS_eq | exact wO_eq | exact wL_eq | exact wI_eq | (simp only [wR_eq, wS_eq, wO_eq, wL_eq, wI_eq, pnd_eq, pndS_eq, pndR_eq]; rfl)
theorem r_torku {Q : R Bool → Prop} {c : Prop} [Decidable c] : orT u Q (.ok (decide c) δ) = IfW (c) (pnd (.ok true δ) Q) (pndR u δ Q) := by rw [ifW_eq]; first | exact (by by_cases hc : c <;> simp only [hc, decide_true, decide_false, if_true, if_false] <;> first | rfl | exact wR_eq | exact wS_eq | exact wR_eq.trans pndR_eq.symm | exact wS_eq.trans pndS_eq.symm | exact pnd_eq.symm | (simp only [wR_eq, wS_eq, pnd_eq, pndS_eq, pndR_eq]; rfl)) | (simp only [wR_eq, wS_eq, wO_eq, wL_eq, wI_eq, pnd_eq, pndS_eq, pndR_eq]; first | rfl | (split <;> rfl))
theorem r_torkn {Q : R Bool → Prop} {c : Prop} [Decidable c] : orT u Q (.ok (!decide c) δ) = IfW (c) (pndR u δ Q) (pnd (.ok true δ) Q) := by rw [ifW_eq]; first | exact (by by_cases hc : c <;> simp only [hc, decide_true, decide_false, if_true, if_false, Bool.not_true, Bool.not_false] <;> first | rfl | exact wR_eq | exact wS_eq | exact wR_eq.trans pndR_eq.symm | exact wS_eq.trans pndS_eq.symm | exact pnd_eq.symm | (simp only [wR_eq, wS_eq, pnd_eq, pndS_eq, pndR_eq]; rfl)) | (simp only [wR_eq, wS_eq, wO_eq, wL_eq, wI_eq, pnd_eq, pndS_eq, pndR_eq]; first | rfl | (split <;> rfl))
theorem r_en {Q : R D → Prop} : wR (eNt f δ) Q = wR (f δ) (enK Q) := by first | exact (by simp only [wR_eq]; unfold eNt; cases f δ with | bad => rfl | ex x y => rfl | ok a b => cases a <;> rfl) | (simp only [wR_eq, wS_eq, wO_eq, wL_eq, wI_eq, pnd_eq, pndS_eq, pndR_eq]; rfl)
theorem r_enk {Q : R D → Prop} {b : Bool} : enK Q (.ok (.bl b) δ) = Q (.ok (.bl (!b)) δ) := by first | rfl | exact wR_eq | exact wS_eq | exact wO_eq | exact wL_eq | exact wI_eq | (simp only [wR_eq, wS_eq, wO_eq, wL_eq, wI_eq, pnd_eq, pndS_eq, pndR_eq]; rfl)
theorem r_fz {Q : R D → Prop} : wR (eFrz f δ) Q = wR (f δ) (fzK Q) := by first | exact (by simp only [wR_eq]; unfold eFrz; cases f δ <;> rfl) | (simp only [wR_eq, wS_eq, wO_eq, wL_eq, wI_eq, pnd_eq, pndS_eq, pndR_eq]; rfl)
theorem r_fzk {Q : R D → Prop} : fzK Q (.ok d δ) = Q (.ok (freeze d) δ) := by first | rfl | exact wR_eq | exact wS_eq | exact wO_eq | exact wL_eq | exact wI_eq | (simp only [wR_eq, wS_eq, wO_eq, wL_eq, wI_eq, pnd_eq, pndS_eq, pndR_eq]; rfl)
end
def chK (k k' : List D → Option D) (oc : Od) (Q : R D → Prop) : R (List OV) → Prop
  | .ok xs δ => Q (match resL δ xs with
    | some [d, .int j] => match k [d, .int j] with
      | some (.bl true) => eOps k' [.val (eC (.int j)), oc] δ
      | some (.bl false) => .ok (.bl false) δ
      | _ => .bad
    | _ => .bad)
  | .ex x δ => Q (.ex x δ)
  | .bad => Q .bad
def ch2 (k k' : List D → Option D) (oc : Od) (ds : Option (List D)) (δ : Env) (Q : R D → Prop) : Prop := Q (match ds with
    | some [d, .int j] => match k [d, .int j] with
      | some (.bl true) => eOps k' [.val (eC (.int j)), oc] δ
      | some (.bl false) => .ok (.bl false) δ
      | _ => .bad
    | _ => .bad)
def ch3 (k' : List D → Option D) (oc : Od) (j : Int) (b : Option D) (δ : Env) (Q : R D → Prop) : Prop := Q (match b with
      | some (.bl true) => eOps k' [.val (eC (.int j)), oc] δ
      | some (.bl false) => .ok (.bl false) δ
      | _ => .bad)
def slK (lo hi : Option Ev) (Q : R D → Prop) : R OV → Prop
  | .ok x δ => wR (evI lo δ) (sl2 x hi Q)
  | .ex x δ => Q (.ex x δ)
  | .bad => Q .bad
where
  sl2 (x : OV) (hi : Option Ev) (Q : R D → Prop) : R (Option Int) → Prop
    | .ok l δ => wR (evI hi δ) (sl3 x l Q)
    | .ex x δ => Q (.ex x δ)
    | .bad => Q .bad
  sl3 (x : OV) (l : Option Int) (Q : R D → Prop) : R (Option Int) → Prop
    | .ok h δ => sl4 (resO δ x) l h δ Q
    | .ex x δ => Q (.ex x δ)
    | .bad => Q .bad
  sl4 (d : Option D) (l h : Option Int) (δ : Env) (Q : R D → Prop) : Prop := match d with
    | some d => ops3 (cutsD d l h) δ Q
    | none => Q .bad
def inK (Q : R (Option Int) → Prop) : R D → Prop
  | .ok (.int i) δ => Q (.ok (some i) δ)
  | .ok _ _ => Q .bad
  | .ex x δ => Q (.ex x δ)
  | .bad => Q .bad
def odK (Q : R OV → Prop) : R D → Prop
  | .ok d δ => Q (.ok (.tmp d) δ)
  | .ex x δ => Q (.ex x δ)
  | .bad => Q .bad
def odV (d : Option D) (i : Nat) (δ : Env) (Q : R OV → Prop) : Prop := match d with
  | some _ => Q (.ok (.late i) δ)
  | none => Q .bad
section
variable {δ : Env} {d : D} {i : Nat} {f : Ev} {o oa ob oc : Od} {lo hi : Option Ev} {k k' : List D → Option D}
theorem r_ch {Q : R D → Prop} : wR (eChain k k' oa ob oc δ) Q = wO [oa, ob] δ (chK k k' oc Q) := by first | exact (by simp only [wR_eq, wO_eq]; unfold eChain; cases evOds [oa, ob] δ with | bad => rfl | ex x y => rfl | ok a b => rfl) | (simp only [wR_eq, wS_eq, wO_eq, wL_eq, wI_eq, pnd_eq, pndS_eq, pndR_eq]; rfl)
theorem r_chk {Q : R D → Prop} {xs : List OV} : chK k k' oc Q (.ok xs δ) = ch2 k k' oc (resL δ xs) δ Q := by first | rfl | exact wR_eq | exact wS_eq | exact wO_eq | exact wL_eq | exact wI_eq | (simp only [wR_eq, wS_eq, wO_eq, wL_eq, wI_eq, pnd_eq, pndS_eq, pndR_eq]; rfl)
theorem r_ch2 {Q : R D → Prop} {j : Int} : ch2 k k' oc (some [d, .int j]) δ Q = ch3 k' oc j (k [d, .int j]) δ Q := by first | rfl | exact wR_eq | exact wS_eq | exact wO_eq | exact wL_eq | exact wI_eq | (simp only [wR_eq, wS_eq, wO_eq, wL_eq, wI_eq, pnd_eq, pndS_eq, pndR_eq]; rfl)
theorem r_ch3t {Q : R D → Prop} {j : Int} : ch3 k' oc j (some (.bl true)) δ Q = wR (eOps k' [.val (eC (.int j)), oc] δ) Q := by first | rfl | exact wR_eq | exact wS_eq | exact wO_eq | exact wL_eq | exact wI_eq | (simp only [wR_eq, wS_eq, wO_eq, wL_eq, wI_eq, pnd_eq, pndS_eq, pndR_eq]; rfl)
theorem r_ch3f {Q : R D → Prop} {j : Int} : ch3 k' oc j (some (.bl false)) δ Q = Q (.ok (.bl false) δ) := by first | rfl | exact wR_eq | exact wS_eq | exact wO_eq | exact wL_eq | exact wI_eq | (simp only [wR_eq, wS_eq, wO_eq, wL_eq, wI_eq, pnd_eq, pndS_eq, pndR_eq]; rfl)
theorem r_ch3u {Q : R D → Prop} {j : Int} {c : Prop} [Decidable c] : ch3 k' oc j (some (.bl (decide c))) δ Q = IfW (c) (pndR (eOps k' [.val (eC (.int j)), oc]) δ Q) (pnd (.ok (.bl false) δ) Q) := by rw [ifW_eq]; first | exact (by by_cases hc : c <;> simp only [hc, decide_true, decide_false, if_true, if_false] <;> first | rfl | exact wR_eq | exact wS_eq | exact wR_eq.trans pndR_eq.symm | exact wS_eq.trans pndS_eq.symm | exact pnd_eq.symm | (simp only [wR_eq, wS_eq, pnd_eq, pndS_eq, pndR_eq]; rfl)) | (simp only [wR_eq, wS_eq, wO_eq, wL_eq, wI_eq, pnd_eq, pndS_eq, pndR_eq]; first | rfl | (split <;> rfl))
theorem r_ch3n {Q : R D → Prop} {j : Int} {c : Prop} [Decidable c] : ch3 k' oc j (some (.bl (!decide c))) δ Q = IfW (c) (pnd (.ok (.bl false) δ) Q) (pndR (eOps k' [.val (eC (.int j)), oc]) δ Q) := by rw [ifW_eq]; first | exact (by by_cases hc : c <;> simp only [hc, decide_true, decide_false, if_true, if_false, Bool.not_true, Bool.not_false] <;> first | rfl | exact wR_eq | exact wS_eq | exact wR_eq.trans pndR_eq.symm | exact wS_eq.trans pndS_eq.symm | exact pnd_eq.symm | (simp only [wR_eq, wS_eq, pnd_eq, pndS_eq, pndR_eq]; rfl)) | (simp only [wR_eq, wS_eq, wO_eq, wL_eq, wI_eq, pnd_eq, pndS_eq, pndR_eq]; first | rfl | (split <;> rfl))
theorem r_sl {Q : R D → Prop} : wR (eSl o lo hi δ) Q = wR (evOd o δ) (slK lo hi Q) := by
  simp only [wR_eq]; unfold eSl
  cases evOd o δ with
  | bad => rfl
  | ex x y => rfl
  | ok x δ0 =>
    simp only [R.bind_ok, slK]
    simp only [wR_eq]
    cases evI lo δ0 with
    | bad => rfl
    | ex x y => rfl
    | ok l δ1 =>
      simp only [R.bind_ok, slK.sl2]
      simp only [wR_eq]
      cases evI hi δ1 with
      | bad => rfl
      | ex x y => rfl
      | ok h δ2 =>
        simp only [R.bind_ok, slK.sl3]
        cases resO δ2 x with
        | none => rfl
        | some d => simp only [slK.sl4, ops3] <;> (cases cutsD d l h <;> rfl)
theorem r_slk {Q : R D → Prop} {x : OV} : slK lo hi Q (.ok x δ) = wR (evI lo δ) (slK.sl2 x hi Q) := by first | rfl | exact wR_eq | exact wS_eq | exact wO_eq | exact wL_eq | exact wI_eq | (simp only [wR_eq, wS_eq, wO_eq, wL_eq, wI_eq, pnd_eq, pndS_eq, pndR_eq]; rfl)
theorem r_sl2 {Q : R D → Prop} {x : OV} {l : Option Int} : slK.sl2 x hi Q (.ok l δ) = wR (evI hi δ) (slK.sl3 x l Q) := by first | rfl | exact wR_eq | exact wS_eq | exact wO_eq | exact wL_eq | exact wI_eq | (simp only [wR_eq, wS_eq, wO_eq, wL_eq, wI_eq, pnd_eq, pndS_eq, pndR_eq]; rfl)
theorem r_sl3 {Q : R D → Prop} {x : OV} {l h : Option Int} : slK.sl3 x l Q (.ok h δ) = slK.sl4 (resO δ x) l h δ Q := by first | rfl | exact wR_eq | exact wS_eq | exact wO_eq | exact wL_eq | exact wI_eq | (simp only [wR_eq, wS_eq, wO_eq, wL_eq, wI_eq, pnd_eq, pndS_eq, pndR_eq]; rfl)
theorem r_sl4 {Q : R D → Prop} {l h : Option Int} : slK.sl4 (some d) l h δ Q = ops3 (cutsD d l h) δ Q := by first | rfl | exact wR_eq | exact wS_eq | exact wO_eq | exact wL_eq | exact wI_eq | (simp only [wR_eq, wS_eq, wO_eq, wL_eq, wI_eq, pnd_eq, pndS_eq, pndR_eq]; rfl)
theorem r_in {Q : R (Option Int) → Prop} : wR (evI none δ) Q = Q (.ok none δ) := by first | rfl | exact wR_eq | exact wS_eq | exact wO_eq | exact wL_eq | exact wI_eq | (simp only [wR_eq, wS_eq, wO_eq, wL_eq, wI_eq, pnd_eq, pndS_eq, pndR_eq]; rfl)
theorem r_is {Q : R (Option Int) → Prop} : wR (evI (some f) δ) Q = wR (f δ) (inK Q) := by first | exact (by simp only [wR_eq]; rw [evI]; cases f δ with | bad => rfl | ex x y => rfl | ok a b => cases a <;> rfl) | (simp only [wR_eq, wS_eq, wO_eq, wL_eq, wI_eq, pnd_eq, pndS_eq, pndR_eq]; rfl)
theorem r_ink {Q : R (Option Int) → Prop} {z : Int} : inK Q (.ok (.int z) δ) = Q (.ok (some z) δ) := by first | rfl | exact wR_eq | exact wS_eq | exact wO_eq | exact wL_eq | exact wI_eq | (simp only [wR_eq, wS_eq, wO_eq, wL_eq, wI_eq, pnd_eq, pndS_eq, pndR_eq]; rfl)
theorem r_odf {Q : R OV → Prop} : wR (evOd (.val f) δ) Q = wR (f δ) (odK Q) := by first | exact (by simp only [wR_eq]; rw [evOd]; cases f δ <;> rfl) | (simp only [wR_eq, wS_eq, wO_eq, wL_eq, wI_eq, pnd_eq, pndS_eq, pndR_eq]; rfl)
theorem r_odk {Q : R OV → Prop} : odK Q (.ok d δ) = Q (.ok (.tmp d) δ) := by first | rfl | exact wR_eq | exact wS_eq | exact wO_eq | exact wL_eq | exact wI_eq | (simp only [wR_eq, wS_eq, wO_eq, wL_eq, wI_eq, pnd_eq, pndS_eq, pndR_eq]; rfl)
theorem r_odv {Q : R OV → Prop} : wR (evOd (.var i) δ) Q = odV (gt δ i) i δ Q := by first | exact (by simp only [wR_eq]; unfold odV; rw [evOd]; cases gt δ i <;> rfl) | (simp only [wR_eq, wS_eq, wO_eq, wL_eq, wI_eq, pnd_eq, pndS_eq, pndR_eq]; rfl)
theorem r_odvs {Q : R OV → Prop} : odV (some d) i δ Q = Q (.ok (.late i) δ) := by first | rfl | exact wR_eq | exact wS_eq | exact wO_eq | exact wL_eq | exact wI_eq | (simp only [wR_eq, wS_eq, wO_eq, wL_eq, wI_eq, pnd_eq, pndS_eq, pndR_eq]; rfl)
end
def seqK (h : Sv) (Q : RS → Prop) : RS → Prop
  | .nx δ => wS (h δ) Q
  | r => Q r
def sIfK (f h : Sv) (Q : RS → Prop) : R Bool → Prop
  | .ok b δ => if b = true then wS (f δ) Q else wS (h δ) Q
  | .ex x δ => Q (.ex x δ)
  | .bad => Q .bad
def retK (Q : RS → Prop) : R D → Prop
  | .ok d δ => Q (.rt d δ)
  | .ex x δ => Q (.ex x δ)
  | .bad => Q .bad
def expK (Q : RS → Prop) : R D → Prop
  | .ok _ δ => Q (.nx δ)
  | .ex x δ => Q (.ex x δ)
  | .bad => Q .bad
def setK (i : Nat) (Q : RS → Prop) : R D → Prop
  | .ok d δ => Q (.nx (st δ i (some d)))
  | .ex x δ => Q (.ex x δ)
  | .bad => Q .bad
def parK (i j : Nat) (Q : RS → Prop) : R (List D) → Prop
  | .ok [d, e] δ => Q (.nx (st (st δ i (some d)) j (some e)))
  | .ok _ _ => Q .bad
  | .ex x δ => Q (.ex x δ)
  | .bad => Q .bad
def asgK (t : Tg) (Q : RS → Prop) : R D → Prop
  | .ok d δ => asg2 (tgD t d δ) Q
  | .ex x δ => Q (.ex x δ)
  | .bad => Q .bad
where asg2 (δ : Option Env) (Q : RS → Prop) : Prop := match δ with
  | some δ2 => Q (.nx δ2)
  | none => Q .bad
def augD (ka : Int → Int → Option Int) (i : Nat) (f : Ev) (d : Option D) (δ : Env) (Q : RS → Prop) : Prop := match d with
  | some (.int n) => wR (f δ) (augK ka i n Q)
  | _ => Q .bad
where
  augK (ka : Int → Int → Option Int) (i : Nat) (n : Int) (Q : RS → Prop) : R D → Prop
    | .ok (.int m) δ => aug2 i (ka n m) δ Q
    | .ok _ _ => Q .bad
    | .ex x δ => Q (.ex x δ)
    | .bad => Q .bad
  aug2 (i : Nat) (r : Option Int) (δ : Env) (Q : RS → Prop) : Prop := match r with
    | some r => Q (.nx (st δ i (some (.int r))))
    | none => Q .bad
def stoK (k : D → D → D → Option D) (i : Nat) (fi : Ev) (Q : RS → Prop) : R D → Prop
  | .ok v δ => sto2 k i fi v (gt δ i) δ Q
  | .ex x δ => Q (.ex x δ)
  | .bad => Q .bad
where
  sto2 (k : D → D → D → Option D) (i : Nat) (fi : Ev) (v : D) (d : Option D) (δ : Env) (Q : RS → Prop) : Prop := match d with
    | some _ => wR (fi δ) (sto3 k i v Q)
    | none => Q .bad
  sto3 (k : D → D → D → Option D) (i : Nat) (v : D) (Q : RS → Prop) : R D → Prop
    | .ok kd δ => sto4 k i v kd (gt δ i) δ Q
    | .ex x δ => Q (.ex x δ)
    | .bad => Q .bad
  sto4 (k : D → D → D → Option D) (i : Nat) (v kd : D) (d : Option D) (δ : Env) (Q : RS → Prop) : Prop := match d with
    | some d => sto5 i (k d kd v) δ Q
    | none => Q .bad
  sto5 (i : Nat) (d : Option D) (δ : Env) (Q : RS → Prop) : Prop := match d with
    | some d' => Q (.nx (st δ i (some d')))
    | none => Q .bad
section
variable {δ : Env} {d : D} {i j : Nat} {f fv fi e1 e2 : Ev} {t : Tv} {s h : Sv}
theorem r_seq {Q : RS → Prop} : wS (sSeq s h δ) Q = wS (s δ) (seqK h Q) := by first | exact (by simp only [wS_eq]; unfold sSeq; cases s δ <;> first | rfl | exact wS_eq.symm) | (simp only [wR_eq, wS_eq, wO_eq, wL_eq, wI_eq, pnd_eq, pndS_eq, pndR_eq]; rfl)
theorem r_seqn {Q : RS → Prop} : seqK h Q (.nx δ) = wS (h δ) Q := by first | rfl | exact wR_eq | exact wS_eq | exact wO_eq | exact wL_eq | exact wI_eq | (simp only [wR_eq, wS_eq, wO_eq, wL_eq, wI_eq, pnd_eq, pndS_eq, pndR_eq]; rfl)
theorem r_seqr {Q : RS → Prop} : seqK h Q (.rt d δ) = Q (.rt d δ) := by first | rfl | exact wR_eq | exact wS_eq | exact wO_eq | exact wL_eq | exact wI_eq | (simp only [wR_eq, wS_eq, wO_eq, wL_eq, wI_eq, pnd_eq, pndS_eq, pndR_eq]; rfl)
theorem r_seqb {Q : RS → Prop} : seqK h Q (.bk δ) = Q (.bk δ) := by first | rfl | exact wR_eq | exact wS_eq | exact wO_eq | exact wL_eq | exact wI_eq | (simp only [wR_eq, wS_eq, wO_eq, wL_eq, wI_eq, pnd_eq, pndS_eq, pndR_eq]; rfl)
theorem r_seqc {Q : RS → Prop} : seqK h Q (.ct δ) = Q (.ct δ) := by first | rfl | exact wR_eq | exact wS_eq | exact wO_eq | exact wL_eq | exact wI_eq | (simp only [wR_eq, wS_eq, wO_eq, wL_eq, wI_eq, pnd_eq, pndS_eq, pndR_eq]; rfl)
theorem r_seqx {Q : RS → Prop} {x : Exn} : seqK h Q (.ex x δ) = Q (.ex x δ) := by first | rfl | exact wR_eq | exact wS_eq | exact wO_eq | exact wL_eq | exact wI_eq | (simp only [wR_eq, wS_eq, wO_eq, wL_eq, wI_eq, pnd_eq, pndS_eq, pndR_eq]; rfl)
theorem r_seqz {Q : RS → Prop} : seqK h Q .bad = Q .bad := by first | rfl | exact wR_eq | exact wS_eq | exact wO_eq | exact wL_eq | exact wI_eq | (simp only [wR_eq, wS_eq, wO_eq, wL_eq, wI_eq, pnd_eq, pndS_eq, pndR_eq]; rfl)
theorem r_skip {Q : RS → Prop} : wS (sSkip δ) Q = Q (.nx δ) := by first | rfl | exact wR_eq | exact wS_eq | exact wO_eq | exact wL_eq | exact wI_eq | (simp only [wR_eq, wS_eq, wO_eq, wL_eq, wI_eq, pnd_eq, pndS_eq, pndR_eq]; rfl)
theorem r_brk {Q : RS → Prop} : wS (sBrk δ) Q = Q (.bk δ) := by first | rfl | exact wR_eq | exact wS_eq | exact wO_eq | exact wL_eq | exact wI_eq | (simp only [wR_eq, wS_eq, wO_eq, wL_eq, wI_eq, pnd_eq, pndS_eq, pndR_eq]; rfl)
theorem r_cnt {Q : RS → Prop} : wS (sCnt δ) Q = Q (.ct δ) := by first | rfl | exact wR_eq | exact wS_eq | exact wO_eq | exact wL_eq | exact wI_eq | (simp only [wR_eq, wS_eq, wO_eq, wL_eq, wI_eq, pnd_eq, pndS_eq, pndR_eq]; rfl)
theorem r_retn {Q : RS → Prop} : wS (sRetN δ) Q = Q (.rt .non δ) := by first | rfl | exact wR_eq | exact wS_eq | exact wO_eq | exact wL_eq | exact wI_eq | (simp only [wR_eq, wS_eq, wO_eq, wL_eq, wI_eq, pnd_eq, pndS_eq, pndR_eq]; rfl)
theorem r_sif {Q : RS → Prop} : wS (sIf t s h δ) Q = wR (t δ) (sIfK s h Q) := by first | exact (by simp only [wS_eq, wR_eq]; unfold sIf; cases t δ with | bad => rfl | ex x y => rfl | ok a b => simp only [R.thn_ok, sIfK]; simp only [wS_eq]; split <;> rfl) | (simp only [wR_eq, wS_eq, wO_eq, wL_eq, wI_eq, pnd_eq, pndS_eq, pndR_eq]; rfl)
theorem r_sifkt {Q : RS → Prop} : sIfK s h Q (.ok true δ) = wS (s δ) Q := by first | rfl | exact wR_eq | exact wS_eq | exact wO_eq | exact wL_eq | exact wI_eq | (simp only [wR_eq, wS_eq, wO_eq, wL_eq, wI_eq, pnd_eq, pndS_eq, pndR_eq]; rfl)
theorem r_sifkf {Q : RS → Prop} : sIfK s h Q (.ok false δ) = wS (h δ) Q := by first | rfl | exact wR_eq | exact wS_eq | exact wO_eq | exact wL_eq | exact wI_eq | (simp only [wR_eq, wS_eq, wO_eq, wL_eq, wI_eq, pnd_eq, pndS_eq, pndR_eq]; rfl)
theorem r_sifku {Q : RS → Prop} {c : Prop} [Decidable c] : sIfK s h Q (.ok (decide c) δ) = IfW (c) (pndS s δ Q) (pndS h δ Q) := by rw [ifW_eq]; first | exact (by by_cases hc : c <;> simp only [hc, decide_true, decide_false, if_true, if_false] <;> first | rfl | exact wR_eq | exact wS_eq | exact wR_eq.trans pndR_eq.symm | exact wS_eq.trans pndS_eq.symm | exact pnd_eq.symm | (simp only [wR_eq, wS_eq, pnd_eq, pndS_eq, pndR_eq]; rfl)) | (simp only [wR_eq, wS_eq, wO_eq, wL_eq, wI_eq, pnd_eq, pndS_eq, pndR_eq]; first | rfl | (split <;> rfl))
theorem r_sifkn {Q : RS → Prop} {c : Prop} [Decidable c] : sIfK s h Q (.ok (!decide c) δ) = IfW (c) (pndS h δ Q) (pndS s δ Q) := by rw [ifW_eq]; first | exact (by by_cases hc : c <;> simp only [hc, decide_true, decide_false, if_true, if_false, Bool.not_true, Bool.not_false] <;> first | rfl | exact wR_eq | exact wS_eq | exact wR_eq.trans pndR_eq.symm | exact wS_eq.trans pndS_eq.symm | exact pnd_eq.symm | (simp only [wR_eq, wS_eq, pnd_eq, pndS_eq, pndR_eq]; rfl)) | (simp only [wR_eq, wS_eq, wO_eq, wL_eq, wI_eq, pnd_eq, pndS_eq, pndR_eq]; first | rfl | (split <;> rfl))
theorem r_ret {Q : RS → Prop} : wS (sRet f δ) Q = wR (f δ) (retK Q) := by first | exact (by simp only [wS_eq, wR_eq]; unfold sRet; cases f δ <;> rfl) | (simp only [wR_eq, wS_eq, wO_eq, wL_eq, wI_eq, pnd_eq, pndS_eq, pndR_eq]; rfl)
theorem r_retk {Q : RS → Prop} : retK Q (.ok d δ) = Q (.rt d δ) := by first | rfl | exact wR_eq | exact wS_eq | exact wO_eq | exact wL_eq | exact wI_eq | (simp only [wR_eq, wS_eq, wO_eq, wL_eq, wI_eq, pnd_eq, pndS_eq, pndR_eq]; rfl)
theorem r_exp {Q : RS → Prop} : wS (sExpr f δ) Q = wR (f δ) (expK Q) := by first | exact (by simp only [wS_eq, wR_eq]; unfold sExpr; cases f δ <;> rfl) | (simp only [wR_eq, wS_eq, wO_eq, wL_eq, wI_eq, pnd_eq, pndS_eq, pndR_eq]; rfl)
theorem r_expk {Q : RS → Prop} : expK Q (.ok d δ) = Q (.nx δ) := by first | rfl | exact wR_eq | exact wS_eq | exact wO_eq | exact wL_eq | exact wI_eq | (simp only [wR_eq, wS_eq, wO_eq, wL_eq, wI_eq, pnd_eq, pndS_eq, pndR_eq]; rfl)
theorem r_set {Q : RS → Prop} : wS (sSet i f δ) Q = wR (f δ) (setK i Q) := by first | exact (by simp only [wS_eq, wR_eq]; unfold sSet; cases f δ <;> rfl) | (simp only [wR_eq, wS_eq, wO_eq, wL_eq, wI_eq, pnd_eq, pndS_eq, pndR_eq]; rfl)
theorem r_setk {Q : RS → Prop} : setK i Q (.ok d δ) = Q (.nx (st δ i (some d))) := by first | rfl | exact wR_eq | exact wS_eq | exact wO_eq | exact wL_eq | exact wI_eq | (simp only [wR_eq, wS_eq, wO_eq, wL_eq, wI_eq, pnd_eq, pndS_eq, pndR_eq]; rfl)
theorem r_par {Q : RS → Prop} : wS (sPar i j e1 e2 δ) Q = wL [e1, e2] δ (parK i j Q) := by
  simp only [wS_eq, wL_eq]; unfold sPar
  cases evL [e1, e2] δ with
  | bad => rfl
  | ex x y => rfl
  | ok ds b =>
    simp only [R.thn_ok]
    match ds with
    | [] => rfl
    | [_] => rfl
    | [_, _] => rfl
    | _ :: _ :: _ :: _ => rfl
theorem r_park {Q : RS → Prop} {e : D} : parK i j Q (.ok [d, e] δ) = Q (.nx (st (st δ i (some d)) j (some e))) := by first | rfl | exact wR_eq | exact wS_eq | exact wO_eq | exact wL_eq | exact wI_eq | (simp only [wR_eq, wS_eq, wO_eq, wL_eq, wI_eq, pnd_eq, pndS_eq, pndR_eq]; rfl)
theorem r_asg {Q : RS → Prop} {g : Tg} : wS (sAsg g f δ) Q = wR (f δ) (asgK g Q) := by first | exact (by simp only [wS_eq, wR_eq]; unfold sAsg; cases f δ with | bad => rfl | ex x y => rfl | ok a b => simp only [R.thn_ok, asgK] <;> (cases tgD g a b <;> rfl)) | (simp only [wR_eq, wS_eq, wO_eq, wL_eq, wI_eq, pnd_eq, pndS_eq, pndR_eq]; rfl)
theorem r_asgk {Q : RS → Prop} {g : Tg} : asgK g Q (.ok d δ) = asgK.asg2 (tgD g d δ) Q := by first | rfl | exact wR_eq | exact wS_eq | exact wO_eq | exact wL_eq | exact wI_eq | (simp only [wR_eq, wS_eq, wO_eq, wL_eq, wI_eq, pnd_eq, pndS_eq, pndR_eq]; rfl)
theorem r_asg2 {Q : RS → Prop} : asgK.asg2 (some δ) Q = Q (.nx δ) := by first | rfl | exact wR_eq | exact wS_eq | exact wO_eq | exact wL_eq | exact wI_eq | (simp only [wR_eq, wS_eq, wO_eq, wL_eq, wI_eq, pnd_eq, pndS_eq, pndR_eq]; rfl)
theorem r_aug {Q : RS → Prop} {ka : Int → Int → Option Int} : wS (sAug ka i f δ) Q = augD ka i f (gt δ i) δ Q := by
  simp only [wS_eq]; unfold sAug augD
  cases gt δ i with
  | none => rfl
  | some d =>
    cases d with
    | int n =>
      simp only
      simp only [wR_eq]
      cases f δ with
      | bad => rfl
      | ex x y => rfl
      | ok a b =>
        cases a with
        | int m => simp only [R.thn_ok, augD.augK, augD.aug2] <;> (cases ka n m <;> rfl)
        | _ => rfl
    | _ => rfl
theorem r_augd {Q : RS → Prop} {ka : Int → Int → Option Int} {n : Int} : augD ka i f (some (.int n)) δ Q = wR (f δ) (augD.augK ka i n Q) := by first | rfl | exact wR_eq | exact wS_eq | exact wO_eq | exact wL_eq | exact wI_eq | (simp only [wR_eq, wS_eq, wO_eq, wL_eq, wI_eq, pnd_eq, pndS_eq, pndR_eq]; rfl)
theorem r_augk {Q : RS → Prop} {ka : Int → Int → Option Int} {n m : Int} : augD.augK ka i n Q (.ok (.int m) δ) = augD.aug2 i (ka n m) δ Q := by first | rfl | exact wR_eq | exact wS_eq | exact wO_eq | exact wL_eq | exact wI_eq | (simp only [wR_eq, wS_eq, wO_eq, wL_eq, wI_eq, pnd_eq, pndS_eq, pndR_eq]; rfl)
theorem r_aug2 {Q : RS → Prop} {n : Int} : augD.aug2 i (some n) δ Q = Q (.nx (st δ i (some (.int n)))) := by first | rfl | exact wR_eq | exact wS_eq | exact wO_eq | exact wL_eq | exact wI_eq | (simp only [wR_eq, wS_eq, wO_eq, wL_eq, wI_eq, pnd_eq, pndS_eq, pndR_eq]; rfl)
theorem r_sto {Q : RS → Prop} {k : D → D → D → Option D} : wS (sSto k i fv fi δ) Q = wR (fv δ) (stoK k i fi Q) := by
  simp only [wS_eq, wR_eq]; unfold sSto
  cases fv δ with
  | bad => rfl
  | ex x y => rfl
  | ok v δ1 =>
    simp only [R.thn_ok, stoK]
    cases gt δ1 i with
    | none => rfl
    | some d0 =>
      simp only [stoK.sto2]
      simp only [wR_eq]
      cases fi δ1 with
      | bad => rfl
      | ex x y => rfl
      | ok kd δ2 =>
        simp only [R.thn_ok, stoK.sto3]
        cases gt δ2 i with
        | none => rfl
        | some d => simp only [stoK.sto4] <;> (cases k d kd v <;> rfl)
theorem r_stok {Q : RS → Prop} {k : D → D → D → Option D} : stoK k i fi Q (.ok d δ) = stoK.sto2 k i fi d (gt δ i) δ Q := by first | rfl | exact wR_eq | exact wS_eq | exact wO_eq | exact wL_eq | exact wI_eq | (simp only [wR_eq, wS_eq, wO_eq, wL_eq, wI_eq, pnd_eq, pndS_eq, pndR_eq]; rfl)
theorem r_sto2 {Q : RS → Prop} {k : D → D → D → Option D} {v : D} : stoK.sto2 k i fi v (some d) δ Q = wR (fi δ) (stoK.sto3 k i v Q) := by first | rfl | exact wR_eq | exact wS_eq | exact wO_eq | exact wL_eq | exact wI_eq | (simp only [wR_eq, wS_eq, wO_eq, wL_eq, wI_eq, pnd_eq, pndS_eq, pndR_eq]; rfl)
theorem r_sto3 {Q : RS → Prop} {k : D → D → D → Option D} {v : D} : stoK.sto3 k i v Q (.ok d δ) = stoK.sto4 k i v d (gt δ i) δ Q := by first | rfl | exact wR_eq | exact wS_eq | exact wO_eq | exact wL_eq | exact wI_eq | (simp only [wR_eq, wS_eq, wO_eq, wL_eq, wI_eq, pnd_eq, pndS_eq, pndR_eq]; rfl)
theorem r_sto4 {Q : RS → Prop} {k : D → D → D → Option D} {v kd : D} : stoK.sto4 k i v kd (some d) δ Q = stoK.sto5 i (k d kd v) δ Q := by first | rfl | exact wR_eq | exact wS_eq | exact wO_eq | exact wL_eq | exact wI_eq | (simp only [wR_eq, wS_eq, wO_eq, wL_eq, wI_eq, pnd_eq, pndS_eq, pndR_eq]; rfl)
theorem r_sto5 {Q : RS → Prop} : stoK.sto5 i (some d) δ Q = Q (.nx (st δ i (some d))) := by first | rfl | exact wR_eq | exact wS_eq | exact wO_eq | exact wL_eq | exact wI_eq | (simp only [wR_eq, wS_eq, wO_eq, wL_eq, wI_eq, pnd_eq, pndS_eq, pndR_eq]; rfl)
end
def endF (a : As) (m : Nat) : RS → R D
  | .rt d δ => .ok d (outP a 0 m δ)
  | .nx δ => .ok .non (outP a 0 m δ)
  | .ex x δ => .ex x (outP a 0 m δ)
  | _ => .bad
def endK (a : As) (m : Nat) (Q : R D → Prop) (r : RS) : Prop := Q (endF a m r)
def callK (fn : Fn) (n : Nat) (src : List Sr) (dv : List D) (Q : R D → Prop) : R (List OV) → Prop
  | .ok xs δ => call2 fn n src dv (prep δ xs) δ Q
  | .ex x δ => Q (.ex x δ)
  | .bad => Q .bad
where
  call2 (fn : Fn) (n : Nat) (src : List Sr) (dv : List D) (as : Option (List Arg)) (δ : Env) (Q : R D → Prop) : Prop := match as with
    | some as => if (owns as).Nodup then call3 fn (permA n dv as src) δ Q else Q .bad
    | none => Q .bad
  call3 (fn : Fn) (ps : Option (List Arg)) (δ : Env) (Q : R D → Prop) : Prop := match ps with
    | some ps => if (owns ps).Nodup then wR (fn (argE ps)) (backK ps δ Q) else Q .bad
    | none => Q .bad
  backK (ps : List Arg) (δ : Env) (Q : R D → Prop) : R D → Prop
    | .ok d ε => Q (.ok d (wb ε 0 ps (outL (owns ps) δ)))
    | .ex x ε => Q (.ex x (wb ε 0 ps (outL (owns ps) δ)))
    | .bad => Q .bad
section
variable {δ : Env} {d : D} {fn : Fn} {n : Nat} {src : List Sr} {dv : List D} {os : List Od}
theorem r_endr {Q : R D → Prop} {a : As} {m : Nat} : endK a m Q (.rt d δ) = Q (.ok d (outP a 0 m δ)) := by first | rfl | exact wR_eq | exact wS_eq | exact wO_eq | exact wL_eq | exact wI_eq | (simp only [wR_eq, wS_eq, wO_eq, wL_eq, wI_eq, pnd_eq, pndS_eq, pndR_eq]; rfl)
theorem r_endn {Q : R D → Prop} {a : As} {m : Nat} : endK a m Q (.nx δ) = Q (.ok .non (outP a 0 m δ)) := by first | rfl | exact wR_eq | exact wS_eq | exact wO_eq | exact wL_eq | exact wI_eq | (simp only [wR_eq, wS_eq, wO_eq, wL_eq, wI_eq, pnd_eq, pndS_eq, pndR_eq]; rfl)
theorem r_call {Q : R D → Prop} : wR (callE fn n src dv os δ) Q = wO os δ (callK fn n src dv Q) := by
  simp only [wR_eq, wO_eq]; unfold callE
  cases evOds os δ with
  | bad => rfl
  | ex x y => rfl
  | ok xs δ1 =>
    simp only [R.bind_ok, callK]
    cases prep δ1 xs with
    | none => rfl
    | some as =>
      simp only [callK.call2, callF]
      by_cases h : (owns as).Nodup
      · simp only [if_pos h]
        cases permA n dv as src with
        | none => rfl
        | some ps =>
          simp only [callK.call3, fin]
          by_cases h2 : (owns ps).Nodup
          · simp only [if_pos h2]
            simp only [wR_eq]
            cases fn (argE ps) <;> rfl
          · simp only [if_neg h2]
      · simp only [if_neg h]
theorem r_callk {Q : R D → Prop} {xs : List OV} : callK fn n src dv Q (.ok xs δ) = callK.call2 fn n src dv (prep δ xs) δ Q := by first | rfl | exact wR_eq | exact wS_eq | exact wO_eq | exact wL_eq | exact wI_eq | (simp only [wR_eq, wS_eq, wO_eq, wL_eq, wI_eq, pnd_eq, pndS_eq, pndR_eq]; rfl)
theorem r_call2 {Q : R D → Prop} {as : List Arg} : callK.call2 fn n src dv (some as) δ Q = IfW ((owns as).Nodup) (callK.call3 fn (permA n dv as src) δ Q) (Q .bad) := by rw [ifW_eq]; first | exact (rfl) | (simp only [wR_eq, wS_eq, wO_eq, wL_eq, wI_eq, pnd_eq, pndS_eq, pndR_eq]; first | rfl | (split <;> rfl))
theorem r_call3 {Q : R D → Prop} {ps : List Arg} : callK.call3 fn (some ps) δ Q = IfW ((owns ps).Nodup) (wR (fn (argE ps)) (callK.backK ps δ Q)) (Q .bad) := by rw [ifW_eq]; first | exact (rfl) | (simp only [wR_eq, wS_eq, wO_eq, wL_eq, wI_eq, pnd_eq, pndS_eq, pndR_eq]; first | rfl | (split <;> rfl))
theorem r_back {Q : R D → Prop} {ps : List Arg} {ε : Env} : callK.backK ps δ Q (.ok d ε) = Q (.ok d (wb ε 0 ps (outL (owns ps) δ))) := by first | rfl | exact wR_eq | exact wS_eq | exact wO_eq | exact wL_eq | exact wI_eq | (simp only [wR_eq, wS_eq, wO_eq, wL_eq, wI_eq, pnd_eq, pndS_eq, pndR_eq]; rfl)
theorem prep_nil : prep δ [] = some [] := rfl
theorem prep_tmp {xs : List OV} {as : List Arg} (h : prep δ xs = some as) : prep δ (.tmp d :: xs) = some (⟨d, none⟩ :: as) := by unfold prep; rw [h]
end
def mutD (T : String) (k : D → List D → Option (D × D)) (i : Nat) (fs : List Ev) (d : Option D) (δ : Env) (Q : R D → Prop) : Prop := match d with
  | some d => if tyM d = some T then wL fs δ (mutK k i Q) else Q .bad
  | none => Q .bad
where
  mutK (k : D → List D → Option (D × D)) (i : Nat) (Q : R D → Prop) : R (List D) → Prop
    | .ok ds δ => mut2 k i ds (gt δ i) δ Q
    | .ex x δ => Q (.ex x δ)
    | .bad => Q .bad
  mut2 (k : D → List D → Option (D × D)) (i : Nat) (ds : List D) (d : Option D) (δ : Env) (Q : R D → Prop) : Prop := match d with
    | some d1 => mut3 i (k d1 ds) δ Q
    | none => Q .bad
  mut3 (i : Nat) (p : Option (D × D)) (δ : Env) (Q : R D → Prop) : Prop := match p with
    | some (res, d') => Q (.ok res (st δ i (some d')))
    | none => Q .bad
def mulD (T : String) (k : D → List D → Option (D × D)) (i : Nat) (os : List Od) (d : Option D) (δ : Env) (Q : R D → Prop) : Prop := match d with
  | some d => if tyM d = some T then wO os δ (mulK k i Q) else Q .bad
  | none => Q .bad
where
  mulK (k : D → List D → Option (D × D)) (i : Nat) (Q : R D → Prop) : R (List OV) → Prop
    | .ok xs δ => mul2 k i (gt δ i) (resL δ xs) δ Q
    | .ex x δ => Q (.ex x δ)
    | .bad => Q .bad
  mul2 (k : D → List D → Option (D × D)) (i : Nat) (d : Option D) (ds : Option (List D)) (δ : Env) (Q : R D → Prop) : Prop := match d, ds with
    | some d1, some ds => mutD.mut3 i (k d1 ds) δ Q
    | _, _ => Q .bad
def plK (T : String) (k : D → List D → Option (D × D)) (fs : List Ev) (Q : R D → Prop) : R Lc → Prop
  | .ok l δ => if tyM l.d = some T then wL fs δ (pl2 k l Q) else Q .bad
  | .ex x δ => Q (.ex x δ)
  | .bad => Q .bad
where
  pl2 (k : D → List D → Option (D × D)) (l : Lc) (Q : R D → Prop) : R (List D) → Prop
    | .ok ds δ => pl3 l (k l.d ds) δ Q
    | .ex x δ => Q (.ex x δ)
    | .bad => Q .bad
  pl3 (l : Lc) (p : Option (D × D)) (δ : Env) (Q : R D → Prop) : Prop := match p with
    | some (res, d') => Q (.ok res (st δ l.i (some (l.up d'))))
    | none => Q .bad
def pnK (d : Option D) (i : Nat) (δ : Env) (Q : R Lc → Prop) : Prop := match d with
  | some d => Q (.ok ⟨i, d, id⟩ (st δ i none))
  | none => Q .bad
def pxK (f : Ev) (Q : R Lc → Prop) : R Lc → Prop
  | .ok l δ => wR (f δ) (px2 l Q)
  | .ex x δ => Q (.ex x δ)
  | .bad => Q .bad
where
  px2 (l : Lc) (Q : R Lc → Prop) : R D → Prop
    | .ok (.int z) δ => px3 l (stepI l.d (.int z)) δ Q
    | .ok _ _ => Q .bad
    | .ex x δ => Q (.ex x δ)
    | .bad => Q .bad
  px3 (l : Lc) (p : Option (D × (D → D))) (δ : Env) (Q : R Lc → Prop) : Prop := match p with
    | some (e, u) => Q (.ok ⟨l.i, e, fun x => l.up (u x)⟩ δ)
    | none => Q .bad
section
variable {δ : Env} {d : D} {i : Nat} {f : Ev} {fs : List Ev} {os : List Od} {T : String} {k : D → List D → Option (D × D)} {p : Pl} {l : Lc}
theorem r_mut {Q : R D → Prop} : wR (eMutV T k i fs δ) Q = mutD T k i fs (gt δ i) δ Q := by
  simp only [wR_eq]; unfold eMutV mutD
  cases gt δ i with
  | none => rfl
  | some d =>
    simp only
    split
    · simp only [wL_eq]
      cases evL fs δ with
      | bad => rfl
      | ex x y => rfl
      | ok ds δ1 =>
        simp only [R.bind_ok, mutD.mutK]
        cases gt δ1 i with
        | none => rfl
        | some d1 => simp only [mutD.mut2]; cases k d1 ds with | none => rfl | some p => cases p; rfl
    · rfl
theorem r_muts {Q : R D → Prop} : mutD T k i fs (some d) δ Q = IfW (tyM d = some T) (wL fs δ (mutD.mutK k i Q)) (Q .bad) := by rw [ifW_eq]; first | exact (rfl) | (simp only [wR_eq, wS_eq, wO_eq, wL_eq, wI_eq, pnd_eq, pndS_eq, pndR_eq]; first | rfl | (split <;> rfl))
theorem r_mutk {Q : R D → Prop} {ds : List D} : mutD.mutK k i Q (.ok ds δ) = mutD.mut2 k i ds (gt δ i) δ Q := by first | rfl | exact wR_eq | exact wS_eq | exact wO_eq | exact wL_eq | exact wI_eq | (simp only [wR_eq, wS_eq, wO_eq, wL_eq, wI_eq, pnd_eq, pndS_eq, pndR_eq]; rfl)
theorem r_mut2 {Q : R D → Prop} {ds : List D} : mutD.mut2 k i ds (some d) δ Q = mutD.mut3 i (k d ds) δ Q := by first | rfl | exact wR_eq | exact wS_eq | exact wO_eq | exact wL_eq | exact wI_eq | (simp only [wR_eq, wS_eq, wO_eq, wL_eq, wI_eq, pnd_eq, pndS_eq, pndR_eq]; rfl)
theorem r_mut3 {Q : R D → Prop} {e : D} : mutD.mut3 i (some (d, e)) δ Q = Q (.ok d (st δ i (some e))) := by first | rfl | exact wR_eq | exact wS_eq | exact wO_eq | exact wL_eq | exact wI_eq | (simp only [wR_eq, wS_eq, wO_eq, wL_eq, wI_eq, pnd_eq, pndS_eq, pndR_eq]; rfl)
def pndm (i : Nat) (p : Option (D × D)) (δ : Env) (Q : R D → Prop) : Prop := mutD.mut3 i p δ Q
theorem r_mut3i {Q : R D → Prop} {c : Prop} [Decidable c] {x y : Option (D × D)} : mutD.mut3 i (if c then x else y) δ Q = IfW (c) (pndm i x δ Q) (pndm i y δ Q) := by rw [ifW_eq]; first | exact (by split <;> rfl) | (simp only [wR_eq, wS_eq, wO_eq, wL_eq, wI_eq, pnd_eq, pndS_eq, pndR_eq]; first | rfl | (split <;> rfl))
theorem r_mut3n {Q : R D → Prop} : mutD.mut3 i none δ Q = Q .bad := by first | rfl | exact wR_eq | exact wS_eq | exact wO_eq | exact wL_eq | exact wI_eq | (simp only [wR_eq, wS_eq, wO_eq, wL_eq, wI_eq, pnd_eq, pndS_eq, pndR_eq]; rfl)
theorem r_mul {Q : R D → Prop} : wR (eMutL T k i os δ) Q = mulD T k i os (gt δ i) δ Q := by
  simp only [wR_eq]; unfold eMutL mulD
  cases gt δ i with
  | none => rfl
  | some d =>
    simp only
    split
    · simp only [wO_eq]
      cases evOds os δ with
      | bad => rfl
      | ex x y => rfl
      | ok xs δ1 =>
        simp only [R.bind_ok, mulD.mulK]
        cases gt δ1 i with
        | none => rfl
        | some d1 =>
          cases resL δ1 xs with
          | none => rfl
          | some ds => simp only [mulD.mul2]; cases k d1 ds with | none => rfl | some p => cases p; rfl
    · rfl
theorem r_muls {Q : R D → Prop} : mulD T k i os (some d) δ Q = IfW (tyM d = some T) (wO os δ (mulD.mulK k i Q)) (Q .bad) := by rw [ifW_eq]; first | exact (rfl) | (simp only [wR_eq, wS_eq, wO_eq, wL_eq, wI_eq, pnd_eq, pndS_eq, pndR_eq]; first | rfl | (split <;> rfl))
theorem r_mulk {Q : R D → Prop} {xs : List OV} : mulD.mulK k i Q (.ok xs δ) = mulD.mul2 k i (gt δ i) (resL δ xs) δ Q := by first | rfl | exact wR_eq | exact wS_eq | exact wO_eq | exact wL_eq | exact wI_eq | (simp only [wR_eq, wS_eq, wO_eq, wL_eq, wI_eq, pnd_eq, pndS_eq, pndR_eq]; rfl)
theorem r_mul2 {Q : R D → Prop} {ds : List D} : mulD.mul2 k i (some d) (some ds) δ Q = mutD.mut3 i (k d ds) δ Q := by first | rfl | exact wR_eq | exact wS_eq | exact wO_eq | exact wL_eq | exact wI_eq | (simp only [wR_eq, wS_eq, wO_eq, wL_eq, wI_eq, pnd_eq, pndS_eq, pndR_eq]; rfl)
theorem r_pl {Q : R D → Prop} : wR (eMutP T k p fs δ) Q = wR (evPl p δ) (plK T k fs Q) := by
  simp only [wR_eq]; unfold eMutP
  cases evPl p δ with
  | bad => rfl
  | ex x y => rfl
  | ok l δ1 =>
    simp only [R.bind_ok, plK]
    split
    · simp only [wL_eq]
      cases evL fs δ1 with
      | bad => rfl
      | ex x y => rfl
      | ok ds δ2 => simp only [R.bind_ok, plK.pl2]; cases k l.d ds with | none => rfl | some p => cases p; rfl
    · rfl
theorem r_plk {Q : R D → Prop} : plK T k fs Q (.ok l δ) = IfW (tyM l.d = some T) (wL fs δ (plK.pl2 k l Q)) (Q .bad) := by rw [ifW_eq]; first | exact (rfl) | (simp only [wR_eq, wS_eq, wO_eq, wL_eq, wI_eq, pnd_eq, pndS_eq, pndR_eq]; first | rfl | (split <;> rfl))
theorem r_pl2 {Q : R D → Prop} {ds : List D} : plK.pl2 k l Q (.ok ds δ) = plK.pl3 l (k l.d ds) δ Q := by first | rfl | exact wR_eq | exact wS_eq | exact wO_eq | exact wL_eq | exact wI_eq | (simp only [wR_eq, wS_eq, wO_eq, wL_eq, wI_eq, pnd_eq, pndS_eq, pndR_eq]; rfl)
theorem r_pl3 {Q : R D → Prop} {e : D} : plK.pl3 l (some (d, e)) δ Q = Q (.ok d (st δ l.i (some (l.up e)))) := by first | rfl | exact wR_eq | exact wS_eq | exact wO_eq | exact wL_eq | exact wI_eq | (simp only [wR_eq, wS_eq, wO_eq, wL_eq, wI_eq, pnd_eq, pndS_eq, pndR_eq]; rfl)
def pndp (l : Lc) (p : Option (D × D)) (δ : Env) (Q : R D → Prop) : Prop := plK.pl3 l p δ Q
theorem r_pl3i {Q : R D → Prop} {c : Prop} [Decidable c] {x y : Option (D × D)} : plK.pl3 l (if c then x else y) δ Q = IfW (c) (pndp l x δ Q) (pndp l y δ Q) := by rw [ifW_eq]; first | exact (by split <;> rfl) | (simp only [wR_eq, wS_eq, wO_eq, wL_eq, wI_eq, pnd_eq, pndS_eq, pndR_eq]; first | rfl | (split <;> rfl))
theorem r_pn {Q : R Lc → Prop} : wR (evPl (.nm i) δ) Q = pnK (gt δ i) i δ Q := by first | exact (by simp only [wR_eq]; unfold evPl pnK; cases gt δ i <;> rfl) | (simp only [wR_eq, wS_eq, wO_eq, wL_eq, wI_eq, pnd_eq, pndS_eq, pndR_eq]; rfl)
theorem r_pnk {Q : R Lc → Prop} : pnK (some d) i δ Q = Q (.ok ⟨i, d, id⟩ (st δ i none)) := by first | rfl | exact wR_eq | exact wS_eq | exact wO_eq | exact wL_eq | exact wI_eq | (simp only [wR_eq, wS_eq, wO_eq, wL_eq, wI_eq, pnd_eq, pndS_eq, pndR_eq]; rfl)
theorem r_px {Q : R Lc → Prop} : wR (evPl (.ix p f) δ) Q = wR (evPl p δ) (pxK f Q) := by
  simp only [wR_eq]
  rw [evPl]
  cases evPl p δ with
  | bad => rfl
  | ex x y => rfl
  | ok l δ1 =>
    simp only [R.bind_ok, pxK]
    simp only [wR_eq]
    cases f δ1 with
    | bad => rfl
    | ex x y => rfl
    | ok a b =>
      cases a with
      | int z => simp only [R.bind_ok, pxK.px2]; cases stepI l.d (.int z) with | none => rfl | some p => cases p; rfl
      | _ => rfl
theorem r_pxk {Q : R Lc → Prop} : pxK f Q (.ok l δ) = wR (f δ) (pxK.px2 l Q) := by first | rfl | exact wR_eq | exact wS_eq | exact wO_eq | exact wL_eq | exact wI_eq | (simp only [wR_eq, wS_eq, wO_eq, wL_eq, wI_eq, pnd_eq, pndS_eq, pndR_eq]; rfl)
theorem r_px2 {Q : R Lc → Prop} {z : Int} : pxK.px2 l Q (.ok (.int z) δ) = pxK.px3 l (stepI l.d (.int z)) δ Q := by first | rfl | exact wR_eq | exact wS_eq | exact wO_eq | exact wL_eq | exact wI_eq | (simp only [wR_eq, wS_eq, wO_eq, wL_eq, wI_eq, pnd_eq, pndS_eq, pndR_eq]; rfl)
theorem r_px3 {Q : R Lc → Prop} {e : D} {u : D → D} : pxK.px3 l (some (e, u)) δ Q = Q (.ok ⟨l.i, e, fun x => l.up (u x)⟩ δ) := by first | rfl | exact wR_eq | exact wS_eq | exact wO_eq | exact wL_eq | exact wI_eq | (simp only [wR_eq, wS_eq, wO_eq, wL_eq, wI_eq, pnd_eq, pndS_eq, pndR_eq]; rfl)
end
def forK (hs : List Nat) (t : Tg) (b : Sv) (Q : RS → Prop) : R (List D) → Prop
  | .ok ds δ => wS (forL t b ds (outL hs δ)) (putK hs δ Q)
  | .ex x δ => Q (.ex x δ)
  | .bad => Q .bad
where putK (hs : List Nat) (δ : Env) (Q : RS → Prop) (r : RS) : Prop := Q (r.map (putL hs δ))
def cmpK (hs own : List Nat) (t : Tg) (tt : Option Tv) (el : Ev) (Q : R D → Prop) : R (List D) → Prop
  | .ok ds δ => wR (compL own t tt el ds [] (outL own (outL hs δ))) (cmp2 hs δ Q)
  | .ex x δ => Q (.ex x δ)
  | .bad => Q .bad
where cmp2 (hs : List Nat) (δ : Env) (Q : R D → Prop) : R (List D) → Prop
  | .ok acc δ2 => Q (.ok (.lst true acc) (putL hs δ δ2))
  | .ex x δ => Q (.ex x δ)
  | .bad => Q .bad
def iwK (k : List D → Option (List D)) (Q : R (List D) → Prop) : R (List OV) → Prop
  | .ok xs δ => iw2 k (resL δ xs) δ Q
  | .ex x δ => Q (.ex x δ)
  | .bad => Q .bad
where
  iw2 (k : List D → Option (List D)) (ds : Option (List D)) (δ : Env) (Q : R (List D) → Prop) : Prop := match ds with
    | some ds => iw3 (k ds) δ Q
    | none => Q .bad
  iw3 (es : Option (List D)) (δ : Env) (Q : R (List D) → Prop) : Prop := match es with
    | some es => Q (.ok es δ)
    | none => Q .bad
section
variable {δ : Env} {hs own : List Nat} {t : Tg} {b : Sv} {s : Src} {tt : Option Tv} {el : Ev} {os : List Od} {k : List D → Option (List D)} {ds : List D}
theorem r_for {Q : RS → Prop} : wS (sFor hs s t b δ) Q = wI s δ (forK hs t b Q) := by first | exact (by simp only [wS_eq, wI_eq]; unfold sFor; cases s δ with | bad => rfl | ex x y => rfl | ok a c => exact (wS_eq (Q := forK.putK hs c Q)).symm) | (simp only [wR_eq, wS_eq, wO_eq, wL_eq, wI_eq, pnd_eq, pndS_eq, pndR_eq]; rfl)
theorem r_fork {Q : RS → Prop} : forK hs t b Q (.ok ds δ) = wS (forL t b ds (outL hs δ)) (forK.putK hs δ Q) := by first | rfl | exact wR_eq | exact wS_eq | exact wO_eq | exact wL_eq | exact wI_eq | (simp only [wR_eq, wS_eq, wO_eq, wL_eq, wI_eq, pnd_eq, pndS_eq, pndR_eq]; rfl)
theorem r_putn {Q : RS → Prop} {δ0 : Env} : forK.putK hs δ0 Q (.nx δ) = Q (.nx (putL hs δ0 δ)) := by first | rfl | exact wR_eq | exact wS_eq | exact wO_eq | exact wL_eq | exact wI_eq | (simp only [wR_eq, wS_eq, wO_eq, wL_eq, wI_eq, pnd_eq, pndS_eq, pndR_eq]; rfl)
theorem r_putr {Q : RS → Prop} {δ0 : Env} {d : D} : forK.putK hs δ0 Q (.rt d δ) = Q (.rt d (putL hs δ0 δ)) := by first | rfl | exact wR_eq | exact wS_eq | exact wO_eq | exact wL_eq | exact wI_eq | (simp only [wR_eq, wS_eq, wO_eq, wL_eq, wI_eq, pnd_eq, pndS_eq, pndR_eq]; rfl)
theorem r_cmp {Q : R D → Prop} : wR (eComp hs s own t tt el δ) Q = wI s δ (cmpK hs own t tt el Q) := by
  simp only [wR_eq, wI_eq]; unfold eComp
  cases s δ with
  | bad => rfl
  | ex x y => rfl
  | ok ds δ1 =>
    simp only [R.bind_ok, cmpK]
    simp only [wR_eq]
    cases compL own t tt el ds [] (outL own (outL hs δ1)) <;> rfl
theorem r_cmpk {Q : R D → Prop} : cmpK hs own t tt el Q (.ok ds δ) = wR (compL own t tt el ds [] (outL own (outL hs δ))) (cmpK.cmp2 hs δ Q) := by first | rfl | exact wR_eq | exact wS_eq | exact wO_eq | exact wL_eq | exact wI_eq | (simp only [wR_eq, wS_eq, wO_eq, wL_eq, wI_eq, pnd_eq, pndS_eq, pndR_eq]; rfl)
theorem r_cmp2 {Q : R D → Prop} {acc : List D} {δ0 : Env} : cmpK.cmp2 hs δ0 Q (.ok acc δ) = Q (.ok (.lst true acc) (putL hs δ0 δ)) := by first | rfl | exact wR_eq | exact wS_eq | exact wO_eq | exact wL_eq | exact wI_eq | (simp only [wR_eq, wS_eq, wO_eq, wL_eq, wI_eq, pnd_eq, pndS_eq, pndR_eq]; rfl)
theorem r_iw {Q : R (List D) → Prop} : wI (iWk k os) δ Q = wO os δ (iwK k Q) := by
  simp only [wI_eq, wO_eq]; unfold iWk
  cases evOds os δ with
  | bad => rfl
  | ex x y => rfl
  | ok xs δ1 =>
    simp only [R.bind_ok, iwK]
    cases resL δ1 xs with
    | none => rfl
    | some ds => simp only [iwK.iw2] <;> (cases k ds <;> rfl)
theorem r_iwk {Q : R (List D) → Prop} {xs : List OV} : iwK k Q (.ok xs δ) = iwK.iw2 k (resL δ xs) δ Q := by first | rfl | exact wR_eq | exact wS_eq | exact wO_eq | exact wL_eq | exact wI_eq | (simp only [wR_eq, wS_eq, wO_eq, wL_eq, wI_eq, pnd_eq, pndS_eq, pndR_eq]; rfl)
theorem r_iw2 {Q : R (List D) → Prop} : iwK.iw2 k (some ds) δ Q = iwK.iw3 (k ds) δ Q := by first | rfl | exact wR_eq | exact wS_eq | exact wO_eq | exact wL_eq | exact wI_eq | (simp only [wR_eq, wS_eq, wO_eq, wL_eq, wI_eq, pnd_eq, pndS_eq, pndR_eq]; rfl)
theorem r_iw3 {Q : R (List D) → Prop} : iwK.iw3 (some ds) δ Q = Q (.ok ds δ) := by first | rfl | exact wR_eq | exact wS_eq | exact wO_eq | exact wL_eq | exact wI_eq | (simp only [wR_eq, wS_eq, wO_eq, wL_eq, wI_eq, pnd_eq, pndS_eq, pndR_eq]; rfl)
def pndi (p : Option (List D)) (δ : Env) (Q : R (List D) → Prop) : Prop := iwK.iw3 p δ Q
theorem r_iw3i {Q : R (List D) → Prop} {c : Prop} [Decidable c] {x y : Option (List D)} : iwK.iw3 (if c then x else y) δ Q = IfW (c) (pndi x δ Q) (pndi y δ Q) := by rw [ifW_eq]; first | exact (by split <;> rfl) | (simp only [wR_eq, wS_eq, wO_eq, wL_eq, wI_eq, pnd_eq, pndS_eq, pndR_eq]; first | rfl | (split <;> rfl))
end
/-- a walk, by what holds between two turns -/
def turnK (I : Nat → Env → Prop) (i : Nat) (Q : RS → Prop) : RS → Prop
  | .nx δ => I (i + 1) δ
  | .ct δ => I (i + 1) δ
  | .bk δ => Q (.nx δ)
  | .rt d δ => Q (.rt d δ)
  | .ex x δ => Q (.ex x δ)
  | .bad => False
def tgK (t : Tg) (d : D) (δ : Env) (b : Sv) (Q : RS → Prop) : Prop := tg2 b (tgD t d δ) Q
where tg2 (b : Sv) (δ : Option Env) (Q : RS → Prop) : Prop := match δ with
  | some δ1 => wS (b δ1) Q
  | none => False
theorem forL_w {t : Tg} {b : Sv} {Q : RS → Prop} (I : Nat → Env → Prop) : ∀ (ds : List D) (n : Nat) (δ : Env), I n δ → (∀ i δ d, ds[i]? = some d → I (n + i) δ → tgK t d δ b (turnK I (n + i) Q)) → (∀ δ, I (n + ds.length) δ → Q (.nx δ)) → wS (forL t b ds δ) Q
  | [], n, δ, h0, _, hq => ⟨hq δ h0⟩
  | d :: ds, n, δ, h0, hs, hq => by
    have h1 := hs 0 δ d rfl h0
    refine ⟨?_⟩
    unfold tgK tgK.tg2 at h1
    unfold forL
    cases e : tgD t d δ with
    | none => rw [e] at h1; exact h1.elim
    | some δ1 =>
      rw [e] at h1
      simp only
      have h1 : turnK I (n + 0) Q (b δ1) := h1.out
      have go : ∀ δ2, I (n + 0 + 1) δ2 → Q (forL t b ds δ2) := fun δ2 h2 => (forL_w I ds (n + 1) δ2 h2 (fun i δ d hd h => by
        have := hs (i + 1) δ d (by simpa using hd) (by rw [show n + (i + 1) = n + 1 + i by omega]; exact h)
        rw [show n + 1 + i = n + (i + 1) by omega]
        exact this) fun δ h => hq δ (by rw [List.length_cons, show n + (ds.length + 1) = n + 1 + ds.length by omega]; exact h)).out
      cases eb : b δ1 with
      | nx δ2 => rw [eb] at h1; exact go δ2 h1
      | ct δ2 => rw [eb] at h1; exact go δ2 h1
      | bk δ2 => rw [eb] at h1; exact h1
      | rt d δ2 => rw [eb] at h1; exact h1
      | ex x δ2 => rw [eb] at h1; exact h1
      | bad => rw [eb] at h1; exact h1.elim
/-- a comprehension, by what holds between two turns -/
def elK (own : List Nat) (I : Nat → List D → Env → Prop) (i : Nat) (acc : List D) : R D → Prop
  | .ok y δ => acc.length < 100000 ∧ I (i + 1) (acc ++ [y]) (outL own δ)
  | _ => False
def ttK (own : List Nat) (I : Nat → List D → Env → Prop) (i : Nat) (acc : List D) (el : Ev) : R Bool → Prop
  | .ok b δ => if b = true then wR (el δ) (elK own I i acc) else I (i + 1) acc (outL own δ)
  | _ => False
def ctK (own : List Nat) (I : Nat → List D → Env → Prop) (i : Nat) (acc : List D) (tt : Option Tv) (el : Ev) (δ : Option Env) : Prop := match δ with
  | some δ1 => wR (tvO tt δ1) (ttK own I i acc el)
  | none => False
theorem compL_w {own : List Nat} {t : Tg} {tt : Option Tv} {el : Ev} {Q : R (List D) → Prop} (I : Nat → List D → Env → Prop) : ∀ (ds : List D) (n : Nat) (acc : List D) (δ : Env), I n acc δ →
    (∀ i acc δ d, ds[i]? = some d → I (n + i) acc δ → ctK own I (n + i) acc tt el (tgD t d δ)) → (∀ acc δ, I (n + ds.length) acc δ → Q (.ok acc δ)) → wR (compL own t tt el ds acc δ) Q
  | [], n, acc, δ, h0, _, hq => ⟨hq acc δ h0⟩
  | d :: ds, n, acc, δ, h0, hs, hq => by
    have h1 := hs 0 acc δ d rfl h0
    refine ⟨?_⟩
    unfold ctK at h1
    unfold compL
    cases e : tgD t d δ with
    | none => rw [e] at h1; exact h1.elim
    | some δ1 =>
      rw [e] at h1
      simp only
      have h1 : ttK own I (n + 0) acc el (tvO tt δ1) := h1.out
      have go : ∀ acc2 δ2, I (n + 0 + 1) acc2 δ2 → Q (compL own t tt el ds acc2 δ2) := fun acc2 δ2 h2 => (compL_w I ds (n + 1) acc2 δ2 h2 (fun i acc δ d hd h => by
        have := hs (i + 1) acc δ d (by simpa using hd) (by rw [show n + (i + 1) = n + 1 + i by omega]; exact h)
        rw [show n + 1 + i = n + (i + 1) by omega]
        exact this) fun acc δ h => hq acc δ (by rw [List.length_cons, show n + (ds.length + 1) = n + 1 + ds.length by omega]; exact h)).out
      cases et : tvO tt δ1 with
      | bad => rw [et] at h1; exact h1.elim
      | ex x y => rw [et] at h1; exact h1.elim
      | ok b δ2 =>
        rw [et] at h1
        simp only [R.nox, R.bind_ok]
        have h1 : if b = true then wR (el δ2) (elK own I (n + 0) acc) else I (n + 0 + 1) acc (outL own δ2) := h1
        cases b with
        | false => simp only [Bool.false_eq_true, if_false] at h1 ⊢; exact go _ _ h1
        | true =>
          simp only [if_true] at h1 ⊢
          have h1 : elK own I (n + 0) acc (el δ2) := h1.out
          cases ey : el δ2 with
          | bad => rw [ey] at h1; exact h1.elim
          | ex x y => rw [ey] at h1; exact h1.elim
          | ok y δ3 =>
            rw [ey] at h1
            simp only [R.bind_ok]
            rw [if_pos h1.1]
            exact go _ _ h1.2
theorem r_tgk {t : Tg} {d : D} {δ : Env} {b : Sv} {Q : RS → Prop} : tgK t d δ b Q = tgK.tg2 b (tgD t d δ) Q := by first | rfl | exact wR_eq | exact wS_eq | exact wO_eq | exact wL_eq | exact wI_eq | (simp only [wR_eq, wS_eq, wO_eq, wL_eq, wI_eq, pnd_eq, pndS_eq, pndR_eq]; rfl)
theorem r_tg2 {δ : Env} {b : Sv} {Q : RS → Prop} : tgK.tg2 b (some δ) Q = wS (b δ) Q := by first | rfl | exact wR_eq | exact wS_eq | exact wO_eq | exact wL_eq | exact wI_eq | (simp only [wR_eq, wS_eq, wO_eq, wL_eq, wI_eq, pnd_eq, pndS_eq, pndR_eq]; rfl)
theorem r_turnn {I : Nat → Env → Prop} {i : Nat} {Q : RS → Prop} {δ : Env} : turnK I i Q (.nx δ) = I (i + 1) δ := by first | rfl | exact wR_eq | exact wS_eq | exact wO_eq | exact wL_eq | exact wI_eq | (simp only [wR_eq, wS_eq, wO_eq, wL_eq, wI_eq, pnd_eq, pndS_eq, pndR_eq]; rfl)
theorem r_turnc {I : Nat → Env → Prop} {i : Nat} {Q : RS → Prop} {δ : Env} : turnK I i Q (.ct δ) = I (i + 1) δ := by first | rfl | exact wR_eq | exact wS_eq | exact wO_eq | exact wL_eq | exact wI_eq | (simp only [wR_eq, wS_eq, wO_eq, wL_eq, wI_eq, pnd_eq, pndS_eq, pndR_eq]; rfl)
theorem r_turnb {I : Nat → Env → Prop} {i : Nat} {Q : RS → Prop} {δ : Env} : turnK I i Q (.bk δ) = Q (.nx δ) := by first | rfl | exact wR_eq | exact wS_eq | exact wO_eq | exact wL_eq | exact wI_eq | (simp only [wR_eq, wS_eq, wO_eq, wL_eq, wI_eq, pnd_eq, pndS_eq, pndR_eq]; rfl)
theorem r_turnr {I : Nat → Env → Prop} {i : Nat} {Q : RS → Prop} {d : D} {δ : Env} : turnK I i Q (.rt d δ) = Q (.rt d δ) := by first | rfl | exact wR_eq | exact wS_eq | exact wO_eq | exact wL_eq | exact wI_eq | (simp only [wR_eq, wS_eq, wO_eq, wL_eq, wI_eq, pnd_eq, pndS_eq, pndR_eq]; rfl)
theorem r_ctk {own : List Nat} {I : Nat → List D → Env → Prop} {i : Nat} {acc : List D} {tt : Option Tv} {el : Ev} {δ : Env} : ctK own I i acc tt el (some δ) = wR (tvO tt δ) (ttK own I i acc el) := by first | rfl | exact wR_eq | exact wS_eq | exact wO_eq | exact wL_eq | exact wI_eq | (simp only [wR_eq, wS_eq, wO_eq, wL_eq, wI_eq, pnd_eq, pndS_eq, pndR_eq]; rfl)
theorem r_tt0 {Q : R Bool → Prop} {δ : Env} : wR (tvO none δ) Q = Q (.ok true δ) := by first | rfl | exact wR_eq | exact wS_eq | exact wO_eq | exact wL_eq | exact wI_eq | (simp only [wR_eq, wS_eq, wO_eq, wL_eq, wI_eq, pnd_eq, pndS_eq, pndR_eq]; rfl)
theorem r_tt1 {Q : R Bool → Prop} {δ : Env} {f : Tv} : wR (tvO (some f) δ) Q = wR (f δ) Q := by first | rfl | exact wR_eq | exact wS_eq | exact wO_eq | exact wL_eq | exact wI_eq | (simp only [wR_eq, wS_eq, wO_eq, wL_eq, wI_eq, pnd_eq, pndS_eq, pndR_eq]; rfl)
theorem r_ttkt {own : List Nat} {I : Nat → List D → Env → Prop} {i : Nat} {acc : List D} {el : Ev} {δ : Env} : ttK own I i acc el (.ok true δ) = wR (el δ) (elK own I i acc) := by first | rfl | exact wR_eq | exact wS_eq | exact wO_eq | exact wL_eq | exact wI_eq | (simp only [wR_eq, wS_eq, wO_eq, wL_eq, wI_eq, pnd_eq, pndS_eq, pndR_eq]; rfl)
theorem r_ttkf {own : List Nat} {I : Nat → List D → Env → Prop} {i : Nat} {acc : List D} {el : Ev} {δ : Env} : ttK own I i acc el (.ok false δ) = I (i + 1) acc (outL own δ) := by first | rfl | exact wR_eq | exact wS_eq | exact wO_eq | exact wL_eq | exact wI_eq | (simp only [wR_eq, wS_eq, wO_eq, wL_eq, wI_eq, pnd_eq, pndS_eq, pndR_eq]; rfl)
theorem r_ttku {own : List Nat} {I : Nat → List D → Env → Prop} {i : Nat} {acc : List D} {el : Ev} {δ : Env} {c : Prop} [Decidable c] : ttK own I i acc el (.ok (decide c) δ) = IfW (c) (pndR el δ (elK own I i acc)) (I (i + 1) acc (outL own δ)) := by rw [ifW_eq]; first | exact (by by_cases hc : c <;> simp only [hc, decide_true, decide_false, if_true, if_false] <;> first | rfl | exact wR_eq | exact wS_eq | exact wR_eq.trans pndR_eq.symm | exact wS_eq.trans pndS_eq.symm | exact pnd_eq.symm | (simp only [wR_eq, wS_eq, pnd_eq, pndS_eq, pndR_eq]; rfl)) | (simp only [wR_eq, wS_eq, wO_eq, wL_eq, wI_eq, pnd_eq, pndS_eq, pndR_eq]; first | rfl | (split <;> rfl))
theorem r_ttkn {own : List Nat} {I : Nat → List D → Env → Prop} {i : Nat} {acc : List D} {el : Ev} {δ : Env} {c : Prop} [Decidable c] : ttK own I i acc el (.ok (!decide c) δ) = IfW (c) (I (i + 1) acc (outL own δ)) (pndR el δ (elK own I i acc)) := by rw [ifW_eq]; first | exact (by by_cases hc : c <;> simp only [hc, decide_true, decide_false, if_true, if_false, Bool.not_true, Bool.not_false] <;> first | rfl | exact wR_eq | exact wS_eq | exact wR_eq.trans pndR_eq.symm | exact wS_eq.trans pndS_eq.symm | exact pnd_eq.symm | (simp only [wR_eq, wS_eq, pnd_eq, pndS_eq, pndR_eq]; rfl)) | (simp only [wR_eq, wS_eq, wO_eq, wL_eq, wI_eq, pnd_eq, pndS_eq, pndR_eq]; first | rfl | (split <;> rfl))
theorem r_elk {own : List Nat} {I : Nat → List D → Env → Prop} {i : Nat} {acc : List D} {y : D} {δ : Env} : elK own I i acc (.ok y δ) = (acc.length < 100000 ∧ I (i + 1) (acc ++ [y]) (outL own δ)) := by first | rfl | exact wR_eq | exact wS_eq | exact wO_eq | exact wL_eq | exact wI_eq | (simp only [wR_eq, wS_eq, wO_eq, wL_eq, wI_eq, pnd_eq, pndS_eq, pndR_eq]; rfl)
section
variable {δ : Env} {w : Nat} {k : List D → List D} {t : Tg} {b : Sv} {ds : List D} {o : Bool}
noncomputable def forWK (w : Nat) (k : List D → List D) (t : Tg) (b : Sv) (d : Option D) (δ : Env) (Q : RS → Prop) : Prop := match d with
  | some (.lst o ds) => if cleans ds = true then wS (forLW w (.lst o ds) t b (k ds) δ) Q else Q .bad
  | _ => Q .bad
theorem r_forW {Q : RS → Prop} : wS (sForW w k t b δ) Q = forWK w k t b (gt δ w) δ Q := by
  simp only [wS_eq]; unfold sForW forWK
  cases gt δ w with
  | none => rfl
  | some d =>
    cases d with
    | lst o ds => simp only; simp only [wS_eq]; split <;> rfl
    | _ => rfl
theorem r_forWK {Q : RS → Prop} : forWK w k t b (some (.lst o ds)) δ Q = IfW (cleans ds = true) (wS (forLW w (.lst o ds) t b (k ds) δ) Q) (Q .bad) := by rw [ifW_eq]; first | exact (rfl) | (simp only [wR_eq, wS_eq, wO_eq, wL_eq, wI_eq, pnd_eq, pndS_eq, pndR_eq]; first | rfl | (split <;> rfl))
end
theorem forLW_w {w : Nat} {d0 : D} {t : Tg} {b : Sv} {Q : RS → Prop} (I : Nat → Env → Prop) (hw : ∀ i δ, I i δ → gt δ w = some d0) : ∀ (ds : List D) (n : Nat) (δ : Env), I n δ → (∀ i δ d, ds[i]? = some d → I (n + i) δ → tgK t d δ b (turnK I (n + i) Q)) → (∀ δ, I (n + ds.length) δ → Q (.nx δ)) → wS (forLW w d0 t b ds δ) Q
  | [], n, δ, h0, _, hq => ⟨by
    unfold forLW
    rw [if_pos (hw n δ h0)]
    exact hq δ h0⟩
  | d :: ds, n, δ, h0, hs, hq => by
    have h1 := hs 0 δ d rfl h0
    refine ⟨?_⟩
    unfold tgK tgK.tg2 at h1
    unfold forLW
    rw [if_pos (hw n δ h0)]
    cases e : tgD t d δ with
    | none => rw [e] at h1; exact h1.elim
    | some δ1 =>
      rw [e] at h1
      simp only
      have h1 : turnK I (n + 0) Q (b δ1) := h1.out
      have go : ∀ δ2, I (n + 0 + 1) δ2 → Q (forLW w d0 t b ds δ2) := fun δ2 h2 => (forLW_w I hw ds (n + 1) δ2 h2 (fun i δ d hd h => by
        have := hs (i + 1) δ d (by simpa using hd) (by rw [show n + (i + 1) = n + 1 + i by omega]; exact h)
        rw [show n + 1 + i = n + (i + 1) by omega]
        exact this) fun δ h => hq δ (by rw [List.length_cons, show n + (ds.length + 1) = n + 1 + ds.length by omega]; exact h)).out
      cases eb : b δ1 with
      | nx δ2 => rw [eb] at h1; exact go δ2 h1
      | ct δ2 => rw [eb] at h1; exact go δ2 h1
      | bk δ2 => rw [eb] at h1; exact h1
      | rt d δ2 => rw [eb] at h1; exact h1
      | ex x δ2 => rw [eb] at h1; exact h1
      | bad => rw [eb] at h1; exact h1.elim
/-- a while, by what holds when m turns are left at most -/
def turnW (I : Nat → Env → Prop) (m : Nat) (Q : RS → Prop) : RS → Prop
  | .nx δ => I m δ
  | .ct δ => I m δ
  | .bk δ => Q (.nx δ)
  | .rt d δ => Q (.rt d δ)
  | .ex x δ => Q (.ex x δ)
  | .bad => False
def whK (I : Nat → Env → Prop) (m : Nat) (b : Sv) (Q : RS → Prop) : R Bool → Prop
  | .ok c δ => if c = true then wS (b δ) (turnW I m Q) else Q (.nx δ)
  | .ex x δ => Q (.ex x δ)
  | .bad => False
theorem loopW_w {t : Tv} {b : Sv} {Q : RS → Prop} (I : Nat → Env → Prop) (h0 : ∀ δ, ¬ I 0 δ) (hs : ∀ m δ, I (m + 1) δ → wR (t δ) (whK I m b Q)) : ∀ (n : Nat) (δ : Env), I n δ → wS (sWhile n t b δ) Q
  | 0, δ, h => (h0 δ h).elim
  | n + 1, δ, h => by
    have h1 : whK I n b Q (t δ) := (hs n δ h).out
    refine ⟨?_⟩
    unfold sWhile loopW
    cases et : t δ with
    | bad => rw [et] at h1; exact h1.elim
    | ex x y => rw [et] at h1; exact h1
    | ok c δ1 =>
      rw [et] at h1
      simp only [R.thn_ok]
      have h1 : if c = true then wS (b δ1) (turnW I n Q) else Q (.nx δ1) := h1
      cases c with
      | false => simp only [Bool.false_eq_true, if_false] at h1 ⊢; exact h1
      | true =>
        simp only [if_true] at h1 ⊢
        have h1 : turnW I n Q (b δ1) := h1.out
        cases eb : b δ1 with
        | nx δ2 => rw [eb] at h1; exact (loopW_w I h0 hs n δ2 h1).out
        | ct δ2 => rw [eb] at h1; exact (loopW_w I h0 hs n δ2 h1).out
        | bk δ2 => rw [eb] at h1; exact h1
        | rt d δ2 => rw [eb] at h1; exact h1
        | ex x δ2 => rw [eb] at h1; exact h1
        | bad => rw [eb] at h1; exact h1.elim
section
variable {I : Nat → Env → Prop} {m : Nat} {b : Sv} {Q : RS → Prop} {δ : Env}
theorem r_whkt : whK I m b Q (.ok true δ) = wS (b δ) (turnW I m Q) := by first | rfl | exact wR_eq | exact wS_eq | exact wO_eq | exact wL_eq | exact wI_eq | (simp only [wR_eq, wS_eq, wO_eq, wL_eq, wI_eq, pnd_eq, pndS_eq, pndR_eq]; rfl)
theorem r_whkf : whK I m b Q (.ok false δ) = Q (.nx δ) := by first | rfl | exact wR_eq | exact wS_eq | exact wO_eq | exact wL_eq | exact wI_eq | (simp only [wR_eq, wS_eq, wO_eq, wL_eq, wI_eq, pnd_eq, pndS_eq, pndR_eq]; rfl)
theorem r_whku {c : Prop} [Decidable c] : whK I m b Q (.ok (decide c) δ) = IfW (c) (pndS b δ (turnW I m Q)) (Q (.nx δ)) := by rw [ifW_eq]; first | exact (by by_cases hc : c <;> simp only [hc, decide_true, decide_false, if_true, if_false] <;> first | rfl | exact wR_eq | exact wS_eq | exact wR_eq.trans pndR_eq.symm | exact wS_eq.trans pndS_eq.symm | exact pnd_eq.symm | (simp only [wR_eq, wS_eq, pnd_eq, pndS_eq, pndR_eq]; rfl)) | (simp only [wR_eq, wS_eq, wO_eq, wL_eq, wI_eq, pnd_eq, pndS_eq, pndR_eq]; first | rfl | (split <;> rfl))
theorem r_whkn {c : Prop} [Decidable c] : whK I m b Q (.ok (!decide c) δ) = IfW (c) (Q (.nx δ)) (pndS b δ (turnW I m Q)) := by rw [ifW_eq]; first | exact (by by_cases hc : c <;> simp only [hc, decide_true, decide_false, if_true, if_false, Bool.not_true, Bool.not_false] <;> first | rfl | exact wR_eq | exact wS_eq | exact wR_eq.trans pndR_eq.symm | exact wS_eq.trans pndS_eq.symm | exact pnd_eq.symm | (simp only [wR_eq, wS_eq, pnd_eq, pndS_eq, pndR_eq]; rfl)) | (simp only [wR_eq, wS_eq, wO_eq, wL_eq, wI_eq, pnd_eq, pndS_eq, pndR_eq]; first | rfl | (split <;> rfl))
theorem r_turnwn : turnW I m Q (.nx δ) = I m δ := by first | rfl | exact wR_eq | exact wS_eq | exact wO_eq | exact wL_eq | exact wI_eq | (simp only [wR_eq, wS_eq, wO_eq, wL_eq, wI_eq, pnd_eq, pndS_eq, pndR_eq]; rfl)
theorem r_turnwc : turnW I m Q (.ct δ) = I m δ := by first | rfl | exact wR_eq | exact wS_eq | exact wO_eq | exact wL_eq | exact wI_eq | (simp only [wR_eq, wS_eq, wO_eq, wL_eq, wI_eq, pnd_eq, pndS_eq, pndR_eq]; rfl)
theorem r_turnwb : turnW I m Q (.bk δ) = Q (.nx δ) := by first | rfl | exact wR_eq | exact wS_eq | exact wO_eq | exact wL_eq | exact wI_eq | (simp only [wR_eq, wS_eq, wO_eq, wL_eq, wI_eq, pnd_eq, pndS_eq, pndR_eq]; rfl)
theorem r_turnwr {d : D} : turnW I m Q (.rt d δ) = Q (.rt d δ) := by first | rfl | exact wR_eq | exact wS_eq | exact wO_eq | exact wL_eq | exact wI_eq | (simp only [wR_eq, wS_eq, wO_eq, wL_eq, wI_eq, pnd_eq, pndS_eq, pndR_eq]; rfl)
end
/-- an item's value, the slots as they were -/
def mapK (own : List Nat) (δ0 : Env) (y0 : D) : R D → Prop
  | .ok y δ => y = y0 ∧ outL own δ = δ0
  | _ => False
def fltK (own : List Nat) (δ0 : Env) (p0 : Bool) (el : Ev) (y0 : D) : R Bool → Prop
  | .ok b δ => b = p0 ∧ IfW (b = true) (pndR el δ (mapK own δ0 y0)) (outL own δ = δ0)
  | _ => False
def cmK (own : List Nat) (δ0 : Env) (tt : Option Tv) (el : Ev) (p0 : Bool) (y0 : D) (δ : Option Env) : Prop := match δ with
  | some δ1 => wR (tvO tt δ1) (fltK own δ0 p0 el y0)
  | none => False
theorem compF_w {α : Type} {own : List Nat} {t : Tg} {tt : Option Tv} {el : Ev} {Q : R (List D) → Prop} (δ0 : Env) (g : α → D) (p : α → Bool) (f : α → D) (xs : List α) (hl : xs.length ≤ 100000)
    (hs : ∀ x ∈ xs, cmK own δ0 tt el (p x) (f x) (tgD t (g x) δ0)) (hq : Q (.ok ((xs.filter p).map f) δ0)) : wR (compL own t tt el (xs.map g) [] δ0) Q := by
  have key : ∀ (ys : List α) (acc : List D), (∀ x ∈ ys, x ∈ xs) → acc.length + ys.length ≤ xs.length → compL own t tt el (ys.map g) acc δ0 = .ok (acc ++ (ys.filter p).map f) δ0 := by
    intro ys
    induction ys with
    | nil => intro acc _ _; simp [compL]
    | cons y ys ih =>
      intro acc hy hz
      have h := hs y (hy y List.mem_cons_self)
      have ih := fun acc => ih acc (fun x hx => hy x (List.mem_cons_of_mem _ hx))
      rw [List.length_cons] at hz
      rw [List.map_cons]
      unfold cmK at h
      unfold compL
      cases e : tgD t (g y) δ0 with
      | none => rw [e] at h; exact h.elim
      | some δ1 =>
        rw [e] at h
        simp only at h ⊢
        have h := h.out
        cases et : tvO tt δ1 with
        | bad => rw [et] at h; exact h.elim
        | ex x y => rw [et] at h; exact h.elim
        | ok b δ2 =>
          rw [et] at h
          simp only [R.nox, R.bind_ok]
          obtain ⟨hb, h⟩ := h
          cases b with
          | false =>
            have h := h.no (by decide)
            simp only [Bool.false_eq_true, if_false]
            rw [h, ih acc (by omega), List.filter_cons, ← hb]
            simp
          | true =>
            have h := (h.yes rfl).out
            simp only [if_true]
            cases ey : el δ2 with
            | bad => rw [ey] at h; exact h.elim
            | ex x y => rw [ey] at h; exact h.elim
            | ok z δ3 =>
              rw [ey] at h
              obtain ⟨h1, h2⟩ := h
              simp only [R.bind_ok]
              rw [if_pos (by omega), h2, ih (acc ++ [z]) (by rw [List.length_append]; simp only [List.length_cons, List.length_nil]; omega), List.filter_cons, ← hb, h1]
              simp
  have := key xs [] (fun _ h => h) (by simp)
  refine ⟨?_⟩
  rw [this]
  exact hq
theorem compM_w {α : Type} {own : List Nat} {t : Tg} {el : Ev} {Q : R (List D) → Prop} (δ0 : Env) (g : α → D) (f : α → D) (xs : List α) (hl : xs.length ≤ 100000)
    (hs : ∀ x ∈ xs, cmK own δ0 none el true (f x) (tgD t (g x) δ0)) (hq : Q (.ok (xs.map f) δ0)) : wR (compL own t none el (xs.map g) [] δ0) Q := compF_w δ0 g (fun _ => true) f xs hl hs (by
  rw [List.filter_eq_self.mpr fun _ _ => rfl]
  exact hq)
section
variable {own : List Nat} {δ0 δ : Env} {el : Ev} {tt : Option Tv}
theorem r_cmk {p0 : Bool} {y0 : D} : cmK own δ0 tt el p0 y0 (some δ) = wR (tvO tt δ) (fltK own δ0 p0 el y0) := by first | rfl | exact wR_eq | exact wS_eq | exact wO_eq | exact wL_eq | exact wI_eq | (simp only [wR_eq, wS_eq, wO_eq, wL_eq, wI_eq, pnd_eq, pndS_eq, pndR_eq]; rfl)
theorem r_fltk {b p0 : Bool} {y0 : D} : fltK own δ0 p0 el y0 (.ok b δ) = (b = p0 ∧ IfW (b = true) (pndR el δ (mapK own δ0 y0)) (outL own δ = δ0)) := by first | rfl | exact wR_eq | exact wS_eq | exact wO_eq | exact wL_eq | exact wI_eq | (simp only [wR_eq, wS_eq, wO_eq, wL_eq, wI_eq, pnd_eq, pndS_eq, pndR_eq]; rfl)
theorem r_mapk {y y0 : D} : mapK own δ0 y0 (.ok y δ) = (y = y0 ∧ outL own δ = δ0) := by first | rfl | exact wR_eq | exact wS_eq | exact wO_eq | exact wL_eq | exact wI_eq | (simp only [wR_eq, wS_eq, wO_eq, wL_eq, wI_eq, pnd_eq, pndS_eq, pndR_eq]; rfl)
end
theorem r_isi_non_bool  : kIsi [.non, .ty "bool"] = some (.bl false) := by first | exact (by simp [kIsi, tyN, tysO, tyCs, isT]) | (simp only [wR_eq, wS_eq, wO_eq, wL_eq, wI_eq, pnd_eq, pndS_eq, pndR_eq]; rfl)
theorem r_isi_non_int  : kIsi [.non, .ty "int"] = some (.bl false) := by first | exact (by simp [kIsi, tyN, tysO, tyCs, isT]) | (simp only [wR_eq, wS_eq, wO_eq, wL_eq, wI_eq, pnd_eq, pndS_eq, pndR_eq]; rfl)
theorem r_isi_non_str  : kIsi [.non, .ty "str"] = some (.bl false) := by first | exact (by simp [kIsi, tyN, tysO, tyCs, isT]) | (simp only [wR_eq, wS_eq, wO_eq, wL_eq, wI_eq, pnd_eq, pndS_eq, pndR_eq]; rfl)
theorem r_isi_non_tuple  : kIsi [.non, .ty "tuple"] = some (.bl false) := by first | exact (by simp [kIsi, tyN, tysO, tyCs, isT]) | (simp only [wR_eq, wS_eq, wO_eq, wL_eq, wI_eq, pnd_eq, pndS_eq, pndR_eq]; rfl)
theorem r_isi_non_list  : kIsi [.non, .ty "list"] = some (.bl false) := by first | exact (by simp [kIsi, tyN, tysO, tyCs, isT]) | (simp only [wR_eq, wS_eq, wO_eq, wL_eq, wI_eq, pnd_eq, pndS_eq, pndR_eq]; rfl)
theorem r_isi_non_dict  : kIsi [.non, .ty "dict"] = some (.bl false) := by first | exact (by simp [kIsi, tyN, tysO, tyCs, isT]) | (simp only [wR_eq, wS_eq, wO_eq, wL_eq, wI_eq, pnd_eq, pndS_eq, pndR_eq]; rfl)
theorem r_isi2_non  : kIsi [.non, .tup [.ty "list", .ty "tuple"]] = some (.bl false) := by first | exact (by simp [kIsi, tyN, tysO, tyCs, isT]) | (simp only [wR_eq, wS_eq, wO_eq, wL_eq, wI_eq, pnd_eq, pndS_eq, pndR_eq]; rfl)
theorem r_isi_bl_bool {b : Bool} : kIsi [.bl b, .ty "bool"] = some (.bl true) := by first | exact (by simp [kIsi, tyN, tysO, tyCs, isT]) | (simp only [wR_eq, wS_eq, wO_eq, wL_eq, wI_eq, pnd_eq, pndS_eq, pndR_eq]; rfl)
theorem r_isi_bl_int {b : Bool} : kIsi [.bl b, .ty "int"] = some (.bl true) := by first | exact (by simp [kIsi, tyN, tysO, tyCs, isT]) | (simp only [wR_eq, wS_eq, wO_eq, wL_eq, wI_eq, pnd_eq, pndS_eq, pndR_eq]; rfl)
theorem r_isi_bl_str {b : Bool} : kIsi [.bl b, .ty "str"] = some (.bl false) := by first | exact (by simp [kIsi, tyN, tysO, tyCs, isT]) | (simp only [wR_eq, wS_eq, wO_eq, wL_eq, wI_eq, pnd_eq, pndS_eq, pndR_eq]; rfl)
theorem r_isi_bl_tuple {b : Bool} : kIsi [.bl b, .ty "tuple"] = some (.bl false) := by first | exact (by simp [kIsi, tyN, tysO, tyCs, isT]) | (simp only [wR_eq, wS_eq, wO_eq, wL_eq, wI_eq, pnd_eq, pndS_eq, pndR_eq]; rfl)
theorem r_isi_bl_list {b : Bool} : kIsi [.bl b, .ty "list"] = some (.bl false) := by first | exact (by simp [kIsi, tyN, tysO, tyCs, isT]) | (simp only [wR_eq, wS_eq, wO_eq, wL_eq, wI_eq, pnd_eq, pndS_eq, pndR_eq]; rfl)
theorem r_isi_bl_dict {b : Bool} : kIsi [.bl b, .ty "dict"] = some (.bl false) := by first | exact (by simp [kIsi, tyN, tysO, tyCs, isT]) | (simp only [wR_eq, wS_eq, wO_eq, wL_eq, wI_eq, pnd_eq, pndS_eq, pndR_eq]; rfl)
theorem r_isi2_bl {b : Bool} : kIsi [.bl b, .tup [.ty "list", .ty "tuple"]] = some (.bl false) := by first | exact (by simp [kIsi, tyN, tysO, tyCs, isT]) | (simp only [wR_eq, wS_eq, wO_eq, wL_eq, wI_eq, pnd_eq, pndS_eq, pndR_eq]; rfl)
theorem r_isi_int_bool {i : Int} : kIsi [.int i, .ty "bool"] = some (.bl false) := by first | exact (by simp [kIsi, tyN, tysO, tyCs, isT]) | (simp only [wR_eq, wS_eq, wO_eq, wL_eq, wI_eq, pnd_eq, pndS_eq, pndR_eq]; rfl)
theorem r_isi_int_int {i : Int} : kIsi [.int i, .ty "int"] = some (.bl true) := by first | exact (by simp [kIsi, tyN, tysO, tyCs, isT]) | (simp only [wR_eq, wS_eq, wO_eq, wL_eq, wI_eq, pnd_eq, pndS_eq, pndR_eq]; rfl)
theorem r_isi_int_str {i : Int} : kIsi [.int i, .ty "str"] = some (.bl false) := by first | exact (by simp [kIsi, tyN, tysO, tyCs, isT]) | (simp only [wR_eq, wS_eq, wO_eq, wL_eq, wI_eq, pnd_eq, pndS_eq, pndR_eq]; rfl)
theorem r_isi_int_tuple {i : Int} : kIsi [.int i, .ty "tuple"] = some (.bl false) := by first | exact (by simp [kIsi, tyN, tysO, tyCs, isT]) | (simp only [wR_eq, wS_eq, wO_eq, wL_eq, wI_eq, pnd_eq, pndS_eq, pndR_eq]; rfl)
theorem r_isi_int_list {i : Int} : kIsi [.int i, .ty "list"] = some (.bl false) := by first | exact (by simp [kIsi, tyN, tysO, tyCs, isT]) | (simp only [wR_eq, wS_eq, wO_eq, wL_eq, wI_eq, pnd_eq, pndS_eq, pndR_eq]; rfl)
theorem r_isi_int_dict {i : Int} : kIsi [.int i, .ty "dict"] = some (.bl false) := by first | exact (by simp [kIsi, tyN, tysO, tyCs, isT]) | (simp only [wR_eq, wS_eq, wO_eq, wL_eq, wI_eq, pnd_eq, pndS_eq, pndR_eq]; rfl)
theorem r_isi2_int {i : Int} : kIsi [.int i, .tup [.ty "list", .ty "tuple"]] = some (.bl false) := by first | exact (by simp [kIsi, tyN, tysO, tyCs, isT]) | (simp only [wR_eq, wS_eq, wO_eq, wL_eq, wI_eq, pnd_eq, pndS_eq, pndR_eq]; rfl)
theorem r_isi_str_bool {x : Str} : kIsi [.str x, .ty "bool"] = some (.bl false) := by first | exact (by simp [kIsi, tyN, tysO, tyCs, isT]) | (simp only [wR_eq, wS_eq, wO_eq, wL_eq, wI_eq, pnd_eq, pndS_eq, pndR_eq]; rfl)
theorem r_isi_str_int {x : Str} : kIsi [.str x, .ty "int"] = some (.bl false) := by first | exact (by simp [kIsi, tyN, tysO, tyCs, isT]) | (simp only [wR_eq, wS_eq, wO_eq, wL_eq, wI_eq, pnd_eq, pndS_eq, pndR_eq]; rfl)
theorem r_isi_str_str {x : Str} : kIsi [.str x, .ty "str"] = some (.bl true) := by first | exact (by simp [kIsi, tyN, tysO, tyCs, isT]) | (simp only [wR_eq, wS_eq, wO_eq, wL_eq, wI_eq, pnd_eq, pndS_eq, pndR_eq]; rfl)
theorem r_isi_str_tuple {x : Str} : kIsi [.str x, .ty "tuple"] = some (.bl false) := by first | exact (by simp [kIsi, tyN, tysO, tyCs, isT]) | (simp only [wR_eq, wS_eq, wO_eq, wL_eq, wI_eq, pnd_eq, pndS_eq, pndR_eq]; rfl)
theorem r_isi_str_list {x : Str} : kIsi [.str x, .ty "list"] = some (.bl false) := by first | exact (by simp [kIsi, tyN, tysO, tyCs, isT]) | (simp only [wR_eq, wS_eq, wO_eq, wL_eq, wI_eq, pnd_eq, pndS_eq, pndR_eq]; rfl)
theorem r_isi_str_dict {x : Str} : kIsi [.str x, .ty "dict"] = some (.bl false) := by first | exact (by simp [kIsi, tyN, tysO, tyCs, isT]) | (simp only [wR_eq, wS_eq, wO_eq, wL_eq, wI_eq, pnd_eq, pndS_eq, pndR_eq]; rfl)
theorem r_isi2_str {x : Str} : kIsi [.str x, .tup [.ty "list", .ty "tuple"]] = some (.bl false) := by first | exact (by simp [kIsi, tyN, tysO, tyCs, isT]) | (simp only [wR_eq, wS_eq, wO_eq, wL_eq, wI_eq, pnd_eq, pndS_eq, pndR_eq]; rfl)
theorem r_isi_tup_bool {ds : List D} : kIsi [.tup ds, .ty "bool"] = some (.bl false) := by first | exact (by simp [kIsi, tyN, tysO, tyCs, isT]) | (simp only [wR_eq, wS_eq, wO_eq, wL_eq, wI_eq, pnd_eq, pndS_eq, pndR_eq]; rfl)
theorem r_isi_tup_int {ds : List D} : kIsi [.tup ds, .ty "int"] = some (.bl false) := by first | exact (by simp [kIsi, tyN, tysO, tyCs, isT]) | (simp only [wR_eq, wS_eq, wO_eq, wL_eq, wI_eq, pnd_eq, pndS_eq, pndR_eq]; rfl)
theorem r_isi_tup_str {ds : List D} : kIsi [.tup ds, .ty "str"] = some (.bl false) := by first | exact (by simp [kIsi, tyN, tysO, tyCs, isT]) | (simp only [wR_eq, wS_eq, wO_eq, wL_eq, wI_eq, pnd_eq, pndS_eq, pndR_eq]; rfl)
theorem r_isi_tup_tuple {ds : List D} : kIsi [.tup ds, .ty "tuple"] = some (.bl true) := by first | exact (by simp [kIsi, tyN, tysO, tyCs, isT]) | (simp only [wR_eq, wS_eq, wO_eq, wL_eq, wI_eq, pnd_eq, pndS_eq, pndR_eq]; rfl)
theorem r_isi_tup_list {ds : List D} : kIsi [.tup ds, .ty "list"] = some (.bl false) := by first | exact (by simp [kIsi, tyN, tysO, tyCs, isT]) | (simp only [wR_eq, wS_eq, wO_eq, wL_eq, wI_eq, pnd_eq, pndS_eq, pndR_eq]; rfl)
theorem r_isi_tup_dict {ds : List D} : kIsi [.tup ds, .ty "dict"] = some (.bl false) := by first | exact (by simp [kIsi, tyN, tysO, tyCs, isT]) | (simp only [wR_eq, wS_eq, wO_eq, wL_eq, wI_eq, pnd_eq, pndS_eq, pndR_eq]; rfl)
theorem r_isi2_tup {ds : List D} : kIsi [.tup ds, .tup [.ty "list", .ty "tuple"]] = some (.bl true) := by first | exact (by simp [kIsi, tyN, tysO, tyCs, isT]) | (simp only [wR_eq, wS_eq, wO_eq, wL_eq, wI_eq, pnd_eq, pndS_eq, pndR_eq]; rfl)
theorem r_isi_lst_bool {o : Bool} {ds : List D} : kIsi [.lst o ds, .ty "bool"] = some (.bl false) := by first | exact (by simp [kIsi, tyN, tysO, tyCs, isT]) | (simp only [wR_eq, wS_eq, wO_eq, wL_eq, wI_eq, pnd_eq, pndS_eq, pndR_eq]; rfl)
theorem r_isi_lst_int {o : Bool} {ds : List D} : kIsi [.lst o ds, .ty "int"] = some (.bl false) := by first | exact (by simp [kIsi, tyN, tysO, tyCs, isT]) | (simp only [wR_eq, wS_eq, wO_eq, wL_eq, wI_eq, pnd_eq, pndS_eq, pndR_eq]; rfl)
theorem r_isi_lst_str {o : Bool} {ds : List D} : kIsi [.lst o ds, .ty "str"] = some (.bl false) := by first | exact (by simp [kIsi, tyN, tysO, tyCs, isT]) | (simp only [wR_eq, wS_eq, wO_eq, wL_eq, wI_eq, pnd_eq, pndS_eq, pndR_eq]; rfl)
theorem r_isi_lst_tuple {o : Bool} {ds : List D} : kIsi [.lst o ds, .ty "tuple"] = some (.bl false) := by first | exact (by simp [kIsi, tyN, tysO, tyCs, isT]) | (simp only [wR_eq, wS_eq, wO_eq, wL_eq, wI_eq, pnd_eq, pndS_eq, pndR_eq]; rfl)
theorem r_isi_lst_list {o : Bool} {ds : List D} : kIsi [.lst o ds, .ty "list"] = some (.bl true) := by first | exact (by simp [kIsi, tyN, tysO, tyCs, isT]) | (simp only [wR_eq, wS_eq, wO_eq, wL_eq, wI_eq, pnd_eq, pndS_eq, pndR_eq]; rfl)
theorem r_isi_lst_dict {o : Bool} {ds : List D} : kIsi [.lst o ds, .ty "dict"] = some (.bl false) := by first | exact (by simp [kIsi, tyN, tysO, tyCs, isT]) | (simp only [wR_eq, wS_eq, wO_eq, wL_eq, wI_eq, pnd_eq, pndS_eq, pndR_eq]; rfl)
theorem r_isi2_lst {o : Bool} {ds : List D} : kIsi [.lst o ds, .tup [.ty "list", .ty "tuple"]] = some (.bl true) := by first | exact (by simp [kIsi, tyN, tysO, tyCs, isT]) | (simp only [wR_eq, wS_eq, wO_eq, wL_eq, wI_eq, pnd_eq, pndS_eq, pndR_eq]; rfl)
theorem r_isi_scr_bool {ns : List Int} : kIsi [.scr ns, .ty "bool"] = some (.bl false) := by first | exact (by simp [kIsi, tyN, tysO, tyCs, isT]) | (simp only [wR_eq, wS_eq, wO_eq, wL_eq, wI_eq, pnd_eq, pndS_eq, pndR_eq]; rfl)
theorem r_isi_scr_int {ns : List Int} : kIsi [.scr ns, .ty "int"] = some (.bl false) := by first | exact (by simp [kIsi, tyN, tysO, tyCs, isT]) | (simp only [wR_eq, wS_eq, wO_eq, wL_eq, wI_eq, pnd_eq, pndS_eq, pndR_eq]; rfl)
theorem r_isi_scr_str {ns : List Int} : kIsi [.scr ns, .ty "str"] = some (.bl false) := by first | exact (by simp [kIsi, tyN, tysO, tyCs, isT]) | (simp only [wR_eq, wS_eq, wO_eq, wL_eq, wI_eq, pnd_eq, pndS_eq, pndR_eq]; rfl)
theorem r_isi_scr_tuple {ns : List Int} : kIsi [.scr ns, .ty "tuple"] = some (.bl false) := by first | exact (by simp [kIsi, tyN, tysO, tyCs, isT]) | (simp only [wR_eq, wS_eq, wO_eq, wL_eq, wI_eq, pnd_eq, pndS_eq, pndR_eq]; rfl)
theorem r_isi_scr_list {ns : List Int} : kIsi [.scr ns, .ty "list"] = some (.bl true) := by first | exact (by simp [kIsi, tyN, tysO, tyCs, isT]) | (simp only [wR_eq, wS_eq, wO_eq, wL_eq, wI_eq, pnd_eq, pndS_eq, pndR_eq]; rfl)
theorem r_isi_scr_dict {ns : List Int} : kIsi [.scr ns, .ty "dict"] = some (.bl false) := by first | exact (by simp [kIsi, tyN, tysO, tyCs, isT]) | (simp only [wR_eq, wS_eq, wO_eq, wL_eq, wI_eq, pnd_eq, pndS_eq, pndR_eq]; rfl)
theorem r_isi2_scr {ns : List Int} : kIsi [.scr ns, .tup [.ty "list", .ty "tuple"]] = some (.bl true) := by first | exact (by simp [kIsi, tyN, tysO, tyCs, isT]) | (simp only [wR_eq, wS_eq, wO_eq, wL_eq, wI_eq, pnd_eq, pndS_eq, pndR_eq]; rfl)
def augI1 (ka : Int → Int → Option Int) (i : Nat) (fi fe : Ev) (d : Option D) (δ : Env) (Q : RS → Prop) : Prop := match d with
  | some _ => wR (fi δ) (augI2 ka i fe Q)
  | none => Q .bad
where
  augI2 (ka : Int → Int → Option Int) (i : Nat) (fe : Ev) (Q : RS → Prop) : R D → Prop
    | .ok kd δ => augI3 ka i fe kd (gt δ i) δ Q
    | .ex x δ => Q (.ex x δ)
    | .bad => Q .bad
  augI3 (ka : Int → Int → Option Int) (i : Nat) (fe : Ev) (kd : D) (d : Option D) (δ : Env) (Q : RS → Prop) : Prop := match d with
    | some (.lst _ ds) => match kd with
      | .int z => augI4 ka i fe z (atI ds z) δ Q
      | _ => Q .bad
    | _ => Q .bad
  augI4 (ka : Int → Int → Option Int) (i : Nat) (fe : Ev) (z : Int) (d : Option D) (δ : Env) (Q : RS → Prop) : Prop := match d with
    | some (.int n) => wR (fe δ) (augI5 ka i z n Q)
    | _ => Q .bad
  augI5 (ka : Int → Int → Option Int) (i : Nat) (z n : Int) (Q : RS → Prop) : R D → Prop
    | .ok (.int m) δ => augI6 i z (ka n m) (gt δ i) δ Q
    | .ok _ _ => Q .bad
    | .ex x δ => Q (.ex x δ)
    | .bad => Q .bad
  augI6 (i : Nat) (z : Int) (r : Option Int) (d : Option D) (δ : Env) (Q : RS → Prop) : Prop := match r with
    | some r => match d with
      | some d2 => stoK.sto5 i (kSet d2 (.int z) (.int r)) δ Q
      | none => Q .bad
    | none => Q .bad
section
variable {Q : RS → Prop} {δ : Env} {i : Nat} {fi fe : Ev} {ka : Int → Int → Option Int} {d : D}
theorem r_augI : wS (sAugI ka i fi fe δ) Q = augI1 ka i fi fe (gt δ i) δ Q := by
  simp only [wS_eq]; unfold sAugI augI1
  cases gt δ i with
  | none => rfl
  | some d =>
    simp only [wR_eq]
    cases fi δ with
    | bad => rfl
    | ex x y => rfl
    | ok kd δ1 =>
      simp only [R.thn_ok, augI1.augI2, augI1.augI3]
      cases gt δ1 i with
      | none => rfl
      | some d1 =>
        cases d1 with
        | lst o ds =>
          cases kd with
          | int z =>
            simp only [augI1.augI4]
            cases atI ds z with
            | none => rfl
            | some e =>
              cases e with
              | int n =>
                simp only [wR_eq]
                cases fe δ1 with
                | bad => rfl
                | ex x y => rfl
                | ok m δ2 =>
                  cases m with
                  | int m =>
                    simp only [R.thn_ok, augI1.augI5, augI1.augI6]
                    cases ka n m with
                    | none => rfl
                    | some r =>
                      cases gt δ2 i with
                      | none => rfl
                      | some d2 => simp only [stoK.sto5] <;> (cases kSet d2 (.int z) (.int r) <;> rfl)
                  | _ => rfl
              | _ => rfl
          | _ => rfl
        | _ => rfl
theorem r_augI1 : augI1 ka i fi fe (some d) δ Q = wR (fi δ) (augI1.augI2 ka i fe Q) := by first | rfl | exact wR_eq | exact wS_eq | exact wO_eq | exact wL_eq | exact wI_eq | (simp only [wR_eq, wS_eq, wO_eq, wL_eq, wI_eq, pnd_eq, pndS_eq, pndR_eq]; rfl)
theorem r_augI2 : augI1.augI2 ka i fe Q (.ok d δ) = augI1.augI3 ka i fe d (gt δ i) δ Q := by first | rfl | exact wR_eq | exact wS_eq | exact wO_eq | exact wL_eq | exact wI_eq | (simp only [wR_eq, wS_eq, wO_eq, wL_eq, wI_eq, pnd_eq, pndS_eq, pndR_eq]; rfl)
theorem r_augI3 {o : Bool} {ds : List D} {z : Int} : augI1.augI3 ka i fe (.int z) (some (.lst o ds)) δ Q = augI1.augI4 ka i fe z (atI ds z) δ Q := by first | rfl | exact wR_eq | exact wS_eq | exact wO_eq | exact wL_eq | exact wI_eq | (simp only [wR_eq, wS_eq, wO_eq, wL_eq, wI_eq, pnd_eq, pndS_eq, pndR_eq]; rfl)
theorem r_augI4 {z n : Int} : augI1.augI4 ka i fe z (some (.int n)) δ Q = wR (fe δ) (augI1.augI5 ka i z n Q) := by first | rfl | exact wR_eq | exact wS_eq | exact wO_eq | exact wL_eq | exact wI_eq | (simp only [wR_eq, wS_eq, wO_eq, wL_eq, wI_eq, pnd_eq, pndS_eq, pndR_eq]; rfl)
theorem r_augI5 {z n m : Int} : augI1.augI5 ka i z n Q (.ok (.int m) δ) = augI1.augI6 i z (ka n m) (gt δ i) δ Q := by first | rfl | exact wR_eq | exact wS_eq | exact wO_eq | exact wL_eq | exact wI_eq | (simp only [wR_eq, wS_eq, wO_eq, wL_eq, wI_eq, pnd_eq, pndS_eq, pndR_eq]; rfl)
theorem r_augI6 {z r : Int} : augI1.augI6 i z (some r) (some d) δ Q = stoK.sto5 i (kSet d (.int z) (.int r)) δ Q := by first | rfl | exact wR_eq | exact wS_eq | exact wO_eq | exact wL_eq | exact wI_eq | (simp only [wR_eq, wS_eq, wO_eq, wL_eq, wI_eq, pnd_eq, pndS_eq, pndR_eq]; rfl)
end
theorem r_eo_non_non   : eqOk .non .non = true := by first | exact (by simp [eqOk, dataD, dep]) | (simp only [wR_eq, wS_eq, wO_eq, wL_eq, wI_eq, pnd_eq, pndS_eq, pndR_eq]; rfl)
theorem r_eo_non_bl  {b1 : Bool} : eqOk .non (.bl b1) = true := by first | exact (by simp [eqOk, dataD, dep]) | (simp only [wR_eq, wS_eq, wO_eq, wL_eq, wI_eq, pnd_eq, pndS_eq, pndR_eq]; rfl)
theorem r_eo_non_int  {i1 : Int} : eqOk .non (.int i1) = true := by first | exact (by simp [eqOk, dataD, dep]) | (simp only [wR_eq, wS_eq, wO_eq, wL_eq, wI_eq, pnd_eq, pndS_eq, pndR_eq]; rfl)
theorem r_eo_non_str  {x1 : Str} : eqOk .non (.str x1) = true := by first | exact (by simp [eqOk, dataD, dep]) | (simp only [wR_eq, wS_eq, wO_eq, wL_eq, wI_eq, pnd_eq, pndS_eq, pndR_eq]; rfl)
theorem r_eo_bl_non {b0 : Bool}  : eqOk (.bl b0) .non = true := by first | exact (by simp [eqOk, dataD, dep]) | (simp only [wR_eq, wS_eq, wO_eq, wL_eq, wI_eq, pnd_eq, pndS_eq, pndR_eq]; rfl)
theorem r_eo_bl_bl {b0 : Bool} {b1 : Bool} : eqOk (.bl b0) (.bl b1) = true := by first | exact (by simp [eqOk, dataD, dep]) | (simp only [wR_eq, wS_eq, wO_eq, wL_eq, wI_eq, pnd_eq, pndS_eq, pndR_eq]; rfl)
theorem r_eo_bl_int {b0 : Bool} {i1 : Int} : eqOk (.bl b0) (.int i1) = true := by first | exact (by simp [eqOk, dataD, dep]) | (simp only [wR_eq, wS_eq, wO_eq, wL_eq, wI_eq, pnd_eq, pndS_eq, pndR_eq]; rfl)
theorem r_eo_bl_str {b0 : Bool} {x1 : Str} : eqOk (.bl b0) (.str x1) = true := by first | exact (by simp [eqOk, dataD, dep]) | (simp only [wR_eq, wS_eq, wO_eq, wL_eq, wI_eq, pnd_eq, pndS_eq, pndR_eq]; rfl)
theorem r_eo_int_non {i0 : Int}  : eqOk (.int i0) .non = true := by first | exact (by simp [eqOk, dataD, dep]) | (simp only [wR_eq, wS_eq, wO_eq, wL_eq, wI_eq, pnd_eq, pndS_eq, pndR_eq]; rfl)
theorem r_eo_int_bl {i0 : Int} {b1 : Bool} : eqOk (.int i0) (.bl b1) = true := by first | exact (by simp [eqOk, dataD, dep]) | (simp only [wR_eq, wS_eq, wO_eq, wL_eq, wI_eq, pnd_eq, pndS_eq, pndR_eq]; rfl)
theorem r_eo_int_int {i0 : Int} {i1 : Int} : eqOk (.int i0) (.int i1) = true := by first | exact (by simp [eqOk, dataD, dep]) | (simp only [wR_eq, wS_eq, wO_eq, wL_eq, wI_eq, pnd_eq, pndS_eq, pndR_eq]; rfl)
theorem r_eo_int_str {i0 : Int} {x1 : Str} : eqOk (.int i0) (.str x1) = true := by first | exact (by simp [eqOk, dataD, dep]) | (simp only [wR_eq, wS_eq, wO_eq, wL_eq, wI_eq, pnd_eq, pndS_eq, pndR_eq]; rfl)
theorem r_eo_str_non {x0 : Str}  : eqOk (.str x0) .non = true := by first | exact (by simp [eqOk, dataD, dep]) | (simp only [wR_eq, wS_eq, wO_eq, wL_eq, wI_eq, pnd_eq, pndS_eq, pndR_eq]; rfl)
theorem r_eo_str_bl {x0 : Str} {b1 : Bool} : eqOk (.str x0) (.bl b1) = true := by first | exact (by simp [eqOk, dataD, dep]) | (simp only [wR_eq, wS_eq, wO_eq, wL_eq, wI_eq, pnd_eq, pndS_eq, pndR_eq]; rfl)
theorem r_eo_str_int {x0 : Str} {i1 : Int} : eqOk (.str x0) (.int i1) = true := by first | exact (by simp [eqOk, dataD, dep]) | (simp only [wR_eq, wS_eq, wO_eq, wL_eq, wI_eq, pnd_eq, pndS_eq, pndR_eq]; rfl)
theorem r_eo_str_str {x0 : Str} {x1 : Str} : eqOk (.str x0) (.str x1) = true := by first | exact (by simp [eqOk, dataD, dep]) | (simp only [wR_eq, wS_eq, wO_eq, wL_eq, wI_eq, pnd_eq, pndS_eq, pndR_eq]; rfl)
def signsD (z : Str) : List D := z.cps.toList.map fun c => .str ⟨#[c]⟩
def isK (Q : R (List D) → Prop) : R D → Prop
  | .ok (.str z) δ => Q (.ok (signsD z) δ)
  | .ok _ _ => Q .bad
  | .ex x δ => Q (.ex x δ)
  | .bad => Q .bad
theorem r_iS {δ : Env} {f : Ev} {Q : R (List D) → Prop} : wI (iS f) δ Q = wR (f δ) (isK Q) := by first | exact (by simp only [wI_eq, wR_eq]; unfold iS; cases f δ with | bad => rfl | ex x y => rfl | ok a b => cases a <;> rfl) | (simp only [wR_eq, wS_eq, wO_eq, wL_eq, wI_eq, pnd_eq, pndS_eq, pndR_eq]; rfl)
theorem r_isk {δ : Env} {z : Str} {Q : R (List D) → Prop} : isK Q (.ok (.str z) δ) = Q (.ok (signsD z) δ) := by first | rfl | exact wR_eq | exact wS_eq | exact wO_eq | exact wL_eq | exact wI_eq | (simp only [wR_eq, wS_eq, wO_eq, wL_eq, wI_eq, pnd_eq, pndS_eq, pndR_eq]; rfl)
def bmK (T : String) (k : List D → Option D) (os : List Od) (Q : R D → Prop) : R OV → Prop
  | .ok x δ => bm2 T k os x (resO δ x) δ Q
  | .ex x δ => Q (.ex x δ)
  | .bad => Q .bad
where
  bm2 (T : String) (k : List D → Option D) (os : List Od) (x : OV) (d : Option D) (δ : Env) (Q : R D → Prop) : Prop := match d with
    | some d0 => if tyM d0 = some T then wO os δ (bm3 k x Q) else Q .bad
    | none => Q .bad
  bm3 (k : List D → Option D) (x : OV) (Q : R D → Prop) : R (List OV) → Prop
    | .ok xs δ => ops2 k (resL δ (x :: xs)) δ Q
    | .ex x δ => Q (.ex x δ)
    | .bad => Q .bad
section
variable {T : String} {k : List D → Option D} {o : Od} {os : List Od} {δ : Env} {Q : R D → Prop} {x : OV} {d : D} {xs : List OV}
theorem r_bm : wR (eBm T k o os δ) Q = wR (evOd o δ) (bmK T k os Q) := by
  simp only [wR_eq]; unfold eBm
  cases evOd o δ with
  | bad => rfl
  | ex x y => rfl
  | ok x δ0 =>
    simp only [R.bind_ok, bmK]
    cases resO δ0 x with
    | none => rfl
    | some d0 =>
      simp only [bmK.bm2]
      split
      · simp only [wO_eq]
        cases evOds os δ0 with
        | bad => rfl
        | ex x y => rfl
        | ok xs δ1 =>
          simp only [R.bind_ok, bmK.bm3, ops2]
          try (cases resL δ1 (x :: xs) <;> first | rfl | (rename_i ds; simp only <;> (cases k ds <;> rfl)))
      · rfl
theorem r_bmk : bmK T k os Q (.ok x δ) = bmK.bm2 T k os x (resO δ x) δ Q := by first | rfl | exact wR_eq | exact wS_eq | exact wO_eq | exact wL_eq | exact wI_eq | (simp only [wR_eq, wS_eq, wO_eq, wL_eq, wI_eq, pnd_eq, pndS_eq, pndR_eq]; rfl)
theorem r_bm2 : bmK.bm2 T k os x (some d) δ Q = IfW (tyM d = some T) (wO os δ (bmK.bm3 k x Q)) (Q .bad) := by rw [ifW_eq]; first | exact (rfl) | (simp only [wR_eq, wS_eq, wO_eq, wL_eq, wI_eq, pnd_eq, pndS_eq, pndR_eq]; first | rfl | (split <;> rfl))
theorem r_bm3 : bmK.bm3 k x Q (.ok xs δ) = ops2 k (resL δ (x :: xs)) δ Q := by first | rfl | exact wR_eq | exact wS_eq | exact wO_eq | exact wL_eq | exact wI_eq | (simp only [wR_eq, wS_eq, wO_eq, wL_eq, wI_eq, pnd_eq, pndS_eq, pndR_eq]; rfl)
end
def kwK (k : List D → List D → Option D) (n : Nat) (Q : R D → Prop) : R (List OV) → Prop
  | .ok xs δ => kw2 k n (resL δ xs) δ Q
  | .ex x δ => Q (.ex x δ)
  | .bad => Q .bad
where kw2 (k : List D → List D → Option D) (n : Nat) (ds : Option (List D)) (δ : Env) (Q : R D → Prop) : Prop := match ds with
    | some ds => ops3 (k (ds.take n) (ds.drop n)) δ Q
    | none => Q .bad
theorem r_kw {δ : Env} {k : List D → List D → Option D} {os1 os2 : List Od} {Q : R D → Prop} : wR (eKw k os1 os2 δ) Q = wO (os1 ++ os2) δ (kwK k os1.length Q) := by
  simp only [wR_eq, wO_eq]; unfold eKw
  cases evOds (os1 ++ os2) δ with
  | bad => rfl
  | ex x y => rfl
  | ok xs δ1 =>
    simp only [R.bind_ok, kwK]
    cases resL δ1 xs with
    | none => rfl
    | some ds => simp only [kwK.kw2, ops3] <;> (cases k (ds.take os1.length) (ds.drop os1.length) <;> rfl)
theorem r_kwk {δ : Env} {k : List D → List D → Option D} {n : Nat} {xs : List OV} {Q : R D → Prop} : kwK k n Q (.ok xs δ) = kwK.kw2 k n (resL δ xs) δ Q := by first | rfl | exact wR_eq | exact wS_eq | exact wO_eq | exact wL_eq | exact wI_eq | (simp only [wR_eq, wS_eq, wO_eq, wL_eq, wI_eq, pnd_eq, pndS_eq, pndR_eq]; rfl)
theorem r_kw2 {δ : Env} {k : List D → List D → Option D} {n : Nat} {ds : List D} {Q : R D → Prop} : kwK.kw2 k n (some ds) δ Q = ops3 (k (ds.take n) (ds.drop n)) δ Q := by first | rfl | exact wR_eq | exact wS_eq | exact wO_eq | exact wL_eq | exact wI_eq | (simp only [wR_eq, wS_eq, wO_eq, wL_eq, wI_eq, pnd_eq, pndS_eq, pndR_eq]; rfl)
section
variable {δ : Env} {x : Option D} {d e : D} {i n : Nat}
theorem r_gt0 : gt (x :: δ) 0 = x := by first | rfl | exact wR_eq | exact wS_eq | exact wO_eq | exact wL_eq | exact wI_eq | (simp only [wR_eq, wS_eq, wO_eq, wL_eq, wI_eq, pnd_eq, pndS_eq, pndR_eq]; rfl)
theorem r_gt1 : gt (x :: δ) 1 = gt δ 0 := by first | rfl | exact wR_eq | exact wS_eq | exact wO_eq | exact wL_eq | exact wI_eq | (simp only [wR_eq, wS_eq, wO_eq, wL_eq, wI_eq, pnd_eq, pndS_eq, pndR_eq]; rfl)
theorem r_gt2 : gt (x :: δ) 2 = gt δ 1 := by first | rfl | exact wR_eq | exact wS_eq | exact wO_eq | exact wL_eq | exact wI_eq | (simp only [wR_eq, wS_eq, wO_eq, wL_eq, wI_eq, pnd_eq, pndS_eq, pndR_eq]; rfl)
theorem r_gt3 : gt (x :: δ) 3 = gt δ 2 := by first | rfl | exact wR_eq | exact wS_eq | exact wO_eq | exact wL_eq | exact wI_eq | (simp only [wR_eq, wS_eq, wO_eq, wL_eq, wI_eq, pnd_eq, pndS_eq, pndR_eq]; rfl)
theorem r_gt4 : gt (x :: δ) 4 = gt δ 3 := by first | rfl | exact wR_eq | exact wS_eq | exact wO_eq | exact wL_eq | exact wI_eq | (simp only [wR_eq, wS_eq, wO_eq, wL_eq, wI_eq, pnd_eq, pndS_eq, pndR_eq]; rfl)
theorem r_gt5 : gt (x :: δ) 5 = gt δ 4 := by first | rfl | exact wR_eq | exact wS_eq | exact wO_eq | exact wL_eq | exact wI_eq | (simp only [wR_eq, wS_eq, wO_eq, wL_eq, wI_eq, pnd_eq, pndS_eq, pndR_eq]; rfl)
theorem r_gt6 : gt (x :: δ) 6 = gt δ 5 := by first | rfl | exact wR_eq | exact wS_eq | exact wO_eq | exact wL_eq | exact wI_eq | (simp only [wR_eq, wS_eq, wO_eq, wL_eq, wI_eq, pnd_eq, pndS_eq, pndR_eq]; rfl)
theorem r_gt7 : gt (x :: δ) 7 = gt δ 6 := by first | rfl | exact wR_eq | exact wS_eq | exact wO_eq | exact wL_eq | exact wI_eq | (simp only [wR_eq, wS_eq, wO_eq, wL_eq, wI_eq, pnd_eq, pndS_eq, pndR_eq]; rfl)
theorem r_gt8 : gt (x :: δ) 8 = gt δ 7 := by first | rfl | exact wR_eq | exact wS_eq | exact wO_eq | exact wL_eq | exact wI_eq | (simp only [wR_eq, wS_eq, wO_eq, wL_eq, wI_eq, pnd_eq, pndS_eq, pndR_eq]; rfl)
theorem r_gt9 : gt (x :: δ) 9 = gt δ 8 := by first | rfl | exact wR_eq | exact wS_eq | exact wO_eq | exact wL_eq | exact wI_eq | (simp only [wR_eq, wS_eq, wO_eq, wL_eq, wI_eq, pnd_eq, pndS_eq, pndR_eq]; rfl)
theorem r_gt10 : gt (x :: δ) 10 = gt δ 9 := by first | rfl | exact wR_eq | exact wS_eq | exact wO_eq | exact wL_eq | exact wI_eq | (simp only [wR_eq, wS_eq, wO_eq, wL_eq, wI_eq, pnd_eq, pndS_eq, pndR_eq]; rfl)
theorem r_gt11 : gt (x :: δ) 11 = gt δ 10 := by first | rfl | exact wR_eq | exact wS_eq | exact wO_eq | exact wL_eq | exact wI_eq | (simp only [wR_eq, wS_eq, wO_eq, wL_eq, wI_eq, pnd_eq, pndS_eq, pndR_eq]; rfl)
theorem r_gt12 : gt (x :: δ) 12 = gt δ 11 := by first | rfl | exact wR_eq | exact wS_eq | exact wO_eq | exact wL_eq | exact wI_eq | (simp only [wR_eq, wS_eq, wO_eq, wL_eq, wI_eq, pnd_eq, pndS_eq, pndR_eq]; rfl)
theorem r_gt13 : gt (x :: δ) 13 = gt δ 12 := by first | rfl | exact wR_eq | exact wS_eq | exact wO_eq | exact wL_eq | exact wI_eq | (simp only [wR_eq, wS_eq, wO_eq, wL_eq, wI_eq, pnd_eq, pndS_eq, pndR_eq]; rfl)
theorem r_gt14 : gt (x :: δ) 14 = gt δ 13 := by first | rfl | exact wR_eq | exact wS_eq | exact wO_eq | exact wL_eq | exact wI_eq | (simp only [wR_eq, wS_eq, wO_eq, wL_eq, wI_eq, pnd_eq, pndS_eq, pndR_eq]; rfl)
theorem r_gt15 : gt (x :: δ) 15 = gt δ 14 := by first | rfl | exact wR_eq | exact wS_eq | exact wO_eq | exact wL_eq | exact wI_eq | (simp only [wR_eq, wS_eq, wO_eq, wL_eq, wI_eq, pnd_eq, pndS_eq, pndR_eq]; rfl)
theorem r_gt16 : gt (x :: δ) 16 = gt δ 15 := by first | rfl | exact wR_eq | exact wS_eq | exact wO_eq | exact wL_eq | exact wI_eq | (simp only [wR_eq, wS_eq, wO_eq, wL_eq, wI_eq, pnd_eq, pndS_eq, pndR_eq]; rfl)
theorem r_gt17 : gt (x :: δ) 17 = gt δ 16 := by first | rfl | exact wR_eq | exact wS_eq | exact wO_eq | exact wL_eq | exact wI_eq | (simp only [wR_eq, wS_eq, wO_eq, wL_eq, wI_eq, pnd_eq, pndS_eq, pndR_eq]; rfl)
theorem r_gt18 : gt (x :: δ) 18 = gt δ 17 := by first | rfl | exact wR_eq | exact wS_eq | exact wO_eq | exact wL_eq | exact wI_eq | (simp only [wR_eq, wS_eq, wO_eq, wL_eq, wI_eq, pnd_eq, pndS_eq, pndR_eq]; rfl)
theorem r_gt19 : gt (x :: δ) 19 = gt δ 18 := by first | rfl | exact wR_eq | exact wS_eq | exact wO_eq | exact wL_eq | exact wI_eq | (simp only [wR_eq, wS_eq, wO_eq, wL_eq, wI_eq, pnd_eq, pndS_eq, pndR_eq]; rfl)
theorem r_gt20 : gt (x :: δ) 20 = gt δ 19 := by first | rfl | exact wR_eq | exact wS_eq | exact wO_eq | exact wL_eq | exact wI_eq | (simp only [wR_eq, wS_eq, wO_eq, wL_eq, wI_eq, pnd_eq, pndS_eq, pndR_eq]; rfl)
theorem r_gt21 : gt (x :: δ) 21 = gt δ 20 := by first | rfl | exact wR_eq | exact wS_eq | exact wO_eq | exact wL_eq | exact wI_eq | (simp only [wR_eq, wS_eq, wO_eq, wL_eq, wI_eq, pnd_eq, pndS_eq, pndR_eq]; rfl)
theorem r_gt22 : gt (x :: δ) 22 = gt δ 21 := by first | rfl | exact wR_eq | exact wS_eq | exact wO_eq | exact wL_eq | exact wI_eq | (simp only [wR_eq, wS_eq, wO_eq, wL_eq, wI_eq, pnd_eq, pndS_eq, pndR_eq]; rfl)
theorem r_gt23 : gt (x :: δ) 23 = gt δ 22 := by first | rfl | exact wR_eq | exact wS_eq | exact wO_eq | exact wL_eq | exact wI_eq | (simp only [wR_eq, wS_eq, wO_eq, wL_eq, wI_eq, pnd_eq, pndS_eq, pndR_eq]; rfl)
theorem r_gt24 : gt (x :: δ) 24 = gt δ 23 := by first | rfl | exact wR_eq | exact wS_eq | exact wO_eq | exact wL_eq | exact wI_eq | (simp only [wR_eq, wS_eq, wO_eq, wL_eq, wI_eq, pnd_eq, pndS_eq, pndR_eq]; rfl)
theorem r_gt25 : gt (x :: δ) 25 = gt δ 24 := by first | rfl | exact wR_eq | exact wS_eq | exact wO_eq | exact wL_eq | exact wI_eq | (simp only [wR_eq, wS_eq, wO_eq, wL_eq, wI_eq, pnd_eq, pndS_eq, pndR_eq]; rfl)
theorem r_gt26 : gt (x :: δ) 26 = gt δ 25 := by first | rfl | exact wR_eq | exact wS_eq | exact wO_eq | exact wL_eq | exact wI_eq | (simp only [wR_eq, wS_eq, wO_eq, wL_eq, wI_eq, pnd_eq, pndS_eq, pndR_eq]; rfl)
theorem r_gt27 : gt (x :: δ) 27 = gt δ 26 := by first | rfl | exact wR_eq | exact wS_eq | exact wO_eq | exact wL_eq | exact wI_eq | (simp only [wR_eq, wS_eq, wO_eq, wL_eq, wI_eq, pnd_eq, pndS_eq, pndR_eq]; rfl)
theorem r_gt28 : gt (x :: δ) 28 = gt δ 27 := by first | rfl | exact wR_eq | exact wS_eq | exact wO_eq | exact wL_eq | exact wI_eq | (simp only [wR_eq, wS_eq, wO_eq, wL_eq, wI_eq, pnd_eq, pndS_eq, pndR_eq]; rfl)
theorem r_gt29 : gt (x :: δ) 29 = gt δ 28 := by first | rfl | exact wR_eq | exact wS_eq | exact wO_eq | exact wL_eq | exact wI_eq | (simp only [wR_eq, wS_eq, wO_eq, wL_eq, wI_eq, pnd_eq, pndS_eq, pndR_eq]; rfl)
theorem r_gt30 : gt (x :: δ) 30 = gt δ 29 := by first | rfl | exact wR_eq | exact wS_eq | exact wO_eq | exact wL_eq | exact wI_eq | (simp only [wR_eq, wS_eq, wO_eq, wL_eq, wI_eq, pnd_eq, pndS_eq, pndR_eq]; rfl)
theorem r_gt31 : gt (x :: δ) 31 = gt δ 30 := by first | rfl | exact wR_eq | exact wS_eq | exact wO_eq | exact wL_eq | exact wI_eq | (simp only [wR_eq, wS_eq, wO_eq, wL_eq, wI_eq, pnd_eq, pndS_eq, pndR_eq]; rfl)
theorem r_gt32 : gt (x :: δ) 32 = gt δ 31 := by first | rfl | exact wR_eq | exact wS_eq | exact wO_eq | exact wL_eq | exact wI_eq | (simp only [wR_eq, wS_eq, wO_eq, wL_eq, wI_eq, pnd_eq, pndS_eq, pndR_eq]; rfl)
theorem r_gt33 : gt (x :: δ) 33 = gt δ 32 := by first | rfl | exact wR_eq | exact wS_eq | exact wO_eq | exact wL_eq | exact wI_eq | (simp only [wR_eq, wS_eq, wO_eq, wL_eq, wI_eq, pnd_eq, pndS_eq, pndR_eq]; rfl)
theorem r_gt34 : gt (x :: δ) 34 = gt δ 33 := by first | rfl | exact wR_eq | exact wS_eq | exact wO_eq | exact wL_eq | exact wI_eq | (simp only [wR_eq, wS_eq, wO_eq, wL_eq, wI_eq, pnd_eq, pndS_eq, pndR_eq]; rfl)
theorem r_gt35 : gt (x :: δ) 35 = gt δ 34 := by first | rfl | exact wR_eq | exact wS_eq | exact wO_eq | exact wL_eq | exact wI_eq | (simp only [wR_eq, wS_eq, wO_eq, wL_eq, wI_eq, pnd_eq, pndS_eq, pndR_eq]; rfl)
theorem r_gt36 : gt (x :: δ) 36 = gt δ 35 := by first | rfl | exact wR_eq | exact wS_eq | exact wO_eq | exact wL_eq | exact wI_eq | (simp only [wR_eq, wS_eq, wO_eq, wL_eq, wI_eq, pnd_eq, pndS_eq, pndR_eq]; rfl)
theorem r_gt37 : gt (x :: δ) 37 = gt δ 36 := by first | rfl | exact wR_eq | exact wS_eq | exact wO_eq | exact wL_eq | exact wI_eq | (simp only [wR_eq, wS_eq, wO_eq, wL_eq, wI_eq, pnd_eq, pndS_eq, pndR_eq]; rfl)
theorem r_gt38 : gt (x :: δ) 38 = gt δ 37 := by first | rfl | exact wR_eq | exact wS_eq | exact wO_eq | exact wL_eq | exact wI_eq | (simp only [wR_eq, wS_eq, wO_eq, wL_eq, wI_eq, pnd_eq, pndS_eq, pndR_eq]; rfl)
theorem r_gt39 : gt (x :: δ) 39 = gt δ 38 := by first | rfl | exact wR_eq | exact wS_eq | exact wO_eq | exact wL_eq | exact wI_eq | (simp only [wR_eq, wS_eq, wO_eq, wL_eq, wI_eq, pnd_eq, pndS_eq, pndR_eq]; rfl)
theorem r_st0 {y : Option D} : st (x :: δ) 0 y = y :: δ := by first | rfl | exact wR_eq | exact wS_eq | exact wO_eq | exact wL_eq | exact wI_eq | (simp only [wR_eq, wS_eq, wO_eq, wL_eq, wI_eq, pnd_eq, pndS_eq, pndR_eq]; rfl)
theorem r_st1 {y : Option D} : st (x :: δ) 1 y = x :: st δ 0 y := by first | rfl | exact wR_eq | exact wS_eq | exact wO_eq | exact wL_eq | exact wI_eq | (simp only [wR_eq, wS_eq, wO_eq, wL_eq, wI_eq, pnd_eq, pndS_eq, pndR_eq]; rfl)
theorem r_st2 {y : Option D} : st (x :: δ) 2 y = x :: st δ 1 y := by first | rfl | exact wR_eq | exact wS_eq | exact wO_eq | exact wL_eq | exact wI_eq | (simp only [wR_eq, wS_eq, wO_eq, wL_eq, wI_eq, pnd_eq, pndS_eq, pndR_eq]; rfl)
theorem r_st3 {y : Option D} : st (x :: δ) 3 y = x :: st δ 2 y := by first | rfl | exact wR_eq | exact wS_eq | exact wO_eq | exact wL_eq | exact wI_eq | (simp only [wR_eq, wS_eq, wO_eq, wL_eq, wI_eq, pnd_eq, pndS_eq, pndR_eq]; rfl)
theorem r_st4 {y : Option D} : st (x :: δ) 4 y = x :: st δ 3 y := by first | rfl | exact wR_eq | exact wS_eq | exact wO_eq | exact wL_eq | exact wI_eq | (simp only [wR_eq, wS_eq, wO_eq, wL_eq, wI_eq, pnd_eq, pndS_eq, pndR_eq]; rfl)
theorem r_st5 {y : Option D} : st (x :: δ) 5 y = x :: st δ 4 y := by first | rfl | exact wR_eq | exact wS_eq | exact wO_eq | exact wL_eq | exact wI_eq | (simp only [wR_eq, wS_eq, wO_eq, wL_eq, wI_eq, pnd_eq, pndS_eq, pndR_eq]; rfl)
theorem r_st6 {y : Option D} : st (x :: δ) 6 y = x :: st δ 5 y := by first | rfl | exact wR_eq | exact wS_eq | exact wO_eq | exact wL_eq | exact wI_eq | (simp only [wR_eq, wS_eq, wO_eq, wL_eq, wI_eq, pnd_eq, pndS_eq, pndR_eq]; rfl)
theorem r_st7 {y : Option D} : st (x :: δ) 7 y = x :: st δ 6 y := by first | rfl | exact wR_eq | exact wS_eq | exact wO_eq | exact wL_eq | exact wI_eq | (simp only [wR_eq, wS_eq, wO_eq, wL_eq, wI_eq, pnd_eq, pndS_eq, pndR_eq]; rfl)
theorem r_st8 {y : Option D} : st (x :: δ) 8 y = x :: st δ 7 y := by first | rfl | exact wR_eq | exact wS_eq | exact wO_eq | exact wL_eq | exact wI_eq | (simp only [wR_eq, wS_eq, wO_eq, wL_eq, wI_eq, pnd_eq, pndS_eq, pndR_eq]; rfl)
theorem r_st9 {y : Option D} : st (x :: δ) 9 y = x :: st δ 8 y := by first | rfl | exact wR_eq | exact wS_eq | exact wO_eq | exact wL_eq | exact wI_eq | (simp only [wR_eq, wS_eq, wO_eq, wL_eq, wI_eq, pnd_eq, pndS_eq, pndR_eq]; rfl)
theorem r_st10 {y : Option D} : st (x :: δ) 10 y = x :: st δ 9 y := by first | rfl | exact wR_eq | exact wS_eq | exact wO_eq | exact wL_eq | exact wI_eq | (simp only [wR_eq, wS_eq, wO_eq, wL_eq, wI_eq, pnd_eq, pndS_eq, pndR_eq]; rfl)
theorem r_st11 {y : Option D} : st (x :: δ) 11 y = x :: st δ 10 y := by first | rfl | exact wR_eq | exact wS_eq | exact wO_eq | exact wL_eq | exact wI_eq | (simp only [wR_eq, wS_eq, wO_eq, wL_eq, wI_eq, pnd_eq, pndS_eq, pndR_eq]; rfl)
theorem r_st12 {y : Option D} : st (x :: δ) 12 y = x :: st δ 11 y := by first | rfl | exact wR_eq | exact wS_eq | exact wO_eq | exact wL_eq | exact wI_eq | (simp only [wR_eq, wS_eq, wO_eq, wL_eq, wI_eq, pnd_eq, pndS_eq, pndR_eq]; rfl)
theorem r_st13 {y : Option D} : st (x :: δ) 13 y = x :: st δ 12 y := by first | rfl | exact wR_eq | exact wS_eq | exact wO_eq | exact wL_eq | exact wI_eq | (simp only [wR_eq, wS_eq, wO_eq, wL_eq, wI_eq, pnd_eq, pndS_eq, pndR_eq]; rfl)
theorem r_st14 {y : Option D} : st (x :: δ) 14 y = x :: st δ 13 y := by first | rfl | exact wR_eq | exact wS_eq | exact wO_eq | exact wL_eq | exact wI_eq | (simp only [wR_eq, wS_eq, wO_eq, wL_eq, wI_eq, pnd_eq, pndS_eq, pndR_eq]; rfl)
theorem r_st15 {y : Option D} : st (x :: δ) 15 y = x :: st δ 14 y := by first | rfl | exact wR_eq | exact wS_eq | exact wO_eq | exact wL_eq | exact wI_eq | (simp only [wR_eq, wS_eq, wO_eq, wL_eq, wI_eq, pnd_eq, pndS_eq, pndR_eq]; rfl)
theorem r_st16 {y : Option D} : st (x :: δ) 16 y = x :: st δ 15 y := by first | rfl | exact wR_eq | exact wS_eq | exact wO_eq | exact wL_eq | exact wI_eq | (simp only [wR_eq, wS_eq, wO_eq, wL_eq, wI_eq, pnd_eq, pndS_eq, pndR_eq]; rfl)
theorem r_st17 {y : Option D} : st (x :: δ) 17 y = x :: st δ 16 y := by first | rfl | exact wR_eq | exact wS_eq | exact wO_eq | exact wL_eq | exact wI_eq | (simp only [wR_eq, wS_eq, wO_eq, wL_eq, wI_eq, pnd_eq, pndS_eq, pndR_eq]; rfl)
theorem r_st18 {y : Option D} : st (x :: δ) 18 y = x :: st δ 17 y := by first | rfl | exact wR_eq | exact wS_eq | exact wO_eq | exact wL_eq | exact wI_eq | (simp only [wR_eq, wS_eq, wO_eq, wL_eq, wI_eq, pnd_eq, pndS_eq, pndR_eq]; rfl)
theorem r_st19 {y : Option D} : st (x :: δ) 19 y = x :: st δ 18 y := by first | rfl | exact wR_eq | exact wS_eq | exact wO_eq | exact wL_eq | exact wI_eq | (simp only [wR_eq, wS_eq, wO_eq, wL_eq, wI_eq, pnd_eq, pndS_eq, pndR_eq]; rfl)
theorem r_st20 {y : Option D} : st (x :: δ) 20 y = x :: st δ 19 y := by first | rfl | exact wR_eq | exact wS_eq | exact wO_eq | exact wL_eq | exact wI_eq | (simp only [wR_eq, wS_eq, wO_eq, wL_eq, wI_eq, pnd_eq, pndS_eq, pndR_eq]; rfl)
theorem r_st21 {y : Option D} : st (x :: δ) 21 y = x :: st δ 20 y := by first | rfl | exact wR_eq | exact wS_eq | exact wO_eq | exact wL_eq | exact wI_eq | (simp only [wR_eq, wS_eq, wO_eq, wL_eq, wI_eq, pnd_eq, pndS_eq, pndR_eq]; rfl)
theorem r_st22 {y : Option D} : st (x :: δ) 22 y = x :: st δ 21 y := by first | rfl | exact wR_eq | exact wS_eq | exact wO_eq | exact wL_eq | exact wI_eq | (simp only [wR_eq, wS_eq, wO_eq, wL_eq, wI_eq, pnd_eq, pndS_eq, pndR_eq]; rfl)
theorem r_st23 {y : Option D} : st (x :: δ) 23 y = x :: st δ 22 y := by first | rfl | exact wR_eq | exact wS_eq | exact wO_eq | exact wL_eq | exact wI_eq | (simp only [wR_eq, wS_eq, wO_eq, wL_eq, wI_eq, pnd_eq, pndS_eq, pndR_eq]; rfl)
theorem r_st24 {y : Option D} : st (x :: δ) 24 y = x :: st δ 23 y := by first | rfl | exact wR_eq | exact wS_eq | exact wO_eq | exact wL_eq | exact wI_eq | (simp only [wR_eq, wS_eq, wO_eq, wL_eq, wI_eq, pnd_eq, pndS_eq, pndR_eq]; rfl)
theorem r_st25 {y : Option D} : st (x :: δ) 25 y = x :: st δ 24 y := by first | rfl | exact wR_eq | exact wS_eq | exact wO_eq | exact wL_eq | exact wI_eq | (simp only [wR_eq, wS_eq, wO_eq, wL_eq, wI_eq, pnd_eq, pndS_eq, pndR_eq]; rfl)
theorem r_st26 {y : Option D} : st (x :: δ) 26 y = x :: st δ 25 y := by first | rfl | exact wR_eq | exact wS_eq | exact wO_eq | exact wL_eq | exact wI_eq | (simp only [wR_eq, wS_eq, wO_eq, wL_eq, wI_eq, pnd_eq, pndS_eq, pndR_eq]; rfl)
theorem r_st27 {y : Option D} : st (x :: δ) 27 y = x :: st δ 26 y := by first | rfl | exact wR_eq | exact wS_eq | exact wO_eq | exact wL_eq | exact wI_eq | (simp only [wR_eq, wS_eq, wO_eq, wL_eq, wI_eq, pnd_eq, pndS_eq, pndR_eq]; rfl)
theorem r_st28 {y : Option D} : st (x :: δ) 28 y = x :: st δ 27 y := by first | rfl | exact wR_eq | exact wS_eq | exact wO_eq | exact wL_eq | exact wI_eq | (simp only [wR_eq, wS_eq, wO_eq, wL_eq, wI_eq, pnd_eq, pndS_eq, pndR_eq]; rfl)
theorem r_st29 {y : Option D} : st (x :: δ) 29 y = x :: st δ 28 y := by first | rfl | exact wR_eq | exact wS_eq | exact wO_eq | exact wL_eq | exact wI_eq | (simp only [wR_eq, wS_eq, wO_eq, wL_eq, wI_eq, pnd_eq, pndS_eq, pndR_eq]; rfl)
theorem r_st30 {y : Option D} : st (x :: δ) 30 y = x :: st δ 29 y := by first | rfl | exact wR_eq | exact wS_eq | exact wO_eq | exact wL_eq | exact wI_eq | (simp only [wR_eq, wS_eq, wO_eq, wL_eq, wI_eq, pnd_eq, pndS_eq, pndR_eq]; rfl)
theorem r_st31 {y : Option D} : st (x :: δ) 31 y = x :: st δ 30 y := by first | rfl | exact wR_eq | exact wS_eq | exact wO_eq | exact wL_eq | exact wI_eq | (simp only [wR_eq, wS_eq, wO_eq, wL_eq, wI_eq, pnd_eq, pndS_eq, pndR_eq]; rfl)
theorem r_st32 {y : Option D} : st (x :: δ) 32 y = x :: st δ 31 y := by first | rfl | exact wR_eq | exact wS_eq | exact wO_eq | exact wL_eq | exact wI_eq | (simp only [wR_eq, wS_eq, wO_eq, wL_eq, wI_eq, pnd_eq, pndS_eq, pndR_eq]; rfl)
theorem r_st33 {y : Option D} : st (x :: δ) 33 y = x :: st δ 32 y := by first | rfl | exact wR_eq | exact wS_eq | exact wO_eq | exact wL_eq | exact wI_eq | (simp only [wR_eq, wS_eq, wO_eq, wL_eq, wI_eq, pnd_eq, pndS_eq, pndR_eq]; rfl)
theorem r_st34 {y : Option D} : st (x :: δ) 34 y = x :: st δ 33 y := by first | rfl | exact wR_eq | exact wS_eq | exact wO_eq | exact wL_eq | exact wI_eq | (simp only [wR_eq, wS_eq, wO_eq, wL_eq, wI_eq, pnd_eq, pndS_eq, pndR_eq]; rfl)
theorem r_st35 {y : Option D} : st (x :: δ) 35 y = x :: st δ 34 y := by first | rfl | exact wR_eq | exact wS_eq | exact wO_eq | exact wL_eq | exact wI_eq | (simp only [wR_eq, wS_eq, wO_eq, wL_eq, wI_eq, pnd_eq, pndS_eq, pndR_eq]; rfl)
theorem r_st36 {y : Option D} : st (x :: δ) 36 y = x :: st δ 35 y := by first | rfl | exact wR_eq | exact wS_eq | exact wO_eq | exact wL_eq | exact wI_eq | (simp only [wR_eq, wS_eq, wO_eq, wL_eq, wI_eq, pnd_eq, pndS_eq, pndR_eq]; rfl)
theorem r_st37 {y : Option D} : st (x :: δ) 37 y = x :: st δ 36 y := by first | rfl | exact wR_eq | exact wS_eq | exact wO_eq | exact wL_eq | exact wI_eq | (simp only [wR_eq, wS_eq, wO_eq, wL_eq, wI_eq, pnd_eq, pndS_eq, pndR_eq]; rfl)
theorem r_st38 {y : Option D} : st (x :: δ) 38 y = x :: st δ 37 y := by first | rfl | exact wR_eq | exact wS_eq | exact wO_eq | exact wL_eq | exact wI_eq | (simp only [wR_eq, wS_eq, wO_eq, wL_eq, wI_eq, pnd_eq, pndS_eq, pndR_eq]; rfl)
theorem r_st39 {y : Option D} : st (x :: δ) 39 y = x :: st δ 38 y := by first | rfl | exact wR_eq | exact wS_eq | exact wO_eq | exact wL_eq | exact wI_eq | (simp only [wR_eq, wS_eq, wO_eq, wL_eq, wI_eq, pnd_eq, pndS_eq, pndR_eq]; rfl)
end
theorem r_resn {δ : Env} : resL δ [] = some [] := by first | rfl | exact wR_eq | exact wS_eq | exact wO_eq | exact wL_eq | exact wI_eq | (simp only [wR_eq, wS_eq, wO_eq, wL_eq, wI_eq, pnd_eq, pndS_eq, pndR_eq]; rfl)
def rs2 (d : Option D) (ds : Option (List D)) : Option (List D) := match d, ds with
  | some d, some ds => some (d :: ds)
  | _, _ => none
theorem r_resc {δ : Env} {x : OV} {xs : List OV} : resL δ (x :: xs) = rs2 (resO δ x) (resL δ xs) := by first | rfl | exact wR_eq | exact wS_eq | exact wO_eq | exact wL_eq | exact wI_eq | (simp only [wR_eq, wS_eq, wO_eq, wL_eq, wI_eq, pnd_eq, pndS_eq, pndR_eq]; rfl)
theorem r_rs2 {d : D} {ds : List D} : rs2 (some d) (some ds) = some (d :: ds) := by first | rfl | exact wR_eq | exact wS_eq | exact wO_eq | exact wL_eq | exact wI_eq | (simp only [wR_eq, wS_eq, wO_eq, wL_eq, wI_eq, pnd_eq, pndS_eq, pndR_eq]; rfl)
theorem r_rest {δ : Env} {d : D} : resO δ (.tmp d) = some d := by first | rfl | exact wR_eq | exact wS_eq | exact wO_eq | exact wL_eq | exact wI_eq | (simp only [wR_eq, wS_eq, wO_eq, wL_eq, wI_eq, pnd_eq, pndS_eq, pndR_eq]; rfl)
theorem r_resl {δ : Env} {i : Nat} : resO δ (.late i) = gt δ i := by first | rfl | exact wR_eq | exact wS_eq | exact wO_eq | exact wL_eq | exact wI_eq | (simp only [wR_eq, wS_eq, wO_eq, wL_eq, wI_eq, pnd_eq, pndS_eq, pndR_eq]; rfl)
theorem r_out0 {δ : Env} : outL [] δ = δ := by first | rfl | exact wR_eq | exact wS_eq | exact wO_eq | exact wL_eq | exact wI_eq | (simp only [wR_eq, wS_eq, wO_eq, wL_eq, wI_eq, pnd_eq, pndS_eq, pndR_eq]; rfl)
theorem r_out1 {δ : Env} {i : Nat} {hs : List Nat} : outL (i :: hs) δ = outL hs (st δ i none) := by first | rfl | exact wR_eq | exact wS_eq | exact wO_eq | exact wL_eq | exact wI_eq | (simp only [wR_eq, wS_eq, wO_eq, wL_eq, wI_eq, pnd_eq, pndS_eq, pndR_eq]; rfl)
theorem r_put0 {δ0 δ : Env} : putL [] δ0 δ = δ := by first | rfl | exact wR_eq | exact wS_eq | exact wO_eq | exact wL_eq | exact wI_eq | (simp only [wR_eq, wS_eq, wO_eq, wL_eq, wI_eq, pnd_eq, pndS_eq, pndR_eq]; rfl)
def put2 (d : Option D) (i : Nat) (hs : List Nat) (δ0 δ : Env) : Env := match d with
  | some d => st (putL hs (st δ0 i none) δ) i (some d)
  | none => putL hs (st δ0 i none) δ
theorem r_put1 {δ0 δ : Env} {i : Nat} {hs : List Nat} : putL (i :: hs) δ0 δ = put2 (gt δ0 i) i hs δ0 δ := by first | exact (by rw [putL]; unfold put2; cases gt δ0 i <;> rfl) | (simp only [wR_eq, wS_eq, wO_eq, wL_eq, wI_eq, pnd_eq, pndS_eq, pndR_eq]; rfl)
theorem r_put2 {δ0 δ : Env} {i : Nat} {hs : List Nat} {d : D} : put2 (some d) i hs δ0 δ = st (putL hs (st δ0 i none) δ) i (some d) := by first | rfl | exact wR_eq | exact wS_eq | exact wO_eq | exact wL_eq | exact wI_eq | (simp only [wR_eq, wS_eq, wO_eq, wL_eq, wI_eq, pnd_eq, pndS_eq, pndR_eq]; rfl)
theorem r_put2n {δ0 δ : Env} {i : Nat} {hs : List Nat} : put2 none i hs δ0 δ = putL hs (st δ0 i none) δ := by first | rfl | exact wR_eq | exact wS_eq | exact wO_eq | exact wL_eq | exact wI_eq | (simp only [wR_eq, wS_eq, wO_eq, wL_eq, wI_eq, pnd_eq, pndS_eq, pndR_eq]; rfl)
def pr2 (d : Option D) (i : Nat) (as : Option (List Arg)) : Option (List Arg) := match d, as with
  | some d, some as => some (⟨d, if clean d = true then none else some i⟩ :: as)
  | _, _ => none
def pr1 (d : D) (as : Option (List Arg)) : Option (List Arg) := match as with
  | some as => some (⟨d, none⟩ :: as)
  | none => none
theorem r_pr0 {δ : Env} : prep δ [] = some [] := by first | rfl | exact wR_eq | exact wS_eq | exact wO_eq | exact wL_eq | exact wI_eq | (simp only [wR_eq, wS_eq, wO_eq, wL_eq, wI_eq, pnd_eq, pndS_eq, pndR_eq]; rfl)
theorem r_prt {δ : Env} {d : D} {xs : List OV} : prep δ (.tmp d :: xs) = pr1 d (prep δ xs) := by first | rfl | exact wR_eq | exact wS_eq | exact wO_eq | exact wL_eq | exact wI_eq | (simp only [wR_eq, wS_eq, wO_eq, wL_eq, wI_eq, pnd_eq, pndS_eq, pndR_eq]; rfl)
theorem r_prl {δ : Env} {i : Nat} {xs : List OV} : prep δ (.late i :: xs) = pr2 (gt δ i) i (prep δ xs) := by first | rfl | exact wR_eq | exact wS_eq | exact wO_eq | exact wL_eq | exact wI_eq | (simp only [wR_eq, wS_eq, wO_eq, wL_eq, wI_eq, pnd_eq, pndS_eq, pndR_eq]; rfl)
theorem r_pr1 {d : D} {as : List Arg} : pr1 d (some as) = some (⟨d, none⟩ :: as) := by first | rfl | exact wR_eq | exact wS_eq | exact wO_eq | exact wL_eq | exact wI_eq | (simp only [wR_eq, wS_eq, wO_eq, wL_eq, wI_eq, pnd_eq, pndS_eq, pndR_eq]; rfl)
theorem r_pr2 {d : D} {i : Nat} {as : List Arg} : pr2 (some d) i (some as) = some (⟨d, if clean d = true then none else some i⟩ :: as) := by first | rfl | exact wR_eq | exact wS_eq | exact wO_eq | exact wL_eq | exact wI_eq | (simp only [wR_eq, wS_eq, wO_eq, wL_eq, wI_eq, pnd_eq, pndS_eq, pndR_eq]; rfl)
def pm2 (a : Option Arg) (ps : Option (List Arg)) (c : Bool) : Option (List Arg) := match a, ps with
  | some a, some ps => if c = true then some (a :: ps) else none
  | _, _ => none
def pmd (d : Option D) (ps : Option (List Arg)) : Option (List Arg) := match d, ps with
  | some d, some ps => some (⟨d, none⟩ :: ps)
  | _, _ => none
theorem r_pm0 {n : Nat} {dv : List D} {as : List Arg} : permA n dv as [] = some [] := by first | rfl | exact wR_eq | exact wS_eq | exact wO_eq | exact wL_eq | exact wI_eq | (simp only [wR_eq, wS_eq, wO_eq, wL_eq, wI_eq, pnd_eq, pndS_eq, pndR_eq]; rfl)
theorem r_pmu {n i : Nat} {dv : List D} {as : List Arg} {r : List Sr} : permA n dv as (.u i :: r) = pm2 as[i]? (permA n dv as r) (decide (i < n)) := by first | exact (by show (match as[i]?, permA n dv as r with | some a, some ps => if i < n then some (a :: ps) else none | _, _ => none) = _; cases as[i]? <;> cases permA n dv as r <;> simp [pm2]) | (simp only [wR_eq, wS_eq, wO_eq, wL_eq, wI_eq, pnd_eq, pndS_eq, pndR_eq]; rfl)
theorem r_pmw {n i : Nat} {dv : List D} {as : List Arg} {r : List Sr} : permA n dv as (.w i :: r) = pm2 as[n + i]? (permA n dv as r) true := by first | exact (by show (match as[n + i]?, permA n dv as r with | some a, some ps => some (a :: ps) | _, _ => none) = _; cases as[n + i]? <;> cases permA n dv as r <;> rfl) | (simp only [wR_eq, wS_eq, wO_eq, wL_eq, wI_eq, pnd_eq, pndS_eq, pndR_eq]; rfl)
theorem r_pmd {n i : Nat} {dv : List D} {as : List Arg} {r : List Sr} : permA n dv as (.d i :: r) = pmd dv[i]? (permA n dv as r) := by first | exact (by show (match dv[i]?, permA n dv as r with | some d, some ps => some ((⟨d, none⟩ : Arg) :: ps) | _, _ => none) = _; cases dv[i]? <;> cases permA n dv as r <;> rfl) | (simp only [wR_eq, wS_eq, wO_eq, wL_eq, wI_eq, pnd_eq, pndS_eq, pndR_eq]; rfl)
theorem r_pm2 {a : Arg} {ps : List Arg} : pm2 (some a) (some ps) true = some (a :: ps) := by first | rfl | exact wR_eq | exact wS_eq | exact wO_eq | exact wL_eq | exact wI_eq | (simp only [wR_eq, wS_eq, wO_eq, wL_eq, wI_eq, pnd_eq, pndS_eq, pndR_eq]; rfl)
theorem r_pmds {d : D} {ps : List Arg} : pmd (some d) (some ps) = some (⟨d, none⟩ :: ps) := by first | rfl | exact wR_eq | exact wS_eq | exact wO_eq | exact wL_eq | exact wI_eq | (simp only [wR_eq, wS_eq, wO_eq, wL_eq, wI_eq, pnd_eq, pndS_eq, pndR_eq]; rfl)
theorem r_ae0 : argE [] = [] := by first | rfl | exact wR_eq | exact wS_eq | exact wO_eq | exact wL_eq | exact wI_eq | (simp only [wR_eq, wS_eq, wO_eq, wL_eq, wI_eq, pnd_eq, pndS_eq, pndR_eq]; rfl)
theorem r_ae1 {a : Arg} {as : List Arg} : argE (a :: as) = some a.d :: argE as := by first | rfl | exact wR_eq | exact wS_eq | exact wO_eq | exact wL_eq | exact wI_eq | (simp only [wR_eq, wS_eq, wO_eq, wL_eq, wI_eq, pnd_eq, pndS_eq, pndR_eq]; rfl)
theorem r_ow0 : owns [] = [] := by first | rfl | exact wR_eq | exact wS_eq | exact wO_eq | exact wL_eq | exact wI_eq | (simp only [wR_eq, wS_eq, wO_eq, wL_eq, wI_eq, pnd_eq, pndS_eq, pndR_eq]; rfl)
theorem r_ow1 {d : D} {as : List Arg} : owns (⟨d, none⟩ :: as) = owns as := by first | rfl | exact wR_eq | exact wS_eq | exact wO_eq | exact wL_eq | exact wI_eq | (simp only [wR_eq, wS_eq, wO_eq, wL_eq, wI_eq, pnd_eq, pndS_eq, pndR_eq]; rfl)
theorem r_ow2 {d : D} {i : Nat} {as : List Arg} : owns (⟨d, some i⟩ :: as) = i :: owns as := by first | rfl | exact wR_eq | exact wS_eq | exact wO_eq | exact wL_eq | exact wI_eq | (simp only [wR_eq, wS_eq, wO_eq, wL_eq, wI_eq, pnd_eq, pndS_eq, pndR_eq]; rfl)
theorem r_wb0 {ε δ : Env} {j : Nat} : wb ε j [] δ = δ := by first | rfl | exact wR_eq | exact wS_eq | exact wO_eq | exact wL_eq | exact wI_eq | (simp only [wR_eq, wS_eq, wO_eq, wL_eq, wI_eq, pnd_eq, pndS_eq, pndR_eq]; rfl)
theorem r_wb1 {ε δ : Env} {j : Nat} {d : D} {as : List Arg} : wb ε j (⟨d, none⟩ :: as) δ = wb ε (j + 1) as δ := by first | rfl | exact wR_eq | exact wS_eq | exact wO_eq | exact wL_eq | exact wI_eq | (simp only [wR_eq, wS_eq, wO_eq, wL_eq, wI_eq, pnd_eq, pndS_eq, pndR_eq]; rfl)
theorem r_wb2 {ε δ : Env} {j i : Nat} {d : D} {as : List Arg} : wb ε j (⟨d, some i⟩ :: as) δ = wb ε (j + 1) as (st δ i (gt ε j)) := by first | rfl | exact wR_eq | exact wS_eq | exact wO_eq | exact wL_eq | exact wI_eq | (simp only [wR_eq, wS_eq, wO_eq, wL_eq, wI_eq, pnd_eq, pndS_eq, pndR_eq]; rfl)
theorem r_tgn {i : Nat} {d : D} {δ : Env} : tgD (.nm i) d δ = some (st δ i (some d)) := by first | exact (by rw [tgD]) | (simp only [wR_eq, wS_eq, wO_eq, wL_eq, wI_eq, pnd_eq, pndS_eq, pndR_eq]; rfl)
theorem r_tgt {ts : List Tg} {ds : List D} {δ : Env} : tgD (.tp ts) (.tup ds) δ = tgsD ts ds δ := by first | exact (by rw [tgD]) | (simp only [wR_eq, wS_eq, wO_eq, wL_eq, wI_eq, pnd_eq, pndS_eq, pndR_eq]; rfl)
theorem r_tgs0 {δ : Env} : tgsD [] [] δ = some δ := by first | exact (by rw [tgsD]) | (simp only [wR_eq, wS_eq, wO_eq, wL_eq, wI_eq, pnd_eq, pndS_eq, pndR_eq]; rfl)
def tgs2 (δ : Option Env) (ts : List Tg) (ds : List D) : Option Env := match δ with
  | some δ1 => tgsD ts ds δ1
  | none => none
theorem r_tgs1 {t : Tg} {ts : List Tg} {d : D} {ds : List D} {δ : Env} : tgsD (t :: ts) (d :: ds) δ = tgs2 (tgD t d δ) ts ds := by first | exact (by rw [tgsD]; unfold tgs2; rfl) | (simp only [wR_eq, wS_eq, wO_eq, wL_eq, wI_eq, pnd_eq, pndS_eq, pndR_eq]; rfl)
theorem r_tgs2 {ts : List Tg} {ds : List D} {δ : Env} : tgs2 (some δ) ts ds = tgsD ts ds δ := by first | rfl | exact wR_eq | exact wS_eq | exact wO_eq | exact wL_eq | exact wI_eq | (simp only [wR_eq, wS_eq, wO_eq, wL_eq, wI_eq, pnd_eq, pndS_eq, pndR_eq]; rfl)
theorem r_cl_non  : clean .non = true := by first | exact (by simp [clean]) | (simp only [wR_eq, wS_eq, wO_eq, wL_eq, wI_eq, pnd_eq, pndS_eq, pndR_eq]; rfl)
theorem r_cl_bl {b : Bool} : clean (.bl b) = true := by first | exact (by simp [clean]) | (simp only [wR_eq, wS_eq, wO_eq, wL_eq, wI_eq, pnd_eq, pndS_eq, pndR_eq]; rfl)
theorem r_cl_int {i : Int} : clean (.int i) = true := by first | exact (by simp [clean]) | (simp only [wR_eq, wS_eq, wO_eq, wL_eq, wI_eq, pnd_eq, pndS_eq, pndR_eq]; rfl)
theorem r_cl_str {x : Str} : clean (.str x) = true := by first | exact (by simp [clean]) | (simp only [wR_eq, wS_eq, wO_eq, wL_eq, wI_eq, pnd_eq, pndS_eq, pndR_eq]; rfl)
theorem r_cl_ty {n : String} : clean (.ty n) = true := by first | exact (by simp [clean]) | (simp only [wR_eq, wS_eq, wO_eq, wL_eq, wI_eq, pnd_eq, pndS_eq, pndR_eq]; rfl)
theorem r_cl_scr {s : List Int} : clean (.scr s) = true := by first | exact (by simp [clean]) | (simp only [wR_eq, wS_eq, wO_eq, wL_eq, wI_eq, pnd_eq, pndS_eq, pndR_eq]; rfl)
theorem r_cl_lt {ds : List D} : clean (.lst true ds) = false := by first | exact (by simp [clean]) | (simp only [wR_eq, wS_eq, wO_eq, wL_eq, wI_eq, pnd_eq, pndS_eq, pndR_eq]; rfl)
theorem r_cl_lf {ds : List D} : clean (.lst false ds) = cleans ds := by first | exact (by simp [clean]) | (simp only [wR_eq, wS_eq, wO_eq, wL_eq, wI_eq, pnd_eq, pndS_eq, pndR_eq]; rfl)
theorem r_cl_tp {ds : List D} : clean (.tup ds) = cleans ds := by first | exact (by simp [clean]) | (simp only [wR_eq, wS_eq, wO_eq, wL_eq, wI_eq, pnd_eq, pndS_eq, pndR_eq]; rfl)
theorem r_cls0 : cleans [] = true := by first | exact (by rw [cleans]) | (simp only [wR_eq, wS_eq, wO_eq, wL_eq, wI_eq, pnd_eq, pndS_eq, pndR_eq]; rfl)
theorem r_cls1 {d : D} {ds : List D} : cleans (d :: ds) = (clean d && cleans ds) := by first | exact (by rw [cleans]) | (simp only [wR_eq, wS_eq, wO_eq, wL_eq, wI_eq, pnd_eq, pndS_eq, pndR_eq]; rfl)
theorem atI_succ {α : Type} {x : α} {xs : List α} (k : Nat) : atI (x :: xs) ((k + 1 : Nat) : Int) = atI xs (k : Int) := by
  unfold atI ixN
  rw [if_pos (by omega : (0 : Int) ≤ ((k + 1 : Nat) : Int)), if_pos (by omega : (0 : Int) ≤ (k : Int)), List.length_cons]
  by_cases h : k < xs.length
  · rw [if_pos (by omega), if_pos (by omega), Int.toNat_natCast, Int.toNat_natCast]
    show (x :: xs)[k + 1]? = xs[k]?
    simp
  · rw [if_neg (by omega), if_neg (by omega)]
    rfl
theorem r_len_l {o : Bool} {ds : List D} : kLen [.lst o ds] = some (.int (ds.length : Int)) := by first | rfl | exact wR_eq | exact wS_eq | exact wO_eq | exact wL_eq | exact wI_eq | (simp only [wR_eq, wS_eq, wO_eq, wL_eq, wI_eq, pnd_eq, pndS_eq, pndR_eq]; rfl)
theorem r_len_t {ds : List D} : kLen [.tup ds] = some (.int (ds.length : Int)) := by first | rfl | exact wR_eq | exact wS_eq | exact wO_eq | exact wL_eq | exact wI_eq | (simp only [wR_eq, wS_eq, wO_eq, wL_eq, wI_eq, pnd_eq, pndS_eq, pndR_eq]; rfl)
theorem r_len_s {ns : List Int} : kLen [.scr ns] = some (.int (ns.length : Int)) := by first | rfl | exact wR_eq | exact wS_eq | exact wO_eq | exact wL_eq | exact wI_eq | (simp only [wR_eq, wS_eq, wO_eq, wL_eq, wI_eq, pnd_eq, pndS_eq, pndR_eq]; rfl)
theorem r_len_x {z : Str} : kLen [.str z] = if z.length ≤ 1000000 then some (.int (z.length : Int)) else none := by first | exact (by simp only [kLen, lenD]; split <;> rfl) | (simp only [wR_eq, wS_eq, wO_eq, wL_eq, wI_eq, pnd_eq, pndS_eq, pndR_eq]; rfl)
theorem r_at0 {α : Type} {x : α} {xs : List α} : atI (x :: xs) 0 = some x := by first | exact (by unfold atI ixN; simp) | (simp only [wR_eq, wS_eq, wO_eq, wL_eq, wI_eq, pnd_eq, pndS_eq, pndR_eq]; rfl)
theorem r_at1 {α : Type} {x : α} {xs : List α} : atI (x :: xs) 1 = atI xs 0 := by first | exact (atI_succ 0) | (simp only [wR_eq, wS_eq, wO_eq, wL_eq, wI_eq, pnd_eq, pndS_eq, pndR_eq]; rfl)
theorem r_at2 {α : Type} {x : α} {xs : List α} : atI (x :: xs) 2 = atI xs 1 := by first | exact (atI_succ 1) | (simp only [wR_eq, wS_eq, wO_eq, wL_eq, wI_eq, pnd_eq, pndS_eq, pndR_eq]; rfl)
theorem r_at3 {α : Type} {x : α} {xs : List α} : atI (x :: xs) 3 = atI xs 2 := by first | exact (atI_succ 2) | (simp only [wR_eq, wS_eq, wO_eq, wL_eq, wI_eq, pnd_eq, pndS_eq, pndR_eq]; rfl)
theorem r_at4 {α : Type} {x : α} {xs : List α} : atI (x :: xs) 4 = atI xs 3 := by first | exact (atI_succ 3) | (simp only [wR_eq, wS_eq, wO_eq, wL_eq, wI_eq, pnd_eq, pndS_eq, pndR_eq]; rfl)
theorem r_at5 {α : Type} {x : α} {xs : List α} : atI (x :: xs) 5 = atI xs 4 := by first | exact (atI_succ 4) | (simp only [wR_eq, wS_eq, wO_eq, wL_eq, wI_eq, pnd_eq, pndS_eq, pndR_eq]; rfl)
theorem r_at6 {α : Type} {x : α} {xs : List α} : atI (x :: xs) 6 = atI xs 5 := by first | exact (atI_succ 5) | (simp only [wR_eq, wS_eq, wO_eq, wL_eq, wI_eq, pnd_eq, pndS_eq, pndR_eq]; rfl)
theorem r_at7 {α : Type} {x : α} {xs : List α} : atI (x :: xs) 7 = atI xs 6 := by first | exact (atI_succ 6) | (simp only [wR_eq, wS_eq, wO_eq, wL_eq, wI_eq, pnd_eq, pndS_eq, pndR_eq]; rfl)
theorem r_at8 {α : Type} {x : α} {xs : List α} : atI (x :: xs) 8 = atI xs 7 := by first | exact (atI_succ 7) | (simp only [wR_eq, wS_eq, wO_eq, wL_eq, wI_eq, pnd_eq, pndS_eq, pndR_eq]; rfl)
theorem r_at9 {α : Type} {x : α} {xs : List α} : atI (x :: xs) 9 = atI xs 8 := by first | exact (atI_succ 8) | (simp only [wR_eq, wS_eq, wO_eq, wL_eq, wI_eq, pnd_eq, pndS_eq, pndR_eq]; rfl)
theorem r_at10 {α : Type} {x : α} {xs : List α} : atI (x :: xs) 10 = atI xs 9 := by first | exact (atI_succ 9) | (simp only [wR_eq, wS_eq, wO_eq, wL_eq, wI_eq, pnd_eq, pndS_eq, pndR_eq]; rfl)
theorem r_at11 {α : Type} {x : α} {xs : List α} : atI (x :: xs) 11 = atI xs 10 := by first | exact (atI_succ 10) | (simp only [wR_eq, wS_eq, wO_eq, wL_eq, wI_eq, pnd_eq, pndS_eq, pndR_eq]; rfl)
theorem r_at12 {α : Type} {x : α} {xs : List α} : atI (x :: xs) 12 = atI xs 11 := by first | exact (atI_succ 11) | (simp only [wR_eq, wS_eq, wO_eq, wL_eq, wI_eq, pnd_eq, pndS_eq, pndR_eq]; rfl)
theorem r_at13 {α : Type} {x : α} {xs : List α} : atI (x :: xs) 13 = atI xs 12 := by first | exact (atI_succ 12) | (simp only [wR_eq, wS_eq, wO_eq, wL_eq, wI_eq, pnd_eq, pndS_eq, pndR_eq]; rfl)
theorem r_ix1_0 : ixN 1 0 = some 0 := by first | rfl | exact wR_eq | exact wS_eq | exact wO_eq | exact wL_eq | exact wI_eq | (simp only [wR_eq, wS_eq, wO_eq, wL_eq, wI_eq, pnd_eq, pndS_eq, pndR_eq]; rfl)
theorem r_ix1_m : ixN 1 (-1) = some 0 := by first | rfl | exact wR_eq | exact wS_eq | exact wO_eq | exact wL_eq | exact wI_eq | (simp only [wR_eq, wS_eq, wO_eq, wL_eq, wI_eq, pnd_eq, pndS_eq, pndR_eq]; rfl)
theorem r_ix2_0 : ixN 2 0 = some 0 := by first | rfl | exact wR_eq | exact wS_eq | exact wO_eq | exact wL_eq | exact wI_eq | (simp only [wR_eq, wS_eq, wO_eq, wL_eq, wI_eq, pnd_eq, pndS_eq, pndR_eq]; rfl)
theorem r_ix2_1 : ixN 2 1 = some 1 := by first | rfl | exact wR_eq | exact wS_eq | exact wO_eq | exact wL_eq | exact wI_eq | (simp only [wR_eq, wS_eq, wO_eq, wL_eq, wI_eq, pnd_eq, pndS_eq, pndR_eq]; rfl)
theorem r_ix2_m : ixN 2 (-1) = some 1 := by first | rfl | exact wR_eq | exact wS_eq | exact wO_eq | exact wL_eq | exact wI_eq | (simp only [wR_eq, wS_eq, wO_eq, wL_eq, wI_eq, pnd_eq, pndS_eq, pndR_eq]; rfl)
theorem r_ix3_0 : ixN 3 0 = some 0 := by first | rfl | exact wR_eq | exact wS_eq | exact wO_eq | exact wL_eq | exact wI_eq | (simp only [wR_eq, wS_eq, wO_eq, wL_eq, wI_eq, pnd_eq, pndS_eq, pndR_eq]; rfl)
theorem r_ix3_1 : ixN 3 1 = some 1 := by first | rfl | exact wR_eq | exact wS_eq | exact wO_eq | exact wL_eq | exact wI_eq | (simp only [wR_eq, wS_eq, wO_eq, wL_eq, wI_eq, pnd_eq, pndS_eq, pndR_eq]; rfl)
theorem r_ix3_2 : ixN 3 2 = some 2 := by first | rfl | exact wR_eq | exact wS_eq | exact wO_eq | exact wL_eq | exact wI_eq | (simp only [wR_eq, wS_eq, wO_eq, wL_eq, wI_eq, pnd_eq, pndS_eq, pndR_eq]; rfl)
theorem r_ix3_m : ixN 3 (-1) = some 2 := by first | rfl | exact wR_eq | exact wS_eq | exact wO_eq | exact wL_eq | exact wI_eq | (simp only [wR_eq, wS_eq, wO_eq, wL_eq, wI_eq, pnd_eq, pndS_eq, pndR_eq]; rfl)
theorem r_ix4_0 : ixN 4 0 = some 0 := by first | rfl | exact wR_eq | exact wS_eq | exact wO_eq | exact wL_eq | exact wI_eq | (simp only [wR_eq, wS_eq, wO_eq, wL_eq, wI_eq, pnd_eq, pndS_eq, pndR_eq]; rfl)
theorem r_ix4_1 : ixN 4 1 = some 1 := by first | rfl | exact wR_eq | exact wS_eq | exact wO_eq | exact wL_eq | exact wI_eq | (simp only [wR_eq, wS_eq, wO_eq, wL_eq, wI_eq, pnd_eq, pndS_eq, pndR_eq]; rfl)
theorem r_ix4_2 : ixN 4 2 = some 2 := by first | rfl | exact wR_eq | exact wS_eq | exact wO_eq | exact wL_eq | exact wI_eq | (simp only [wR_eq, wS_eq, wO_eq, wL_eq, wI_eq, pnd_eq, pndS_eq, pndR_eq]; rfl)
theorem r_ix4_3 : ixN 4 3 = some 3 := by first | rfl | exact wR_eq | exact wS_eq | exact wO_eq | exact wL_eq | exact wI_eq | (simp only [wR_eq, wS_eq, wO_eq, wL_eq, wI_eq, pnd_eq, pndS_eq, pndR_eq]; rfl)
theorem r_ix4_m : ixN 4 (-1) = some 3 := by first | rfl | exact wR_eq | exact wS_eq | exact wO_eq | exact wL_eq | exact wI_eq | (simp only [wR_eq, wS_eq, wO_eq, wL_eq, wI_eq, pnd_eq, pndS_eq, pndR_eq]; rfl)
theorem r_ix5_0 : ixN 5 0 = some 0 := by first | rfl | exact wR_eq | exact wS_eq | exact wO_eq | exact wL_eq | exact wI_eq | (simp only [wR_eq, wS_eq, wO_eq, wL_eq, wI_eq, pnd_eq, pndS_eq, pndR_eq]; rfl)
theorem r_ix5_1 : ixN 5 1 = some 1 := by first | rfl | exact wR_eq | exact wS_eq | exact wO_eq | exact wL_eq | exact wI_eq | (simp only [wR_eq, wS_eq, wO_eq, wL_eq, wI_eq, pnd_eq, pndS_eq, pndR_eq]; rfl)
theorem r_ix5_2 : ixN 5 2 = some 2 := by first | rfl | exact wR_eq | exact wS_eq | exact wO_eq | exact wL_eq | exact wI_eq | (simp only [wR_eq, wS_eq, wO_eq, wL_eq, wI_eq, pnd_eq, pndS_eq, pndR_eq]; rfl)
theorem r_ix5_3 : ixN 5 3 = some 3 := by first | rfl | exact wR_eq | exact wS_eq | exact wO_eq | exact wL_eq | exact wI_eq | (simp only [wR_eq, wS_eq, wO_eq, wL_eq, wI_eq, pnd_eq, pndS_eq, pndR_eq]; rfl)
theorem r_ix5_4 : ixN 5 4 = some 4 := by first | rfl | exact wR_eq | exact wS_eq | exact wO_eq | exact wL_eq | exact wI_eq | (simp only [wR_eq, wS_eq, wO_eq, wL_eq, wI_eq, pnd_eq, pndS_eq, pndR_eq]; rfl)
theorem r_ix5_m : ixN 5 (-1) = some 4 := by first | rfl | exact wR_eq | exact wS_eq | exact wO_eq | exact wL_eq | exact wI_eq | (simp only [wR_eq, wS_eq, wO_eq, wL_eq, wI_eq, pnd_eq, pndS_eq, pndR_eq]; rfl)
theorem r_ix6_0 : ixN 6 0 = some 0 := by first | rfl | exact wR_eq | exact wS_eq | exact wO_eq | exact wL_eq | exact wI_eq | (simp only [wR_eq, wS_eq, wO_eq, wL_eq, wI_eq, pnd_eq, pndS_eq, pndR_eq]; rfl)
theorem r_ix6_1 : ixN 6 1 = some 1 := by first | rfl | exact wR_eq | exact wS_eq | exact wO_eq | exact wL_eq | exact wI_eq | (simp only [wR_eq, wS_eq, wO_eq, wL_eq, wI_eq, pnd_eq, pndS_eq, pndR_eq]; rfl)
theorem r_ix6_2 : ixN 6 2 = some 2 := by first | rfl | exact wR_eq | exact wS_eq | exact wO_eq | exact wL_eq | exact wI_eq | (simp only [wR_eq, wS_eq, wO_eq, wL_eq, wI_eq, pnd_eq, pndS_eq, pndR_eq]; rfl)
theorem r_ix6_3 : ixN 6 3 = some 3 := by first | rfl | exact wR_eq | exact wS_eq | exact wO_eq | exact wL_eq | exact wI_eq | (simp only [wR_eq, wS_eq, wO_eq, wL_eq, wI_eq, pnd_eq, pndS_eq, pndR_eq]; rfl)
theorem r_ix6_4 : ixN 6 4 = some 4 := by first | rfl | exact wR_eq | exact wS_eq | exact wO_eq | exact wL_eq | exact wI_eq | (simp only [wR_eq, wS_eq, wO_eq, wL_eq, wI_eq, pnd_eq, pndS_eq, pndR_eq]; rfl)
theorem r_ix6_5 : ixN 6 5 = some 5 := by first | rfl | exact wR_eq | exact wS_eq | exact wO_eq | exact wL_eq | exact wI_eq | (simp only [wR_eq, wS_eq, wO_eq, wL_eq, wI_eq, pnd_eq, pndS_eq, pndR_eq]; rfl)
theorem r_ix6_m : ixN 6 (-1) = some 5 := by first | rfl | exact wR_eq | exact wS_eq | exact wO_eq | exact wL_eq | exact wI_eq | (simp only [wR_eq, wS_eq, wO_eq, wL_eq, wI_eq, pnd_eq, pndS_eq, pndR_eq]; rfl)
theorem r_ix7_0 : ixN 7 0 = some 0 := by first | rfl | exact wR_eq | exact wS_eq | exact wO_eq | exact wL_eq | exact wI_eq | (simp only [wR_eq, wS_eq, wO_eq, wL_eq, wI_eq, pnd_eq, pndS_eq, pndR_eq]; rfl)
theorem r_ix7_1 : ixN 7 1 = some 1 := by first | rfl | exact wR_eq | exact wS_eq | exact wO_eq | exact wL_eq | exact wI_eq | (simp only [wR_eq, wS_eq, wO_eq, wL_eq, wI_eq, pnd_eq, pndS_eq, pndR_eq]; rfl)
theorem r_ix7_2 : ixN 7 2 = some 2 := by first | rfl | exact wR_eq | exact wS_eq | exact wO_eq | exact wL_eq | exact wI_eq | (simp only [wR_eq, wS_eq, wO_eq, wL_eq, wI_eq, pnd_eq, pndS_eq, pndR_eq]; rfl)
theorem r_ix7_3 : ixN 7 3 = some 3 := by first | rfl | exact wR_eq | exact wS_eq | exact wO_eq | exact wL_eq | exact wI_eq | (simp only [wR_eq, wS_eq, wO_eq, wL_eq, wI_eq, pnd_eq, pndS_eq, pndR_eq]; rfl)
theorem r_ix7_4 : ixN 7 4 = some 4 := by first | rfl | exact wR_eq | exact wS_eq | exact wO_eq | exact wL_eq | exact wI_eq | (simp only [wR_eq, wS_eq, wO_eq, wL_eq, wI_eq, pnd_eq, pndS_eq, pndR_eq]; rfl)
theorem r_ix7_5 : ixN 7 5 = some 5 := by first | rfl | exact wR_eq | exact wS_eq | exact wO_eq | exact wL_eq | exact wI_eq | (simp only [wR_eq, wS_eq, wO_eq, wL_eq, wI_eq, pnd_eq, pndS_eq, pndR_eq]; rfl)
theorem r_ix7_6 : ixN 7 6 = some 6 := by first | rfl | exact wR_eq | exact wS_eq | exact wO_eq | exact wL_eq | exact wI_eq | (simp only [wR_eq, wS_eq, wO_eq, wL_eq, wI_eq, pnd_eq, pndS_eq, pndR_eq]; rfl)
theorem r_ix7_m : ixN 7 (-1) = some 6 := by first | rfl | exact wR_eq | exact wS_eq | exact wO_eq | exact wL_eq | exact wI_eq | (simp only [wR_eq, wS_eq, wO_eq, wL_eq, wI_eq, pnd_eq, pndS_eq, pndR_eq]; rfl)
theorem r_ix8_0 : ixN 8 0 = some 0 := by first | rfl | exact wR_eq | exact wS_eq | exact wO_eq | exact wL_eq | exact wI_eq | (simp only [wR_eq, wS_eq, wO_eq, wL_eq, wI_eq, pnd_eq, pndS_eq, pndR_eq]; rfl)
theorem r_ix8_1 : ixN 8 1 = some 1 := by first | rfl | exact wR_eq | exact wS_eq | exact wO_eq | exact wL_eq | exact wI_eq | (simp only [wR_eq, wS_eq, wO_eq, wL_eq, wI_eq, pnd_eq, pndS_eq, pndR_eq]; rfl)
theorem r_ix8_2 : ixN 8 2 = some 2 := by first | rfl | exact wR_eq | exact wS_eq | exact wO_eq | exact wL_eq | exact wI_eq | (simp only [wR_eq, wS_eq, wO_eq, wL_eq, wI_eq, pnd_eq, pndS_eq, pndR_eq]; rfl)
theorem r_ix8_3 : ixN 8 3 = some 3 := by first | rfl | exact wR_eq | exact wS_eq | exact wO_eq | exact wL_eq | exact wI_eq | (simp only [wR_eq, wS_eq, wO_eq, wL_eq, wI_eq, pnd_eq, pndS_eq, pndR_eq]; rfl)
theorem r_ix8_4 : ixN 8 4 = some 4 := by first | rfl | exact wR_eq | exact wS_eq | exact wO_eq | exact wL_eq | exact wI_eq | (simp only [wR_eq, wS_eq, wO_eq, wL_eq, wI_eq, pnd_eq, pndS_eq, pndR_eq]; rfl)
theorem r_ix8_5 : ixN 8 5 = some 5 := by first | rfl | exact wR_eq | exact wS_eq | exact wO_eq | exact wL_eq | exact wI_eq | (simp only [wR_eq, wS_eq, wO_eq, wL_eq, wI_eq, pnd_eq, pndS_eq, pndR_eq]; rfl)
theorem r_ix8_6 : ixN 8 6 = some 6 := by first | rfl | exact wR_eq | exact wS_eq | exact wO_eq | exact wL_eq | exact wI_eq | (simp only [wR_eq, wS_eq, wO_eq, wL_eq, wI_eq, pnd_eq, pndS_eq, pndR_eq]; rfl)
theorem r_ix8_7 : ixN 8 7 = some 7 := by first | rfl | exact wR_eq | exact wS_eq | exact wO_eq | exact wL_eq | exact wI_eq | (simp only [wR_eq, wS_eq, wO_eq, wL_eq, wI_eq, pnd_eq, pndS_eq, pndR_eq]; rfl)
theorem r_ix8_m : ixN 8 (-1) = some 7 := by first | rfl | exact wR_eq | exact wS_eq | exact wO_eq | exact wL_eq | exact wI_eq | (simp only [wR_eq, wS_eq, wO_eq, wL_eq, wI_eq, pnd_eq, pndS_eq, pndR_eq]; rfl)
theorem r_ix9_0 : ixN 9 0 = some 0 := by first | rfl | exact wR_eq | exact wS_eq | exact wO_eq | exact wL_eq | exact wI_eq | (simp only [wR_eq, wS_eq, wO_eq, wL_eq, wI_eq, pnd_eq, pndS_eq, pndR_eq]; rfl)
theorem r_ix9_1 : ixN 9 1 = some 1 := by first | rfl | exact wR_eq | exact wS_eq | exact wO_eq | exact wL_eq | exact wI_eq | (simp only [wR_eq, wS_eq, wO_eq, wL_eq, wI_eq, pnd_eq, pndS_eq, pndR_eq]; rfl)
theorem r_ix9_2 : ixN 9 2 = some 2 := by first | rfl | exact wR_eq | exact wS_eq | exact wO_eq | exact wL_eq | exact wI_eq | (simp only [wR_eq, wS_eq, wO_eq, wL_eq, wI_eq, pnd_eq, pndS_eq, pndR_eq]; rfl)
theorem r_ix9_3 : ixN 9 3 = some 3 := by first | rfl | exact wR_eq | exact wS_eq | exact wO_eq | exact wL_eq | exact wI_eq | (simp only [wR_eq, wS_eq, wO_eq, wL_eq, wI_eq, pnd_eq, pndS_eq, pndR_eq]; rfl)
theorem r_ix9_4 : ixN 9 4 = some 4 := by first | rfl | exact wR_eq | exact wS_eq | exact wO_eq | exact wL_eq | exact wI_eq | (simp only [wR_eq, wS_eq, wO_eq, wL_eq, wI_eq, pnd_eq, pndS_eq, pndR_eq]; rfl)
theorem r_ix9_5 : ixN 9 5 = some 5 := by first | rfl | exact wR_eq | exact wS_eq | exact wO_eq | exact wL_eq | exact wI_eq | (simp only [wR_eq, wS_eq, wO_eq, wL_eq, wI_eq, pnd_eq, pndS_eq, pndR_eq]; rfl)
theorem r_ix9_6 : ixN 9 6 = some 6 := by first | rfl | exact wR_eq | exact wS_eq | exact wO_eq | exact wL_eq | exact wI_eq | (simp only [wR_eq, wS_eq, wO_eq, wL_eq, wI_eq, pnd_eq, pndS_eq, pndR_eq]; rfl)
theorem r_ix9_7 : ixN 9 7 = some 7 := by first | rfl | exact wR_eq | exact wS_eq | exact wO_eq | exact wL_eq | exact wI_eq | (simp only [wR_eq, wS_eq, wO_eq, wL_eq, wI_eq, pnd_eq, pndS_eq, pndR_eq]; rfl)
theorem r_ix9_8 : ixN 9 8 = some 8 := by first | rfl | exact wR_eq | exact wS_eq | exact wO_eq | exact wL_eq | exact wI_eq | (simp only [wR_eq, wS_eq, wO_eq, wL_eq, wI_eq, pnd_eq, pndS_eq, pndR_eq]; rfl)
theorem r_ix9_m : ixN 9 (-1) = some 8 := by first | rfl | exact wR_eq | exact wS_eq | exact wO_eq | exact wL_eq | exact wI_eq | (simp only [wR_eq, wS_eq, wO_eq, wL_eq, wI_eq, pnd_eq, pndS_eq, pndR_eq]; rfl)
theorem r_ls0 {α : Type} {x y : α} {xs : List α} : (x :: xs).set 0 y = y :: xs := by first | rfl | exact wR_eq | exact wS_eq | exact wO_eq | exact wL_eq | exact wI_eq | (simp only [wR_eq, wS_eq, wO_eq, wL_eq, wI_eq, pnd_eq, pndS_eq, pndR_eq]; rfl)
theorem r_ls0_1 {α : Type} {x y : α} {xs : List α} : (x :: xs).set 1 y = x :: xs.set 0 y := by first | rfl | exact wR_eq | exact wS_eq | exact wO_eq | exact wL_eq | exact wI_eq | (simp only [wR_eq, wS_eq, wO_eq, wL_eq, wI_eq, pnd_eq, pndS_eq, pndR_eq]; rfl)
theorem r_ls0_2 {α : Type} {x y : α} {xs : List α} : (x :: xs).set 2 y = x :: xs.set 1 y := by first | rfl | exact wR_eq | exact wS_eq | exact wO_eq | exact wL_eq | exact wI_eq | (simp only [wR_eq, wS_eq, wO_eq, wL_eq, wI_eq, pnd_eq, pndS_eq, pndR_eq]; rfl)
theorem r_ls0_3 {α : Type} {x y : α} {xs : List α} : (x :: xs).set 3 y = x :: xs.set 2 y := by first | rfl | exact wR_eq | exact wS_eq | exact wO_eq | exact wL_eq | exact wI_eq | (simp only [wR_eq, wS_eq, wO_eq, wL_eq, wI_eq, pnd_eq, pndS_eq, pndR_eq]; rfl)
theorem r_ls0_4 {α : Type} {x y : α} {xs : List α} : (x :: xs).set 4 y = x :: xs.set 3 y := by first | rfl | exact wR_eq | exact wS_eq | exact wO_eq | exact wL_eq | exact wI_eq | (simp only [wR_eq, wS_eq, wO_eq, wL_eq, wI_eq, pnd_eq, pndS_eq, pndR_eq]; rfl)
theorem r_ls0_5 {α : Type} {x y : α} {xs : List α} : (x :: xs).set 5 y = x :: xs.set 4 y := by first | rfl | exact wR_eq | exact wS_eq | exact wO_eq | exact wL_eq | exact wI_eq | (simp only [wR_eq, wS_eq, wO_eq, wL_eq, wI_eq, pnd_eq, pndS_eq, pndR_eq]; rfl)
theorem r_ls0_6 {α : Type} {x y : α} {xs : List α} : (x :: xs).set 6 y = x :: xs.set 5 y := by first | rfl | exact wR_eq | exact wS_eq | exact wO_eq | exact wL_eq | exact wI_eq | (simp only [wR_eq, wS_eq, wO_eq, wL_eq, wI_eq, pnd_eq, pndS_eq, pndR_eq]; rfl)
theorem r_ls0_7 {α : Type} {x y : α} {xs : List α} : (x :: xs).set 7 y = x :: xs.set 6 y := by first | rfl | exact wR_eq | exact wS_eq | exact wO_eq | exact wL_eq | exact wI_eq | (simp only [wR_eq, wS_eq, wO_eq, wL_eq, wI_eq, pnd_eq, pndS_eq, pndR_eq]; rfl)
theorem r_ls0_8 {α : Type} {x y : α} {xs : List α} : (x :: xs).set 8 y = x :: xs.set 7 y := by first | rfl | exact wR_eq | exact wS_eq | exact wO_eq | exact wL_eq | exact wI_eq | (simp only [wR_eq, wS_eq, wO_eq, wL_eq, wI_eq, pnd_eq, pndS_eq, pndR_eq]; rfl)
theorem r_ls0_9 {α : Type} {x y : α} {xs : List α} : (x :: xs).set 9 y = x :: xs.set 8 y := by first | rfl | exact wR_eq | exact wS_eq | exact wO_eq | exact wL_eq | exact wI_eq | (simp only [wR_eq, wS_eq, wO_eq, wL_eq, wI_eq, pnd_eq, pndS_eq, pndR_eq]; rfl)
theorem r_ls0_10 {α : Type} {x y : α} {xs : List α} : (x :: xs).set 10 y = x :: xs.set 9 y := by first | rfl | exact wR_eq | exact wS_eq | exact wO_eq | exact wL_eq | exact wI_eq | (simp only [wR_eq, wS_eq, wO_eq, wL_eq, wI_eq, pnd_eq, pndS_eq, pndR_eq]; rfl)
theorem r_ls0_11 {α : Type} {x y : α} {xs : List α} : (x :: xs).set 11 y = x :: xs.set 10 y := by first | rfl | exact wR_eq | exact wS_eq | exact wO_eq | exact wL_eq | exact wI_eq | (simp only [wR_eq, wS_eq, wO_eq, wL_eq, wI_eq, pnd_eq, pndS_eq, pndR_eq]; rfl)
theorem r_ls0_12 {α : Type} {x y : α} {xs : List α} : (x :: xs).set 12 y = x :: xs.set 11 y := by first | rfl | exact wR_eq | exact wS_eq | exact wO_eq | exact wL_eq | exact wI_eq | (simp only [wR_eq, wS_eq, wO_eq, wL_eq, wI_eq, pnd_eq, pndS_eq, pndR_eq]; rfl)
theorem r_ls0_13 {α : Type} {x y : α} {xs : List α} : (x :: xs).set 13 y = x :: xs.set 12 y := by first | rfl | exact wR_eq | exact wS_eq | exact wO_eq | exact wL_eq | exact wI_eq | (simp only [wR_eq, wS_eq, wO_eq, wL_eq, wI_eq, pnd_eq, pndS_eq, pndR_eq]; rfl)
theorem pnd_i {α : Type} {r : R α} {Q : R α → Prop} (h : Q r) : pnd r Q := ⟨h⟩
theorem pndS_i {s : Sv} {δ : Env} {Q : RS → Prop} (h : wS (s δ) Q) : pndS s δ Q := ⟨h.out⟩
theorem pndR_i {α : Type} {f : Env → R α} {δ : Env} {Q : R α → Prop} (h : wR (f δ) Q) : pndR f δ Q := ⟨h.out⟩
theorem pnd3_i {d : Option D} {δ : Env} {Q : R D → Prop} (h : ops3 d δ Q) : pnd3 d δ Q := h
theorem pndm_i {i : Nat} {p : Option (D × D)} {δ : Env} {Q : R D → Prop} (h : mutD.mut3 i p δ Q) : pndm i p δ Q := h
theorem pndp_i {l : Lc} {p : Option (D × D)} {δ : Env} {Q : R D → Prop} (h : plK.pl3 l p δ Q) : pndp l p δ Q := h
theorem pndi_i {p : Option (List D)} {δ : Env} {Q : R (List D) → Prop} (h : iwK.iw3 p δ Q) : pndi p δ Q := h
theorem iteI {c A B : Prop} (h : c) (a : A) : IfW c A B := ⟨fun _ => a, fun n => (n h).elim⟩
theorem iteN {c A B : Prop} (h : ¬ c) (b : B) : IfW c A B := ⟨fun y => (h y).elim, fun _ => b⟩
theorem iteS {c A B : Prop} (a : c → A) (b : ¬ c → B) : IfW c A B := ⟨a, b⟩
end DV

namespace DV
open PySem L2
/-! ### lemmas for the walks -/
theorem at_map_int {cs : List Int} {k : Nat} (h : k < cs.length) : atI (cs.map D.int) (k : Int) = some (.int cs[k]) := by
  unfold atI ixN
  rw [if_pos (by omega), if_pos (by simpa using h), Int.toNat_natCast]
  show (cs.map D.int)[k]? = _
  simp [h]
theorem cleans_int : ∀ cs : List Int, cleans (cs.map D.int) = true
  | [] => rfl
  | c :: cs => by simp only [List.map_cons, cleans, clean, cleans_int cs, Bool.and_true]
theorem enumD_int : ∀ {cs : List Int} {n : Nat}, cleans (enumD n (cs.map D.int)) = true
  | [], _ => rfl
  | c :: cs, n => by simp only [List.map_cons, enumD, cleans, clean, enumD_int (cs := cs), Bool.and_true]
def cutZ (ns : List Int) (lo hi : Option Int) : List Int := (ns.drop (HT.sIx ns.length 0 lo)).take (HT.sIx ns.length ns.length hi - HT.sIx ns.length 0 lo)
theorem cutD_int {cs : List Int} {lo hi : Option Int} : cutD (cs.map D.int) lo hi = (cutZ cs lo hi).map D.int := by
  unfold cutD cutZ
  rw [List.length_map, ← List.map_drop, ← List.map_take]
theorem at_map_z {cs : List Int} {z : Int} (h0 : 0 ≤ z) (h : z < cs.length) : ∃ v, atI (cs.map D.int) z = some (.int v) := by
  obtain ⟨k, rfl⟩ := Int.eq_ofNat_of_zero_le h0
  exact ⟨_, at_map_int (by omega)⟩
theorem ixN_z {n : Nat} {z : Int} (h0 : 0 ≤ z) (h : z < n) : ixN n z = some z.toNat := by
  unfold ixN
  rw [if_pos h0, if_pos h]
theorem set_int {cs : List Int} {j : Nat} {v : Int} : (cs.map D.int).set j (.int v) = (cs.set j v).map D.int := by rw [List.map_set]
theorem enum_get {es : List Int} {i : Nat} {d : D} (h : (enumD 0 (es.map D.int))[i]? = some d) : i < es.length ∧ ∃ z, d = .tup [.int i, .int z] := by
  have hi : i < es.length := by
    have := (List.getElem?_eq_some_iff.mp h).1
    rwa [enumD_length, List.length_map] at this
  have e : (es.map D.int)[i]? = some (.int es[i]) := by simp [hi]
  have := enumD_get (n := 0) e
  rw [this] at h
  cases h
  exact ⟨hi, _, by rw [Nat.zero_add]⟩
theorem cutZ_len {ns : List Int} {lo hi : Option Int} : (cutZ ns lo hi).length ≤ ns.length := by
  unfold cutZ
  rw [List.length_take, List.length_drop]
  omega
theorem cutD_drop {ds : List D} {k : Nat} : cutD ds (some (k : Int)) none = ds.drop k := by
  unfold cutD
  have e0 : HT.sIx ds.length 0 (some (k : Int)) = min k ds.length := HT.sIx_nat _ _ _
  have e1 : HT.sIx ds.length ds.length none = ds.length := rfl
  rw [e0, e1]
  by_cases h : k ≤ ds.length
  · rw [Nat.min_eq_left h]
    exact List.take_of_length_le (by rw [List.length_drop]; exact Nat.le_refl _)
  · rw [Nat.min_eq_right (by omega), List.drop_of_length_le (Nat.le_refl _), List.drop_of_length_le (by omega)]
    simp
theorem cutD_drop1 {ds : List D} : cutD ds (some 1) none = ds.drop 1 := cutD_drop (k := 1)
theorem ixN_nat {n k : Nat} (h : k < n) : ixN n (k : Int) = some k := by
  unfold ixN
  rw [if_pos (by omega), if_pos (by omega), Int.toNat_natCast]
theorem boolsO_map : ∀ bs : List Bool, boolsO (bs.map D.bl) = some bs
  | [] => rfl
  | b :: bs => by simp only [List.map_cons, boolsO, boolsO_map bs, Option.map_some]
theorem cleans_bl {α : Type} (f : α → Bool) : ∀ xs : List α, cleans (xs.map fun x => D.bl (f x)) = true
  | [] => rfl
  | x :: xs => by simp only [List.map_cons, cleans, clean, Bool.true_and]; exact cleans_bl f xs
theorem dataDs_bl {α : Type} (f : α → Bool) : ∀ xs : List α, dataDs (xs.map fun x => D.bl (f x)) = true
  | [] => rfl
  | x :: xs => by simp only [List.map_cons, dataDs, dataD, Bool.true_and]; exact dataDs_bl f xs
theorem inD_bl {α : Type} (f : α → Bool) : ∀ xs : List α, (!inD (.bl true) (xs.map fun x => D.bl (f x))) = xs.all fun x => !f x
  | [] => rfl
  | x :: xs => by
    have := inD_bl f xs
    unfold inD at this ⊢
    rw [List.map_cons, List.any_cons, List.all_cons, ← this, Bool.not_or]
    congr 1
    cases f x <;> rfl
theorem intsO_map : ∀ ns : List Int, intsO (ns.map D.int) = some ns
  | [] => rfl
  | n :: ns => by simp only [List.map_cons, intsO, intsO_map ns, Option.map_some]
/-- the greatest of some, or 0 -/
def mxD (ns : List Int) : Int := match ns with
  | [] => 0
  | i :: is => maxI i is
theorem kMaxDf_ints {o : Bool} {ns : List Int} : kMaxDf [.lst o (ns.map D.int)] [.int 0] = some (.int (mxD ns)) := by
  simp only [kMaxDf, kMaxD, intsO_map]
  cases ns with
  | nil => rfl
  | cons i is => rfl
theorem freezes_map : ∀ ds : List D, freezes ds = ds.map freeze
  | [] => rfl
  | d :: ds => by simp only [freezes, List.map_cons, freezes_map ds]
theorem down_get {m i : Nat} {d : D} (hd : (downD ((m : Int) - 1) m)[i]? = some d) : i < m ∧ d = .int ((m - 1 - i : Nat) : Int) := by
  unfold downD at hd
  rw [List.getElem?_map] at hd
  cases e : (List.range m)[i]? with
  | none => rw [e] at hd; cases hd
  | some j =>
    rw [e] at hd
    obtain ⟨h1, h2⟩ := List.getElem?_eq_some_iff.mp e
    rw [List.getElem_range] at h2
    rw [List.length_range] at h1
    subst h2
    cases hd
    refine ⟨h1, ?_⟩
    show D.int _ = D.int _
    rw [D.int.injEq]
    omega
theorem kAll_bl {o : Bool} {bs : List Bool} : kAll [.lst o (bs.map D.bl)] = some (.bl (bs.all id)) := by simp only [kAll, boolsO_map, Option.map_some]
theorem kAny_bl {o : Bool} {bs : List Bool} : kAny [.lst o (bs.map D.bl)] = some (.bl (bs.any id)) := by simp only [kAny, boolsO_map, Option.map_some]
theorem kSum_int {o : Bool} {ns : List Int} : kSum [.lst o (ns.map D.int)] = some (.int ns.sum) := by simp only [kSum, intsO_map, Option.map_some]
theorem kMax_int {o : Bool} {i : Int} {ns : List Int} : kMax [.lst o (D.int i :: ns.map D.int)] = some (.int (maxI i ns)) := by
  have e : intsO (D.int i :: ns.map D.int) = some (i :: ns) := intsO_map (i :: ns)
  simp only [kMax, e]
theorem eqD_ii {i j : Int} : eqD (.int i) (.int j) = decide (i = j) := by rw [eqD]; by_cases h : i = j <;> simp [h]
theorem eqD_tt : eqD (.bl true) (.bl true) = true := by simp [eqD]
theorem eqD_ff : eqD (.bl false) (.bl false) = true := by simp [eqD]
theorem eqD_tf : eqD (.bl true) (.bl false) = false := by simp [eqD]
theorem eqD_ft : eqD (.bl false) (.bl true) = false := by simp [eqD]
theorem eqD_bb {b : Bool} : eqD (.bl b) (.bl b) = true := by simp [eqD]
theorem eqD_nn : eqD .non .non = true := by simp [eqD]
theorem eqD_ss {x y : Str} : eqD (.str x) (.str y) = (x == y) := by rw [eqD]
theorem boolsO_map2 {α : Type} (p : α → Bool) : ∀ xs : List α, boolsO (xs.map fun x => D.bl (p x)) = some (xs.map p)
  | [] => rfl
  | x :: xs => by simp only [List.map_cons, boolsO, boolsO_map2 p xs, Option.map_some]
theorem kAll_map {α : Type} {o : Bool} {p : α → Bool} {xs : List α} : kAll [.lst o (xs.map fun x => D.bl (p x))] = some (.bl (xs.all p)) := by
  simp only [kAll, boolsO_map2, Option.map_some]
  rw [List.all_map]; rfl
theorem kAny_map {α : Type} {o : Bool} {p : α → Bool} {xs : List α} : kAny [.lst o (xs.map fun x => D.bl (p x))] = some (.bl (xs.any p)) := by
  simp only [kAny, boolsO_map2, Option.map_some]
  rw [List.any_map]; rfl
theorem kAll_true {α : Type} {o : Bool} {xs : List α} : kAll [.lst o (xs.map fun _ => D.bl true)] = some (.bl true) := by
  rw [kAll_map]; simp
theorem kAny_false {α : Type} {o : Bool} {xs : List α} : kAny [.lst o (xs.map fun _ => D.bl false)] = some (.bl false) := by
  rw [kAny_map]; simp
theorem kMax_ints {o : Bool} {ns : List Int} (h : 0 < ns.length) : kMax [.lst o (ns.map D.int)] = some (.int (mxD ns)) := by
  cases ns with
  | nil => simp at h
  | cons i is => rw [List.map_cons, kMax_int]; rfl
theorem zipD_map {α β : Type} {f : α → D} {g : β → D} : ∀ {xs : List α} {ys : List β}, zipD (xs.map f) (ys.map g) = (xs.zip ys).map fun p => .tup [f p.1, g p.2]
  | [], _ => by simp [zipD]
  | _ :: _, [] => by simp [zipD]
  | x :: xs, y :: ys => by simp only [List.map_cons, zipD, List.zip_cons_cons, zipD_map (xs := xs) (ys := ys)]
theorem sum_map2 {α : Type} {o : Bool} {f : α → Int} {xs : List α} : kSum [.lst o (xs.map fun x => D.int (f x))] = some (.int (xs.map f).sum) := by
  have : (xs.map fun x => D.int (f x)) = (xs.map f).map D.int := by rw [List.map_map]; rfl
  rw [this, kSum_int]
theorem cleans_map {α : Type} {f : α → D} (h : ∀ x, clean (f x) = true) : ∀ xs : List α, cleans (xs.map f) = true
  | [] => rfl
  | x :: xs => by simp only [List.map_cons, cleans, h x, cleans_map h xs, Bool.and_self]
theorem cleans_map2 {α : Type} {f : α → Int} {xs : List α} : cleans (xs.map fun x => D.int (f x)) = true := cleans_map (fun _ => rfl) xs
theorem cleans_app : ∀ {xs ys : List D}, cleans (xs ++ ys) = (cleans xs && cleans ys)
  | [], ys => by simp [cleans]
  | x :: xs, ys => by simp only [List.cons_append, cleans, cleans_app (xs := xs), Bool.and_assoc]
theorem intsD_nat {n : Nat} : intsD 0 (n : Int).toNat = (List.range n).map fun j : Nat => D.int (j : Int) := by
  unfold intsD
  rw [Int.toNat_natCast]
  apply List.map_congr_left
  intro j _
  rw [Int.zero_add]
theorem intsD_get {lo : Int} {n i : Nat} {d : D} (h : (intsD lo n)[i]? = some d) : i < n ∧ d = .int (lo + i) := by
  unfold intsD at h
  rw [List.getElem?_map] at h
  cases e : (List.range n)[i]? with
  | none => rw [e] at h; cases h
  | some j =>
    rw [e] at h
    obtain ⟨h1, h2⟩ := List.getElem?_eq_some_iff.mp e
    rw [List.getElem_range] at h2
    rw [List.length_range] at h1
    subst h2
    cases h
    exact ⟨h1, rfl⟩
theorem intsD_len {lo : Int} {n : Nat} : (intsD lo n).length = n := by simp [intsD]
theorem downD_len {lo : Int} {n : Nat} : (downD lo n).length = n := by simp [downD]
end DV

namespace DV
open PySem L2
/-! ### texts -/
def strsO : List D → Option (List Str)
  | [] => some []
  | .str x :: ds => (strsO ds).map (x :: ·)
  | _ => none
def kJoin : List D → Option D
  | [.str a, .lst _ ds] => match strsO ds with
    | some ys => if (ys.map (·.length)).sum + ys.length * a.length ≤ 1000000 then some (.str (Txt.join a ys)) else none
    | none => none
  | [.str a, .tup ds] => match strsO ds with
    | some ys => if (ys.map (·.length)).sum + ys.length * a.length ≤ 1000000 then some (.str (Txt.join a ys)) else none
    | none => none
  | _ => none
def kSplit : List D → Option D
  | [.str a, .str b] => if (b.length == 0) = false ∧ a.length ≤ 1000000 then some (.lst true ((Txt.split a b).map .str)) else none
  | _ => none
def kLower : List D → Option D
  | [.str a] => if a.length ≤ 1000000 then some (.str (Txt.lower a)) else none
  | _ => none
def kZfill : List D → Option D
  | [.str a, .int i] => if PadOk i = true then some (.str (Txt.zfill a i)) else none
  | _ => none
def kIndexS : List D → Option D
  | [.str a, .str b] => match Builtin.Str.occurrences a b 0 a.length 1 with
    | i :: _ => some (.int (i : Nat))
    | [] => none
  | _ => none
instance (c : Nat) : Decidable (Hx.IsHex c) := by unfold Hx.IsHex; exact inferInstance
def kInt16 : List D → Option D
  | [.str x, .int j] => if j = 16 ∧ x.cps.toList ≠ [] ∧ x.length ≤ 640 ∧ (∀ c ∈ x.cps.toList, Hx.IsHex c) then some (.int ((Hx.hexNum x.cps.toList : Nat) : Int)) else none
  | _ => none
def kDivmod : List D → Option D
  | [.int i, .int j] => if 0 < j ∧ j < 1073741824 then some (.tup [.int (i / j), .int (i % j)]) else none
  | _ => none
def kListE : List D → Option D
  | [.str z] => if z.length ≤ 100000 then some (.lst true (z.cps.toList.map fun c => .str ⟨#[c]⟩)) else none
  | ds => kList ds
def kStr1 : List D → Option D
  | [.int i] => if i.natAbs.log2 < 1920 then some (.str (toString i)) else none
  | [.str x] => some (.str x)
  | _ => none
def kMulE : List D → Option D
  | [.str z, .int n] => if n ≤ 1000000 ∧ -1000000 ≤ n ∧ z.length * n.toNat ≤ 1000000 then some (.str (Txt.mul z n)) else none
  | ds => kMul ds
section
variable {g : Cfg} {X : Cx}
theorem strs_of {G : Fp} {H : Hp} : ∀ {ds : List D} {vs : List V} {bs : List Str} {A : Fp}, Reps g G H ds vs A → strsO ds = some bs → vs = bs.map V.str
  | [], _, _, _, h, e => by cases e; exact h
  | d :: ds, _, bs, _, ⟨v, vr, F1, F2, e1, l1, l2, dj, r, rs⟩, e => by
    subst e1
    cases d with
    | str b =>
      simp only [strsO] at e
      cases e2 : strsO ds with
      | none => rw [e2] at e; cases e
      | some cs =>
        rw [e2] at e
        cases e
        rw [strs_of rs e2, show v = .str b from r]
        rfl
    | _ => simp [strsO] at e
theorem ins_join (hK : X.K = g.K) : Ins g kJoin (onM fun x xs H Q => ∃ a p, ∃ ys : List Str, x = .str a ∧ xs = [.ref p] ∧ (SqL X.K H p (ys.map V.str) ∨ SqT X.K H p (ys.map V.str)) ∧
    (ys.map (·.length)).sum + ys.length * a.length ≤ 16777216 ∧ Q (.str (Txt.join a ys)) H) := by
  intro G H ds vs d Q b e fin
  match ds, e, b with
  | [.str a, .lst o es], e, b =>
    obtain ⟨v, w, A, B, rfl, r, r2⟩ := bor2 b
    simp only [kJoin] at e
    cases e2 : strsO es with
    | none => rw [e2] at e; cases e
    | some ys =>
      rw [e2] at e
      simp only at e
      split at e
      · rename_i c
        cases e
        obtain ⟨p, us, rfl, hp, rs⟩ := lst_tr r2
        exact ⟨a, p, ys, r, rfl, .inl (.inl (.inl (by rw [← strs_of rs e2]; exact hp))), Nat.le_trans c (by decide), fin0 fin rfl⟩
      · cases e
  | [.str a, .tup es], e, b =>
    obtain ⟨v, w, A, B, rfl, r, r2⟩ := bor2 b
    simp only [kJoin] at e
    cases e2 : strsO es with
    | none => rw [e2] at e; cases e
    | some ys =>
      rw [e2] at e
      simp only at e
      split at e
      · rename_i c
        cases e
        obtain ⟨p, us, rfl, hp, rs⟩ := tup_tr r2
        exact ⟨a, p, ys, r, rfl, .inr (by rw [hK, ← strs_of rs e2]; exact hp), Nat.le_trans c (by decide), fin0 fin rfl⟩
      · cases e
theorem reps_strs {G : Fp} {H : Hp} : ∀ ys : List Str, Reps g G H (ys.map D.str) (ys.map V.str) Fe
  | [] => rfl
  | y :: ys => ⟨.str y, ys.map V.str, Fe, Fe, rfl, fun _ z => z, fun _ z => z, fun _ z _ => z, rfl, reps_strs ys⟩
theorem ins_split : Ins g kSplit (onM fun x xs H Q => ∃ a b, x = .str a ∧ xs = [.str b] ∧ (b.length == 0) = false ∧ a.length + 2 ≤ sizeLine ∧ rNewStrs (Txt.split a b) H Q) := by
  intro G H ds vs d Q b e fin
  match ds, e, b with
  | [.str a, .str z], e, b =>
    obtain ⟨v, w, A, B, rfl, r, r2⟩ := bor2 b
    simp only [kSplit] at e
    split at e
    · rename_i c
      cases e
      refine ⟨a, z, r, by rw [show w = .str z from r2], c.1, Nat.le_trans (Nat.add_le_add_right c.2 2) (by decide), ?_⟩
      intro p np
      exact finL fin (reps_strs _) p np
    · cases e
theorem ins_lower : Ins g kLower (onM fun x xs H Q => ∃ a, x = .str a ∧ xs = [] ∧ a.length ≤ 5592405 ∧ Q (.str (Txt.lower a)) H) := by
  intro G H ds vs d Q b e fin
  match ds, e, b with
  | [.str a], e, b =>
    obtain ⟨v, A, rfl, r⟩ := bor1 b
    simp only [kLower] at e
    split at e
    · rename_i c
      cases e
      exact ⟨a, r, rfl, Nat.le_trans c (by decide), fin0 fin rfl⟩
    · cases e
theorem ins_zfill : Ins g kZfill (onM fun x xs H Q => ∃ (a : Str) (i : Int), x = .str a ∧ xs = [.int i] ∧ PadOk i = true ∧ Q (.str (Txt.zfill a i)) H) := by
  intro G H ds vs d Q b e fin
  match ds, e, b with
  | [.str a, .int i], e, b =>
    obtain ⟨v, w, A, B, rfl, r, r2⟩ := bor2 b
    simp only [kZfill] at e
    split at e
    · rename_i c
      cases e
      exact ⟨a, i, r, by rw [show w = .int i from r2], c, fin0 fin rfl⟩
    · cases e
theorem ins_indexS : Ins g kIndexS (onM fun x xs H Q => ∃ a b i rest, x = .str a ∧ xs = [.str b] ∧ Builtin.Str.occurrences a b 0 a.length 1 = i :: rest ∧ Q (.int (i : Nat)) H) := by
  intro G H ds vs d Q b e fin
  match ds, e, b with
  | [.str a, .str z], e, b =>
    obtain ⟨v, w, A, B, rfl, r, r2⟩ := bor2 b
    simp only [kIndexS] at e
    split at e
    · rename_i i rest c
      cases e
      exact ⟨a, z, i, rest, r, by rw [show w = .str z from r2], c, fin0 fin rfl⟩
    · cases e
theorem ins_int16 : Ins g kInt16 rIntHex := by
  intro G H ds vs d Q b e fin
  match ds, e, b with
  | [.str x, .int j], e, b =>
    obtain ⟨v, w, A, B, rfl, r, r2⟩ := bor2 b
    simp only [kInt16] at e
    split at e
    · rename_i c
      cases e
      obtain ⟨rfl, h1, h2, h3⟩ := c
      refine ⟨x.cps.toList, ?_, h1, by simpa [Str.length] using h2, h3, fin0 fin rfl⟩
      rw [show v = .str x from r, show w = .int 16 from r2, SX.S_tl]
    · cases e
theorem ins_divmod : Ins g kDivmod (fun xs H Q => ∃ i j, xs = [.int i, .int j] ∧ CDiv i j ∧ ∀ p, H p = none → Q (.ref p) (upd H p (.tup [.int (i / j), .int (i % j)]))) := by
  intro G H ds vs d Q b e fin
  match ds, e, b with
  | [.int i, .int j], e, b =>
    obtain ⟨v, w, A, B, rfl, r, r2⟩ := bor2 b
    simp only [kDivmod] at e
    split at e
    · rename_i c
      cases e
      exact ⟨i, j, by rw [show v = .int i from r, show w = .int j from r2], c, finT fin ⟨.int (i / j), [.int (i % j)], Fe, Fe, rfl, fun _ z => z, fun _ z => z, fun _ z _ => z, rfl, .int (i % j), [], Fe, Fe, rfl, fun _ z => z, fun _ z => z, fun _ z _ => z, rfl, rfl⟩⟩
    · cases e
def rListS : List V → Hp → VK → Prop := fun xs H Q => ∃ z : Str, xs = [.str z] ∧ z.length ≤ sizeLine ∧ ∀ p, H p = none → Q (.ref p) (upd H p (.lst (z.cps.toList.map fun c => V.str ⟨#[c]⟩)))
theorem call_listS (hc : X.calm = true) : CallR X (.type "list") rListS := by
  intro pins s σ H xs us Q I r h
  obtain ⟨z, rfl, hz, q⟩ := h
  obtain ⟨u, rfl, rx⟩ := vals1 r
  obtain ⟨t, rfl⟩ := rx
  refine PySem.call_list_str (I.ok.hd hc) z t (fun h' tk acc c' kp e items => ?_) hz
  refine ⟨.ref s.heap.objs.size, upd H s.heap.objs.size (.lst (z.cps.toList.map fun c => V.str ⟨#[c]⟩)), I.laid kp (Nat.le_refl _) ⟨?_, acc.toList, c', ?_, e⟩, rfl, q _ (I.hok.fresh (Nat.le_refl _))⟩
  · rw [List.length_map]
    exact hz
  · have hl : acc.toList.length = z.cps.toList.length := by
      rw [Array.length_toList, Array.length_toList]
      exact items.1
    refine vals_of_at (by rw [List.length_map, hl]) fun j x w h1 h2 => ?_
    obtain ⟨c, u, hc, rfl⟩ := items.2 j w (by rw [← Array.getElem?_toList]; exact h2)
    rw [List.getElem?_map, Array.getElem?_toList, hc] at h1
    cases h1
    exact ⟨u, rfl⟩
theorem call_listE (hc : X.calm = true) : CallR X (.type "list") (fun xs H Q => rListS xs H Q ∨ (∃ p ys, xs = [.ref p] ∧ (SqL X.K H p ys ∨ SqT X.K H p ys) ∧ ∀ l, H l = none → Q (.ref l) (upd H l (.lst ys)))) := CallR.or (call_listS hc) call_list_of
theorem ins_listE (hK : X.K = g.K) : Ins g kListE (fun xs H Q => rListS xs H Q ∨ (∃ p ys, xs = [.ref p] ∧ (SqL X.K H p ys ∨ SqT X.K H p ys) ∧ ∀ l, H l = none → Q (.ref l) (upd H l (.lst ys)))) := by
  intro G H ds vs d Q b e fin
  by_cases h : ∃ z, ds = [.str z]
  · obtain ⟨z, rfl⟩ := h
    obtain ⟨v, A, rfl, r⟩ := bor1 b
    simp only [kListE] at e
    split at e
    · rename_i c
      cases e
      refine .inl ⟨z, by rw [show v = .str z from r], Nat.le_trans c (by decide), ?_⟩
      have e : (z.cps.toList.map fun c => D.str ⟨#[c]⟩) = (z.cps.toList.map fun c => (⟨#[c]⟩ : Str)).map D.str := by rw [List.map_map]; rfl
      have e2 : (z.cps.toList.map fun c => V.str ⟨#[c]⟩) = (z.cps.toList.map fun c => (⟨#[c]⟩ : Str)).map V.str := by rw [List.map_map]; rfl
      rw [e] at fin
      rw [e2]
      exact finL fin (reps_strs _)
    · cases e
  · have e2 : kListE ds = kList ds := by
      unfold kListE
      split
      · exact absurd ⟨_, rfl⟩ h
      · rfl
    rw [e2] at e
    exact .inr (ins_list hK G H ds vs d Q b e fin)
theorem ins_str1 : Ins g kStr1 (fun xs H Q => (∃ i, xs = [.int i] ∧ i.natAbs.log2 < 1920 ∧ Q (.str (toString i)) H) ∨ ∃ a, xs = [.str a] ∧ Q (.str a) H) := by
  intro G H ds vs d Q b e fin
  match ds, e, b with
  | [.int i], e, b =>
    obtain ⟨v, A, rfl, r⟩ := bor1 b
    simp only [kStr1] at e
    split at e
    · rename_i c
      cases e
      exact .inl ⟨i, by rw [show v = .int i from r], c, fin0 fin rfl⟩
    · cases e
  | [.str a], e, b =>
    obtain ⟨v, A, rfl, r⟩ := bor1 b
    cases e
    exact .inr ⟨a, by rw [show v = .str a from r], fin0 fin rfl⟩
theorem call_str1 : CallR X (.type "str") (fun xs H Q => (∃ i, xs = [.int i] ∧ i.natAbs.log2 < 1920 ∧ Q (.str (toString i)) H) ∨ ∃ a, xs = [.str a] ∧ Q (.str a) H) := CallR.or call_str_int SkE.call_str_str
/-- x //= y -/
def aFdiv : Int → Int → Option Int := fun n m => if 0 < m ∧ m < 1073741824 then some (n / m) else none
def rIpFdiv : TIp := fun x y H Q => ∃ i j, x = .int i ∧ y = .int j ∧ (0 < j ∧ j < 1073741824) ∧ Q (.int (i / j)) H
theorem ip_fdiv : PIp X .FloorDiv rIpFdiv := by
  intro pins s σ H x y v u Q I rx ry h
  obtain ⟨i, j, ex, ey, hj, q⟩ := h
  subst ex; subst ey
  obtain ⟨t, rfl⟩ := rx
  obtain ⟨t', rfl⟩ := ry
  refine PySem.AutoIntOps.ifloordiv_1 (by simp; omega) (by rw [PyProof.noPylong_small (by omega)]; simp) ?_
  rw [Int.fdiv_eq_ediv_of_nonneg i (by omega)]
  exact ⟨.int _, H, I.tok _, ⟨_, rfl⟩, q⟩
theorem insA_fdiv : InsA aFdiv rIpFdiv := fun n m r H Q e q => by
  unfold aFdiv at e
  split at e
  · rename_i c
    cases e
    exact ⟨n, m, rfl, rfl, c, q⟩
  · cases e
def rMulS : R2 := fun x y H Q => ∃ z n, x = .str z ∧ y = .int n ∧ MulOk z n ∧ Q (.str (Txt.mul z n)) H
theorem op_mulS : OpR X (binaryOp .Mult) rMulS := by
  intro pins s σ H x y v u Q I rx ry h
  obtain ⟨z, n, rfl, rfl, ok, q⟩ := h
  obtain ⟨t, rfl⟩ := rx
  obtain ⟨t', rfl⟩ := ry
  exact PySem.SB.mul ok fun t2 k => ⟨.str _, H, I.tok _, ⟨_, rfl⟩, q⟩
theorem op_mulE : OpR X (binaryOp .Mult) (fun x y H Q => rMulS x y H Q ∨ (rI CMul (fun i j => .int (i * j)) x y H Q ∨ rRep x y H Q)) := op_mulS.or op_mulD
theorem big_div {n : Int} {M : Int} (hM : 1000000000000 ≤ M) (h0 : 0 < n) (h1 : n ≤ 1000000) : 1000000 ≤ M / n := by
  rw [Int.le_ediv_iff_mul_le h0]
  omega
theorem mulOk_of {z : Str} {n : Int} (h : n ≤ 1000000 ∧ -1000000 ≤ n ∧ z.length * n.toNat ≤ 1000000) : MulOk z n := by
  obtain ⟨h1, h2, h3⟩ := h
  have b : (1000000 : Int) < 2 ^ 63 := by decide +kernel
  have hM : (1000000000000 : Int) ≤ 2 ^ 63 - 1 := by decide +kernel
  unfold MulOk
  generalize (2 : Int) ^ 63 = P at *
  refine ⟨?_, fun h4 _ h5 => ?_, fun h4 _ => ?_⟩
  · rw [Bool.or_eq_false_iff]
    constructor
    · rw [decide_eq_false_iff_not]; omega
    · rw [decide_eq_false_iff_not]; omega
  · have hb := big_div hM (by omega : 0 < n) h1
    have hz : z.length ≤ z.length * n.toNat := Nat.le_mul_of_pos_right _ (by omega)
    generalize (P - 1) / n = q at *
    omega
  · show decide (_ > sizeLine) = false
    rw [decide_eq_false_iff_not]
    have : (1000000 : Nat) ≤ sizeLine := by decide
    omega
theorem ins_mulE : Ins g kMulE (on2 (fun x y H Q => rMulS x y H Q ∨ (rI CMul (fun i j => .int (i * j)) x y H Q ∨ rRep x y H Q))) := by
  intro G H ds vs d Q b e fin
  by_cases h : ∃ z n, ds = [.str z, .int n]
  · obtain ⟨z, n, rfl⟩ := h
    obtain ⟨v, w, A, B, rfl, r, r2⟩ := bor2 b
    simp only [kMulE] at e
    split at e
    · rename_i c
      cases e
      exact .inl ⟨z, n, r, r2, mulOk_of c, fin0 fin rfl⟩
    · cases e
  · have e2 : kMulE ds = kMul ds := by
      unfold kMulE
      split
      · exact absurd ⟨_, _, rfl⟩ h
      · rfl
    rw [e2] at e
    have := ins_mul G H ds vs d Q b e fin
    match vs, this with
    | [x, y], this => exact .inr this
end
end DV

namespace DV
open PySem L2 PyProof.Rows
/-! ### x[::-1] -/
def revS (z : Str) : Str := ⟨z.cps.toList.reverse.toArray⟩
def kRev : List D → Option D
  | [.lst _ ds] => if cleans ds = true then some (.lst true ds.reverse) else none
  | [.str z] => if z.length ≤ 1000000 then some (.str (revS z)) else none
  | _ => none
def rRevE (K : PySem.W.Frag) : List V → Hp → VK → Prop := fun xs H Q => (∃ a ys, xs = [.ref a] ∧ SqL K H a ys ∧ ∀ p, H p = none → Q (.ref p) (upd H p (.lst ys.reverse))) ∨ ∃ z : Str, xs = [.str z] ∧ z.length ≤ sizeLine ∧ Q (.str (revS z)) H
theorem rev_picks {z : Str} : (Builtin.Str.strSliceIndices none none (-1) z.length).filterMap (z.cps[·]?) = z.cps.toList.reverse := by
  show (sliceRange ((z.cps.size : Int) - 1) (-1) (-1)).filterMap (z.cps[·]?) = _
  rw [PySem.W.krv_sliceRange, PySem.W.krv_range, List.filterMap_reverse, PySem.W.krv_all]
section
variable {g : Cfg} {X : Cx} {W : WX}
theorem pe_rev {e : Expr} {te : TE} {kk : Nat} {q1 q2 q3 qp : Pos} (he : PE X e te) : PE X (.Subscript e (.Slice none none (some (.UnaryOp .USub (.Constant (.int 1) kk q1) q2)) q3) qp) (fun σ H Q => te σ H fun x H1 => rRevE X.K [x] H1 Q) := by
  refine ⟨fun pins s σ H Q I h => Subscript_ (thn (he.run pins s σ H _ I h) fun v s1 ⟨x, H1, I1, rx, m⟩ => ?_)⟩
  refine wpAny_Slice (thn (po_none.run pins s1 σ H1 (fun o J => o = none ∧ J = H1) I1 ⟨rfl, rfl⟩) fun w1 s2 ⟨o1, J1, I2, pa, ea, eb⟩ => ?_)
  cases ea; cases eb
  refine thn (po_none.run pins s2 σ H1 (fun o J => o = none ∧ J = H1) I2 ⟨rfl, rfl⟩) fun w2 s3 ⟨o2, J2, I3, pb, ec, ed⟩ => ?_
  cases ec; cases ed
  have step : PO X (some (.UnaryOp .USub (.Constant (.int 1) kk q1) q2)) (tPart (tUn (rU fun i => .int (-i)) (tC (.int 1)))) := po_some (pe_un un_neg pe_int)
  refine thn (step.run pins s3 σ H1 (fun o J => o = some (-1) ∧ J = H1) I3 ⟨1, rfl, -1, rfl, rfl, rfl⟩) fun w3 s4 ⟨o3, J3, I4, pc, ee, ef⟩ => ?_
  cases ee; cases ef
  have I5 : Inv X pins σ H1 { s4 with heap := s4.heap.push { cls := .type "slice", data := .fields #[w1, w2, w3] } } := I4.kept (t' := s4.toks) fun b ob q => Heap.get?_push_of_some _ q
  rcases m with ⟨a, ys, ex, hx, q⟩ | ⟨z, ex, hz, q⟩
  · cases ex
    cases rx
    obtain ⟨its, r, ht, hz⟩ := I5.list hx
    have hn := r.length
    refine tail_any (value := e) (slice := .Slice none none (some (.UnaryOp .USub (.Constant (.int 1) kk q1) q2)) q3) (ops := [.ref a, .ref s4.heap.objs.size]) ht.isList.typeIs PySem.slot_list_getitem.lookup ?_ (by with_unfolding_all rfl)
    refine wpAny_getItem_list_slice ht.isList (Heap.IsSliceOf.new _ w1 w2 w3) pa pb pc (by decide) ?_ (by rw [List.size_toArray]; omega)
    rw [PySem.W.krv_pick]
    exact ⟨.ref _, _, I5.laid (t' := s4.toks) (o := .lst ys.reverse) (fun b ob q => Heap.get?_push_of_some _ q) (Nat.le_refl _) ⟨by rw [List.length_reverse]; exact hz, _, 0, r.reverse, Heap.get?_push_size _ rfl⟩, rfl, q _ (I5.hok.fresh (Nat.le_refl _))⟩
  · cases ex
    obtain ⟨t, rfl⟩ := rx
    obtain ⟨l1, rfl, f1⟩ := IsPart.raw pa
    obtain ⟨l2, rfl, f2⟩ := IsPart.raw pb
    obtain ⟨l3, rfl, f3⟩ := IsPart.raw pc
    refine tail_any (value := e) (slice := .Slice none none (some (.UnaryOp .USub (.Constant (.int 1) kk q1) q2)) q3) (ops := [.str z t, .ref s4.heap.objs.size]) (typeIs_str _ _ _) F.slot_str_getitem.lookup ?_ (by with_unfolding_all rfl)
    have new : (s4.heap.push { cls := .type "slice", data := .fields #[partValue l1, partValue l2, partValue l3] }).IsSlice s4.heap.objs.size l1 l2 l3 := ⟨_, Heap.get?_push_size _ rfl, rfl, rfl⟩
    refine wpAny_getItem_str_slice (l := l1) (u := l2) (st := l3) new (by rw [f3]; rfl) ?_
    unfold sliceMade slicePicked
    rw [f1, f2, f3]
    show Made.post (.str ⟨((Builtin.Str.strSliceIndices none none (-1) z.length).filterMap (z.cps[·]?)).toArray⟩) (EP X pins σ Q) _
    rw [rev_picks]
    refine ⟨?_, .str _, H1, I5.tok _, ⟨_, rfl⟩, q⟩
    show (z.cps.toList.reverse.toArray).size ≤ sizeLine
    rw [List.size_toArray, List.length_reverse, Array.length_toList]
    exact hz
theorem Reps.rev0 {G : Fp} {H : Hp} {ds : List D} {vs : List V} (r : Reps g G H ds vs Fe) : Reps g G H ds.reverse vs.reverse Fe := Reps.rev r
theorem ins_rev (hK : X.K = g.K) : Ins g kRev (rRevE X.K) := by
  intro G H ds vs d Q b e fin
  match ds, e, b with
  | [.lst o es], e, b =>
    obtain ⟨v, A, rfl, r⟩ := bor1 b
    simp only [kRev] at e
    split at e
    · rename_i c
      cases e
      obtain ⟨p, us, rfl, hp, rs⟩ := lst_tr r
      exact .inl ⟨p, us, rfl, .inl (.inl hp), finL fin (Reps.rev (rs.clean c))⟩
    · cases e
  | [.str z], e, b =>
    obtain ⟨v, A, rfl, r⟩ := bor1 b
    simp only [kRev] at e
    split at e
    · rename_i c
      cases e
      exact .inr ⟨z, by rw [show v = .str z from r], Nat.le_trans c (by decide), fin0 fin rfl⟩
    · cases e
theorem se_rev {e : Expr} {o : Od} {kk : Nat} {q1 q2 q3 qp : Pos} (hK : X.K = g.K) (he : SO X g W e o) : SE X g W (.Subscript e (.Slice none none (some (.UnaryOp .USub (.Constant (.int 1) kk q1) q2)) q3) qp) (eOps kRev [o]) := PE.imp (pe_rev he) fun σ H Q ⟨G, δ, F, S, P⟩ => ops_run (os := [o]) (ins_rev hK) S P
end
/-! ### how long texts are -/
theorem len_cat (a b : Str) : (a ++ b).length = a.length + b.length := by
  show (a.cps ++ b.cps).size = _
  rw [Array.size_append]
  rfl
theorem len_one {c : Nat} : (⟨#[c]⟩ : Str).length = 1 := rfl
theorem len_pad (x : Str) (k : Nat) : (Builtin.Str.padded x k 0 48).length = x.length + k := by
  show (Array.replicate k 48 ++ x.cps ++ Array.replicate 0 48).size = _
  simp only [Array.size_append, Array.size_replicate]
  show k + x.length + 0 = x.length + k
  omega
theorem len_mk (l : List Nat) : (⟨l.toArray⟩ : Str).length = l.length := by
  show l.toArray.size = _
  rw [List.size_toArray]
theorem len_revS (z : Str) : (revS z).length = z.length := by
  unfold revS
  rw [len_mk, List.length_reverse, Array.length_toList]
  rfl
theorem len_zfill (z : Str) (i : Int) : (Txt.zfill z i).length ≤ z.length + i.toNat + 1 := by
  have sub : ∀ a b : Nat, (Builtin.Str.strSub z a b).length ≤ z.length := fun a b => by
    show (z.cps.extract a b).size ≤ z.cps.size
    rw [Array.size_extract]
    omega
  unfold Txt.zfill
  split
  · omega
  · unfold zfilled
    have h1 : (Builtin.Str.strSub z 0 1).length ≤ 1 := by
      show (z.cps.extract 0 1).size ≤ 1
      rw [Array.size_extract]
      omega
    have h2 := sub 1 z.length
    split <;> simp only [len_cat, len_pad] <;> omega
theorem len_join (s : Str) (ys : List Str) : (Txt.join s ys).length = (ys.map (·.length)).sum + (ys.length - 1) * s.length := PySem.size_glued s ys
theorem strsO_map : ∀ ys : List Str, strsO (ys.map D.str) = some ys
  | [] => rfl
  | y :: ys => by simp only [List.map_cons, strsO, strsO_map ys, Option.map_some]
theorem cleans_str : ∀ ys : List Str, cleans (ys.map D.str) = true := cleans_map fun _ => rfl
theorem at_some {α : Type} {xs : List α} {i : Int} (h0 : 0 ≤ i) (h : i < xs.length) : ∃ v ∈ xs, atI xs i = some v := by
  obtain ⟨k, rfl⟩ := Int.eq_ofNat_of_zero_le h0
  have hk : k < xs.length := by omega
  refine ⟨xs[k], List.getElem_mem hk, ?_⟩
  unfold atI
  rw [ixN_nat hk]
  exact List.getElem?_eq_getElem hk
theorem sum_le {ys : List Str} {k : Nat} : (∀ y ∈ ys, y.length ≤ k) → (ys.map (·.length)).sum ≤ ys.length * k := by
  intro h
  induction ys with
  | nil => simp
  | cons y ys ih =>
    have h1 := h y List.mem_cons_self
    have h2 := ih fun x hx => h x (List.mem_cons_of_mem _ hx)
    simp only [List.map_cons, List.sum_cons, List.length_cons, Nat.succ_mul]
    omega
end DV

namespace DV
open PySem L2
/-! ### repr of data -/
mutual
def toPy : D → PyData
  | .bl b => .bool b
  | .int i => .int i
  | .str x => .str x
  | .lst _ xs => .list (toPys xs)
  | .tup xs => .tuple (toPys xs)
  | _ => .none
def toPys : List D → List PyData
  | [] => []
  | x :: xs => toPy x :: toPys xs
end
def rOk (d : D) : Bool := dataD d && (toPy d).showable && decide ((toPy d).shown.length ≤ 1000000) && decide ((toPy d).depth ≤ 60) && !(toPy d).hasDict
def kRepr : List D → Option D
  | [d] => if rOk d = true then some (.str (toPy d).shown) else none
  | _ => none
mutual
theorem rd_reads {h : Heap} : ∀ {d : D} {u : Value}, RdD h d u → dataD d = true → ∃ as, Reads h u (toPy d) as
  | .non, u, r, _ => by rw [RdD] at r; subst r; exact ⟨[], by simp only [toPy]; exact .none⟩
  | .bl b, u, r, _ => by rw [RdD] at r; subst r; exact ⟨[], by rw [toPy]; exact .bool b⟩
  | .int i, u, r, _ => by rw [RdD] at r; obtain ⟨t, rfl⟩ := r; exact ⟨[], by rw [toPy]; exact .int i t⟩
  | .str x, u, r, _ => by rw [RdD] at r; obtain ⟨t, rfl⟩ := r; exact ⟨[], by rw [toPy]; exact .str x t⟩
  | .lst o xs, u, r, hd => by
    rw [RdD] at r
    rw [dataD] at hd
    obtain ⟨l, vs, rfl, ⟨ob, h1, h2, h3, h4⟩, rs⟩ := r
    obtain ⟨as, ra⟩ := rds_reads rs hd
    exact ⟨l :: as, by rw [toPy]; exact .list h1 h2 h4 ra⟩
  | .tup xs, u, r, hd => by
    rw [RdD] at r
    rw [dataD] at hd
    obtain ⟨l, vs, rfl, ht, rs⟩ := r
    obtain ⟨as, ra⟩ := rds_reads rs hd
    obtain ⟨ob, h1, h2, h3⟩ := ht
    first
    | exact ⟨as, by rw [toPy]; exact .tuple h1 h2 h3 ra⟩
    | (obtain ⟨n, h3⟩ := h3; exact ⟨as, by rw [toPy]; exact .tuple h1 h2 h3 ra⟩)
  | .dct _ _ _, _, _, hd => by simp [dataD] at hd
  | .dcT _ _ _, _, _, hd => by simp [dataD] at hd
  | .ins _ _ _ _, _, _, hd => by simp [dataD] at hd
  | .ty _, _, _, hd => by simp [dataD] at hd
  | .scr _, _, _, hd => by simp [dataD] at hd
theorem rds_reads {h : Heap} : ∀ {ds : List D} {us : List Value}, RdDs h ds us → dataDs ds = true → ∃ as, ReadsAll h us (toPys ds) as
  | [], us, r, _ => by rw [RdDs] at r; subst r; exact ⟨[], by rw [toPys]; exact .nil⟩
  | d :: ds, us, r, hd => by
    rw [RdDs] at r
    simp only [dataDs, Bool.and_eq_true] at hd
    obtain ⟨v, vr, rfl, r1, r2⟩ := r
    obtain ⟨a, h1⟩ := rd_reads r1 hd.1
    obtain ⟨b, h2⟩ := rds_reads r2 hd.2
    exact ⟨a ++ b, by rw [toPys]; exact .cons h1 h2⟩
end
theorem rOk_parts {d : D} (h : rOk d = true) : dataD d = true ∧ (toPy d).showable = true ∧ (toPy d).shown.length ≤ 1000000 ∧ (toPy d).depth ≤ 60 ∧ (toPy d).hasDict = false := by
  unfold rOk at h
  simp only [Bool.and_eq_true, decide_eq_true_eq, Bool.not_eq_true'] at h
  exact ⟨h.1.1.1.1, h.1.1.1.2, h.1.1.2, h.1.2, h.2⟩
def rReprV (g : Cfg) : List V → Hp → VK → Prop := fun xs H Q => ∃ G d A v, xs = [v] ∧ Rep g G H d v A ∧ rOk d = true ∧ Q (.str (toPy d).shown) H
section
variable {g : Cfg} {X : Cx} {k : Nat}
theorem call_reprV (hK : X.K = g.K) (hr : Room k X.A) : CallR X (.builtin "repr") (rReprV g) := by
  intro pins s σ H xs us Q I r h
  obtain ⟨G, d, A, v, rfl, rep, ok, q⟩ := h
  obtain ⟨u, rfl, rx⟩ := vals1 r
  obtain ⟨hd, hs, hl, hdp, hnd⟩ := rOk_parts ok
  have hz : (toPy d).shown.length ≤ sizeLine := Nat.le_trans hl (by decide)
  have rd := rep_rd hK I rep rx hd
  have un := hr.un
  obtain ⟨as, ra⟩ := rd_reads rd hd
  have key : ∀ a, u = .ref a → wpAny (model X.prog X.w) X.A (call (.builtin "repr") [u]) (EP X pins σ Q) X.xe s := by
    rintro a rfl
    exact repr_of_reads' ra hs (fun z => by rw [hnd] at z; cases z) hr.gd (by omega) (fun _ _ e => e) (fun h' u2 tk kp => ⟨.str _, H, I.kept kp, ⟨_, rfl⟩, q⟩) hz
  cases d with
  | non =>
    rw [RdD] at rd; subst rd
    exact PySem.P.repr_of_none ⟨.str _, H, I.tok _, ⟨_, rfl⟩, by simpa [toPy, PyData.shown] using q⟩
  | bl b =>
    rw [RdD] at rd; subst rd
    exact PySem.P.repr_of_bool ⟨.str _, H, I.tok _, ⟨_, rfl⟩, by simpa [toPy, PyData.shown] using q⟩
  | int i =>
    rw [RdD] at rd; obtain ⟨t, rfl⟩ := rd
    exact PySem.P.repr_of_int (by simpa [toPy, PyData.showable] using hs) ⟨.str _, H, I.tok _, ⟨_, rfl⟩, by simpa [toPy, PyData.shown] using q⟩
  | str x =>
    rw [RdD] at rd; obtain ⟨t, rfl⟩ := rd
    exact PySem.P.repr_of_str ⟨.str _, H, I.tok _, ⟨_, rfl⟩, by simpa [toPy, PyData.shown] using q⟩ (by simpa [toPy, PyData.shown] using hz)
  | lst o xs => rw [RdD] at rd; obtain ⟨l, vs, rfl, _⟩ := rd; exact key l rfl
  | tup xs => rw [RdD] at rd; obtain ⟨l, vs, rfl, _⟩ := rd; exact key l rfl
  | _ => simp [dataD] at hd
theorem ins_reprV : Ins g kRepr (rReprV g) := by
  intro G H ds vs d Q b e fin
  match ds, e, b with
  | [x], e, b =>
    obtain ⟨v, A, rfl, r⟩ := bor1 b
    simp only [kRepr] at e
    split at e
    · rename_i c
      cases e
      exact ⟨G, x, A, v, rfl, r, c, fin0 fin rfl⟩
    · cases e
end
/-! ### how long -/
theorem textFrom_le : ∀ (ts : List Str) (k : Nat) (acc : Str), (textFrom k acc ts).length ≤ acc.length + piled ts
  | [], k, acc => by show acc.length ≤ _; omega
  | t :: r, k, acc => by
    have ih := textFrom_le r (k + 1) (acc ++ (if k > 0 then ", " else "" : String) ++ t)
    have hs : (Str.ofString (if k > 0 then ", " else "" : String)).length ≤ 2 := by
      split <;> decide
    rw [len_cat, len_cat] at ih
    rw [piled_cons]
    show (textFrom (k + 1) (acc ++ (if k > 0 then ", " else "" : String) ++ t) r).length ≤ _
    omega
theorem listText_le (ts : List Str) : (listText ts).length ≤ piled ts + 2 := by
  have h := textFrom_le ts 0 "["
  have h1 : ("[" : Str).length = 1 := by decide
  have h2 : ("]" : Str).length = 1 := by decide
  unfold listText
  rw [len_cat]
  omega
theorem tupleText_le (ts : List Str) : (tupleText ts).length ≤ piled ts + 3 := by
  have hj : (Str.join ", " ts).length ≤ piled ts := by
    by_cases h : ts = []
    · subst h; decide
    · have := join_length_add ts h; omega
  have h1 : ("(" : Str).length = 1 := by decide
  have h2 : (Str.ofString (if ts.length == 1 then ",)" else ")" : String)).length ≤ 2 := by split <;> decide
  unfold tupleText
  rw [len_cat, len_cat]
  omega
mutual
def shLen : D → Nat
  | .str x => 10 * x.length + 2
  | .int _ => 1921
  | .lst _ xs => shLens xs + 3
  | .tup xs => shLens xs + 3
  | _ => 5
def shLens : List D → Nat
  | [] => 0
  | x :: xs => shLen x + 2 + shLens xs
end
mutual
def chOk : D → Bool
  | .str x => x.cps.toList.all fun c => decide (c < 4294967296)
  | .lst _ xs => chOks xs
  | .tup xs => chOks xs
  | _ => true
def chOks : List D → Bool
  | [] => true
  | x :: xs => chOk x && chOks xs
end
mutual
theorem shown_le : ∀ {d : D}, chOk d = true → (toPy d).showable = true → (toPy d).shown.length ≤ shLen d
  | .non, _, _ => by simp only [toPy, shLen]; decide
  | .bl b, _, _ => by cases b <;> decide
  | .int i, _, h => by
    simp only [toPy, PyData.shown, shLen] at h ⊢
    exact PyProof.Rows.int_text_len_1921 (by simpa [PyData.showable] using h)
  | .str x, h, _ => by
    rw [chOk, List.all_eq_true] at h
    simp only [toPy, PyData.shown, shLen]
    exact PySem.StrLaws.reprText_len x fun c hc => by
      have := of_decide_eq_true (h c hc)
      exact Nat.lt_of_lt_of_le this (by decide)
  | .lst o xs, h, h2 => by
    rw [chOk] at h
    simp only [toPy, PyData.shown, PyData.showable, shLen] at h2 ⊢
    have h3 := listText_le (PyData.shownAll (toPys xs))
    have h4 := showns_le h h2
    omega
  | .tup xs, h, h2 => by
    rw [chOk] at h
    simp only [toPy, PyData.shown, PyData.showable, shLen] at h2 ⊢
    have h3 := tupleText_le (PyData.shownAll (toPys xs))
    have h4 := showns_le h h2
    omega
  | .dct _ _ _, _, _ => by simp only [toPy, shLen]; decide
  | .dcT _ _ _, _, _ => by simp only [toPy, shLen]; decide
  | .ins _ _ _ _, _, _ => by simp only [toPy, shLen]; decide
  | .ty _, _, _ => by simp only [toPy, shLen]; decide
  | .scr _, _, _ => by simp only [toPy, shLen]; decide
theorem showns_le : ∀ {ds : List D}, chOks ds = true → PyData.showableAll (toPys ds) = true → piled (PyData.shownAll (toPys ds)) ≤ shLens ds
  | [], _, _ => by simp [toPys, PyData.shownAll, shLens, piled]
  | d :: ds, h, h2 => by
    simp only [chOks, Bool.and_eq_true] at h
    simp only [toPys, PyData.showableAll, Bool.and_eq_true] at h2
    have a := shown_le h.1 h2.1
    have b := showns_le h.2 h2.2
    simp only [toPys, PyData.shownAll, piled_cons, shLens]
    omega
end
theorem log2_small {n : Nat} (h : n < 18446744073709551616) : n.log2 < 1920 := Nat.lt_of_lt_of_le (PySem.Flt.log2_lt_of (k := 64) (by decide) h) (by decide)
end DV

namespace DV
open PySem L2
/-! ### int of a text; texts compared -/
def kIntT : List D → Option D
  | [.str a] => if a.length ≤ 640 then (PySem.intText? a).map D.int else none
  | ds => kInt1 ds
def kLeE : List D → Option D
  | [.str a, .str b] => some (.bl (!decide (b.cps.toList < a.cps.toList)))
  | ds => kLe ds
section
variable {g : Cfg} {X : Cx}
theorem ins_intT : Ins g kIntT (fun xs H Q => (∃ a n, xs = [.str a] ∧ PySem.intText? a = some n ∧ a.length ≤ 640 ∧ Q (.int n) H) ∨ ((∃ i, xs = [.int i] ∧ Q (.int i) H) ∨ ∃ k, xs = [.bl k] ∧ Q (.int (if k then 1 else 0)) H)) := by
  intro G H ds vs d Q b e fin
  by_cases h : ∃ z, ds = [.str z]
  · obtain ⟨z, rfl⟩ := h
    obtain ⟨v, A, rfl, r⟩ := bor1 b
    simp only [kIntT] at e
    split at e
    · rename_i c
      cases hn : PySem.intText? z with
      | none => rw [hn] at e; cases e
      | some n =>
        rw [hn] at e
        cases e
        exact .inl ⟨z, n, by rw [show v = .str z from r], hn, c, fin0 fin rfl⟩
    · cases e
  · have e2 : kIntT ds = kInt1 ds := by
      unfold kIntT
      split
      · exact absurd ⟨_, rfl⟩ h
      · rfl
    rw [e2] at e
    exact .inr (ins_int1 G H ds vs d Q b e fin)
theorem call_intT : CallR X (.type "int") (fun xs H Q => (∃ a n, xs = [.str a] ∧ PySem.intText? a = some n ∧ a.length ≤ 640 ∧ Q (.int n) H) ∨ ((∃ i, xs = [.int i] ∧ Q (.int i) H) ∨ ∃ k, xs = [.bl k] ∧ Q (.int (if k then 1 else 0)) H)) := CallR.or call_int_str call_int1
def rLeS (x y : V) (H : Hp) (Q : V → Hp → Prop) : Prop := ∃ i j, x = .str i ∧ y = .str j ∧ Q (.bl (!decide (j.cps.toList < i.cps.toList))) H
theorem op_leE : OpR X (compareOp .LtE) (fun x y H Q => rLeS x y H Q ∨ rI0 (fun i j => .bl (decide (i ≤ j))) x y H Q) := OpR.or op_le_str op_le
theorem ins_leE : Ins g kLeE (on2 (fun x y H Q => rLeS x y H Q ∨ rI0 (fun i j => .bl (decide (i ≤ j))) x y H Q)) := by
  intro G H ds vs d Q b e fin
  by_cases h : ∃ z n, ds = [.str z, .str n]
  · obtain ⟨z, n, rfl⟩ := h
    obtain ⟨v, w, A, B, rfl, r, r2⟩ := bor2 b
    cases e
    exact .inl ⟨z, n, r, r2, fin0 fin rfl⟩
  · have e2 : kLeE ds = kLe ds := by
      unfold kLeE
      split
      · exact absurd ⟨_, _, rfl⟩ h
      · rfl
    rw [e2] at e
    have := ins_le G H ds vs d Q b e fin
    match vs, this with
    | [x, y], this => exact .inr this
/-! ### a, b, c = x, y, z -/
def sPar3 (i j l : Nat) (u v w : Ev) : Sv := fun δ => (evL [u, v, w] δ).thn fun ds δ1 => match ds with
  | [d, e, f] => .nx (st (st (st δ1 i (some d)) j (some e)) l (some f))
  | _ => .bad
theorem ss_par3 {W : WX} {i j l : Nat} {x y z : Str} {a b c : Expr} {u v w : Ev} {px py pz pt pos : Pos} {kt k2 pt2} (hc : X.calm = true) (hN : X.N.Nodup) (hi : X.N[i]? = some x) (hj : X.N[j]? = some y) (hl : X.N[l]? = some z) (hij : i ≠ j) (hil : i ≠ l) (hjl : j ≠ l)
    (hx : X.env.scope.names.lookup x = some .local) (hy : X.env.scope.names.lookup y = some .local) (hz : X.env.scope.names.lookup z = some .local) (ha : SEs X g W [a, b, c] [u, v, w])
    (hw : swappedStores [.Tuple [.Name x px, .Name y py, .Name z pz] kt pt] (.Tuple [a, b, c] k2 pt2) X.env = pure (some [x, y, z]))
    (hs : swapsWithSole [.Tuple [.Name x px, .Name y py, .Name z pz] kt pt] (.Tuple [a, b, c] k2 pt2) pos.line X.env = pure false := by rfl) :
    SS X g W (aOr (a1 i) (aOr (a1 j) (a1 l))) (.Assign [.Tuple [.Name x px, .Name y py, .Name z pz] kt pt] (.Tuple [a, b, c] k2 pt2) pos) (sPar3 i j l u v w) := PS.imp (ps_par3 hc hN hi hj hl hij hil hjl hx hy hz ha.pa hw hs) fun D σ H ⟨G, δ, F, S, P⟩ =>
  evs_run S (PostG.mono (PostS.bind P) fun ds δ1 H1 G1 F1 S1 P1 vs Fv rs ok dj E => by
    match ds, rs, P1 with
    | [d, e, f], ⟨v, vr, A, B, e1, l1, l2, dj0, r, ⟨w, vr2, C, C2, e2, l3, l4, dj1, r2, ⟨x3, vr3, E1, E2, e4, l5, l6, dj3, r3, e3⟩⟩⟩, P1 =>
      subst e1 e2 e4 e3
      refine ⟨v, w, x3, rfl, ?_⟩
      have S2 := S1.set (i := i) r (fun a z => ok a (l1 a z)) (dj.le l1 (Le.refl _))
      have lC : Le C Fv := l3.trans l2
      have lE : Le E1 Fv := (l5.trans l4).trans l2
      have dj2 : Dj C (U (Fst F1 i A)) := fun a x y => by
        rcases U_Fst a y with y | y
        · exact dj a (lC a x) y
        · exact dj0 a y (l3 a x)
      have S3 := S2.set (i := j) r2 (fun a z => ok a (lC a z)) dj2
      have dj4 : Dj E1 (U (Fst (Fst F1 i A) j C)) := fun a x y => by
        rcases U_Fst a y with y | y
        · rcases U_Fst a y with y | y
          · exact dj a (lE a x) y
          · exact dj0 a y (l4 a (l5 a x))
        · exact dj1 a y (l5 a x)
      have S4 := S3.set (i := l) r3 (fun a z => ok a (lE a z)) dj4
      refine P1 _ H1 G1 _ S4 ((Ag.set.trans (Ag.set.trans Ag.set))) (E.weak (Le.refl _) fun a z => ?_)
      rcases U_Fst a z with z | z
      · rcases U_Fst a z with z | z
        · rcases U_Fst a z with z | z
          · exact .inl z
          · exact .inr (l1 a z)
        · exact .inr (lC a z)
      · exact .inr (lE a z)
    | [], _, P1 => exact False.elim P1
    | [_], _, P1 => exact False.elim P1
    | [_, _], _, P1 => exact False.elim P1
    | _ :: _ :: _ :: _ :: _, _, P1 => exact False.elim P1)
def par3K (i j l : Nat) (Q : RS → Prop) : R (List D) → Prop
  | .ok [d, e, f] δ => Q (.nx (st (st (st δ i (some d)) j (some e)) l (some f)))
  | .ok _ _ => Q .bad
  | .ex x δ => Q (.ex x δ)
  | .bad => Q .bad
theorem r_par3 {Q : RS → Prop} {i j l : Nat} {e1 e2 e3 : Ev} {δ : Env} : wS (sPar3 i j l e1 e2 e3 δ) Q = wL [e1, e2, e3] δ (par3K i j l Q) := by
  simp only [wS_eq, wL_eq]; unfold sPar3
  cases evL [e1, e2, e3] δ with
  | bad => rfl
  | ex x y => rfl
  | ok ds b =>
    simp only [R.thn_ok]
    match ds with
    | [] => rfl
    | [_] => rfl
    | [_, _] => rfl
    | [_, _, _] => rfl
    | _ :: _ :: _ :: _ :: _ => rfl
theorem r_par3k {Q : RS → Prop} {i j l : Nat} {d e f : D} {δ : Env} : par3K i j l Q (.ok [d, e, f] δ) = Q (.nx (st (st (st δ i (some d)) j (some e)) l (some f))) := rfl
theorem kIntT_bl {b : Bool} : kIntT [.bl b] = kInt1 [.bl b] := rfl
theorem kIntT_int {n : Int} : kIntT [.int n] = kInt1 [.int n] := rfl
theorem kLeE_ii {m n : Int} : kLeE [.int m, .int n] = kLe [.int m, .int n] := rfl
theorem kLeE_ss {a b : Str} : kLeE [.str a, .str b] = some (.bl (!decide (b.cps.toList < a.cps.toList))) := rfl
end
/-! ### a <= s <= b, s a text -/
def eChS (k k' : List D → Option D) (oa ob oc : Od) : Ev := fun δ => (evOds [oa, ob] δ).bind fun xs δ1 => match resL δ1 xs with
  | some [d, .str j] => match k [d, .str j] with
    | some (.bl true) => eOps k' [.val (eC (.str j)), oc] δ1
    | some (.bl false) => .ok (.bl false) δ1
    | _ => .bad
  | _ => .bad
section
variable {X : Cx} {g : Cfg} {W : WX} {k k' : List D → Option D} {op op' : CmpOp} {r r' : R2} {a b c : Expr} {oa ob oc : Od} {pos : Pos} {G : Fp} {H : Hp} {σ : St} {δ : Env} {F : Nat → Fp} {Q : VK}
theorem chS_run (hk : Ins g k (on2 r)) (hk' : Ins g k' (on2 r')) (S : StR g G H σ δ F) (P : Post g W G H F σ (eChS k k' oa ob oc δ) Q) : tChain r r' (tO g W oa) (tO g W ob) (tO g W oc) σ H Q := by
  have h : tOs g W [oa, ob] σ H fun vs H2 => match vs with
    | [x, y] => r x y H2 fun z H3 => ∃ k, z = .bl k ∧ (if k = true then tO g W oc σ H3 fun w' H4 => r' y w' H4 Q else Q (.bl false) H3)
    | _ => False := by
    refine ods_run S (PostG.mono (PostG.bind P) fun xs δ1 H1 G1 F1 S1 P1 vs Fv rs ok dj E1 => ?_)
    cases e : resL δ1 xs with
    | none => simp only [e] at P1; exact False.elim P1
    | some ds =>
      have bo := bor_of S1 rs e
      simp only [e] at P1
      split at P1
      · rename_i d j he
        cases he
        have bo' := bo
        obtain ⟨v, w, A, B, rfl, rd, r2⟩ := bor2 bo'
        cases (show w = .str j from r2)
        cases ek : k [d, .str j] with
        | none => simp only [ek] at P1; exact False.elim P1
        | some z =>
          cases z with
          | bl kb =>
            refine hk G1 H1 _ _ (.bl kb) _ bo ek fun v' H' Fv' same rep new => ?_
            cases (show v' = _ from rep)
            refine ⟨kb, rfl, ?_⟩
            have S2 := S1.same same
            have E2 : Ext G H (U F) G1 H' (U F1) := (E1.trans (.new (U1 := Un2 (U F1) Fv) (Fv := Fe) same (Le.refl _) fun _ z => z.elim) (Le.refl _)).weak (Le.refl _) fun a h => .inl (.inl h)
            cases kb with
            | false =>
              simp only [ek] at P1
              simp only [Bool.false_eq_true, if_false]
              exact P1 H' G1 F1 S2 _ Fe rfl (fun _ z => z.elim) (fun _ z => z.elim) (E2.weak (Le.refl _) fun a h => h.elim id fun z => z.elim)
            | true =>
              simp only [ek] at P1
              simp only [if_true]
              have q := ops_run (W := W) hk' S2 (Post.on P1 E2)
              obtain ⟨G3, δ3, F3, S3, P3⟩ : tE g W (eC (.str j)) σ H' fun x H1 => tOs g W [oc] σ H1 fun xs H2 => on2 r' (x :: xs) H2 Q := q
              exact P3 H' G3 F3 S3 (.str j) Fe rfl (fun _ z => z.elim) (fun _ z => z.elim) (.refl fun _ z => z.elim id fun z => z.elim)
          | _ => simp only [ek] at P1; exact False.elim P1
      · exact False.elim P1
  exact h
theorem se_chS (ho : OpR X (compareOp op) r) (ho' : OpR X (compareOp op') r') (hk : Ins g k (on2 r)) (hk' : Ins g k' (on2 r')) (ha : SO X g W a oa) (hb : SO X g W b ob) (hc : SO X g W c oc)
    (hm : lastMarks [op, op'] [b, c] = false := by with_unfolding_all rfl) : SE X g W (.Compare a [op, op'] [b, c] pos) (eChS k k' oa ob oc) :=
  PE.imp (pe_chain ho ho' ha hb hc hm) fun σ H Q ⟨G, δ, F, S, P⟩ => chS_run hk hk' S P
theorem st_chS (ho : OpR X (compareOp op) r) (ho' : OpR X (compareOp op') r') (hk : Ins g k (on2 r)) (hk' : Ins g k' (on2 r')) (ha : SO X g W a oa) (hb : SO X g W b ob) (hc : SO X g W c oc)
    (hm : lastMarks [op, op'] [b, c] = false := by with_unfolding_all rfl) : ST X g W (.Compare a [op, op'] [b, c] pos) (eB (eChS k k' oa ob oc)) :=
  PT.imp (pt_chain ho ho' ha hb hc hm) fun σ H Q ⟨G, δ, F, S, P⟩ => by
    have : Post g W G H F σ (eChS k k' oa ob oc δ) fun x H1 => ∃ c, x = .bl c ∧ Q c H1 := by
      refine PostG.mono (PostG.bind P) fun d δ1 H1 G1 F1 S1 P1 v Fv r ok dj E1 => ?_
      cases d with
      | bl b => exact ⟨b, r, P1 H1 G1 F1 S1 (E1.weak (Le.refl _) Le.inl)⟩
      | _ => exact False.elim P1
    exact chS_run hk hk' S this
end
def chSK (k k' : List D → Option D) (oc : Od) (Q : R D → Prop) : R (List OV) → Prop
  | .ok xs δ => Q (match resL δ xs with
    | some [d, .str j] => match k [d, .str j] with
      | some (.bl true) => eOps k' [.val (eC (.str j)), oc] δ
      | some (.bl false) => .ok (.bl false) δ
      | _ => .bad
    | _ => .bad)
  | .ex x δ => Q (.ex x δ)
  | .bad => Q .bad
def ch2S (k k' : List D → Option D) (oc : Od) (ds : Option (List D)) (δ : Env) (Q : R D → Prop) : Prop := Q (match ds with
    | some [d, .str j] => match k [d, .str j] with
      | some (.bl true) => eOps k' [.val (eC (.str j)), oc] δ
      | some (.bl false) => .ok (.bl false) δ
      | _ => .bad
    | _ => .bad)
def ch3S (k' : List D → Option D) (oc : Od) (j : Str) (b : Option D) (δ : Env) (Q : R D → Prop) : Prop := Q (match b with
      | some (.bl true) => eOps k' [.val (eC (.str j)), oc] δ
      | some (.bl false) => .ok (.bl false) δ
      | _ => .bad)
section
variable {δ : Env} {d : D} {o oa ob oc : Od} {k k' : List D → Option D}
theorem r_chS {Q : R D → Prop} : wR (eChS k k' oa ob oc δ) Q = wO [oa, ob] δ (chSK k k' oc Q) := by simp only [wR_eq, wO_eq]; unfold eChS; cases evOds [oa, ob] δ with | bad => rfl | ex x y => rfl | ok a b => rfl
theorem r_chSk {Q : R D → Prop} {xs : List OV} : chSK k k' oc Q (.ok xs δ) = ch2S k k' oc (resL δ xs) δ Q := rfl
theorem r_ch2S {Q : R D → Prop} {j : Str} : ch2S k k' oc (some [d, .str j]) δ Q = ch3S k' oc j (k [d, .str j]) δ Q := rfl
theorem r_ch3St {Q : R D → Prop} {j : Str} : ch3S k' oc j (some (.bl true)) δ Q = wR (eOps k' [.val (eC (.str j)), oc] δ) Q := by rw [wR_eq]; rfl
theorem r_ch3Sf {Q : R D → Prop} {j : Str} : ch3S k' oc j (some (.bl false)) δ Q = Q (.ok (.bl false) δ) := rfl
end
end DV

namespace DV
open PySem L2
open PySem.W (dataLt minD maxD alike AlikeAll dataLe min_list_data max_list_data)
/-! ### list(range(a, b)) -/
def kLRg : List D → Option D
  | [.int i, .int j] => if -(2 ^ 62) ≤ i ∧ i < 2 ^ 62 ∧ -(2 ^ 62) ≤ j ∧ j < 2 ^ 62 ∧ (j - i).toNat ≤ 100000 then some (.lst true (intsD i (j - i).toNat)) else none
  | _ => none
def kLRg1 : List D → Option D
  | [.int j] => if -(2 ^ 62) ≤ j ∧ j < 2 ^ 62 ∧ j.toNat ≤ 100000 then some (.lst true (intsD 0 j.toNat)) else none
  | _ => none
def rLRg : List V → Hp → VK → Prop := fun xs H Q => match xs with
  | [x, y] => ∃ i j, x = .int i ∧ y = .int j ∧ RgOk i j ∧ ∀ q, H q = none → Q (.ref q) (upd H q (.lst (rgV i j)))
  | _ => False
def rLRg1 : List V → Hp → VK → Prop := fun xs H Q => match xs with
  | [x] => ∃ j, x = .int j ∧ RgOk 0 j ∧ ∀ q, H q = none → Q (.ref q) (upd H q (.lst (rgV 0 j)))
  | _ => False
section
variable {g : Cfg} {X : Cx} {W : WX}
theorem reps_rg {G : Fp} {H : Hp} (i : Int) (n : Nat) : Reps g G H (intsD i n) ((List.range n).map fun k : Nat => V.int (i + (k : Int))) Fe := by
  have := reps_ints (g := g) (G := G) (H := H) ((List.range n).map fun k : Nat => i + (k : Int))
  rw [List.map_map, List.map_map] at this
  exact this
theorem ins_lrg : Ins g kLRg rLRg := by
  intro G H ds vs d Q b e fin
  match ds, e, b with
  | [.int i, .int j], e, b =>
    obtain ⟨v, w, A, B, rfl, r, r2⟩ := bor2 b
    simp only [kLRg] at e
    split at e
    · rename_i c
      cases e
      exact ⟨i, j, r, r2, ⟨c.1, c.2.1, c.2.2.1, c.2.2.2.1, by omega⟩, finL fin (reps_rg i _)⟩
    · cases e
theorem ins_lrg1 : Ins g kLRg1 rLRg1 := by
  intro G H ds vs d Q b e fin
  match ds, e, b with
  | [.int j], e, b =>
    obtain ⟨v, A, rfl, r⟩ := bor1 b
    simp only [kLRg1] at e
    split at e
    · rename_i c
      cases e
      refine ⟨j, r, ⟨by omega, by omega, c.1, c.2.1, by omega⟩, ?_⟩
      have := finL fin (reps_rg 0 j.toNat)
      unfold rgV
      rw [Int.sub_zero]
      exact this
    · cases e
theorem se_lrg {p p2 pos pos2 : Pos} {a b : Expr} {oa ob : Od} (hc : X.calm = true) (hg : Gl X "list") (hm : X.mg "list" = none) (hg2 : Gl X "range") (hm2 : X.mg "range" = none) (ha : SO X g W a oa) (hb : SO X g W b ob)
    (na : starEach [a, b] X.env = (false, eval a X.env) :: starEach [b] X.env := by rfl) (nb : starEach [b] X.env = (false, eval b X.env) :: starEach [] X.env := by rfl) (hp : (backTo pos2 (starEach [b] X.env)).any (·.1) = false := by rfl)
    (nl : starEach [Expr.Call (.Name "range" p2) [a, b] [] pos2] X.env = (false, eval (Expr.Call (.Name "range" p2) [a, b] [] pos2) X.env) :: starEach [] X.env := by rfl) :
    SE X g W (.Call (.Name "list" p) [.Call (.Name "range" p2) [a, b] [] pos2] [] pos) (eOps kLRg [oa, ob]) :=
  PE.imp (pe_listRg hc hg hm (prg_2 hg2 hm2 ha hb na nb hp) nl) fun σ H Q ⟨G, δ, F, S, P⟩ => ops_run ins_lrg S P
theorem se_lrg1 {p p2 pos pos2 : Pos} {a : Expr} {oa : Od} (hc : X.calm = true) (hg : Gl X "list") (hm : X.mg "list" = none) (hg2 : Gl X "range") (hm2 : X.mg "range" = none) (ha : SO X g W a oa)
    (na : starEach [a] X.env = (false, eval a X.env) :: starEach [] X.env := by rfl)
    (nl : starEach [Expr.Call (.Name "range" p2) [a] [] pos2] X.env = (false, eval (Expr.Call (.Name "range" p2) [a] [] pos2) X.env) :: starEach [] X.env := by rfl) :
    SE X g W (.Call (.Name "list" p) [.Call (.Name "range" p2) [a] [] pos2] [] pos) (eOps kLRg1 [oa]) :=
  PE.imp (pe_listRg hc hg hm (prg_1 hg2 hm2 ha na) nl) fun σ H Q ⟨G, δ, F, S, P⟩ => ops_run ins_lrg1 S P
end
/-! ### order of data: min, max, sorted -/
mutual
theorem toPy_inj : ∀ {d e : D}, dataD d = true → dataD e = true → clean d = true → clean e = true → toPy d = toPy e → d = e
  | .non, e, _, he, _, _, h => by cases e <;> simp_all [toPy, dataD]
  | .bl _, e, _, he, _, _, h => by cases e <;> simp_all [toPy, dataD]
  | .int _, e, _, he, _, _, h => by cases e <;> simp_all [toPy, dataD]
  | .str _, e, _, he, _, _, h => by cases e <;> simp_all [toPy, dataD]
  | .tup xs, e, hd, he, hc, hc2, h => by
    cases e with
    | tup ys =>
      simp only [toPy, PyData.tuple.injEq] at h
      simp only [dataD, clean] at hd he hc hc2
      rw [toPys_inj hd he hc hc2 h]
    | _ => simp_all [toPy, dataD]
  | .lst o xs, e, hd, he, hc, hc2, h => by
    cases e with
    | lst p ys =>
      simp only [toPy, PyData.list.injEq] at h
      simp only [dataD, clean, Bool.and_eq_true, Bool.not_eq_true'] at hd he hc hc2
      rw [toPys_inj hd he hc.2 hc2.2 h, hc.1, hc2.1]
    | _ => simp_all [toPy, dataD]
  | .dct _ _ _, _, hd, _, _, _, _ => by simp [dataD] at hd
  | .dcT _ _ _, _, hd, _, _, _, _ => by simp [dataD] at hd
  | .ins _ _ _ _, _, hd, _, _, _, _ => by simp [dataD] at hd
  | .ty _, _, hd, _, _, _, _ => by simp [dataD] at hd
  | .scr _, _, hd, _, _, _, _ => by simp [dataD] at hd
theorem toPys_inj : ∀ {ds es : List D}, dataDs ds = true → dataDs es = true → cleans ds = true → cleans es = true → toPys ds = toPys es → ds = es
  | [], [], _, _, _, _, _ => rfl
  | [], _ :: _, _, _, _, _, h => by simp [toPys] at h
  | _ :: _, [], _, _, _, _, h => by simp [toPys] at h
  | d :: ds, e :: es, hd, he, hc, hc2, h => by
    simp only [toPys, List.cons.injEq] at h
    simp only [dataDs, cleans, Bool.and_eq_true] at hd he hc hc2
    rw [toPy_inj hd.1 he.1 hc.1 hc2.1 h.1, toPys_inj hd.2 he.2 hc.2 hc2.2 h.2]
end
theorem toPys_map : ∀ ds : List D, toPys ds = ds.map toPy
  | [] => by simp [toPys]
  | d :: ds => by simp [toPys, toPys_map ds]
def ltD (a b : D) : Bool := dataLt (toPy a) (toPy b)
def mnD (x : D) (xs : List D) : D := xs.foldl (fun a y => if ltD y a = true then y else a) x
def mxL (x : D) (xs : List D) : D := xs.foldl (fun a y => if ltD a y = true then y else a) x
theorem mn_toPy : ∀ (xs : List D) (x : D), toPy (mnD x xs) = minD (toPy x) (toPys xs)
  | [], x => by simp [mnD, minD, toPys]
  | y :: ys, x => by
    have h := mn_toPy ys (if ltD y x = true then y else x)
    rw [show toPy (if ltD y x = true then y else x) = if dataLt (toPy y) (toPy x) = true then toPy y else toPy x by unfold ltD; split <;> rfl] at h
    simp only [toPys]
    exact h
theorem mx_toPy : ∀ (xs : List D) (x : D), toPy (mxL x xs) = maxD (toPy x) (toPys xs)
  | [], x => by simp [mxL, maxD, toPys]
  | y :: ys, x => by
    have h := mx_toPy ys (if ltD x y = true then y else x)
    rw [show toPy (if ltD x y = true then y else x) = if dataLt (toPy x) (toPy y) = true then toPy y else toPy x by unfold ltD; split <;> rfl] at h
    simp only [toPys]
    exact h
theorem mn_mem : ∀ (xs : List D) (x : D), mnD x xs ∈ x :: xs
  | [], x => List.mem_cons_self
  | y :: ys, x => by
    have h := mn_mem ys (if ltD y x = true then y else x)
    show mnD (if ltD y x = true then y else x) ys ∈ x :: y :: ys
    rcases List.mem_cons.mp h with e | e
    · rw [e]
      split
      · exact List.mem_cons_of_mem _ List.mem_cons_self
      · exact List.mem_cons_self
    · exact List.mem_cons_of_mem _ (List.mem_cons_of_mem _ e)
theorem mx_mem : ∀ (xs : List D) (x : D), mxL x xs ∈ x :: xs
  | [], x => List.mem_cons_self
  | y :: ys, x => by
    have h := mx_mem ys (if ltD x y = true then y else x)
    show mxL (if ltD x y = true then y else x) ys ∈ x :: y :: ys
    rcases List.mem_cons.mp h with e | e
    · rw [e]
      split
      · exact List.mem_cons_of_mem _ List.mem_cons_self
      · exact List.mem_cons_self
    · exact List.mem_cons_of_mem _ (List.mem_cons_of_mem _ e)
def isNone : PyData → Bool
  | .none => true
  | _ => false
/-- clean data that can be put in order -/
def ordOk (ds : List D) : Bool := dataDs ds && cleans ds && ((ds.all fun a => ds.all fun b => alike (toPy a) (toPy b)) && (ds.all fun a => !isNone (toPy a)) && decide (PyData.depthAll (toPys ds) ≤ 50))
theorem ordOk_parts {ds : List D} (h : ordOk ds = true) : dataDs ds = true ∧ cleans ds = true ∧ AlikeAll (toPys ds) ∧ PyData.depthAll (toPys ds) ≤ 50 := by
  unfold ordOk at h
  simp only [Bool.and_eq_true, List.all_eq_true, decide_eq_true_eq, Bool.not_eq_true'] at h
  obtain ⟨⟨h1, h2⟩, ⟨h3, h4⟩, h5⟩ := h
  refine ⟨h1, h2, ⟨fun x hx y hy => ?_, fun x hx e => ?_⟩, h5⟩
  · rw [toPys_map] at hx hy
    obtain ⟨a, ha, rfl⟩ := List.mem_map.mp hx
    obtain ⟨b, hb, rfl⟩ := List.mem_map.mp hy
    exact h3 a ha b hb
  · rw [toPys_map] at hx
    obtain ⟨a, ha, rfl⟩ := List.mem_map.mp hx
    have := h4 a ha
    rw [e] at this
    cases this
theorem dataDs_at : ∀ {ds : List D} {d : D}, dataDs ds = true → d ∈ ds → dataD d = true
  | d :: ds, e, h, hm => by
    simp only [dataDs, Bool.and_eq_true] at h
    rcases List.mem_cons.mp hm with rfl | hm
    · exact h.1
    · exact dataDs_at h.2 hm
theorem cleans_at : ∀ {ds : List D} {d : D}, cleans ds = true → d ∈ ds → clean d = true
  | d :: ds, e, h, hm => by
    simp only [cleans, Bool.and_eq_true] at h
    rcases List.mem_cons.mp hm with rfl | hm
    · exact h.1
    · exact cleans_at h.2 hm
theorem rds_at {h : Heap} : ∀ {ds : List D} {us : List Value} {i : Nat} {u : Value}, RdDs h ds us → us[i]? = some u → ∃ d, ds[i]? = some d ∧ RdD h d u
  | [], _, i, u, r, e => by rw [show _ = _ from r] at e; simp at e
  | d :: ds, _, 0, u, ⟨v, vr, rfl, r1, r2⟩, e => by simp at e; subst e; exact ⟨d, rfl, r1⟩
  | d :: ds, _, i + 1, u, ⟨v, vr, rfl, r1, r2⟩, e => by
    simp only [List.getElem?_cons_succ] at e
    obtain ⟨x, h1, h2⟩ := rds_at r2 e
    exact ⟨x, h1, h2⟩
theorem vals_at : ∀ {vs : List V} {us : List Value} {i : Nat} {u : Value}, Vals vs us → us[i]? = some u → ∃ v, vs[i]? = some v ∧ RelV v u
  | _, _, i, u, .nil, e => by simp at e
  | _, _, 0, u, .cons r1 r2, e => by simp at e; subst e; exact ⟨_, rfl, r1⟩
  | _, _, i + 1, u, .cons r1 r2, e => by
    simp only [List.getElem?_cons_succ] at e
    obtain ⟨x, h1, h2⟩ := vals_at r2 e
    exact ⟨x, h1, h2⟩
theorem repsE_at {g : Cfg} {G : Fp} {H : Hp} : ∀ {ds : List D} {vs : List V} {i : Nat} {v : V}, Reps g G H ds vs Fe → vs[i]? = some v → ∃ d, ds[i]? = some d ∧ Rep g G H d v Fe
  | [], _, i, v, r, e => by rw [show _ = _ from r] at e; simp at e
  | d :: ds, _, 0, v, ⟨w, vr, A, B, rfl, l1, l2, dj, r1, r2⟩, e => by simp at e; subst e; exact ⟨d, rfl, r1.le l1⟩
  | d :: ds, _, i + 1, v, ⟨w, vr, A, B, rfl, l1, l2, dj, r1, r2⟩, e => by
    simp only [List.getElem?_cons_succ] at e
    obtain ⟨x, h1, h2⟩ := repsE_at (r2.le l2) e
    exact ⟨x, h1, h2⟩
def kMnL : List D → Option D
  | [.lst _ (x :: xs)] => if ordOk (x :: xs) = true then some (mnD x xs) else none
  | _ => none
def kMxL : List D → Option D
  | [.lst _ (x :: xs)] => if ordOk (x :: xs) = true then some (mxL x xs) else none
  | _ => none
def kSrt : List D → Option D
  | [.lst _ ds] => if ordOk ds = true ∧ (ds.all fun d => match d with | .tup [] => false | _ => true) = true ∧ ds.length ≤ 100000 then some (.lst true (ds.mergeSort (dataLe false toPy))) else none
  | _ => none
def rMnL (g : Cfg) : List V → Hp → VK → Prop := fun xs H Q => ∃ (G : Fp) (o : Bool) (x : D) (es : List D) (A : Fp) (p : Addr) (vs : List V), xs = [.ref p] ∧ Rep g G H (.lst o (x :: es)) (.ref p) A ∧ H p = some (.lst vs) ∧ Reps g G H (x :: es) vs Fe ∧ ordOk (x :: es) = true ∧ ∀ (i : Nat) (w : V), vs[i]? = some w → (x :: es)[i]? = some (mnD x es) → Q w H
def rMxL (g : Cfg) : List V → Hp → VK → Prop := fun xs H Q => ∃ (G : Fp) (o : Bool) (x : D) (es : List D) (A : Fp) (p : Addr) (vs : List V), xs = [.ref p] ∧ Rep g G H (.lst o (x :: es)) (.ref p) A ∧ H p = some (.lst vs) ∧ Reps g G H (x :: es) vs Fe ∧ ordOk (x :: es) = true ∧ ∀ (i : Nat) (w : V), vs[i]? = some w → (x :: es)[i]? = some (mxL x es) → Q w H
section
variable {g : Cfg} {X : Cx} {k : Nat}
theorem call_mnL (hK : X.K = g.K) (hr : Room k X.A) (hc : X.calm = true) : CallR X (.builtin "min") (rMnL g) := by
  intro pins s σ H xs us Q I r h
  obtain ⟨G, o, x, es, A, p, vs, rfl, rep, hp, rs, ok, q⟩ := h
  obtain ⟨u, rfl, rx⟩ := vals1 r
  obtain rfl : u = Value.ref p := rx
  obtain ⟨h1, h2, h3, h4⟩ := ordOk_parts ok
  obtain ⟨its, rv, pl, hz⟩ := I.list (.inl (.inl hp))
  have rd := reps_rd hK I rs rv h1
  obtain ⟨as, ra⟩ := rds_reads rd h1
  have un := hr.un
  have ra2 : ReadsAll s.heap its.toArray.toList (toPy x :: toPys es) as := by rw [toPys] at ra; exact ra
  refine min_list_data (I.ok.hd hc) pl.isList ra2 (by rw [toPys] at h3; exact h3) (by rw [toPys] at h4; omega) fun i v h' tk bs hi hread kp => ?_
  have hi : its[i]? = some v := by simpa using hi
  obtain ⟨w, hw, rw_⟩ := vals_at rv hi
  obtain ⟨d, hd, rd1⟩ := rds_at rd hi
  refine ⟨w, H, I.kept kp, rw_, q i w hw ?_⟩
  have hdm := List.mem_of_getElem? hd
  obtain ⟨cs, rr⟩ := rd_reads rd1 (dataDs_at h1 hdm)
  have rr2 := PyProof.Rows.Reads.keeps kp rr
  rw [← mn_toPy] at hread
  have hm := mn_mem es x
  have al : alike (toPy d) (toPy (mnD x es)) = true := h3.1 _ (by rw [toPys_map]; exact List.mem_map.mpr ⟨d, hdm, rfl⟩) _ (by rw [toPys_map]; exact List.mem_map.mpr ⟨_, hm, rfl⟩)
  have e := PySem.W.alike_unique _ _ _ _ _ al rr2 hread
  rw [hd, toPy_inj (dataDs_at h1 hdm) (dataDs_at h1 hm) (cleans_at h2 hdm) (cleans_at h2 hm) e]
theorem call_mxL (hK : X.K = g.K) (hr : Room k X.A) (hc : X.calm = true) : CallR X (.builtin "max") (rMxL g) := by
  intro pins s σ H xs us Q I r h
  obtain ⟨G, o, x, es, A, p, vs, rfl, rep, hp, rs, ok, q⟩ := h
  obtain ⟨u, rfl, rx⟩ := vals1 r
  obtain rfl : u = Value.ref p := rx
  obtain ⟨h1, h2, h3, h4⟩ := ordOk_parts ok
  obtain ⟨its, rv, pl, hz⟩ := I.list (.inl (.inl hp))
  have rd := reps_rd hK I rs rv h1
  obtain ⟨as, ra⟩ := rds_reads rd h1
  have un := hr.un
  have ra2 : ReadsAll s.heap its.toArray.toList (toPy x :: toPys es) as := by rw [toPys] at ra; exact ra
  refine max_list_data (I.ok.hd hc) pl.isList ra2 (by rw [toPys] at h3; exact h3) (by rw [toPys] at h4; omega) fun i v h' tk bs hi hread kp => ?_
  have hi : its[i]? = some v := by simpa using hi
  obtain ⟨w, hw, rw_⟩ := vals_at rv hi
  obtain ⟨d, hd, rd1⟩ := rds_at rd hi
  refine ⟨w, H, I.kept kp, rw_, q i w hw ?_⟩
  have hdm := List.mem_of_getElem? hd
  obtain ⟨cs, rr⟩ := rd_reads rd1 (dataDs_at h1 hdm)
  have rr2 := PyProof.Rows.Reads.keeps kp rr
  rw [← mx_toPy] at hread
  have hm := mx_mem es x
  have al : alike (toPy d) (toPy (mxL x es)) = true := h3.1 _ (by rw [toPys_map]; exact List.mem_map.mpr ⟨d, hdm, rfl⟩) _ (by rw [toPys_map]; exact List.mem_map.mpr ⟨_, hm, rfl⟩)
  have e := PySem.W.alike_unique _ _ _ _ _ al rr2 hread
  rw [hd, toPy_inj (dataDs_at h1 hdm) (dataDs_at h1 hm) (cleans_at h2 hdm) (cleans_at h2 hm) e]
theorem ins_mnL : Ins g kMnL (rMnL g) := by
  intro G H ds vs d Q b e fin
  match ds, e, b with
  | [.lst o (x :: es)], e, b =>
    obtain ⟨v, A, rfl, r⟩ := bor1 b
    simp only [kMnL] at e
    split at e
    · rename_i c
      cases e
      obtain ⟨p, us, rfl, hp, rs⟩ := lst_tr r
      have rs2 := rs.clean (ordOk_parts c).2.1
      refine ⟨G, o, x, es, A, p, us, rfl, r, hp, rs2, c, fun i w hw hi => ?_⟩
      obtain ⟨d, hd, rd⟩ := repsE_at rs2 hw
      rw [hd] at hi
      cases hi
      exact fin0 fin rd
    · cases e
theorem ins_mxL : Ins g kMxL (rMxL g) := by
  intro G H ds vs d Q b e fin
  match ds, e, b with
  | [.lst o (x :: es)], e, b =>
    obtain ⟨v, A, rfl, r⟩ := bor1 b
    simp only [kMxL] at e
    split at e
    · rename_i c
      cases e
      obtain ⟨p, us, rfl, hp, rs⟩ := lst_tr r
      have rs2 := rs.clean (ordOk_parts c).2.1
      refine ⟨G, o, x, es, A, p, us, rfl, r, hp, rs2, c, fun i w hw hi => ?_⟩
      obtain ⟨d, hd, rd⟩ := repsE_at rs2 hw
      rw [hd] at hi
      cases hi
      exact fin0 fin rd
    · cases e
/-! sorted -/
def pairs (ds : List D) (vs : List V) : List (D × V) := ds.zip vs
def srtP (ds : List D) (vs : List V) : List (D × V) := (ds.zip vs).mergeSort (dataLe false fun b : D × V => toPy b.1)
def rSrt (g : Cfg) : List V → Hp → VK → Prop := fun xs H Q => ∃ (G : Fp) (o : Bool) (ds : List D) (A : Fp) (p : Addr) (vs : List V), xs = [.ref p] ∧ Rep g G H (.lst o ds) (.ref p) A ∧ H p = some (.lst vs) ∧ Reps g G H ds vs Fe ∧ ordOk ds = true ∧
  (ds.all fun d => match d with | .tup [] => false | _ => true) = true ∧ ds.length ≤ 100000 ∧ ∀ q, H q = none → Q (.ref q) (upd H q (.lst ((srtP ds vs).map (·.2))))
theorem each_zip {h : Heap} : ∀ {ds : List D} {vs : List V} {us : List Value}, Vals vs us → RdDs h ds us → dataDs ds = true → PySem.W.EachIs (fun (u : Value) (b : D × V) => RelV b.2 u) us (ds.zip vs) ∧ PySem.W.EachIs (fun (u : Value) (b : D × V) => ∃ as, Reads h u (toPy b.1) as) us (ds.zip vs)
  | [], vs, us, rv, rd, _ => by
    rw [show us = [] from rd]
    exact ⟨.nil, .nil⟩
  | d :: ds, vs, us, rv, ⟨u, ur, e, r1, r2⟩, hd => by
    subst e
    cases rv with
    | cons a b =>
      simp only [dataDs, Bool.and_eq_true] at hd
      obtain ⟨h1, h2⟩ := each_zip b r2 hd.2
      obtain ⟨as, ra⟩ := rd_reads r1 hd.1
      exact ⟨.cons a h1, .cons ⟨as, ra⟩ h2⟩
theorem vals_each : ∀ {us : List Value} {bs : List (D × V)}, PySem.W.EachIs (fun (u : Value) (b : D × V) => RelV b.2 u) us bs → Vals (bs.map (·.2)) us
  | _, _, .nil => .nil
  | _, _, .cons h t => .cons h (vals_each t)
theorem zip_fst : ∀ {ds : List D} {vs : List V}, ds.length = vs.length → (ds.zip vs).map (·.1) = ds
  | [], [], _ => rfl
  | d :: ds, v :: vs, h => by simp only [List.zip_cons_cons, List.map_cons]; rw [zip_fst (by simpa using h)]
theorem all_depth {ds : List D} {d : D} (hd : d ∈ ds) : (toPy d).depth ≤ PyData.depthAll (toPys ds) := by
  induction ds with
  | nil => cases hd
  | cons x xs ih =>
    simp only [toPys, PyData.depthAll]
    rcases List.mem_cons.mp hd with rfl | h
    · exact Nat.le_max_left _ _
    · exact Nat.le_trans (ih h) (Nat.le_max_right _ _)
theorem call_srt (hK : X.K = g.K) (hr : Room k X.A) : CallR X (.builtin "sorted") (rSrt g) := by
  intro pins s σ H xs us Q I r h
  obtain ⟨G, o, ds, A, p, vs, rfl, rep, hp, rs, ok, nt, hl, q⟩ := h
  obtain ⟨u, rfl, rx⟩ := vals1 r
  obtain rfl : u = Value.ref p := rx
  obtain ⟨h1, h2, h3, h4⟩ := ordOk_parts ok
  obtain ⟨its, rv, pl, hz⟩ := I.list (.inl (.inl hp))
  have rd := reps_rd hK I rs rv h1
  have un := hr.un
  obtain ⟨e1, e2⟩ := each_zip rv rd h1
  have hlen : ds.length = vs.length := rs.length.symm
  have hm : (ds.zip vs).map (fun b : D × V => toPy b.1) = toPys ds := by
    have e := congrArg (List.map toPy) (zip_fst hlen)
    rw [List.map_map] at e
    rw [toPys_map]
    exact e
  refine PySem.W.sorted_data (enc := fun b : D × V => toPy b.1) pl.isList e1 e2 (by rw [hm]; exact fun d hd d' hd' => h3.1 d hd d' hd') ?_ ?_ ?_ fun out ho eo => ?_
  · rw [hm]
    by_cases ht : ∃ d ∈ ds, ∃ xs, toPy d = .tuple xs
    · refine .inl fun d hd => ?_
      obtain ⟨a, ha, xs, ea⟩ := ht
      have hal := h3.1 (toPy a) (by rw [toPys_map]; exact List.mem_map.mpr ⟨a, ha, rfl⟩) d hd
      rw [toPys_map] at hd
      obtain ⟨b, hb, rfl⟩ := List.mem_map.mp hd
      rw [ea] at hal
      have hb2 := List.all_eq_true.mp nt b hb
      cases b with
      | tup ys =>
        cases ys with
        | nil => simp at hb2
        | cons y ys => exact ⟨toPy y, toPys ys, by simp [toPy, toPys]⟩
      | _ => simp [toPy, alike] at hal
    · refine .inr fun d hd => ⟨h3.2 d hd, fun xs e => ht ?_⟩
      rw [toPys_map] at hd
      obtain ⟨b, hb, rfl⟩ := List.mem_map.mp hd
      exact ⟨b, hb, xs, e⟩
  · rw [List.length_zip, ← hlen, Nat.min_self]
    exact Nat.le_trans hl (by decide)
  · intro b hb
    have := all_depth (List.of_mem_zip hb).1
    omega
  · obtain ⟨ep, he'⟩ := PyProof.Rows.sortedAll_at s.heap its out.toArray
    have hv := vals_each eo
    have hs : (srtP ds vs).length = ds.length := by
      unfold srtP
      rw [List.length_mergeSort, List.length_zip, ← hlen, Nat.min_self]
    exact ⟨.ref _, upd H (s.heap.objs.size + 1) (.lst ((srtP ds vs).map (·.2))), I.laid (t' := s.toks) (fun _ _ => PyProof.Rows.sortedAll_old) (Nat.le_succ _) ⟨by rw [List.length_map, hs]; exact Nat.le_trans hl (by decide), out, ep, hv, he'⟩, rfl, q _ (I.hok.fresh (Nat.le_succ _))⟩
theorem reps_pairs {G : Fp} {H : Hp} : ∀ {ps : List (D × V)}, (∀ p ∈ ps, Rep g G H p.1 p.2 Fe) → Reps g G H (ps.map (·.1)) (ps.map (·.2)) Fe
  | [], _ => rfl
  | p :: ps, h => ⟨_, _, Fe, Fe, rfl, Le.refl _, Le.refl _, fun _ z _ => z, h p List.mem_cons_self, reps_pairs fun x hx => h x (List.mem_cons_of_mem _ hx)⟩
theorem reps_zip {G : Fp} {H : Hp} : ∀ {ds : List D} {vs : List V}, Reps g G H ds vs Fe → ∀ p ∈ ds.zip vs, Rep g G H p.1 p.2 Fe
  | [], _, _, p, hp => by simp at hp
  | d :: ds, _, ⟨w, vr, A, B, e, l1, l2, dj, r1, r2⟩, p, hp => by
    subst e
    rcases List.mem_cons.mp hp with rfl | h
    · exact r1.le l1
    · exact reps_zip (r2.le l2) p h
theorem srtP_fst {ds : List D} {vs : List V} (h : ds.length = vs.length) : (srtP ds vs).map (·.1) = ds.mergeSort (dataLe false toPy) := by
  unfold srtP
  have e := List.map_mergeSort (r := dataLe false fun b : D × V => toPy b.1) (s := dataLe false toPy) (f := fun b : D × V => b.1) (l := ds.zip vs) (fun a _ b _ => rfl)
  rw [zip_fst h] at e
  exact e
theorem ins_srt : Ins g kSrt (rSrt g) := by
  intro G H ds vs d Q b e fin
  match ds, e, b with
  | [.lst o es], e, b =>
    obtain ⟨v, A, rfl, r⟩ := bor1 b
    simp only [kSrt] at e
    split at e
    · rename_i c
      cases e
      obtain ⟨p, us, rfl, hp, rs⟩ := lst_tr r
      have rs2 := rs.clean (ordOk_parts c.1).2.1
      refine ⟨G, o, es, A, p, us, rfl, r, hp, rs2, c.1, c.2.1, c.2.2, finL fin ?_⟩
      rw [← srtP_fst rs2.length.symm]
      refine reps_pairs fun p hp => reps_zip rs2 p ?_
      unfold srtP at hp
      exact (List.mergeSort_perm _ _).mem_iff.mp hp
    · cases e
end
/-! ### insert -/
def kInsert : D → List D → Option (D × D)
  | .lst true ds, [.int i, d] => if (cleans ds && clean d) = true ∧ 0 ≤ i ∧ i < 2 ^ 62 ∧ ds.length < 100000 then some (.non, .lst true (ds.take i.toNat ++ [d] ++ ds.drop i.toNat)) else none
  | _, _ => none
def rInsert : V → List V → Hp → VK → Prop := fun x vs H Q => ∃ (l : Addr) (xs : List V) (i : Int) (y : V), x = .ref l ∧ vs = [.int i, y] ∧ H l = some (.lst xs) ∧ xs.length < sizeLine ∧ 0 ≤ i ∧ i < 2 ^ 63 ∧
    Q .non (upd H l (.lst (xs.take i.toNat ++ [y] ++ xs.drop i.toNat)))
section
variable {g : Cfg}
theorem Reps.takeE {G : Fp} {H : Hp} : ∀ {ds : List D} {vs : List V} (n : Nat), Reps g G H ds vs Fe → Reps g G H (ds.take n) (vs.take n) Fe ∧ Reps g G H (ds.drop n) (vs.drop n) Fe
  | [], vs, n, r => by
    rw [show vs = [] from r]
    simp only [List.take_nil, List.drop_nil]
    exact ⟨rfl, rfl⟩
  | d :: ds, vs, 0, r => ⟨rfl, r⟩
  | d :: ds, _, n + 1, ⟨w, vr, A, B, e, l1, l2, dj, r1, r2⟩ => by
    subst e
    obtain ⟨h1, h2⟩ := Reps.takeE n (r2.le l2)
    exact ⟨⟨w, _, Fe, Fe, rfl, Le.refl _, Le.refl _, fun _ z _ => z, r1.le l1, h1⟩, h2⟩
theorem insM_insert : InsM g kInsert rInsert := by
  intro G H d ds v vs F Fv res d' Q r o rs ov dj e fin
  match d, ds, e, r, rs with
  | .lst true es, [.int i, x], e, r, rs =>
    simp only [kInsert] at e
    split at e
    · rename_i c
      cases e
      obtain ⟨c0, c1, c2, c3⟩ := c
      rw [Bool.and_eq_true] at c0
      obtain ⟨a, us, F', rfl, ha, Fa, n, rr⟩ := lst_own r
      have rr := rr.clean c0.1
      obtain ⟨y0, yr0, A0, B0, rfl, _, l20, _, ry0, e20⟩ := rs
      obtain ⟨y, yr, A, B, rfl, l1, l2, dj0, ry, e2⟩ := e20
      cases (show yr = [] from e2)
      cases (show y0 = .int i from ry0)
      have ry := Rep.clean ry c0.2
      obtain ⟨t1, t2⟩ := Reps.takeE i.toNat rr
      have r1 : Reps g G H [x] [y] Fe := ⟨y, [], Fe, Fe, rfl, Le.refl _, Le.refl _, fun _ z _ => z, ry, rfl⟩
      have rn : Reps g G H (es.take i.toNat ++ [x] ++ es.drop i.toNat) (us.take i.toNat ++ [y] ++ us.drop i.toNat) Fe := (t1.app r1).app t2
      obtain ⟨k1, k2, k3⟩ := lst_chg (g := g) (Fi := Fe) ha Fa o (fun b h => h.elim) rn
      refine ⟨a, us, i, y, rfl, rfl, ha, by rw [rr.length]; exact Nat.lt_of_lt_of_le c3 (by decide), c1, by omega, fin .non _ _ Fe k1 k2 rfl k3 (fun _ z => z.elim) (fun _ _ z => z) fun b h => ?_⟩
      rcases h with h | h
      · rcases h with h | h
        · exact h.elim
        · exact .inl (by rw [h]; exact Fa)
      · exact h.elim
    · cases e
end
end DV

namespace DV
open PySem L2
/-! ### a call that only looks: all it gets is let go of while it runs; what it tells is no thing -/
mutual
/-- nothing of it stands for good: what it has is its own -/
def freeD : D → Bool
  | .non => true
  | .bl _ => true
  | .int _ => true
  | .str _ => true
  | .tup ds => freeDs ds
  | .lst o ds => o && freeDs ds
  | _ => false
def freeDs : List D → Bool
  | [] => true
  | d :: ds => freeD d && freeDs ds
end
def frzA (ds : List D) : List Arg := ds.map fun d => ⟨freeze d, none⟩
def peekF (fn : Fn) (n : Nat) (src : List Sr) (dv : List D) (ds : List D) (δ : Env) : R D := match permA n dv (frzA ds) src with
  | some ps => match fn (argE ps) with
    | .ok d _ => if freeD d = true then .ok d δ else .bad
    | _ => .bad
  | none => .bad
def peekE (fn : Fn) (n : Nat) (src : List Sr) (dv : List D) (os : List Od) : Ev := fun δ => (evOds os δ).bind fun xs δ1 => match resL δ1 xs with
  | none => .bad
  | some ds => peekF fn n src dv ds δ1
section
variable {g : Cfg} {W : WX} {G G' G1 G2 : Fp} {H H' H1 H2 : Hp} {σ : St} {δ δ' δ1 : Env} {F F' F1 : Nat → Fp} {Q : VK}
mutual
theorem free_rep : ∀ {d : D} {v : V} {A : Fp}, freeD d = true → Rep g G H d v A → Rep g G1 H d v A
  | .non, _, _, _, r => r
  | .bl _, _, _, _, r => r
  | .int _, _, _, _, r => r
  | .str _, _, _, _, r => r
  | .tup ds, _, _, h, ⟨a, vs, e, q, rs⟩ => ⟨a, vs, e, q, frees_rep (by simpa only [freeD] using h) rs⟩
  | .lst true ds, _, _, h, ⟨a, vs, F1, e, q, n, rs⟩ => ⟨a, vs, F1, e, q, n, frees_rep (by simpa [freeD] using h) rs⟩
  | .lst false ds, _, _, h, _ => by simp [freeD] at h
  | .dct _ _ _, _, _, h, _ => by simp [freeD] at h
  | .dcT _ _ _, _, _, h, _ => by simp [freeD] at h
  | .ins _ _ _ _, _, _, h, _ => by simp [freeD] at h
  | .ty _, _, _, h, _ => by simp [freeD] at h
  | .scr _, _, _, h, _ => by simp [freeD] at h
theorem frees_rep : ∀ {ds : List D} {vs : List V} {A : Fp}, freeDs ds = true → Reps g G H ds vs A → Reps g G1 H ds vs A
  | [], _, _, _, r => r
  | d :: ds, _, _, h, ⟨v, vr, F1, F2, e, l1, l2, dj, r, rs⟩ => by
    simp only [freeDs, Bool.and_eq_true] at h
    exact ⟨v, vr, F1, F2, e, l1, l2, dj, free_rep h.1 r, frees_rep h.2 rs⟩
end
/-- what is handed on, all let go of -/
theorem frz_args (S : StR g G H σ δ F) {G2 : Fp} (hG : Le G G2) (hU : Le (U F) G2) : ∀ {xs : List OV} {vs : List V} {ds : List D} {Fv : Fp}, RepOs g G H σ xs vs Fv → Le Fv G2 → resL δ xs = some ds →
    ArgI g G2 H σ F Fe (frzA ds) vs fun _ => Fe
  | [], vs, ds, Fv, r, l, e => by
    cases e
    rw [show vs = [] from r]
    exact ⟨rfl, fun i a h => by simp [frzA] at h, fun _ _ _ _ z _ => z, fun _ _ z => z.elim, fun _ _ z => z.elim⟩
  | x :: xs, vs, ds, Fv, r, l, e => by
    unfold resL at e
    cases e1 : resO δ x with
    | none => rw [e1] at e; cases e
    | some d =>
      cases e2 : resL δ xs with
      | none => rw [e1, e2] at e; cases e
      | some ds' =>
        rw [e1, e2] at e
        cases e
        have key : ∃ v vr A Fv', vs = v :: vr ∧ Rep g G H d v A ∧ Le A G2 ∧ RepOs g G H σ xs vr Fv' ∧ Le Fv' G2 := by
          cases x with
          | tmp d' =>
            obtain ⟨v, vr, A, B, e3, l1, l2, dj, r1, rs⟩ := r
            cases e1
            exact ⟨v, vr, A, B, e3, r1, l1.trans l, rs, l2.trans l⟩
          | late i =>
            obtain ⟨v, vr, e3, h, rs⟩ := r
            obtain ⟨v', ev, r1⟩ := S.at_ i d e1
            rw [h] at ev
            cases ev
            exact ⟨v, vr, F i, Fv, e3, r1, fun a z => hU a ⟨i, z⟩, rs, l⟩
        obtain ⟨v, vr, A, Fv', rfl, r1, lA, rs, lr⟩ := key
        have B := frz_args S hG hU rs lr e2
        refine ⟨by rw [frzA, List.map_cons, List.length_cons, List.length_cons]; exact congrArg (· + 1) B.len, fun i a h => ?_, fun _ _ _ _ z _ => z, fun _ _ z => z.elim, fun _ _ z => z.elim⟩
        cases i with
        | zero =>
          simp only [frzA, List.map_cons, List.getElem?_cons_zero, Option.some.injEq] at h
          subst h
          exact ⟨v, rfl, r1.freeze lA hG, fun k z => nomatch z⟩
        | succ i => exact B.at_ i a (by simpa [frzA] using h)
theorem peekF_run {m n : Nat} {fn : Fn} {src : List Sr} {dv : List D} {dvV : List V} {xs : List OV} {vs zs : List V} {Fv : Fp} (hd : dv.map atomV = dvV.map some) (nd : (srIx n src).Nodup) (hm : src.length = m) (S1 : StR g G1 H1 σ δ1 F1)
    (rs : RepOs g G1 H1 σ xs (vs ++ zs) Fv) (ok : Ok G1 H1 Fv) (dj : Dj Fv (U F1)) (E1 : Ext G H (U F) G1 H1 (Un2 (U F1) Fv)) (hv : vs.length = n)
    (P : Post g W G H F σ (match resL δ1 xs with | none => .bad | some ds => peekF fn n src dv ds δ1) Q) : spF g m fn (pick V.non vs zs dvV src) H1 Q (fun c d H => W c d σ H) := by
  cases e : resL δ1 xs with
  | none => rw [e] at P; exact False.elim P
  | some ds =>
    rw [e] at P
    simp only [peekF] at P
    let G2 : Fp := fun a => G1 a ∨ Fv a ∨ U F1 a
    have A := frz_args S1 (G2 := G2) (fun a h => .inl h) (fun a h => .inr (.inr h)) rs (fun a h => .inr (.inl h)) e
    cases e2 : permA n dv (frzA ds) src with
    | none => rw [e2] at P; exact False.elim P
    | some ps =>
      rw [e2] at P
      obtain ⟨Fb, B, hb⟩ := perm_of A hv hd nd e2
      have gs : ∀ a, G2 a → H1 a ≠ none := fun a h => by
        rcases h with h | h | h
        · exact S1.gs a h
        · intro z; have := (ok a h).1; rw [z] at this; exact this
        · intro z; have := (S1.okU a h).1; rw [z] at this; exact this
      refine ⟨by rw [B.len]; exact (callF_run.permA_len e2).trans hm, G2, argE ps, Fb, B.str gs, ?_⟩
      simp only at P
      cases e3 : fn (argE ps) with
      | bad => rw [e3] at P; exact False.elim P
      | ex x ε => rw [e3] at P; exact False.elim P
      | ok d ε =>
        rw [e3] at P
        simp only at P
        by_cases hs : freeD d = true
        · rw [if_pos hs] at P
          intro H' G' F' S' v Fr r o djr E'
          have same : Same H1 H' := fun a ob h => E'.keep a ob h fun ⟨i, z⟩ => by
            obtain ⟨j, _, z⟩ := hb i a z
            exact z
          have le1 : Le G1 G' := fun a h => E'.gm a (.inl h)
          have lu : Le (U F1) G' := fun a h => E'.gm a (.inr (.inr h))
          have new : ∀ a, Fr a → H1 a = none := fun a h => by
            rcases E'.un a (.inr h) with ⟨i, z⟩ | z
            · obtain ⟨j, _, z⟩ := hb i a z
              exact z.elim
            · exact z
          exact P H' G1 F1 (S1.same same) v Fr (free_rep hs r) (fun a h => ⟨(o a h).1, fun z => (o a h).2 (le1 a z)⟩) (fun a h z => (o a h).2 (lu a z)) (E1.trans (.new (Fv := Fr) (U1 := U F1) same (Le.refl _) new) Le.inl)
        · rw [if_neg hs] at P; exact False.elim P
theorem peek_read {m n : Nat} {fn : Fn} {src : List Sr} {dv : List D} {dvV : List V} {os1 os2 : List Od} (hd : dv.map atomV = dvV.map some) (nd : (srIx n src).Nodup) (hm : src.length = m) (hn : os1.length = n) (S : StR g G H σ δ F)
    (P : Post g W G H F σ (peekE fn n src dv (os1 ++ os2) δ) Q) : tOs g W os1 σ H fun vs H1 => tOs g W os2 σ H1 fun zs H2 => vs.length = n ∧ zs.length = os2.length ∧ spF g m fn (pick V.non vs zs dvV src) H2 Q (fun c d H => W c d σ H) := by
  have h0 : tOs g W (os1 ++ os2) σ H fun ws H2 => ∀ vs zs, ws = vs ++ zs → vs.length = n → spF g m fn (pick V.non vs zs dvV src) H2 Q (fun c d H => W c d σ H) :=
    ods_run S (PostG.mono (PostG.bind P) fun xs δ1 H1 G1 F1 S1 P1 ws Fv rs ok dj E1 vs zs e hv => peekF_run hd nd hm S1 (by rw [← e]; exact rs) ok dj E1 hv P1)
  have h1 := tOs_len (tOs_append h0)
  refine tOs_mono (fun vs H1 ⟨q1, q2⟩ => ?_) h1
  have q3 := tOs_len q2
  exact tOs_mono (fun zs H2 ⟨q4, q5⟩ => ⟨q1.trans hn, q4, q5 vs zs rfl (q1.trans hn)⟩) q3
end
section
variable {X : Cx} {g : Cfg} {W : WX} {k m n c : Nat} {f C : Addr} {fd : FuncData} {ps ks : List Str} {sp : Sp} {x name : Str} {p pos apos kpos : Pos} {e o : Expr} {es : List Expr} {kws : List Keyword} {os1 os2 : List Od} {o0 : Od} {src : List Sr} {dv : List D} {dvV : List V} {fn : Fn}
theorem se_peek (F : Fo X g k m f fd ps fn) (hr : Room k X.A) (tk : Takes X W) (hg : Gl X x) (hm : X.mg x = some (.ref f)) (hk : PySem.W.keepIn X.K (.ref f) = true) (hb : Bd X.K fd ps ks n m src dv dvV) (ha : SOs X g W (e :: es) os1) (hkw : SKs X g W kws os2) (hn : (e :: es).length = n) (h2 : kws.length = ks.length)
    (hall : (backToKw pos (keywordEach kws X.env)).all (·.1.isSome) = true := by rfl) (hks : (backToKw pos (keywordEach kws X.env)).filterMap (·.1) = ks := by rfl) (hdb : (x == ("__debug__" : Str)) = false := by decide)
    (he : starEach (e :: es) X.env = (false, eval e X.env) :: starEach es X.env := by rfl) (hpl : ((backTo pos (starEach (e :: es) X.env)).any (·.1) || (backToKw pos (keywordEach kws X.env)).any (·.1.isNone)) = false := by rfl) :
    SE X g W (.Call (.Name x p) (e :: es) kws pos) (peekE fn n src dv (os1 ++ os2)) := by
  obtain ⟨its, kb⟩ := hb.kb
  refine ⟨fun pins s σ H Q I ⟨G, δ, F', S, P⟩ => ?_⟩
  have h := peek_read hb.dv hb.nd hb.len (ha.len.trans hn) S P
  refine wpAny_Call_Name_kw (ld_glob I hg hm ?_ hdb)
  refine PySem.W.callWith_KW (h₀ := X.base) I.ok.mod.kin hk hall (thn (ha.pa.run pos pins s σ H _ I h) fun us s1 ⟨vs, H1, I1, r, q⟩ => ?_) hpl he
  refine thn (hkw.pk.run pos pins s1 σ H1 _ I1 q) fun ws s2 ⟨zs, H2, I2, rz, l1, l2, q2⟩ => ⟨I2.kIn, ?_⟩
  rw [hks]
  exact run_fnNS F hr kb (passAt tk σ) I2 r rz l1 (l2.trans (hkw.len.trans h2)) q2
end
/-! how it is run -/
def peekK (fn : Fn) (n : Nat) (src : List Sr) (dv : List D) (Q : R D → Prop) : R (List OV) → Prop
  | .ok xs δ => peek2 fn n src dv (resL δ xs) δ Q
  | .ex x δ => Q (.ex x δ)
  | .bad => Q .bad
where
  peek2 (fn : Fn) (n : Nat) (src : List Sr) (dv : List D) (ds : Option (List D)) (δ : Env) (Q : R D → Prop) : Prop := match ds with
    | some ds => peek3 fn (permA n dv (frzA ds) src) δ Q
    | none => Q .bad
  peek3 (fn : Fn) (ps : Option (List Arg)) (δ : Env) (Q : R D → Prop) : Prop := match ps with
    | some ps => wR (fn (argE ps)) (peekB δ Q)
    | none => Q .bad
  peekB (δ : Env) (Q : R D → Prop) : R D → Prop
    | .ok d ε => if freeD d = true then Q (.ok d δ) else Q .bad
    | _ => Q .bad
section
variable {δ ε : Env} {d : D} {fn : Fn} {n : Nat} {src : List Sr} {dv : List D} {os : List Od} {Q : R D → Prop}
theorem r_peek : wR (peekE fn n src dv os δ) Q = wO os δ (peekK fn n src dv Q) := by
  simp only [wR_eq, wO_eq]; unfold peekE
  cases evOds os δ with
  | bad => rfl
  | ex x y => rfl
  | ok xs δ1 =>
    simp only [R.bind_ok, peekK]
    cases resL δ1 xs with
    | none => rfl
    | some ds =>
      simp only [peekK.peek2, peekF]
      cases permA n dv (frzA ds) src with
      | none => rfl
      | some ps =>
        simp only [peekK.peek3, wR_eq]
        cases fn (argE ps) with
        | bad => rfl
        | ex x y => rfl
        | ok d ε =>
          simp only [peekK.peekB]
          by_cases h : freeD d = true
          · simp only [if_pos h]
          · simp only [if_neg h]
theorem r_peekk {xs : List OV} : peekK fn n src dv Q (.ok xs δ) = peekK.peek2 fn n src dv (resL δ xs) δ Q := rfl
theorem r_peek2 {ds : List D} : peekK.peek2 fn n src dv (some ds) δ Q = peekK.peek3 fn (permA n dv (frzA ds) src) δ Q := rfl
theorem r_peek3 {ps : List Arg} : peekK.peek3 fn (some ps) δ Q = wR (fn (argE ps)) (peekK.peekB δ Q) := rfl
theorem r_peekn : peekK.peekB δ Q (.ok .non ε) = Q (.ok .non δ) := by simp [peekK.peekB, freeD]
theorem r_peekb {b : Bool} : peekK.peekB δ Q (.ok (.bl b) ε) = Q (.ok (.bl b) δ) := by simp [peekK.peekB, freeD]
theorem r_peeki {i : Int} : peekK.peekB δ Q (.ok (.int i) ε) = Q (.ok (.int i) δ) := by simp [peekK.peekB, freeD]
theorem r_peeks {z : Str} : peekK.peekB δ Q (.ok (.str z) ε) = Q (.ok (.str z) δ) := by simp [peekK.peekB, freeD]
theorem r_peekt {ds : List D} : peekK.peekB δ Q (.ok (.tup ds) ε) = IfW (freeDs ds = true) (Q (.ok (.tup ds) δ)) (Q .bad) := by rw [ifW_eq]; by_cases h : freeDs ds = true <;> simp [peekK.peekB, freeD, h]
theorem r_peekl {ds : List D} : peekK.peekB δ Q (.ok (.lst true ds) ε) = IfW (freeDs ds = true) (Q (.ok (.lst true ds) δ)) (Q .bad) := by rw [ifW_eq]; by_cases h : freeDs ds = true <;> simp [peekK.peekB, freeD, h]
theorem r_fr0 : freeDs [] = true := rfl
theorem r_fr1 {ds : List D} : freeDs (d :: ds) = (freeD d && freeDs ds) := by rw [freeDs]
theorem r_frn : freeD .non = true := by rw [freeD]
theorem r_frb {b : Bool} : freeD (.bl b) = true := by rw [freeD]
theorem r_fri {i : Int} : freeD (.int i) = true := by rw [freeD]
theorem r_frs {z : Str} : freeD (.str z) = true := by rw [freeD]
theorem r_frt {ds : List D} : freeD (.tup ds) = freeDs ds := by rw [freeD]
theorem r_frl {ds : List D} : freeD (.lst true ds) = freeDs ds := by simp [freeD]
theorem freeDs_map {α : Type} {f : α → D} (h : ∀ a, freeD (f a) = true) : ∀ xs : List α, freeDs (xs.map f) = true
  | [] => rfl
  | x :: xs => by simp only [List.map_cons, freeDs, h x, freeDs_map h xs, Bool.and_self]
theorem r_frzA0 : frzA [] = [] := rfl
theorem r_frzA1 {ds : List D} : frzA (d :: ds) = ⟨freeze d, none⟩ :: frzA ds := rfl
end
end DV

namespace DV
open PySem L2
/-! ### set(xs) of a list of whole numbers, to be sorted -/
section
open PySem.Spec PyProof.Rows
abbrev bareSet (w : World) : Obj := { cls := .type "set", dict := none, data := .set #[] 0 (.fresh 0 0 (!w.params.followText "set-order")) }
variable {P : Program} {w : World} {A : Around} {E : Value → Shared → Prop} {s : Shared}
theorem call_setOfInts {l : Addr} {its : Array Value} (ns : List Int) {Q : Value → Shared → Prop} (hh : A.handled = none) (hl : s.heap.IsList l its) (hit : IntsAre its.toList ns) (hb : ns.length + 1 < scanBound)
    (done : ∀ (g : Heap) (tk c : Nat), SetR w g s.heap.objs.size (fun j => decide (j ∈ ns)) c → c ≤ ns.length → (∀ b o, s.heap.get? b = some o → g.get? b = some o) → Q (.ref s.heap.objs.size) { s with heap := g, toks := tk }) :
    wpAny (model P w) A (call (.type "set") [.ref l]) Q E s := by
  have many : its.size = ns.length := by have q := IntsAre.length hit; rwa [Array.length_toList] at q
  obtain ⟨c0, tl, hmro⟩ := F.called_set.mro
  have made := F.called_set.made; have hsub := F.called_set.sub
  refine wpAny_call (codeAny_of_tree (show wpAny _ _ (callAny (.type "set") _) _ _ _ from ?_))
  refine wpAny_pure ⟨Code.quiet_builtin _ (by decide +kernel), codeAny_builtin F.entry_type_call ?_⟩; rw [Around.under_plain (weight_type_call_type "set" [.ref l] []) rfl]
  have k1 := F.called_set.notType; have k2 := F.called_set.canCreate; have k3 := F.typeCall_set_1 (.ref l)
  (repeat (any_goals (first | assumption | wp_step)))
  refine codeAny_mono (code_set_led1 (.ref l) (E := E) (Q₁ := fun obj s₁ => obj = .ref s.heap.objs.size ∧ s₁ = { s with heap := s.heap.push (bareSet w) }) ⟨rfl, rfl⟩) fun r s₁ hr => ?_
  match r, hr with
  | .error e, hr => exact hr
  | .ok .next, hr => exact hr.elim
  | .ok .brk, hr => exact hr.elim
  | .ok .cont, hr => exact hr.elim
  | .ok (.ret obj), hr =>
    obtain ⟨rfl, rfl⟩ := hr
    have atS : (s.heap.push (bareSet w)).get? s.heap.objs.size = some (bareSet w) := Heap.get?_push_size _ rfl
    have tyS : Shared.TypeIs { s with heap := s.heap.push (bareSet w) } (.ref s.heap.objs.size) "set" := ⟨_, atS, rfl⟩
    have li := F.called_set.init.lookup; have bi := F.called_set.init.bind (.ref s.heap.objs.size)
    (repeat (any_goals (first | assumption | wp_step)))
    refine codeAny_mono (codeAny_call_builtin (R := wants (fun r s₂ => r = .none ∧ ∃ g tk c, s₂ = { s with heap := g, toks := tk } ∧ SetR w g s.heap.objs.size (fun j => decide (j ∈ ns)) c ∧ c ≤ ns.length ∧ (∀ b o, s.heap.get? b = some o → g.get? b = some o)) E)
      F.called_set.init.plain F.entry_set_init (check_set_init_1 tyS ?_)) fun r₂ s₂ hr₂ => ?_
    · obtain ⟨⟨oc, od, odata, osl⟩, hol, hcl, nl, hdl⟩ := hl
      simp only at hcl hdl; subst hcl; subst hdl
      have hol2 : (s.heap.push (bareSet w)).get? l = some { cls := .type "list", dict := od, data := .seq its nl, slots := osl } := Heap.get?_push_of_some _ hol
      have f1 := F.sub_list_set; have f2 := F.sub_list_frozenset
      have f3 : (Value.type "list" == Value.type "dict") = false := by decide
      have hl1 : (s.heap.push (bareSet w)).IsList l its := ⟨_, hol2, rfl, nl, rfl⟩
      unfold Builtin.«set.__init__» noKeywords Builtin.Frozenset.updateFrom
      generalize hPI : pyIter = PI; wp_walk; subst hPI
      refine wpAny_pyIter_list hl1 (wpAny_bind (wpAny_runValue ?_))
      have lt : l < s.heap.objs.size := Heap.lt_size hol
      have hh3 : A.in1.in1.in1.handled = none := by simp [hh]
      have ne1 : l ≠ (s.heap.push (bareSet w)).objs.size := by rw [Heap.size_push]; exact Nat.ne_of_lt (Nat.lt_succ_of_lt lt)
      have off : s.heap.objs.size ∉ [(s.heap.push (bareSet w)).objs.size, l] := by
        rw [Heap.size_push]; simp only [List.mem_cons, List.not_mem_nil, or_false, not_or]; exact ⟨Nat.ne_of_lt (Nat.lt_succ_self _), Nat.ne_of_gt lt⟩
      have val : ∀ (i : Nat) (v : Value), its[i]? = some v → ∃ k t, ns[i]? = some k ∧ v = .int k t := fun i v hv => by
        have hi : i < ns.length := by rw [← many]; exact (Array.getElem?_eq_some_iff.mp hv).1
        obtain ⟨t, e⟩ := PyProof.Rows.IntsAre.int_at hit i v (by rw [Array.getElem?_toList]; exact hv)
        exact ⟨ns[i], t, List.getElem?_eq_getElem hi, by rw [e, List.getD_eq_getElem?_getD, List.getElem?_eq_getElem hi] <;> rfl⟩
      refine set_update_ints ((Walks.list hh3 _ l ne1 its).toS) s.heap.objs.size off ns many hb val (its.size - 0) 0 _ (by omega) (Nat.zero_le _) ⟨⟨_, Heap.get?_push_size _ rfl, rfl, rfl⟩, (hl1.push _)⟩ ?h0 ?hR
      case h0 => exact ⟨0, Nat.le_refl 0, setR_new_at (Heap.get?_push_of_some _ atS)⟩
      case hR =>
        rintro ⟨g, g2, d2, tk, os2⟩ c hm hc hS
        have e1 : g2 = s.gens := hm.gens
        have e2 : d2 = s.drawn := hm.drawn
        have e3 : os2 = s.os := hm.os
        subst e1 e2 e3
        refine (show wpAny _ _ _ _ _ _ from wpAny_pure (show wpAny _ _ (ret Value.none) _ _ _ from ?_))
        rw [many] at hc
        refine wpAny_pure ⟨rfl, g, tk, c, rfl, hS, hc, fun b o e => hm.heap b o ?_ (Heap.get?_push_of_some _ (Heap.get?_push_of_some _ e))⟩
        have b0 : b < s.heap.objs.size := Heap.lt_size e
        simp only [List.mem_cons, List.not_mem_nil, or_false, not_or, Heap.size_push]
        exact ⟨Nat.ne_of_lt b0, Nat.ne_of_lt (Nat.lt_succ_of_lt b0)⟩
    · match r₂, hr₂ with
      | .error e, hr₂ => exact hr₂
      | .ok .next, hr₂ => exact hr₂.elim
      | .ok .brk, hr₂ => exact hr₂.elim
      | .ok .cont, hr₂ => exact hr₂.elim
      | .ok (.ret r), hr₂ =>
        obtain ⟨rfl, g, tk, c, rfl, hS, hc, hk⟩ := hr₂
        (repeat (any_goals (first | assumption | wp_step)))
        exact done _ _ _ hS hc hk
end
def rSetOfL (K : PySem.W.Frag) (w : World) : List V → Hp → VK → Prop := fun xs H Q => ∃ (l : Addr) (ns : List Int), xs = [V.ref l] ∧ SqL K H l (ns.map V.int) ∧ ns.length ≤ 1000 ∧
  ∀ (p : Addr) (c : Nat), H p = none → c ≤ ns.length → Q (.ref p) (upd H p (SetO w p (fun j => decide (j ∈ ns)) c))
theorem cr_setOfL {X : Cx} (hc : X.calm = true) : CallR X (.type "set") (rSetOfL X.K X.w) := by
  intro pins s σ H xs us Q I r h
  obtain ⟨l, ns, rfl, hq, hl, q⟩ := h
  obtain ⟨its, rv, pl, hz⟩ := I.list hq
  rw [Vals.ref1 r]
  refine call_setOfInts ns (I.ok.hd hc) pl.isList (by simpa using rv.ints) (by unfold scanBound; omega) fun g tk c hS hc2 hk => ?_
  have hn : H s.heap.objs.size = none := I.hok.fresh (Nat.le_refl _)
  have J : Inv X pins σ (upd H s.heap.objs.size (SetO X.w s.heap.objs.size (fun j => decide (j ∈ ns)) c)) { s with heap := g, toks := tk } :=
    I.call (ch := []) (Un.laid hk (Nat.le_refl _) hn) (I.hok.laid hk (Nat.le_refl _) (setO_new hS)) I.bare (fun _ z => nomatch z)
  exact ⟨.ref s.heap.objs.size, _, J, rfl, q _ c hn hc2⟩

/-! ### sorted(set(xs)), len(set(xs)) of whole numbers -/
def insI (x : Int) : List Int → List Int
  | [] => [x]
  | y :: ys => if x < y then x :: y :: ys else if x = y then y :: ys else y :: insI x ys
def srtI (ns : List Int) : List Int := ns.foldr insI []
theorem insI_mem {x : Int} : ∀ {ys : List Int} {z : Int}, z ∈ insI x ys ↔ z = x ∨ z ∈ ys
  | [], z => by simp [insI]
  | y :: ys, z => by
    unfold insI
    split
    · simp
    · split
      · rename_i h; subst h; simp
      · simp only [List.mem_cons, insI_mem (ys := ys)]
        constructor
        · rintro (h | h | h)
          · exact .inr (.inl h)
          · exact .inl h
          · exact .inr (.inr h)
        · rintro (h | h | h)
          · exact .inr (.inl h)
          · exact .inl h
          · exact .inr (.inr h)
theorem insI_up {x : Int} : ∀ {ys : List Int}, ys.Pairwise (· < ·) → (insI x ys).Pairwise (· < ·)
  | [], _ => List.pairwise_singleton _ _
  | y :: ys, h => by
    obtain ⟨h1, h2⟩ := List.pairwise_cons.mp h
    unfold insI
    split
    · rename_i c
      refine List.pairwise_cons.mpr ⟨fun z hz => ?_, h⟩
      rcases List.mem_cons.mp hz with rfl | hz
      · exact c
      · have := h1 z hz; omega
    · split
      · exact h
      · refine List.pairwise_cons.mpr ⟨fun z hz => ?_, insI_up h2⟩
        rcases insI_mem.mp hz with rfl | hz
        · omega
        · exact h1 z hz
theorem srtI_mem : ∀ {ns : List Int} {z : Int}, z ∈ srtI ns ↔ z ∈ ns
  | [], z => by simp [srtI]
  | n :: ns, z => by
    show z ∈ insI n (srtI ns) ↔ _
    rw [insI_mem, srtI_mem, List.mem_cons]
theorem srtI_up : ∀ ns : List Int, (srtI ns).Pairwise (· < ·)
  | [] => List.Pairwise.nil
  | n :: ns => insI_up (srtI_up ns)
theorem up_uniq : ∀ {xs ys : List Int}, xs.Pairwise (· < ·) → ys.Pairwise (· < ·) → (∀ z, z ∈ xs ↔ z ∈ ys) → xs = ys
  | [], [], _, _, _ => rfl
  | [], y :: ys, _, _, h => by have := (h y).mpr List.mem_cons_self; cases this
  | x :: xs, [], _, _, h => by have := (h x).mp List.mem_cons_self; cases this
  | x :: xs, y :: ys, hx, hy, h => by
    obtain ⟨x1, x2⟩ := List.pairwise_cons.mp hx
    obtain ⟨y1, y2⟩ := List.pairwise_cons.mp hy
    have e : x = y := by
      have h1 := (h x).mp List.mem_cons_self
      have h2 := (h y).mpr List.mem_cons_self
      rcases List.mem_cons.mp h1 with h1 | h1
      · exact h1
      · rcases List.mem_cons.mp h2 with h2 | h2
        · exact h2.symm
        · have := y1 x h1; have := x1 y h2; omega
    subst e
    rw [up_uniq x2 y2 fun z => ?_]
    constructor
    · intro hz
      rcases List.mem_cons.mp ((h z).mp (List.mem_cons_of_mem _ hz)) with e | hz2
      · have := x1 z hz; omega
      · exact hz2
    · intro hz
      rcases List.mem_cons.mp ((h z).mpr (List.mem_cons_of_mem _ hz)) with e | hz2
      · have := y1 z hz; omega
      · exact hz2
theorem srtI_is {ns : List Int} (h : ns.Pairwise (· < ·)) : srtI ns = ns := up_uniq (srtI_up ns) h fun z => srtI_mem
theorem srtI_len (ns : List Int) : (srtI ns).length ≤ ns.length := by
  have hn : (srtI ns).Nodup := (srtI_up ns).imp fun h => Int.ne_of_lt h
  exact List.Nodup.length_le_of_subset hn fun z hz => srtI_mem.mp hz
theorem nodup_len {xs ys : List Int} (hx : xs.Nodup) (hy : ys.Nodup) (h : ∀ z, z ∈ xs ↔ z ∈ ys) : xs.length = ys.length :=
  Nat.le_antisymm (List.Nodup.length_le_of_subset hx fun z hz => (h z).mp hz) (List.Nodup.length_le_of_subset hy fun z hz => (h z).mpr hz)
def kSrtSet : List D → Option D
  | [.lst _ ds] => match intsO ds with
    | some ns => if ns.length < 64 then some (.lst true ((srtI ns).map .int)) else none
    | none => none
  | _ => none
def kLenSet : List D → Option D
  | [.lst _ ds] => match intsO ds with
    | some ns => if ns.length ≤ 1000 then some (.int ((srtI ns).length : Nat)) else none
    | none => none
  | _ => none
def rLenSet (w : World) : List V → Hp → VK → Prop := fun vs H Q => ∃ (a : Addr) (S : Int → Bool) (n : Nat), vs = [V.ref a] ∧ H a = some (SetO w a S n) ∧ n ≤ 1000 ∧ ∀ ns : List Int, ns.Nodup → (∀ k : Int, k ∈ ns ↔ S k = true) → ns.length = n → Q (.int (n : Nat)) H
section
variable {X : Cx} {g : Cfg} {W : WX}
theorem cr_lenSet : CallR X (.builtin "len") (rLenSet X.w) := by
  intro pins s σ H vs us Q I r h
  obtain ⟨a, S, n, rfl, ha, h6, q⟩ := h
  obtain ⟨o, es, ep, t, ho, hex, hd, hg, hnd, hm, hb, hf, hn, hr, hl⟩ := setO_get I ha
  rw [Vals.ref1 r]
  refine PySem.call_len_set ho hex hd hf (by omega) ⟨.int (n : Nat), H, I.tok _, ⟨_, by rw [hn]⟩, q (es.toList.map keyOf) hnd (fun k => (hm k).symm) ?_⟩
  rw [List.length_map, Array.length_toList]
  exact hn
def rSrtSet (K : PySem.W.Frag) (w : World) : List V → Hp → VK → Prop := fun vs H Q => rSetOfL K w vs H fun x H1 => rSortedSet w [x] H1 Q
def rLenSetOf (K : PySem.W.Frag) (w : World) : List V → Hp → VK → Prop := fun vs H Q => rSetOfL K w vs H fun x H1 => rLenSet w [x] H1 Q
theorem ins_srtSet (hK : X.K = g.K) : Ins g kSrtSet (rSrtSet X.K X.w) := by
  intro G H ds vs d Q b e fin
  match ds, e, b with
  | [.lst o es], e, b =>
    obtain ⟨v, A, rfl, r⟩ := bor1 b
    simp only [kSrtSet] at e
    cases hi : intsO es with
    | none => rw [hi] at e; cases e
    | some ns =>
      rw [hi] at e
      simp only at e
      split at e
      · rename_i c
        cases e
        obtain ⟨p, us, rfl, hp, rs⟩ := lst_tr r
        refine ⟨p, ns, rfl, by rw [← ints_of rs hi]; exact .inl (.inl hp), by omega, fun q c2 hq hc2 => ?_⟩
        refine ⟨q, _, c2, rfl, upd_same, by omega, fun ms p2 h1 h2 h3 h4 => ?_⟩
        have e1 : ms = srtI ns := up_uniq h1 (srtI_up ns) fun z => by rw [h2 z, srtI_mem, decide_eq_true_eq]
        rw [e1]
        have sm := same_new (o := SetO X.w q (fun j => decide (j ∈ ns)) c2) hq
        refine fin (.ref p2) _ (fun a => a = p2) (sm.trans (same_new h4)) ⟨p2, _, Fe, rfl, ⟨upd_same, rfl⟩, fun _ z => z.elim, reps_ints _⟩ fun a h => ?_
        rw [show a = p2 from h]
        refine ⟨?_, by rw [upd_same]; trivial⟩
        by_cases e2 : p2 = q
        · rw [e2]; exact hq
        · rw [upd_ne e2] at h4; exact h4
      · cases e
theorem ins_lenSet (hK : X.K = g.K) : Ins g kLenSet (rLenSetOf X.K X.w) := by
  intro G H ds vs d Q b e fin
  match ds, e, b with
  | [.lst o es], e, b =>
    obtain ⟨v, A, rfl, r⟩ := bor1 b
    simp only [kLenSet] at e
    cases hi : intsO es with
    | none => rw [hi] at e; cases e
    | some ns =>
      rw [hi] at e
      simp only at e
      split at e
      · rename_i c
        cases e
        obtain ⟨p, us, rfl, hp, rs⟩ := lst_tr r
        refine ⟨p, ns, rfl, by rw [← ints_of rs hi]; exact .inl (.inl hp), c, fun q c2 hq hc2 => ?_⟩
        refine ⟨q, _, c2, rfl, upd_same, by omega, fun ms h1 h2 h3 => ?_⟩
        have e1 : (srtI ns).length = c2 := by
          rw [← h3]
          exact nodup_len ((srtI_up ns).imp fun h => Int.ne_of_lt h) h1 fun z => by rw [srtI_mem, h2 z, decide_eq_true_eq]
        rw [← e1]
        exact fin (.int _) _ Fe (same_new hq) rfl fun a h => h.elim
      · cases e
theorem se_srtSet {p p2 q pos : Pos} {a : Expr} {oa : Od} (hK : X.K = g.K) (hc : X.calm = true) (hg : Gl X "sorted") (hm : X.mg "sorted" = none) (hg2 : Gl X "set") (hm2 : X.mg "set" = none) (ha : SO X g W a oa)
    (na : starEach [a] X.env = (false, eval a X.env) :: starEach [] X.env := by rfl)
    (nl : starEach [Expr.Call (.Name "set" p2) [a] [] q] X.env = (false, eval (Expr.Call (.Name "set" p2) [a] [] q) X.env) :: starEach [] X.env := by rfl) :
    SE X g W (.Call (.Name "sorted" p) [.Call (.Name "set" p2) [a] [] q] [] pos) (eOps kSrtSet [oa]) :=
  PE.imp (pe_callB (cr_sortedSet hc) hg hm (by decide +kernel) (pa_cons (pe_callTy (cr_setOfL hc) hg2 hm2 (by decide +kernel) (pa_cons ha pa_nil na) (by decide) (by decide) na) pa_nil nl) (by decide) (by decide) nl) fun σ H Q ⟨G, δ, F, S, P⟩ => ops_run (ins_srtSet hK) S P
theorem se_lenSet {p p2 q pos : Pos} {a : Expr} {oa : Od} (hK : X.K = g.K) (hc : X.calm = true) (hg : Gl X "len") (hm : X.mg "len" = none) (hg2 : Gl X "set") (hm2 : X.mg "set" = none) (ha : SO X g W a oa)
    (na : starEach [a] X.env = (false, eval a X.env) :: starEach [] X.env := by rfl)
    (nl : starEach [Expr.Call (.Name "set" p2) [a] [] q] X.env = (false, eval (Expr.Call (.Name "set" p2) [a] [] q) X.env) :: starEach [] X.env := by rfl) :
    SE X g W (.Call (.Name "len" p) [.Call (.Name "set" p2) [a] [] q] [] pos) (eOps kLenSet [oa]) :=
  PE.imp (pe_callB cr_lenSet hg hm (by decide +kernel) (pa_cons (pe_callTy (cr_setOfL hc) hg2 hm2 (by decide +kernel) (pa_cons ha pa_nil na) (by decide) (by decide) na) pa_nil nl) (by decide) (by decide) nl) fun σ H Q ⟨G, δ, F, S, P⟩ => ops_run (ins_lenSet hK) S P
end
theorem kSrtSet_ints {o : Bool} {ns : List Int} (h : ns.length < 64) : kSrtSet [.lst o (ns.map .int)] = some (.lst true ((srtI ns).map .int)) := by
  simp only [kSrtSet, intsO_map, h, if_true]
theorem kLenSet_ints {o : Bool} {ns : List Int} (h : ns.length ≤ 1000) : kLenSet [.lst o (ns.map .int)] = some (.int ((srtI ns).length : Nat)) := by
  simp only [kLenSet, intsO_map, h, if_true]
end DV

namespace DV
open PySem L2
/-! ### x[a], y[b] = a pair -/
def two : D → Option (D × D)
  | .tup [x, y] => some (x, y)
  | _ => none
theorem two_eq {d x y : D} (h : two d = some (x, y)) : d = .tup [x, y] := by
  unfold two at h
  split at h
  · cases h; rfl
  · cases h
def sSub2 (k : D → D → D → Option D) (i j : Nat) (fa fb fe : Ev) : Sv := fun δ => (fe δ).thn fun t δ1 => match two t with
  | some (x, y) => sSeq (sSto k i (eC x) fa) (sSto k j (eC y) fb) δ1
  | none => .bad
section
variable {g : Cfg} {W : WX} {a : As} {G G' G1 G2 : Fp} {H H' H1 H2 : Hp} {σ : St} {δ δ' δ1 : Env} {F F' F1 : Nat → Fp} {Q : VK} {K : PySem.W.Frag} {DE : Ends}
theorem sub_run {k : D → D → D → Option D} {t : TSet} {i : Nat} {fi : Ev} {vd : D} {vv : V} {Fv : Fp} (hk : InsS g k t) (S1 : StR g G1 H1 σ δ1 F1) (rv : Rep g G1 H1 vd vv Fv) (ov : Ok G1 H1 Fv) (dj : Dj Fv (U F1)) (E : Ext G H (U F) G1 H1 (Un2 (U F1) Fv))
    (P1 : PostS g W a G H F σ (sSto k i (eC vd) fi δ1) DE) : gSub (tVar i) (tE g W fi) t vv σ H1 DE.nx := by
  show tVar i σ H1 _
  simp only [sSto, eC, R.thn_ok] at P1
  cases e : gt δ1 i with
  | none => simp only [e] at P1; exact False.elim P1
  | some d0 =>
    simp only [e] at P1
    obtain ⟨v, ev, r0⟩ := S1.at_ i d0 e
    refine ⟨v, ev, tE_of S1 (PostG.on (PostG.mono (PostS.bind P1) fun kd δ2 H2 G2 F2 S2 P2 kv Fk rk ok2 dj2 E2 => ?_) E Le.inl)⟩
    have okF1 : Ok G1 H1 (U F1) := S1.okU
    cases e2 : gt δ2 i with
    | none => simp only [e2] at P2; exact False.elim P2
    | some d =>
      simp only [e2] at P2
      obtain ⟨v', ev', r⟩ := S2.at_ i d e2
      rw [ev] at ev'
      cases ev'
      cases e3 : k d kd vd with
      | none => simp only [e3] at P2; exact False.elim P2
      | some d' =>
        simp only [e3] at P2
        have rv2 := E2.rep okF1 rv dj
        have ov2 := E2.ok ov dj
        have dv2 := E2.dj ov dj
        have E3 : Ext G H (U F) G2 H2 (Un2 (U F2) Fv) := (E.trans (U1' := Un2 (U F1) Fv) (E2.frame (Fh := Fv)) (Le.refl _)).weak (Le.refl _) fun a h => h.elim (fun h => .inl (.inl h)) .inr
        exact hk G2 H2 d kd vd v kv vv (F2 i) Fk Fv d' _ r (S2.ok i) rk rv2 ov2 (fun a x y => dv2 a y (.inl ⟨i, x⟩)) e3 fun H' F' kp r' o' nw => chgS_run P2 S2 ev ov2 (dv2.le (Le.refl _) Le.inl) E3 kp r' o' fun a h => (nw a h).elim .inl fun h => .inr (.inl h)
theorem U_add {F : Nat → Fp} {A : Fp} : U (fun n => Un2 (F n) A) = Un2 (U F) A := by
  funext x
  exact propext ⟨fun ⟨i, h⟩ => h.elim (fun h => .inl ⟨i, h⟩) .inr, fun h => h.elim (fun ⟨i, h⟩ => ⟨i, .inl h⟩) fun h => ⟨0, .inr h⟩⟩
theorem sub2_run {k : D → D → D → Option D} {t : TSet} {i j : Nat} {fa fb fe : Ev} (hK : K = g.K) (hk : InsS g k t) (S : StR g G H σ δ F) (P : PostS g W (aOr a0 a0) G H F σ (sSub2 k i j fa fb fe δ) DE) :
    tAsg (tE g W fe) (gTup K 2 (gCons (gSub (tVar i) (tE g W fa) t) (gCons (gSub (tVar j) (tE g W fb) t) gNil))) DE σ H := by
  refine tE_of S (PostG.mono (PostS.bind P) fun d δ1 H1 G1 F1 S1 P1 v Fv r o dj E => ?_)
  cases h2 : two d with
  | none => simp only [h2] at P1; exact False.elim P1
  | some xy =>
    obtain ⟨x, y⟩ := xy
    simp only [h2] at P1
    have hd := two_eq h2
    subst hd
    obtain ⟨p, vs, ev, sq, ⟨v1, vr, A, B, e1, l1, l2, dj0, r1, ⟨v2, vr2, B1, B2, e2, l3, l4, dj1, r2, e3⟩⟩⟩ := r
    subst ev e1 e2 e3
    refine ⟨p, _, rfl, by rw [hK]; exact sq, rfl, v1, _, rfl, ?_⟩
    have okA : Ok G1 H1 A := fun a z => o a (l1 a z)
    have djA : Dj A (U F1) := dj.le l1 (Le.refl _)
    have lB : Le B1 Fv := l3.trans l2
    have okB : Ok G1 H1 B1 := fun a z => o a (lB a z)
    have djB : Dj B1 (Un2 (U F1) A) := fun a x y => y.elim (fun y => dj a (lB a x) y) fun y => dj0 a y (l3 a x)
    have okU1 : Ok G1 H1 (Un2 (U F1) A) := fun a z => z.elim (S1.okU a) (okA a)
    refine sub_run (DE := { DE with nx := fun σ' H' => gCons (gSub (tVar j) (tE g W fb) t) gNil [v2] σ' H' DE.nx }) (F := fun n => Un2 (F1 n) A) (G := G1) (H := H1) (a := a0) hk S1 r1 okA djA (by rw [U_add]; exact .refl (Le.refl _)) ?_
    have EA : Ext G H (U F) G1 H1 (U fun n => Un2 (F1 n) A) := by rw [U_add]; exact E.weak (Le.refl _) fun a z => z.elim .inl fun z => .inr (l1 a z)
    simp only [sSeq] at P1
    cases e4 : sSto k i (eC x) fa δ1 with
    | nx δ2 =>
      rw [e4] at P1
      intro σ2 H2 G2 F2 S2 ag E2
      rw [U_add] at E2
      have r2' := E2.rep okU1 r2 djB
      have ok2' := E2.ok okB djB
      have dj2' := E2.dj okB djB
      have EF : Ext G H (U F) G2 H2 (Un2 (U F2) B1) := by
        have h1 : Ext G H (U F) G1 H1 (Un2 (Un2 (U F1) A) B1) := E.weak (Le.refl _) fun a z => z.elim (fun z => z.elim .inl fun z => .inr (l1 a z)) fun z => .inr (lB a z)
        exact h1.trans (E2.frame (Fh := B1)) (Le.refl _)
      refine ⟨v2, [], rfl, ?_⟩
      refine sub_run (DE := { DE with nx := fun σ' H' => gNil [] σ' H' DE.nx }) (F := F) (G := G) (H := H) (a := aOr a0 a0) hk S2 r2' ok2' dj2' EF ?_
      have ag0 : σ2 = σ := by
        apply List.ext_getElem?
        intro n
        exact ag.2 n rfl
      subst ag0
      cases e5 : sSto k j (eC y) fb δ2 with
      | nx δ3 =>
        simp only [e5] at P1
        exact fun σ3 H3 G3 F3 S3 ag3 E3 => ⟨rfl, P1 σ3 H3 G3 F3 S3 ag3 E3⟩
      | bk δ3 => simp only [e5] at P1; exact P1
      | ct δ3 => simp only [e5] at P1; exact P1
      | rt d δ3 => simp only [e5] at P1; exact P1
      | ex q δ3 => simp only [e5] at P1; exact P1
      | bad => simp only [e5] at P1; exact P1
    | bk δ2 => rw [e4] at P1; exact PostS.on (a := a0) (b := a0) (r := .bk δ2) (D := { DE with nx := _ }) P1 .refl EA
    | ct δ2 => rw [e4] at P1; exact PostS.on (a := a0) (b := a0) (r := .ct δ2) (D := { DE with nx := _ }) P1 .refl EA
    | rt d δ2 => rw [e4] at P1; exact PostS.on (a := a0) (b := a0) (r := .rt d δ2) (D := { DE with nx := _ }) P1 .refl EA
    | ex q δ2 => rw [e4] at P1; exact PostS.on (a := a0) (b := a0) (r := .ex q δ2) (D := { DE with nx := _ }) P1 .refl EA
    | bad => rw [e4] at P1; exact P1
end
section
variable {X : Cx} {g : Cfg} {W : WX}
theorem ss_sub2 {k : D → D → D → Option D} {t : TSet} {i j : Nat} {o1 o2 i1 i2 e : Expr} {fa fb fe : Ev} {p1 p2 pt pos : Pos} {kt} (hK : X.K = g.K) (hc : X.calm = true) (ht : PSet X t) (hk : InsS g k t) (ho1 : PE X o1 (tVar i)) (ho2 : PE X o2 (tVar j)) (hi1 : SE X g W i1 fa) (hi2 : SE X g W i2 fb) (he : SE X g W e fe)
    (ha1 : ∀ v, assign (.Subscript o1 i1 p1) X.env v = (do
      let ov ← holding [v] (eval o1 X.env)
      let iv ← holding [v, ov] (eval i1 X.env)
      standAt p1
      holding [v, ov, iv] (setItem ov iv v)
      release [v, ov, iv] []) := by intro _; rfl)
    (ha2 : ∀ v, assign (.Subscript o2 i2 p2) X.env v = (do
      let ov ← holding [v] (eval o2 X.env)
      let iv ← holding [v, ov] (eval i2 X.env)
      standAt p2
      holding [v, ov, iv] (setItem ov iv v)
      release [v, ov, iv] []) := by intro _; rfl)
    (hn : (assignEach [.Subscript o1 i1 p1, .Subscript o2 i2 p2] X.env).length = 2 := by rfl) (hst : (assignEach [.Subscript o1 i1 p1, .Subscript o2 i2 p2] X.env).findIdx? (·.1) = none := by rfl)
    (s1 : (assignEach [.Subscript o1 i1 p1, .Subscript o2 i2 p2] X.env).map (·.2) = assign (.Subscript o1 i1 p1) X.env :: (assignEach [.Subscript o2 i2 p2] X.env).map (·.2) := by rfl)
    (s2 : (assignEach [.Subscript o2 i2 p2] X.env).map (·.2) = assign (.Subscript o2 i2 p2) X.env :: (assignEach [] X.env).map (·.2) := by rfl)
    (hs : swapsWithSole [.Tuple [.Subscript o1 i1 p1, .Subscript o2 i2 p2] kt pt] e pos.line X.env = pure false := by rfl) (hw : swappedStores [.Tuple [.Subscript o1 i1 p1, .Subscript o2 i2 p2] kt pt] e X.env = pure none := by rfl)
    (h1 : (assignEach [.Tuple [.Subscript o1 i1 p1, .Subscript o2 i2 p2] kt pt] X.env).map (·.2) = [assign (.Tuple [.Subscript o1 i1 p1, .Subscript o2 i2 p2] kt pt) X.env] := by rfl) :
    SS X g W (aOr a0 a0) (.Assign [.Tuple [.Subscript o1 i1 p1, .Subscript o2 i2 p2] kt pt] e pos) (sSub2 k i j fa fb fe) :=
  PS.imp (ps_asg he (pg_tup (n := 2) hc (pgs_cons (pg_sub ho1 hi1 ht ha1) (pgs_cons (pg_sub ho2 hi2 ht ha2) pgs_nil s2) s1) hn hst) hs hw h1) fun DE σ H ⟨G, δ, F, S, P⟩ => sub2_run hK hk S P
end
def sub2J (k : D → D → D → Option D) (i j : Nat) (fa fb : Ev) (δ : Env) (Q : RS → Prop) : Option (D × D) → Prop
  | some (x, y) => wS (sSeq (sSto k i (eC x) fa) (sSto k j (eC y) fb) δ) Q
  | none => Q .bad
def sub2K (k : D → D → D → Option D) (i j : Nat) (fa fb : Ev) (Q : RS → Prop) : R D → Prop
  | .ok d δ => sub2J k i j fa fb δ Q (two d)
  | .ex x δ => Q (.ex x δ)
  | .bad => Q .bad
theorem r_sub2 {Q : RS → Prop} {k : D → D → D → Option D} {i j : Nat} {fa fb fe : Ev} {δ : Env} : wS (sSub2 k i j fa fb fe δ) Q = wR (fe δ) (sub2K k i j fa fb Q) := by
  simp only [wS_eq, wR_eq]; unfold sSub2
  cases fe δ with
  | bad => rfl
  | ex x y => rfl
  | ok d b =>
    simp only [R.thn_ok, sub2K]
    cases two d with
    | none => rfl
    | some xy => obtain ⟨x, y⟩ := xy; simp only [sub2J, wS_eq]
theorem r_sub2k {Q : RS → Prop} {k : D → D → D → Option D} {i j : Nat} {fa fb : Ev} {δ : Env} {x y : D} : sub2K k i j fa fb Q (.ok (.tup [x, y]) δ) = wS (sSeq (sSto k i (eC x) fa) (sSto k j (eC y) fb) δ) Q := rfl
/-! ### a name's thing, let go of in its place (eFz) -/
def fzNK (i : Nat) (δ : Env) (Q : R D → Prop) : Option D → Prop
  | some d => Q (.ok (freeze d) (st δ i (some (freeze d))))
  | none => Q .bad
theorem r_fzN {Q : R D → Prop} {i : Nat} {δ : Env} : wR (eFz i δ) Q = fzNK i δ Q (gt δ i) := by
  rw [wR_eq]; unfold eFz
  cases gt δ i <;> rfl
theorem r_fzNk {Q : R D → Prop} {i : Nat} {δ : Env} {d : D} : fzNK i δ Q (some d) = Q (.ok (freeze d) (st δ i (some (freeze d)))) := rfl
end DV

namespace DV
open PySem L2
/-! ### truths among numbers, a tuple so many times -/
def bI (b : Bool) : Int := if b = true then 1 else 0
def kAddB : List D → Option D
  | [.bl b, .int j] => some (.int (bI b + j))
  | ds => kAdd ds
def kSubB : List D → Option D
  | [.bl b, .int j] => some (.int (bI b - j))
  | ds => kSub ds
def kNegB : List D → Option D
  | [.bl b] => some (.int (-bI b))
  | ds => kNeg ds
def kStrB : List D → Option D
  | [.bl b] => some (.str (if b then "True" else "False"))
  | ds => kStr1 ds
def kMulT : List D → Option D
  | [.tup xs, .int k] => if cleans xs = true ∧ xs ≠ [] ∧ 2 ≤ k ∧ k ≤ 1000 ∧ xs.length ≤ 1000 then some (.tup (List.replicate k.toNat xs).flatten) else none
  | ds => kMulE ds
section
variable {g : Cfg} {X : Cx}
def rBI (f : Int → Int → Int) : R2 := fun x y H Q => ∃ (b : Bool) (j : Int), x = .bl b ∧ y = .int j ∧ Q (.int (f (bI b) j)) H
theorem op_addB : OpR X (binaryOp .Add) (fun x y H Q => rBI (fun i j => i + j) x y H Q ∨ rAddD X.K x y H Q) := by
  refine OpR.or ?_ op_addD
  intro pins s σ H x y v u Q I rx ry h
  obtain ⟨b, j, rfl, rfl, q⟩ := h
  cases rx
  obtain ⟨t, rfl⟩ := ry
  exact PySem.IntBool.add_bool_int ⟨.int _, H, I.tok _, ⟨_, rfl⟩, q⟩
theorem op_subB : OpR X (binaryOp .Sub) (fun x y H Q => rBI (fun i j => i - j) x y H Q ∨ rI0 (fun i j => .int (i - j)) x y H Q) := by
  refine OpR.or ?_ op_sub
  intro pins s σ H x y v u Q I rx ry h
  obtain ⟨b, j, rfl, rfl, q⟩ := h
  cases rx
  obtain ⟨t, rfl⟩ := ry
  exact PySem.IntBool.sub_bool_int ⟨.int _, H, I.tok _, ⟨_, rfl⟩, q⟩
theorem gives_neg_bool (b : Bool) : Gives (Builtin.«int.__neg__» ⟨[.bool b], []⟩) (.int (-bI b)) := .of_eq (by cases b <;> rfl)
theorem un_negB : UnR X (unaryOp .USub) (fun x H Q => (∃ b : Bool, x = .bl b ∧ Q (.int (-bI b)) H) ∨ rU (fun i => .int (-i)) x H Q) := by
  intro pins s σ H x v Q I rx h
  rcases h with ⟨b, rfl, q⟩ | h
  · cases rx
    refine unaryOp_gives (op := .USub) (PyProof.Rows.typeIs_bool' s b) rfl F.slot_bool_neg F.entry_int_neg (F.args_int_neg_1 _) (gives_neg_bool b) ?_
    exact ⟨.int _, H, I.tok _, ⟨_, rfl⟩, q⟩
  · exact un_neg pins s σ H x v Q I rx h
theorem call_strB : CallR X (.type "str") (fun xs H Q => (∃ b : Bool, xs = [.bl b] ∧ Q (.str (if b then "True" else "False")) H) ∨ ((∃ i, xs = [.int i] ∧ i.natAbs.log2 < 1920 ∧ Q (.str (toString i)) H) ∨ ∃ a, xs = [.str a] ∧ Q (.str a) H)) := by
  refine CallR.or ?_ call_str1
  intro pins s σ H xs us Q I r h
  obtain ⟨b, rfl, q⟩ := h
  obtain ⟨u, rfl, r1⟩ := vals1 r
  cases r1
  exact PySem.P.str_of_bool ⟨.str _, H, I.tok _, ⟨_, rfl⟩, q⟩
theorem op_mulT : OpR X (binaryOp .Mult) (fun x y H Q => rRepT X.K x y H Q ∨ (rMulS x y H Q ∨ (rI CMul (fun i j => .int (i * j)) x y H Q ∨ rRep x y H Q))) := op_repT.or op_mulE
theorem ins_addB (hK : X.K = g.K) : Ins g kAddB (on2 (fun x y H Q => rBI (fun i j => i + j) x y H Q ∨ rAddD X.K x y H Q)) := by
  intro G H ds vs d Q b e fin
  by_cases h : ∃ z n, ds = [.bl z, .int n]
  · obtain ⟨z, n, rfl⟩ := h
    obtain ⟨v, w, A, B, rfl, r, r2⟩ := bor2 b
    cases e
    exact .inl ⟨z, n, r, r2, fin0 fin rfl⟩
  · have e2 : kAddB ds = kAdd ds := by
      unfold kAddB
      split
      · exact absurd ⟨_, _, rfl⟩ h
      · rfl
    rw [e2] at e
    have := ins_add hK G H ds vs d Q b e fin
    match vs, this with
    | [x, y], this => exact .inr this
theorem ins_subB : Ins g kSubB (on2 (fun x y H Q => rBI (fun i j => i - j) x y H Q ∨ rI0 (fun i j => .int (i - j)) x y H Q)) := by
  intro G H ds vs d Q b e fin
  by_cases h : ∃ z n, ds = [.bl z, .int n]
  · obtain ⟨z, n, rfl⟩ := h
    obtain ⟨v, w, A, B, rfl, r, r2⟩ := bor2 b
    cases e
    exact .inl ⟨z, n, r, r2, fin0 fin rfl⟩
  · have e2 : kSubB ds = kSub ds := by
      unfold kSubB
      split
      · exact absurd ⟨_, _, rfl⟩ h
      · rfl
    rw [e2] at e
    have := ins_sub G H ds vs d Q b e fin
    match vs, this with
    | [x, y], this => exact .inr this
theorem ins_negB : Ins g kNegB (on1 (fun x H Q => (∃ b : Bool, x = .bl b ∧ Q (.int (-bI b)) H) ∨ rU (fun i => .int (-i)) x H Q)) := by
  intro G H ds vs d Q b e fin
  by_cases h : ∃ z, ds = [.bl z]
  · obtain ⟨z, rfl⟩ := h
    obtain ⟨v, A, rfl, r⟩ := bor1 b
    cases e
    exact .inl ⟨z, r, fin0 fin rfl⟩
  · have e2 : kNegB ds = kNeg ds := by
      unfold kNegB
      split
      · exact absurd ⟨_, rfl⟩ h
      · rfl
    rw [e2] at e
    have := ins_neg G H ds vs d Q b e fin
    match vs, this with
    | [x], this => exact .inr this
theorem ins_strB : Ins g kStrB (fun xs H Q => (∃ b : Bool, xs = [.bl b] ∧ Q (.str (if b then "True" else "False")) H) ∨ ((∃ i, xs = [.int i] ∧ i.natAbs.log2 < 1920 ∧ Q (.str (toString i)) H) ∨ ∃ a, xs = [.str a] ∧ Q (.str a) H)) := by
  intro G H ds vs d Q b e fin
  by_cases h : ∃ z, ds = [.bl z]
  · obtain ⟨z, rfl⟩ := h
    obtain ⟨v, A, rfl, r⟩ := bor1 b
    cases e
    exact .inl ⟨z, by rw [show v = .bl z from r], fin0 fin rfl⟩
  · have e2 : kStrB ds = kStr1 ds := by
      unfold kStrB
      split
      · exact absurd ⟨_, rfl⟩ h
      · rfl
    rw [e2] at e
    exact .inr (ins_str1 G H ds vs d Q b e fin)
theorem ins_mulT (hK : X.K = g.K) : Ins g kMulT (on2 (fun x y H Q => rRepT X.K x y H Q ∨ (rMulS x y H Q ∨ (rI CMul (fun i j => .int (i * j)) x y H Q ∨ rRep x y H Q)))) := by
  intro G H ds vs d Q b e fin
  by_cases h : ∃ z n, ds = [.tup z, .int n]
  · obtain ⟨z, n, rfl⟩ := h
    obtain ⟨v, w, A, B, rfl, r, r2⟩ := bor2 b
    simp only [kMulT] at e
    split at e
    · rename_i c
      obtain ⟨c1, c2, c3, c4, c5⟩ := c
      cases e
      obtain ⟨p, us, rfl, hp, rs⟩ := tup_tr r
      have hl := rs.length
      rw [← hK] at hp
      refine .inl ⟨p, n, us, rfl, r2, ?_, ?_, c3, c4, by rw [hl]; exact c5, finT fin ((rs.clean c1).repl _)⟩
      · exact hp
      · intro e
        rw [e] at hl
        exact c2 (List.eq_nil_of_length_eq_zero hl.symm)
    · cases e
  · have e2 : kMulT ds = kMulE ds := by
      unfold kMulT
      split
      · exact absurd ⟨_, _, rfl⟩ h
      · rfl
    rw [e2] at e
    have := ins_mulE G H ds vs d Q b e fin
    match vs, this with
    | [x, y], this => exact .inr this
end
end DV

namespace DV
open PySem L2
/-! ### sets of texts -/
section
open PySem.Spec PyProof.Rows
def keyS (e : Int × Value) : Str := match e.2 with | .str k _ => k | _ => Str.empty
def GoodS (w : World) (e : Int × Value) : Prop := ∃ k tk, e.2 = Value.str k tk ∧ e.1 = hashStr w k
/-- the set of texts at a: S its members, n their number -/
def SetS (w : World) (h : Heap) (a : Addr) (S : Str → Bool) (n : Nat) : Prop :=
  ∃ o es ep t, h.get? a = some o ∧ o.ExactSet ∧ o.data = .set es ep t ∧ (∀ e ∈ es.toList, GoodS w e) ∧ (es.toList.map keyS).Nodup ∧ (∀ k, S k = true ↔ k ∈ es.toList.map keyS) ∧
    es.size < scanBound ∧ t.fits es.size = true ∧ es.size = n ∧ Ris t.place.toList ∧ (w.params.followText "set-order" = true ∨ t.led = true)
section
variable {P : Program} {w : World} {h h' : Heap} {a : Addr} {S : Str → Bool} {n : Nat}
theorem SetS.at (R : SetS w h a S n) (k : ∀ o, h.get? a = some o → h'.get? a = some o) : SetS w h' a S n := by
  obtain ⟨o, es, ep, t, ho, r⟩ := R
  exact ⟨o, es, ep, t, k o ho, r⟩
theorem SetS.congr {S' : Str → Bool} (R : SetS w h a S n) (e : ∀ k, S' k = S k) : SetS w h a S' n := by
  rw [show S' = S from funext e]; exact R
theorem goodS_elems {l : List (Int × Value)} (g : ∀ e ∈ l, GoodS w e) : ElemsOf (PySem.strKind P w) l := fun e he => by
  obtain ⟨k, tk, h1, h2⟩ := g e he
  exact ⟨⟨k, by rw [h1]; exact strKind_is P w k tk, h2⟩, by rw [h1]; rfl⟩
theorem goodS_is {e : Int × Value} (g : GoodS w e) (k : Str) : (PySem.strKind P w).is k e.2 = true ↔ keyS e = k := by
  obtain ⟨k0, tk, h1, _⟩ := g
  unfold keyS
  rw [h1]
  show Value.isStrOf k (.str k0 tk) = true ↔ k0 = k
  simp only [Value.isStrOf]
  exact beq_iff_eq
theorem goodS_mem {l : List (Int × Value)} (g : ∀ e ∈ l, GoodS w e) (k : Str) : k ∈ l.map keyS ↔ ∃ e ∈ l, (PySem.strKind P w).is k e.2 = true := by
  rw [List.mem_map]
  exact ⟨fun ⟨e, he, q⟩ => ⟨e, he, (goodS_is (g e he) k).2 q⟩, fun ⟨e, he, q⟩ => ⟨e, he, (goodS_is (g e he) k).1 q⟩⟩
end
variable {P : Program} {w : World} {A : Around} {E : Value → Shared → Prop} {s : Shared} {a : Addr} {S : Str → Bool} {n : Nat}
/-- one more laid into the table, and the table anew where it is too full -/
theorem setS_tail {g : Bool → Sem Unit} (hg : ∀ (b : Bool) (s₁ : Shared) (Q' : Unit → Shared → Prop), Q' () s₁ → wpAny (model P w) A (g b) Q' E s₁)
    {o : Obj} {es : Array (Int × Value)} {ep : Nat} {t : SetTable} (ho : s.heap.get? a = some o) (hex : o.ExactSet) (hd : o.data = .set es ep t)
    {es1 : Array (Int × Value)} {t2 : SetTable} {S' : Str → Bool} (g1 : ∀ e ∈ es1.toList, GoodS w e) (nd1 : (es1.toList.map keyS).Nodup) (m1 : ∀ k, S' k = true ↔ k ∈ es1.toList.map keyS)
    (hb1 : es1.size < scanBound) (hf2 : t2.fits es1.size = true) (hr : Ris t2.place.toList) (hl : w.params.followText "set-order" = true ∨ t2.led = true) {wasDummy : Bool} {R : Option Bool → Shared → Prop}
    (hR : ∀ h', Heap.SameBut a s.heap h' → SetS w h' a S' es1.size → R (some true) { s with heap := h' }) :
    wpAny (model P w) A (do
        storeSet a es1 t2
        if (!wasDummy && t2.tooFull) = true then do
            g (relayAll t2 es1 (SetTable.grown es1.size)).2.2
            storeSet a (relayAll t2 es1 (SetTable.grown es1.size)).1 (relayAll t2 es1 (SetTable.grown es1.size)).2.1
            pure (some true)
          else pure (some true)) R E s := by
  refine wpAny_bind (wpAny_storeSet_of ho hd ?_ (fits_of_scanBound hb1))
  have ho1 := store_at (es' := es1) (t' := t2) ho hd
  have sb1 := Heap.SameBut.update s.heap a (Obj.putSet es1 t2)
  split
  · have pm := relayAll_perm t2 es1 (SetTable.grown es1.size)
    have hf3 := relayAll_fits t2 es1 (SetTable.grown es1.size)
    have hr3 := relayAll_ris t2 es1 (SetTable.grown es1.size)
    have hl3 := relayAll_led t2 es1 (SetTable.grown es1.size)
    generalize relayAll t2 es1 (SetTable.grown es1.size) = Z at pm hf3 hr3 hl3 ⊢
    obtain ⟨es2, t3, gave⟩ := Z
    dsimp only at pm hf3 hr3 hl3 ⊢
    have hsz : es2.size = es1.size := by rw [← Array.length_toList, pm.length_eq, Array.length_toList]
    have hb2 : es2.size < scanBound := by rw [hsz]; exact hb1
    refine wpAny_bind (hg _ _ _ ?_)
    refine wpAny_bind (wpAny_storeSet_of ho1 rfl ?_ (fits_of_scanBound hb2))
    have ho2 := store_at (es' := es2) (t' := t3) ho1 rfl
    refine wpAny_pure (hR _ (sb1.trans (Heap.SameBut.update _ a _)) ?_)
    exact ⟨_, es2, _, t3, ho2, hex, rfl, fun e he => g1 e (pm.mem_iff.mp he), (pm.map keyS).nodup_iff.mpr nd1, fun k => (m1 k).trans (pm.map keyS).mem_iff.symm, hb2, hf3, hsz, hr3,
      hl.imp id fun z => by rw [hl3]; exact z⟩
  · exact wpAny_pure (hR _ sb1 ⟨_, es1, _, t2, ho1, hex, rfl, g1, nd1, m1, hb1, hf2, rfl, hr, hl⟩)
theorem setS_add {k : Str} {tk : Tok} {Q : Bool → Shared → Prop} (R : SetS w s.heap a S n) (room : n + 1 < scanBound)
    (hQ : ∀ h', Heap.SameBut a s.heap h' → SetS w h' a (fun j => S j || decide (j = k)) (if S k = true then n else n + 1) → Q (!S k) { s with heap := h' }) :
    wpAny (model P w) A (setAddHashed a (.str k tk) ((PySem.strKind P w).hash k)) Q E s := by
  obtain ⟨o, es, ep, t, ho, hex, hd, g, nd, hm, hb, hf, hn, hr, hl⟩ := R
  have hkey : (PySem.strKind P w).is k (.str k tk) = true := strKind_is P w k tk
  have hsc : (Value.str k tk).scannable = true := rfl
  have hel : ElemsOf (PySem.strKind P w) es.toList := goodS_elems g
  unfold setAddHashed setAddHashedIn
  refine wpAny_holding (wpAny_bind (wpAny_setState_of ho hd hf ?_))
  dsimp only
  rw [byScan_of hsc hb hel]
  simp only [↓reduceIte]
  unfold setAddByScan
  refine wpAny_bind ?_
  refine wpAny_bind (wpAny_rule ?_)
  refine wpAny_bind (wpAny_setScan_of hkey ho hd hf hel ?_)
  cases hfi : List.findIdx? (fun e => (PySem.strKind P w).is k e.2) es.toList with
  | some j =>
    dsimp only
    obtain ⟨hj, pj, _⟩ := List.findIdx?_eq_some_iff_getElem.mp hfi
    have hSk : S k = true := (hm k).2 ((goodS_mem (P := P) (w := w) g k).2 ⟨es.toList[j], List.getElem_mem hj, pj⟩)
    refine wpAny_pure (wpAny_pure ?_)
    have q := hQ s.heap (Heap.SameBut.refl a s.heap) ⟨o, es, ep, t, ho, hex, hd, g, nd, fun i => by
      rw [Bool.or_eq_true, decide_eq_true_eq, ← hm i]
      exact ⟨fun z => z.elim id (fun e => e ▸ hSk), .inl⟩, hb, hf, by rw [if_pos hSk]; exact hn, hr, hl⟩
    rw [hSk] at q
    exact q
  | none =>
    dsimp only
    have hnk : k ∉ es.toList.map keyS := fun z => by
      obtain ⟨e, he, q⟩ := (goodS_mem (P := P) (w := w) g k).1 z
      have c := List.findIdx?_eq_none_iff.mp hfi e he
      rw [q] at c
      cases c
    have hSk : S k = false := by
      cases q : S k with
      | false => rfl
      | true => exact absurd ((hm k).1 q) hnk
    have hgw : ∀ (b : Bool) {s₁ : Shared} {Q' : Unit → Shared → Prop}, Q' () s₁ → wpAny (model P w) A (match b with | true => rule "set.scan.the-table-gave-way" | false => pure ()) Q' E s₁ :=
      fun b s₁ Q' q => by cases b <;> first | exact wpAny_pure q | exact wpAny_rule q
    have pm := layNew_perm t es ((PySem.strKind P w).hash k) (.str k tk)
    have hf1 := layNew_fits t es ((PySem.strKind P w).hash k) (.str k tk)
    have hr1 := layNew_ris t es ((PySem.strKind P w).hash k) (.str k tk) hr
    have hl1 := layNew_led t es ((PySem.strKind P w).hash k) (.str k tk)
    generalize layNew t es ((PySem.strKind P w).hash k) (.str k tk) = Z at pm hf1 hr1 hl1 ⊢
    obtain ⟨es1, t1, wasDummy, gave⟩ := Z
    dsimp only at pm hf1 hr1 hl1 ⊢
    rw [Array.toList_push] at pm
    have pc : es1.toList.Perm (((PySem.strKind P w).hash k, Value.str k tk) :: es.toList) := pm.trans (List.perm_append_singleton _ _)
    have pk : (es1.toList.map keyS).Perm (k :: es.toList.map keyS) := pc.map keyS
    have g1 : ∀ e ∈ es1.toList, GoodS w e := fun e he => by
      rcases List.mem_cons.mp (pc.mem_iff.mp he) with z | z
      · rw [z]; exact ⟨k, tk, rfl, rfl⟩
      · exact g e z
    have nd1 : (es1.toList.map keyS).Nodup := pk.nodup_iff.mpr (List.nodup_cons.mpr ⟨hnk, nd⟩)
    have m1 : ∀ i, (S i || decide (i = k)) = true ↔ i ∈ es1.toList.map keyS := fun i => by
      rw [Bool.or_eq_true, decide_eq_true_eq, hm i, pk.mem_iff, List.mem_cons]
      exact Or.comm
    have hsz : es1.size = n + 1 := by rw [← Array.length_toList, pc.length_eq, List.length_cons, Array.length_toList, hn]
    have hb1 : es1.size < scanBound := by rw [hsz]; exact room
    have hled : w.params.followText "set-order" = true ∨ t1.led = true := hl.imp id fun z => by rw [hl1]; exact z
    have fin : ∀ h', Heap.SameBut a s.heap h' → SetS w h' a (fun j => S j || decide (j = k)) es1.size → Q true { s with heap := h' } := fun h' sb r => by
      have q := hQ h' sb
      rw [hSk] at q
      rw [hsz] at r
      exact q r
    refine wpAny_bind (hgw _ ?_)
    split
    · refine wpAny_bind ?_
      rw [hashByValue_scannable 8 hsc]
      refine wpAny_pure ?_
      refine setS_tail ?_ ho hex hd g1 nd1 m1 hb1 ?_ ?_ ?_ ?_
      · intro b s₁ Q' q; cases b <;> first | exact wpAny_pure q | exact wpAny_rule q
      · first | (split <;> first | exact hf1 | exact SetTable.fits_plain_off hf1) | exact hf1
      · first | (split <;> exact hr1) | exact hr1
      · first | (split <;> exact hled) | exact hled
      · intro h' sb r; dsimp only; exact wpAny_pure (fin h' sb r)
    · refine wpAny_bind (wpAny_pure ?_)
      simp only [↓reduceIte]
      refine setS_tail ?_ ho hex hd g1 nd1 m1 hb1 hf1 hr1 hled ?_
      · intro b s₁ Q' q; cases b <;> first | exact wpAny_pure q | exact wpAny_rule q
      · intro h' sb r; dsimp only; exact wpAny_pure (fin h' sb r)
theorem setS_new_at {h : Heap} {ns : List Str} (ho : h.get? a = some (bareSet w)) : SetS w h a (fun j => decide (j ∈ ns.take 0)) 0 :=
  ⟨_, #[], 0, _, ho, ⟨rfl, rfl, rfl⟩, rfl, (fun e he => by simp at he), (by simp), (fun k => by simp), (by decide), (by rfl), rfl, List.Pairwise.nil, by
    show _ ∨ (!w.params.followText "set-order") = true
    cases w.params.followText "set-order"
    · exact .inr rfl
    · exact .inl rfl⟩
theorem set_update_strs {I : Addr} {fp wr : List Addr} {G : Array GenState → Array GenState → Prop} {n : Nat} {Pv : Nat → Value → Prop} {St : Nat → Shared → Prop} {R : Result → Shared → Prop}
    (W : WalksS P w A.in1 I fp wr G n Pv St) (S : Addr) (hSf : S ∉ fp) (ns : List Str) (hn : n = ns.length) (hb : ns.length + 1 < scanBound) (hval : ∀ i v, Pv i v → ∃ k t, ns[i]? = some k ∧ v = .str k t) :
    ∀ (k i : Nat) (s : Shared), n - i = k → i ≤ n → St i s → (∃ c, c ≤ i ∧ SetS w s.heap S (fun j => decide (j ∈ ns.take i)) c) →
      (∀ s' c, Moved (S :: wr) G s s' → c ≤ n → SetS w s'.heap S (fun j => decide (j ∈ ns)) c → R (.ok (.ret .none)) s') →
      codeAny (model P w) A (.builtin "set.update.loop" ⟨[.ref S, .ref I], []⟩) R s := by
  have hSw : S ∉ wr := fun h => hSf (W.sub _ h)
  have hsub : ∀ b ∈ wr, b ∈ S :: wr := fun b hb => List.mem_cons_of_mem _ hb
  intro k
  induction k with
  | zero =>
    intro i s hk' hi hst ⟨c, hc, hS⟩ hR
    have hin : i = n := by omega
    subst hin
    refine codeAny_builtin F.entry_set_update_loop ?_
    rw [Around.under_plainId F.plain_set_update_loop _]
    show wpAny _ A.in1 (pyNext (.ref I) >>= _) _ _ s
    refine wpAny_bind (W.done s _ _ hst fun s' hm => ?_)
    show wpAny _ A.in1 (ret Value.none) _ _ s'
    have e : ns.take i = ns := List.take_of_length_le (by omega)
    rw [e] at hS
    exact wpAny_pure (hR s' c (hm.mono hsub) hc (hS.at fun o e => hm.heap S o hSw e))
  | succ k ih =>
    intro i s hk' hi hst ⟨c, hc, hS⟩ hR
    have hlt : i < n := by omega
    refine codeAny_builtin F.entry_set_update_loop ?_
    rw [Around.under_plainId F.plain_set_update_loop _]
    show wpAny _ A.in1 (pyNext (.ref I) >>= _) _ _ s
    refine wpAny_bind (W.item i s _ _ hlt hst fun v s' hP hst' hm => ?_)
    obtain ⟨z, t, hz, rfl⟩ := hval i v hP
    have hS' : SetS w s'.heap S (fun j => decide (j ∈ ns.take i)) c := hS.at fun o e => hm.heap S o hSw e
    show wpAny _ A.in1 (holding [Value.str z t] (setAdd S (.str z t)) >>= _) _ _ s'
    refine wpAny_bind (wpAny_holding ?_)
    unfold setAdd
    refine wpAny_holding ?_
    refine wpAny_bind ((PySem.strKind P w).pyHash (k := z) (strKind_is _ _ _ _) ?_)
    refine setS_add (s := { s' with toks := s'.toks + 1 }) hS' (by omega) fun h' hsb hS2 => ?_
    have hS3 : SetS w h' S (fun j => decide (j ∈ ns.take (i + 1))) (if decide (z ∈ ns.take i) = true then c else c + 1) := hS2.congr fun j => by
      rw [List.take_add_one, hz]
      simp [List.mem_append]
    have hc3 : (if decide (z ∈ ns.take i) = true then c else c + 1) ≤ i + 1 := by
      split <;> omega
    refine wpAny_pure ⟨plainId_quiet F.plain_set_update_loop _, ih (i + 1) _ (by omega) hlt (W.frame _ s' _ _ hst' (Nat.le_succ _) fun b hb o e => ?_) ⟨_, hc3, hS3⟩ fun s'' c2 hm'' hc'' hS'' => ?_⟩
    · rw [hsb.2 b (fun h : b = S => hSf (by rw [← h]; exact hb))]; exact e
    · refine hR s'' c2 (Moved.trans W.gtrans ((hm.mono hsub).then_heap (Nat.le_succ _) fun b o hb e => ?_) hm'') hc'' hS''
      rw [hsb.2 b (fun h : b = S => hb (by rw [h]; exact List.mem_cons_self))]; exact e
end
section
open PySem.Spec PyProof.Rows
variable {P : Program} {w : World} {A : Around} {E : Value → Shared → Prop} {s : Shared}
theorem call_setOfStrs {l : Addr} {its : Array Value} (ns : List Str) {Q : Value → Shared → Prop} (hh : A.handled = none) (hl : s.heap.IsList l its) (hit : StrsAre its.toList ns) (hb : ns.length + 1 < scanBound)
    (done : ∀ (g : Heap) (tk c : Nat), SetS w g s.heap.objs.size (fun j => decide (j ∈ ns)) c → c ≤ ns.length → (∀ b o, s.heap.get? b = some o → g.get? b = some o) → Q (.ref s.heap.objs.size) { s with heap := g, toks := tk }) :
    wpAny (model P w) A (call (.type "set") [.ref l]) Q E s := by
  have many : its.size = ns.length := by have q := StrsAre.length hit; rwa [Array.length_toList] at q
  obtain ⟨c0, tl, hmro⟩ := F.called_set.mro
  have made := F.called_set.made; have hsub := F.called_set.sub
  refine wpAny_call (codeAny_of_tree (show wpAny _ _ (callAny (.type "set") _) _ _ _ from ?_))
  refine wpAny_pure ⟨Code.quiet_builtin _ (by decide +kernel), codeAny_builtin F.entry_type_call ?_⟩; rw [Around.under_plain (weight_type_call_type "set" [.ref l] []) rfl]
  have k1 := F.called_set.notType; have k2 := F.called_set.canCreate; have k3 := F.typeCall_set_1 (.ref l)
  (repeat (any_goals (first | assumption | wp_step)))
  refine codeAny_mono (code_set_led1 (.ref l) (E := E) (Q₁ := fun obj s₁ => obj = .ref s.heap.objs.size ∧ s₁ = { s with heap := s.heap.push (bareSet w) }) ⟨rfl, rfl⟩) fun r s₁ hr => ?_
  match r, hr with
  | .error e, hr => exact hr
  | .ok .next, hr => exact hr.elim
  | .ok .brk, hr => exact hr.elim
  | .ok .cont, hr => exact hr.elim
  | .ok (.ret obj), hr =>
    obtain ⟨rfl, rfl⟩ := hr
    have atS : (s.heap.push (bareSet w)).get? s.heap.objs.size = some (bareSet w) := Heap.get?_push_size _ rfl
    have tyS : Shared.TypeIs { s with heap := s.heap.push (bareSet w) } (.ref s.heap.objs.size) "set" := ⟨_, atS, rfl⟩
    have li := F.called_set.init.lookup; have bi := F.called_set.init.bind (.ref s.heap.objs.size)
    (repeat (any_goals (first | assumption | wp_step)))
    refine codeAny_mono (codeAny_call_builtin (R := wants (fun r s₂ => r = .none ∧ ∃ g tk c, s₂ = { s with heap := g, toks := tk } ∧ SetS w g s.heap.objs.size (fun j => decide (j ∈ ns)) c ∧ c ≤ ns.length ∧ (∀ b o, s.heap.get? b = some o → g.get? b = some o)) E)
      F.called_set.init.plain F.entry_set_init (check_set_init_1 tyS ?_)) fun r₂ s₂ hr₂ => ?_
    · obtain ⟨⟨oc, od, odata, osl⟩, hol, hcl, nl, hdl⟩ := hl
      simp only at hcl hdl; subst hcl; subst hdl
      have hol2 : (s.heap.push (bareSet w)).get? l = some { cls := .type "list", dict := od, data := .seq its nl, slots := osl } := Heap.get?_push_of_some _ hol
      have f1 := F.sub_list_set; have f2 := F.sub_list_frozenset
      have f3 : (Value.type "list" == Value.type "dict") = false := by decide
      have hl1 : (s.heap.push (bareSet w)).IsList l its := ⟨_, hol2, rfl, nl, rfl⟩
      unfold Builtin.«set.__init__» noKeywords Builtin.Frozenset.updateFrom
      generalize hPI : pyIter = PI; wp_walk; subst hPI
      refine wpAny_pyIter_list hl1 (wpAny_bind (wpAny_runValue ?_))
      have lt : l < s.heap.objs.size := Heap.lt_size hol
      have hh3 : A.in1.in1.in1.handled = none := by simp [hh]
      have ne1 : l ≠ (s.heap.push (bareSet w)).objs.size := by rw [Heap.size_push]; exact Nat.ne_of_lt (Nat.lt_succ_of_lt lt)
      have off : s.heap.objs.size ∉ [(s.heap.push (bareSet w)).objs.size, l] := by
        rw [Heap.size_push]; simp only [List.mem_cons, List.not_mem_nil, or_false, not_or]; exact ⟨Nat.ne_of_lt (Nat.lt_succ_self _), Nat.ne_of_gt lt⟩
      have val : ∀ (i : Nat) (v : Value), its[i]? = some v → ∃ k t, ns[i]? = some k ∧ v = .str k t := fun i v hv => by
        obtain ⟨y, t, e, hy⟩ := hit.item i v (by rw [Array.getElem?_toList]; exact hv)
        exact ⟨y, t, hy, e⟩
      refine set_update_strs ((Walks.list hh3 _ l ne1 its).toS) s.heap.objs.size off ns many hb val (its.size - 0) 0 _ (by omega) (Nat.zero_le _) ⟨⟨_, Heap.get?_push_size _ rfl, rfl, rfl⟩, (hl1.push _)⟩ ?h0 ?hR
      case h0 => exact ⟨0, Nat.le_refl 0, setS_new_at (Heap.get?_push_of_some _ atS)⟩
      case hR =>
        rintro ⟨g, g2, d2, tk, os2⟩ c hm hc hS
        have e1 : g2 = s.gens := hm.gens
        have e2 : d2 = s.drawn := hm.drawn
        have e3 : os2 = s.os := hm.os
        subst e1 e2 e3
        refine (show wpAny _ _ _ _ _ _ from wpAny_pure (show wpAny _ _ (ret Value.none) _ _ _ from ?_))
        rw [many] at hc
        refine wpAny_pure ⟨rfl, g, tk, c, rfl, hS, hc, fun b o e => hm.heap b o ?_ (Heap.get?_push_of_some _ (Heap.get?_push_of_some _ e))⟩
        have b0 : b < s.heap.objs.size := Heap.lt_size e
        simp only [List.mem_cons, List.not_mem_nil, or_false, not_or, Heap.size_push]
        exact ⟨Nat.ne_of_lt b0, Nat.ne_of_lt (Nat.lt_succ_of_lt b0)⟩
    · match r₂, hr₂ with
      | .error e, hr₂ => exact hr₂
      | .ok .next, hr₂ => exact hr₂.elim
      | .ok .brk, hr₂ => exact hr₂.elim
      | .ok .cont, hr₂ => exact hr₂.elim
      | .ok (.ret r), hr₂ =>
        obtain ⟨rfl, g, tk, c, rfl, hS, hc, hk⟩ := hr₂
        (repeat (any_goals (first | assumption | wp_step)))
        exact done _ _ _ hS hc hk
def strOfV : Value → Str | .str k _ => k | _ => Str.empty
theorem strs_of_all : ∀ (l : List Value), (∀ v ∈ l, ∃ k tk, v = Value.str k tk) → StrsAre l (l.map strOfV)
  | [], _ => .nil
  | v :: l, h => by
    obtain ⟨k, tk, rfl⟩ := h v List.mem_cons_self
    exact .cons k tk (strs_of_all l fun u hu => h u (List.mem_cons_of_mem _ hu))
theorem sorted_setS {a : Addr} {S : Str → Bool} {n : Nat} {Q : Value → Shared → Prop} (R : SetS w s.heap a S n) (hh : A.handled = none) (h64 : n < 64)
    (hQ : ∀ s' p (out : Array Value) (c : Nat) (ns : List Str), (∀ b o, s.heap.get? b = some o → s'.heap.get? b = some o) → s'.gens = s.gens → s'.os = s.os → s.heap.objs.size ≤ p →
      s'.heap.get? p = some (seqObj "list" out c) → StrsAre out.toList ns → sortedS ns = true → ns.Nodup → (∀ k, k ∈ ns ↔ S k = true) → ns.length = n → Q (.ref p) s') :
    wpAny (model P w) A (call (.builtin "sorted") [.ref a]) Q E s := by
  obtain ⟨o, es, ep, t, ho, hex, hd, g, nd, hm, hb, hf, hn, hr, hl⟩ := R
  refine Calls.call_function_entry kind_sorted plain_sorted entry_sorted (args_sorted1 _) ?_
  unfold Builtin.«sorted»
  refine wpAny_bind (m := checkCount "sorted" 1 1 _) (wpAny_pure ?_)
  refine wpAny_bind (collect_set (A := A.in1) hh ⟨o, ho, hex.1, hd⟩ hf hb hr hl fun s1 vs k1 hz g1 o1 pm => ?_)
  have hvl : vs.length = n := by rw [pm.length_eq, List.length_map, Array.length_toList]; exact hn
  have hI : StrsAre vs (vs.map strOfV) := strs_of_all vs fun v hv => by
    obtain ⟨e, he, q⟩ := List.mem_map.mp (pm.mem_iff.mp hv)
    obtain ⟨k, tk, h1, _⟩ := g e he
    exact ⟨k, tk, by rw [← q]; exact h1⟩
  have pk : (vs.map strOfV).Perm (es.toList.map keyS) := by
    have q := pm.map strOfV
    rw [List.map_map] at q
    exact q
  refine wpAny_bind (wpAny_newList ?_ (by rw [hvl, sizeLine_eq]; omega))
  have hoL : (s1.heap.push (seqObj "list" vs.toArray 0)).get? s1.heap.objs.size = some (seqObj "list" vs.toArray 0) := Heap.get?_push_size _ rfl
  refine wpAny_bind (wpAny_holding (wpAny_call_entry slot_list_sort ⟨_, hoL, rfl⟩ entry_list_sort (list_sort_treeK strKind_oneLt hoL hI.keysOf (fun v₁ v₂ rest e => keyKind_strs (by rw [← e]; exact hI)) (by rw [hvl]; exact h64) fun st' hp hs => ⟨_, rfl, ?_⟩) (args_list_sort _)))
  obtain ⟨ns', a1, a2, a3⟩ := sorted_out_str hI hp hs
  obtain ⟨c, hc⟩ := sortedHeap_at (vs := vs) (out := (arrOf st').map (·.2)) hoL
  have pn : ns'.Perm (es.toList.map keyS) := a2.trans pk
  refine wpAny_pure ⟨_, rfl, hQ _ s1.heap.objs.size _ c ns' (fun b u e => ?_) g1 o1 hz hc a1 a3 (pn.nodup_iff.mpr nd) (fun k => by rw [pn.mem_iff, ← hm k]) ?_⟩
  · have q := k1 b u e
    have hlt := Heap.lt_size q
    show (sortedHeap (s1.heap.push (seqObj "list" vs.toArray 0)) s1.heap.objs.size vs ((arrOf st').map (·.2))).get? b = some u
    rw [sortedHeap_old (Nat.ne_of_lt hlt) (by rw [size_push']; exact Nat.lt_succ_of_lt hlt)]
    exact Heap.get?_push_of_some _ q
  · rw [pn.length_eq, List.length_map, Array.length_toList]; exact hn
end
end DV

namespace DV
open PySem L2
/-! ### texts in their order -/
def ltS (a b : Str) : Prop := a.cps.toList < b.cps.toList
instance (a b : Str) : Decidable (ltS a b) := inferInstanceAs (Decidable (a.cps.toList < b.cps.toList))
theorem ltS_irr (a : Str) : ¬ ltS a a := List.lt_irrefl a.cps.toList
theorem ltS_trans {a b c : Str} (h : ltS a b) (k : ltS b c) : ltS a c := List.lt_trans h k
theorem str_ext {a b : Str} (h : a.cps.toList = b.cps.toList) : a = b := by
  cases a with | mk a =>
  cases b with | mk b =>
  cases a with | mk a =>
  cases b with | mk b =>
  cases h
  rfl
theorem ltS_tri (a b : Str) : ltS a b ∨ a = b ∨ ltS b a := by
  by_cases h1 : ltS a b
  · exact .inl h1
  · by_cases h2 : ltS b a
    · exact .inr (.inr h2)
    · exact .inr (.inl (str_ext (List.le_antisymm (List.not_lt.mp h2) (List.not_lt.mp h1))))
def insS (x : Str) : List Str → List Str
  | [] => [x]
  | y :: ys => if x = y then y :: ys else if ltS x y then x :: y :: ys else y :: insS x ys
/-- a list of texts, each once, rising -/
def srtS (xs : List Str) : List Str := xs.foldr insS []
theorem insS_mem {x : Str} : ∀ {ys : List Str} {z : Str}, z ∈ insS x ys ↔ z = x ∨ z ∈ ys
  | [], z => by simp [insS]
  | y :: ys, z => by
    unfold insS
    split
    · rename_i h
      subst h
      simp
    · split
      · simp
      · rw [List.mem_cons, insS_mem, List.mem_cons]
        constructor
        · rintro (h | h | h)
          · exact .inr (.inl h)
          · exact .inl h
          · exact .inr (.inr h)
        · rintro (h | h | h)
          · exact .inr (.inl h)
          · exact .inl h
          · exact .inr (.inr h)
theorem insS_up {x : Str} : ∀ {ys : List Str}, ys.Pairwise ltS → (insS x ys).Pairwise ltS
  | [], _ => List.pairwise_singleton _ _
  | y :: ys, h => by
    obtain ⟨h1, h2⟩ := List.pairwise_cons.mp h
    unfold insS
    split
    · exact h
    · rename_i hne
      split
      · rename_i hlt
        refine List.pairwise_cons.mpr ⟨fun z hz => ?_, h⟩
        rcases List.mem_cons.mp hz with rfl | hz
        · exact hlt
        · exact ltS_trans hlt (h1 z hz)
      · rename_i hnl
        refine List.pairwise_cons.mpr ⟨fun z hz => ?_, insS_up h2⟩
        rcases insS_mem.mp hz with rfl | hz
        · rcases ltS_tri z y with h | h | h
          · exact absurd h hnl
          · exact absurd h hne
          · exact h
        · exact h1 z hz
theorem srtS_mem : ∀ {xs : List Str} {z : Str}, z ∈ srtS xs ↔ z ∈ xs
  | [], z => by simp [srtS]
  | x :: xs, z => by
    show z ∈ insS x (srtS xs) ↔ _
    rw [insS_mem, srtS_mem, List.mem_cons]
theorem srtS_up : ∀ xs : List Str, (srtS xs).Pairwise ltS
  | [] => List.Pairwise.nil
  | x :: xs => insS_up (srtS_up xs)
theorem upS_uniq : ∀ {xs ys : List Str}, xs.Pairwise ltS → ys.Pairwise ltS → (∀ z, z ∈ xs ↔ z ∈ ys) → xs = ys
  | [], [], _, _, _ => rfl
  | [], y :: ys, _, _, h => by have := (h y).mpr List.mem_cons_self; cases this
  | x :: xs, [], _, _, h => by have := (h x).mp List.mem_cons_self; cases this
  | x :: xs, y :: ys, hx, hy, h => by
    obtain ⟨x1, x2⟩ := List.pairwise_cons.mp hx
    obtain ⟨y1, y2⟩ := List.pairwise_cons.mp hy
    have e : x = y := by
      have h1 := (h x).mp List.mem_cons_self
      have h2 := (h y).mpr List.mem_cons_self
      rcases List.mem_cons.mp h1 with h1 | h1
      · exact h1
      · rcases List.mem_cons.mp h2 with h2 | h2
        · exact h2.symm
        · exact absurd (ltS_trans (y1 x h1) (x1 y h2)) (ltS_irr _)
    subst e
    rw [upS_uniq x2 y2 fun z => ?_]
    constructor
    · intro hz
      rcases List.mem_cons.mp ((h z).mp (List.mem_cons_of_mem _ hz)) with e | hz2
      · subst e; exact absurd (x1 _ hz) (ltS_irr _)
      · exact hz2
    · intro hz
      rcases List.mem_cons.mp ((h z).mpr (List.mem_cons_of_mem _ hz)) with e | hz2
      · subst e; exact absurd (y1 _ hz) (ltS_irr _)
      · exact hz2
theorem srtS_is {xs : List Str} (h : xs.Pairwise ltS) : srtS xs = xs := upS_uniq (srtS_up xs) h fun z => srtS_mem
theorem upS_nodup {xs : List Str} (h : xs.Pairwise ltS) : xs.Nodup := h.imp fun {a b} (hab : ltS a b) (e : a = b) => ltS_irr a (by rw [← e] at hab; exact hab)
theorem srtS_len (xs : List Str) : (srtS xs).length ≤ xs.length := List.Nodup.length_le_of_subset (upS_nodup (srtS_up xs)) fun z hz => srtS_mem.mp hz
theorem nodupS_len {xs ys : List Str} (hx : xs.Nodup) (hy : ys.Nodup) (h : ∀ z, z ∈ xs ↔ z ∈ ys) : xs.length = ys.length :=
  Nat.le_antisymm (List.Nodup.length_le_of_subset hx fun z hz => (h z).mp hz) (List.Nodup.length_le_of_subset hy fun z hz => (h z).mpr hz)
theorem risingS_pw : ∀ {p : Str} {l : List Str}, PyProof.Rows.risingS p l = true → (p :: l).Pairwise fun a b => ¬ ltS b a
  | p, [], _ => List.pairwise_singleton _ _
  | p, x :: r, h => by
    have h0 : (!Spec.ltCps x.cps.toList p.cps.toList && PyProof.Rows.risingS x r) = true := h
    rw [Bool.and_eq_true, Bool.not_eq_true', PyProof.Rows.ltCps_eq, decide_eq_false_iff_not] at h0
    have ih := risingS_pw h0.2
    refine List.pairwise_cons.mpr ⟨fun z hz => ?_, ih⟩
    rcases List.mem_cons.mp hz with rfl | hz
    · exact h0.1
    · have h2 := (List.pairwise_cons.mp ih).1 z hz
      intro h3
      rcases ltS_tri x z with h4 | h4 | h4
      · exact h0.1 (ltS_trans h4 h3)
      · subst h4; exact h0.1 h3
      · exact h2 h4
theorem sortedS_up {l : List Str} (h : PyProof.Rows.sortedS l = true) (hn : l.Nodup) : l.Pairwise ltS := by
  cases l with
  | nil => exact List.Pairwise.nil
  | cons p l =>
    have h1 := risingS_pw h
    have h2 : (p :: l).Pairwise fun a b => ¬ ltS b a ∧ a ≠ b := h1.and hn
    refine h2.imp fun {a b} hab => ?_
    rcases ltS_tri a b with h3 | h3 | h3
    · exact h3
    · exact absurd h3 hab.2
    · exact absurd h3 hab.1
/-! ### the set of texts among the heap's things -/
def SetSO (w : World) (a : Addr) (S : Str → Bool) (n : Nat) : HO := .ext fun h => SetS w h a S n
section
variable {X : Cx}
theorem setSO_new {w : World} {P : Program} {H : Hp} {h : Heap} {a : Addr} {S : Str → Bool} {n : Nat} (R : SetS w h a S n) : ObjOk P w H h a (SetSO w a S n) := by
  have ⟨o, _, _, _, ho, _⟩ := R
  exact ⟨R, ⟨o, ho⟩, fun h1 h2 p k => SetS.at p k⟩
theorem setSO_get {pins : List (Addr × Obj)} {σ : St} {H : Hp} {s : Shared} {a : Addr} {S : Str → Bool} {n : Nat} (I : Inv X pins σ H s) (ha : H a = some (SetSO X.w a S n)) : SetS X.w s.heap a S n := (I.hok a _ ha).1
def rSetOfT (K : PySem.W.Frag) (w : World) : List V → Hp → VK → Prop := fun xs H Q => ∃ (l : Addr) (ns : List Str), xs = [V.ref l] ∧ SqL K H l (ns.map V.str) ∧ ns.length ≤ 1000 ∧
  ∀ (p : Addr) (c : Nat), H p = none → c ≤ ns.length → Q (.ref p) (upd H p (SetSO w p (fun j => decide (j ∈ ns)) c))
theorem cr_setOfT {X : Cx} (hc : X.calm = true) : CallR X (.type "set") (rSetOfT X.K X.w) := by
  intro pins s σ H xs us Q I r h
  obtain ⟨l, ns, rfl, hq, hl, q⟩ := h
  obtain ⟨its, rv, pl, hz⟩ := I.list hq
  rw [Vals.ref1 r]
  refine call_setOfStrs ns (I.ok.hd hc) pl.isList (by simpa using rv.strs) (by unfold scanBound; omega) fun g tk c hS hc2 hk => ?_
  have hn : H s.heap.objs.size = none := I.hok.fresh (Nat.le_refl _)
  have J : Inv X pins σ (upd H s.heap.objs.size (SetSO X.w s.heap.objs.size (fun j => decide (j ∈ ns)) c)) { s with heap := g, toks := tk } :=
    I.call (ch := []) (Un.laid hk (Nat.le_refl _) hn) (I.hok.laid hk (Nat.le_refl _) (setSO_new hS)) I.bare (fun _ z => nomatch z)
  exact ⟨.ref s.heap.objs.size, _, J, rfl, q _ c hn hc2⟩
def rSortedT (w : World) : List V → Hp → VK → Prop := fun vs H Q => ∃ (a : Addr) (S : Str → Bool) (n : Nat), vs = [V.ref a] ∧ H a = some (SetSO w a S n) ∧ n < 64 ∧
  ∀ (ns : List Str) (p : Addr), ns.Pairwise ltS → (∀ k : Str, k ∈ ns ↔ S k = true) → ns.length = n → H p = none → Q (.ref p) (upd H p (.lst (ns.map V.str)))
theorem cr_sortedT (hc : X.calm = true) : CallR X (.builtin "sorted") (rSortedT X.w) := by
  intro pins s σ H vs us Q I r h
  obtain ⟨a, S, n, rfl, ha, h64, q⟩ := h
  have R := setSO_get I ha
  rw [Vals.ref1 r]
  refine sorted_setS R (I.ok.hd hc) h64 fun s' p out c ns k g o hp hg hi hs hnd hm hl => ?_
  have hlen : (ns.map V.str).length ≤ sizeLine := by rw [List.length_map, hl]; exact Nat.le_trans (Nat.le_of_lt h64) (by decide)
  have hn : H p = none := I.hok.fresh hp
  have J : Inv X pins σ (upd H p (.lst (ns.map V.str))) { s with heap := s'.heap, gens := s'.gens, drawn := s'.drawn, toks := s'.toks } :=
    I.call (ch := []) (Un.laid k hp hn) (I.hok.laid k hp ⟨hlen, out.toList, c, vals_of_strs hi, hg⟩) (by rw [g]; exact I.bare) (fun _ z => nomatch z)
  have e : s' = { s with heap := s'.heap, gens := s'.gens, drawn := s'.drawn, toks := s'.toks } := by
    cases s'
    cases s
    cases o
    rfl
  rw [e]
  exact ⟨.ref p, _, J, rfl, q ns p (sortedS_up hs hnd) hm hl hn⟩
def rLenT (w : World) : List V → Hp → VK → Prop := fun vs H Q => ∃ (a : Addr) (S : Str → Bool) (n : Nat), vs = [V.ref a] ∧ H a = some (SetSO w a S n) ∧ n ≤ 1000 ∧ ∀ ns : List Str, ns.Nodup → (∀ k : Str, k ∈ ns ↔ S k = true) → ns.length = n → Q (.int (n : Nat)) H
theorem cr_lenT : CallR X (.builtin "len") (rLenT X.w) := by
  intro pins s σ H vs us Q I r h
  obtain ⟨a, S, n, rfl, ha, h6, q⟩ := h
  obtain ⟨o, es, ep, t, ho, hex, hd, hg, hnd, hm, hb, hf, hn, hr, hl⟩ := setSO_get I ha
  rw [Vals.ref1 r]
  refine PySem.call_len_set ho hex hd hf (by omega) ⟨.int (n : Nat), H, I.tok _, ⟨_, by rw [hn]⟩, q (es.toList.map keyS) hnd (fun k => (hm k).symm) ?_⟩
  rw [List.length_map, Array.length_toList]
  exact hn
end
/-! ### sorted(set(xs)), len(set(xs)) of texts -/
def kSrtSetT : List D → Option D
  | [.lst _ ds] => match strsO ds with
    | some ns => if ns.length < 64 then some (.lst true ((srtS ns).map .str)) else none
    | none => none
  | _ => none
def kLenSetT : List D → Option D
  | [.lst _ ds] => match strsO ds with
    | some ns => if ns.length ≤ 1000 then some (.int ((srtS ns).length : Nat)) else none
    | none => none
  | _ => none
def rSrtSetT (K : PySem.W.Frag) (w : World) : List V → Hp → VK → Prop := fun vs H Q => rSetOfT K w vs H fun x H1 => rSortedT w [x] H1 Q
def rLenSetT (K : PySem.W.Frag) (w : World) : List V → Hp → VK → Prop := fun vs H Q => rSetOfT K w vs H fun x H1 => rLenT w [x] H1 Q
section
variable {X : Cx} {g : Cfg} {W : WX}
theorem ins_srtSetT (hK : X.K = g.K) : Ins g kSrtSetT (rSrtSetT X.K X.w) := by
  intro G H ds vs d Q b e fin
  match ds, e, b with
  | [.lst o es], e, b =>
    obtain ⟨v, A, rfl, r⟩ := bor1 b
    simp only [kSrtSetT] at e
    cases hi : strsO es with
    | none => rw [hi] at e; cases e
    | some ns =>
      rw [hi] at e
      simp only at e
      split at e
      · rename_i c
        cases e
        obtain ⟨p, us, rfl, hp, rs⟩ := lst_tr r
        refine ⟨p, ns, rfl, by rw [← strs_of rs hi]; exact .inl (.inl hp), by omega, fun q c2 hq hc2 => ?_⟩
        refine ⟨q, _, c2, rfl, upd_same, by omega, fun ms p2 h1 h2 h3 h4 => ?_⟩
        have e1 : ms = srtS ns := upS_uniq h1 (srtS_up ns) fun z => by rw [h2 z, srtS_mem, decide_eq_true_eq]
        rw [e1]
        have sm := same_new (o := SetSO X.w q (fun j => decide (j ∈ ns)) c2) hq
        refine fin (.ref p2) _ (fun a => a = p2) (sm.trans (same_new h4)) ⟨p2, _, Fe, rfl, ⟨upd_same, rfl⟩, fun _ z => z.elim, reps_strs _⟩ fun a h => ?_
        rw [show a = p2 from h]
        refine ⟨?_, by rw [upd_same]; trivial⟩
        by_cases e2 : p2 = q
        · rw [e2]; exact hq
        · rw [upd_ne e2] at h4; exact h4
      · cases e
theorem ins_lenSetT (hK : X.K = g.K) : Ins g kLenSetT (rLenSetT X.K X.w) := by
  intro G H ds vs d Q b e fin
  match ds, e, b with
  | [.lst o es], e, b =>
    obtain ⟨v, A, rfl, r⟩ := bor1 b
    simp only [kLenSetT] at e
    cases hi : strsO es with
    | none => rw [hi] at e; cases e
    | some ns =>
      rw [hi] at e
      simp only at e
      split at e
      · rename_i c
        cases e
        obtain ⟨p, us, rfl, hp, rs⟩ := lst_tr r
        refine ⟨p, ns, rfl, by rw [← strs_of rs hi]; exact .inl (.inl hp), c, fun q c2 hq hc2 => ?_⟩
        refine ⟨q, _, c2, rfl, upd_same, by omega, fun ms h1 h2 h3 => ?_⟩
        have e1 : (srtS ns).length = c2 := by
          rw [← h3]
          exact nodupS_len (upS_nodup (srtS_up ns)) h1 fun z => by rw [srtS_mem, h2 z, decide_eq_true_eq]
        rw [← e1]
        exact fin (.int _) _ Fe (same_new hq) rfl fun a h => h.elim
      · cases e
theorem se_srtSetT {p p2 q pos : Pos} {a : Expr} {oa : Od} (hK : X.K = g.K) (hc : X.calm = true) (hg : Gl X "sorted") (hm : X.mg "sorted" = none) (hg2 : Gl X "set") (hm2 : X.mg "set" = none) (ha : SO X g W a oa)
    (na : starEach [a] X.env = (false, eval a X.env) :: starEach [] X.env := by rfl)
    (nl : starEach [Expr.Call (.Name "set" p2) [a] [] q] X.env = (false, eval (Expr.Call (.Name "set" p2) [a] [] q) X.env) :: starEach [] X.env := by rfl) :
    SE X g W (.Call (.Name "sorted" p) [.Call (.Name "set" p2) [a] [] q] [] pos) (eOps kSrtSetT [oa]) :=
  PE.imp (pe_callB (cr_sortedT hc) hg hm (by decide +kernel) (pa_cons (pe_callTy (cr_setOfT hc) hg2 hm2 (by decide +kernel) (pa_cons ha pa_nil na) (by decide) (by decide) na) pa_nil nl) (by decide) (by decide) nl) fun σ H Q ⟨G, δ, F, S, P⟩ => ops_run (ins_srtSetT hK) S P
theorem se_lenSetT {p p2 q pos : Pos} {a : Expr} {oa : Od} (hK : X.K = g.K) (hc : X.calm = true) (hg : Gl X "len") (hm : X.mg "len" = none) (hg2 : Gl X "set") (hm2 : X.mg "set" = none) (ha : SO X g W a oa)
    (na : starEach [a] X.env = (false, eval a X.env) :: starEach [] X.env := by rfl)
    (nl : starEach [Expr.Call (.Name "set" p2) [a] [] q] X.env = (false, eval (Expr.Call (.Name "set" p2) [a] [] q) X.env) :: starEach [] X.env := by rfl) :
    SE X g W (.Call (.Name "len" p) [.Call (.Name "set" p2) [a] [] q] [] pos) (eOps kLenSetT [oa]) :=
  PE.imp (pe_callB cr_lenT hg hm (by decide +kernel) (pa_cons (pe_callTy (cr_setOfT hc) hg2 hm2 (by decide +kernel) (pa_cons ha pa_nil na) (by decide) (by decide) na) pa_nil nl) (by decide) (by decide) nl) fun σ H Q ⟨G, δ, F, S, P⟩ => ops_run (ins_lenSetT hK) S P
end
theorem kSrtSet_strs {o : Bool} {ns : List Str} (h : ns.length < 64) : kSrtSetT [.lst o (ns.map .str)] = some (.lst true ((srtS ns).map .str)) := by
  simp only [kSrtSetT, strsO_map, h, if_true]
theorem kLenSet_strs {o : Bool} {ns : List Str} (h : ns.length ≤ 1000) : kLenSetT [.lst o (ns.map .str)] = some (.int ((srtS ns).length : Nat)) := by
  simp only [kLenSetT, strsO_map, h, if_true]
end DV

namespace DV
open PySem L2
/-! ### pairs of whole numbers in their order -/
def ltP (a b : Int × Int) : Prop := a.1 < b.1 ∨ (a.1 = b.1 ∧ a.2 < b.2)
instance (a b : Int × Int) : Decidable (ltP a b) := inferInstanceAs (Decidable (a.1 < b.1 ∨ (a.1 = b.1 ∧ a.2 < b.2)))
theorem ltP_irr (a : Int × Int) : ¬ ltP a a := by unfold ltP; omega
theorem ltP_trans {a b c : Int × Int} (h : ltP a b) (k : ltP b c) : ltP a c := by unfold ltP at *; omega
theorem ltP_tri (a b : Int × Int) : ltP a b ∨ a = b ∨ ltP b a := by
  obtain ⟨a1, a2⟩ := a
  obtain ⟨b1, b2⟩ := b
  by_cases h : a1 = b1 ∧ a2 = b2
  · exact .inr (.inl (by rw [h.1, h.2]))
  · unfold ltP
    simp only
    omega
def insP (x : Int × Int) : List (Int × Int) → List (Int × Int)
  | [] => [x]
  | y :: ys => if x = y then y :: ys else if ltP x y then x :: y :: ys else y :: insP x ys
/-- a list of pairs, each once, rising -/
def srtPr (xs : List (Int × Int)) : List (Int × Int) := xs.foldr insP []
theorem insP_mem {x : Int × Int} : ∀ {ys : List (Int × Int)} {z : Int × Int}, z ∈ insP x ys ↔ z = x ∨ z ∈ ys
  | [], z => by simp [insP]
  | y :: ys, z => by
    unfold insP
    split
    · rename_i h
      subst h
      simp
    · split
      · simp
      · rw [List.mem_cons, insP_mem, List.mem_cons]
        constructor
        · rintro (h | h | h)
          · exact .inr (.inl h)
          · exact .inl h
          · exact .inr (.inr h)
        · rintro (h | h | h)
          · exact .inr (.inl h)
          · exact .inl h
          · exact .inr (.inr h)
theorem insP_up {x : Int × Int} : ∀ {ys : List (Int × Int)}, ys.Pairwise ltP → (insP x ys).Pairwise ltP
  | [], _ => List.pairwise_singleton _ _
  | y :: ys, h => by
    obtain ⟨h1, h2⟩ := List.pairwise_cons.mp h
    unfold insP
    split
    · exact h
    · rename_i hne
      split
      · rename_i hlt
        refine List.pairwise_cons.mpr ⟨fun z hz => ?_, h⟩
        rcases List.mem_cons.mp hz with rfl | hz
        · exact hlt
        · exact ltP_trans hlt (h1 z hz)
      · rename_i hnl
        refine List.pairwise_cons.mpr ⟨fun z hz => ?_, insP_up h2⟩
        rcases insP_mem.mp hz with rfl | hz
        · rcases ltP_tri z y with h | h | h
          · exact absurd h hnl
          · exact absurd h hne
          · exact h
        · exact h1 z hz
theorem srtPr_mem : ∀ {xs : List (Int × Int)} {z : Int × Int}, z ∈ srtPr xs ↔ z ∈ xs
  | [], z => by simp [srtPr]
  | x :: xs, z => by
    show z ∈ insP x (srtPr xs) ↔ _
    rw [insP_mem, srtPr_mem, List.mem_cons]
theorem srtPr_up : ∀ xs : List (Int × Int), (srtPr xs).Pairwise ltP
  | [] => List.Pairwise.nil
  | x :: xs => insP_up (srtPr_up xs)
theorem upP_uniq : ∀ {xs ys : List (Int × Int)}, xs.Pairwise ltP → ys.Pairwise ltP → (∀ z, z ∈ xs ↔ z ∈ ys) → xs = ys
  | [], [], _, _, _ => rfl
  | [], y :: ys, _, _, h => by have := (h y).mpr List.mem_cons_self; cases this
  | x :: xs, [], _, _, h => by have := (h x).mp List.mem_cons_self; cases this
  | x :: xs, y :: ys, hx, hy, h => by
    obtain ⟨x1, x2⟩ := List.pairwise_cons.mp hx
    obtain ⟨y1, y2⟩ := List.pairwise_cons.mp hy
    have e : x = y := by
      have h1 := (h x).mp List.mem_cons_self
      have h2 := (h y).mpr List.mem_cons_self
      rcases List.mem_cons.mp h1 with h1 | h1
      · exact h1
      · rcases List.mem_cons.mp h2 with h2 | h2
        · exact h2.symm
        · exact absurd (ltP_trans (y1 x h1) (x1 y h2)) (ltP_irr _)
    subst e
    rw [upP_uniq x2 y2 fun z => ?_]
    constructor
    · intro hz
      rcases List.mem_cons.mp ((h z).mp (List.mem_cons_of_mem _ hz)) with e | hz2
      · subst e; exact absurd (x1 _ hz) (ltP_irr _)
      · exact hz2
    · intro hz
      rcases List.mem_cons.mp ((h z).mpr (List.mem_cons_of_mem _ hz)) with e | hz2
      · subst e; exact absurd (y1 _ hz) (ltP_irr _)
      · exact hz2
theorem upP_nodup {xs : List (Int × Int)} (h : xs.Pairwise ltP) : xs.Nodup := h.imp fun {a b} (hab : ltP a b) (e : a = b) => ltP_irr a (by rw [← e] at hab; exact hab)
theorem srtPr_len (xs : List (Int × Int)) : (srtPr xs).length ≤ xs.length := List.Nodup.length_le_of_subset (upP_nodup (srtPr_up xs)) fun z hz => srtPr_mem.mp hz
/-! ### sorted(set(xs)) of pairs -/
def prD (p : Int × Int) : D := .tup [.int p.1, .int p.2]
def pairsO : List D → Option (List (Int × Int))
  | [] => some []
  | .tup [.int a, .int b] :: ds => (pairsO ds).map ((a, b) :: ·)
  | _ => none
theorem pairsO_map : ∀ ps : List (Int × Int), pairsO (ps.map prD) = some ps
  | [] => rfl
  | p :: ps => by
    show pairsO (.tup [.int p.1, .int p.2] :: ps.map prD) = _
    rw [pairsO, pairsO_map ps]
    rfl
def kSrtSetP : List D → Option D
  | [.lst _ ds] => match pairsO ds with
    | some ps => if ps.length < 64 ∧ (ps.all fun p => decide (0 ≤ p.1 ∧ p.1 < 1048576 ∧ 0 ≤ p.2 ∧ p.2 < 1048576)) = true then some (.lst true ((srtPr ps).map prD)) else none
    | none => none
  | _ => none
theorem code2 (x y : Int) : TS.code 1048576 [x, y] = x * 1048576 + y := by
  have e1 : (1048576 : Int) ^ 1 = 1048576 := by decide
  have e0 : (1048576 : Int) ^ 0 = 1 := by decide
  show x * 1048576 ^ 1 + (y * 1048576 ^ 0 + 0) = x * 1048576 + y
  rw [e1, e0, Int.mul_one, Int.add_zero]
section
variable {X : Cx} {g : Cfg} {W : WX}
def pOfL : List Int → Int × Int | [a, b] => (a, b) | _ => (0, 0)
theorem pairs_of {G : Fp} {H : Hp} : ∀ {ds : List D} {vs : List V} {ps : List (Int × Int)} {A : Fp}, Reps g G H ds vs A → pairsO ds = some ps →
    ∃ ks : List (Addr × List Int), vs = ks.map (fun p => V.ref p.1) ∧ (∀ p ∈ ks, SqT g.K H p.1 (p.2.map V.int)) ∧ ks.map (·.2) = ps.map fun p => [p.1, p.2]
  | [], vs, ps, _, h, e => by cases e; exact ⟨[], h, fun _ h => (nomatch h), rfl⟩
  | d :: ds, _, ps, _, ⟨v, vr, F1, F2, e1, l1, l2, dj, r, rs⟩, e => by
    subst e1
    match d, e, r with
    | .tup [.int a, .int b], e, r =>
      simp only [pairsO] at e
      cases e2 : pairsO ds with
      | none => rw [e2] at e; cases e
      | some qs =>
        rw [e2] at e
        cases e
        obtain ⟨ks, h1, h2, h3⟩ := pairs_of rs e2
        obtain ⟨p, us, rfl, hp, ru⟩ := tup_tr r
        have hu : us = [V.int a, V.int b] := ints_of (bs := [a, b]) ru rfl
        rw [hu] at hp
        refine ⟨(p, [a, b]) :: ks, by rw [h1]; rfl, fun q hq => ?_, by rw [List.map_cons, List.map_cons, h3]⟩
        rcases List.mem_cons.mp hq with rfl | hq
        · exact hp
        · exact h2 q hq
theorem reps_prs {G : Fp} {H : Hp} : ∀ {L : List (Addr × List Int)} {ps : List (Int × Int)}, L.map (·.2) = ps.map (fun p => [p.1, p.2]) → (∀ p ∈ L, SqT g.K H p.1 (p.2.map V.int)) →
    Reps g G H (ps.map prD) (L.map fun p => V.ref p.1) Fe
  | [], [], _, _ => rfl
  | [], p :: ps, h, _ => by cases h
  | l :: L, [], h, _ => by cases h
  | l :: L, p :: ps, h, hs => by
    rw [List.map_cons, List.map_cons] at h
    obtain ⟨h1, h2⟩ := List.cons.inj h
    have hl := hs l List.mem_cons_self
    rw [h1] at hl
    exact ⟨V.ref l.1, _, Fe, Fe, rfl, Le.refl _, Le.refl _, fun _ z => z.elim, ⟨l.1, _, rfl, hl, reps_ints [p.1, p.2]⟩, reps_prs h2 fun q hq => hs q (List.mem_cons_of_mem _ hq)⟩
theorem keys_pairs {L : List (Addr × List Int)} {ps : List (Int × Int)} (h : ∀ p ∈ L, ∃ q ∈ ps, p.2 = [q.1, q.2]) : L.map (·.2) = (L.map fun p => pOfL p.2).map fun p => [p.1, p.2] := by
  rw [List.map_map]
  apply List.map_congr_left
  intro p hp
  obtain ⟨q, _, e⟩ := h p hp
  show p.2 = _
  rw [show ((fun p : Int × Int => [p.1, p.2]) ∘ fun p : Addr × List Int => pOfL p.2) p = [(pOfL p.2).1, (pOfL p.2).2] from rfl, e]
  rfl
def rSrtSetP (X : Cx) : List V → Hp → VK → Prop := fun vs H Q => L2.rSetOfT X.K X.prog X.w vs H fun x H1 => L2.rSortedT X.K X.prog X.w [x] H1 Q
theorem ins_srtSetP (hK : X.K = g.K) : Ins g kSrtSetP (rSrtSetP X) := by
  intro G H ds vs d Q b e fin
  match ds, e, b with
  | [.lst o es], e, b =>
    obtain ⟨v, A, rfl, r⟩ := bor1 b
    simp only [kSrtSetP] at e
    cases hi : pairsO es with
    | none => rw [hi] at e; cases e
    | some ps =>
      rw [hi] at e
      simp only at e
      split at e
      · rename_i c
        cases e
        obtain ⟨c1, c2⟩ := c
        obtain ⟨p, us, rfl, hp, rs⟩ := lst_tr r
        obtain ⟨ks, k1, k2, k3⟩ := pairs_of rs hi
        have hlen : ks.length = ps.length := by have := congrArg List.length k3; simpa using this
        have hmem : ∀ q ∈ ks, ∃ z ∈ ps, q.2 = [z.1, z.2] := fun q hq => by
          have : q.2 ∈ ps.map fun p => [p.1, p.2] := by rw [← k3]; exact List.mem_map.mpr ⟨q, hq, rfl⟩
          obtain ⟨z, hz, ez⟩ := List.mem_map.mp this
          exact ⟨z, hz, ez.symm⟩
        refine ⟨p, ks, rfl, by rw [← k1]; exact .inl (.inl hp), by rw [hK]; exact k2, by omega, fun q L hq hL1 hL2 => ?_⟩
        have sm := same_new (o := SetTO X.prog X.w q L) hq
        have hsq : ∀ z ∈ L, SqT g.K (upd H q (SetTO X.prog X.w q L)) z.1 (z.2.map V.int) := fun z hz => by
          obtain ⟨w, hw, ew⟩ := hmem z (hL1 z hz)
          have h1 := k2 z (hL1 z hz)
          exact sqT_keep (G := G) (U := Fe) h1 (fun a o e _ => sm a o e) (fun _ z => z.elim)
        refine ⟨q, L, 2, 1048576, rfl, upd_same, by rw [hK]; exact hsq, by omega, fun z hz => ?_, fun L' p2 h1 h2 h3 h4 h5 => ?_⟩
        · obtain ⟨w, hw, ew⟩ := hmem z (hL1 z hz)
          have hb := of_decide_eq_true (List.all_eq_true.mp c2 w hw)
          rw [ew]
          refine ⟨rfl, fun m hm => ?_⟩
          simp only [List.mem_cons, List.not_mem_nil, or_false] at hm
          rcases hm with rfl | rfl
          · exact ⟨hb.1, hb.2.1⟩
          · exact ⟨hb.2.2.1, hb.2.2.2⟩
        · have hm' : ∀ z ∈ L', ∃ w ∈ ps, z.2 = [w.1, w.2] := fun z hz => hmem z (hL1 z (h1.mem_iff.mp hz))
          have kk := keys_pairs hm'
          have e1 : (L'.map fun p => pOfL p.2) = srtPr ps := by
            refine upP_uniq ?_ (srtPr_up ps) fun z => ?_
            · have hnd : (L'.map fun p => pOfL p.2).Nodup := by
                rw [kk] at h2
                exact List.Pairwise.of_map (fun p : Int × Int => [p.1, p.2]) (fun a b hne e => hne (congrArg (fun p : Int × Int => [p.1, p.2]) e)) h2
              have hpw : (L'.map fun p => pOfL p.2).Pairwise fun a b => ¬ ltP b a := by
                rw [List.pairwise_map]
                refine List.Pairwise.imp_of_mem (fun {a b} ha hb hab => ?_) h4
                obtain ⟨w, hw, ew⟩ := hm' a ha
                obtain ⟨u, hu, eu⟩ := hm' b hb
                have b1 := of_decide_eq_true (List.all_eq_true.mp c2 w hw)
                have b2 := of_decide_eq_true (List.all_eq_true.mp c2 u hu)
                rw [ew, eu, code2, code2] at hab
                rw [ew, eu]
                show ¬ ltP (u.1, u.2) (w.1, w.2)
                unfold ltP
                simp only
                omega
              refine (hpw.and hnd).imp fun {a b} hab => ?_
              rcases ltP_tri a b with h | h | h
              · exact h
              · exact absurd h hab.2
              · exact absurd h hab.1
            · rw [srtPr_mem, List.mem_map]
              constructor
              · rintro ⟨a, ha, rfl⟩
                obtain ⟨w, hw, ew⟩ := hm' a ha
                rw [ew]
                exact hw
              · intro hz
                have : [z.1, z.2] ∈ ks.map (·.2) := by rw [k3]; exact List.mem_map.mpr ⟨z, hz, rfl⟩
                obtain ⟨a, ha, ea⟩ := List.mem_map.mp this
                obtain ⟨b, hb, eb⟩ := List.mem_map.mp (hL2 a ha)
                exact ⟨b, h1.mem_iff.mpr hb, by rw [eb, ea]; rfl⟩
          rw [e1] at kk
          have sm2 := same_new (o := HO.lst (L'.map fun q => V.ref q.1)) h5
          refine fin (.ref p2) _ (fun a => a = p2) (sm.trans sm2) ⟨p2, _, Fe, rfl, ⟨upd_same, rfl⟩, fun _ z => z.elim, (reps_prs kk fun z hz => hsq z (h1.mem_iff.mp hz)).same sm2⟩ fun a h => ?_
          rw [show a = p2 from h]
          refine ⟨?_, by rw [upd_same]; trivial⟩
          by_cases e2 : p2 = q
          · rw [e2]; exact hq
          · rw [upd_ne e2] at h5; exact h5
      · cases e
theorem se_srtSetP {k : Nat} {p p2 q pos : Pos} {a : Expr} {oa : Od} (hK : X.K = g.K) (hr : Room k X.A) (hc : X.calm = true) (hg : Gl X "sorted") (hm : X.mg "sorted" = none) (hg2 : Gl X "set") (hm2 : X.mg "set" = none) (ha : SO X g W a oa)
    (na : starEach [a] X.env = (false, eval a X.env) :: starEach [] X.env := by rfl)
    (nl : starEach [Expr.Call (.Name "set" p2) [a] [] q] X.env = (false, eval (Expr.Call (.Name "set" p2) [a] [] q) X.env) :: starEach [] X.env := by rfl) :
    SE X g W (.Call (.Name "sorted" p) [.Call (.Name "set" p2) [a] [] q] [] pos) (eOps kSrtSetP [oa]) :=
  PE.imp (pe_callB (L2.cr_sortedT hc) hg hm (by decide +kernel) (pa_cons (pe_callTy (L2.cr_setOfT hc (by have := hr.un; omega)) hg2 hm2 (by decide +kernel) (pa_cons ha pa_nil na) (by decide) (by decide) na) pa_nil nl) (by decide) (by decide) nl) fun σ H Q ⟨G, δ, F, S, P⟩ => ops_run (ins_srtSetP hK) S P
end
theorem kSrtSet_pairs {o : Bool} {ps : List (Int × Int)} (h : ps.length < 64) (hb : ∀ p ∈ ps, 0 ≤ p.1 ∧ p.1 < 1048576 ∧ 0 ≤ p.2 ∧ p.2 < 1048576) : kSrtSetP [.lst o (ps.map prD)] = some (.lst true ((srtPr ps).map prD)) := by
  simp only [kSrtSetP, pairsO_map]
  rw [if_pos ⟨h, List.all_eq_true.mpr fun p hp => decide_eq_true (hb p hp)⟩]
end DV

namespace DV
open PySem L2 RZ
def topS (i : Nat) : Stmt := PySem.Challenge.pw_lettolls_k62_tickets_written.main.body.getD i (.Pass ⟨0, 0, 0, 0⟩)
abbrev s_ticket_text : Stmt := topS 6
theorem sc_ticket_text : FnScope ["number", "at", "rest", "signs"] ["number", "at"] (defScope s_ticket_text) := ⟨rfl, rfl, rfl, by decide +kernel, rfl, by decide +kernel, by decide +kernel⟩
abbrev s_ticket_in : Stmt := topS 7
theorem sc_ticket_in : FnScope ["text", "number", "at", "sign"] ["text"] (defScope s_ticket_in) := ⟨rfl, rfl, rfl, by decide +kernel, rfl, by decide +kernel, by decide +kernel⟩
abbrev s_l_dip : Stmt := topS 9
theorem sc_l_dip : FnScope ["_law_script", "_law_k", "_law_cell"] ["_law_script", "_law_k"] (defScope s_l_dip) := ⟨rfl, rfl, rfl, by decide +kernel, rfl, by decide +kernel, by decide +kernel⟩
abbrev s_l_take : Stmt := topS 10
theorem sc_l_take : FnScope ["_law_box", "_law_many", "_law_found", "_law_once", "_law_twice"] ["_law_box", "_law_many"] (defScope s_l_take) := ⟨rfl, rfl, rfl, by decide +kernel, rfl, by decide +kernel, by decide +kernel⟩
abbrev s_l_folded : Stmt := topS 11
theorem sc_l_folded : FnScope ["_law_script", "_law_size", "_law_cells", "_law_k", "_law_cell"] ["_law_script", "_law_size"] (defScope s_l_folded) := ⟨rfl, rfl, rfl, by decide +kernel, rfl, by decide +kernel, by decide +kernel⟩
abbrev s_l_one_of : Stmt := topS 12
theorem sc_l_one_of : FnScope ["_law_box", "_law_some"] ["_law_box", "_law_some"] (defScope s_l_one_of) := ⟨rfl, rfl, rfl, by decide +kernel, rfl, by decide +kernel, by decide +kernel⟩
abbrev s_l_same : Stmt := topS 13
theorem sc_l_same : FnScope ["_law_found", "_law_due_here", "_law_one", "_law_other"] ["_law_found", "_law_due_here"] (defScope s_l_same) := ⟨rfl, rfl, rfl, by decide +kernel, rfl, by decide +kernel, by decide +kernel⟩
abbrev s_l_due : Stmt := topS 14
theorem sc_l_due : FnScope ["_law_whole", "_law_spot", "_law_signs", "_law_rest", "_law_found", "_law_k"] ["_law_whole", "_law_spot"] (defScope s_l_due) := ⟨rfl, rfl, rfl, by decide +kernel, rfl, by decide +kernel, by decide +kernel⟩
abbrev s_l_right : Stmt := topS 15
theorem sc_l_right : FnScope ["_law_box", "_law_some", "_law_turn", "_law_near", "_law_whole", "_law_spot", "_law_rising"] ["_law_box"] (defScope s_l_right) := ⟨rfl, rfl, rfl, by decide +kernel, rfl, by decide +kernel, by decide +kernel⟩
abbrev s_law : Stmt := topS 16
theorem sc_law : FnScope ["_law_script", "_law_cells", "_law_k"] ["_law_script"] (defScope s_law) := ⟨rfl, rfl, rfl, by decide +kernel, rfl, by decide +kernel, by decide +kernel⟩
structure Top (K : PySem.W.Frag) (mg : Str → Option Value) where
  a_ticket_text : Addr
  fd_ticket_text : FuncData
  F_ticket_text : FunDD K "ticket_text" "ticket_text" s_ticket_text [] a_ticket_text fd_ticket_text
  g_ticket_text : mg "ticket_text" = some (.ref a_ticket_text)
  a_ticket_in : Addr
  fd_ticket_in : FuncData
  F_ticket_in : FunDD K "ticket_in" "ticket_in" s_ticket_in [] a_ticket_in fd_ticket_in
  g_ticket_in : mg "ticket_in" = some (.ref a_ticket_in)
  a_l_dip : Addr
  fd_l_dip : FuncData
  F_l_dip : FunDD K "_law_dip" "_law_dip" s_l_dip [] a_l_dip fd_l_dip
  g_l_dip : mg "_law_dip" = some (.ref a_l_dip)
  a_l_take : Addr
  fd_l_take : FuncData
  F_l_take : FunDD K "_law_take" "_law_take" s_l_take [] a_l_take fd_l_take
  g_l_take : mg "_law_take" = some (.ref a_l_take)
  a_l_folded : Addr
  fd_l_folded : FuncData
  F_l_folded : FunDD K "_law_folded" "_law_folded" s_l_folded [] a_l_folded fd_l_folded
  g_l_folded : mg "_law_folded" = some (.ref a_l_folded)
  a_l_one_of : Addr
  fd_l_one_of : FuncData
  F_l_one_of : FunDD K "_law_one_of" "_law_one_of" s_l_one_of [] a_l_one_of fd_l_one_of
  g_l_one_of : mg "_law_one_of" = some (.ref a_l_one_of)
  a_l_same : Addr
  fd_l_same : FuncData
  F_l_same : FunDD K "_law_same" "_law_same" s_l_same [] a_l_same fd_l_same
  g_l_same : mg "_law_same" = some (.ref a_l_same)
  a_l_due : Addr
  fd_l_due : FuncData
  F_l_due : FunDD K "_law_due" "_law_due" s_l_due [] a_l_due fd_l_due
  g_l_due : mg "_law_due" = some (.ref a_l_due)
  a_l_right : Addr
  fd_l_right : FuncData
  F_l_right : FunDD K "_law_right" "_law_right" s_l_right [] a_l_right fd_l_right
  g_l_right : mg "_law_right" = some (.ref a_l_right)
  a_law : Addr
  fd_law : FuncData
  F_law : FunDD K "law" "law" s_law [] a_law fd_law
  kb_l_dip_2 : KB K fd_l_dip ["_law_script", "_law_k"] 2 [] [(.u 0), (.u 1)] []
  kb_l_due_2 : KB K fd_l_due ["_law_whole", "_law_spot"] 2 [] [(.u 0), (.u 1)] []
  kb_l_folded_2 : KB K fd_l_folded ["_law_script", "_law_size"] 2 [] [(.u 0), (.u 1)] []
  kb_l_one_of_2 : KB K fd_l_one_of ["_law_box", "_law_some"] 2 [] [(.u 0), (.u 1)] []
  kb_l_right_1 : KB K fd_l_right ["_law_box"] 1 [] [(.u 0)] []
  kb_l_same_2 : KB K fd_l_same ["_law_found", "_law_due_here"] 2 [] [(.u 0), (.u 1)] []
  kb_l_take_2 : KB K fd_l_take ["_law_box", "_law_many"] 2 [] [(.u 0), (.u 1)] []
  kb_ticket_in_0_text : KB K fd_ticket_in ["text"] 0 ["text"] [(.w 0)] []
  kb_ticket_text_0_at_number : KB K fd_ticket_text ["number", "at"] 0 ["at", "number"] [(.w 1), (.w 0)] []
  kb_ticket_text_2 : KB K fd_ticket_text ["number", "at"] 2 [] [(.u 0), (.u 1)] []
  c_BASE : ∃ u, mg "BASE" = some u ∧ RelV (.int 16) u
  c_FIGURES : ∃ u, mg "FIGURES" = some u ∧ RelV (.str "0123456789ABCDEF") u
  c_MOST_AT : ∃ u, mg "MOST_AT" = some u ∧ RelV (.int 9) u
  c_MOST_NUMBER : ∃ u, mg "MOST_NUMBER" = some u ∧ RelV (.int 9999) u
  c_SIGNS : ∃ u, mg "SIGNS" = some u ∧ RelV (.int 5) u
  z_abs : mg "abs" = none
  z_all : mg "all" = none
  z_bool : mg "bool" = none
  z_divmod : mg "divmod" = none
  z_enumerate : mg "enumerate" = none
  z_int : mg "int" = none
  z_isinstance : mg "isinstance" = none
  z_len : mg "len" = none
  z_list : mg "list" = none
  z_max : mg "max" = none
  z_range : mg "range" = none
  z_set : mg "set" = none
  z_sorted : mg "sorted" = none
  z_str : mg "str" = none
  z_tuple : mg "tuple" = none
  z_zip : mg "zip" = none
abbrev Top.cf {K : PySem.W.Frag} {mg : Str → Option Value} (T : Top K mg) : Cfg := ⟨K, fun _ => 0⟩
-- 0 number, 1 at, 2 rest, 3 signs
noncomputable def b_ticket_text : Sv :=
  (sSeq (sSet 2 (eOps kAdd [.val (eOps kMulE [.val (eC (.int 16)), .var 0]), .var 1]))
  (sSeq (sSet 3 (eC (.str "")))
  (sSeq (sWhile 8 (eB (eOps kGt [.var 2, .val (eC (.int 0))]))
    (sSeq (sSet 3 (eOps kAdd [.val (eOps kIx [.val (eC (.str "0123456789ABCDEF")), .val (eOps kMod [.var 2, .val (eC (.int 16))])]), .var 3]))
    (sAug aFdiv 2 (eC (.int 16)))))
  (sRet (eBm "str" kZfill (.var 3) [.val (eC (.int 5))])))))
noncomputable def fn_ticket_text : Fn := mkFn 4 (aOr (a1 2) (aOr (a1 3) (aOr (aOr (a1 3) (a1 2)) a0))) b_ticket_text
theorem u_ticket_text {Q : R D → Prop} {x0 x1 : Option D} : wR (fn_ticket_text [x0, x1]) Q = wS (b_ticket_text [x0, x1, none, none]) (endK (aOr (a1 2) (aOr (a1 3) (aOr (aOr (a1 3) (a1 2)) a0))) 2 Q) := by
  rw [wR_eq, wS_eq]
  show Q (mkFn 4 (aOr (a1 2) (aOr (a1 3) (aOr (aOr (a1 3) (a1 2)) a0))) b_ticket_text [x0, x1]) = Q (endF (aOr (a1 2) (aOr (a1 3) (aOr (aOr (a1 3) (a1 2)) a0))) 2 (b_ticket_text [x0, x1, none, none]))
  unfold mkFn
  show Q (match b_ticket_text [x0, x1, none, none] with | .rt d δ => _ | .nx δ => _ | .ex x δ => _ | _ => _) = _
  cases b_ticket_text [x0, x1, none, none] <;> rfl
theorem o_ticket_text {x0 x1 x2 x3 : Option D} : outP (aOr (a1 2) (aOr (a1 3) (aOr (aOr (a1 3) (a1 2)) a0))) 0 2 [x0, x1, x2, x3] = [x0, x1] := rfl
-- 0 text, 1 number, 2 at, 3 sign
noncomputable def b_ticket_in : Sv :=
  (sSeq (sIf (tOrr (eB (eOps kNe [.val (eOps kLen [.var 0]), .val (eC (.int 5))])) (tNt (eB (eOps kAll [.val (eComp [] (iS (eTk 0)) [3] (.nm 3) none (eOps kIn [.var 3, .val (eC (.str "0123456789ABCDEF"))]))]))))
    (sRet (eC .non))
    sSkip)
  (sSeq (sAsg (.tp [(.nm 1), (.nm 2)]) (eOps kDivmod [.val (eOps kInt16 [.var 0, .val (eC (.int 16))]), .val (eC (.int 16))]))
  (sRet (eIf (tAn (eB (eChain kLeE kLeE (.val (eC (.int 1))) (.var 1) (.val (eC (.int 9999))))) (eB (eOps kLeE [.var 2, .val (eC (.int 9))]))) (eTup [(eTk 1), (eTk 2)]) (eC .non)))))
noncomputable def fn_ticket_in : Fn := mkFn 4 (aOr (aOr a0 a0) (aOr (tgA (.tp [(.nm 1), (.nm 2)])) a0)) b_ticket_in
theorem u_ticket_in {Q : R D → Prop} {x0 : Option D} : wR (fn_ticket_in [x0]) Q = wS (b_ticket_in [x0, none, none, none]) (endK (aOr (aOr a0 a0) (aOr (tgA (.tp [(.nm 1), (.nm 2)])) a0)) 1 Q) := by
  rw [wR_eq, wS_eq]
  show Q (mkFn 4 (aOr (aOr a0 a0) (aOr (tgA (.tp [(.nm 1), (.nm 2)])) a0)) b_ticket_in [x0]) = Q (endF (aOr (aOr a0 a0) (aOr (tgA (.tp [(.nm 1), (.nm 2)])) a0)) 1 (b_ticket_in [x0, none, none, none]))
  unfold mkFn
  show Q (match b_ticket_in [x0, none, none, none] with | .rt d δ => _ | .nx δ => _ | .ex x δ => _ | _ => _) = _
  cases b_ticket_in [x0, none, none, none] <;> rfl
theorem o_ticket_in {x0 x1 x2 x3 : Option D} : outP (aOr (aOr a0 a0) (aOr (tgA (.tp [(.nm 1), (.nm 2)])) a0)) 0 1 [x0, x1, x2, x3] = [x0] := rfl
-- 0 _law_script, 1 _law_k, 2 _law_cell
noncomputable def b_l_dip : Sv :=
  (sSeq (sSet 2 (eIf (eB (eOps kLt [.var 1, .val (eOps kLen [.var 0])])) (eOps kIx [.var 0, .var 1]) (eC (.int 0))))
  (sRet (eLst [(eOps kMulE [.val (eOps kAbs [.var 2]), .val (eOps kIntT [.val (eOps kGe [.val (eOps kAbs [.var 2]), .val (eOps kPow [.val (eC (.int 10)), .val (eC (.int 18))])])])]), (eOps kAdd [.val (eOps kAdd [.val (eOps kMod [.var 2, .val (eC (.int 2305843009213693951))]), .val (eOps kMulE [.val (eC (.int 39373)), .var 1])]), .val (eC (.int 17))]), (eC (.int 0))])))
noncomputable def fn_l_dip : Fn := mkFn 3 (aOr (a1 2) a0) b_l_dip
theorem u_l_dip {Q : R D → Prop} {x0 x1 : Option D} : wR (fn_l_dip [x0, x1]) Q = wS (b_l_dip [x0, x1, none]) (endK (aOr (a1 2) a0) 2 Q) := by
  rw [wR_eq, wS_eq]
  show Q (mkFn 3 (aOr (a1 2) a0) b_l_dip [x0, x1]) = Q (endF (aOr (a1 2) a0) 2 (b_l_dip [x0, x1, none]))
  unfold mkFn
  show Q (match b_l_dip [x0, x1, none] with | .rt d δ => _ | .nx δ => _ | .ex x δ => _ | _ => _) = _
  cases b_l_dip [x0, x1, none] <;> rfl
theorem o_l_dip {x0 x1 x2 : Option D} : outP (aOr (a1 2) a0) 0 2 [x0, x1, x2] = [x0, x1] := rfl
-- 0 _law_box, 1 _law_many, 2 _law_found, 3 _law_once, 4 _law_twice
noncomputable def b_l_take : Sv :=
  (sSeq (sIf (eB (eOps kGt [.val (eOps kIx [.var 0, .val (eC (.int 0))]), .val (eC (.int 0))]))
    (sSeq (sSet 2 (eOps kMod [.val (eOps kIx [.var 0, .val (eC (.int 0))]), .var 1]))
    (sSeq (sSto kSet 0 (eOps kFdiv [.val (eOps kIx [.var 0, .val (eC (.int 0))]), .var 1]) (eC (.int 0)))
    (sRet (eTk 2))))
    sSkip)
  (sSeq (sSto kSet 0 (eOps kAdd [.val (eOps kIx [.var 0, .val (eC (.int 2))]), .val (eC (.int 1))]) (eC (.int 2)))
  (sSeq (sSet 3 (eOps kMod [.val (eOps kPow [.val (eOps kAdd [.val (eOps kIx [.var 0, .val (eC (.int 1))]), .val (eOps kMulE [.val (eC (.int 39373)), .val (eOps kIx [.var 0, .val (eC (.int 2))])])]), .val (eC (.int 5))]), .val (eC (.int 2147483647))]))
  (sSeq (sSet 4 (eOps kMod [.val (eOps kMulE [.val (eOps kAdd [.val (eOps kAdd [.var 3, .val (eOps kIx [.var 0, .val (eC (.int 2))])]), .val (eOps kFdiv [.val (eOps kIx [.var 0, .val (eC (.int 1))]), .val (eC (.int 1000003))])]), .val (eOps kAdd [.val (eOps kAdd [.val (eOps kMod [.var 3, .val (eC (.int 40009))]), .val (eC (.int 7))]), .val (eOps kIx [.var 0, .val (eC (.int 2))])])]), .val (eC (.int 2147483629))]))
  (sRet (eOps kMod [.val (eOps kFdiv [.val (eOps kMod [.val (eOps kAdd [.val (eOps kMulE [.var 4, .val (eC (.int 48271))]), .var 3]), .val (eC (.int 2147483587))]), .val (eC (.int 64))]), .var 1]))))))
noncomputable def fn_l_take : Fn := mkFn 5 (aOr (aOr (aOr (a1 2) (aOr a0 a0)) a0) (aOr a0 (aOr (a1 3) (aOr (a1 4) a0)))) b_l_take
theorem u_l_take {Q : R D → Prop} {x0 x1 : Option D} : wR (fn_l_take [x0, x1]) Q = wS (b_l_take [x0, x1, none, none, none]) (endK (aOr (aOr (aOr (a1 2) (aOr a0 a0)) a0) (aOr a0 (aOr (a1 3) (aOr (a1 4) a0)))) 2 Q) := by
  rw [wR_eq, wS_eq]
  show Q (mkFn 5 (aOr (aOr (aOr (a1 2) (aOr a0 a0)) a0) (aOr a0 (aOr (a1 3) (aOr (a1 4) a0)))) b_l_take [x0, x1]) = Q (endF (aOr (aOr (aOr (a1 2) (aOr a0 a0)) a0) (aOr a0 (aOr (a1 3) (aOr (a1 4) a0)))) 2 (b_l_take [x0, x1, none, none, none]))
  unfold mkFn
  show Q (match b_l_take [x0, x1, none, none, none] with | .rt d δ => _ | .nx δ => _ | .ex x δ => _ | _ => _) = _
  cases b_l_take [x0, x1, none, none, none] <;> rfl
theorem o_l_take {x0 x1 x2 x3 x4 : Option D} : outP (aOr (aOr (aOr (a1 2) (aOr a0 a0)) a0) (aOr a0 (aOr (a1 3) (aOr (a1 4) a0)))) 0 2 [x0, x1, x2, x3, x4] = [x0, x1] := rfl
-- 0 _law_script, 1 _law_size, 2 _law_cells, 3 _law_k, 4 _law_cell
noncomputable def b_l_folded : Sv :=
  (sSeq (sSet 2 (eOps kListE [.val (eSl (.var 0) none (some (eTk 1)))]))
  (sSeq (sFor [] (iWk kEn [.val (eSl (.var 0) (some (eTk 1)) (some (eC (.int 63))))]) (.tp [(.nm 3), (.nm 4)])
    (sSto kSet 2 (eOps kAdd [.val (eOps kIx [.var 2, .val (eOps kMod [.var 3, .var 1])]), .val (eOps kMulE [.var 4, .val (eOps kAdd [.var 3, .val (eC (.int 2))])])]) (eOps kMod [.var 3, .var 1])))
  (sRet (eTk 2))))
noncomputable def fn_l_folded : Fn := mkFn 5 (aOr (a1 2) (aOr (aOr (tgA (.tp [(.nm 3), (.nm 4)])) a0) a0)) b_l_folded
theorem u_l_folded {Q : R D → Prop} {x0 x1 : Option D} : wR (fn_l_folded [x0, x1]) Q = wS (b_l_folded [x0, x1, none, none, none]) (endK (aOr (a1 2) (aOr (aOr (tgA (.tp [(.nm 3), (.nm 4)])) a0) a0)) 2 Q) := by
  rw [wR_eq, wS_eq]
  show Q (mkFn 5 (aOr (a1 2) (aOr (aOr (tgA (.tp [(.nm 3), (.nm 4)])) a0) a0)) b_l_folded [x0, x1]) = Q (endF (aOr (a1 2) (aOr (aOr (tgA (.tp [(.nm 3), (.nm 4)])) a0) a0)) 2 (b_l_folded [x0, x1, none, none, none]))
  unfold mkFn
  show Q (match b_l_folded [x0, x1, none, none, none] with | .rt d δ => _ | .nx δ => _ | .ex x δ => _ | _ => _) = _
  cases b_l_folded [x0, x1, none, none, none] <;> rfl
theorem o_l_folded {x0 x1 x2 x3 x4 : Option D} : outP (aOr (a1 2) (aOr (aOr (tgA (.tp [(.nm 3), (.nm 4)])) a0) a0)) 0 2 [x0, x1, x2, x3, x4] = [x0, x1] := rfl
-- 0 _law_box, 1 _law_some
noncomputable def b_l_one_of : Sv :=
  (sRet (eOps kIx [.var 1, .val (callE fn_l_take 2 [.u 0, .u 1] [] (app2 [.var 0, .val (eOps kLen [.var 1])] []))]))
noncomputable def fn_l_one_of : Fn := mkFn 2 a0 b_l_one_of
theorem u_l_one_of {Q : R D → Prop} {x0 x1 : Option D} : wR (fn_l_one_of [x0, x1]) Q = wS (b_l_one_of [x0, x1]) (endK a0 2 Q) := by
  rw [wR_eq, wS_eq]
  show Q (mkFn 2 a0 b_l_one_of [x0, x1]) = Q (endF a0 2 (b_l_one_of [x0, x1]))
  unfold mkFn
  show Q (match b_l_one_of [x0, x1] with | .rt d δ => _ | .nx δ => _ | .ex x δ => _ | _ => _) = _
  cases b_l_one_of [x0, x1] <;> rfl
theorem o_l_one_of {x0 x1 : Option D} : outP a0 0 2 [x0, x1] = [x0, x1] := rfl
-- 0 _law_found, 1 _law_due_here, 2 _law_one, 3 _law_other
noncomputable def b_l_same (self : Fn) : Sv :=
  (sSeq (sIf (eB (eOps kIsi [.var 1, .val (eTup [(eC (.ty "list")), (eC (.ty "tuple"))])]))
    (sSeq (sIf (tOrr (eB (eOps kNe [.val (eOps kIsi [.var 0, .val (eC (.ty "list"))]), .val (eOps kIsi [.var 1, .val (eC (.ty "list"))])])) (eB (eOps kNe [.val (eOps kIsi [.var 0, .val (eC (.ty "tuple"))]), .val (eOps kIsi [.var 1, .val (eC (.ty "tuple"))])])))
      (sRet (eC (.bl false)))
      sSkip)
    (sRet (eAn (eOps kEq [.val (eOps kLen [.var 0]), .val (eOps kLen [.var 1])]) (eOps kAll [.val (eComp [0, 1] (iWk kZp [.var 0, .var 1]) [2, 3] (.tp [(.nm 2), (.nm 3)]) none (callE self 2 [.u 0, .u 1] [] (app2 [.var 2, .var 3] [])))]))))
    sSkip)
  (sSeq (sIf (tOrr (eB (eOps kIsN [.var 1, .val (eC .non)])) (eB (eOps kIsN [.var 0, .val (eC .non)])))
    (sRet (eAn (eOps kIsN [.var 1, .val (eC .non)]) (eOps kIsN [.var 0, .val (eC .non)])))
    sSkip)
  (sSeq (sIf (tOrr (eB (eOps kIsi [.var 1, .val (eC (.ty "bool"))])) (eB (eOps kIsi [.var 1, .val (eC (.ty "str"))])))
    (sRet (eAn (eOps kEq [.val (eOps kIsi [.var 0, .val (eC (.ty "bool"))]), .val (eOps kIsi [.var 1, .val (eC (.ty "bool"))])]) (eOps kEq [.var 0, .var 1])))
    sSkip)
  (sRet (eAn (eOps kIsi [.var 0, .val (eC (.ty "int"))]) (eAn (eNt (eOps kIsi [.var 0, .val (eC (.ty "bool"))])) (eOps kEq [.var 0, .var 1])))))))
noncomputable def fn_l_same : Nat → Fn
  | 0 => fun _ => .bad
  | n + 1 => mkFn 4 (aOr (aOr (aOr (aOr a0 a0) a0) a0) (aOr (aOr a0 a0) (aOr (aOr a0 a0) a0))) (b_l_same (fn_l_same n))
theorem u_l_same {Q : R D → Prop} {x0 x1 : Option D} {n : Nat} : wR ((fn_l_same (n + 1)) [x0, x1]) Q = wS ((b_l_same (fn_l_same n)) [x0, x1, none, none]) (endK (aOr (aOr (aOr (aOr a0 a0) a0) a0) (aOr (aOr a0 a0) (aOr (aOr a0 a0) a0))) 2 Q) := by
  rw [wR_eq, wS_eq]
  show Q (mkFn 4 (aOr (aOr (aOr (aOr a0 a0) a0) a0) (aOr (aOr a0 a0) (aOr (aOr a0 a0) a0))) (b_l_same (fn_l_same n)) [x0, x1]) = Q (endF (aOr (aOr (aOr (aOr a0 a0) a0) a0) (aOr (aOr a0 a0) (aOr (aOr a0 a0) a0))) 2 ((b_l_same (fn_l_same n)) [x0, x1, none, none]))
  unfold mkFn
  show Q (match (b_l_same (fn_l_same n)) [x0, x1, none, none] with | .rt d δ => _ | .nx δ => _ | .ex x δ => _ | _ => _) = _
  cases (b_l_same (fn_l_same n)) [x0, x1, none, none] <;> rfl
theorem o_l_same {x0 x1 x2 x3 : Option D} : outP (aOr (aOr (aOr (aOr a0 a0) a0) a0) (aOr (aOr a0 a0) (aOr (aOr a0 a0) a0))) 0 2 [x0, x1, x2, x3] = [x0, x1] := rfl
-- 0 _law_whole, 1 _law_spot, 2 _law_signs, 3 _law_rest, 4 _law_found, 5 _law_k
noncomputable def b_l_due : Sv :=
  (sSeq (sPar3 2 3 4 (eC (.str "0123456789ABCDEF")) (eOps kAdd [.val (eOps kMulE [.val (eC (.int 16)), .var 0]), .var 1]) (eC (.str "")))
  (sSeq (sFor [] (iWk kR1 [.val (eC (.int 5))]) (.nm 5)
    (sPar 4 3 (eOps kAdd [.val (eOps kIx [.var 2, .val (eOps kMod [.var 3, .val (eC (.int 16))])]), .var 4]) (eOps kFdiv [.var 3, .val (eC (.int 16))])))
  (sRet (eTk 4))))
noncomputable def fn_l_due : Fn := mkFn 6 (aOr (aOr (a1 2) (aOr (a1 3) (a1 4))) (aOr (aOr (tgA (.nm 5)) (aOr (a1 4) (a1 3))) a0)) b_l_due
theorem u_l_due {Q : R D → Prop} {x0 x1 : Option D} : wR (fn_l_due [x0, x1]) Q = wS (b_l_due [x0, x1, none, none, none, none]) (endK (aOr (aOr (a1 2) (aOr (a1 3) (a1 4))) (aOr (aOr (tgA (.nm 5)) (aOr (a1 4) (a1 3))) a0)) 2 Q) := by
  rw [wR_eq, wS_eq]
  show Q (mkFn 6 (aOr (aOr (a1 2) (aOr (a1 3) (a1 4))) (aOr (aOr (tgA (.nm 5)) (aOr (a1 4) (a1 3))) a0)) b_l_due [x0, x1]) = Q (endF (aOr (aOr (a1 2) (aOr (a1 3) (a1 4))) (aOr (aOr (tgA (.nm 5)) (aOr (a1 4) (a1 3))) a0)) 2 (b_l_due [x0, x1, none, none, none, none]))
  unfold mkFn
  show Q (match b_l_due [x0, x1, none, none, none, none] with | .rt d δ => _ | .nx δ => _ | .ex x δ => _ | _ => _) = _
  cases b_l_due [x0, x1, none, none, none, none] <;> rfl
theorem o_l_due {x0 x1 x2 x3 x4 x5 : Option D} : outP (aOr (aOr (a1 2) (aOr (a1 3) (a1 4))) (aOr (aOr (tgA (.nm 5)) (aOr (a1 4) (a1 3))) a0)) 0 2 [x0, x1, x2, x3, x4, x5] = [x0, x1] := rfl
-- 0 _law_box, 1 _law_some, 2 _law_turn, 3 _law_near, 4 _law_whole, 5 _law_spot, 6 _law_rising
noncomputable def b_l_right : Sv :=
  (sSeq (sSet 1 (eLst [(eTup [(eC (.int 1)), (eC (.int 0))]), (eTup [(eC (.int 9999)), (eC (.int 9))]), (eTup [(eC (.int 15)), (eC (.int 9))]), (eTup [(eC (.int 16)), (eC (.int 0))]), (eTup [(eC (.int 255)), (eC (.int 9))]), (eTup [(eC (.int 256)), (eC (.int 0))]), (eTup [(eC (.int 4095)), (eC (.int 9))]), (eTup [(eC (.int 4096)), (eC (.int 0))])]))
  (sSeq (sFor [] (iWk kR1 [.val (eC (.int 20))]) (.nm 2)
    (sSeq (sSet 3 (eOps kSub [.val (eOps kIx [.val (eLst [(eC (.int 16)), (eC (.int 256)), (eC (.int 4096))]), .val (callE fn_l_take 2 [.u 0, .u 1] [] (app2 [.var 0, .val (eC (.int 3))] []))]), .val (callE fn_l_take 2 [.u 0, .u 1] [] (app2 [.var 0, .val (eC (.int 3))] []))]))
    (sExpr (eMutV "list" kAppend 1 [(eTup [(callE fn_l_one_of 2 [.u 0, .u 1] [] (app2 [.var 0, .val (eLst [(eOps kAdd [.val (eC (.int 1)), .val (callE fn_l_take 2 [.u 0, .u 1] [] (app2 [.var 0, .val (eC (.int 9999))] []))]), (eOps kAdd [.val (eC (.int 1)), .val (callE fn_l_take 2 [.u 0, .u 1] [] (app2 [.var 0, .val (eC (.int 20))] []))]), (eTk 3)])] [])), (callE fn_l_take 2 [.u 0, .u 1] [] (app2 [.var 0, .val (eC (.int 10))] []))])]))))
  (sSeq (sFor [1] (iWk kL [.var 1]) (.tp [(.nm 4), (.nm 5)])
    (sSeq (sIf (tNt (eB (callE (fn_l_same 8) 2 [.u 0, .u 1] [] (app2 [.val (callE fn_ticket_text 2 [.u 0, .u 1] [] (app2 [.var 4, .var 5] [])), .val (callE fn_l_due 2 [.u 0, .u 1] [] (app2 [.var 4, .var 5] []))] []))))
      (sRet (eC (.bl false)))
      sSkip)
    (sIf (tNt (eB (callE (fn_l_same 8) 2 [.u 0, .u 1] [] (app2 [.val (callE fn_ticket_in 0 [.w 0] [] [.val (callE fn_ticket_text 0 [.w 1, .w 0] [] [.var 5, .var 4])]), .val (eTup [(eTk 4), (eTk 5)])] []))))
      (sRet (eC (.bl false)))
      sSkip)))
  (sSeq (sSet 6 (eComp [] (iWk kL [.val (eOps kSrtSetP [.var 1])]) [4, 5] (.tp [(.nm 4), (.nm 5)]) none (callE fn_ticket_text 2 [.u 0, .u 1] [] (app2 [.var 4, .var 5] []))))
  (sRet (eOps kEq [.var 6, .val (eOps kSrtSetT [.val (eComp [1] (iWk kL [.var 1]) [4, 5] (.tp [(.nm 4), (.nm 5)]) none (callE fn_l_due 2 [.u 0, .u 1] [] (app2 [.var 4, .var 5] [])))])]))))))
noncomputable def fn_l_right : Fn := mkFn 7 (aOr (a1 1) (aOr (aOr (tgA (.nm 2)) (aOr (a1 3) a0)) (aOr (aOr (tgA (.tp [(.nm 4), (.nm 5)])) (aOr (aOr a0 a0) (aOr a0 a0))) (aOr (a1 6) a0)))) b_l_right
theorem u_l_right {Q : R D → Prop} {x0 : Option D} : wR (fn_l_right [x0]) Q = wS (b_l_right [x0, none, none, none, none, none, none]) (endK (aOr (a1 1) (aOr (aOr (tgA (.nm 2)) (aOr (a1 3) a0)) (aOr (aOr (tgA (.tp [(.nm 4), (.nm 5)])) (aOr (aOr a0 a0) (aOr a0 a0))) (aOr (a1 6) a0)))) 1 Q) := by
  rw [wR_eq, wS_eq]
  show Q (mkFn 7 (aOr (a1 1) (aOr (aOr (tgA (.nm 2)) (aOr (a1 3) a0)) (aOr (aOr (tgA (.tp [(.nm 4), (.nm 5)])) (aOr (aOr a0 a0) (aOr a0 a0))) (aOr (a1 6) a0)))) b_l_right [x0]) = Q (endF (aOr (a1 1) (aOr (aOr (tgA (.nm 2)) (aOr (a1 3) a0)) (aOr (aOr (tgA (.tp [(.nm 4), (.nm 5)])) (aOr (aOr a0 a0) (aOr a0 a0))) (aOr (a1 6) a0)))) 1 (b_l_right [x0, none, none, none, none, none, none]))
  unfold mkFn
  show Q (match b_l_right [x0, none, none, none, none, none, none] with | .rt d δ => _ | .nx δ => _ | .ex x δ => _ | _ => _) = _
  cases b_l_right [x0, none, none, none, none, none, none] <;> rfl
theorem o_l_right {x0 x1 x2 x3 x4 x5 x6 : Option D} : outP (aOr (a1 1) (aOr (aOr (tgA (.nm 2)) (aOr (a1 3) a0)) (aOr (aOr (tgA (.tp [(.nm 4), (.nm 5)])) (aOr (aOr a0 a0) (aOr a0 a0))) (aOr (a1 6) a0)))) 0 1 [x0, x1, x2, x3, x4, x5, x6] = [x0] := rfl
-- 0 _law_script, 1 _law_cells, 2 _law_k
noncomputable def b_law : Sv :=
  (sSeq (sSet 1 (callE fn_l_folded 2 [.u 0, .u 1] [] (app2 [.var 0, .val (eC (.int 8))] [])))
  (sRet (eOps kAll [.val (eComp [] (iWk kR1 [.val (eOps kMax2 [.val (eC (.int 1)), .val (eOps kLen [.var 1])])]) [2] (.nm 2) none (callE fn_l_right 1 [.u 0] [] (app2 [.val (callE fn_l_dip 2 [.u 0, .u 1] [] (app2 [.var 1, .var 2] []))] [])))])))
noncomputable def fn_law : Fn := mkFn 3 (aOr (a1 1) a0) b_law
theorem u_law {Q : R D → Prop} {x0 : Option D} : wR (fn_law [x0]) Q = wS (b_law [x0, none, none]) (endK (aOr (a1 1) a0) 1 Q) := by
  rw [wR_eq, wS_eq]
  show Q (mkFn 3 (aOr (a1 1) a0) b_law [x0]) = Q (endF (aOr (a1 1) a0) 1 (b_law [x0, none, none]))
  unfold mkFn
  show Q (match b_law [x0, none, none] with | .rt d δ => _ | .nx δ => _ | .ex x δ => _ | _ => _) = _
  cases b_law [x0, none, none] <;> rfl
theorem o_law {x0 x1 x2 : Option D} : outP (aOr (a1 1) a0) 0 1 [x0, x1, x2] = [x0] := rfl
theorem G_ticket_text {P : Program} {w : World} {K : PySem.W.Frag} {mg : Str → Option Value} {base : Heap} (T : Top K mg) : FnOk P w K mg base (L2.CX P w) 1 T.a_ticket_text T.fd_ticket_text ["number", "at"] (spF T.cf 2 fn_ticket_text) :=
  fn_ok (N := ["number", "at", "rest", "signs"]) (k := 0) T.F_ticket_text sc_ticket_text rfl fun cdv A outer s H E hr =>
  (sss_cons (ss_set (i := 2) sc_ticket_text.nd rfl (by first | exact Or.inl rfl | exact Or.inr rfl) (se_bin op_addD (ins_add rfl) (.val (se_bin op_mulE ins_mulE (.val (SE.cst (pe_gl (by rfl) T.c_BASE) (fun _ _ => rfl))) (.var (pv 0)))) (.var (pv 1))))
  (sss_cons (ss_set (i := 3) sc_ticket_text.nd rfl (by first | exact Or.inl rfl | exact Or.inr rfl) se_str)
  (sss_cons (ss_while 8 (passes_of rfl) (st_cmp op_gt ins_gt (.var (pv 2)) (.val se_int) (nomark _))
    (sss_cons (ss_set (i := 3) sc_ticket_text.nd rfl (by first | exact Or.inl rfl | exact Or.inr rfl) (se_bin op_addD (ins_add rfl) (.val (se_ix ix_seq (ins_ix rfl) (.val (SE.cst (pe_gl (by rfl) T.c_FIGURES) (fun _ _ => rfl))) (.val (se_bin op_mod ins_mod (.var (pv 2)) (.val (SE.cst (pe_gl (by rfl) T.c_BASE) (fun _ _ => rfl))))) (fun _ _ => rfl))) (.var (pv 3))))
    (sss_one (ss_aug (i := 2) insA_fdiv sc_ticket_text.nd rfl (by first | exact Or.inl rfl | exact Or.inr rfl) (SE.cst (pe_gl (by rfl) T.c_BASE) (fun _ _ => rfl)) ip_fdiv))))
  (sss_one (ss_ret (se_bm rfl PySem.F.plainAttrs_str PySem.F.slot_str_zfill PySem.F.type_str_zfill mt_zfill ins_zfill (.var (pv 3)) (so_cons (.val (SE.cst (pe_gl (by rfl) T.c_SIGNS) (fun _ _ => rfl))) so_nil)))))))
theorem G_ticket_in {P : Program} {w : World} {K : PySem.W.Frag} {mg : Str → Option Value} {base : Heap} (T : Top K mg) : FnOk P w K mg base (L2.CX P w) 1 T.a_ticket_in T.fd_ticket_in ["text"] (spF T.cf 1 fn_ticket_in) :=
  fn_ok (N := ["text", "number", "at", "sign"]) (k := 0) T.F_ticket_in sc_ticket_in rfl fun cdv A outer s H E hr =>
  (sss_cons (ss_if (st_bool (sw_or (st_cmp (op_neDV rfl (hu65 hr)) ins_ne (.val (se_callB call_lenD (ins_lenD rfl) (by rfl) T.z_len (by decide +kernel) (so_cons (.var (pv 0)) so_nil))) (.val (SE.cst (pe_gl (by rfl) T.c_SIGNS) (fun _ _ => rfl))) (nomark _)) (sw_or1 (st_not (st_val (se_callB (cr_all rfl) ins_all (by rfl) T.z_all (by decide +kernel) (so_cons (.val (se_lc (own := [("sign", 3)]) (t := (.nm 3)) (tt := none) rfl sc_ticket_in.nd (si_str (hs := []) (SE.tk (pv 0))) (blkOk_by (own := [("sign", 3)]) (N := ["text", "number", "at", "sign"]) (sc := defScope s_ticket_in) (by decide +kernel)) (fun _ _ _ _ _ => (sg_name (i := 3) sc_ticket_in.nd rfl (by first | exact Or.inl rfl | exact Or.inr rfl))) (fun _ _ _ _ _ => sc_nil) (fun _ _ _ _ _ => (se_cmp (op_inDV rfl (hu66 hr)) ins_in (.var (pv 3)) (.val (SE.cst (pe_gl (by rfl) T.c_FIGURES) (fun _ _ => rfl))) rfl)) (by decide))) so_nil)))))))
    (sss_one (ss_ret se_non))
    sss_nil)
  (sss_cons (ss_asg (se_callB call_divmod ins_divmod (by rfl) T.z_divmod (by decide +kernel) (so_cons (.val (se_callTy call_int_hex ins_int16 (by rfl) T.z_int (by decide +kernel) (so_cons (.var (pv 0)) (so_cons (.val (SE.cst (pe_gl (by rfl) T.c_BASE) (fun _ _ => rfl))) so_nil)))) (so_cons (.val (SE.cst (pe_gl (by rfl) T.c_BASE) (fun _ _ => rfl))) so_nil))) (sg_tup rfl rfl (sgs_cons (sg_name (i := 1) sc_ticket_in.nd rfl (by first | exact Or.inl rfl | exact Or.inr rfl)) (sgs_cons (sg_name (i := 2) sc_ticket_in.nd rfl (by first | exact Or.inl rfl | exact Or.inr rfl)) sgs_nil))))
  (sss_one (ss_ret (se_if (st_bool (sw_and (st_chain op_leE op_leE ins_leE ins_leE (.val se_int) (.var (pv 1)) (.val (SE.cst (pe_gl (by rfl) T.c_MOST_NUMBER) (fun _ _ => rfl)))) (sw_and1 (st_cmp op_leE ins_leE (.var (pv 2)) (.val (SE.cst (pe_gl (by rfl) T.c_MOST_AT) (fun _ _ => rfl))) (nomark _))))) (se_tup (es_cons (SE.tk (pv 1)) (es_cons (SE.tk (pv 2)) es_nil))) se_non)))))
theorem G_l_dip {P : Program} {w : World} {K : PySem.W.Frag} {mg : Str → Option Value} {base : Heap} (T : Top K mg) : FnOk P w K mg base (L2.CX P w) 1 T.a_l_dip T.fd_l_dip ["_law_script", "_law_k"] (spF T.cf 2 fn_l_dip) :=
  fn_ok (N := ["_law_script", "_law_k", "_law_cell"]) (k := 0) T.F_l_dip sc_l_dip rfl fun cdv A outer s H E hr =>
  (sss_cons (ss_set (i := 2) sc_l_dip.nd rfl (by first | exact Or.inl rfl | exact Or.inr rfl) (se_if (st_cmp op_lt ins_lt (.var (pv 1)) (.val (se_callB call_lenD (ins_lenD rfl) (by rfl) T.z_len (by decide +kernel) (so_cons (.var (pv 0)) so_nil))) (nomark _)) (se_ix ix_seq (ins_ix rfl) (.var (pv 0)) (.var (pv 1)) (fun _ _ => rfl)) se_int))
  (sss_one (ss_ret (se_lst (es_cons (se_bin op_mulE ins_mulE (.val (se_callB call_abs ins_abs (by rfl) T.z_abs (by decide +kernel) (so_cons (.var (pv 2)) so_nil))) (.val (se_callTy call_intT ins_intT (by rfl) T.z_int (by decide +kernel) (so_cons (.val (se_cmp op_ge ins_ge (.val (se_callB call_abs ins_abs (by rfl) T.z_abs (by decide +kernel) (so_cons (.var (pv 2)) so_nil))) (.val (se_bin op_pow ins_pow (.val se_int) (.val se_int))) (nomark _))) so_nil)))) (es_cons (se_bin op_addD (ins_add rfl) (.val (se_bin op_addD (ins_add rfl) (.val (se_bin op_mod ins_mod (.var (pv 2)) (.val se_int))) (.val (se_bin op_mulE ins_mulE (.val se_int) (.var (pv 1)))))) (.val se_int)) (es_cons se_int es_nil)))))))
theorem G_l_take {P : Program} {w : World} {K : PySem.W.Frag} {mg : Str → Option Value} {base : Heap} (T : Top K mg) : FnOk P w K mg base (L2.CX P w) 1 T.a_l_take T.fd_l_take ["_law_box", "_law_many"] (spF T.cf 2 fn_l_take) :=
  fn_ok (N := ["_law_box", "_law_many", "_law_found", "_law_once", "_law_twice"]) (k := 0) T.F_l_take sc_l_take rfl fun cdv A outer s H E hr =>
  (sss_cons (ss_if (st_cmp op_gt ins_gt (.val (se_ix ix_seq (ins_ix rfl) (.var (pv 0)) (.val se_int) (fun _ _ => rfl))) (.val se_int) (nomark _))
    (sss_cons (ss_set (i := 2) sc_l_take.nd rfl (by first | exact Or.inl rfl | exact Or.inr rfl) (se_bin op_mod ins_mod (.val (se_ix ix_seq (ins_ix rfl) (.var (pv 0)) (.val se_int) (fun _ _ => rfl))) (.var (pv 1))))
    (sss_cons (ss_sto set_list insS_list (pv 0) se_int (se_bin op_fdivW ins_fdiv (.val (se_ix ix_seq (ins_ix rfl) (.var (pv 0)) (.val se_int) (fun _ _ => rfl))) (.var (pv 1))))
    (sss_one (ss_ret (SE.tk (pv 2))))))
    sss_nil)
  (sss_cons (ss_sto set_list insS_list (pv 0) se_int (se_bin op_addD (ins_add rfl) (.val (se_ix ix_seq (ins_ix rfl) (.var (pv 0)) (.val se_int) (fun _ _ => rfl))) (.val se_int)))
  (sss_cons (ss_set (i := 3) sc_l_take.nd rfl (by first | exact Or.inl rfl | exact Or.inr rfl) (se_bin op_mod ins_mod (.val (se_bin op_pow ins_pow (.val (se_bin op_addD (ins_add rfl) (.val (se_ix ix_seq (ins_ix rfl) (.var (pv 0)) (.val se_int) (fun _ _ => rfl))) (.val (se_bin op_mulE ins_mulE (.val se_int) (.val (se_ix ix_seq (ins_ix rfl) (.var (pv 0)) (.val se_int) (fun _ _ => rfl))))))) (.val se_int))) (.val se_int)))
  (sss_cons (ss_set (i := 4) sc_l_take.nd rfl (by first | exact Or.inl rfl | exact Or.inr rfl) (se_bin op_mod ins_mod (.val (se_bin op_mulE ins_mulE (.val (se_bin op_addD (ins_add rfl) (.val (se_bin op_addD (ins_add rfl) (.var (pv 3)) (.val (se_ix ix_seq (ins_ix rfl) (.var (pv 0)) (.val se_int) (fun _ _ => rfl))))) (.val (se_bin op_fdivW ins_fdiv (.val (se_ix ix_seq (ins_ix rfl) (.var (pv 0)) (.val se_int) (fun _ _ => rfl))) (.val se_int))))) (.val (se_bin op_addD (ins_add rfl) (.val (se_bin op_addD (ins_add rfl) (.val (se_bin op_mod ins_mod (.var (pv 3)) (.val se_int))) (.val se_int))) (.val (se_ix ix_seq (ins_ix rfl) (.var (pv 0)) (.val se_int) (fun _ _ => rfl))))))) (.val se_int)))
  (sss_one (ss_ret (se_bin op_mod ins_mod (.val (se_bin op_fdivW ins_fdiv (.val (se_bin op_mod ins_mod (.val (se_bin op_addD (ins_add rfl) (.val (se_bin op_mulE ins_mulE (.var (pv 4)) (.val se_int))) (.var (pv 3)))) (.val se_int))) (.val se_int))) (.var (pv 1)))))))))
theorem G_l_folded {P : Program} {w : World} {K : PySem.W.Frag} {mg : Str → Option Value} {base : Heap} (T : Top K mg) : FnOk P w K mg base (L2.CX P w) 1 T.a_l_folded T.fd_l_folded ["_law_script", "_law_size"] (spF T.cf 2 fn_l_folded) :=
  fn_ok (N := ["_law_script", "_law_size", "_law_cells", "_law_k", "_law_cell"]) (k := 0) T.F_l_folded sc_l_folded rfl fun cdv A outer s H E hr =>
  (sss_cons (ss_set (i := 2) sc_l_folded.nd rfl (by first | exact Or.inl rfl | exact Or.inr rfl) (se_callTy (call_listE rfl) (ins_listE rfl) (by rfl) T.z_list (by decide +kernel) (so_cons (.val (se_slnb rfl (.var (pv 0)) (SE.tk (pv 1)))) so_nil)))
  (sss_cons (ss_for (hs := []) (passes_of rfl) rfl (si_enum (hs := []) rfl (by rfl) T.z_enumerate (so_cons (.val (se_slbb rfl (.var (pv 0)) (SE.tk (pv 1)) se_int)) so_nil) (hh_val hh_nil)) (sg_tup rfl rfl (sgs_cons (sg_name (i := 3) sc_l_folded.nd rfl (by first | exact Or.inl rfl | exact Or.inr rfl)) (sgs_cons (sg_name (i := 4) sc_l_folded.nd rfl (by first | exact Or.inl rfl | exact Or.inr rfl)) sgs_nil)))
    (sss_one (ss_sto set_list insS_list (pv 2) (se_bin op_mod ins_mod (.var (pv 3)) (.var (pv 1))) (se_bin op_addD (ins_add rfl) (.val (se_ix ix_seq (ins_ix rfl) (.var (pv 2)) (.val (se_bin op_mod ins_mod (.var (pv 3)) (.var (pv 1)))) (fun _ _ => rfl))) (.val (se_bin op_mulE ins_mulE (.var (pv 4)) (.val (se_bin op_addD (ins_add rfl) (.var (pv 3)) (.val se_int))))))))
    (by decide))
  (sss_one (ss_ret (SE.tk (pv 2))))))
theorem G_l_one_of {P : Program} {w : World} {K : PySem.W.Frag} {mg : Str → Option Value} {base : Heap} (T : Top K mg) : FnOk P w K mg base (L2.CX P w) 2 T.a_l_one_of T.fd_l_one_of ["_law_box", "_law_some"] (spF T.cf 2 fn_l_one_of) :=
  fn_ok (N := ["_law_box", "_law_some"]) (k := 1) T.F_l_one_of sc_l_one_of rfl fun cdv A outer s H E hr =>
  (sss_one (ss_ret (se_ix ix_seq (ins_ix rfl) (.var (pv 1)) (.val (se_call (G_l_take T) (hr.mono (by first | decide | omega)) (takes_of rfl rfl rfl rfl) (by rfl) T.g_l_take T.F_l_take.kp ⟨T.kb_l_take_2, rfl, by decide, rfl⟩ (so_cons (.var (pv 0)) (so_cons (.val (se_callB call_lenD (ins_lenD rfl) (by rfl) T.z_len (by decide +kernel) (so_cons (.var (pv 1)) so_nil))) so_nil)) .nil rfl rfl)) (fun _ _ => rfl))))
theorem G_l_same {P : Program} {w : World} {K : PySem.W.Frag} {mg : Str → Option Value} {base : Heap} (T : Top K mg) : ∀ n : Nat, FnOk P w K mg base (L2.CX P w) (0 + n) T.a_l_same T.fd_l_same ["_law_found", "_law_due_here"] (spF T.cf 2 (fn_l_same n))
  | 0 => fn_bad rfl
  | n + 1 => fn_ok (N := ["_law_found", "_law_due_here", "_law_one", "_law_other"]) (k := 0 + n) T.F_l_same sc_l_same rfl fun cdv A outer s H E hr =>
  (sss_cons (ss_if (st_val (se_callB call_isiD (ins_isi rfl) (by rfl) T.z_isinstance (by decide +kernel) (so_cons (.var (pv 1)) (so_cons (.val (se_tup (es_cons (SE.cst (pe_bltn (v := .ty "list") (by rfl) T.z_list (by decide +kernel) rfl) (fun _ _ => rfl)) (es_cons (SE.cst (pe_bltn (v := .ty "tuple") (by rfl) T.z_tuple (by decide +kernel) rfl) (fun _ _ => rfl)) es_nil)))) so_nil))))
    (sss_cons (ss_if (st_bool (sw_or (st_cmp (op_neDV rfl (hu65 hr)) ins_ne (.val (se_callB call_isiD (ins_isi rfl) (by rfl) T.z_isinstance (by decide +kernel) (so_cons (.var (pv 0)) (so_cons (.val (SE.cst (pe_bltn (v := .ty "list") (by rfl) T.z_list (by decide +kernel) rfl) (fun _ _ => rfl))) so_nil)))) (.val (se_callB call_isiD (ins_isi rfl) (by rfl) T.z_isinstance (by decide +kernel) (so_cons (.var (pv 1)) (so_cons (.val (SE.cst (pe_bltn (v := .ty "list") (by rfl) T.z_list (by decide +kernel) rfl) (fun _ _ => rfl))) so_nil)))) (nomark _)) (sw_or1 (st_cmp (op_neDV rfl (hu65 hr)) ins_ne (.val (se_callB call_isiD (ins_isi rfl) (by rfl) T.z_isinstance (by decide +kernel) (so_cons (.var (pv 0)) (so_cons (.val (SE.cst (pe_bltn (v := .ty "tuple") (by rfl) T.z_tuple (by decide +kernel) rfl) (fun _ _ => rfl))) so_nil)))) (.val (se_callB call_isiD (ins_isi rfl) (by rfl) T.z_isinstance (by decide +kernel) (so_cons (.var (pv 1)) (so_cons (.val (SE.cst (pe_bltn (v := .ty "tuple") (by rfl) T.z_tuple (by decide +kernel) rfl) (fun _ _ => rfl))) so_nil)))) (nomark _)))))
      (sss_one (ss_ret se_bl))
      sss_nil)
    (sss_one (ss_ret (se_and (se_cmp (op_eqDV rfl (hu65 hr)) ins_eq (.val (se_callB call_lenD (ins_lenD rfl) (by rfl) T.z_len (by decide +kernel) (so_cons (.var (pv 0)) so_nil))) (.val (se_callB call_lenD (ins_lenD rfl) (by rfl) T.z_len (by decide +kernel) (so_cons (.var (pv 1)) so_nil))) (nomark _)) (se_one (se_callB (cr_all rfl) ins_all (by rfl) T.z_all (by decide +kernel) (so_cons (.val (se_lc (own := [("_law_one", 2), ("_law_other", 3)]) (t := (.tp [(.nm 2), (.nm 3)])) (tt := none) rfl sc_l_same.nd (si_zip (hs := [0, 1]) rfl (by rfl) T.z_zip (so_cons (.var (pv 0)) (so_cons (.var (pv 1)) so_nil)) (hh_var (by decide) (hh_var (by decide) hh_nil))) (blkOk_by (own := [("_law_one", 2), ("_law_other", 3)]) (N := ["_law_found", "_law_due_here", "_law_one", "_law_other"]) (sc := defScope s_l_same) (by decide +kernel)) (fun _ _ _ _ _ => (sg_tup rfl rfl (sgs_cons (sg_name (i := 2) sc_l_same.nd rfl (by first | exact Or.inl rfl | exact Or.inr rfl)) (sgs_cons (sg_name (i := 3) sc_l_same.nd rfl (by first | exact Or.inl rfl | exact Or.inr rfl)) sgs_nil)))) (fun _ _ _ _ _ => sc_nil) (fun _ _ _ _ _ => (se_call (G_l_same T n) (hr.mono (by first | decide | omega)) takes0 (by rfl) T.g_l_same T.F_l_same.kp ⟨T.kb_l_same_2, rfl, by decide, rfl⟩ (so_cons (.var (pv 2)) (so_cons (.var (pv 3)) so_nil)) .nil rfl rfl)) (by decide))) so_nil)))))))
    sss_nil)
  (sss_cons (ss_if (st_bool (sw_or (st_cmp op_isN ins_isN (.var (pv 1)) (.val se_non) (nomark _)) (sw_or1 (st_cmp op_isN ins_isN (.var (pv 0)) (.val se_non) (nomark _)))))
    (sss_one (ss_ret (se_and (se_cmp op_isN ins_isN (.var (pv 1)) (.val se_non) (nomark _)) (se_one (se_cmp op_isN ins_isN (.var (pv 0)) (.val se_non) (nomark _))))))
    sss_nil)
  (sss_cons (ss_if (st_bool (sw_or (st_val (se_callB call_isiD (ins_isi rfl) (by rfl) T.z_isinstance (by decide +kernel) (so_cons (.var (pv 1)) (so_cons (.val (SE.cst (pe_bltn (v := .ty "bool") (by rfl) T.z_bool (by decide +kernel) rfl) (fun _ _ => rfl))) so_nil)))) (sw_or1 (st_val (se_callB call_isiD (ins_isi rfl) (by rfl) T.z_isinstance (by decide +kernel) (so_cons (.var (pv 1)) (so_cons (.val (SE.cst (pe_bltn (v := .ty "str") (by rfl) T.z_str (by decide +kernel) rfl) (fun _ _ => rfl))) so_nil)))))))
    (sss_one (ss_ret (se_and (se_cmp (op_eqDV rfl (hu65 hr)) ins_eq (.val (se_callB call_isiD (ins_isi rfl) (by rfl) T.z_isinstance (by decide +kernel) (so_cons (.var (pv 0)) (so_cons (.val (SE.cst (pe_bltn (v := .ty "bool") (by rfl) T.z_bool (by decide +kernel) rfl) (fun _ _ => rfl))) so_nil)))) (.val (se_callB call_isiD (ins_isi rfl) (by rfl) T.z_isinstance (by decide +kernel) (so_cons (.var (pv 1)) (so_cons (.val (SE.cst (pe_bltn (v := .ty "bool") (by rfl) T.z_bool (by decide +kernel) rfl) (fun _ _ => rfl))) so_nil)))) (nomark _)) (se_one (se_cmp (op_eqDV rfl (hu65 hr)) ins_eq (.var (pv 0)) (.var (pv 1)) (nomark _))))))
    sss_nil)
  (sss_one (ss_ret (se_and (se_callB call_isiD (ins_isi rfl) (by rfl) T.z_isinstance (by decide +kernel) (so_cons (.var (pv 0)) (so_cons (.val (SE.cst (pe_bltn (v := .ty "int") (by rfl) T.z_int (by decide +kernel) rfl) (fun _ _ => rfl))) so_nil))) (se_and (se_notT (se_callB call_isiD (ins_isi rfl) (by rfl) T.z_isinstance (by decide +kernel) (so_cons (.var (pv 0)) (so_cons (.val (SE.cst (pe_bltn (v := .ty "bool") (by rfl) T.z_bool (by decide +kernel) rfl) (fun _ _ => rfl))) so_nil)))) (se_one (se_cmp (op_eqDV rfl (hu65 hr)) ins_eq (.var (pv 0)) (.var (pv 1)) (nomark _))))))))))
theorem G_l_due {P : Program} {w : World} {K : PySem.W.Frag} {mg : Str → Option Value} {base : Heap} (T : Top K mg) : FnOk P w K mg base (L2.CX P w) 1 T.a_l_due T.fd_l_due ["_law_whole", "_law_spot"] (spF T.cf 2 fn_l_due) :=
  fn_ok (N := ["_law_whole", "_law_spot", "_law_signs", "_law_rest", "_law_found", "_law_k"]) (k := 0) T.F_l_due sc_l_due rfl fun cdv A outer s H E hr =>
  (sss_cons (ss_par3 (i := 2) (j := 3) (l := 4) (by rfl) sc_l_due.nd rfl rfl rfl (by decide) (by decide) (by decide) rfl rfl rfl (es_cons se_str (es_cons (se_bin op_addD (ins_add rfl) (.val (se_bin op_mulE ins_mulE (.val se_int) (.var (pv 0)))) (.var (pv 1))) (es_cons se_str es_nil))) (by rfl))
  (sss_cons (ss_for (hs := []) (passes_of rfl) rfl (si_range1 (hs := []) (by rfl) T.z_range (so_cons (.val se_int) so_nil)) (sg_name (i := 5) sc_l_due.nd rfl (by first | exact Or.inl rfl | exact Or.inr rfl))
    (sss_one (ss_par (i := 4) (j := 3) (by rfl) sc_l_due.nd rfl rfl (by decide) rfl rfl (es_cons (se_bin op_addD (ins_add rfl) (.val (se_ix ix_seq (ins_ix rfl) (.var (pv 2)) (.val (se_bin op_mod ins_mod (.var (pv 3)) (.val se_int))) (fun _ _ => rfl))) (.var (pv 4))) (es_cons (se_bin op_fdivW ins_fdiv (.var (pv 3)) (.val se_int)) es_nil)) (by rfl)))
    (by decide))
  (sss_one (ss_ret (SE.tk (pv 4))))))
theorem G_l_right {P : Program} {w : World} {K : PySem.W.Frag} {mg : Str → Option Value} {base : Heap} (T : Top K mg) : FnOk P w K mg base (L2.CX P w) 9 T.a_l_right T.fd_l_right ["_law_box"] (spF T.cf 1 fn_l_right) :=
  fn_ok (N := ["_law_box", "_law_some", "_law_turn", "_law_near", "_law_whole", "_law_spot", "_law_rising"]) (k := 8) T.F_l_right sc_l_right rfl fun cdv A outer s H E hr =>
  (sss_cons (ss_set (i := 1) sc_l_right.nd rfl (by first | exact Or.inl rfl | exact Or.inr rfl) (se_lst (es_cons (se_tup (es_cons se_int (es_cons se_int es_nil))) (es_cons (se_tup (es_cons se_int (es_cons se_int es_nil))) (es_cons (se_tup (es_cons se_int (es_cons se_int es_nil))) (es_cons (se_tup (es_cons se_int (es_cons se_int es_nil))) (es_cons (se_tup (es_cons se_int (es_cons se_int es_nil))) (es_cons (se_tup (es_cons se_int (es_cons se_int es_nil))) (es_cons (se_tup (es_cons se_int (es_cons se_int es_nil))) (es_cons (se_tup (es_cons se_int (es_cons se_int es_nil))) es_nil))))))))))
  (sss_cons (ss_for (hs := []) (passes_of rfl) rfl (si_range1 (hs := []) (by rfl) T.z_range (so_cons (.val se_int) so_nil)) (sg_name (i := 2) sc_l_right.nd rfl (by first | exact Or.inl rfl | exact Or.inr rfl))
    (sss_cons (ss_set (i := 3) sc_l_right.nd rfl (by first | exact Or.inl rfl | exact Or.inr rfl) (se_bin op_sub ins_sub (.val (se_ix ix_seq (ins_ix rfl) (.val (se_lst (es_cons se_int (es_cons se_int (es_cons se_int es_nil))))) (.val (se_call (G_l_take T) (hr.mono (by first | decide | omega)) (takes_of rfl rfl rfl rfl) (by rfl) T.g_l_take T.F_l_take.kp ⟨T.kb_l_take_2, rfl, by decide, rfl⟩ (so_cons (.var (pv 0)) (so_cons (.val se_int) so_nil)) .nil rfl rfl)) (fun _ _ => rfl))) (.val (se_call (G_l_take T) (hr.mono (by first | decide | omega)) (takes_of rfl rfl rfl rfl) (by rfl) T.g_l_take T.F_l_take.kp ⟨T.kb_l_take_2, rfl, by decide, rfl⟩ (so_cons (.var (pv 0)) (so_cons (.val se_int) so_nil)) .nil rfl rfl))))
    (sss_one (ss_expr (se_mutV rfl PySem.F.plainAttrs_list PySem.F.slot_list_append PySem.F.type_list_append mt_append insM_append (pv 1) (es_cons (se_tup (es_cons (se_call (G_l_one_of T) (hr.mono (by first | decide | omega)) (takes_of rfl rfl rfl rfl) (by rfl) T.g_l_one_of T.F_l_one_of.kp ⟨T.kb_l_one_of_2, rfl, by decide, rfl⟩ (so_cons (.var (pv 0)) (so_cons (.val (se_lst (es_cons (se_bin op_addD (ins_add rfl) (.val se_int) (.val (se_call (G_l_take T) (hr.mono (by first | decide | omega)) (takes_of rfl rfl rfl rfl) (by rfl) T.g_l_take T.F_l_take.kp ⟨T.kb_l_take_2, rfl, by decide, rfl⟩ (so_cons (.var (pv 0)) (so_cons (.val se_int) so_nil)) .nil rfl rfl))) (es_cons (se_bin op_addD (ins_add rfl) (.val se_int) (.val (se_call (G_l_take T) (hr.mono (by first | decide | omega)) (takes_of rfl rfl rfl rfl) (by rfl) T.g_l_take T.F_l_take.kp ⟨T.kb_l_take_2, rfl, by decide, rfl⟩ (so_cons (.var (pv 0)) (so_cons (.val se_int) so_nil)) .nil rfl rfl))) (es_cons (SE.tk (pv 3)) es_nil))))) so_nil)) .nil rfl rfl) (es_cons (se_call (G_l_take T) (hr.mono (by first | decide | omega)) (takes_of rfl rfl rfl rfl) (by rfl) T.g_l_take T.F_l_take.kp ⟨T.kb_l_take_2, rfl, by decide, rfl⟩ (so_cons (.var (pv 0)) (so_cons (.val se_int) so_nil)) .nil rfl rfl) es_nil))) es_nil)))))
    (by decide))
  (sss_cons (ss_for (hs := [1]) (passes_of rfl) rfl (si_list (hs := [1]) rfl (.var (pv 1)) (show _ ∈ _ by decide)) (sg_tup rfl rfl (sgs_cons (sg_name (i := 4) sc_l_right.nd rfl (by first | exact Or.inl rfl | exact Or.inr rfl)) (sgs_cons (sg_name (i := 5) sc_l_right.nd rfl (by first | exact Or.inl rfl | exact Or.inr rfl)) sgs_nil)))
    (sss_cons (ss_if (st_not (st_val (se_call (G_l_same T 8) (hr.mono (by first | decide | omega)) (takes_of rfl rfl rfl rfl) (by rfl) T.g_l_same T.F_l_same.kp ⟨T.kb_l_same_2, rfl, by decide, rfl⟩ (so_cons (.val (se_call (G_ticket_text T) (hr.mono (by first | decide | omega)) (takes_of rfl rfl rfl rfl) (by rfl) T.g_ticket_text T.F_ticket_text.kp ⟨T.kb_ticket_text_2, rfl, by decide, rfl⟩ (so_cons (.var (pv 4)) (so_cons (.var (pv 5)) so_nil)) .nil rfl rfl)) (so_cons (.val (se_call (G_l_due T) (hr.mono (by first | decide | omega)) (takes_of rfl rfl rfl rfl) (by rfl) T.g_l_due T.F_l_due.kp ⟨T.kb_l_due_2, rfl, by decide, rfl⟩ (so_cons (.var (pv 4)) (so_cons (.var (pv 5)) so_nil)) .nil rfl rfl)) so_nil)) .nil rfl rfl)))
      (sss_one (ss_ret se_bl))
      sss_nil)
    (sss_one (ss_if (st_not (st_val (se_call (G_l_same T 8) (hr.mono (by first | decide | omega)) (takes_of rfl rfl rfl rfl) (by rfl) T.g_l_same T.F_l_same.kp ⟨T.kb_l_same_2, rfl, by decide, rfl⟩ (so_cons (.val (se_call0 (G_ticket_in T) (hr.mono (by first | decide | omega)) (takes_of rfl rfl rfl rfl) (by rfl) T.g_ticket_in T.F_ticket_in.kp ⟨T.kb_ticket_in_0_text, rfl, by decide, rfl⟩ (.cons (.val (se_call0 (G_ticket_text T) (hr.mono (by first | decide | omega)) (takes_of rfl rfl rfl rfl) (by rfl) T.g_ticket_text T.F_ticket_text.kp ⟨T.kb_ticket_text_0_at_number, rfl, by decide, rfl⟩ (.cons (.var (pv 5)) (.cons (.var (pv 4)) .nil)) rfl)) .nil) rfl)) (so_cons (.val (se_tup (es_cons (SE.tk (pv 4)) (es_cons (SE.tk (pv 5)) es_nil)))) so_nil)) .nil rfl rfl)))
      (sss_one (ss_ret se_bl))
      sss_nil)))
    (by decide))
  (sss_cons (ss_lc (i := 6) (own := [("_law_whole", 4), ("_law_spot", 5)]) (t := (.tp [(.nm 4), (.nm 5)])) (tt := none) rfl sc_l_right.nd rfl rfl (sw_true rfl rfl rfl (by decide +kernel)) (si_list (hs := []) rfl (.val (se_srtSetP rfl hr rfl (by rfl) T.z_sorted (by rfl) T.z_set (.var (pv 1)))) trivial) (blkOk_by (own := [("_law_whole", 4), ("_law_spot", 5)]) (N := ["_law_box", "_law_some", "_law_turn", "_law_near", "_law_whole", "_law_spot", "_law_rising"]) (sc := defScope s_l_right) (by decide +kernel)) (fun _ _ _ _ _ => (sg_tup rfl rfl (sgs_cons (sg_name (i := 4) sc_l_right.nd rfl (by first | exact Or.inl rfl | exact Or.inr rfl)) (sgs_cons (sg_name (i := 5) sc_l_right.nd rfl (by first | exact Or.inl rfl | exact Or.inr rfl)) sgs_nil)))) (fun _ _ _ _ _ => sc_nil) (fun _ _ _ _ _ => (se_call (G_ticket_text T) (hr.mono (by first | decide | omega)) takes0 (by rfl) T.g_ticket_text T.F_ticket_text.kp ⟨T.kb_ticket_text_2, rfl, by decide, rfl⟩ (so_cons (.var (pv 4)) (so_cons (.var (pv 5)) so_nil)) .nil rfl rfl)) (by decide))
  (sss_one (ss_ret (se_cmp (op_eqDV rfl (hu65 hr)) ins_eq (.var (pv 6)) (.val (se_srtSetT rfl rfl (by rfl) T.z_sorted (by rfl) T.z_set (.val (se_lc (own := [("_law_whole", 4), ("_law_spot", 5)]) (t := (.tp [(.nm 4), (.nm 5)])) (tt := none) rfl sc_l_right.nd (si_list (hs := [1]) rfl (.var (pv 1)) (show _ ∈ _ by decide)) (blkOk_by (own := [("_law_whole", 4), ("_law_spot", 5)]) (N := ["_law_box", "_law_some", "_law_turn", "_law_near", "_law_whole", "_law_spot", "_law_rising"]) (sc := defScope s_l_right) (by decide +kernel)) (fun _ _ _ _ _ => (sg_tup rfl rfl (sgs_cons (sg_name (i := 4) sc_l_right.nd rfl (by first | exact Or.inl rfl | exact Or.inr rfl)) (sgs_cons (sg_name (i := 5) sc_l_right.nd rfl (by first | exact Or.inl rfl | exact Or.inr rfl)) sgs_nil)))) (fun _ _ _ _ _ => sc_nil) (fun _ _ _ _ _ => (se_call (G_l_due T) (hr.mono (by first | decide | omega)) takes0 (by rfl) T.g_l_due T.F_l_due.kp ⟨T.kb_l_due_2, rfl, by decide, rfl⟩ (so_cons (.var (pv 4)) (so_cons (.var (pv 5)) so_nil)) .nil rfl rfl)) (by decide))))) (nomark _))))))))
theorem G_law {P : Program} {w : World} {K : PySem.W.Frag} {mg : Str → Option Value} {base : Heap} (T : Top K mg) : FnOk P w K mg base (L2.CX P w) 10 T.a_law T.fd_law ["_law_script"] (spF T.cf 1 fn_law) :=
  fn_ok (N := ["_law_script", "_law_cells", "_law_k"]) (k := 9) T.F_law sc_law rfl fun cdv A outer s H E hr =>
  (sss_cons (ss_set (i := 1) sc_law.nd rfl (by first | exact Or.inl rfl | exact Or.inr rfl) (se_call (G_l_folded T) (hr.mono (by first | decide | omega)) (takes_of rfl rfl rfl rfl) (by rfl) T.g_l_folded T.F_l_folded.kp ⟨T.kb_l_folded_2, rfl, by decide, rfl⟩ (so_cons (.var (pv 0)) (so_cons (.val se_int) so_nil)) .nil rfl rfl))
  (sss_one (ss_ret (se_callB (cr_all rfl) ins_all (by rfl) T.z_all (by decide +kernel) (so_cons (.val (se_lc (own := [("_law_k", 2)]) (t := (.nm 2)) (tt := none) rfl sc_law.nd (si_range1 (hs := []) (by rfl) T.z_range (so_cons (.val (se_callB (call_max2 rfl) ins_max2 (by rfl) T.z_max (by decide +kernel) (so_cons (.val se_int) (so_cons (.val (se_callB call_lenD (ins_lenD rfl) (by rfl) T.z_len (by decide +kernel) (so_cons (.var (pv 1)) so_nil))) so_nil)))) so_nil)) (blkOk_by (own := [("_law_k", 2)]) (N := ["_law_script", "_law_cells", "_law_k"]) (sc := defScope s_law) (by decide +kernel)) (fun _ _ _ _ _ => (sg_name (i := 2) sc_law.nd rfl (by first | exact Or.inl rfl | exact Or.inr rfl))) (fun _ _ _ _ _ => sc_nil) (fun _ _ _ _ _ => (se_call (G_l_right T) (hr.mono (by first | decide | omega)) takes0 (by rfl) T.g_l_right T.F_l_right.kp ⟨T.kb_l_right_1, rfl, by decide, rfl⟩ (so_cons (.val (se_call (G_l_dip T) (hr.mono (by first | decide | omega)) takes0 (by rfl) T.g_l_dip T.F_l_dip.kp ⟨T.kb_l_dip_2, rfl, by decide, rfl⟩ (so_cons (.var (pv 1)) (so_cons (.var (pv 2)) so_nil)) .nil rfl rfl)) so_nil) .nil rfl rfl)) (by decide))) so_nil)))))
local macro_rules | `(tactic| walk_at "go") => `(tactic| repeat (first | (walk_at "ev") | (walk_at "lem") | with_reducible refine pnd_i ?_ | with_reducible refine pndS_i ?_ | with_reducible refine pndR_i ?_ | with_reducible refine pnd3_i ?_ | with_reducible refine pndm_i ?_ | with_reducible refine pndp_i ?_ | with_reducible refine pndi_i ?_ | with_reducible refine iteI (by first | omega | assumption | walk_at "cond") ?_ | with_reducible refine iteN (by first | omega | assumption | walk_at "cond") ?_))
local macro_rules | `(tactic| walk_at "cond") => `(tactic| fail)
local macro_rules | `(tactic| walk_at "lem") => `(tactic| simp (disch := omega) only [eqD_ii, eqD_tt, eqD_ff, eqD_tf, eqD_ft, eqD_bb, eqD_nn, eqD_ss, beq_self_eq_true, cleans_int, enumD_int, cleans_app, at_map_int, set_int, cutD_int, cutD_drop, cutD_drop1, cleans_bl, dataDs_bl, kAll_true, kAny_false, kAll_bl, kAny_bl, sum_map2, cleans_map2, kSum_int, kMax_int, kMaxDf_ints, ixN_nat])
local macro_rules | `(tactic| walk_at "ev") => `(tactic| simp only [r_C, r_tk, r_tks, r_tk2t, r_tk2f, r_ops, r_opsk, r_ops2, r_ops3, r_ops3n, r_ops3i, r_O0, r_Ov, r_Ovs, r_Of, r_kval, r_ktmp, r_klate, r_L0, r_L1, r_kl2, r_kcons, r_tup, r_tupk, r_lst, r_lstk, r_if, r_ifkt, r_ifkf, r_ifku, r_ifkn, r_an, r_ankt, r_ankf, r_anku, r_ankn, r_or, r_orkt, r_orkf, r_orku, r_orkn, r_bb, r_bbk, r_nt, r_ntk, r_tan, r_tankt, r_tankf, r_tanku, r_tankn, r_tor, r_torkt, r_torkf, r_torku, r_torkn, r_en, r_enk, r_fz, r_fzk, r_ch, r_chk, r_ch2, r_ch3t, r_ch3f, r_ch3u, r_ch3n, r_sl, r_slk, r_sl2, r_sl3, r_sl4, r_in, r_is, r_ink, r_odf, r_odk, r_odv, r_odvs, r_seq, r_seqn, r_seqr, r_seqb, r_seqc, r_seqx, r_seqz, r_skip, r_brk, r_cnt, r_retn, r_sif, r_sifkt, r_sifkf, r_sifku, r_sifkn, r_ret, r_retk, r_exp, r_expk, r_set, r_setk, r_par, r_park, r_asg, r_asgk, r_asg2, r_aug, r_augd, r_augk, r_aug2, r_sto, r_stok, r_sto2, r_sto3, r_sto4, r_sto5, r_endr, r_endn, r_call, r_callk, r_call2, r_call3, r_back, r_mut, r_muts, r_mutk, r_mut2, r_mut3, r_mut3i, r_mut3n, r_mul, r_muls, r_mulk, r_mul2, r_pl, r_plk, r_pl2, r_pl3, r_pl3i, r_pn, r_pnk, r_px, r_pxk, r_px2, r_px3, r_for, r_fork, r_putn, r_putr, r_cmp, r_cmpk, r_cmp2, r_iw, r_iwk, r_iw2, r_iw3, r_iw3i, r_tgk, r_tg2, r_turnn, r_turnc, r_turnb, r_turnr, r_ctk, r_tt0, r_tt1, r_ttkt, r_ttkf, r_ttku, r_ttkn, r_elk, r_forW, r_forWK, r_whkt, r_whkf, r_whku, r_whkn, r_turnwn, r_turnwc, r_turnwb, r_turnwr, r_cmk, r_fltk, r_mapk, r_isi_non_bool, r_isi_non_int, r_isi_non_str, r_isi_non_tuple, r_isi_non_list, r_isi_non_dict, r_isi2_non, r_isi_bl_bool, r_isi_bl_int, r_isi_bl_str, r_isi_bl_tuple, r_isi_bl_list, r_isi_bl_dict, r_isi2_bl, r_isi_int_bool, r_isi_int_int, r_isi_int_str, r_isi_int_tuple, r_isi_int_list, r_isi_int_dict, r_isi2_int, r_isi_str_bool, r_isi_str_int, r_isi_str_str, r_isi_str_tuple, r_isi_str_list, r_isi_str_dict, r_isi2_str, r_isi_tup_bool, r_isi_tup_int, r_isi_tup_str, r_isi_tup_tuple, r_isi_tup_list, r_isi_tup_dict, r_isi2_tup, r_isi_lst_bool, r_isi_lst_int, r_isi_lst_str, r_isi_lst_tuple, r_isi_lst_list, r_isi_lst_dict, r_isi2_lst, r_isi_scr_bool, r_isi_scr_int, r_isi_scr_str, r_isi_scr_tuple, r_isi_scr_list, r_isi_scr_dict, r_isi2_scr, r_augI, r_augI1, r_augI2, r_augI3, r_augI4, r_augI5, r_augI6, r_eo_non_non, r_eo_non_bl, r_eo_non_int, r_eo_non_str, r_eo_bl_non, r_eo_bl_bl, r_eo_bl_int, r_eo_bl_str, r_eo_int_non, r_eo_int_bl, r_eo_int_int, r_eo_int_str, r_eo_str_non, r_eo_str_bl, r_eo_str_int, r_eo_str_str, r_iS, r_isk, r_bm, r_bmk, r_bm2, r_bm3, r_kw, r_kwk, r_kw2, r_gt0, r_gt1, r_gt2, r_gt3, r_gt4, r_gt5, r_gt6, r_gt7, r_gt8, r_gt9, r_gt10, r_gt11, r_gt12, r_gt13, r_gt14, r_gt15, r_gt16, r_gt17, r_gt18, r_gt19, r_gt20, r_gt21, r_gt22, r_gt23, r_gt24, r_gt25, r_gt26, r_gt27, r_gt28, r_gt29, r_gt30, r_gt31, r_gt32, r_gt33, r_gt34, r_gt35, r_gt36, r_gt37, r_gt38, r_gt39, r_st0, r_st1, r_st2, r_st3, r_st4, r_st5, r_st6, r_st7, r_st8, r_st9, r_st10, r_st11, r_st12, r_st13, r_st14, r_st15, r_st16, r_st17, r_st18, r_st19, r_st20, r_st21, r_st22, r_st23, r_st24, r_st25, r_st26, r_st27, r_st28, r_st29, r_st30, r_st31, r_st32, r_st33, r_st34, r_st35, r_st36, r_st37, r_st38, r_st39, r_resn, r_resc, r_rs2, r_rest, r_resl, r_out0, r_out1, r_put0, r_put1, r_put2, r_put2n, r_pr0, r_prt, r_prl, r_pr1, r_pr2, r_pm0, r_pmu, r_pmw, r_pmd, r_pm2, r_pmds, r_ae0, r_ae1, r_ow0, r_ow1, r_ow2, r_wb0, r_wb1, r_wb2, r_tgn, r_tgt, r_tgs0, r_tgs1, r_tgs2, r_cl_non, r_cl_bl, r_cl_int, r_cl_str, r_cl_ty, r_cl_scr, r_cl_lt, r_cl_lf, r_cl_tp, r_cls0, r_cls1, r_len_l, r_len_t, r_len_s, r_len_x, r_at0, r_at1, r_at2, r_at3, r_at4, r_at5, r_at6, r_at7, r_at8, r_at9, r_at10, r_at11, r_at12, r_at13, r_ix1_0, r_ix1_m, r_ix2_0, r_ix2_1, r_ix2_m, r_ix3_0, r_ix3_1, r_ix3_2, r_ix3_m, r_ix4_0, r_ix4_1, r_ix4_2, r_ix4_3, r_ix4_m, r_ix5_0, r_ix5_1, r_ix5_2, r_ix5_3, r_ix5_4, r_ix5_m, r_ix6_0, r_ix6_1, r_ix6_2, r_ix6_3, r_ix6_4, r_ix6_5, r_ix6_m, r_ix7_0, r_ix7_1, r_ix7_2, r_ix7_3, r_ix7_4, r_ix7_5, r_ix7_6, r_ix7_m, r_ix8_0, r_ix8_1, r_ix8_2, r_ix8_3, r_ix8_4, r_ix8_5, r_ix8_6, r_ix8_7, r_ix8_m, r_ix9_0, r_ix9_1, r_ix9_2, r_ix9_3, r_ix9_4, r_ix9_5, r_ix9_6, r_ix9_7, r_ix9_8, r_ix9_m, r_ls0, r_ls0_1, r_ls0_2, r_ls0_3, r_ls0_4, r_ls0_5, r_ls0_6, r_ls0_7, r_ls0_8, r_ls0_9, r_ls0_10, r_ls0_11, r_ls0_12, r_ls0_13, kAdd, kSub, kMul, kFdiv, kMod, kPow, kNeg, kLt, kLe, kGt, kGe, kIsN, kNotN, isNon, kIsB, kNotB, kAbs, kMax2, kMin2, kInt1, kBool1, kList, kTuple, kAppend, kReverse, kClear, kExtend, kPop, kSet, aAdd, aSub, tyM, kL, kT, kR1, kR2, kR3d, kEn, kZp, isLst, isTup, kEq, kNe, kIn, kNotIn, kInB, kIx, cutsD, stepI, freeze, freezes, dataD, dataDs, dep, deps, Nat.min_self, ifW_t, ifW_f, app2, if_true, if_false, ite_true, ite_false, Bool.false_eq_true, decide_eq_true_eq, Option.map_some, Option.map_none, List.length_cons, List.length_nil, Nat.reduceAdd, Nat.reduceLeDiff, Nat.reduceLT, Nat.reduceSub, List.cons_append, List.nil_append, List.take_succ_cons, List.drop_succ_cons, List.take_zero, List.drop_zero, List.getElem?_cons_zero, List.getElem?_cons_succ, Bool.and_true, Bool.true_and, Bool.and_self, List.nodup_nil, List.nodup_cons, List.not_mem_nil, not_false_eq_true, and_self, and_true, true_and, Bool.not_true, Bool.not_false, reduceCtorEq, id_eq, List.mem_cons, or_false, or_self, Bool.not_eq_true, Bool.not_eq_false, String.reduceEq, Nat.reduceEqDiff, Bool.false_or, Bool.or_false, Bool.true_or, Bool.or_true, Bool.and_false, Bool.false_and, decide_true, decide_false, Option.some.injEq, Nat.zero_add])
local macro_rules | `(tactic| walk_at "cond") => `(tactic| decide +kernel)
local macro_rules | `(tactic| walk_at "lem") => `(tactic| simp only [kJoin, kSplit, kLower, kZfill, kInt16, kDivmod, kListE, kStr1, kMulE, kRev, aFdiv, len_cat, len_one, len_revS, strsO_map, cleans_str])
local macro_rules | `(tactic| walk_at "lem") => `(tactic| simp only [kIntT_bl, kIntT_int, kLeE_ii, kLeE_ss, r_par3, r_par3k, r_chS, r_chSk, r_ch2S, r_ch3St, r_ch3Sf])
local macro_rules | `(tactic| walk_at "lem") => `(tactic| simp only [kLRg, kLRg1, kInsert])
local macro_rules | `(tactic| walk_at "lem") => `(tactic| simp only [r_peek, r_peekk, r_peek2, r_peek3, r_peekn, r_peekb, r_peeki, r_peeks, r_peekt, r_peekl, r_fr0, r_fr1, r_frn, r_frb, r_fri, r_frs, r_frt, r_frl, r_frzA0, r_frzA1])
local macro_rules | `(tactic| walk_at "lem") => `(tactic| simp only [r_sub2, r_sub2k, r_fzN, r_fzNk])
local macro_rules | `(tactic| walk_at "lem") => `(tactic| simp only [kAddB, kSubB, kNegB, kStrB, kMulT])
section
/-- a box of draws, n draws at most so far -/
def Bx (n : Nat) (d : D) : Prop := ∃ a b c : Int, d = .lst true [.int a, .int b, .int c] ∧ 0 ≤ a ∧ 0 ≤ b ∧ b < 2 ^ 62 ∧ 0 ≤ c ∧ c ≤ n
theorem Bx.cl {n : Nat} {d : D} (h : Bx n d) : clean d = false := by
  obtain ⟨a, b, c, rfl, _⟩ := h
  rfl
theorem Bx.le {n m : Nat} {d : D} (h : Bx n d) (l : n ≤ m) : Bx m d := by
  obtain ⟨a, b, c, e, h1, h2, h3, h4, h5⟩ := h
  exact ⟨a, b, c, e, h1, h2, h3, h4, by omega⟩
theorem take_w {n : Nat} {B : D} {m : Int} {Q : R D → Prop} (hB : Bx n B) (hn : n < 2 ^ 40) (h0 : 0 < m) (h1 : m < 2 ^ 63) (q : ∀ r B', 0 ≤ r → r < m → Bx (n + 1) B' → Q (.ok (.int r) [some B', some (.int m)])) : wR (fn_l_take [some B, some (.int m)]) Q := by
  obtain ⟨a, b, c, rfl, ha, hb, hb2, hc, hc2⟩ := hB
  rw [u_l_take]
  unfold b_l_take
  walk_at "go"
  refine iteS (fun hp => ?_) fun hp => ?_
  · walk_at "go"
    rw [o_l_take]
    exact q _ _ (Int.emod_nonneg _ (by omega)) (Int.emod_lt_of_pos _ h0) ⟨_, _, _, rfl, Int.ediv_nonneg ha (by omega), hb, hb2, hc, by omega⟩
  · walk_at "go"
    rw [o_l_take]
    exact q _ _ (Int.emod_nonneg _ (by omega)) (Int.emod_lt_of_pos _ h0) ⟨_, _, _, rfl, ha, hb, hb2, by omega, by omega⟩
theorem dip_w {cs : List Int} {k : Nat} {Q : R D → Prop} (hk : k < 64) (q : ∀ B, Bx 0 B → Q (.ok B [some (.lst true (cs.map .int)), some (.int k)])) : wR (fn_l_dip [some (.lst true (cs.map .int)), some (.int k)]) Q := by
  have bx : ∀ z : Int, Bx 0 (.lst true [.int ((if z < 0 then -z else z) * if 10 ^ Int.toNat 18 ≤ (if z < 0 then -z else z) then 1 else 0), .int (z % 2305843009213693951 + 39373 * k + 17), .int 0]) := fun z => by
    have h1 : 0 ≤ (if z < 0 then -z else z) := by split <;> omega
    refine ⟨_, _, _, rfl, Int.mul_nonneg h1 (by split <;> omega), ?_, ?_, by omega, by omega⟩
    · have := Int.emod_nonneg z (by omega : (2305843009213693951 : Int) ≠ 0); omega
    · have := Int.emod_lt_of_pos z (by omega : (0 : Int) < 2305843009213693951); omega
  rw [u_l_dip]
  unfold b_l_dip
  walk_at "go"
  refine iteS (fun c => ?_) fun c => ?_
  · have hl : k < cs.length := by simpa using c
    walk_at "go"
    rw [o_l_dip]
    exact q _ (bx _)
  · walk_at "go"
    rw [o_l_dip]
    exact q _ (bx _)
theorem folded_w {ns : List Int} {s : Nat} {Q : R D → Prop} (hs : 0 < s) (hs2 : s ≤ 63) (hn : ns.length ≤ 63) (q : ∀ cs : List Int, cs.length ≤ 63 → Q (.ok (.lst true (cs.map .int)) [some (.scr ns), some (.int s)])) : wR (fn_l_folded [some (.scr ns), some (.int s)]) Q := by
  rw [u_l_folded]
  unfold b_l_folded
  walk_at "go"
  refine forL_w (fun i δ => ∃ (cs : List Int) (x y : Option D), cs.length = (cutZ ns none (some (s : Int))).length ∧ δ = [some (.scr ns), some (.int s), some (.lst true (cs.map .int)), x, y]) _ 0 _ ⟨_, _, _, rfl, rfl⟩ (fun i δ d hd h => ?_) (fun δ h => ?_)
  · obtain ⟨cs, x, y, hl, rfl⟩ := h
    obtain ⟨hi, z, rfl⟩ := enum_get hd
    have hz0 : 0 ≤ (i : Int) % (s : Int) := Int.emod_nonneg _ (by omega)
    have hz1 : (i : Int) % (s : Int) < cs.length := by
      have : (i : Int) % (s : Int) < s := Int.emod_lt_of_pos _ (by omega)
      have h1 : (cutZ ns none (some (s : Int))).length = s := by
        unfold cutZ at hi ⊢
        have e0 : HT.sIx ns.length 0 (some (s : Int)) = min s ns.length := HT.sIx_nat _ _ _
        have e1 : HT.sIx ns.length ns.length (some (s : Int)) = min s ns.length := HT.sIx_nat _ _ _
        have e2 : HT.sIx ns.length 0 none = 0 := rfl
        rw [e0] at hi
        rw [e1, e2]
        simp only [List.length_take, List.length_drop] at hi ⊢
        omega
      omega
    obtain ⟨v, hv⟩ := at_map_z hz0 hz1
    have hx : ixN (cs.map D.int).length ((i : Int) % (s : Int)) = some ((i : Int) % (s : Int)).toNat := by rw [List.length_map]; exact ixN_z hz0 hz1
    have hi2 : i < 63 := Nat.lt_of_lt_of_le hi (Nat.le_trans cutZ_len hn)
    walk_at "go"
    rw [hv]
    walk_at "go"
    rw [hx]
    walk_at "go"
    exact ⟨_, _, _, by rw [List.length_set]; exact hl, rfl⟩
  · obtain ⟨cs, x, y, hl, rfl⟩ := h
    walk_at "go"
    rw [o_l_folded]
    exact q cs (by rw [hl]; exact Nat.le_trans cutZ_len hn)

end
section
/-! ### boxes of draws, kept closed -/
def bx (s : Int × Int × Int) : D := .lst true [.int s.1, .int s.2.1, .int s.2.2]
theorem clean_bx {s : Int × Int × Int} : clean (bx s) = false := rfl
def Bxs (n : Nat) (s : Int × Int × Int) : Prop := Bx n (bx s)
theorem Bxs.le {n m : Nat} {s : Int × Int × Int} (h : Bxs n s) (l : n ≤ m) : Bxs m s := Bx.le h l
theorem bx_of {n : Nat} {B : D} (h : Bx n B) : ∃ s, B = bx s ∧ Bxs n s := by
  obtain ⟨a, b, c, rfl, r⟩ := h
  exact ⟨(a, b, c), rfl, a, b, c, rfl, r⟩
theorem take_b {n : Nat} {s : Int × Int × Int} {m : Int} {Q : R D → Prop} (hB : Bxs n s) (hn : n < 2 ^ 40) (h0 : 0 < m) (h1 : m < 2 ^ 63) (q : ∀ r s', 0 ≤ r → r < m → Bxs (n + 1) s' → Q (.ok (.int r) [some (bx s'), some (.int m)])) : wR (fn_l_take [some (bx s), some (.int m)]) Q :=
  take_w hB hn h0 h1 fun r B' hr0 hr1 hB' => by
    obtain ⟨s', rfl, h⟩ := bx_of hB'
    exact q r s' hr0 hr1 h
theorem at_list {xs : List D} {r : Int} (h0 : 0 ≤ r) (h : r < xs.length) : ∃ v ∈ xs, atI xs r = some v := by
  obtain ⟨k, rfl⟩ := Int.eq_ofNat_of_zero_le h0
  have hk : k < xs.length := by omega
  refine ⟨xs[k], List.getElem_mem hk, ?_⟩
  unfold atI
  rw [ixN_nat hk]
  exact List.getElem?_eq_getElem hk
theorem at_two {x y : D} {r : Int} (h0 : 0 ≤ r) (h : r < 2) : ∃ v, atI [x, y] r = some v ∧ (v = x ∨ v = y) := by
  obtain ⟨v, hv, e⟩ := at_list (xs := [x, y]) h0 (by simpa using h)
  exact ⟨v, e, by simpa using hv⟩
theorem at_three {x y z : D} {r : Int} (h0 : 0 ≤ r) (h : r < 3) : ∃ v, atI [x, y, z] r = some v ∧ (v = x ∨ v = y ∨ v = z) := by
  obtain ⟨v, hv, e⟩ := at_list (xs := [x, y, z]) h0 (by simpa using h)
  exact ⟨v, e, by simpa using hv⟩
theorem at_four {x y z w : D} {r : Int} (h0 : 0 ≤ r) (h : r < 4) : ∃ v, atI [x, y, z, w] r = some v ∧ (v = x ∨ v = y ∨ v = z ∨ v = w) := by
  obtain ⟨v, hv, e⟩ := at_list (xs := [x, y, z, w]) h0 (by simpa using h)
  exact ⟨v, e, by simpa using hv⟩

end
section
/-! ### the laws' comparison, of one and the same -/
theorem zipD_self : ∀ {ds : List D}, zipD ds ds = ds.map fun d => .tup [d, d]
  | [] => rfl
  | d :: ds => by simp only [zipD, List.map_cons, zipD_self (ds := ds)]
theorem cleans_mem : ∀ {ds : List D} {d : D}, cleans ds = true → d ∈ ds → clean d = true
  | d :: ds, e, h, hm => by
    simp only [cleans, Bool.and_eq_true] at h
    rcases List.mem_cons.mp hm with rfl | hm
    · exact h.1
    · exact cleans_mem h.2 hm
theorem dataDs_mem : ∀ {ds : List D} {d : D}, dataDs ds = true → d ∈ ds → dataD d = true
  | d :: ds, e, h, hm => by
    simp only [dataDs, Bool.and_eq_true] at h
    rcases List.mem_cons.mp hm with rfl | hm
    · exact h.1
    · exact dataDs_mem h.2 hm
theorem deps_mem : ∀ {ds : List D} {d : D}, d ∈ ds → dep d ≤ deps ds
  | d :: ds, e, hm => by
    rw [deps]
    rcases List.mem_cons.mp hm with rfl | hm
    · exact Nat.le_max_left _ _
    · exact Nat.le_trans (deps_mem hm) (Nat.le_max_right _ _)
theorem dep_pos : ∀ d : D, 1 ≤ dep d := fun d => by cases d <;> simp [dep]
mutual
/-- the longest list or tuple in it -/
def maxw : D → Nat
  | .tup ds => max ds.length (maxws ds)
  | .lst _ ds => max ds.length (maxws ds)
  | _ => 0
def maxws : List D → Nat
  | [] => 0
  | d :: ds => max (maxw d) (maxws ds)
end
theorem maxws_mem : ∀ {ds : List D} {d : D}, d ∈ ds → maxw d ≤ maxws ds
  | d :: ds, e, hm => by
    rw [maxws]
    rcases List.mem_cons.mp hm with rfl | hm
    · exact Nat.le_max_left _ _
    · exact Nat.le_trans (maxws_mem hm) (Nat.le_max_right _ _)
theorem eqD_self : ∀ {d : D}, dataD d = true → eqD d d = true := by
  have key : ∀ n : Nat, ∀ d : D, dep d ≤ n → dataD d = true → eqD d d = true := by
    intro n
    induction n with
    | zero => intro d h; have := dep_pos d; omega
    | succ n ih =>
      intro d h hd
      have items : ∀ ds : List D, deps ds ≤ n → dataDs ds = true → eqDs ds ds = true := by
        intro ds
        induction ds with
        | nil => intro _ _; simp [eqDs]
        | cons x xs ihx =>
          intro h1 h2
          simp only [deps] at h1
          simp only [dataDs, Bool.and_eq_true] at h2
          simp only [eqDs, ih x (by omega) h2.1, ihx (by omega) h2.2, Bool.and_self]
      cases d with
      | non => simp [eqD]
      | bl b => simp [eqD]
      | int i => simp [eqD]
      | str x => simp [eqD]
      | tup ds => rw [eqD]; rw [dep] at h; rw [dataD] at hd; exact items ds (by omega) hd
      | lst o ds => rw [eqD]; rw [dep] at h; rw [dataD] at hd; exact items ds (by omega) hd
      | _ => simp [dataD] at hd
  exact fun {d} h => key _ d (Nat.le_refl _) h
theorem eqDs_self {ds : List D} (h : dataDs ds = true) : eqDs ds ds = true := by
  have := eqD_self (d := .tup ds) (by rw [dataD]; exact h)
  rwa [eqD] at this
theorem eqD_l {o p : Bool} {ds : List D} (h : dataDs ds = true) : eqD (.lst o ds) (.lst p ds) = true := by rw [eqD]; exact eqDs_self h
theorem eqOk_l {o p : Bool} {ds : List D} (h : dataDs ds = true) (h2 : deps ds ≤ 60) : eqOk (.lst o ds) (.lst p ds) = true := by
  unfold eqOk
  rw [dataD, dataD, dep, dep, h]
  simp
  omega
theorem same_w : ∀ {n : Nat} {d : D} {Q : R D → Prop}, dep d ≤ n → n ≤ 60 → dataD d = true → clean d = true → maxw d ≤ 100000 → Q (.ok (.bl true) [some d, some d]) → wR (fn_l_same n [some d, some d]) Q
  | 0, d, Q, h, _, _, _, _, _ => by have := dep_pos d; omega
  | n + 1, d, Q, h, hn, hd, hc, hw, q => by
    have items : ∀ ds : List D, deps ds ≤ n → dataDs ds = true → cleans ds = true → maxws ds ≤ 100000 → ∀ e ∈ ds, ∀ {Q : R D → Prop}, Q (.ok (.bl true) [some e, some e]) → wR (fn_l_same n [some e, some e]) Q := fun ds h1 h2 h3 h4 e he Q q =>
      same_w (Nat.le_trans (deps_mem he) h1) (by omega) (dataDs_mem h2 he) (cleans_mem h3 he) (Nat.le_trans (maxws_mem he) h4) q
    rw [u_l_same]
    unfold b_l_same
    cases d with
    | non => walk_at "go"; rw [o_l_same]; exact q
    | bl b =>
      walk_at "go"
      rw [o_l_same]; exact q
    | int i => walk_at "go"; rw [o_l_same]; exact q
    | str x => walk_at "go"; rw [o_l_same]; exact q
    | tup ds =>
      rw [dep] at h; rw [dataD] at hd; rw [clean] at hc
      walk_at "go"
      rw [maxw] at hw
      rw [zipD_self]
      refine compM_w _ _ (fun _ => .bl true) _ ?_ (fun d hdm => ?_) ?_
      · omega
      · have hcd := cleans_mem hc hdm
        walk_at "go"
        rw [hcd]
        walk_at "go"
        refine items ds (by omega) hd hc (by omega) d hdm ?_
        walk_at "go"
      · walk_at "go"
        rw [o_l_same]
        exact q
    | lst o ds =>
      cases o with
      | true => simp [clean] at hc
      | false =>
        rw [dep] at h; rw [dataD] at hd; rw [clean] at hc
        have hc : cleans ds = true := by simpa using hc
        walk_at "go"
        rw [maxw] at hw
        rw [zipD_self]
        refine compM_w _ _ (fun _ => .bl true) _ ?_ (fun d hdm => ?_) ?_
        · omega
        · have hcd := cleans_mem hc hdm
          walk_at "go"
          rw [hcd]
          walk_at "go"
          refine items ds (by omega) hd hc (by omega) d hdm ?_
          walk_at "go"
        · walk_at "go"
          rw [o_l_same]
          exact q
    | _ => simp [dataD] at hd
theorem same_l_w {n : Nat} {o p : Bool} {ds : List D} {Q : R D → Prop} (h : deps ds ≤ n) (hn : n ≤ 60) (hd : dataDs ds = true) (hc : cleans ds = true) (hw : maxws ds ≤ 100000) (hl : ds.length ≤ 100000) (q : Q (.ok (.bl true) [some (.lst o ds), some (.lst p ds)])) : wR (fn_l_same (n + 1) [some (.lst o ds), some (.lst p ds)]) Q := by
  rw [u_l_same]
  unfold b_l_same
  cases o <;> cases p
  all_goals
    walk_at "go"
    rw [zipD_self]
    refine compM_w _ _ (fun _ => .bl true) _ ?_ (fun d hdm => ?_) ?_
    · omega
    · have hcd := cleans_mem hc hdm
      walk_at "go"
      rw [hcd]
      walk_at "go"
      refine same_w (Nat.le_trans (deps_mem hdm) h) hn (dataDs_mem hd hdm) hcd (Nat.le_trans (maxws_mem hdm) hw) ?_
      walk_at "go"
    · walk_at "go"
      rw [o_l_same]
      exact q

end
section
/-! ### the laws' pick of some -/
theorem cleans_in : ∀ {ds : List D} {d : D}, cleans ds = true → d ∈ ds → clean d = true
  | d :: ds, e, h, hm => by
    simp only [cleans, Bool.and_eq_true] at h
    rcases List.mem_cons.mp hm with rfl | hm
    · exact h.1
    · exact cleans_in h.2 hm
/-- two branches that join: G is found when the first one ends -/
theorem joinG {α β : Type} {P G : α → β → Prop} {A : Prop} (main : (∀ x y, P x y → G x y) → A) (key : ∀ x y, P x y → G x y) : A := main key
theorem ten6 : (10 : Int) ^ Int.toNat 6 = 1000000 := by decide
theorem ten9 : (10 : Int) ^ Int.toNat 9 = 1000000000 := by decide
theorem ten12 : (10 : Int) ^ Int.toNat 12 = 1000000000000 := by decide
theorem ten18 : (10 : Int) ^ Int.toNat 18 = 1000000000000000000 := by decide
theorem ten30 : (10 : Int) ^ Int.toNat 30 = 1000000000000000000000000000000 := by decide
local macro_rules | `(tactic| walk_at "lem") => `(tactic| simp (disch := omega) only [clean_bx])
theorem one_of_w {n : Nat} {s : Int × Int × Int} {ds : List D} {o : Bool} {Q : R D → Prop} (hB : Bxs n s) (hn : n < 2 ^ 30) (hl : 0 < ds.length) (hl2 : ds.length ≤ 1000) (hc : cleans ds = true)
    (q : ∀ d s', d ∈ ds → Bxs (n + 1) s' → Q (.ok d [some (bx s'), some (.lst o ds)])) : wR (fn_l_one_of [some (bx s), some (.lst o ds)]) Q := by
  rw [u_l_one_of]
  unfold b_l_one_of
  cases o
  all_goals
    walk_at "go"
    refine take_b hB (by omega) (by omega) (by omega) fun r s hr0 hr1 hB => ?_
    walk_at "go"
    obtain ⟨d, hd, e⟩ := at_some hr0 hr1
    rw [e]
    have hcd := cleans_in hc hd
    walk_at "go"
    rw [o_l_one_of]
    exact q d s hd hB

end
section
/-! ### k62: five hexadecimal signs -/
def hexc (d : Nat) : Nat := if d < 10 then 48 + d else 55 + d
/-- the last i signs of a number -/
def lowd : Nat → Nat → List Nat
  | 0, _ => []
  | i + 1, r => hexc (r / 16 ^ i % 16) :: lowd i r
theorem lowd_len : ∀ i r, (lowd i r).length = i
  | 0, _ => rfl
  | i + 1, r => by rw [lowd, List.length_cons, lowd_len i r]
theorem lowd_mod : ∀ (i r m : Nat), i ≤ m → lowd i (r % 16 ^ m) = lowd i r
  | 0, _, _, _ => rfl
  | i + 1, r, m, h => by
    rw [lowd, lowd, lowd_mod i r m (by omega)]
    congr 2
    obtain ⟨k, rfl⟩ : ∃ k, m = i + (1 + k) := ⟨m - (i + 1), by omega⟩
    rw [Nat.pow_add, Nat.mod_mul, Nat.add_comm, Nat.mul_add_div (Nat.pow_pos (by decide)), Nat.div_eq_of_lt (Nat.mod_lt _ (Nat.pow_pos (by decide))), Nat.add_zero, Nat.pow_add, Nat.pow_one, Nat.mod_mul_right_mod]
theorem hexc_lt {a b : Nat} (h : a < b) : hexc a < hexc b := by
  unfold hexc
  split <;> split <;> omega
theorem lowd_lt : ∀ {i r q : Nat}, r < q → q < 16 ^ i → lowd i r < lowd i q
  | 0, r, q, h, k => by simp at k; omega
  | i + 1, r, q, h, k => by
    rw [lowd, lowd]
    have hp : 0 < 16 ^ i := Nat.pow_pos (by decide)
    have k2 : q < 16 ^ i * 16 := by rwa [Nat.pow_succ] at k
    have a1 : r / 16 ^ i < 16 := Nat.div_lt_of_lt_mul (by omega)
    have a2 : q / 16 ^ i < 16 := Nat.div_lt_of_lt_mul k2
    rw [Nat.mod_eq_of_lt a1, Nat.mod_eq_of_lt a2, List.cons_lt_cons_iff]
    rcases Nat.lt_or_ge (r / 16 ^ i) (q / 16 ^ i) with c | c
    · exact .inl (hexc_lt c)
    · have e : r / 16 ^ i = q / 16 ^ i := Nat.le_antisymm (Nat.div_le_div_right (by omega)) c
      refine .inr ⟨by rw [e], ?_⟩
      rw [← lowd_mod i r i (Nat.le_refl _), ← lowd_mod i q i (Nat.le_refl _)]
      refine lowd_lt ?_ (Nat.mod_lt _ hp)
      have b1 := Nat.div_add_mod r (16 ^ i)
      have b2 := Nat.div_add_mod q (16 ^ i)
      rw [e] at b1
      omega
theorem hexc_hv {d : Nat} (h : d < 16) : Hx.hv (hexc d) = d := by
  have : ∀ d : Fin 16, Hx.hv (hexc d.val) = d.val := by decide
  exact this ⟨d, h⟩
theorem hexc_in {d : Nat} (h : d < 16) : hexc d ∈ ("0123456789ABCDEF" : Str).cps.toList := by
  have : ∀ d : Fin 16, hexc d.val ∈ ("0123456789ABCDEF" : Str).cps.toList := by decide +kernel
  exact this ⟨d, h⟩
theorem hexc_at {d : Nat} (h : d < 16) : atI ("0123456789ABCDEF" : Str).cps.toList (d : Int) = some (hexc d) := by
  have : ∀ d : Fin 16, atI ("0123456789ABCDEF" : Str).cps.toList ((d.val : Nat) : Int) = some (hexc d.val) := by decide +kernel
  exact this ⟨d, h⟩
theorem lowd_in {i r : Nat} : ∀ c ∈ lowd i r, c ∈ ("0123456789ABCDEF" : Str).cps.toList := by
  induction i with
  | zero => intro c h; cases h
  | succ i ih =>
    intro c h
    rw [lowd] at h
    rcases List.mem_cons.mp h with rfl | h
    · exact hexc_in (Nat.mod_lt _ (by decide))
    · exact ih c h
theorem num_lowd (r : Nat) : ∀ (i a : Nat), (lowd i r).foldl (fun a c => a * 16 + Hx.hv c) a = a * 16 ^ i + r % 16 ^ i
  | 0, a => by simp [lowd, Nat.mod_one]
  | i + 1, a => by
    rw [lowd, List.foldl_cons, num_lowd r i, hexc_hv (Nat.mod_lt _ (by decide)), Nat.pow_succ, Nat.mod_mul, Nat.add_mul]
    rw [Nat.mul_comm (16 ^ i) 16, ← Nat.mul_assoc, Nat.mul_comm (r / 16 ^ i % 16) (16 ^ i)]
    omega
theorem hex_lowd {r : Nat} (h : r < 16 ^ 5) : Hx.hexNum (lowd 5 r) = r := by
  show (lowd 5 r).foldl (fun a c => a * 16 + Hx.hv c) 0 = r
  rw [num_lowd, Nat.mod_eq_of_lt h]
  omega
/-- noughts ahead -/
theorem lowd_pad : ∀ {k m r : Nat}, r < 16 ^ m → lowd (m + k) r = List.replicate k 48 ++ lowd m r
  | 0, m, r, _ => rfl
  | k + 1, m, r, h => by
    rw [← Nat.add_assoc, lowd, lowd_pad h, List.replicate_succ, List.cons_append]
    have hp : 16 ^ m ≤ 16 ^ (m + k) := Nat.pow_le_pow_right (by decide) (by omega)
    rw [Nat.div_eq_of_lt (by omega)]
    rfl
def tkS (r : Nat) : Str := ⟨(lowd 5 r).toArray⟩
theorem tkS_len (r : Nat) : (tkS r).length = 5 := by
  show (lowd 5 r).toArray.size = 5
  rw [List.size_toArray, lowd_len]
theorem tkS_cps (r : Nat) : (tkS r).cps.toList = lowd 5 r := rfl
theorem tkS_lt {r q : Nat} (h : r < q) (k : q < 16 ^ 5) : ltS (tkS r) (tkS q) := lowd_lt h k

end
section
/-! ### k62: tickets written and read -/
def lowS (i r : Nat) : Str := ⟨(lowd i r).toArray⟩
theorem lowS_len (i r : Nat) : (lowS i r).length = i := by
  show (lowd i r).toArray.size = i
  rw [List.size_toArray, lowd_len]
theorem lowS_succ (i r : Nat) : (⟨#[hexc (r / 16 ^ i % 16)]⟩ : Str) ++ lowS i r = lowS (i + 1) r := by
  apply str_ext
  show (#[hexc (r / 16 ^ i % 16)] ++ (lowd i r).toArray).toList = (lowd (i + 1) r).toArray.toList
  rw [Array.toList_append]
  rfl
theorem zf {j r : Nat} (hj : j ≤ 5) (hr : r < 16 ^ j) : Txt.zfill (lowS j r) 5 = tkS r := by
  unfold Txt.zfill
  split
  · rename_i h
    rw [lowS_len] at h
    have : j = 5 := by omega
    subst this
    rfl
  · rw [lowS_len]
    have hp : Builtin.Str.padded (lowS j r) ((5 : Int).toNat - j) 0 48 = tkS r := by
      apply str_ext
      show (Array.replicate ((5 : Int).toNat - j) 48 ++ (lowd j r).toArray ++ Array.replicate 0 48).toList = lowd 5 r
      rw [Array.toList_append, Array.toList_append, Array.toList_replicate, Array.toList_replicate]
      have e := lowd_pad (k := 5 - j) hr
      rw [show j + (5 - j) = 5 by omega] at e
      rw [e]
      simp
    unfold zfilled
    have hc : ∀ c, (lowS j r).cps[0]? = some c → c ≠ 43 ∧ c ≠ 45 := fun c h => by
      have h2 : c ∈ lowd j r := by
        have : (lowd j r)[0]? = some c := by
          rw [← h]
          show _ = (lowd j r).toArray[0]?
          rw [List.getElem?_toArray]
        exact List.mem_of_getElem? this
      have h3 := lowd_in c h2
      constructor
      · rintro rfl
        revert h3
        decide +kernel
      · rintro rfl
        revert h3
        decide +kernel
    split
    · rename_i h; exact absurd rfl (hc _ h).1
    · rename_i h; exact absurd rfl (hc _ h).2
    · exact hp
theorem ticket_text_w {n a : Nat} {Q : R D → Prop} (h2 : n ≤ 9999) (h4 : a ≤ 9) (q : Q (.ok (.str (tkS (16 * n + a))) [some (.int n), some (.int a)])) : wR (fn_ticket_text [some (.int n), some (.int a)]) Q := by
  rw [u_ticket_text]
  unfold b_ticket_text
  walk_at "go"
  have hr0 : 16 * n + a < 16 ^ 5 := by have : (16 : Nat) ^ 5 = 1048576 := by decide
                                       omega
  rw [show (16 : Int) * (n : Int) + (a : Int) = ((16 * n + a : Nat) : Int) by omega]
  generalize 16 * n + a = r at hr0 q ⊢
  refine loopW_w (fun m δ => 3 ≤ m ∧ m ≤ 8 ∧ δ = [some (.int n), some (.int a), some (.int ((r / 16 ^ (8 - m) : Nat) : Int)), some (.str (lowS (8 - m) r))]) (fun δ h => by omega) (fun m δ h => ?_) 8 _ ⟨by omega, by omega, by simp; rfl⟩
  obtain ⟨hm0, hm, rfl⟩ := h
  obtain ⟨j, hj⟩ : ∃ j, 8 - (m + 1) = j := ⟨_, rfl⟩
  rw [hj]
  walk_at "go"
  refine iteS (fun hc => ?_) fun hc => ?_
  · have hd : (((r / 16 ^ j : Nat) : Int) % 16) = ((r / 16 ^ j % 16 : Nat) : Int) := rfl
    have hj5 : j < 5 := by
      rcases Nat.lt_or_ge j 5 with h | h
      · exact h
      · have : 16 ^ 5 ≤ 16 ^ j := Nat.pow_le_pow_right (by decide) h
        rw [Nat.div_eq_of_lt (by omega)] at hc
        omega
    walk_at "go"
    rw [hd, hexc_at (Nat.mod_lt _ (by decide))]
    have hl := lowS_len j r
    walk_at "go"
    rw [if_pos ⟨by omega, by omega⟩]
    walk_at "go"
    rw [lowS_succ]
    refine ⟨by omega, by omega, ?_⟩
    have e1 : 8 - m = j + 1 := by omega
    rw [e1, Nat.pow_succ, ← Nat.div_div_eq_div_mul]
    rfl
  · have hrj : r < 16 ^ j := by
      rcases Nat.lt_or_ge r (16 ^ j) with h | h
      · exact h
      · have := Nat.div_pos h (Nat.pow_pos (by decide))
        omega
    walk_at "go"
    rw [zf (by omega) hrj, o_ticket_text]
    exact q
theorem l_due_w {n a : Nat} {Q : R D → Prop} (h2 : n ≤ 9999) (h4 : a ≤ 9) (q : Q (.ok (.str (tkS (16 * n + a))) [some (.int n), some (.int a)])) : wR (fn_l_due [some (.int n), some (.int a)]) Q := by
  rw [u_l_due]
  unfold b_l_due
  walk_at "go"
  rw [show (16 : Int) * (n : Int) + (a : Int) = ((16 * n + a : Nat) : Int) by omega]
  generalize 16 * n + a = r at q ⊢
  refine forL_w (fun i δ => ∃ x, δ = [some (.int n), some (.int a), some (.str "0123456789ABCDEF"), some (.int ((r / 16 ^ i : Nat) : Int)), some (.str (lowS i r)), x]) _ 0 _ ⟨none, by simp; rfl⟩ (fun i δ d hd h => ?_) (fun δ h => ?_)
  · obtain ⟨x, rfl⟩ := h
    obtain ⟨hi, rfl⟩ := intsD_get hd
    rw [Nat.zero_add] at *
    have hd2 : (((r / 16 ^ i : Nat) : Int) % 16) = ((r / 16 ^ i % 16 : Nat) : Int) := rfl
    walk_at "go"
    rw [hd2, hexc_at (Nat.mod_lt _ (by decide))]
    have hl := lowS_len i r
    have hi5 : i < 5 := hi
    walk_at "go"
    rw [lowS_succ]
    have e3 : ((r / 16 ^ i : Nat) : Int) / 16 = ((r / 16 ^ (i + 1) : Nat) : Int) := by
      rw [Nat.pow_succ, ← Nat.div_div_eq_div_mul]
      rfl
    rw [e3]
    exact ⟨_, rfl⟩
  · obtain ⟨x, rfl⟩ := h
    walk_at "go"
    rw [o_l_due]
    exact q
/-! what is read -/
theorem kIn_sign {c : Nat} {z : Str} : kIn [.str ⟨#[c]⟩, .str z] = some (.bl (decide (c ∈ z.cps.toList))) := rfl
local macro_rules | `(tactic| walk_at "lem") => `(tactic| simp only [kIn_sign, tkS_len])
theorem ticket_in_w {n a : Nat} {Q : R D → Prop} (h1 : 1 ≤ n) (h2 : n ≤ 9999) (h4 : a ≤ 9) (q : Q (.ok (.tup [.int n, .int a]) [some (.str (tkS (16 * n + a)))])) : wR (fn_ticket_in [some (.str (tkS (16 * n + a)))]) Q := by
  have hr0 : 16 * n + a < 16 ^ 5 := by have : (16 : Nat) ^ 5 = 1048576 := by decide
                                       omega
  have e1 : (16 * n + a) / 16 = n := by omega
  have e2 : (16 * n + a) % 16 = a := by omega
  rw [u_ticket_in]
  unfold b_ticket_in
  generalize 16 * n + a = r at *
  walk_at "go"
  have hx : Hx.hexNum (tkS r).cps.toList = r := hex_lowd hr0
  have hin : ∀ c ∈ (tkS r).cps.toList, c ∈ ("0123456789ABCDEF" : Str).cps.toList := fun c hc => lowd_in c hc
  have hhx : ∀ c ∈ (tkS r).cps.toList, Hx.IsHex c := fun c hc => by
    have : ∀ c ∈ ("0123456789ABCDEF" : Str).cps.toList, Hx.IsHex c := by decide +kernel
    exact this c (hin c hc)
  have hl : (tkS r).cps.toList.length = 5 := lowd_len 5 r
  show wR (compL _ _ _ _ ((tkS r).cps.toList.map fun c => D.str ⟨#[c]⟩) _ _) _
  refine compM_w _ _ (fun c => .bl true) _ ?_ (fun c hc => ?_) ?_
  · omega
  · have := hin c hc
    walk_at "go"
    rw [decide_eq_true this]
  walk_at "go"
  refine iteI ⟨fun e => by rw [e] at hl; simp at hl, hhx⟩ ?_
  rw [hx]
  have f1 : (r : Int) / 16 = (n : Int) := by omega
  have f2 : (r : Int) % 16 = (a : Int) := by omega
  walk_at "go"
  rw [f1, f2]
  walk_at "go"
  exact q

end
section
/-! ### k62 -/
/-- a number and a place -/
structure NP where
  n : Nat
  a : Nat
def npD (p : NP) : D := .tup [.int (p.n : Int), .int (p.a : Int)]
def npI (p : NP) : Int × Int := ((p.n : Int), (p.a : Int))
structure NpOk (p : NP) : Prop where
  n0 : 1 ≤ p.n
  n1 : p.n ≤ 9999
  a1 : p.a ≤ 9
def npS (p : NP) : Str := tkS (16 * p.n + p.a)
theorem cleans_np : ∀ ps : List NP, cleans (ps.map npD) = true
  | [] => rfl
  | p :: ps => by simp only [List.map_cons, cleans, cleans_np ps, npD, clean, Bool.and_self]
theorem npD_pr : ∀ ps : List NP, ps.map npD = (ps.map npI).map prD
  | [] => rfl
  | p :: ps => by rw [List.map_cons, List.map_cons, List.map_cons, npD_pr ps]; rfl
theorem one_data : ∀ zs : List Str, dataDs (zs.map D.str) = true ∧ deps (zs.map D.str) ≤ 1 ∧ eqDs (zs.map D.str) (zs.map D.str) = true
  | [] => by simp [dataDs, deps, eqDs]
  | z :: zs => by
    obtain ⟨h1, h2, h3⟩ := one_data zs
    simp only [List.map_cons, dataDs, deps, eqDs, h1, h3, dataD, dep, eqD, beq_self_eq_true, Bool.and_self]
    exact ⟨trivial, by omega, trivial⟩
/-- the pairs in their order, with their texts -/
theorem np_sorted {ps : List NP} (h : ∀ p ∈ ps, NpOk p) : ∃ qs : List NP, srtPr (ps.map npI) = qs.map npI ∧ (∀ q ∈ qs, NpOk q) ∧ qs.length ≤ ps.length ∧ qs.map npS = srtS (ps.map npS) := by
  refine ⟨(srtPr (ps.map npI)).map fun z => ⟨z.1.toNat, z.2.toNat⟩, ?_, ?_, ?_, ?_⟩
  · rw [List.map_map]
    refine (List.map_id _).symm.trans (List.map_congr_left fun z hz => ?_)
    obtain ⟨p, hp, rfl⟩ := List.mem_map.mp (srtPr_mem.mp hz)
    rfl
  · intro q hq
    obtain ⟨z, hz, rfl⟩ := List.mem_map.mp hq
    obtain ⟨p, hp, rfl⟩ := List.mem_map.mp (srtPr_mem.mp hz)
    exact h p hp
  · rw [List.length_map]
    have := srtPr_len (ps.map npI)
    rwa [List.length_map] at this
  · refine upS_uniq ?_ (srtS_up _) fun z => ?_
    · rw [List.map_map, List.pairwise_map]
      refine List.Pairwise.imp_of_mem (fun {a b} ha hb hab => ?_) (srtPr_up _)
      obtain ⟨p, hp, rfl⟩ := List.mem_map.mp (srtPr_mem.mp ha)
      obtain ⟨q, hq, rfl⟩ := List.mem_map.mp (srtPr_mem.mp hb)
      have h1 := h p hp
      have h2 := h q hq
      show ltS (tkS (16 * p.n + p.a)) (tkS (16 * q.n + q.a))
      have h3 := h1.a1
      have h4 := h2.a1
      have h5 := h2.n1
      have h6 : p.n < q.n ∨ (p.n = q.n ∧ p.a < q.a) := by
        unfold ltP npI at hab
        simp only at hab
        omega
      refine tkS_lt (by omega) ?_
      have : (16 : Nat) ^ 5 = 1048576 := by decide
      omega
    · rw [srtS_mem, List.mem_map, List.mem_map]
      constructor
      · rintro ⟨q, hq, rfl⟩
        obtain ⟨y, hy, rfl⟩ := List.mem_map.mp hq
        obtain ⟨p, hp, rfl⟩ := List.mem_map.mp (srtPr_mem.mp hy)
        exact ⟨p, hp, rfl⟩
      · rintro ⟨p, hp, rfl⟩
        exact ⟨p, List.mem_map.mpr ⟨npI p, srtPr_mem.mpr (List.mem_map.mpr ⟨p, hp, rfl⟩), rfl⟩, rfl⟩
local macro_rules | `(tactic| walk_at "lem") => `(tactic| simp (disch := omega) only [clean_bx, cleans_np, List.length_map])
theorem right_w {B : D} {Q : R D → Prop} (hB : Bx 0 B) (q : ∀ δ, Q (.ok (.bl true) δ)) : wR (fn_l_right [some B]) Q := by
  obtain ⟨s, rfl, hB⟩ := bx_of hB
  rw [u_l_right]
  unfold b_l_right
  walk_at "go"
  refine forL_w (fun i δ => ∃ (s : Int × Int × Int) (ps : List NP) (x2 x3 : Option D), Bxs (10 * i) s ∧ ps.length = 8 + i ∧ (∀ p ∈ ps, NpOk p) ∧ δ = [some (bx s), some (.lst true (ps.map npD)), x2, x3, none, none, none]) _ 0 _
    ⟨s, [⟨1, 0⟩, ⟨9999, 9⟩, ⟨15, 9⟩, ⟨16, 0⟩, ⟨255, 9⟩, ⟨256, 0⟩, ⟨4095, 9⟩, ⟨4096, 0⟩], _, _, hB.le (by omega), rfl, fun p hp => ?_, rfl⟩ (fun i δ d hd h => ?_) (fun δ h => ?_)
  · simp only [List.mem_cons, List.not_mem_nil, or_false] at hp
    rcases hp with rfl | rfl | rfl | rfl | rfl | rfl | rfl | rfl <;> exact ⟨by decide, by decide, by decide⟩
  · obtain ⟨s, ps, x2, x3, hB, hl, hp, rfl⟩ := h
    obtain ⟨hi, rfl⟩ := intsD_get hd
    rw [Nat.zero_add] at *
    walk_at "go"
    refine take_b hB (by omega) (by omega) (by omega) fun r s hr0 hr1 hB => ?_
    walk_at "go"
    obtain ⟨v, hv, hv2⟩ := at_three (x := D.int 16) (y := .int 256) (z := .int 4096) hr0 hr1
    have hv3 : ∃ k : Int, v = .int k ∧ 16 ≤ k ∧ k ≤ 4096 := by
      rcases hv2 with rfl | rfl | rfl
      · exact ⟨16, rfl, by omega, by omega⟩
      · exact ⟨256, rfl, by omega, by omega⟩
      · exact ⟨4096, rfl, by omega, by omega⟩
    obtain ⟨k, rfl, hk1, hk2⟩ := hv3
    rw [hv]
    walk_at "go"
    refine take_b hB (by omega) (by omega) (by omega) fun t s ht0 ht1 hB => ?_
    walk_at "go"
    refine take_b hB (by omega) (by omega) (by omega) fun u s hu0 hu1 hB => ?_
    walk_at "go"
    refine take_b hB (by omega) (by omega) (by omega) fun w s hw0 hw1 hB => ?_
    walk_at "go"
    refine one_of_w hB (by omega) (by simp) (by simp) (by simp [cleans, clean]) fun d s hd2 hB => ?_
    have hd3 : ∃ n : Nat, d = .int n ∧ 1 ≤ n ∧ n ≤ 9999 := by
      simp only [List.mem_cons, List.not_mem_nil, or_false] at hd2
      rcases hd2 with rfl | rfl | rfl
      · exact ⟨(1 + u).toNat, by congr 1; omega, by omega, by omega⟩
      · exact ⟨(1 + w).toNat, by congr 1; omega, by omega, by omega⟩
      · exact ⟨(k - t).toNat, by congr 1; omega, by omega, by omega⟩
    obtain ⟨n, rfl, hn1, hn2⟩ := hd3
    walk_at "go"
    refine take_b hB (by omega) (by omega) (by omega) fun a s ha0 ha1 hB => ?_
    obtain ⟨a, rfl⟩ := Int.eq_ofNat_of_zero_le ha0
    walk_at "go"
    refine ⟨s, ps ++ [⟨n, a⟩], _, _, hB.le (by omega), by rw [List.length_append, hl]; rfl, fun p hpm => ?_, by rw [List.map_append]; rfl⟩
    rcases List.mem_append.mp hpm with h | h
    · exact hp p h
    · rw [List.mem_singleton.mp h]; exact ⟨hn1, hn2, by show a ≤ 9; omega⟩
  · obtain ⟨s, ps, x2, x3, hB, hl, hp, rfl⟩ := h
    have hl2 : ps.length = 28 := hl
    clear hl
    walk_at "go"
    refine forL_w (fun i δ => ∃ (x4 x5 : Option D), δ = [some (bx s), none, x2, x3, x4, x5, none]) _ 0 _
      ⟨_, _, rfl⟩ (fun i δ d hd h => ?_) (fun δ h => ?_)
    · obtain ⟨x4, x5, rfl⟩ := h
      obtain ⟨p, hpm, rfl⟩ := List.mem_map.mp (List.mem_of_getElem? hd)
      have ho := hp p hpm
      unfold npD
      walk_at "go"
      refine ticket_text_w ho.n1 ho.a1 ?_
      walk_at "go"
      refine l_due_w ho.n1 ho.a1 ?_
      walk_at "go"
      refine same_w (n := 8) (by simp [dep]) (by omega) (by rfl) (by rfl) (by simp [maxw]) ?_
      walk_at "go"
      refine ticket_text_w ho.n1 ho.a1 ?_
      walk_at "go"
      refine ticket_in_w ho.n0 ho.n1 ho.a1 ?_
      walk_at "go"
      refine same_w (n := 8) (by simp [dep, deps]) (by omega) (by rfl) (by rfl) (by simp [maxw, maxws]) ?_
      walk_at "go"
      exact ⟨_, _, rfl⟩
    · obtain ⟨x4, x5, rfl⟩ := h
      obtain ⟨qs, g1, g2, g3, g4⟩ := np_sorted hp
      have e1 : kSrtSetP [.lst true (ps.map npD)] = some (.lst true (qs.map npD)) := by
        rw [npD_pr, kSrtSet_pairs (by rw [List.length_map]; omega) (fun z hz => by
          obtain ⟨p, hpm, rfl⟩ := List.mem_map.mp hz
          have h := hp p hpm
          have h1 := h.n1
          have h2 := h.a1
          show 0 ≤ (p.n : Int) ∧ (p.n : Int) < 1048576 ∧ 0 ≤ (p.a : Int) ∧ (p.a : Int) < 1048576
          omega), g1, ← npD_pr]
      walk_at "go"
      rw [e1]
      walk_at "go"
      refine compM_w _ npD (fun p => .str (npS p)) _ ?_ (fun p hpm => ?_) ?_
      · omega
      · have ho := g2 p hpm
        unfold npD
        walk_at "go"
        refine ticket_text_w ho.n1 ho.a1 ?_
        walk_at "go"
        first | done | rfl
      walk_at "go"
      refine compM_w _ npD (fun p => .str (npS p)) _ ?_ (fun p hpm => ?_) ?_
      · omega
      · have ho := hp p hpm
        unfold npD
        walk_at "go"
        refine l_due_w ho.n1 ho.a1 ?_
        walk_at "go"
        first | done | rfl
      have e2 : (ps.map fun p => D.str (npS p)) = (ps.map npS).map D.str := by rw [List.map_map]; rfl
      have e3 : (qs.map fun p => D.str (npS p)) = (srtS (ps.map npS)).map D.str := by rw [← g4, List.map_map]; rfl
      have e4 : kSrtSetT [.lst true ((ps.map npS).map D.str)] = some (.lst true ((srtS (ps.map npS)).map D.str)) := kSrtSet_strs (by rw [List.length_map]; omega)
      rw [e2, e3]
      walk_at "go"
      rw [e4]
      obtain ⟨d1, d2, d3⟩ := one_data (srtS (ps.map npS))
      walk_at "go"
      refine iteI (by simp only [eqOk, dataD, d1, Bool.and_self, Bool.true_and, dep]; exact decide_eq_true (Nat.le_trans (Nat.min_le_left _ _) (by omega))) ?_
      rw [eqD, d3]
      walk_at "go"
      exact q _

end
theorem law_true (hr : ∀ (B : D) (Q : R D → Prop), Bx 0 B → (∀ δ, Q (.ok (.bl true) δ)) → wR (fn_l_right [some B]) Q) : ∀ ns : List Int, ns.length ≤ 63 → ∃ δ, fn_law [some (.scr ns)] = .ok (.bl true) δ := by
  intro ns hn
  have : wR (fn_law [some (.scr ns)]) fun r => ∃ δ, r = .ok (.bl true) δ := by
    rw [u_law]
    unfold b_law
    walk_at "go"
    refine folded_w (s := 8) (by decide) (by decide) hn fun cs hc => ?_
    walk_at "go"
    try simp only [List.length_map]
    have hm : ∃ m : Nat, (if (cs.length : Int) > 1 then (cs.length : Int) else 1) = (m : Int) ∧ m ≤ 63 := by
      by_cases h : (cs.length : Int) > 1
      · exact ⟨cs.length, by rw [if_pos h], hc⟩
      · exact ⟨1, by rw [if_neg h]; rfl, by omega⟩
    obtain ⟨m, hm, hm2⟩ := hm
    rw [hm]
    walk_at "go"
    rw [intsD_nat]
    refine compM_w _ _ (fun _ => .bl true) _ ?_ (fun i hi => ?_) ?_
    · rw [List.length_range]; omega
    · have hi := List.mem_range.mp hi
      walk_at "go"
      refine dip_w (k := i) (by omega) fun B hB => ?_
      walk_at "go"
      refine hr _ _ hB fun δ => ?_
      walk_at "go"
    · walk_at "go"
      exact ⟨_, rfl⟩
  exact this.out
theorem law_ok {P : Program} {w : World} {K : PySem.W.Frag} {mg : Str → Option Value} {base : Heap} {k : Nat} {f : Addr} {fd : FuncData} {g : Cfg} (hK : g.K = K) (F : FnOk P w K mg base (L2.CX P w) k f fd ["_law_script"] (spF g 1 fn_law)) : FnOk P w K mg base (L2.CX P w) k f fd ["_law_script"] (spLaw K) := law_ok_of hK (law_true fun B Q hB q => right_w hB q) F
def top_mk {K : PySem.W.Frag} {h : Heap} {mg : Str → Option Value} (X : K.In h) (G : h.Ns mainGlobals mg)
    {f_ticket_text : Addr} {oc_ticket_text : Value} {od_ticket_text an_ticket_text : Option Addr} {sl_ticket_text : Array (Option Value)} {kV_ticket_text dc_ticket_text pm_ticket_text cd_ticket_text ct_ticket_text : Value}
    {f_ticket_in : Addr} {oc_ticket_in : Value} {od_ticket_in an_ticket_in : Option Addr} {sl_ticket_in : Array (Option Value)} {kV_ticket_in dc_ticket_in pm_ticket_in cd_ticket_in ct_ticket_in : Value}
    {f_l_dip : Addr} {oc_l_dip : Value} {od_l_dip an_l_dip : Option Addr} {sl_l_dip : Array (Option Value)} {kV_l_dip dc_l_dip pm_l_dip cd_l_dip ct_l_dip : Value}
    {f_l_take : Addr} {oc_l_take : Value} {od_l_take an_l_take : Option Addr} {sl_l_take : Array (Option Value)} {kV_l_take dc_l_take pm_l_take cd_l_take ct_l_take : Value}
    {f_l_folded : Addr} {oc_l_folded : Value} {od_l_folded an_l_folded : Option Addr} {sl_l_folded : Array (Option Value)} {kV_l_folded dc_l_folded pm_l_folded cd_l_folded ct_l_folded : Value}
    {f_l_one_of : Addr} {oc_l_one_of : Value} {od_l_one_of an_l_one_of : Option Addr} {sl_l_one_of : Array (Option Value)} {kV_l_one_of dc_l_one_of pm_l_one_of cd_l_one_of ct_l_one_of : Value}
    {f_l_same : Addr} {oc_l_same : Value} {od_l_same an_l_same : Option Addr} {sl_l_same : Array (Option Value)} {kV_l_same dc_l_same pm_l_same cd_l_same ct_l_same : Value}
    {f_l_due : Addr} {oc_l_due : Value} {od_l_due an_l_due : Option Addr} {sl_l_due : Array (Option Value)} {kV_l_due dc_l_due pm_l_due cd_l_due ct_l_due : Value}
    {f_l_right : Addr} {oc_l_right : Value} {od_l_right an_l_right : Option Addr} {sl_l_right : Array (Option Value)} {kV_l_right dc_l_right pm_l_right cd_l_right ct_l_right : Value}
    {f_law : Addr} {oc_law : Value} {od_law an_law : Option Addr} {sl_law : Array (Option Value)} {kV_law dc_law pm_law cd_law ct_law : Value}
    {t_BASE : Tok}
    {t_FIGURES : Tok}
    {t_MOST_AT : Tok}
    {t_MOST_NUMBER : Tok}
    {t_SIGNS : Tok}
    (a_ticket_text : PySem.W.nsIn K mainGlobals "ticket_text" = some (some (.ref f_ticket_text)))
    (l_ticket_text : K.lookup f_ticket_text = some ⟨oc_ticket_text, od_ticket_text, .func (PySem.W.fnOf "ticket_text" "ticket_text" (defArgs s_ticket_text) (defBody s_ticket_text) (defScope s_ticket_text) .none kV_ticket_text dc_ticket_text pm_ticket_text an_ticket_text cd_ticket_text ct_ticket_text), sl_ticket_text⟩)
    (c_ticket_text : PySem.W.codeIn K cd_ticket_text "ticket_text" = true)
    (k_ticket_text : PySem.W.keepIn K (.ref f_ticket_text) = true)
    (a_ticket_in : PySem.W.nsIn K mainGlobals "ticket_in" = some (some (.ref f_ticket_in)))
    (l_ticket_in : K.lookup f_ticket_in = some ⟨oc_ticket_in, od_ticket_in, .func (PySem.W.fnOf "ticket_in" "ticket_in" (defArgs s_ticket_in) (defBody s_ticket_in) (defScope s_ticket_in) .none kV_ticket_in dc_ticket_in pm_ticket_in an_ticket_in cd_ticket_in ct_ticket_in), sl_ticket_in⟩)
    (c_ticket_in : PySem.W.codeIn K cd_ticket_in "ticket_in" = true)
    (k_ticket_in : PySem.W.keepIn K (.ref f_ticket_in) = true)
    (a_l_dip : PySem.W.nsIn K mainGlobals "_law_dip" = some (some (.ref f_l_dip)))
    (l_l_dip : K.lookup f_l_dip = some ⟨oc_l_dip, od_l_dip, .func (PySem.W.fnOf "_law_dip" "_law_dip" (defArgs s_l_dip) (defBody s_l_dip) (defScope s_l_dip) .none kV_l_dip dc_l_dip pm_l_dip an_l_dip cd_l_dip ct_l_dip), sl_l_dip⟩)
    (c_l_dip : PySem.W.codeIn K cd_l_dip "_law_dip" = true)
    (k_l_dip : PySem.W.keepIn K (.ref f_l_dip) = true)
    (a_l_take : PySem.W.nsIn K mainGlobals "_law_take" = some (some (.ref f_l_take)))
    (l_l_take : K.lookup f_l_take = some ⟨oc_l_take, od_l_take, .func (PySem.W.fnOf "_law_take" "_law_take" (defArgs s_l_take) (defBody s_l_take) (defScope s_l_take) .none kV_l_take dc_l_take pm_l_take an_l_take cd_l_take ct_l_take), sl_l_take⟩)
    (c_l_take : PySem.W.codeIn K cd_l_take "_law_take" = true)
    (k_l_take : PySem.W.keepIn K (.ref f_l_take) = true)
    (a_l_folded : PySem.W.nsIn K mainGlobals "_law_folded" = some (some (.ref f_l_folded)))
    (l_l_folded : K.lookup f_l_folded = some ⟨oc_l_folded, od_l_folded, .func (PySem.W.fnOf "_law_folded" "_law_folded" (defArgs s_l_folded) (defBody s_l_folded) (defScope s_l_folded) .none kV_l_folded dc_l_folded pm_l_folded an_l_folded cd_l_folded ct_l_folded), sl_l_folded⟩)
    (c_l_folded : PySem.W.codeIn K cd_l_folded "_law_folded" = true)
    (k_l_folded : PySem.W.keepIn K (.ref f_l_folded) = true)
    (a_l_one_of : PySem.W.nsIn K mainGlobals "_law_one_of" = some (some (.ref f_l_one_of)))
    (l_l_one_of : K.lookup f_l_one_of = some ⟨oc_l_one_of, od_l_one_of, .func (PySem.W.fnOf "_law_one_of" "_law_one_of" (defArgs s_l_one_of) (defBody s_l_one_of) (defScope s_l_one_of) .none kV_l_one_of dc_l_one_of pm_l_one_of an_l_one_of cd_l_one_of ct_l_one_of), sl_l_one_of⟩)
    (c_l_one_of : PySem.W.codeIn K cd_l_one_of "_law_one_of" = true)
    (k_l_one_of : PySem.W.keepIn K (.ref f_l_one_of) = true)
    (a_l_same : PySem.W.nsIn K mainGlobals "_law_same" = some (some (.ref f_l_same)))
    (l_l_same : K.lookup f_l_same = some ⟨oc_l_same, od_l_same, .func (PySem.W.fnOf "_law_same" "_law_same" (defArgs s_l_same) (defBody s_l_same) (defScope s_l_same) .none kV_l_same dc_l_same pm_l_same an_l_same cd_l_same ct_l_same), sl_l_same⟩)
    (c_l_same : PySem.W.codeIn K cd_l_same "_law_same" = true)
    (k_l_same : PySem.W.keepIn K (.ref f_l_same) = true)
    (a_l_due : PySem.W.nsIn K mainGlobals "_law_due" = some (some (.ref f_l_due)))
    (l_l_due : K.lookup f_l_due = some ⟨oc_l_due, od_l_due, .func (PySem.W.fnOf "_law_due" "_law_due" (defArgs s_l_due) (defBody s_l_due) (defScope s_l_due) .none kV_l_due dc_l_due pm_l_due an_l_due cd_l_due ct_l_due), sl_l_due⟩)
    (c_l_due : PySem.W.codeIn K cd_l_due "_law_due" = true)
    (k_l_due : PySem.W.keepIn K (.ref f_l_due) = true)
    (a_l_right : PySem.W.nsIn K mainGlobals "_law_right" = some (some (.ref f_l_right)))
    (l_l_right : K.lookup f_l_right = some ⟨oc_l_right, od_l_right, .func (PySem.W.fnOf "_law_right" "_law_right" (defArgs s_l_right) (defBody s_l_right) (defScope s_l_right) .none kV_l_right dc_l_right pm_l_right an_l_right cd_l_right ct_l_right), sl_l_right⟩)
    (c_l_right : PySem.W.codeIn K cd_l_right "_law_right" = true)
    (k_l_right : PySem.W.keepIn K (.ref f_l_right) = true)
    (a_law : PySem.W.nsIn K mainGlobals "law" = some (some (.ref f_law)))
    (l_law : K.lookup f_law = some ⟨oc_law, od_law, .func (PySem.W.fnOf "law" "law" (defArgs s_law) (defBody s_law) (defScope s_law) .none kV_law dc_law pm_law an_law cd_law ct_law), sl_law⟩)
    (c_law : PySem.W.codeIn K cd_law "law" = true)
    (k_law : PySem.W.keepIn K (.ref f_law) = true)
    (v_BASE : PySem.W.nsIn K mainGlobals "BASE" = some (some (.int 16 t_BASE)))
    (v_FIGURES : PySem.W.nsIn K mainGlobals "FIGURES" = some (some (.str (PySem.Str.ofString "0123456789ABCDEF") t_FIGURES)))
    (v_MOST_AT : PySem.W.nsIn K mainGlobals "MOST_AT" = some (some (.int 9 t_MOST_AT)))
    (v_MOST_NUMBER : PySem.W.nsIn K mainGlobals "MOST_NUMBER" = some (some (.int 9999 t_MOST_NUMBER)))
    (v_SIGNS : PySem.W.nsIn K mainGlobals "SIGNS" = some (some (.int 5 t_SIGNS)))
    (z_abs : PySem.W.nsIn K mainGlobals "abs" = some none)
    (z_all : PySem.W.nsIn K mainGlobals "all" = some none)
    (z_bool : PySem.W.nsIn K mainGlobals "bool" = some none)
    (z_divmod : PySem.W.nsIn K mainGlobals "divmod" = some none)
    (z_enumerate : PySem.W.nsIn K mainGlobals "enumerate" = some none)
    (z_int : PySem.W.nsIn K mainGlobals "int" = some none)
    (z_isinstance : PySem.W.nsIn K mainGlobals "isinstance" = some none)
    (z_len : PySem.W.nsIn K mainGlobals "len" = some none)
    (z_list : PySem.W.nsIn K mainGlobals "list" = some none)
    (z_max : PySem.W.nsIn K mainGlobals "max" = some none)
    (z_range : PySem.W.nsIn K mainGlobals "range" = some none)
    (z_set : PySem.W.nsIn K mainGlobals "set" = some none)
    (z_sorted : PySem.W.nsIn K mainGlobals "sorted" = some none)
    (z_str : PySem.W.nsIn K mainGlobals "str" = some none)
    (z_tuple : PySem.W.nsIn K mainGlobals "tuple" = some none)
    (z_zip : PySem.W.nsIn K mainGlobals "zip" = some none) : Top K mg where
  a_ticket_text := f_ticket_text
  fd_ticket_text := PySem.W.fnOf "ticket_text" "ticket_text" (defArgs s_ticket_text) (defBody s_ticket_text) (defScope s_ticket_text) .none kV_ticket_text dc_ticket_text pm_ticket_text an_ticket_text cd_ticket_text ct_ticket_text
  F_ticket_text := ⟨⟨_, _, _, _, _, _, _, _, _, _, rfl, l_ticket_text, c_ticket_text, .inl ⟨rfl, rfl⟩, .inl rfl⟩, k_ticket_text⟩
  g_ticket_text := PySem.W.mg_of X G a_ticket_text
  a_ticket_in := f_ticket_in
  fd_ticket_in := PySem.W.fnOf "ticket_in" "ticket_in" (defArgs s_ticket_in) (defBody s_ticket_in) (defScope s_ticket_in) .none kV_ticket_in dc_ticket_in pm_ticket_in an_ticket_in cd_ticket_in ct_ticket_in
  F_ticket_in := ⟨⟨_, _, _, _, _, _, _, _, _, _, rfl, l_ticket_in, c_ticket_in, .inl ⟨rfl, rfl⟩, .inl rfl⟩, k_ticket_in⟩
  g_ticket_in := PySem.W.mg_of X G a_ticket_in
  a_l_dip := f_l_dip
  fd_l_dip := PySem.W.fnOf "_law_dip" "_law_dip" (defArgs s_l_dip) (defBody s_l_dip) (defScope s_l_dip) .none kV_l_dip dc_l_dip pm_l_dip an_l_dip cd_l_dip ct_l_dip
  F_l_dip := ⟨⟨_, _, _, _, _, _, _, _, _, _, rfl, l_l_dip, c_l_dip, .inl ⟨rfl, rfl⟩, .inl rfl⟩, k_l_dip⟩
  g_l_dip := PySem.W.mg_of X G a_l_dip
  a_l_take := f_l_take
  fd_l_take := PySem.W.fnOf "_law_take" "_law_take" (defArgs s_l_take) (defBody s_l_take) (defScope s_l_take) .none kV_l_take dc_l_take pm_l_take an_l_take cd_l_take ct_l_take
  F_l_take := ⟨⟨_, _, _, _, _, _, _, _, _, _, rfl, l_l_take, c_l_take, .inl ⟨rfl, rfl⟩, .inl rfl⟩, k_l_take⟩
  g_l_take := PySem.W.mg_of X G a_l_take
  a_l_folded := f_l_folded
  fd_l_folded := PySem.W.fnOf "_law_folded" "_law_folded" (defArgs s_l_folded) (defBody s_l_folded) (defScope s_l_folded) .none kV_l_folded dc_l_folded pm_l_folded an_l_folded cd_l_folded ct_l_folded
  F_l_folded := ⟨⟨_, _, _, _, _, _, _, _, _, _, rfl, l_l_folded, c_l_folded, .inl ⟨rfl, rfl⟩, .inl rfl⟩, k_l_folded⟩
  g_l_folded := PySem.W.mg_of X G a_l_folded
  a_l_one_of := f_l_one_of
  fd_l_one_of := PySem.W.fnOf "_law_one_of" "_law_one_of" (defArgs s_l_one_of) (defBody s_l_one_of) (defScope s_l_one_of) .none kV_l_one_of dc_l_one_of pm_l_one_of an_l_one_of cd_l_one_of ct_l_one_of
  F_l_one_of := ⟨⟨_, _, _, _, _, _, _, _, _, _, rfl, l_l_one_of, c_l_one_of, .inl ⟨rfl, rfl⟩, .inl rfl⟩, k_l_one_of⟩
  g_l_one_of := PySem.W.mg_of X G a_l_one_of
  a_l_same := f_l_same
  fd_l_same := PySem.W.fnOf "_law_same" "_law_same" (defArgs s_l_same) (defBody s_l_same) (defScope s_l_same) .none kV_l_same dc_l_same pm_l_same an_l_same cd_l_same ct_l_same
  F_l_same := ⟨⟨_, _, _, _, _, _, _, _, _, _, rfl, l_l_same, c_l_same, .inl ⟨rfl, rfl⟩, .inl rfl⟩, k_l_same⟩
  g_l_same := PySem.W.mg_of X G a_l_same
  a_l_due := f_l_due
  fd_l_due := PySem.W.fnOf "_law_due" "_law_due" (defArgs s_l_due) (defBody s_l_due) (defScope s_l_due) .none kV_l_due dc_l_due pm_l_due an_l_due cd_l_due ct_l_due
  F_l_due := ⟨⟨_, _, _, _, _, _, _, _, _, _, rfl, l_l_due, c_l_due, .inl ⟨rfl, rfl⟩, .inl rfl⟩, k_l_due⟩
  g_l_due := PySem.W.mg_of X G a_l_due
  a_l_right := f_l_right
  fd_l_right := PySem.W.fnOf "_law_right" "_law_right" (defArgs s_l_right) (defBody s_l_right) (defScope s_l_right) .none kV_l_right dc_l_right pm_l_right an_l_right cd_l_right ct_l_right
  F_l_right := ⟨⟨_, _, _, _, _, _, _, _, _, _, rfl, l_l_right, c_l_right, .inl ⟨rfl, rfl⟩, .inl rfl⟩, k_l_right⟩
  g_l_right := PySem.W.mg_of X G a_l_right
  a_law := f_law
  fd_law := PySem.W.fnOf "law" "law" (defArgs s_law) (defBody s_law) (defScope s_law) .none kV_law dc_law pm_law an_law cd_law ct_law
  F_law := ⟨⟨_, _, _, _, _, _, _, _, _, _, rfl, l_law, c_law, .inl ⟨rfl, rfl⟩, .inl rfl⟩, k_law⟩
  kb_l_dip_2 := KB.mk0 (fun us ws h1 h2 => match us, ws, h1, h2 with | [_, _], [], _, _ => rfl)
  kb_l_due_2 := KB.mk0 (fun us ws h1 h2 => match us, ws, h1, h2 with | [_, _], [], _, _ => rfl)
  kb_l_folded_2 := KB.mk0 (fun us ws h1 h2 => match us, ws, h1, h2 with | [_, _], [], _, _ => rfl)
  kb_l_one_of_2 := KB.mk0 (fun us ws h1 h2 => match us, ws, h1, h2 with | [_, _], [], _, _ => rfl)
  kb_l_right_1 := KB.mk0 (fun us ws h1 h2 => match us, ws, h1, h2 with | [_], [], _, _ => rfl)
  kb_l_same_2 := KB.mk0 (fun us ws h1 h2 => match us, ws, h1, h2 with | [_, _], [], _, _ => rfl)
  kb_l_take_2 := KB.mk0 (fun us ws h1 h2 => match us, ws, h1, h2 with | [_, _], [], _, _ => rfl)
  kb_ticket_in_0_text := KB.mk0 (fun us ws h1 h2 => match us, ws, h1, h2 with | [], [_], _, _ => rfl)
  kb_ticket_text_0_at_number := KB.mk0 (fun us ws h1 h2 => match us, ws, h1, h2 with | [], [_, _], _, _ => rfl)
  kb_ticket_text_2 := KB.mk0 (fun us ws h1 h2 => match us, ws, h1, h2 with | [_, _], [], _, _ => rfl)
  c_BASE := ⟨_, PySem.W.mg_of X G v_BASE, ⟨_, rfl⟩⟩
  c_FIGURES := ⟨_, PySem.W.mg_of X G v_FIGURES, ⟨_, rfl⟩⟩
  c_MOST_AT := ⟨_, PySem.W.mg_of X G v_MOST_AT, ⟨_, rfl⟩⟩
  c_MOST_NUMBER := ⟨_, PySem.W.mg_of X G v_MOST_NUMBER, ⟨_, rfl⟩⟩
  c_SIGNS := ⟨_, PySem.W.mg_of X G v_SIGNS, ⟨_, rfl⟩⟩
  z_abs := PySem.W.mg_none_of X G z_abs
  z_all := PySem.W.mg_none_of X G z_all
  z_bool := PySem.W.mg_none_of X G z_bool
  z_divmod := PySem.W.mg_none_of X G z_divmod
  z_enumerate := PySem.W.mg_none_of X G z_enumerate
  z_int := PySem.W.mg_none_of X G z_int
  z_isinstance := PySem.W.mg_none_of X G z_isinstance
  z_len := PySem.W.mg_none_of X G z_len
  z_list := PySem.W.mg_none_of X G z_list
  z_max := PySem.W.mg_none_of X G z_max
  z_range := PySem.W.mg_none_of X G z_range
  z_set := PySem.W.mg_none_of X G z_set
  z_sorted := PySem.W.mg_none_of X G z_sorted
  z_str := PySem.W.mg_none_of X G z_str
  z_tuple := PySem.W.mg_none_of X G z_tuple
  z_zip := PySem.W.mg_none_of X G z_zip
theorem all_mk {l : PySem.W.OpenLaw} {w : World} {K : PySem.W.Frag} {h : Heap} {mg : Str → Option Value} {fa : Addr} (X : K.In h) (G : h.Ns mainGlobals mg) (hfa : mg "law" = some (.ref fa))
    {f_ticket_text : Addr} {oc_ticket_text : Value} {od_ticket_text an_ticket_text : Option Addr} {sl_ticket_text : Array (Option Value)} {kV_ticket_text dc_ticket_text pm_ticket_text cd_ticket_text ct_ticket_text : Value}
    {f_ticket_in : Addr} {oc_ticket_in : Value} {od_ticket_in an_ticket_in : Option Addr} {sl_ticket_in : Array (Option Value)} {kV_ticket_in dc_ticket_in pm_ticket_in cd_ticket_in ct_ticket_in : Value}
    {f_l_dip : Addr} {oc_l_dip : Value} {od_l_dip an_l_dip : Option Addr} {sl_l_dip : Array (Option Value)} {kV_l_dip dc_l_dip pm_l_dip cd_l_dip ct_l_dip : Value}
    {f_l_take : Addr} {oc_l_take : Value} {od_l_take an_l_take : Option Addr} {sl_l_take : Array (Option Value)} {kV_l_take dc_l_take pm_l_take cd_l_take ct_l_take : Value}
    {f_l_folded : Addr} {oc_l_folded : Value} {od_l_folded an_l_folded : Option Addr} {sl_l_folded : Array (Option Value)} {kV_l_folded dc_l_folded pm_l_folded cd_l_folded ct_l_folded : Value}
    {f_l_one_of : Addr} {oc_l_one_of : Value} {od_l_one_of an_l_one_of : Option Addr} {sl_l_one_of : Array (Option Value)} {kV_l_one_of dc_l_one_of pm_l_one_of cd_l_one_of ct_l_one_of : Value}
    {f_l_same : Addr} {oc_l_same : Value} {od_l_same an_l_same : Option Addr} {sl_l_same : Array (Option Value)} {kV_l_same dc_l_same pm_l_same cd_l_same ct_l_same : Value}
    {f_l_due : Addr} {oc_l_due : Value} {od_l_due an_l_due : Option Addr} {sl_l_due : Array (Option Value)} {kV_l_due dc_l_due pm_l_due cd_l_due ct_l_due : Value}
    {f_l_right : Addr} {oc_l_right : Value} {od_l_right an_l_right : Option Addr} {sl_l_right : Array (Option Value)} {kV_l_right dc_l_right pm_l_right cd_l_right ct_l_right : Value}
    {f_law : Addr} {oc_law : Value} {od_law an_law : Option Addr} {sl_law : Array (Option Value)} {kV_law dc_law pm_law cd_law ct_law : Value}
    {t_BASE : Tok}
    {t_FIGURES : Tok}
    {t_MOST_AT : Tok}
    {t_MOST_NUMBER : Tok}
    {t_SIGNS : Tok}
    (a_ticket_text : PySem.W.nsIn K mainGlobals "ticket_text" = some (some (.ref f_ticket_text)))
    (l_ticket_text : K.lookup f_ticket_text = some ⟨oc_ticket_text, od_ticket_text, .func (PySem.W.fnOf "ticket_text" "ticket_text" (defArgs s_ticket_text) (defBody s_ticket_text) (defScope s_ticket_text) .none kV_ticket_text dc_ticket_text pm_ticket_text an_ticket_text cd_ticket_text ct_ticket_text), sl_ticket_text⟩)
    (c_ticket_text : PySem.W.codeIn K cd_ticket_text "ticket_text" = true)
    (k_ticket_text : PySem.W.keepIn K (.ref f_ticket_text) = true)
    (a_ticket_in : PySem.W.nsIn K mainGlobals "ticket_in" = some (some (.ref f_ticket_in)))
    (l_ticket_in : K.lookup f_ticket_in = some ⟨oc_ticket_in, od_ticket_in, .func (PySem.W.fnOf "ticket_in" "ticket_in" (defArgs s_ticket_in) (defBody s_ticket_in) (defScope s_ticket_in) .none kV_ticket_in dc_ticket_in pm_ticket_in an_ticket_in cd_ticket_in ct_ticket_in), sl_ticket_in⟩)
    (c_ticket_in : PySem.W.codeIn K cd_ticket_in "ticket_in" = true)
    (k_ticket_in : PySem.W.keepIn K (.ref f_ticket_in) = true)
    (a_l_dip : PySem.W.nsIn K mainGlobals "_law_dip" = some (some (.ref f_l_dip)))
    (l_l_dip : K.lookup f_l_dip = some ⟨oc_l_dip, od_l_dip, .func (PySem.W.fnOf "_law_dip" "_law_dip" (defArgs s_l_dip) (defBody s_l_dip) (defScope s_l_dip) .none kV_l_dip dc_l_dip pm_l_dip an_l_dip cd_l_dip ct_l_dip), sl_l_dip⟩)
    (c_l_dip : PySem.W.codeIn K cd_l_dip "_law_dip" = true)
    (k_l_dip : PySem.W.keepIn K (.ref f_l_dip) = true)
    (a_l_take : PySem.W.nsIn K mainGlobals "_law_take" = some (some (.ref f_l_take)))
    (l_l_take : K.lookup f_l_take = some ⟨oc_l_take, od_l_take, .func (PySem.W.fnOf "_law_take" "_law_take" (defArgs s_l_take) (defBody s_l_take) (defScope s_l_take) .none kV_l_take dc_l_take pm_l_take an_l_take cd_l_take ct_l_take), sl_l_take⟩)
    (c_l_take : PySem.W.codeIn K cd_l_take "_law_take" = true)
    (k_l_take : PySem.W.keepIn K (.ref f_l_take) = true)
    (a_l_folded : PySem.W.nsIn K mainGlobals "_law_folded" = some (some (.ref f_l_folded)))
    (l_l_folded : K.lookup f_l_folded = some ⟨oc_l_folded, od_l_folded, .func (PySem.W.fnOf "_law_folded" "_law_folded" (defArgs s_l_folded) (defBody s_l_folded) (defScope s_l_folded) .none kV_l_folded dc_l_folded pm_l_folded an_l_folded cd_l_folded ct_l_folded), sl_l_folded⟩)
    (c_l_folded : PySem.W.codeIn K cd_l_folded "_law_folded" = true)
    (k_l_folded : PySem.W.keepIn K (.ref f_l_folded) = true)
    (a_l_one_of : PySem.W.nsIn K mainGlobals "_law_one_of" = some (some (.ref f_l_one_of)))
    (l_l_one_of : K.lookup f_l_one_of = some ⟨oc_l_one_of, od_l_one_of, .func (PySem.W.fnOf "_law_one_of" "_law_one_of" (defArgs s_l_one_of) (defBody s_l_one_of) (defScope s_l_one_of) .none kV_l_one_of dc_l_one_of pm_l_one_of an_l_one_of cd_l_one_of ct_l_one_of), sl_l_one_of⟩)
    (c_l_one_of : PySem.W.codeIn K cd_l_one_of "_law_one_of" = true)
    (k_l_one_of : PySem.W.keepIn K (.ref f_l_one_of) = true)
    (a_l_same : PySem.W.nsIn K mainGlobals "_law_same" = some (some (.ref f_l_same)))
    (l_l_same : K.lookup f_l_same = some ⟨oc_l_same, od_l_same, .func (PySem.W.fnOf "_law_same" "_law_same" (defArgs s_l_same) (defBody s_l_same) (defScope s_l_same) .none kV_l_same dc_l_same pm_l_same an_l_same cd_l_same ct_l_same), sl_l_same⟩)
    (c_l_same : PySem.W.codeIn K cd_l_same "_law_same" = true)
    (k_l_same : PySem.W.keepIn K (.ref f_l_same) = true)
    (a_l_due : PySem.W.nsIn K mainGlobals "_law_due" = some (some (.ref f_l_due)))
    (l_l_due : K.lookup f_l_due = some ⟨oc_l_due, od_l_due, .func (PySem.W.fnOf "_law_due" "_law_due" (defArgs s_l_due) (defBody s_l_due) (defScope s_l_due) .none kV_l_due dc_l_due pm_l_due an_l_due cd_l_due ct_l_due), sl_l_due⟩)
    (c_l_due : PySem.W.codeIn K cd_l_due "_law_due" = true)
    (k_l_due : PySem.W.keepIn K (.ref f_l_due) = true)
    (a_l_right : PySem.W.nsIn K mainGlobals "_law_right" = some (some (.ref f_l_right)))
    (l_l_right : K.lookup f_l_right = some ⟨oc_l_right, od_l_right, .func (PySem.W.fnOf "_law_right" "_law_right" (defArgs s_l_right) (defBody s_l_right) (defScope s_l_right) .none kV_l_right dc_l_right pm_l_right an_l_right cd_l_right ct_l_right), sl_l_right⟩)
    (c_l_right : PySem.W.codeIn K cd_l_right "_law_right" = true)
    (k_l_right : PySem.W.keepIn K (.ref f_l_right) = true)
    (a_law : PySem.W.nsIn K mainGlobals "law" = some (some (.ref f_law)))
    (l_law : K.lookup f_law = some ⟨oc_law, od_law, .func (PySem.W.fnOf "law" "law" (defArgs s_law) (defBody s_law) (defScope s_law) .none kV_law dc_law pm_law an_law cd_law ct_law), sl_law⟩)
    (c_law : PySem.W.codeIn K cd_law "law" = true)
    (k_law : PySem.W.keepIn K (.ref f_law) = true)
    (v_BASE : PySem.W.nsIn K mainGlobals "BASE" = some (some (.int 16 t_BASE)))
    (v_FIGURES : PySem.W.nsIn K mainGlobals "FIGURES" = some (some (.str (PySem.Str.ofString "0123456789ABCDEF") t_FIGURES)))
    (v_MOST_AT : PySem.W.nsIn K mainGlobals "MOST_AT" = some (some (.int 9 t_MOST_AT)))
    (v_MOST_NUMBER : PySem.W.nsIn K mainGlobals "MOST_NUMBER" = some (some (.int 9999 t_MOST_NUMBER)))
    (v_SIGNS : PySem.W.nsIn K mainGlobals "SIGNS" = some (some (.int 5 t_SIGNS)))
    (z_abs : PySem.W.nsIn K mainGlobals "abs" = some none)
    (z_all : PySem.W.nsIn K mainGlobals "all" = some none)
    (z_bool : PySem.W.nsIn K mainGlobals "bool" = some none)
    (z_divmod : PySem.W.nsIn K mainGlobals "divmod" = some none)
    (z_enumerate : PySem.W.nsIn K mainGlobals "enumerate" = some none)
    (z_int : PySem.W.nsIn K mainGlobals "int" = some none)
    (z_isinstance : PySem.W.nsIn K mainGlobals "isinstance" = some none)
    (z_len : PySem.W.nsIn K mainGlobals "len" = some none)
    (z_list : PySem.W.nsIn K mainGlobals "list" = some none)
    (z_max : PySem.W.nsIn K mainGlobals "max" = some none)
    (z_range : PySem.W.nsIn K mainGlobals "range" = some none)
    (z_set : PySem.W.nsIn K mainGlobals "set" = some none)
    (z_sorted : PySem.W.nsIn K mainGlobals "sorted" = some none)
    (z_str : PySem.W.nsIn K mainGlobals "str" = some none)
    (z_tuple : PySem.W.nsIn K mainGlobals "tuple" = some none)
    (z_zip : PySem.W.nsIn K mainGlobals "zip" = some none) :
    ∃ fd : FuncData, (∀ (s : Shared) (v : Value), BindsTo s fd ⟨[v], []⟩ [("_law_script", v)]) ∧ ∀ base : Heap, K.In base → base.Ns mainGlobals mg → FnOk l.prog w K mg base (L2.CX l.prog w) 10 fa fd ["_law_script"] (spLaw K) := by
  have e := hfa.symm.trans (PySem.W.mg_of X G a_law)
  cases e
  have T : Top K mg := top_mk X G a_ticket_text l_ticket_text c_ticket_text k_ticket_text a_ticket_in l_ticket_in c_ticket_in k_ticket_in a_l_dip l_l_dip c_l_dip k_l_dip a_l_take l_l_take c_l_take k_l_take a_l_folded l_l_folded c_l_folded k_l_folded a_l_one_of l_l_one_of c_l_one_of k_l_one_of a_l_same l_l_same c_l_same k_l_same a_l_due l_l_due c_l_due k_l_due a_l_right l_l_right c_l_right k_l_right a_law l_law c_law k_law v_BASE v_FIGURES v_MOST_AT v_MOST_NUMBER v_SIGNS z_abs z_all z_bool z_divmod z_enumerate z_int z_isinstance z_len z_list z_max z_range z_set z_sorted z_str z_tuple z_zip
  exact ⟨_, fun s v => .of_eq rfl, fun base _ _ => law_ok rfl (G_law (top_mk X G a_ticket_text l_ticket_text c_ticket_text k_ticket_text a_ticket_in l_ticket_in c_ticket_in k_ticket_in a_l_dip l_l_dip c_l_dip k_l_dip a_l_take l_l_take c_l_take k_l_take a_l_folded l_l_folded c_l_folded k_l_folded a_l_one_of l_l_one_of c_l_one_of k_l_one_of a_l_same l_l_same c_l_same k_l_same a_l_due l_l_due c_l_due k_l_due a_l_right l_l_right c_l_right k_l_right a_law l_law c_law k_law v_BASE v_FIGURES v_MOST_AT v_MOST_NUMBER v_SIGNS z_abs z_all z_bool z_divmod z_enumerate z_int z_isinstance z_len z_list z_max z_range z_set z_sorted z_str z_tuple z_zip))⟩
end DV
open PySem PySem.W PyProof.Rows
set_option maxRecDepth 100000 in
set_option maxHeartbeats 0 in
theorem PySem.Challenge.cw_lettolls_k62_tickets_written_holds : PySem.Challenge.rw_lettolls_k62_tickets_written.Holds := by
  w_on; o_law; k_head; (case hw => w_witness2)
  k_fill
  refine DV.walk_of (l := PySem.Challenge.rw_lettolls_k62_tickets_written) (n := 63) (k := 10) (x := "_law_script") (CX := fun w => L2.CX PySem.Challenge.rw_lettolls_k62_tickets_written.prog w) (sp := fun w => DV.spLaw _) rfl (by decide) rfl ⟨⟨rfl, by decide, by decide⟩, rfl⟩ (fun w h Y => PySem.W.kIn_of Y) ?F (fun _ _ a ns hl _ hS => ⟨a, ns, rfl, hS, hl, fun _ => rfl⟩) (fun _ _ _ _ _ h => DV.cx_no h)
  case F =>
    intro w mg fa h KX G hmg
    refine' DV.all_mk KX G hmg ?a_ticket_text ?l_ticket_text ?c_ticket_text ?k_ticket_text ?a_ticket_in ?l_ticket_in ?c_ticket_in ?k_ticket_in ?a_l_dip ?l_l_dip ?c_l_dip ?k_l_dip ?a_l_take ?l_l_take ?c_l_take ?k_l_take ?a_l_folded ?l_l_folded ?c_l_folded ?k_l_folded ?a_l_one_of ?l_l_one_of ?c_l_one_of ?k_l_one_of ?a_l_same ?l_l_same ?c_l_same ?k_l_same ?a_l_due ?l_l_due ?c_l_due ?k_l_due ?a_l_right ?l_l_right ?c_l_right ?k_l_right ?a_law ?l_law ?c_law ?k_law ?v_BASE ?v_FIGURES ?v_MOST_AT ?v_MOST_NUMBER ?v_SIGNS ?z_abs ?z_all ?z_bool ?z_divmod ?z_enumerate ?z_int ?z_isinstance ?z_len ?z_list ?z_max ?z_range ?z_set ?z_sorted ?z_str ?z_tuple ?z_zip
    (case a_ticket_text => k_is); (case l_ticket_text => k_is); (case c_ticket_text => k_is); (case k_ticket_text => k_is); (case a_ticket_in => k_is); (case l_ticket_in => k_is); (case c_ticket_in => k_is); (case k_ticket_in => k_is); (case a_l_dip => k_is); (case l_l_dip => k_is); (case c_l_dip => k_is); (case k_l_dip => k_is); (case a_l_take => k_is); (case l_l_take => k_is); (case c_l_take => k_is); (case k_l_take => k_is); (case a_l_folded => k_is); (case l_l_folded => k_is); (case c_l_folded => k_is); (case k_l_folded => k_is); (case a_l_one_of => k_is); (case l_l_one_of => k_is); (case c_l_one_of => k_is); (case k_l_one_of => k_is); (case a_l_same => k_is); (case l_l_same => k_is); (case c_l_same => k_is); (case k_l_same => k_is); (case a_l_due => k_is); (case l_l_due => k_is); (case c_l_due => k_is); (case k_l_due => k_is); (case a_l_right => k_is); (case l_l_right => k_is); (case c_l_right => k_is); (case k_l_right => k_is); (case a_law => k_is); (case l_law => k_is); (case c_law => k_is); (case k_law => k_is); (case v_BASE => k_is); (case v_FIGURES => k_is); (case v_MOST_AT => k_is); (case v_MOST_NUMBER => k_is); (case v_SIGNS => k_is); (case z_abs => k_is); (case z_all => k_is); (case z_bool => k_is); (case z_divmod => k_is); (case z_enumerate => k_is); (case z_int => k_is); (case z_isinstance => k_is); (case z_len => k_is); (case z_list => k_is); (case z_max => k_is); (case z_range => k_is); (case z_set => k_is); (case z_sorted => k_is); (case z_str => k_is); (case z_tuple => k_is); (case z_zip => k_is)
