import PyProof.Rows.All
import Wide.All
import OpenK.AllK
import Wide.FinOn
import HandS.ForMost
import HandS.Walk
import HandS.Evl
import HandS.IsInst
import HandS.Wide
import HandS.Steps
import HandS.TupAny
import HandS.Zip
import HandS.TupMul
import HandS.Deep
import HandS.Flow
import HandS.AnyAll
import HandS.Nested
import KE.KDictIter
import PyProof.GenCompT
import KE.KNestM
import KE.GoesMore
import HandS.Style
import PySem.Challenge.RW_lengthstell_k02_rows_free_of_one_another
set_option Elab.async false
set_option linter.all false
set_option maxRecDepth 100000
set_option maxHeartbeats 4000000
set_option exponentiation.threshold 20000
namespace DL
open PySem L2 Evl

/-! what stands for a datum: lists and tuples by their items, dicts with int and text keys -/
def kD : Key → PyData
  | .inl i => .int i
  | .inr s => .str s
mutual
inductive Rp (K : PySem.W.Frag) (H : Hp) : V → PyData → Prop
  | non : Rp K H .non .none
  | bl (b : Bool) : Rp K H (.bl b) (.bool b)
  | int (i : Int) : Rp K H (.int i) (.int i)
  | str (x : Str) : Rp K H (.str x) (.str x)
  | lst {a : Addr} {xs : List V} {ds : List PyData} : SqL K H a xs → RpAll K H xs ds → Rp K H (.ref a) (.list ds)
  | tup {a : Addr} {xs : List V} {ds : List PyData} : SqT K H a xs → RpAll K H xs ds → Rp K H (.ref a) (.tuple ds)
  | dic {a : Addr} {kvs : List (Key × V)} {ds : List (PyData × PyData)} : H a = some (.dK kvs) → RpKv K H kvs ds → Rp K H (.ref a) (.dict ds)
inductive RpAll (K : PySem.W.Frag) (H : Hp) : List V → List PyData → Prop
  | nil : RpAll K H [] []
  | cons {v : V} {vs : List V} {d : PyData} {ds : List PyData} : Rp K H v d → RpAll K H vs ds → RpAll K H (v :: vs) (d :: ds)
inductive RpKv (K : PySem.W.Frag) (H : Hp) : List (Key × V) → List (PyData × PyData) → Prop
  | nil : RpKv K H [] []
  | cons {k : Key} {v : V} {vs : List (Key × V)} {d : PyData} {ds : List (PyData × PyData)} : Rp K H v d → RpKv K H vs ds → RpKv K H ((k, v) :: vs) ((kD k, d) :: ds)
end
variable {K : PySem.W.Frag} {H H' H1 H2 : Hp}
mutual
theorem Rp.mono (e : Ex H H') : ∀ {v : V} {d : PyData}, Rp K H v d → Rp K H' v d
  | _, _, .non => .non
  | _, _, .bl b => .bl b
  | _, _, .int i => .int i
  | _, _, .str x => .str x
  | _, _, .lst h r => .lst (ex_l e h) (RpAll.mono e r)
  | _, _, .tup h r => .tup (ex_t e h) (RpAll.mono e r)
  | _, _, .dic h r => .dic (e _ _ h) (RpKv.mono e r)
theorem RpAll.mono (e : Ex H H') : ∀ {vs : List V} {ds : List PyData}, RpAll K H vs ds → RpAll K H' vs ds
  | _, _, .nil => .nil
  | _, _, .cons h r => .cons (Rp.mono e h) (RpAll.mono e r)
theorem RpKv.mono (e : Ex H H') : ∀ {vs : List (Key × V)} {ds : List (PyData × PyData)}, RpKv K H vs ds → RpKv K H' vs ds
  | _, _, .nil => .nil
  | _, _, .cons h r => .cons (Rp.mono e h) (RpKv.mono e r)
end
theorem RpAll.len : ∀ {vs : List V} {ds : List PyData}, RpAll K H vs ds → vs.length = ds.length
  | _, _, .nil => rfl
  | _, _, .cons _ r => congrArg (· + 1) (RpAll.len r)
theorem RpAll.get : ∀ {vs : List V} {ds : List PyData} {i : Nat} {v : V}, RpAll K H vs ds → vs[i]? = some v → ∃ d, ds[i]? = some d ∧ Rp K H v d
  | _, _, _, _, .nil, e => by simp at e
  | _, _, 0, _, .cons h _, e => ⟨_, rfl, by cases (Option.some.inj e); exact h⟩
  | _, _, i + 1, v, .cons _ r, e => by
    obtain ⟨d, h1, h2⟩ := RpAll.get (i := i) (v := v) r (by simpa using e)
    exact ⟨d, by simpa using h1, h2⟩
theorem RpAll.get' : ∀ {vs : List V} {ds : List PyData} {i : Nat} {d : PyData}, RpAll K H vs ds → ds[i]? = some d → ∃ v, vs[i]? = some v ∧ Rp K H v d
  | _, _, _, _, .nil, e => by simp at e
  | _, _, 0, _, .cons h _, e => ⟨_, rfl, by cases (Option.some.inj e); exact h⟩
  | _, _, i + 1, d, .cons _ r, e => by
    obtain ⟨v, h1, h2⟩ := RpAll.get' (i := i) (d := d) r (by simpa using e)
    exact ⟨v, by simpa using h1, h2⟩
theorem RpAll.append : ∀ {vs ws : List V} {ds es : List PyData}, RpAll K H vs ds → RpAll K H ws es → RpAll K H (vs ++ ws) (ds ++ es)
  | _, _, _, _, .nil, s => s
  | _, _, _, _, .cons h r, s => .cons h (RpAll.append r s)
theorem RpAll.take : ∀ {vs : List V} {ds : List PyData} (n : Nat), RpAll K H vs ds → RpAll K H (vs.take n) (ds.take n)
  | _, _, 0, _ => .nil
  | _, _, n + 1, .nil => .nil
  | _, _, n + 1, .cons h r => .cons h (RpAll.take n r)
theorem RpAll.drop : ∀ {vs : List V} {ds : List PyData} (n : Nat), RpAll K H vs ds → RpAll K H (vs.drop n) (ds.drop n)
  | _, _, 0, r => r
  | _, _, n + 1, .nil => .nil
  | _, _, n + 1, .cons h r => RpAll.drop n r
theorem RpAll.ints : ∀ {vs : List V} {ns : List Int}, RpAll K H vs (ns.map .int) → vs = ns.map .int
  | [], [], _ => rfl
  | _ :: _, _ :: _, .cons (.int _) r => congrArg _ (RpAll.ints r)
theorem RpAll.bools : ∀ {vs : List V} {ns : List Bool}, RpAll K H vs (ns.map .bool) → vs = ns.map .bl
  | [], [], _ => rfl
  | _ :: _, _ :: _, .cons (.bl _) r => congrArg _ (RpAll.bools r)
theorem RpAll.strs : ∀ {vs : List V} {ns : List Str}, RpAll K H vs (ns.map .str) → vs = ns.map .str
  | [], [], _ => rfl
  | _ :: _, _ :: _, .cons (.str _) r => congrArg _ (RpAll.strs r)
theorem RpAll.of_ints : ∀ {ns : List Int}, RpAll K H (ns.map .int) (ns.map .int)
  | [] => .nil
  | _ :: _ => .cons (.int _) RpAll.of_ints
theorem RpAll.of_strs : ∀ {ns : List Str}, RpAll K H (ns.map .str) (ns.map .str)
  | [] => .nil
  | _ :: _ => .cons (.str _) RpAll.of_strs
theorem RpAll.of_bools : ∀ {ns : List Bool}, RpAll K H (ns.map .bl) (ns.map .bool)
  | [] => .nil
  | _ :: _ => .cons (.bl _) RpAll.of_bools

/-! no dict within: the library's own reading -/
mutual
theorem Rp.dp : ∀ {v : V} {d : PyData}, Rp K H v d → d.canLay0 = true → Dp K H v d
  | _, _, .non, _ => .non
  | _, _, .bl b, _ => .bl b
  | _, _, .int i, _ => .int i
  | _, _, .str x, _ => .str x
  | _, _, .lst h r, p => .lst h (RpAll.dp r (by simpa [PyData.canLay0] using p))
  | _, _, .tup h r, p => .tup h (RpAll.dp r (by simpa [PyData.canLay0] using p))
  | _, _, .dic h r, p => by simp [PyData.canLay0] at p
theorem RpAll.dp : ∀ {vs : List V} {ds : List PyData}, RpAll K H vs ds → PyData.canLayAll0 ds = true → DpAll K H vs ds
  | _, _, .nil, _ => .nil
  | v :: vs, d :: ds, .cons h r, p => by
    have q : d.canLay0 = true ∧ PyData.canLayAll0 ds = true := by simpa [PyData.canLayAll0] using p
    exact .cons (Rp.dp h q.1) (RpAll.dp r q.2)
end

/-! ### what a reading gives: H is what is known, H1 what there is -/
structure Grow (H H1 Hk H2 : Hp) : Prop where
  known : Ex H Hk
  sub : Ex Hk H2
  all : Ex H1 H2
  fresh : ∀ p o, Hk p = some o → H p = none → H1 p = none
theorem ex_none {H H' : Hp} (e : Ex H H') {p : Addr} (h : H' p = none) : H p = none := fresh_back e h
theorem Grow.refl {H H1 : Hp} (e : Ex H H1) : Grow H H1 H H1 := ⟨Ex.refl H, e, Ex.refl H1, fun p o h n => by rw [h] at n; cases n⟩
theorem Grow.trans {H H1 Hk H2 Hm H3 : Hp} (a : Grow H H1 Hk H2) (b : Grow Hk H2 Hm H3) : Grow H H1 Hm H3 :=
  ⟨a.known.trans b.known, b.sub, a.all.trans b.all, fun p o h n => by
    cases q : Hk p with
    | some u => exact a.fresh p u q n
    | none => exact ex_none a.all (b.fresh p o h q)⟩
theorem ex_upd {H H' : Hp} (e : Ex H H') (p : Addr) (o : HO) : Ex (upd H p o) (upd H' p o) := fun a u h => by
  by_cases ha : a = p
  · subst ha; rw [upd_same] at h ⊢; exact h
  · rw [upd_ne ha] at h ⊢; exact e a u h
theorem Grow.new {H H1 : Hp} {p : Addr} (e : Ex H H1) (hp : H1 p = none) (o : HO) : Grow H H1 (upd H p o) (upd H1 p o) :=
  ⟨Ex.new (ex_none e hp), ex_upd e p o, Ex.new hp, fun a u h n => by
    by_cases ha : a = p
    · subst ha; exact hp
    · rw [upd_ne ha] at h; rw [h] at n; cases n⟩
/-- a new thing that is not told -/
theorem Grow.hide {H H1 : Hp} {p : Addr} (e : Ex H H1) (hp : H1 p = none) (o : HO) : Grow H H1 H (upd H1 p o) :=
  ⟨Ex.refl H, e.trans (Ex.new hp), Ex.new hp, fun a u h n => by rw [h] at n; cases n⟩
/-- what is not known stays unknown -/
theorem Grow.unk {H H1 Hk H2 : Hp} (g : Grow H H1 Hk H2) {p : Addr} {o : HO} (h : H p = none) (h1 : H1 p = some o) : Hk p = none := by
  cases q : Hk p with
  | none => rfl
  | some u => rw [g.fresh p u q h] at h1; cases h1
def both (A B : Hp) : Hp := fun p => match A p with | some o => some o | none => B p
theorem both_l {A B : Hp} : Ex A (both A B) := fun p o h => by unfold both; rw [h]
theorem both_r {A B C : Hp} (a : Ex A C) (b : Ex B C) : Ex B (both A B) := fun p o h => by
  unfold both
  cases q : A p with
  | none => exact h
  | some u => exact ((a p u q).symm.trans (b p o h))
theorem both_sub {A B C : Hp} (a : Ex A C) (b : Ex B C) : Ex (both A B) C := fun p o h => by
  unfold both at h
  cases q : A p with
  | none => rw [q] at h; exact b p o h
  | some u => rw [q] at h; exact a p o (q.trans h)
/-- more was known -/
theorem Grow.more {H Hm H1 Hk H2 : Hp} (a : Ex H Hm) (e : Ex Hm H1) (g : Grow H H1 Hk H2) : Grow Hm H1 (both Hm Hk) H2 :=
  ⟨both_l, both_sub (e.trans g.all) g.sub, g.all, fun p o h n => by
    unfold both at h
    rw [n] at h
    exact g.fresh p o h (ex_none a n)⟩
theorem Grow.moreR {H Hm H1 Hk H2 : Hp} (e : Ex Hm H1) (g : Grow H H1 Hk H2) : Ex Hk (both Hm Hk) := both_r (e.trans g.all) g.sub

/-- te gives some datum of P, and leaves what is known -/
def EvP (K : PySem.W.Frag) (te : TE) (σ : L2.St) (H : Hp) (P : PyData → Prop) : Prop :=
  ∀ H1, Ex H H1 → ∀ Q : VK, (∀ v d Hk H2, Grow H H1 Hk H2 → Rp K Hk v d → P d → Q v H2) → te σ H1 Q
abbrev EvD (K : PySem.W.Frag) (te : TE) (σ : L2.St) (H : Hp) (d : PyData) : Prop := EvP K te σ H (· = d)
def EvAs (K : PySem.W.Frag) (ta : TA) (σ : L2.St) (H : Hp) (P : List PyData → Prop) : Prop :=
  ∀ H1, Ex H H1 → ∀ Q : List V → Hp → Prop, (∀ vs ds Hk H2, Grow H H1 Hk H2 → RpAll K Hk vs ds → P ds → Q vs H2) → ta σ H1 Q
/-- a test -/
def EvTP (tt : TT) (σ : L2.St) (H : Hp) (P : Bool → Prop) : Prop :=
  ∀ H1, Ex H H1 → ∀ Q : Bool → Hp → Prop, (∀ b Hk H2, Grow H H1 Hk H2 → P b → Q b H2) → tt σ H1 Q
/-- an operation of two values, a call of values -/
def RD (K : PySem.W.Frag) (r : R2) (d1 d2 : PyData) (P : PyData → Prop) : Prop :=
  ∀ v1 v2 H H1, Ex H H1 → Rp K H v1 d1 → Rp K H v2 d2 → ∀ Q : VK, (∀ v d Hk H2, Grow H H1 Hk H2 → Rp K Hk v d → P d → Q v H2) → r v1 v2 H1 Q
def RCD (K : PySem.W.Frag) (r : List V → Hp → VK → Prop) (ds : List PyData) (P : PyData → Prop) : Prop :=
  ∀ vs H H1, Ex H H1 → RpAll K H vs ds → ∀ Q : VK, (∀ v d Hk H2, Grow H H1 Hk H2 → Rp K Hk v d → P d → Q v H2) → r vs H1 Q

section
variable {σ : L2.St} {ta tb tc te : TE} {tt tu : TT} {P P1 P2 : PyData → Prop} {d d1 d2 : PyData} {r r' : R2}
theorem EvP.mono (a : Ex H H') (h : EvP K te σ H P) : EvP K te σ H' P := fun H1 e Q q => h H1 (a.trans e) Q fun v d Hk H2 g r p => q v d _ H2 (g.more a e) (r.mono (g.moreR e)) p
theorem EvAs.mono {ta : TA} {P : List PyData → Prop} (a : Ex H H') (h : EvAs K ta σ H P) : EvAs K ta σ H' P := fun H1 e Q q => h H1 (a.trans e) Q fun v d Hk H2 g r p => q v d _ H2 (g.more a e) (r.mono (g.moreR e)) p
theorem EvTP.mono {P : Bool → Prop} (a : Ex H H') (h : EvTP tt σ H P) : EvTP tt σ H' P := fun H1 e Q q => h H1 (a.trans e) Q fun b Hk H2 g p => q b _ H2 (g.more a e) p
theorem EvP.weak (h : EvP K te σ H P1) (w : ∀ d, P1 d → P2 d) : EvP K te σ H P2 := fun H1 a Q q => h H1 a Q fun v d Hk H2 e r p => q v d Hk H2 e r (w d p)
theorem EvP.is (h : EvD K te σ H d1) (e : d1 = d2) : EvD K te σ H d2 := by subst e; exact h
theorem evp_var {i : Nat} {v : V} (h : σ[i]? = some (some v)) (r : Rp K H v d) : EvD K (tVar i) σ H d := fun H1 e Q q => ⟨v, h, q v d H H1 (Grow.refl e) r rfl⟩
theorem evp_c {v : V} (r : Rp K H v d) : EvD K (tC v) σ H d := fun H1 e _ q => q _ _ H H1 (Grow.refl e) r rfl
theorem evp_int {i : Int} : EvD K (tC (.int i)) σ H (.int i) := evp_c (.int i)
theorem evp_bl {i : Bool} : EvD K (tC (.bl i)) σ H (.bool i) := evp_c (.bl i)
theorem evp_str {i : Str} : EvD K (tC (.str i)) σ H (.str i) := evp_c (.str i)
theorem evp_non : EvD K (tC .non) σ H .none := evp_c .non
theorem evp_op (ha : EvP K ta σ H P1) (hb : EvP K tb σ H P2) (hr : ∀ d1 d2, P1 d1 → P2 d2 → RD K r d1 d2 P) : EvP K (tOp r ta tb) σ H P := fun H1 e Q q =>
  ha H1 e _ fun v1 d1 Hk2 H2 g2 r1 p1 => hb.mono g2.known H2 g2.sub _ fun v2 d2 Hk3 H3 g3 r2 p2 => hr d1 d2 p1 p2 v1 v2 Hk3 H3 g3.sub (r1.mono g3.known) r2 Q fun v d Hk4 H4 g4 r4 p4 => q v d Hk4 H4 ((g2.trans g3).trans g4) r4 p4
/-- both known -/
theorem evd_op (ha : EvD K ta σ H d1) (hb : EvD K tb σ H d2) (hr : RD K r d1 d2 P) : EvP K (tOp r ta tb) σ H P :=
  evp_op ha hb fun _ _ e1 e2 => by subst e1; subst e2; exact hr
theorem rd_I0 {g : Int → Int → Int} {i j : Int} : RD K (rI0 fun i j => .int (g i j)) (.int i) (.int j) (· = .int (g i j)) := fun _ _ H H1 e r1 r2 Q q => by
  cases r1; cases r2; exact ⟨i, j, rfl, rfl, q _ _ H H1 (Grow.refl e) (.int _) rfl⟩
theorem rd_I {C : Int → Int → Prop} {g : Int → Int → Int} {i j : Int} (c : C i j) : RD K (rI C fun i j => .int (g i j)) (.int i) (.int j) (· = .int (g i j)) := fun _ _ H H1 e r1 r2 Q q => by
  cases r1; cases r2; exact ⟨i, j, rfl, rfl, c, q _ _ H H1 (Grow.refl e) (.int _) rfl⟩
theorem rd_B0 {g : Int → Int → Bool} {i j : Int} : RD K (rI0 fun i j => .bl (g i j)) (.int i) (.int j) (· = .bool (g i j)) := fun _ _ H H1 e r1 r2 Q q => by
  cases r1; cases r2; exact ⟨i, j, rfl, rfl, q _ _ H H1 (Grow.refl e) (.bl _) rfl⟩
theorem evp_un {rr : V → Hp → VK → Prop} (ha : EvP K ta σ H P1) (hr : ∀ d v H H1, Ex H H1 → P1 d → Rp K H v d → ∀ Q : VK, (∀ v d Hk H2, Grow H H1 Hk H2 → Rp K Hk v d → P d → Q v H2) → rr v H1 Q) : EvP K (tUn rr ta) σ H P := fun H1 e Q q =>
  ha H1 e _ fun v1 d1 Hk2 H2 g2 r1 p1 => hr d1 v1 Hk2 H2 g2.sub p1 r1 Q fun v d Hk3 H3 g3 r3 p3 => q v d Hk3 H3 (g2.trans g3) r3 p3
theorem evd_neg {i : Int} (ha : EvD K ta σ H (.int i)) : EvD K (tUn (rU fun i => .int (-i)) ta) σ H (.int (-i)) := evp_un ha fun d v H H1 e p r Q q => by
  subst p; cases r; exact ⟨i, rfl, q _ _ H H1 (Grow.refl e) (.int _) rfl⟩
/-- arguments -/
theorem eas_nil : EvAs K tNil σ H (· = []) := fun H1 e _ q => q _ _ H H1 (Grow.refl e) .nil rfl
theorem eas_cons {tr : TA} {P1 : PyData → Prop} {P2 : List PyData → Prop} (h : EvP K ta σ H P1) (hr : EvAs K tr σ H P2) : EvAs K (tCons ta tr) σ H (fun ds => ∃ d es, ds = d :: es ∧ P1 d ∧ P2 es) := fun H1 e Q q =>
  h H1 e _ fun v d Hk2 H2 g2 r2 p2 => hr.mono g2.known H2 g2.sub _ fun vs ds Hk3 H3 g3 r3 p3 => q (v :: vs) (d :: ds) Hk3 H3 (g2.trans g3) (.cons (r2.mono g3.known) r3) ⟨d, ds, rfl, p2, p3⟩
abbrev EvA1 (K : PySem.W.Frag) (ta : TA) (σ : L2.St) (H : Hp) (ds : List PyData) : Prop := EvAs K ta σ H (· = ds)
theorem eas1 {tr : TA} {ds : List PyData} (h : EvD K ta σ H d) (hr : EvA1 K tr σ H ds) : EvA1 K (tCons ta tr) σ H (d :: ds) := fun H1 e Q q =>
  eas_cons h hr H1 e Q fun vs es Hk H2 g r p => q vs es Hk H2 g r (by obtain ⟨d', es', rfl, rfl, rfl⟩ := p; rfl)
theorem evp_tup {tr : TA} {P : List PyData → Prop} (h : EvAs K tr σ H P) (hl : ∀ ds, P ds → ds.length ≤ 100000) : EvP K (tTup tr) σ H (fun d => ∃ ds, d = .tuple ds ∧ P ds) := fun H1 e Q q =>
  h H1 e _ fun vs ds Hk2 H2 g2 r2 p2 => ⟨sz_of (by rw [r2.len]; exact hl ds p2), fun p hp =>
    have g3 := Grow.new g2.sub hp (.tup vs)
    q _ (.tuple ds) _ _ (g2.trans g3) (.tup (st_of upd_same) (r2.mono g3.known)) ⟨ds, rfl, p2⟩⟩
theorem evp_lst {tr : TA} {P : List PyData → Prop} (h : EvAs K tr σ H P) (hl : ∀ ds, P ds → ds.length ≤ 100000) : EvP K (tLst tr) σ H (fun d => ∃ ds, d = .list ds ∧ P ds) := fun H1 e Q q =>
  h H1 e _ fun vs ds Hk2 H2 g2 r2 p2 => ⟨sz_of (by rw [r2.len]; exact hl ds p2), fun p hp =>
    have g3 := Grow.new g2.sub hp (.lst vs)
    q _ (.list ds) _ _ (g2.trans g3) (.lst (sq_of upd_same) (r2.mono g3.known)) ⟨ds, rfl, p2⟩⟩
theorem evd_tup {tr : TA} {ds : List PyData} (h : EvA1 K tr σ H ds) (hl : ds.length ≤ 100000 := by simp) : EvD K (tTup tr) σ H (.tuple ds) :=
  (evp_tup h fun es e => by subst e; exact hl).weak fun d ⟨es, e1, e2⟩ => by subst e2; exact e1
theorem evd_lst {tr : TA} {ds : List PyData} (h : EvA1 K tr σ H ds) (hl : ds.length ≤ 100000 := by simp) : EvD K (tLst tr) σ H (.list ds) :=
  (evp_lst h fun es e => by subst e; exact hl).weak fun d ⟨es, e1, e2⟩ => by subst e2; exact e1
theorem evp_cb {rr : List V → Hp → VK → Prop} {tr : TA} {P1 : List PyData → Prop} (h : EvAs K tr σ H P1) (hr : ∀ ds, P1 ds → RCD K rr ds P) : EvP K (tCB rr tr) σ H P := fun H1 e Q q =>
  h H1 e _ fun vs ds Hk2 H2 g2 r2 p2 => hr ds p2 vs Hk2 H2 g2.sub r2 Q fun v d Hk3 H3 g3 r3 p3 => q v d Hk3 H3 (g2.trans g3) r3 p3
theorem evd_cb {rr : List V → Hp → VK → Prop} {tr : TA} {ds : List PyData} (h : EvA1 K tr σ H ds) (hr : RCD K rr ds P) : EvP K (tCB rr tr) σ H P := evp_cb h fun _ e => by subst e; exact hr
/-! tests, and, or, not, if -/
abbrev EvT1 (tt : TT) (σ : L2.St) (H : Hp) (b : Bool) : Prop := EvTP tt σ H (· = b)
theorem etp_test {b : Bool} (h : EvD K te σ H (.bool b)) : EvT1 (tTest te) σ H b := fun H1 e Q q => h H1 e _ fun v d Hk H2 g2 r2 p2 => by
  subst p2; cases r2; exact ⟨b, rfl, q b Hk H2 g2 rfl⟩
theorem etp_B {b : Bool} (h : EvD K te σ H (.bool b)) : EvT1 (tB te) σ H b := fun H1 e Q q => h H1 e _ fun v d Hk H2 g2 r2 p2 => by
  subst p2; cases r2; exact ⟨b, rfl, q b Hk H2 g2 rfl⟩
theorem etp_yes : EvT1 tYes σ H true := fun H1 e Q q => q true H H1 (Grow.refl e) rfl
theorem etp_not {b : Bool} (h : EvT1 tt σ H b) : EvT1 (tNot tt) σ H (!b) := fun H1 e Q q => h H1 e _ fun c Hk H2 g2 p2 => by subst p2; exact q _ Hk H2 g2 rfl
theorem etp_and {a b : Bool} (h1 : EvT1 tt σ H a) (h2 : a = true → EvT1 tu σ H b) : EvT1 (tAnd tt tu) σ H (a && b) := fun H1 e Q q => h1 H1 e _ fun c Hk2 H2 g2 p2 => by
  subst p2
  cases c with
  | true => exact (h2 rfl).mono g2.known H2 g2.sub Q fun d Hk3 H3 g3 p3 => q d Hk3 H3 (g2.trans g3) (by rw [p3]; rfl)
  | false => exact q false Hk2 H2 g2 rfl
theorem etp_or {a b : Bool} (h1 : EvT1 tt σ H a) (h2 : a = false → EvT1 tu σ H b) : EvT1 (tOr tt tu) σ H (a || b) := fun H1 e Q q => h1 H1 e _ fun c Hk2 H2 g2 p2 => by
  subst p2
  cases c with
  | true => exact q true Hk2 H2 g2 rfl
  | false => exact (h2 rfl).mono g2.known H2 g2.sub Q fun d Hk3 H3 g3 p3 => q d Hk3 H3 (g2.trans g3) (by rw [p3]; rfl)
theorem evp_andV {a : Bool} {b : Bool} (h1 : EvD K ta σ H (.bool a)) (h2 : a = true → EvD K tb σ H (.bool b)) : EvD K (tAndV ta tb) σ H (.bool (a && b)) := fun H1 e Q q => h1 H1 e _ fun v d Hk2 H2 g2 r2 p2 => by
  subst p2; cases r2
  refine ⟨a, rfl, ?_⟩
  cases a with
  | true => exact (h2 rfl).mono g2.known H2 g2.sub Q fun v d Hk3 H3 g3 r3 p3 => q v d Hk3 H3 (g2.trans g3) r3 p3
  | false => exact q _ _ Hk2 H2 g2 (.bl false) rfl
theorem evp_orV {a : Bool} {b : Bool} (h1 : EvD K ta σ H (.bool a)) (h2 : a = false → EvD K tb σ H (.bool b)) : EvD K (tOrV ta tb) σ H (.bool (a || b)) := fun H1 e Q q => h1 H1 e _ fun v d Hk2 H2 g2 r2 p2 => by
  subst p2; cases r2
  refine ⟨a, rfl, ?_⟩
  cases a with
  | false => exact (h2 rfl).mono g2.known H2 g2.sub Q fun v d Hk3 H3 g3 r3 p3 => q v d Hk3 H3 (g2.trans g3) r3 p3
  | true => exact q _ _ Hk2 H2 g2 (.bl true) rfl
theorem evp_notV {a : Bool} (h1 : EvD K ta σ H (.bool a)) : EvD K (tNotV ta) σ H (.bool (!a)) := fun H1 e Q q => h1 H1 e _ fun v d Hk2 H2 g2 r2 p2 => by
  subst p2; cases r2
  exact ⟨a, rfl, q _ _ Hk2 H2 g2 (.bl _) rfl⟩
theorem evp_if {b : Bool} (h : EvT1 tt σ H b) (h1 : b = true → EvP K ta σ H P) (h2 : b = false → EvP K tb σ H P) : EvP K (tIf tt ta tb) σ H P := fun H1 e Q q => h H1 e _ fun c Hk2 H2 g2 p2 => by
  subst p2
  cases c with
  | true => exact (h1 rfl).mono g2.known H2 g2.sub Q fun v d Hk3 H3 g3 r3 p3 => q v d Hk3 H3 (g2.trans g3) r3 p3
  | false => exact (h2 rfl).mono g2.known H2 g2.sub Q fun v d Hk3 H3 g3 r3 p3 => q v d Hk3 H3 (g2.trans g3) r3 p3
theorem evp_chain {k1 k2 : Bool} {d3 : PyData} (ha : EvD K ta σ H d1) (hb : EvD K tb σ H d2) (hc : k1 = true → EvD K tc σ H d3) (h1 : RD K r d1 d2 (· = .bool k1)) (h2 : k1 = true → RD K r' d2 d3 (· = .bool k2)) :
    EvD K (tChain r r' ta tb tc) σ H (.bool (k1 && k2)) := by
  intro H1 e Q q
  refine ha H1 e _ fun v1 _ Hk2 H2 g2 r1 p1 => ?_
  refine hb.mono g2.known H2 g2.sub _ fun v2 _ Hk3 H3 g3 r2 p2 => ?_
  subst p1
  subst p2
  refine h1 v1 v2 Hk3 H3 g3.sub (r1.mono g3.known) r2 _ fun v d Hk4 H4 g4 r4 p4 => ?_
  subst p4
  cases r4
  refine ⟨k1, rfl, ?_⟩
  cases k1 with
  | false => exact q _ _ _ H4 ((g2.trans g3).trans g4) (.bl false) rfl
  | true =>
    refine (hc rfl).mono ((g2.trans g3).trans g4).known H4 g4.sub _ fun v3 d3' Hk5 H5 g5 r5 p5 => ?_
    subst p5
    exact h2 rfl v2 v3 Hk5 H5 g5.sub (r2.mono (g4.trans g5).known) r5 Q fun v d Hk6 H6 g6 r6 p6 => q v d Hk6 H6 ((((g2.trans g3).trans g4).trans g5).trans g6) r6 (by rw [p6]; rfl)
end
/-! ### the kinds -/
def tyOf : PyData → String
  | .none => "NoneType"
  | .bool _ => "bool"
  | .int _ => "int"
  | .str _ => "str"
  | .list _ => "list"
  | .tuple _ => "tuple"
  | .dict _ => "dict"
def isInt : PyData → Bool
  | .int _ => true
  | .bool _ => true
  | _ => false
def isBool : PyData → Bool
  | .bool _ => true
  | _ => false
def isStr : PyData → Bool
  | .str _ => true
  | _ => false
def isTup : PyData → Bool
  | .tuple _ => true
  | _ => false
def isLst : PyData → Bool
  | .list _ => true
  | _ => false
def isDic : PyData → Bool
  | .dict _ => true
  | _ => false
theorem kit_int (d : PyData) : kitB (tyOf d) "int" = some (isInt d) := match d with
  | .none => (by decide +kernel : kitB "NoneType" "int" = some false)
  | .bool _ => (by decide +kernel : kitB "bool" "int" = some true)
  | .int _ => (by decide +kernel : kitB "int" "int" = some true)
  | .str _ => (by decide +kernel : kitB "str" "int" = some false)
  | .list _ => (by decide +kernel : kitB "list" "int" = some false)
  | .tuple _ => (by decide +kernel : kitB "tuple" "int" = some false)
  | .dict _ => (by decide +kernel : kitB "dict" "int" = some false)
theorem kit_bool (d : PyData) : kitB (tyOf d) "bool" = some (isBool d) := match d with
  | .none => (by decide +kernel : kitB "NoneType" "bool" = some false)
  | .bool _ => (by decide +kernel : kitB "bool" "bool" = some true)
  | .int _ => (by decide +kernel : kitB "int" "bool" = some false)
  | .str _ => (by decide +kernel : kitB "str" "bool" = some false)
  | .list _ => (by decide +kernel : kitB "list" "bool" = some false)
  | .tuple _ => (by decide +kernel : kitB "tuple" "bool" = some false)
  | .dict _ => (by decide +kernel : kitB "dict" "bool" = some false)
theorem kit_str (d : PyData) : kitB (tyOf d) "str" = some (isStr d) := match d with
  | .none => (by decide +kernel : kitB "NoneType" "str" = some false)
  | .bool _ => (by decide +kernel : kitB "bool" "str" = some false)
  | .int _ => (by decide +kernel : kitB "int" "str" = some false)
  | .str _ => (by decide +kernel : kitB "str" "str" = some true)
  | .list _ => (by decide +kernel : kitB "list" "str" = some false)
  | .tuple _ => (by decide +kernel : kitB "tuple" "str" = some false)
  | .dict _ => (by decide +kernel : kitB "dict" "str" = some false)
theorem kit_tup (d : PyData) : kitB (tyOf d) "tuple" = some (isTup d) := match d with
  | .none => (by decide +kernel : kitB "NoneType" "tuple" = some false)
  | .bool _ => (by decide +kernel : kitB "bool" "tuple" = some false)
  | .int _ => (by decide +kernel : kitB "int" "tuple" = some false)
  | .str _ => (by decide +kernel : kitB "str" "tuple" = some false)
  | .list _ => (by decide +kernel : kitB "list" "tuple" = some false)
  | .tuple _ => (by decide +kernel : kitB "tuple" "tuple" = some true)
  | .dict _ => (by decide +kernel : kitB "dict" "tuple" = some false)
theorem kit_lst (d : PyData) : kitB (tyOf d) "list" = some (isLst d) := match d with
  | .none => (by decide +kernel : kitB "NoneType" "list" = some false)
  | .bool _ => (by decide +kernel : kitB "bool" "list" = some false)
  | .int _ => (by decide +kernel : kitB "int" "list" = some false)
  | .str _ => (by decide +kernel : kitB "str" "list" = some false)
  | .list _ => (by decide +kernel : kitB "list" "list" = some true)
  | .tuple _ => (by decide +kernel : kitB "tuple" "list" = some false)
  | .dict _ => (by decide +kernel : kitB "dict" "list" = some false)
theorem kit_dic (d : PyData) : kitB (tyOf d) "dict" = some (isDic d) := match d with
  | .none => (by decide +kernel : kitB "NoneType" "dict" = some false)
  | .bool _ => (by decide +kernel : kitB "bool" "dict" = some false)
  | .int _ => (by decide +kernel : kitB "int" "dict" = some false)
  | .str _ => (by decide +kernel : kitB "str" "dict" = some false)
  | .list _ => (by decide +kernel : kitB "list" "dict" = some false)
  | .tuple _ => (by decide +kernel : kitB "tuple" "dict" = some false)
  | .dict _ => (by decide +kernel : kitB "dict" "dict" = some true)
theorem Rp.ty {v : V} {d : PyData} (r : Rp K H v d) : TyX K H v (.type (tyOf d)) := by
  cases r with
  | non => exact .base .non
  | bl b => exact .base (.bl b)
  | int i => exact .base (.int i)
  | str x => exact .base (.str x)
  | lst h _ =>
    rcases h with (h | ⟨o, h⟩) | ⟨o, its, n, h, c, _⟩
    · exact .base (.lst h)
    · exact .base (.frz h)
    · exact .kList h c
  | tup h _ =>
    rcases h with (h | ⟨o, h⟩) | ⟨o, its, n, h, c, _⟩
    · exact .base (.tup h)
    · exact .fTuple h
    · exact .kTuple h c
  | dic h _ => exact .base (.dK h)


section
variable {σ : L2.St} {ta tb tc te : TE} {tt tu : TT} {P P1 P2 : PyData → Prop} {d d1 d2 : PyData} {r r' : R2}
theorem Rp.tyS {H H1 : Hp} (e : Ex H H1) {v : V} {d : PyData} (r : Rp K H v d) : TyX K H1 v (.type (tyOf d)) := (r.mono e).ty
theorem evp_isi {T : String} {b : Bool} (h : EvD K ta σ H d) (hk : kitB (tyOf d) T = some b) : EvD K (tCB (rIsi K) (tCons ta (tCons (tC (.ty T)) tNil))) σ H (.bool b) := by
  intro H1 e Q q
  refine h H1 e _ fun v _ Hk H2 g2 r2 p2 => ?_
  subst p2
  exact ⟨v, .ty T, _, _, b, rfl, .ty T, r2.tyS g2.sub, kit_ty hk, q _ _ Hk H2 g2 (.bl b) rfl⟩
def rLen (K : PySem.W.Frag) : List V → Hp → VK → Prop := fun xs H Q => ∃ x n, xs = [x] ∧ LenV K x H n ∧ Q (.int n) H
def lenD : PyData → Option Nat
  | .str s => if s.length ≤ 100000 then some s.length else none
  | .list ds => some ds.length
  | .tuple ds => some ds.length
  | _ => none
theorem rc_len {n : Nat} (h : lenD d = some n) : RCD K (rLen K) [d] (· = .int n) := by
  intro vs H H1 e r Q q
  cases r with
  | cons r rr =>
    cases rr
    refine ⟨_, n, rfl, ?_, q _ _ H H1 (Grow.refl e) (.int n) rfl⟩
    cases r with
    | non => cases h
    | bl b => cases h
    | int i => cases h
    | str x =>
      have h' : (if x.length ≤ 100000 then some x.length else none) = some n := h
      by_cases hx : x.length ≤ 100000
      · rw [if_pos hx] at h'
        cases h'
        exact ⟨sz_of hx, rfl⟩
      · rw [if_neg hx] at h'
        cases h'
    | lst h1 r1 =>
      cases h
      exact .inl ⟨_, ex_l e h1, r1.len.symm⟩
    | tup h1 r1 =>
      cases h
      exact .inr ⟨_, ex_t e h1, r1.len.symm⟩
    | dic _ _ => cases h
theorem rc_all {bs : List Bool} : RCD K (rAll K) [.list (bs.map .bool)] (· = .bool (bs.all id)) := by
  intro vs H H1 e r Q q
  cases r with
  | cons r rr =>
    cases rr
    cases r with
    | lst h1 r1 =>
      rw [r1.bools] at h1
      exact ⟨_, bs, rfl, ex_l e h1, q _ _ H H1 (Grow.refl e) (.bl _) rfl⟩
theorem rc_any {bs : List Bool} : RCD K (rAny K) [.list (bs.map .bool)] (· = .bool (bs.any id)) := by
  intro vs H H1 e r Q q
  cases r with
  | cons r rr =>
    cases rr
    cases r with
    | lst h1 r1 =>
      rw [r1.bools] at h1
      exact ⟨_, bs, rfl, ex_l e h1, q _ _ H H1 (Grow.refl e) (.bl _) rfl⟩
theorem rc_sum {ns : List Int} : RCD K (rSum K) [.list (ns.map .int)] (· = .int ns.sum) := by
  intro vs H H1 e r Q q
  cases r with
  | cons r rr =>
    cases rr
    cases r with
    | lst h1 r1 =>
      rw [r1.ints] at h1
      exact ⟨_, ns, rfl, ex_l e h1, q _ _ H H1 (Grow.refl e) (.int _) rfl⟩
/-- tuple(list) -/
def rTupOf (K : PySem.W.Frag) : List V → Hp → VK → Prop := fun xs H Q => ∃ p ys, xs = [.ref p] ∧ ((SqL K H p ys ∧ ∀ l, H l = none → Q (.ref l) (upd H l (.tup ys))) ∨ (SqT K H p ys ∧ Q (.ref p) H))
theorem rc_tuple {ds : List PyData} (h : d = .list ds ∨ d = .tuple ds) : RCD K (rTupOf K) [d] (· = .tuple ds) := by
  intro vs H H1 e r Q q
  cases r with
  | cons r rr =>
    cases rr
    rcases h with rfl | rfl
    · cases r with
      | lst h1 r1 => exact ⟨_, _, rfl, .inl ⟨ex_l e h1, fun l hl => q _ _ _ _ (Grow.new e hl _) (.tup (st_of upd_same) (r1.mono (Grow.new e hl _).known)) rfl⟩⟩
    · cases r with
      | tup h1 r1 => exact ⟨_, _, rfl, .inr ⟨ex_t e h1, q _ _ _ _ (Grow.refl e) (.tup h1 r1) rfl⟩⟩
/-- list(list), list(tuple) -/
def rLstOf (K : PySem.W.Frag) : List V → Hp → VK → Prop := fun xs H Q => ∃ p ys, xs = [.ref p] ∧ (SqL K H p ys ∨ SqT K H p ys) ∧ ∀ l, H l = none → Q (.ref l) (upd H l (.lst ys))
theorem rc_list {ds : List PyData} (h : d = .list ds ∨ d = .tuple ds) : RCD K (rLstOf K) [d] (· = .list ds) := by
  intro vs H H1 e r Q q
  cases r with
  | cons r rr =>
    cases rr
    rcases h with rfl | rfl
    · cases r with
      | lst h1 r1 => exact ⟨_, _, rfl, .inl (ex_l e h1), fun l hl => q _ _ _ _ (Grow.new e hl _) (.lst (sq_of upd_same) (r1.mono (Grow.new e hl _).known)) rfl⟩
    · cases r with
      | tup h1 r1 => exact ⟨_, _, rfl, .inr (ex_t e h1), fun l hl => q _ _ _ _ (Grow.new e hl _) (.lst (sq_of upd_same) (r1.mono (Grow.new e hl _).known)) rfl⟩
/-! subscripts, slices -/
theorem RpAll.atI {vs : List V} {ds : List PyData} {i : Int} (r : RpAll K H vs ds) (h : L2.atI ds i = some d) : ∃ v, L2.atI vs i = some v ∧ Rp K H v d := by
  unfold L2.atI at h ⊢
  rw [r.len]
  cases e : ixN ds.length i with
  | none => rw [e] at h; cases h
  | some j =>
    rw [e] at h
    exact r.get' (i := j) h
theorem rd_ixL {ds : List PyData} {i : Int} (h : L2.atI ds i = some d) : RD K (rIxL K) (.list ds) (.int i) (· = d) := by
  intro _ _ H H1 e r1 r2 Q q
  cases r2
  cases r1 with
  | lst h1 r1 =>
    obtain ⟨v, ev, rv⟩ := r1.atI h
    exact ⟨_, _, i, v, rfl, rfl, ex_l e h1, ev, q _ _ H H1 (Grow.refl e) rv rfl⟩
theorem rd_ixT {ds : List PyData} {i : Int} (h : L2.atI ds i = some d) : RD K (rIxT K) (.tuple ds) (.int i) (· = d) := by
  intro _ _ H H1 e r1 r2 Q q
  cases r2
  cases r1 with
  | tup h1 r1 =>
    obtain ⟨v, ev, rv⟩ := r1.atI h
    exact ⟨_, _, i, v, rfl, rfl, ex_t e h1, ev, q _ _ H H1 (Grow.refl e) rv rfl⟩
theorem rd_ix {ds : List PyData} {i : Int} (hd : d1 = .list ds ∨ d1 = .tuple ds) (h : L2.atI ds i = some d) : RD K (rIx K) d1 (.int i) (· = d) := by
  intro v1 v2 H H1 e r1 r2 Q q
  rcases hd with rfl | rfl
  · exact .inl (rd_ixL h v1 v2 H H1 e r1 r2 Q q)
  · exact .inr (.inl (rd_ixT h v1 v2 H H1 e r1 r2 Q q))
theorem rd_ixS {z : Str} {i : Int} {c : Nat} (hz : z.length ≤ 100000) (h : L2.atI z.cps.toList i = some c) : RD K (rIx K) (.str z) (.int i) (· = .str ⟨#[c]⟩) := by
  intro _ _ H H1 e r1 r2 Q q
  cases r1
  cases r2
  exact .inr (.inr ⟨z, i, c, rfl, rfl, sz_of hz, h, q _ _ H H1 (Grow.refl e) (.str _) rfl⟩)
def cutG {α : Type} (xs : List α) (lo hi : Option Int) : List α := (xs.drop (HT.sIx xs.length 0 lo)).take (HT.sIx xs.length xs.length hi - HT.sIx xs.length 0 lo)
theorem RpAll.cut {vs : List V} {ds : List PyData} (r : RpAll K H vs ds) (lo hi : Option Int) : RpAll K H (cutV vs lo hi) (cutG ds lo hi) := by
  unfold cutV cutG
  rw [r.len]
  exact (r.drop _).take _
theorem evd_slL {lo hi : TO} {l u : Option Int} {ds : List PyData} (h : EvD K te σ H (.list ds)) (h1 : EvO lo σ H l) (h2 : EvO hi σ H u) : EvD K (tSl (rSlL K) te lo hi) σ H (.list (cutG ds l u)) := by
  intro H1 e Q q
  refine h H1 e _ fun v _ Hk2 H2 g2 r2 p2 => ?_
  refine h1 H2 (e.trans g2.all) _ fun H3 e3 => ?_
  refine h2 H3 ((e.trans g2.all).trans e3) _ fun H4 e4 => ?_
  subst p2
  have g3 : Grow Hk2 H2 Hk2 H4 := ⟨Ex.refl _, g2.sub.trans (e3.trans e4), e3.trans e4, fun p o h n => by rw [h] at n; cases n⟩
  cases r2 with
  | @lst a xs _ g r =>
    refine ⟨_, _, rfl, ex_l g3.sub g, fun p hp => ?_⟩
    have g4 := Grow.new g3.sub hp (.lst (cutV xs l u))
    exact q _ _ _ _ ((g2.trans g3).trans g4) (.lst (sq_of upd_same) ((r.mono g4.known).cut l u)) rfl
theorem cutV_all (xs : List V) (lo hi : Option Int) (h : HT.sIx xs.length 0 lo = 0 ∧ HT.sIx xs.length xs.length hi = xs.length) : cutV xs lo hi = xs := by
  unfold cutV
  rw [h.1, h.2]
  simp
theorem evd_slT {lo hi : TO} {l u : Option Int} {ds : List PyData} (h : EvD K te σ H (.tuple ds)) (h1 : EvO lo σ H l) (h2 : EvO hi σ H u) : EvD K (tSl (rSlA K) te lo hi) σ H (.tuple (cutG ds l u)) := by
  intro H1 e Q q
  refine h H1 e _ fun v _ Hk2 H2 g2 r2 p2 => ?_
  refine h1 H2 (e.trans g2.all) _ fun H3 e3 => ?_
  refine h2 H3 ((e.trans g2.all).trans e3) _ fun H4 e4 => ?_
  subst p2
  have g3 : Grow Hk2 H2 Hk2 H4 := ⟨Ex.refl _, g2.sub.trans (e3.trans e4), e3.trans e4, fun p o h n => by rw [h] at n; cases n⟩
  cases r2 with
  | @tup a xs _ g r =>
    refine ⟨_, _, rfl, ex_t g3.sub g, fun hw => ?_, fun _ p hp => ?_⟩
    · refine q _ _ _ _ (g2.trans g3) (.tup g ?_) rfl
      have c := r.cut l u
      rw [cutV_all _ l u hw] at c
      exact c
    · have g4 := Grow.new g3.sub hp (.tup (cutV xs l u))
      exact q _ _ _ _ ((g2.trans g3).trans g4) (.tup (st_of upd_same) ((r.mono g4.known).cut l u)) rfl
end
/-! ### comparisons, membership -/
section
variable {σ : L2.St} {ta tb tc te : TE} {tt tu : TT} {P P1 P2 : PyData → Prop} {d d1 d2 : PyData} {r r' : R2}
theorem rd_eqD (h1 : SeqAt.shaped d1 = true) (h2 : SeqAt.shaped d2 = true) : RD K (rEqD K) d1 d2 (· = .bool (PyData.eqv d1 d2)) := fun v1 v2 H H1 e r1 r2 Q q =>
  ⟨d1, d2, (r1.mono e).dp (SeqAt.canLay_of_shaped h1), (r2.mono e).dp (SeqAt.canLay_of_shaped h2), h1, h2, q _ _ H H1 (Grow.refl e) (.bl _) rfl⟩
theorem rd_neD (h1 : SeqAt.shaped d1 = true) (h2 : SeqAt.shaped d2 = true) : RD K (rNeD K) d1 d2 (· = .bool (!PyData.eqv d1 d2)) := fun v1 v2 H H1 e r1 r2 Q q =>
  ⟨d1, d2, (r1.mono e).dp (SeqAt.canLay_of_shaped h1), (r2.mono e).dp (SeqAt.canLay_of_shaped h2), h1, h2, q _ _ H H1 (Grow.refl e) (.bl _) rfl⟩
def rLtS : R2 := fun x y H Q => ∃ i j, x = .str i ∧ y = .str j ∧ Q (.bl (decide (i.cps.toList < j.cps.toList))) H
theorem rd_ltS {i j : Str} : RD K rLtS (.str i) (.str j) (· = .bool (decide (i.cps.toList < j.cps.toList))) := fun v1 v2 H H1 e r1 r2 Q q => by
  cases r1; cases r2; exact ⟨i, j, rfl, rfl, q _ _ H H1 (Grow.refl e) (.bl _) rfl⟩
theorem rd_inS {c : Nat} {z : Str} : RD K rInS (.str ⟨#[c]⟩) (.str z) (· = .bool (decide (c ∈ z.cps.toList))) := fun v1 v2 H H1 e r1 r2 Q q => by
  cases r1; cases r2; exact ⟨c, z, rfl, rfl, q _ _ H H1 (Grow.refl e) (.bl _) rfl⟩
def isNon : PyData → Bool
  | .none => true
  | _ => false
theorem rd_isN : RD K rIsN d1 .none (· = .bool (isNon d1)) := fun v1 v2 H H1 e r1 r2 Q q => by
  cases r2
  refine ⟨rfl, ?_⟩
  cases r1 <;> exact q _ _ H H1 (Grow.refl e) (.bl _) rfl
theorem rd_notN : RD K rNotN d1 .none (· = .bool (!isNon d1)) := fun v1 v2 H H1 e r1 r2 Q q => by
  cases r2
  refine ⟨rfl, ?_⟩
  cases r1 <;> exact q _ _ H H1 (Grow.refl e) (.bl _) rfl
end

/-! ### list comprehensions -/
/-- one turn of a comprehension's block: x is bound, the test asked, the element made -/
def Turn1 (K : PySem.W.Frag) (g : TG) (tt : TT) (te : TE) (vs : List Nat) (σ : L2.St) (x : V) (H : Hp) (b : Bool) (P : PyData → Prop) : Prop :=
  ∀ H1, Ex H H1 → ∀ R : St → Hp → Prop, (∀ σ2, wipe σ2 vs = wipe σ vs → EvT1 tt σ2 H b → (b = true → EvP K te σ2 H P) → R σ2 H1) → g x (wipe σ vs) H1 R
theorem turn_name {i : Nat} {tt : TT} {te : TE} {vs : List Nat} {σ : L2.St} {x : V} {b : Bool} {P : PyData → Prop} (hw : wipe ((wipe σ vs).set i (some x)) vs = wipe σ vs)
    (ht : EvT1 tt ((wipe σ vs).set i (some x)) H b) (he : b = true → EvP K te ((wipe σ vs).set i (some x)) H P) : Turn1 K (gName i) tt te vs σ x H b P :=
  fun H1 e R k => k _ hw ht he
/-- a, b bound to a pair's two items -/
theorem turn_pair {i j : Nat} {tt : TT} {te : TE} {vs : List Nat} {σ : L2.St} {a : Addr} {x y : V} {b : Bool} {P : PyData → Prop} (hp : SqT K H a [x, y])
    (hw : wipe (((wipe σ vs).set i (some x)).set j (some y)) vs = wipe σ vs)
    (ht : EvT1 tt (((wipe σ vs).set i (some x)).set j (some y)) H b) (he : b = true → EvP K te (((wipe σ vs).set i (some x)).set j (some y)) H P) :
    Turn1 K (gTup K 2 (gCons (gName i) (gCons (gName j) gNil))) tt te vs σ (.ref a) H b P :=
  fun H1 e R k => ⟨a, [x, y], rfl, ex_t e hp, rfl, x, [y], rfl, y, [], rfl, rfl, k _ hw ht he⟩
section
variable {σ : L2.St} {g : TG} {tt : TT} {te : TE} {vs : List Nat}
/-- wi, from what is known in H, gives a walk of n turns; at each turn the datum is known in a bigger heap -/
def WalkD (K : PySem.W.Frag) (wi : TI) (σ : L2.St) (H : Hp) (n : Nat) (T : Nat → V → Hp → Prop) : Prop :=
  ∀ H1, Ex H H1 → ∀ R : It → Hp → Prop, (∀ J G Y Hk H2, Grow H H1 Hk H2 → Walk J n G Y → (∀ H3, Ex Hk H3 → G H3) →
      (∀ i x Hm H3 H4, i < n → Ex Hk Hm → Ex Hm H3 → Y i H3 x H4 → ∃ Hm', Grow Hm H3 Hm' H4 ∧ T i x Hm') → R J H2) → wi σ H1 R
theorem evp_lcW {wi : TI} {n : Nat} {T : Nat → V → Hp → Prop} {b : Nat → Bool} {P : Nat → PyData → Prop} (hi : WalkD K wi σ H n T)
    (ht : ∀ i x Hm, i < n → Ex H Hm → T i x Hm → Turn1 K g tt te vs σ x Hm (b i) (P i)) (hn : n ≤ 100000) :
    EvP K (tLc wi g tt te vs) σ H (fun d => ∃ f : Nat → PyData, d = .list (((List.range n).filter b).map f) ∧ ∀ i, i < n → b i = true → P i (f i)) := by
  intro H1 e Q q
  refine hi H1 e _ fun J G Y Hk H2 g2 w g0 hy => ?_
  intro D hD
  have hDk : Hk D = none := ex_none g2.sub hD
  refine lc_it w (fun i H' => ∃ Hm xs, Ex Hk Hm ∧ Ex Hm H' ∧ Ex H2 H' ∧ Hm D = none ∧ (∀ p o, Hm p = some o → Hk p = none → H2 p = none) ∧ H' D = some (.lst xs) ∧ ∃ f : Nat → PyData, RpAll K Hm xs (((List.range i).filter b).map f) ∧ ∀ j, j < i → b j = true → P j (f j)) ?_ ?_ ?_ ?_
  · exact ⟨Hk, [], Ex.refl _, g2.sub.trans (Ex.new hD), Ex.new hD, hDk, (fun p o h n => by rw [h] at n; cases n), upd_same, fun _ => .none, .nil, fun j hj => absurd hj (Nat.not_lt_zero j)⟩
  · rintro i H' _ ⟨Hm, xs, e1, e2, _⟩
    exact g0 H' (e1.trans e2)
  · rintro i x H3 H4 hlt ⟨Hm, xs, em, e3, e23, hm, hf, hx, f, r, hP⟩ y
    obtain ⟨Hm', g34, tx⟩ := hy i x Hm H3 H4 hlt em e3 y
    refine ht i x Hm' hlt ((g2.known.trans em).trans g34.known) tx H4 g34.sub _ fun σ2 hw ht he => ⟨hw, ?_⟩
    refine ht H4 g34.sub _ fun c Hm5 H5 g5 hc => ?_
    subst hc
    have g35 := g34.trans g5
    have hx5 : H5 D = some (.lst xs) := g35.all _ _ hx
    have hm5 : Hm5 D = none := g35.unk hm hx
    have hf5 : ∀ p o, Hm5 p = some o → Hk p = none → H2 p = none := fun p o h n => by
      cases z : Hm p with
      | some u => exact hf p u z n
      | none => exact ex_none e23 (g35.fresh p o h z)
    cases hb : b i with
    | false =>
      rw [if_neg Bool.false_ne_true]
      refine ⟨Hm5, xs, em.trans g35.known, g35.sub, e23.trans g35.all, hm5, hf5, hx5, f, ?_, fun j hj hbj => ?_⟩
      · rw [List.range_succ, List.filter_append, List.filter_cons_of_neg (by rw [hb]; exact Bool.false_ne_true), List.filter_nil, List.append_nil]
        exact r.mono g35.known
      · by_cases hji : j = i
        · subst hji; rw [hb] at hbj; cases hbj
        · exact hP j (by omega) hbj
    | true =>
      rw [if_pos rfl]
      refine (he hb).mono g5.known H5 g5.sub _ fun v d Hm7 H7 g7 r7 p7 => ?_
      have g37 := g35.trans g7
      have hx7 : H7 D = some (.lst xs) := g37.all _ _ hx
      have hm7 : Hm7 D = none := g37.unk hm hx
      refine ⟨xs, hx7, ?_, ?_⟩
      · have hl : xs.length = (((List.range i).filter b).map f).length := r.len
        have h2 : (((List.range i).filter b).map f).length ≤ i := by
          rw [List.length_map]
          exact Nat.le_trans (List.length_filter_le _ _) (by rw [List.length_range]; exact Nat.le_refl i)
        exact sz_lt (by omega)
      · refine ⟨Hm7, xs ++ [v], em.trans g37.known, g37.sub.mut hm7, (e23.trans g37.all).mut hD, hm7, fun p o h n => ?_, upd_same, fun j => if j = i then d else f j, ?_, fun j hj hbj => ?_⟩
        · cases z : Hm5 p with
          | some u => exact hf5 p u z n
          | none => exact ex_none (e23.trans g35.all) (g7.fresh p o h z)
        · rw [List.range_succ, List.filter_append, List.map_append, List.filter_cons_of_pos hb, List.filter_nil]
          refine RpAll.append ?_ ?_
          · have em : ((List.range i).filter b).map (fun j => if j = i then d else f j) = ((List.range i).filter b).map f := List.map_congr_left fun j hj => by
              have : j < i := List.mem_range.mp (List.mem_filter.mp hj).1
              rw [if_neg (by omega)]
            rw [em]
            exact r.mono g37.known
          · show RpAll K Hm7 [v] [if i = i then d else f i]
            rw [if_pos rfl]
            exact .cons r7 .nil
        · by_cases hji : j = i
          · subst hji
            show P j (if j = j then d else f j)
            rw [if_pos rfl]
            exact p7
          · show P j (if j = i then d else f j)
            rw [if_neg hji]
            exact hP j (by omega) hbj
  · rintro H' ⟨Hm, xs, em, e3, e23, hm, hf, hx, f, r, hP⟩
    have gk : Grow Hk H2 (upd Hm D (.lst xs)) H' := ⟨em.trans (Ex.new hm), fun a u h => by
        by_cases ha : a = D
        · subst ha; rw [upd_same] at h; cases h; exact hx
        · rw [upd_ne ha] at h; exact e3 a u h, e23, fun p o h n => by
        by_cases hp : p = D
        · subst hp; exact hD
        · rw [upd_ne hp] at h; exact hf p o h n⟩
    exact q _ _ _ _ (g2.trans gk) (.lst (sq_of upd_same) (r.mono (Ex.new hm))) ⟨f, rfl, hP⟩
end

/-! walks -/
section
variable {σ : L2.St} {te : TE}
def TAt (K : PySem.W.Frag) (ds : List PyData) (i : Nat) (x : V) (H : Hp) : Prop := ∃ d, ds[i]? = some d ∧ Rp K H x d
theorem walkd_list {ds : List PyData} (h : EvD K te σ H (.list ds)) : WalkD K (iList K te) σ H ds.length (TAt K ds) := by
  intro H1 e R k
  refine h H1 e _ fun v _ Hk H2 g2 r2 p2 => ?_
  subst p2
  cases r2 with
  | @lst a xs _ g r =>
    refine ⟨a, rfl, ⟨xs, ex_l g2.sub g⟩, ?_⟩
    refine k _ _ _ Hk H2 g2 (by have w := walk_list (K := K) (a := a) (xs := xs); rw [r.len] at w; exact w) (fun H3 e3 => ex_l e3 g) ?_
    rintro i x Hm H3 H4 hi em e3 ⟨rfl, hx⟩
    obtain ⟨d, hd, rd⟩ := r.get hx
    exact ⟨Hm, Grow.refl e3, d, hd, rd.mono em⟩
theorem walkd_tup {ds : List PyData} (h : EvD K te σ H (.tuple ds)) : WalkD K (iTup K te) σ H ds.length (TAt K ds) := by
  intro H1 e R k
  refine h H1 e _ fun v _ Hk H2 g2 r2 p2 => ?_
  subst p2
  cases r2 with
  | @tup a xs _ g r =>
    refine ⟨a, rfl, ⟨xs, ex_t g2.sub g⟩, ?_⟩
    refine k _ _ _ Hk H2 g2 (by have w := walk_tup (K := K) (a := a) (xs := xs); rw [r.len] at w; exact w) (fun H3 e3 => ex_t e3 g) ?_
    rintro i x Hm H3 H4 hi em e3 ⟨rfl, hx⟩
    obtain ⟨d, hd, rd⟩ := r.get hx
    exact ⟨Hm, Grow.refl e3, d, hd, rd.mono em⟩
theorem walkd_str {z : Str} (h : EvD K te σ H (.str z)) : WalkD K (iStr te) σ H z.cps.size (fun i x _ => ∃ c, z.cps[i]? = some c ∧ x = .str ⟨#[c]⟩) := by
  intro H1 e R k
  refine h H1 e _ fun v _ Hk H2 g2 r2 p2 => ?_
  subst p2
  cases r2
  refine ⟨z, rfl, ?_⟩
  refine k _ _ _ Hk H2 g2 walk_str (fun H3 e3 => trivial) ?_
  rintro i x Hm H3 H4 hi em e3 ⟨rfl, hx⟩
  exact ⟨Hm, Grow.refl e3, hx⟩
theorem walkd_range {ta : TA} {j : Int} (h : EvA1 K ta σ H [.int j]) (hj : -(2 ^ 62) ≤ j ∧ j < 2 ^ 62) : WalkD K (iRng1 ta) σ H j.toNat (fun i x _ => x = .int i) := by
  intro H1 e R k
  refine h H1 e _ fun vs _ Hk H2 g2 r2 p2 => ?_
  subst p2
  cases r2 with
  | cons r rr =>
    cases r
    cases rr
    refine ⟨j, rfl, hj.1, hj.2, ?_⟩
    refine k _ _ _ Hk H2 g2 walk_range (fun H3 e3 => trivial) ?_
    rintro i x Hm H3 H4 hi em e3 ⟨rfl, hx⟩
    exact ⟨Hm, Grow.refl e3, by rw [hx]; simp⟩
theorem walk_zipT {a b : Addr} {xs ys : List V} {n : Nat} (hn : n = min xs.length ys.length) : Walk (RZ.ItzT K a b) n (fun H => SqT K H a xs ∧ SqT K H b ys) (YPair (fun i => xs[i]?) (fun i => ys[i]?)) := by
  subst hn
  refine ⟨fun i _ hi q => ?_, fun _ q => ⟨xs, ys, q.1, q.2, by omega⟩, fun i H v H' _ q y => ?_⟩
  · have h1 : i < xs.length := by omega
    have h2 : i < ys.length := by omega
    exact ⟨xs, ys, xs[i], ys[i], q.1, q.2, by simp [h1], by simp [h2]⟩
  · obtain ⟨T, x, z, h1, h2, h3, h4, h5⟩ := y
    exact ⟨T, x, z, h1, h2, h3, h4 xs q.1, h5 ys q.2⟩
def TPair (K : PySem.W.Frag) (ds es : List PyData) (i : Nat) (v : V) (H : Hp) : Prop := ∃ T x y d e, v = .ref T ∧ SqT K H T [x, y] ∧ ds[i]? = some d ∧ es[i]? = some e ∧ Rp K H x d ∧ Rp K H y e
theorem walkd_zip {ta : TA} {d e : PyData} {ds es : List PyData} (h : EvA1 K ta σ H [d, e]) (hd : (d = .list ds ∧ e = .list es) ∨ (d = .tuple ds ∧ e = .tuple es)) :
    WalkD K (RZ.iZipA K ta) σ H (min ds.length es.length) (TPair K ds es) := by
  intro H1 e1 R k
  refine h H1 e1 _ fun vs _ Hk H2 g2 r2 p2 => ?_
  subst p2
  cases r2 with
  | cons ra rr =>
    cases rr with
    | cons rb rr =>
      cases rr
      rcases hd with ⟨rfl, rfl⟩ | ⟨rfl, rfl⟩
      · cases ra with
        | @lst a xs _ ga ra =>
          cases rb with
          | @lst b ys _ gb rb =>
            refine ⟨a, b, xs, ys, rfl, .inl ⟨ex_l g2.sub ga, ex_l g2.sub gb, ?_⟩⟩
            refine k _ _ _ Hk H2 g2 (walk_zip (by rw [ra.len, rb.len])) (fun H3 e3 => ⟨ex_l e3 ga, ex_l e3 gb⟩) ?_
            rintro i x Hm H3 H4 hi em e3 ⟨T, x, y, rfl, nT, rfl, hx, hy⟩
            obtain ⟨d', hd', rd⟩ := ra.get hx
            obtain ⟨e', he', re⟩ := rb.get hy
            have g4 := Grow.new e3 nT (.tup [x, y])
            exact ⟨_, g4, T, x, y, d', e', rfl, st_of upd_same, hd', he', rd.mono (em.trans g4.known), re.mono (em.trans g4.known)⟩
      · cases ra with
        | @tup a xs _ ga ra =>
          cases rb with
          | @tup b ys _ gb rb =>
            refine ⟨a, b, xs, ys, rfl, .inr ⟨ex_t g2.sub ga, ex_t g2.sub gb, ?_⟩⟩
            refine k _ _ _ Hk H2 g2 (walk_zipT (by rw [ra.len, rb.len])) (fun H3 e3 => ⟨ex_t e3 ga, ex_t e3 gb⟩) ?_
            rintro i x Hm H3 H4 hi em e3 ⟨T, x, y, rfl, nT, rfl, hx, hy⟩
            obtain ⟨d', hd', rd⟩ := ra.get hx
            obtain ⟨e', he', re⟩ := rb.get hy
            have g4 := Grow.new e3 nT (.tup [x, y])
            exact ⟨_, g4, T, x, y, d', e', rfl, st_of upd_same, hd', he', rd.mono (em.trans g4.known), re.mono (em.trans g4.known)⟩
end

/-! ### promises of defs over data -/
/-- from data ds with pre, some datum of post comes back; what is known stays -/
def spD (K : PySem.W.Frag) (pre : List PyData → Prop) (post : List PyData → PyData → Prop) : Sp := fun vs H1 Q _ => ∃ H ds, Ex H H1 ∧ RpAll K H vs ds ∧ pre ds ∧
  ∀ v d Hk H2, Grow H H1 Hk H2 → Rp K Hk v d → post ds d → Q v H2
theorem evp_call {σ : L2.St} {H : Hp} {ta : TA} {pre : List PyData → Prop} {post : List PyData → PyData → Prop} {P : List PyData → Prop} {R : PyData → Prop} {E : XK} (h : EvAs K ta σ H P) (hp : ∀ ds, P ds → pre ds) (hq : ∀ ds d, P ds → post ds d → R d) :
    EvP K (tCall (spD K pre post) [] E ta) σ H R := fun H1 e Q q => h H1 e _ fun vs ds Hk H2 g2 r2 p2 => by
  show spD K pre post (vs ++ []) H2 Q E
  rw [List.append_nil]
  exact ⟨Hk, ds, g2.sub, r2, hp ds p2, fun v d Hk3 H3 g3 r3 p3 => q v d Hk3 H3 (g2.trans g3) r3 (hq ds d p2 p3)⟩
theorem evd_call {σ : L2.St} {H : Hp} {ta : TA} {pre : List PyData → Prop} {post : List PyData → PyData → Prop} {ds : List PyData} {E : XK} (h : EvA1 K ta σ H ds) (hp : pre ds) : EvP K (tCall (spD K pre post) [] E ta) σ H (post ds) :=
  evp_call h (fun _ e => by subst e; exact hp) fun _ _ e p => by subst e; exact p
end DL
/-! defs that may lean on «no repr is under way»: FnG; repr of data -/
namespace DL
open PySem PySem.Spec PyProof.Rows L2 Evl

/-- as FnOk, where no guarded call is under way -/
structure FnG (P : Program) (w : World) (K : PySem.W.Frag) (mg : Str → Option Value) (base : Heap)
    (CX : CXT) (k : Nat) (f : Addr) (fd : FuncData) (ps : List Str) (sp : Sp) : Prop where
  many : ∀ vs H Q E, sp vs H Q E → vs.length = ps.length
  go : ∀ (A : Around) (outer : List Env) (s : Shared) (H : Hp) (args : Args) (us : List Value) (vs : List V) (Q : VK) (E : XK),
    A.guards = some [] → Room k A → Env0 P w K mg base A outer s H → BindsTo s fd args (ps.zip us) → Vals vs us → sp vs H Q E →
    codeAny (model P w) A (.call (.ref f) args) (CR CX outer P w H s Q E) s
section
variable {P : Program} {w : World} {K : PySem.W.Frag} {mg : Str → Option Value} {base : Heap} {CX : CXT}
theorem FnG.of {k : Nat} {f : Addr} {fd : FuncData} {ps : List Str} {sp : Sp} (F : FnOk P w K mg base CX k f fd ps sp) : FnG P w K mg base CX k f fd ps sp :=
  ⟨F.len, fun A outer s H args us vs Q E _ hr he hb hv hs => F.run A outer s H args us vs Q E hr he hb hv hs⟩
/-- a body whose frame knows that nothing guarded is under way -/
theorem fnG_body {k : Nat} {f : Addr} {nm ql : Str} {pm : Arguments} {bd : List Stmt} {sc : Scope} {dV kV doc pmv cdv ct oc : Value} {an od : Option Addr}
    {osl : Array (Option Value)} {N ps : List Str} {sp : Sp}
    (lk : K.lookup f = some ⟨oc, od, .func (PySem.W.fnOf nm ql pm bd sc dV kV doc pmv an cdv ct), osl⟩)
    (cdk : PySem.W.codeIn K cdv ql = true) (S : FnScope N ps sc)
    (many : ∀ vs H Q E, sp vs H Q E → vs.length = ps.length)
    (body : ∀ (A : Around) (outer : List Env) (s : Shared) (H : Hp) (vs : List V) (Q : VK) (E : XK),
      (A.deeper (envOfC ql sc s.heap.objs.size f cdv)).guards = some [] →
      Room k (A.deeper (envOfC ql sc s.heap.objs.size f cdv)) → sp vs H Q E →
      ∃ t, PSs (cxOf CX P w K mg base N ql sc f cdv A outer s H E) bd t ∧ t { nx := fun _ H' => Q .non H', rt := Q } (start N vs) H) :
    FnG P w K mg base CX (k + 1) f (PySem.W.fnOf nm ql pm bd sc dV kV doc pmv an cdv ct) ps sp := by
  refine ⟨many, fun A outer s H args us vs Q E hgd hr en hb rv hsp => ?_⟩
  have kin : K.In s.heap := en.mod.kin.keeps fun b o e => (en.bs b o e).1
  have nol : s.heap.NoLimit := en.mod.nolimit.keeps fun b o e => (en.bs b o e).1
  have kinds : ∀ y ∈ ps.zip us, sc.names.lookup y.1 = some .local ∨
      (sc.names.lookup y.1 = some .cell ∧ ((cellsFrom (s.heap.objs.size + 1) sc.names []).lookup y.1).isSome = true) := by
    rintro ⟨n, v⟩ hy
    cases S.par n (List.of_mem_zip hy).1 with
    | inl q => exact .inl q
    | inr q => exact .inr ⟨q, PySem.W.cellsFrom_some _ _ _ (.inl q)⟩
  refine codeAny_call_function hr.depth (kin _ _ lk) rfl S.co S.gen rfl (PySem.W.codeRec_of kin cdk) (hb _ _ _ _ ?_)
  refine wpAny_newFunctionEnv_cells S.kind kinds fun env he s1 x => ?_
  subst he
  refine ⟨nol.keeps x.toInCall.keep, codeAny_func ?_⟩
  obtain ⟨t, ht, hq⟩ := body A outer s H vs Q E hgd (hr.deeper _) hsp
  have J0 := inv_start (CX := CX) (E := E) (H := H) (mg := mg) (base := base) S hr.hd en (many _ _ _ _ hsp) rv x
  refine wpAny_mono (ht.run [] s1 (start N vs) H _ J0 hq) ?_ fun e s' hs => hs
  intro fl s' hs
  cases fl with
  | next =>
    obtain ⟨σ', H', J, q⟩ := hs
    exact ⟨V.non, H', J.os, J.bare, J.base, J.hok, rfl, q⟩
  | ret u =>
    obtain ⟨v, σ', H', J, r', q⟩ := hs
    exact ⟨v, H', J.os, J.bare, J.base, J.hok, r', q⟩
  | brk =>
    obtain ⟨_, _, _, q⟩ := hs
    exact q.elim
  | cont =>
    obtain ⟨_, _, _, q⟩ := hs
    exact q.elim
theorem Fun.okG {x qual : Str} {st : Stmt} {f : Addr} {fd : FuncData} {N ps : List Str} {k : Nat} {sp : Sp} (F : Fun K x qual st f fd) (S : FnScope N ps (defScope st))
    (many : ∀ vs H Q E, sp vs H Q E → vs.length = ps.length)
    (body : ∀ (cdv : Value) (A : Around) (outer : List Env) (s : Shared) (H : Hp) (vs : List V) (Q : VK) (E : XK),
      (A.deeper (envOfC qual (defScope st) s.heap.objs.size f cdv)).guards = some [] →
      Room k (A.deeper (envOfC qual (defScope st) s.heap.objs.size f cdv)) → sp vs H Q E →
      ∃ t, PSs (cxOf CX0 P w K mg base N qual (defScope st) f cdv A outer s H E).nox (defBody st) t ∧ t { nx := fun _ H' => Q .non H', rt := Q } (start N vs) H) :
    FnG P w K mg base CX0 (k + 1) f fd ps sp := by
  obtain ⟨oc, od, kV, doc, pm, an, cdv, ct, osl, rfl, lk, hcd⟩ := F.ex
  refine fnG_body lk hcd S many fun A outer s H vs Q E hgd hr hsp => ?_
  obtain ⟨t, h, q⟩ := body cdv A outer s H vs Q E hgd hr hsp
  exact ⟨t, h.nox, q⟩
end
section
variable {X : Cx} {CX : CXT} {k : Nat} {f : Addr} {fd : FuncData} {ps : List Str} {sp : Sp} {dvs : List V} {ds : List Value} {E : XK} {x : Str} {p pos : Pos} {e : Expr} {es : List Expr} {t : TA}
theorem runG {pins : List (Addr × Obj)} {σ : L2.St} {H : Hp} {s : Shared} {Q : VK} {us : List Value} {vs : List V}
    (F : FnG X.prog X.w X.K X.mg X.base CX k f fd ps sp) (hgd : X.A.guards = some []) (hr : Room k X.A) (hb : Binds X.K fd ps ds) (hd : Vals dvs ds) (hx : Passes CX X E)
    (I : Inv X pins σ H s) (r : Vals vs us) (h : sp (vs ++ dvs) H Q E) : wpAny (model X.prog X.w) X.A (call (.ref f) us) (EP X pins σ Q) X.xe s := by
  have rv : Vals (vs ++ dvs) (us ++ ds) := r.append hd
  have many : (us ++ ds).length = ps.length := rv.length.symm.trans (F.many _ _ _ _ h)
  refine wpAny_call (codeAny_mono (F.go X.A X.stack s H ⟨us, []⟩ (us ++ ds) (vs ++ dvs) Q E hgd hr I.env0 (hb s us I.kIn many) rv h) ?_)
  intro res s' hq
  match res, hq with
  | .error e, hq => exact hx pins σ H s e s' I hq
  | .ok (.ret u), hq => exact I.after hq
theorem pe_callG (F : FnG X.prog X.w X.K X.mg X.base CX k f fd ps sp) (hgd : X.A.guards = some []) (hr : Room k X.A) (hg : Gl X x) (hm : X.mg x = some (.ref f))
    (hk : PySem.W.keepIn X.K (.ref f) = true) (hb : Binds X.K fd ps ds) (hd : Vals dvs ds) (hx : Passes CX X E) (ha : PA X (e :: es) t)
    (hdb : (x == ("__debug__" : Str)) = false := by decide) (he : starEach (e :: es) X.env = (false, eval e X.env) :: starEach es X.env := by rfl)
    (hpl : (backTo pos (starEach es X.env)).any (·.1) = false := by rfl) : PE X (.Call (.Name x p) (e :: es) [] pos) (tCall sp dvs E t) := by
  constructor
  intro pins s σ H Q I h
  refine wpAny_Call_Name_kw (ld_glob I hg hm ?_ hdb)
  refine PySem.W.callWith_K (h₀ := X.base) I.ok.mod.kin hk (thn (ha.run pos pins s σ H _ I h) ?_) he hpl
  rintro us s1 ⟨vs, H1, I1, r, q⟩
  exact ⟨I1.kIn, runG F hgd hr hb hd hx I1 r q⟩
theorem pe_callG0 (F : FnG X.prog X.w X.K X.mg X.base CX k f fd ps sp) (hgd : X.A.guards = some []) (hr : Room k X.A) (hg : Gl X x) (hm : X.mg x = some (.ref f))
    (hk : PySem.W.keepIn X.K (.ref f) = true) (hb : Binds X.K fd ps ds) (hd : Vals dvs ds) (hx : Passes CX X E)
    (hdb : (x == ("__debug__" : Str)) = false := by decide) : PE X (.Call (.Name x p) [] [] pos) (tCall sp dvs E tNil) := by
  constructor
  intro pins s σ H Q I h
  refine wpAny_Call_Name_kw (ld_glob I hg hm ?_ hdb)
  exact PySem.W.callWith_K0 I.kIn hk (runG (us := []) F hgd hr hb hd hx I .nil h)
end

/-! the law itself: its call's frame has nothing guarded below -/
theorem lawG_from {P : Program} {w : World} {K : PySem.W.Frag} {mg mb : Str → Option Value} {k : Nat} {fa a : Addr} {fd : FuncData} {x : Str} {sp : Sp} {s1 : Shared} {vs : List Value} {H : Hp}
    (KX : K.In s1.heap) (gl : s1.heap.Ns mainGlobals mg) (bl : s1.heap.Ns builtinsNs mb) (bb : ∀ x : Str, x ≠ "__name__" → mb x = bootBuiltins x) (nol : s1.heap.NoLimit) (ge : s1.gens = #[])
    (ha : s1.heap.get? a = some { cls := .type "list", data := .seq vs.toArray }) (hr : Room k callerA)
    (F : ∀ base : Heap, K.In base → base.Ns mainGlobals mg → FnG P w K mg base CX0 k fa fd [x] sp) (hb : ∀ (s : Shared) (u : Value), BindsTo s fd ⟨[u], []⟩ [(x, u)])
    (hO : Only H) (ok : HOk P w H s1.heap) (at1 : ∀ b, H b ≠ none → b = a) (at2 : H a ≠ none → K.lookup a = none)
    (hs : sp [.ref a] H (fun v _ => v = .bl true) fun _ _ _ => False) :
    codeAny (model P w) callerA (.call (.ref fa) ⟨[.ref a], []⟩) (fun r s' => r = .ok (.ret (.bool true)) ∧ OldK s1.heap s'.heap ∧ s'.os = s1.os ∧ AllBare s'.gens) s1 := by
  have no1 : ∀ {b : Addr} {u : HO}, H b = some u → b = a := fun {b u} q => at1 b (by rw [q]; exact fun z => nomatch z)
  have keepNs : ∀ {b : Addr} {m : Str → Option Value}, s1.heap.Ns b m → (hidT s1.heap H).Ns b m := by
    rintro b m ⟨o, es, ep, e, d, r⟩
    refine ⟨o, es, ep, hidT_get e ?_, d, r⟩
    cases q : H b with
    | none => rfl
    | some u =>
      obtain rfl := no1 q
      rw [ha] at e
      cases e
      exact nomatch (show Data.seq vs.toArray _ = Data.dict es ep from d)
  have keepK : K.In (hidT s1.heap H) := by
    intro b o e
    refine hidT_get (KX b o e) ?_
    cases q : H b with
    | none => rfl
    | some u =>
      obtain rfl := no1 q
      rw [at2 (by rw [q]; exact fun z => nomatch z)] at e
      cases e
  have md : Mod K mg (hidT s1.heap H) := by
    obtain ⟨mc, n1, n2⟩ := nol
    exact ⟨keepK, keepNs gl, ⟨mb, keepNs bl, bb⟩, ⟨mc, keepNs n1, n2⟩⟩
  have en : Env0 P w K mg (hidT s1.heap H) callerA [] s1 H :=
    ⟨rfl, md, fun b o e => of_hidT e, Nat.le_of_eq (hidT_size _ _), trivial, (fun b hb => absurd (show b ∈ ([] : List Addr) from hb) (List.not_mem_nil)), ok, AllBare.of_eq ge⟩
  refine codeAny_mono ((F _ keepK (keepNs gl)).go callerA [] s1 H ⟨[.ref a], []⟩ [.ref a] [.ref a] _ _ rfl hr en (hb s1 (.ref a)) (.cons rfl .nil) hs) ?_
  intro res s' h
  match res, h with
  | .error e, h => exact h.elim
  | .ok (.ret u), h =>
    obtain ⟨v, H', os, bare, un, ok', r', q⟩ := h
    obtain rfl : v = V.bl true := q
    obtain rfl : u = Value.bool true := r'
    refine ⟨rfl, OldK.of_keep ?_, os, bare⟩
    intro b o e
    cases q : H b with
    | none => exact un.keep b o e q (fun z => absurd (show b ∈ ([] : List Addr) from z) (List.not_mem_nil)) (List.not_mem_nil)
    | some u =>
      cases hO b with
      | inl z => rw [q] at z; cases z
      | inr z =>
        obtain ⟨ob, xs, z⟩ := z
        have e1 := (ok b _ z).1
        have e2 := (ok' b _ (un.frzs b ob _ z)).1
        rw [e] at e1
        cases e1
        exact e2
theorem lawG {P : Program} {w : World} {K : PySem.W.Frag} {mg mb : Str → Option Value} {k : Nat} {fa a : Addr} {fd : FuncData} {x : Str} {sp : Sp} {s1 : Shared} {vs : List Value} {ns : List Int}
    (KX : K.In s1.heap) (gl : s1.heap.Ns mainGlobals mg) (bl : s1.heap.Ns builtinsNs mb) (bb : ∀ x : Str, x ≠ "__name__" → mb x = bootBuiltins x) (nol : s1.heap.NoLimit) (ge : s1.gens = #[])
    (ha : s1.heap.get? a = some { cls := .type "list", data := .seq vs.toArray }) (hi : IntsAre vs ns) (hl : ns.length ≤ sizeLine) (hr : Room k callerA)
    (F : ∀ base : Heap, K.In base → base.Ns mainGlobals mg → FnG P w K mg base CX0 k fa fd [x] sp) (hb : ∀ (s : Shared) (u : Value), BindsTo s fd ⟨[u], []⟩ [(x, u)])
    (hs : ∀ H : Hp, Only H → SqL K H a (ns.map V.int) → sp [.ref a] H (fun v _ => v = .bl true) fun _ _ _ => False) :
    codeAny (model P w) callerA (.call (.ref fa) ⟨[.ref a], []⟩) (fun r s' => r = .ok (.ret (.bool true)) ∧ OldK s1.heap s'.heap ∧ s'.os = s1.os ∧ AllBare s'.gens) s1 := by
  cases hk : K.lookup a with
  | some o =>
    have e := KX a o hk
    rw [ha] at e
    cases e
    refine lawG_from (H := fun _ => none) KX gl bl bb nol ge ha hr F hb (fun _ => .inl rfl) (fun b u z => by cases (show (none : Option HO) = some u from z)) (fun b z => absurd rfl z) (fun z => absurd rfl z) (hs _ (fun _ => .inl rfl) ?_)
    exact .inr ⟨_, vs.toArray, _, hk, rfl, rfl, rfl, by rw [List.size_toArray, hi.length]; exact hl, by simpa using vals_ints hi⟩
  | none =>
    let scr : HO := .frz { cls := .type "list", data := .seq vs.toArray } (.lst (ns.map V.int))
    let H0 : Hp := fun b => if b = a then some scr else none
    have h1 : H0 a = some scr := if_pos rfl
    have h0 : ∀ b, b ≠ a → H0 b = none := fun b n => if_neg n
    have only : Only H0 := fun b => by
      by_cases q : b = a
      · exact .inr ⟨_, _, by rw [q]; exact h1⟩
      · exact .inl (h0 b q)
    refine lawG_from (H := H0) KX gl bl bb nol ge ha hr F hb only (fun b u z => ?_) (fun b z => ?_) (fun _ => hk) (hs _ only (.inl (.inr ⟨_, h1⟩)))
    · by_cases q : b = a
      · subst q
        rw [h1] at z
        cases z
        exact ⟨ha, by rw [List.length_map]; exact hl, vs, _, vals_ints hi, ha⟩
      · rw [h0 b q] at z
        cases z
    · by_cases q : b = a
      · exact q
      · exact absurd (h0 b q) z
theorem walkG {l : PySem.W.OpenLaw} {n k : Nat} {q : Program} {loose : List Str} {XP : (Str → Option Value) → Heap → Prop} {YP : World → Heap → Prop} {d : DefRec} {K : Params → PySem.W.Frag} {sp : World → Sp} {x : Str}
    (hn : l.most = some n) (hn2 : n ≤ sizeLine) (hdf : d.params.defaults = []) (hr : Room k callerA)
    (hY : ∀ (w : World) (h : Heap), YP w h → (K w.params).In h)
    (F : ∀ (w : World) (mg : Str → Option Value) (fa : Addr) (h : Heap), (K w.params).In h → h.Ns mainGlobals mg → mg d.name = some (.ref fa) →
      ∃ fd : FuncData, (∀ (s : Shared) (u : Value), BindsTo s fd ⟨[u], []⟩ [(x, u)]) ∧
        ∀ base : Heap, (K w.params).In base → base.Ns mainGlobals mg → FnG l.prog w (K w.params) mg base CX0 k fa fd [x] (sp w))
    (hs : ∀ (w : World) (H : Hp) (a : Addr) (ns : List Int), ns.length ≤ n → Only H → SqL (K w.params) H a (ns.map V.int) → sp w [.ref a] H (fun v _ => v = .bl true) fun _ _ _ => False) :
    PySem.W.WalkO q loose XP YP l.row.toRowW d [] (fun f vs => PySem.call f vs) := by
  refine Att.attach_call hn hdf fun w s0 s1 mg mb fa o pm cd doc a vs ns G Y ho hd hcd hmg hobj hints hlen hg => ?_
  obtain ⟨fd, hb, hF⟩ := F w mg fa _ (hY w _ Y) G.T.g hmg
  exact lawG (hY w _ Y) G.T.g G.T.b G.T.builtins G.T.nolimit hg hobj hints (Nat.le_trans hlen hn2) hr hF hb fun H hO hS => hs w H a ns hlen hO hS

/-! repr -/
section
variable {X : Cx}
/-- repr(x) of data; a text's and a number's length are bounded -/
def rRepr (K : PySem.W.Frag) : List V → Hp → VK → Prop := fun xs H Q => ∃ x d, xs = [x] ∧ Dp K H x d ∧ d.showable = true ∧ d.canLay0 = true ∧ d.depth ≤ 64 ∧ d.shown.length ≤ sizeLine ∧ Q (.str d.shown) H
theorem call_reprG (hgd : X.A.guards = some []) (hu : X.A.units + 65 < cLine) : CallR X (.builtin "repr") (rRepr X.K) := by
  intro pins s σ H xs us Q I rv h
  obtain ⟨x, d, rfl, hd, hs, hc, hp, hz, q⟩ := h
  obtain ⟨u, rfl, rx⟩ := vals1 rv
  obtain ⟨as, rr⟩ := Dp.reads I d x u hd rx
  have fin : ∀ (h' : Heap) (tk : Nat) (t : Tok), (∀ b o, s.heap.get? b = some o → h'.get? b = some o) → EP X pins σ Q (.str d.shown t) { s with heap := h', toks := tk } :=
    fun h' tk t hk => ⟨.str d.shown, H, I.kept hk, ⟨t, rfl⟩, q⟩
  cases hd with
  | non =>
    cases rx
    exact PySem.P.repr_of_none (fin s.heap _ _ fun _ _ e => e)
  | bl b =>
    cases rx
    exact PySem.P.repr_of_bool (fin s.heap _ _ fun _ _ e => e)
  | int i =>
    obtain ⟨t, rfl⟩ := rx
    refine PySem.P.repr_of_int (by simpa [PyData.showable] using hs) ?_
    rw [← PyData.shown_int]
    exact fin s.heap _ _ fun _ _ e => e
  | str z =>
    obtain ⟨t, rfl⟩ := rx
    refine PySem.P.repr_of_str ?_ (by rw [← PyData.shown_str]; exact hz)
    rw [← PyData.shown_str]
    exact fin s.heap _ _ fun _ _ e => e
  | lst h1 h2 =>
    cases rx
    exact repr_of_reads' rr hs (PyData.noDict_hsm (PyData.hasDict_of_canLay _ hc)) hgd (by omega) (fun _ _ e => e) (fun h' t tk hk => fin h' tk t hk) hz
  | tup h1 h2 =>
    cases rx
    exact repr_of_reads' rr hs (PyData.noDict_hsm (PyData.hasDict_of_canLay _ hc)) hgd (by omega) (fun _ _ e => e) (fun h' t tk hk => fin h' tk t hk) hz
end
end DL
/-! operators of several kinds at once; the bag of draws -/
namespace DL
open PySem PySem.Spec PyProof.Rows L2 Evl
theorem opOr {X : Cx} {f : Value → Value → Sem Value} {r r' : R2} (h : OpR X f r) (h' : OpR X f r') : OpR X f (fun x y H Q => r x y H Q ∨ r' x y H Q) := by
  intro pins s σ H x y v u Q I rx ry q
  cases q with
  | inl q => exact h pins s σ H x y v u Q I rx ry q
  | inr q => exact h' pins s σ H x y v u Q I rx ry q
/-! + -/
def rAddS : R2 := fun x y H Q => ∃ i j, x = .str i ∧ y = .str j ∧ i.length + j.length ≤ sizeLine ∧ Q (.str (i ++ j)) H
def rAddU (K : PySem.W.Frag) : R2 := fun x y H Q => rI0 (fun i j => .int (i + j)) x y H Q ∨ rAddS x y H Q ∨ rCat x y H Q ∨ rCatA K x y H Q
theorem opAdd {X : Cx} : OpR X (binaryOp .Add) (rAddU X.K) := opOr op_add (opOr op_add_str (opOr op_cat op_catA))
/-! * -/
def rMulI : R2 := rI IntMulOk fun i j => .int (i * j)
theorem op_mulA {X : Cx} : OpR X (binaryOp .Mult) rMulI := opI fun _ _ _ _ _ _ _ hc q => mul_int q hc
def rMulU (K : PySem.W.Frag) : R2 := fun x y H Q => rMulI x y H Q ∨ rRep x y H Q ∨ rRepT K x y H Q
theorem opMul {X : Cx} : OpR X (binaryOp .Mult) (rMulU X.K) := opOr op_mulA (opOr op_rep op_repT)
/-! ** of great numbers -/
def CPowW (i j : Int) : Prop := 0 ≤ j ∧ (Builtin.Int.intBits i : Int) * j ≤ 2 ^ 27
def rPowW : R2 := rI CPowW fun i j => .int (i ^ j.toNat)
theorem op_powW {X : Cx} : OpR X (binaryOp .Pow) rPowW := opI fun _ _ _ _ _ _ _ hc q => pow_int hc.1 hc.2 q
/-! orders -/
def rLtU : R2 := fun x y H Q => rI0 (fun i j => .bl (decide (i < j))) x y H Q ∨ rLtS x y H Q
theorem opLt {X : Cx} : OpR X (compareOp .Lt) rLtU := opOr op_lt op_lt_str
def rGtS : R2 := fun x y H Q => ∃ i j, x = .str i ∧ y = .str j ∧ Q (.bl (decide (j.cps.toList < i.cps.toList))) H
def rGtU : R2 := fun x y H Q => rI0 (fun i j => .bl (decide (j < i))) x y H Q ∨ rGtS x y H Q
theorem opGt {X : Cx} : OpR X (compareOp .Gt) rGtU := opOr op_gt op_gt_str
def rGeS : R2 := fun x y H Q => ∃ i j, x = .str i ∧ y = .str j ∧ Q (.bl (!decide (i.cps.toList < j.cps.toList))) H
def rGeU : R2 := fun x y H Q => rI0 (fun i j => .bl (decide (j ≤ i))) x y H Q ∨ rGeS x y H Q
theorem opGe {X : Cx} : OpR X (compareOp .GtE) rGeU := opOr op_ge op_ge_str
def rLeS : R2 := fun x y H Q => ∃ i j, x = .str i ∧ y = .str j ∧ Q (.bl (!decide (j.cps.toList < i.cps.toList))) H
def rLeU : R2 := fun x y H Q => rI0 (fun i j => .bl (decide (i ≤ j))) x y H Q ∨ rLeS x y H Q
theorem opLe {X : Cx} : OpR X (compareOp .LtE) rLeU := opOr op_le op_le_str
/-! in -/
def rInU (K : PySem.W.Frag) : R2 := fun x y H Q => rInS x y H Q ∨ rIn K false x y H Q ∨ rInD K x y H Q
theorem opIn {X : Cx} (hu : X.A.units + 65 < cLine) : OpR X (compareOp .In) (rInU X.K) := opOr op_inS (opOr op_in_seq (op_inD hu))
def rNiU (K : PySem.W.Frag) : R2 := fun x y H Q => rNotInS x y H Q ∨ rIn K true x y H Q ∨ rNotInD K x y H Q
theorem opNi {X : Cx} (hu : X.A.units + 65 < cLine) : OpR X (compareOp .NotIn) (rNiU X.K) := opOr op_notInS (opOr op_notIn_seq (op_notInD hu))
/-! slices -/
def rSlU (K : PySem.W.Frag) : V → Option Int → Option Int → Hp → VK → Prop := fun x lo hi H Q => rSlL K x lo hi H Q ∨ rSlA K x lo hi H Q ∨ rSlS x lo hi H Q
theorem slU {X : Cx} : L2.SlR X (rSlU X.K) := SlR.or sl_list (SlR.or sl_tupA sl_str)

section
variable {K : PySem.W.Frag} {d1 d2 : PyData} {P : PyData → Prop}
theorem RD.l {r r' : R2} (h : RD K r d1 d2 P) : RD K (fun x y H Q => r x y H Q ∨ r' x y H Q) d1 d2 P := fun v1 v2 H H1 e r1 r2 Q q => .inl (h v1 v2 H H1 e r1 r2 Q q)
theorem RD.r {r r' : R2} (h : RD K r' d1 d2 P) : RD K (fun x y H Q => r x y H Q ∨ r' x y H Q) d1 d2 P := fun v1 v2 H H1 e r1 r2 Q q => .inr (h v1 v2 H H1 e r1 r2 Q q)
theorem rd_add {i j : Int} : RD K (rAddU K) (.int i) (.int j) (· = .int (i + j)) := rd_I0.l
theorem rd_addS {i j : Str} (h : i.length + j.length ≤ 100000) : RD K (rAddU K) (.str i) (.str j) (· = .str (i ++ j)) := RD.r (RD.l fun v1 v2 H H1 e r1 r2 Q q => by
  cases r1; cases r2
  exact ⟨i, j, rfl, rfl, sz_of h, q _ _ H H1 (Grow.refl e) (.str _) rfl⟩)
theorem rd_addT {xs ys : List PyData} (h : xs.length + ys.length ≤ 100000) : RD K (rAddU K) (.tuple xs) (.tuple ys) (· = .tuple (xs ++ ys)) := RD.r (RD.r (RD.r fun v1 v2 H H1 e r1 r2 Q q => by
  cases r1 with
  | tup h1 r1 =>
    cases r2 with
    | tup h2 r2 =>
      refine ⟨_, _, _, _, rfl, rfl, ex_t e h1, ex_t e h2, ?_, ?_⟩
      · rw [r1.len, r2.len]; exact sz_of h
      · refine ⟨fun e1 => ?_, fun _ e1 => ?_, fun _ _ p hp => ?_⟩
        · subst e1
          have := r1.len
          have e0 : xs = [] := List.length_eq_zero_iff.mp this.symm
          subst e0
          exact q _ _ H H1 (Grow.refl e) (.tup h2 r2) rfl
        · subst e1
          have e0 : ys = [] := List.length_eq_zero_iff.mp r2.len.symm
          subst e0
          exact q _ _ H H1 (Grow.refl e) (.tup h1 r1) (by rw [List.append_nil])
        · exact q _ _ _ _ (Grow.new e hp _) (.tup (st_of upd_same) ((r1.append r2).mono (Grow.new e hp _).known)) rfl))

theorem rd_mul {i j : Int} (h : IntMulOk i j) : RD K (rMulU K) (.int i) (.int j) (· = .int (i * j)) := (rd_I h).l
theorem rd_pow {i j : Int} (h : CPowW i j) : RD K rPowW (.int i) (.int j) (· = .int (i ^ j.toNat)) := rd_I h
theorem rd_lt {i j : Int} : RD K rLtU (.int i) (.int j) (· = .bool (decide (i < j))) := rd_B0.l
theorem rd_gt {i j : Int} : RD K rGtU (.int i) (.int j) (· = .bool (decide (j < i))) := rd_B0.l
theorem rd_le {i j : Int} : RD K rLeU (.int i) (.int j) (· = .bool (decide (i ≤ j))) := rd_B0.l
theorem rd_ge {i j : Int} : RD K rGeU (.int i) (.int j) (· = .bool (decide (j ≤ i))) := rd_B0.l
theorem rd_ltT {i j : Str} : RD K rLtU (.str i) (.str j) (· = .bool (decide (i.cps.toList < j.cps.toList))) := RD.r rd_ltS
theorem rd_gtT {i j : Str} : RD K rGtU (.str i) (.str j) (· = .bool (decide (j.cps.toList < i.cps.toList))) := RD.r fun v1 v2 H H1 e r1 r2 Q q => by
  cases r1; cases r2; exact ⟨i, j, rfl, rfl, q _ _ H H1 (Grow.refl e) (.bl _) rfl⟩
theorem rd_geT {i j : Str} : RD K rGeU (.str i) (.str j) (· = .bool (!decide (i.cps.toList < j.cps.toList))) := RD.r fun v1 v2 H H1 e r1 r2 Q q => by
  cases r1; cases r2; exact ⟨i, j, rfl, rfl, q _ _ H H1 (Grow.refl e) (.bl _) rfl⟩
theorem rd_leT {i j : Str} : RD K rLeU (.str i) (.str j) (· = .bool (!decide (j.cps.toList < i.cps.toList))) := RD.r fun v1 v2 H H1 e r1 r2 Q q => by
  cases r1; cases r2; exact ⟨i, j, rfl, rfl, q _ _ H H1 (Grow.refl e) (.bl _) rfl⟩
theorem rd_inSign {c : Nat} {z : Str} : RD K (rInU K) (.str ⟨#[c]⟩) (.str z) (· = .bool (decide (c ∈ z.cps.toList))) := rd_inS.l
def flatD : PyData → Bool
  | .none => true
  | .bool _ => true
  | .int _ => true
  | .str _ => true
  | _ => false
theorem flat_of {H : Hp} {v : V} {d : PyData} (r : Rp K H v d) (h : flatD d = true) : flatV v = true := by
  cases r <;> first | rfl | cases h
theorem eqV_of {H : Hp} {v w : V} {d e : PyData} (r : Rp K H v d) (q : Rp K H w e) (h : flatD d = true) (g : flatD e = true) : eqV v w = PyData.eqv d e := by
  cases r <;> cases q <;> first | rfl | cases h | cases g | (simp [eqV, PyData.eqv])
theorem flats_of {H : Hp} : ∀ {vs : List V} {ds : List PyData}, RpAll K H vs ds → ds.all flatD = true → vs.all flatV = true
  | _, _, .nil, _ => rfl
  | _, _, .cons h r, g => by
    simp only [List.all_cons, Bool.and_eq_true] at g ⊢
    exact ⟨flat_of h g.1, flats_of r g.2⟩
theorem inV_of {H : Hp} {v : V} {d : PyData} (q : Rp K H v d) (hd : flatD d = true) : ∀ {vs : List V} {ds : List PyData}, RpAll K H vs ds → ds.all flatD = true → inV v vs = ds.any fun y => PyData.eqv y d
  | _, _, .nil, _ => rfl
  | _, _, .cons h r, g => by
    simp only [List.all_cons, Bool.and_eq_true] at g
    have ih := inV_of q hd r g.2
    unfold inV at ih ⊢
    rw [List.any_cons, List.any_cons, ih, eqV_of h q g.1 hd]
theorem rd_inFlat {ds : List PyData} (hy : d2 = .list ds ∨ d2 = .tuple ds) (h : flatD d1 = true) (g : ds.all flatD = true) : RD K (rInU K) d1 d2 (· = .bool (ds.any fun y => PyData.eqv y d1)) := RD.r (RD.l fun v1 v2 H H1 e r1 r2 Q q => by
  rcases hy with rfl | rfl
  · cases r2 with
    | @lst a xs _ h2 r2 =>
      refine ⟨a, xs, rfl, .inl (ex_l e h2), flat_of r1 h, flats_of r2 g, ?_⟩
      exact q _ _ H H1 (Grow.refl e) (.bl _) (by rw [if_neg Bool.false_ne_true, inV_of r1 h r2 g])
  · cases r2 with
    | @tup a xs _ h2 r2 =>
      refine ⟨a, xs, rfl, .inr (ex_t e h2), flat_of r1 h, flats_of r2 g, ?_⟩
      exact q _ _ H H1 (Grow.refl e) (.bl _) (by rw [if_neg Bool.false_ne_true, inV_of r1 h r2 g]))
theorem rd_niFlat {ds : List PyData} (hy : d2 = .list ds ∨ d2 = .tuple ds) (h : flatD d1 = true) (g : ds.all flatD = true) : RD K (rNiU K) d1 d2 (· = .bool (!ds.any fun y => PyData.eqv y d1)) := RD.r (RD.l fun v1 v2 H H1 e r1 r2 Q q => by
  rcases hy with rfl | rfl
  · cases r2 with
    | @lst a xs _ h2 r2 =>
      refine ⟨a, xs, rfl, .inl (ex_l e h2), flat_of r1 h, flats_of r2 g, ?_⟩
      exact q _ _ H H1 (Grow.refl e) (.bl _) (by rw [if_pos rfl, inV_of r1 h r2 g])
  · cases r2 with
    | @tup a xs _ h2 r2 =>
      refine ⟨a, xs, rfl, .inr (ex_t e h2), flat_of r1 h, flats_of r2 g, ?_⟩
      exact q _ _ H H1 (Grow.refl e) (.bl _) (by rw [if_pos rfl, inV_of r1 h r2 g]))
end
section
variable {K : PySem.W.Frag} {σ : L2.St} {H : Hp} {te : TE}
theorem evd_sl {lo hi : TO} {l u : Option Int} {d : PyData} {f : PyData → PyData} {ds : List PyData} (h : EvD K te σ H d) (hd : (d = .list ds ∧ f = fun _ => .list (cutG ds l u)) ∨ (d = .tuple ds ∧ f = fun _ => .tuple (cutG ds l u))) (h1 : EvO lo σ H l) (h2 : EvO hi σ H u) :
    EvD K (tSl (rSlU K) te lo hi) σ H (f d) := by
  intro H1 e Q q
  refine h H1 e _ fun v _ Hk2 H2 g2 r2 p2 => ?_
  refine h1 H2 (e.trans g2.all) _ fun H3 e3 => ?_
  refine h2 H3 ((e.trans g2.all).trans e3) _ fun H4 e4 => ?_
  have g3 : Grow Hk2 H2 Hk2 H4 := ⟨Ex.refl _, g2.sub.trans (e3.trans e4), e3.trans e4, fun p o h n => by rw [h] at n; cases n⟩
  subst p2
  rcases hd with ⟨rfl, rfl⟩ | ⟨rfl, rfl⟩
  · cases r2 with
    | @lst a xs _ g r =>
      refine .inl ⟨_, _, rfl, ex_l g3.sub g, fun p hp => ?_⟩
      have g4 := Grow.new g3.sub hp (.lst (cutV xs l u))
      exact q _ _ _ _ ((g2.trans g3).trans g4) (.lst (sq_of upd_same) ((r.mono g4.known).cut l u)) rfl
  · cases r2 with
    | @tup a xs _ g r =>
      refine .inr (.inl ⟨_, _, rfl, ex_t g3.sub g, fun hw => ?_, fun _ p hp => ?_⟩)
      · refine q _ _ _ _ (g2.trans g3) (.tup g ?_) rfl
        have c := r.cut l u
        rw [cutV_all _ l u hw] at c
        exact c
      · have g4 := Grow.new g3.sub hp (.tup (cutV xs l u))
        exact q _ _ _ _ ((g2.trans g3).trans g4) (.tup (st_of upd_same) ((r.mono g4.known).cut l u)) rfl
end

/-! ### the bag -/
/-- a list of three numbers, whichever -/
def BagO (b : Addr) : HO := .ext fun h => ∃ (x y z : Int) (t u v : Tok) (n : Nat), h.get? b = some { cls := .type "list", data := .seq #[.int x t, .int y u, .int z v] n }
abbrev three (x y z : Int) : HO := .lst [.int x, .int y, .int z]
section
variable {X : Cx} {pins : List (Addr × Obj)} {σ : L2.St} {H : Hp} {s : Shared} {b : Addr}
theorem bag_open (I : Inv X pins σ H s) (hb : H b = some (BagO b)) : ∃ x y z, Inv X pins σ (upd H b (three x y z)) s := by
  obtain ⟨⟨x, y, z, t, u, v, n, e⟩, _⟩ := (show ObjOk X.prog X.w H s.heap b (BagO b) from I.hok b _ hb)
  refine ⟨x, y, z, ?_⟩
  have hm : Mut (H b) := by rw [hb]; trivial
  exact I.write (x := b) (e := b) (h' := s.heap) (t' := s.toks) hm (.inl rfl) (fun _ _ _ e => e) ⟨_, e⟩
    ⟨by show 3 ≤ sizeLine; decide, [.int x t, .int y u, .int z v], n, .cons ⟨t, rfl⟩ (.cons ⟨u, rfl⟩ (.cons ⟨v, rfl⟩ .nil)), e⟩
theorem bag_shut {x y z : Int} (I : Inv X pins σ H s) (hb : H b = some (three x y z)) : Inv X pins σ (upd H b (BagO b)) s := by
  obtain ⟨_, its, n, r, e⟩ := (show ObjOk X.prog X.w H s.heap b (three x y z) from I.hok b _ hb)
  have hm : Mut (H b) := by rw [hb]; trivial
  refine I.write (x := b) (e := b) (h' := s.heap) (t' := s.toks) hm (.inl rfl) (fun _ _ _ e => e) ⟨_, e⟩ ⟨?_, ⟨_, e⟩, ?_⟩
  · cases r with
    | cons r1 r =>
      cases r with
      | cons r2 r =>
        cases r with
        | cons r3 r =>
          cases r
          obtain ⟨t, rfl⟩ := r1
          obtain ⟨u, rfl⟩ := r2
          obtain ⟨v, rfl⟩ := r3
          exact ⟨x, y, z, t, u, v, n, e⟩
  · rintro h1 h2 ⟨x, y, z, t, u, v, n, e⟩ k
    exact ⟨x, y, z, t, u, v, n, k _ e⟩
end
def tBag (t : TS) : TS := fun D σ H => ∃ b, H b = some (BagO b) ∧ ∀ x y z, t ⟨
  fun σ' H' => ∃ x y z, H' b = some (three x y z) ∧ D.nx σ' (upd H' b (BagO b)), fun v H' => ∃ x y z, H' b = some (three x y z) ∧ D.rt v (upd H' b (BagO b)),
  fun σ' H' => ∃ x y z, H' b = some (three x y z) ∧ D.bk σ' (upd H' b (BagO b)), fun σ' H' => ∃ x y z, H' b = some (three x y z) ∧ D.ct σ' (upd H' b (BagO b))⟩ σ (upd H b (three x y z))
theorem pss_bag {X : Cx} {sts : List Stmt} {t : TS} (h : PSs X sts t) : PSs X sts (tBag t) := by
  constructor
  intro pins s σ H D I ht
  obtain ⟨b, hb, k⟩ := ht
  obtain ⟨x, y, z, I1⟩ := bag_open I hb
  refine thn (h.run pins s σ _ _ I1 (k x y z)) fun fl s1 q => ?_
  cases fl with
  | next =>
    obtain ⟨σ', H', J, x, y, z, e, q⟩ := q
    exact ⟨σ', _, bag_shut J e, q⟩
  | brk =>
    obtain ⟨σ', H', J, x, y, z, e, q⟩ := q
    exact ⟨σ', _, bag_shut J e, q⟩
  | cont =>
    obtain ⟨σ', H', J, x, y, z, e, q⟩ := q
    exact ⟨σ', _, bag_shut J e, q⟩
  | ret u =>
    obtain ⟨v, σ', H', J, r, x, y, z, e, q⟩ := q
    exact ⟨v, σ', _, bag_shut J e, r, q⟩
def tShut (t : TE) : TE := fun σ H Q => t σ H fun v H' => ∃ p x y z, v = .ref p ∧ H' p = some (three x y z) ∧ Q v (upd H' p (BagO p))
theorem pe_shut {X : Cx} {e : Expr} {t : TE} (h : PE X e t) : PE X e (tShut t) := by
  constructor
  intro pins s σ H Q I ht
  refine thn (h.run pins s σ H _ I ht) fun u s1 q => ?_
  obtain ⟨v, H', J, r, p, x, y, z, rfl, e, q⟩ := q
  exact ⟨_, _, bag_shut J e, r, q⟩
/-- a def that draws: the bag first, then data -/
def spB (K : PySem.W.Frag) (pre : List PyData → Prop) (post : List PyData → PyData → Prop) : Sp := fun vs H1 Q _ => ∃ H b ws ds, vs = .ref b :: ws ∧ Ex H H1 ∧ H b = some (BagO b) ∧ RpAll K H ws ds ∧ pre ds ∧
  ∀ v d Hk H2, Grow H H1 Hk H2 → Rp K Hk v d → post ds d → Q v H2
section
variable {K : PySem.W.Frag} {σ : L2.St} {H : Hp}
theorem evp_draw {i : Nat} {b : Addr} {ta : TA} {pre : List PyData → Prop} {post : List PyData → PyData → Prop} {P : List PyData → Prop} {R : PyData → Prop} {E : XK} (hi : σ[i]? = some (some (.ref b))) (hb : H b = some (BagO b)) (h : EvAs K ta σ H P)
    (hp : ∀ ds, P ds → pre ds) (hq : ∀ ds d, P ds → post ds d → R d) : EvP K (tCall (spB K pre post) [] E (tCons (tVar i) ta)) σ H R := fun H1 e Q q =>
  ⟨.ref b, hi, h H1 e _ fun vs ds Hk H2 g2 r2 p2 => by
    show spB K pre post ((.ref b :: vs) ++ []) H2 Q E
    rw [List.append_nil]
    exact ⟨Hk, b, vs, ds, rfl, g2.sub, g2.known _ _ hb, r2, hp ds p2, fun v d Hk3 H3 g3 r3 p3 => q v d Hk3 H3 (g2.trans g3) r3 (hq ds d p2 p3)⟩⟩
theorem evd_draw {i : Nat} {b : Addr} {ta : TA} {pre : List PyData → Prop} {post : List PyData → PyData → Prop} {ds : List PyData} {E : XK} (hi : σ[i]? = some (some (.ref b))) (hb : H b = some (BagO b)) (h : EvA1 K ta σ H ds)
    (hp : pre ds) : EvP K (tCall (spB K pre post) [] E (tCons (tVar i) ta)) σ H (post ds) := evp_draw hi hb h (fun _ e => by subst e; exact hp) fun _ _ e p => by subst e; exact p
end
end DL
/-! promises of defs of one to four data, with and without a bag -/
namespace DL
open PySem PySem.Spec PyProof.Rows L2 Evl
variable (K : PySem.W.Frag)
def spD0 (post : PyData → Prop) : Sp := fun vs H1 Q _ => ∃ H, vs = [] ∧ Ex H H1 ∧ ∀ u z Hk H2, Grow H H1 Hk H2 → Rp K Hk u z → post z → Q u H2
def spD1 (pre : PyData → Prop) (post : PyData → PyData → Prop) : Sp := fun vs H1 Q _ => ∃ H v d, vs = [v] ∧ Ex H H1 ∧ Rp K H v d ∧ pre d ∧ ∀ u z Hk H2, Grow H H1 Hk H2 → Rp K Hk u z → post d z → Q u H2
def spD2 (pre : PyData → PyData → Prop) (post : PyData → PyData → PyData → Prop) : Sp := fun vs H1 Q _ => ∃ H v w d e, vs = [v, w] ∧ Ex H H1 ∧ Rp K H v d ∧ Rp K H w e ∧ pre d e ∧
  ∀ u z Hk H2, Grow H H1 Hk H2 → Rp K Hk u z → post d e z → Q u H2
def spD3 (pre : PyData → PyData → PyData → Prop) (post : PyData → PyData → PyData → PyData → Prop) : Sp := fun vs H1 Q _ => ∃ H v w y d e f, vs = [v, w, y] ∧ Ex H H1 ∧ Rp K H v d ∧ Rp K H w e ∧ Rp K H y f ∧ pre d e f ∧
  ∀ u z Hk H2, Grow H H1 Hk H2 → Rp K Hk u z → post d e f z → Q u H2
def spD4 (pre : PyData → PyData → PyData → PyData → Prop) (post : PyData → PyData → PyData → PyData → PyData → Prop) : Sp := fun vs H1 Q _ => ∃ H v w y x d e f g, vs = [v, w, y, x] ∧ Ex H H1 ∧ Rp K H v d ∧ Rp K H w e ∧ Rp K H y f ∧ Rp K H x g ∧ pre d e f g ∧
  ∀ u z Hk H2, Grow H H1 Hk H2 → Rp K Hk u z → post d e f g z → Q u H2
def spB0 (post : PyData → Prop) : Sp := fun vs H1 Q _ => ∃ H b, vs = [.ref b] ∧ Ex H H1 ∧ H b = some (BagO b) ∧ ∀ u z Hk H2, Grow H H1 Hk H2 → Rp K Hk u z → post z → Q u H2
def spB1 (pre : PyData → Prop) (post : PyData → PyData → Prop) : Sp := fun vs H1 Q _ => ∃ H b v d, vs = [.ref b, v] ∧ Ex H H1 ∧ H b = some (BagO b) ∧ Rp K H v d ∧ pre d ∧ ∀ u z Hk H2, Grow H H1 Hk H2 → Rp K Hk u z → post d z → Q u H2
def spB2 (pre : PyData → PyData → Prop) (post : PyData → PyData → PyData → Prop) : Sp := fun vs H1 Q _ => ∃ H b v w d e, vs = [.ref b, v, w] ∧ Ex H H1 ∧ H b = some (BagO b) ∧ Rp K H v d ∧ Rp K H w e ∧ pre d e ∧
  ∀ u z Hk H2, Grow H H1 Hk H2 → Rp K Hk u z → post d e z → Q u H2
def spB3 (pre : PyData → PyData → PyData → Prop) (post : PyData → PyData → PyData → PyData → Prop) : Sp := fun vs H1 Q _ => ∃ H b v w y d e f, vs = [.ref b, v, w, y] ∧ Ex H H1 ∧ H b = some (BagO b) ∧ Rp K H v d ∧ Rp K H w e ∧ Rp K H y f ∧ pre d e f ∧
  ∀ u z Hk H2, Grow H H1 Hk H2 → Rp K Hk u z → post d e f z → Q u H2
section
variable {K} {σ : L2.St} {H : Hp} {ta tb tc td : TE} {P1 P2 P3 P4 R : PyData → Prop} {E : XK} {i : Nat} {b : Addr}
theorem evp_D0 {post : PyData → Prop} : EvP K (tCall (spD0 K post) [] E tNil) σ H post := fun H1 e Q q => ⟨H, rfl, e, q⟩
theorem evp_D1 {pre : PyData → Prop} {post : PyData → PyData → Prop} (h : EvP K ta σ H P1) (hp : ∀ d, P1 d → pre d) (hq : ∀ d z, P1 d → post d z → R z) :
    EvP K (tCall (spD1 K pre post) [] E (tCons ta tNil)) σ H R := fun H1 e Q q => h H1 e _ fun v d Hk H2 g2 r2 p2 =>
  ⟨Hk, v, d, rfl, g2.sub, r2, hp d p2, fun u z Hk3 H3 g3 r3 p3 => q u z Hk3 H3 (g2.trans g3) r3 (hq d z p2 p3)⟩
theorem evd_D1 {pre : PyData → Prop} {post : PyData → PyData → Prop} {d : PyData} (h : EvD K ta σ H d) (hp : pre d) : EvP K (tCall (spD1 K pre post) [] E (tCons ta tNil)) σ H (post d) :=
  evp_D1 h (fun _ e => by subst e; exact hp) fun _ _ e p => by subst e; exact p
theorem evp_D2 {pre : PyData → PyData → Prop} {post : PyData → PyData → PyData → Prop} (h : EvP K ta σ H P1) (h2 : EvP K tb σ H P2) (hp : ∀ d e, P1 d → P2 e → pre d e) (hq : ∀ d e z, P1 d → P2 e → post d e z → R z) :
    EvP K (tCall (spD2 K pre post) [] E (tCons ta (tCons tb tNil))) σ H R := fun H1 e Q q => h H1 e _ fun v d Hk H2 g2 r2 p2 => h2.mono g2.known H2 g2.sub _ fun w f Hk' H2' g2' r2' p2' =>
  ⟨Hk', v, w, d, f, rfl, g2'.sub, r2.mono g2'.known, r2', hp d f p2 p2', fun u z Hk3 H3 g3 r3 p3 => q u z Hk3 H3 ((g2.trans g2').trans g3) r3 (hq d f z p2 p2' p3)⟩
theorem evd_D2 {pre : PyData → PyData → Prop} {post : PyData → PyData → PyData → Prop} {d e : PyData} (h : EvD K ta σ H d) (h2 : EvD K tb σ H e) (hp : pre d e) : EvP K (tCall (spD2 K pre post) [] E (tCons ta (tCons tb tNil))) σ H (post d e) :=
  evp_D2 h h2 (fun _ _ e f => by subst e; subst f; exact hp) fun _ _ _ e f p => by subst e; subst f; exact p
theorem evp_D3 {pre : PyData → PyData → PyData → Prop} {post : PyData → PyData → PyData → PyData → Prop} (h : EvP K ta σ H P1) (h2 : EvP K tb σ H P2) (h3 : EvP K tc σ H P3) (hp : ∀ d e f, P1 d → P2 e → P3 f → pre d e f)
    (hq : ∀ d e f z, P1 d → P2 e → P3 f → post d e f z → R z) :
    EvP K (tCall (spD3 K pre post) [] E (tCons ta (tCons tb (tCons tc tNil)))) σ H R := fun H1 e Q q => h H1 e _ fun v d Hk H2 g2 r2 p2 => h2.mono g2.known H2 g2.sub _ fun w f Hk' H2' g2' r2' p2' =>
  h3.mono (g2.trans g2').known H2' g2'.sub _ fun y k Hk4 H4 g4 r4 p4 =>
  ⟨Hk4, v, w, y, d, f, k, rfl, g4.sub, r2.mono (g2'.trans g4).known, r2'.mono g4.known, r4, hp d f k p2 p2' p4, fun u z Hk3 H3 g3 r3 p3 => q u z Hk3 H3 (((g2.trans g2').trans g4).trans g3) r3 (hq d f k z p2 p2' p4 p3)⟩
theorem evd_D3 {pre : PyData → PyData → PyData → Prop} {post : PyData → PyData → PyData → PyData → Prop} {d e f : PyData} (h : EvD K ta σ H d) (h2 : EvD K tb σ H e) (h3 : EvD K tc σ H f) (hp : pre d e f) :
    EvP K (tCall (spD3 K pre post) [] E (tCons ta (tCons tb (tCons tc tNil)))) σ H (post d e f) :=
  evp_D3 h h2 h3 (fun _ _ _ e f g => by subst e; subst f; subst g; exact hp) fun _ _ _ _ e f g p => by subst e; subst f; subst g; exact p
theorem evp_B0 {post : PyData → Prop} (hi : σ[i]? = some (some (.ref b))) (hb : H b = some (BagO b)) : EvP K (tCall (spB0 K post) [] E (tCons (tVar i) tNil)) σ H post := fun H1 e Q q => ⟨.ref b, hi, H, b, rfl, e, hb, q⟩
theorem evp_B1 {pre : PyData → Prop} {post : PyData → PyData → Prop} (hi : σ[i]? = some (some (.ref b))) (hb : H b = some (BagO b)) (h : EvP K ta σ H P1) (hp : ∀ d, P1 d → pre d) (hq : ∀ d z, P1 d → post d z → R z) :
    EvP K (tCall (spB1 K pre post) [] E (tCons (tVar i) (tCons ta tNil))) σ H R := fun H1 e Q q => ⟨.ref b, hi, h H1 e _ fun v d Hk H2 g2 r2 p2 =>
  ⟨Hk, b, v, d, rfl, g2.sub, g2.known _ _ hb, r2, hp d p2, fun u z Hk3 H3 g3 r3 p3 => q u z Hk3 H3 (g2.trans g3) r3 (hq d z p2 p3)⟩⟩
theorem evd_B1 {pre : PyData → Prop} {post : PyData → PyData → Prop} {d : PyData} (hi : σ[i]? = some (some (.ref b))) (hb : H b = some (BagO b)) (h : EvD K ta σ H d) (hp : pre d) :
    EvP K (tCall (spB1 K pre post) [] E (tCons (tVar i) (tCons ta tNil))) σ H (post d) := evp_B1 hi hb h (fun _ e => by subst e; exact hp) fun _ _ e p => by subst e; exact p
theorem evp_B2 {pre : PyData → PyData → Prop} {post : PyData → PyData → PyData → Prop} (hi : σ[i]? = some (some (.ref b))) (hb : H b = some (BagO b)) (h : EvP K ta σ H P1) (h2 : EvP K tb σ H P2) (hp : ∀ d e, P1 d → P2 e → pre d e)
    (hq : ∀ d e z, P1 d → P2 e → post d e z → R z) :
    EvP K (tCall (spB2 K pre post) [] E (tCons (tVar i) (tCons ta (tCons tb tNil)))) σ H R := fun H1 e Q q => ⟨.ref b, hi, h H1 e _ fun v d Hk H2 g2 r2 p2 => h2.mono g2.known H2 g2.sub _ fun w f Hk' H2' g2' r2' p2' =>
  ⟨Hk', b, v, w, d, f, rfl, g2'.sub, (g2.trans g2').known _ _ hb, r2.mono g2'.known, r2', hp d f p2 p2', fun u z Hk3 H3 g3 r3 p3 => q u z Hk3 H3 ((g2.trans g2').trans g3) r3 (hq d f z p2 p2' p3)⟩⟩
end
theorem hu65 {k : Nat} {A : Around} (hr : Room k A) : A.units + 65 < cLine := by
  have := hr.un
  omega
theorem hu64 {k : Nat} {A : Around} (hr : Room k A) : A.units + 64 < cLine := by
  have := hr.un
  omega
end DL
/-! comprehensions of known data -/
namespace DL
open PySem PySem.Spec PyProof.Rows L2 Evl
theorem turns_eq {α β : Type} (p : α → Bool) (g : α → β) : ∀ (ds : List α) (b : Nat → Bool) (f : Nat → β),
    (∀ i d, ds[i]? = some d → b i = p d ∧ (p d = true → f i = g d)) → ((List.range ds.length).filter b).map f = (ds.filter p).map g
  | [], _, _, _ => rfl
  | d :: ds, b, f, h => by
    have ih := turns_eq p g ds (fun i => b (i + 1)) (fun i => f (i + 1)) fun i x hx => h (i + 1) x (by simpa using hx)
    have h0 := h 0 d rfl
    rw [List.length_cons, List.range_succ_eq_map]
    have e1 : List.filter b (List.map Nat.succ (List.range ds.length)) = List.map Nat.succ (List.filter (fun i => b (i + 1)) (List.range ds.length)) := by
      rw [List.filter_map]
      rfl
    rw [List.filter_cons, List.filter_cons, h0.1, e1]
    have e2 : List.map f (List.map Nat.succ (List.filter (fun i => b (i + 1)) (List.range ds.length))) = List.map g (List.filter p ds) := by
      rw [List.map_map]
      exact ih
    by_cases hp : p d = true
    · rw [if_pos hp, if_pos hp, List.map_cons, List.map_cons, e2, h0.2 hp]
    · rw [if_neg hp, if_neg hp, e2]
section
variable {K : PySem.W.Frag} {σ : L2.St} {H : Hp} {te t0 : TE} {tt : TT} {i j : Nat} {vs : List Nat}
/-- over a text -/
theorem evd_lcS {z : Str} {p : Nat → Bool} {g : Nat → PyData} (h : EvD K t0 σ H (.str z)) (hn : z.cps.size ≤ 100000) (hw : ∀ x, wipe ((wipe σ vs).set i (some x)) vs = wipe σ vs)
    (ht : ∀ c Hm, Ex H Hm → EvT1 tt ((wipe σ vs).set i (some (.str ⟨#[c]⟩))) Hm (p c)) (hb : ∀ c Hm, Ex H Hm → p c = true → EvD K te ((wipe σ vs).set i (some (.str ⟨#[c]⟩))) Hm (g c)) :
    EvD K (tLc (iStr t0) (gName i) tt te vs) σ H (.list ((z.cps.toList.filter p).map g)) := by
  refine EvP.weak (evp_lcW (b := fun k => p (z.cps.getD k 0)) (P := fun k => (· = g (z.cps.getD k 0))) (walkd_str h) ?_ hn) ?_
  · rintro k x Hm hk e ⟨c, hc, rfl⟩
    have ec : z.cps.getD k 0 = c := by rw [Array.getD_eq_getD_getElem?, hc]; rfl
    rw [ec]
    exact turn_name (hw _) (ht c Hm e) fun q => hb c Hm e q
  · rintro d ⟨f, rfl, hf⟩
    congr 1
    have := turns_eq p g z.cps.toList (fun k => p (z.cps.getD k 0)) f fun k d hk => ?_
    · simpa using this
    · have ec : z.cps.getD k 0 = d := by
        rw [Array.getD_eq_getD_getElem?]
        rw [Array.getElem?_toList] at hk
        rw [hk]
        rfl
      refine ⟨by rw [ec], fun q => ?_⟩
      have hk' : k < z.cps.size := by
        have := (List.getElem?_eq_some_iff.mp hk).1
        simpa using this
      have := hf k hk' (by rw [ec]; exact q)
      rw [ec] at this
      exact this
/-- over a list or a tuple -/
theorem evd_lcW {wi : TI} {ds : List PyData} {p : PyData → Bool} {g : PyData → PyData} (hwk : WalkD K wi σ H ds.length (TAt K ds)) (hn : ds.length ≤ 100000) (hw : ∀ x, wipe ((wipe σ vs).set i (some x)) vs = wipe σ vs)
    (ht : ∀ (k : Nat) d x Hm, ds[k]? = some d → Ex H Hm → Rp K Hm x d → EvT1 tt ((wipe σ vs).set i (some x)) Hm (p d)) (hb : ∀ (k : Nat) d x Hm, ds[k]? = some d → Ex H Hm → Rp K Hm x d → p d = true → EvD K te ((wipe σ vs).set i (some x)) Hm (g d)) :
    EvD K (tLc wi (gName i) tt te vs) σ H (.list ((ds.filter p).map g)) := by
  refine EvP.weak (evp_lcW (b := fun k => p (ds.getD k .none)) (P := fun k => (· = g (ds.getD k .none))) hwk ?_ hn) ?_
  · rintro k x Hm hk e ⟨d, hd, r⟩
    have ed : ds.getD k .none = d := by rw [List.getD_eq_getElem?_getD, hd]; rfl
    rw [ed]
    exact turn_name (hw _) (ht k d x Hm hd e r) fun q => hb k d x Hm hd e r q
  · rintro z ⟨f, rfl, hf⟩
    congr 1
    refine turns_eq p g ds _ f fun k d hk => ?_
    have ed : ds.getD k .none = d := by rw [List.getD_eq_getElem?_getD, hk]; rfl
    refine ⟨by rw [ed], fun q => ?_⟩
    have := hf k (List.getElem?_eq_some_iff.mp hk).1 (by rw [ed]; exact q)
    rw [ed] at this
    exact this
theorem evd_lcL {ds : List PyData} {p : PyData → Bool} {g : PyData → PyData} (h : EvD K t0 σ H (.list ds)) (hn : ds.length ≤ 100000) (hw : ∀ x, wipe ((wipe σ vs).set i (some x)) vs = wipe σ vs)
    (ht : ∀ (k : Nat) d x Hm, ds[k]? = some d → Ex H Hm → Rp K Hm x d → EvT1 tt ((wipe σ vs).set i (some x)) Hm (p d)) (hb : ∀ (k : Nat) d x Hm, ds[k]? = some d → Ex H Hm → Rp K Hm x d → p d = true → EvD K te ((wipe σ vs).set i (some x)) Hm (g d)) :
    EvD K (tLc (iList K t0) (gName i) tt te vs) σ H (.list ((ds.filter p).map g)) := evd_lcW (walkd_list h) hn hw ht hb
theorem evd_lcT {ds : List PyData} {p : PyData → Bool} {g : PyData → PyData} (h : EvD K t0 σ H (.tuple ds)) (hn : ds.length ≤ 100000) (hw : ∀ x, wipe ((wipe σ vs).set i (some x)) vs = wipe σ vs)
    (ht : ∀ (k : Nat) d x Hm, ds[k]? = some d → Ex H Hm → Rp K Hm x d → EvT1 tt ((wipe σ vs).set i (some x)) Hm (p d)) (hb : ∀ (k : Nat) d x Hm, ds[k]? = some d → Ex H Hm → Rp K Hm x d → p d = true → EvD K te ((wipe σ vs).set i (some x)) Hm (g d)) :
    EvD K (tLc (iTup K t0) (gName i) tt te vs) σ H (.list ((ds.filter p).map g)) := evd_lcW (walkd_tup h) hn hw ht hb
/-- over pairs of two walked together -/
theorem evd_lcZ {ta : TA} {d e : PyData} {ds es : List PyData} {p : PyData × PyData → Bool} {g : PyData × PyData → PyData} (h : EvA1 K ta σ H [d, e]) (hd : (d = .list ds ∧ e = .list es) ∨ (d = .tuple ds ∧ e = .tuple es))
    (hn : ds.length ≤ 100000) (hw : ∀ x y, wipe (((wipe σ vs).set i (some x)).set j (some y)) vs = wipe σ vs)
    (ht : ∀ a b x y Hm, (a, b) ∈ ds.zip es → Ex H Hm → Rp K Hm x a → Rp K Hm y b → EvT1 tt (((wipe σ vs).set i (some x)).set j (some y)) Hm (p (a, b)))
    (hb : ∀ a b x y Hm, (a, b) ∈ ds.zip es → Ex H Hm → Rp K Hm x a → Rp K Hm y b → p (a, b) = true → EvD K te (((wipe σ vs).set i (some x)).set j (some y)) Hm (g (a, b))) :
    EvD K (tLc (RZ.iZipA K ta) (gTup K 2 (gCons (gName i) (gCons (gName j) gNil))) tt te vs) σ H (.list (((ds.zip es).filter p).map g)) := by
  have hl : (ds.zip es).length = min ds.length es.length := List.length_zip
  refine EvP.weak (evp_lcW (b := fun k => p ((ds.zip es).getD k (.none, .none))) (P := fun k => (· = g ((ds.zip es).getD k (.none, .none)))) (walkd_zip h hd) ?_ (by omega)) ?_
  · rintro k v Hm hk ex ⟨T, x, y, a, b, rfl, hT, ha, hb', rx, ry⟩
    have hz : (ds.zip es)[k]? = some (a, b) := by
      rw [List.getElem?_zip_eq_some]
      exact ⟨ha, hb'⟩
    have ed : (ds.zip es).getD k (.none, .none) = (a, b) := by rw [List.getD_eq_getElem?_getD, hz]; rfl
    rw [ed]
    exact turn_pair hT (hw _ _) (ht a b x y Hm (List.mem_of_getElem? hz) ex rx ry) fun q => hb a b x y Hm (List.mem_of_getElem? hz) ex rx ry q
  · rintro z ⟨f, rfl, hf⟩
    congr 1
    rw [← hl]
    refine turns_eq p g (ds.zip es) _ f fun k d hk => ?_
    have ed : (ds.zip es).getD k (.none, .none) = d := by rw [List.getD_eq_getElem?_getD, hk]; rfl
    refine ⟨by rw [ed], fun q => ?_⟩
    have := hf k (by rw [← hl]; exact (List.getElem?_eq_some_iff.mp hk).1) (by rw [ed]; exact q)
    rw [ed] at this
    exact this
/-- over a range, each element some datum of P -/
theorem evp_lcR {ta : TA} {n : Int} {P : PyData → Prop} (h : EvA1 K ta σ H [.int n]) (hn : 0 ≤ n ∧ n ≤ 100000) (hw : ∀ x, wipe ((wipe σ vs).set i (some x)) vs = wipe σ vs)
    (hb : ∀ (k : Nat) Hm, (k : Int) < n → Ex H Hm → EvP K te ((wipe σ vs).set i (some (.int k))) Hm P) :
    EvP K (tLc (iRng1 ta) (gName i) tYes te vs) σ H (fun d => ∃ ds, d = .list ds ∧ (ds.length : Int) = n ∧ ∀ x ∈ ds, P x) := by
  refine EvP.weak (evp_lcW (b := fun _ => true) (P := fun _ => P) (walkd_range h ⟨by omega, by omega⟩) ?_ (by omega)) ?_
  · rintro k x Hm hk e rfl
    exact turn_name (hw _) etp_yes fun _ => hb k Hm (by omega) e
  · rintro d ⟨f, rfl, hf⟩
    refine ⟨_, rfl, ?_, fun x hx => ?_⟩
    · rw [List.length_map, List.filter_eq_self.mpr (fun _ _ => rfl), List.length_range]
      omega
    · obtain ⟨k, hk, rfl⟩ := List.mem_map.mp hx
      exact hf k (List.mem_range.mp (List.mem_filter.mp hk).1) rfl
end
end DL
/-! statements step by step; more calls -/
namespace DL
open PySem PySem.Spec PyProof.Rows L2 Evl
section
variable {K : PySem.W.Frag} {σ : L2.St} {H H1 : Hp} {te ta tb : TE} {tt : TT} {tu tw tz : TS} {P : PyData → Prop} {D : Ends} {i : Nat}
theorem st_set (h : EvP K te σ H P) (ex : Ex H H1) (k : ∀ v d Hk H2, Grow H H1 Hk H2 → Rp K Hk v d → P d → tz D (σ.set i (some v)) H2) : tSeq (tAsg te (gName i)) tz D σ H1 := h H1 ex _ k
theorem st_ret (h : EvP K te σ H P) (ex : Ex H H1) (k : ∀ v d Hk H2, Grow H H1 Hk H2 → Rp K Hk v d → P d → D.rt v H2) : tRet te D σ H1 := h H1 ex _ k
theorem st_drop (h : EvP K te σ H P) (ex : Ex H H1) (k : ∀ v d Hk H2, Grow H H1 Hk H2 → Rp K Hk v d → P d → tz D σ H2) : tSeq (tDrop te) tz D σ H1 := h H1 ex _ k
theorem st_if {b : Bool} (h : EvT1 tt σ H b) (ex : Ex H H1) (h1 : b = true → ∀ Hk H2, Grow H H1 Hk H2 → tu { D with nx := tz D } σ H2) (h2 : b = false → ∀ Hk H2, Grow H H1 Hk H2 → tw { D with nx := tz D } σ H2) : tSeq (tIfS tt tu tw) tz D σ H1 :=
  h H1 ex _ fun c Hk H2 g p => by
    subst p
    cases c with
    | true =>
      show tu { D with nx := tz D } σ H2
      exact h1 rfl Hk H2 g
    | false =>
      show tw { D with nx := tz D } σ H2
      exact h2 rfl Hk H2 g
theorem st_ifL {b : Bool} (h : EvT1 tt σ H b) (ex : Ex H H1) (h1 : b = true → ∀ Hk H2, Grow H H1 Hk H2 → tu D σ H2) (h2 : b = false → ∀ Hk H2, Grow H H1 Hk H2 → tw D σ H2) : tIfS tt tu tw D σ H1 :=
  h H1 ex _ fun c Hk H2 g p => by
    subst p
    cases c with
    | true =>
      show tu D σ H2
      exact h1 rfl Hk H2 g
    | false =>
      show tw D σ H2
      exact h2 rfl Hk H2 g
/-- if .. : (leaves); what follows -/
theorem st_when {b : Bool} (h : EvT1 tt σ H b) (ex : Ex H H1) (h1 : b = true → ∀ Hk H2, Grow H H1 Hk H2 → tu { D with nx := tz D } σ H2) (h2 : b = false → ∀ Hk H2, Grow H H1 Hk H2 → tz D σ H2) : tSeq (tIfS tt tu tNext) tz D σ H1 :=
  st_if h ex h1 h2
/-- for over a walk; Pv by the turn, the slots, what is known, what there is -/
theorem st_for {wi : TI} {g : TG} {tb : TS} {n : Nat} {T : Nat → V → Hp → Prop} (hw : WalkD K wi σ H n T) (ex : Ex H H1) (Pv : Nat → L2.St → Hp → Hp → Prop)
    (h0 : ∀ Hb Hc, Grow H H1 Hb Hc → Pv 0 σ Hb Hc)
    (hs : ∀ Hb Hc i x σ2 Hm H3 Hm' H4, Grow H H1 Hb Hc → i < n → Grow Hb Hc Hm H3 → Pv i σ2 Hm H3 → Grow Hm H3 Hm' H4 → T i x Hm' →
      g x σ2 H4 fun σ3 H5 => tb { D with nx := fun σ4 H6 => ∃ Hn, Grow Hb Hc Hn H6 ∧ Pv (i + 1) σ4 Hn H6, ct := fun σ4 H6 => ∃ Hn, Grow Hb Hc Hn H6 ∧ Pv (i + 1) σ4 Hn H6, bk := D.nx } σ3 H5)
    (hd : ∀ Hb Hc σ2 Hm H3, Grow H H1 Hb Hc → Grow Hb Hc Hm H3 → Pv n σ2 Hm H3 → D.nx σ2 H3) : tFor wi g tb D σ H1 := by
  refine hw H1 ex _ fun J G Y Hk H2 g2 w g0 hy => ?_
  refine for_it w (fun i σ2 H3 => ∃ Hn, Grow Hk H2 Hn H3 ∧ Pv i σ2 Hn H3) ⟨Hk, Grow.refl g2.sub, h0 Hk H2 g2⟩ ?_ ?_ ?_
  · rintro i σ2 H3 _ ⟨Hn, e, _⟩
    exact g0 H3 (e.known.trans e.sub)
  · rintro i x σ2 H3 H4 hlt ⟨Hn, e, p⟩ y
    obtain ⟨Hm', g4, t4⟩ := hy i x Hn H3 H4 hlt e.known e.sub y
    exact hs Hk H2 i x σ2 Hn H3 Hm' H4 g2 hlt e p g4 t4
  · rintro σ2 H3 ⟨Hn, e, p⟩
    exact hd Hk H2 σ2 Hn H3 g2 e p
theorem st_forS {wi : TI} {g : TG} {tb : TS} {n : Nat} {T : Nat → V → Hp → Prop} (hw : WalkD K wi σ H n T) (ex : Ex H H1) (Pv : Nat → L2.St → Hp → Hp → Prop)
    (h0 : ∀ Hb Hc, Grow H H1 Hb Hc → Pv 0 σ Hb Hc)
    (hs : ∀ Hb Hc i x σ2 Hm H3 Hm' H4, Grow H H1 Hb Hc → i < n → Grow Hb Hc Hm H3 → Pv i σ2 Hm H3 → Grow Hm H3 Hm' H4 → T i x Hm' →
      g x σ2 H4 fun σ3 H5 => tb { D with nx := fun σ4 H6 => ∃ Hn, Grow Hb Hc Hn H6 ∧ Pv (i + 1) σ4 Hn H6, ct := fun σ4 H6 => ∃ Hn, Grow Hb Hc Hn H6 ∧ Pv (i + 1) σ4 Hn H6, bk := fun σ4 H6 => tz D σ4 H6 } σ3 H5)
    (hd : ∀ Hb Hc σ2 Hm H3, Grow H H1 Hb Hc → Grow Hb Hc Hm H3 → Pv n σ2 Hm H3 → tz D σ2 H3) : tSeq (tFor wi g tb) tz D σ H1 :=
  st_for (D := { D with nx := tz D }) hw ex Pv h0 hs hd
end
/-! calls -/
section
variable {K : PySem.W.Frag} {σ : L2.St} {H : Hp} {te ta tb : TE}
def rAbs : List V → Hp → VK → Prop := fun xs H Q => ∃ i, xs = [.int i] ∧ Q (.int (if i < 0 then -i else i)) H
theorem rc_abs {i : Int} : RCD K rAbs [.int i] (· = .int i.natAbs) := by
  intro vs H H1 e r Q q
  cases r with
  | cons r rr =>
    cases rr
    cases r
    have ei : (if i < 0 then -i else i) = (i.natAbs : Int) := by split <;> omega
    refine ⟨i, rfl, ?_⟩
    rw [ei]
    exact q _ _ H H1 (Grow.refl e) (.int _) rfl
def rInt1 : List V → Hp → VK → Prop := fun xs H Q => (∃ i, xs = [.int i] ∧ Q (.int i) H) ∨ ∃ k, xs = [.bl k] ∧ Q (.int (if k then 1 else 0)) H
theorem rc_int {i : Int} : RCD K rInt1 [.int i] (· = .int i) := by
  intro vs H H1 e r Q q
  cases r with
  | cons r rr =>
    cases rr
    cases r
    exact .inl ⟨i, rfl, q _ _ H H1 (Grow.refl e) (.int _) rfl⟩
theorem rc_intB {b : Bool} : RCD K rInt1 [.bool b] (· = .int (if b then 1 else 0)) := by
  intro vs H H1 e r Q q
  cases r with
  | cons r rr =>
    cases rr
    cases r
    exact .inr ⟨b, rfl, q _ _ H H1 (Grow.refl e) (.int _) rfl⟩
def rMax2' : List V → Hp → VK → Prop := fun xs H Q => ∃ i j, xs = [.int i, .int j] ∧ Q (.int (if j > i then j else i)) H
theorem rc_max2 {i j : Int} : RCD K rMax2' [.int i, .int j] (· = .int (if j > i then j else i)) := by
  intro vs H H1 e r Q q
  cases r with
  | cons r rr =>
    cases rr with
    | cons r2 rr =>
      cases rr
      cases r
      cases r2
      exact ⟨i, j, rfl, q _ _ H H1 (Grow.refl e) (.int _) rfl⟩
def rMin2' : List V → Hp → VK → Prop := fun xs H Q => ∃ i j, xs = [.int i, .int j] ∧ Q (.int (if j < i then j else i)) H
theorem rc_min2 {i j : Int} : RCD K rMin2' [.int i, .int j] (· = .int (if j < i then j else i)) := by
  intro vs H H1 e r Q q
  cases r with
  | cons r rr =>
    cases rr with
    | cons r2 rr =>
      cases rr
      cases r
      cases r2
      exact ⟨i, j, rfl, q _ _ H H1 (Grow.refl e) (.int _) rfl⟩
theorem rc_repr {d : PyData} (h1 : d.showable = true) (h2 : d.canLay0 = true) (h3 : d.depth ≤ 64) (h4 : d.shown.length ≤ sizeLine) : RCD K (rRepr K) [d] (· = .str d.shown) := by
  intro vs H H1 e r Q q
  cases r with
  | cons r rr =>
    cases rr
    exact ⟨_, d, rfl, (r.mono e).dp h2, h1, h2, h3, h4, q _ _ H H1 (Grow.refl e) (.str _) rfl⟩
/-- sorted of texts -/
theorem rc_sortedS {ss : List Str} (h : ss.length < 64) : RCD K (rSortedS K) [.list (ss.map .str)] (fun d => ∃ ts : List Str, d = .list (ts.map .str) ∧ ts.Perm ss ∧ sortedS ts = true) := by
  intro vs H H1 e r Q q
  cases r with
  | cons r rr =>
    cases rr
    cases r with
    | lst h1 r1 =>
      rw [r1.strs] at h1
      refine ⟨_, ss, rfl, ex_l e h1, h, fun ts p hp hs hn => ?_⟩
      exact q _ _ _ _ (Grow.new e hn _) (.lst (sq_of upd_same) RpAll.of_strs) ⟨ts, rfl, hp, hs⟩
theorem evd_all {α : Type} {ds : List α} {f : α → Bool} (h : EvD K ta σ H (.list (ds.map fun d => .bool (f d)))) : EvD K (tCB (rAll K) (tCons ta tNil)) σ H (.bool (ds.all f)) := by
  have e : ds.map (fun d => PyData.bool (f d)) = (ds.map f).map PyData.bool := by rw [List.map_map]; rfl
  rw [e] at h
  refine EvP.is (evd_cb (eas1 h eas_nil) rc_all) ?_
  rw [List.all_map]
  rfl
theorem evd_any {α : Type} {ds : List α} {f : α → Bool} (h : EvD K ta σ H (.list (ds.map fun d => .bool (f d)))) : EvD K (tCB (rAny K) (tCons ta tNil)) σ H (.bool (ds.any f)) := by
  have e : ds.map (fun d => PyData.bool (f d)) = (ds.map f).map PyData.bool := by rw [List.map_map]; rfl
  rw [e] at h
  refine EvP.is (evd_cb (eas1 h eas_nil) rc_any) ?_
  rw [List.any_map]
  rfl
/-- sep.join(list of texts) -/
def rJoin (K : PySem.W.Frag) : V → List V → Hp → VK → Prop := fun x xs H Q => ∃ a p, ∃ ys : List Str, x = .str a ∧ xs = [.ref p] ∧ (SqL K H p (ys.map V.str) ∨ SqT K H p (ys.map V.str)) ∧ (ys.map (·.length)).sum + ys.length * a.length ≤ 16777216 ∧ Q (.str (Txt.join a ys)) H
theorem evp_join {a : Str} {P : PyData → Prop} {R : PyData → Prop} (ha : EvD K ta σ H (.str a)) (hb : EvP K tb σ H P)
    (hP : ∀ d, P d → ∃ ys : List Str, (d = .list (ys.map .str)) ∧ (ys.map (·.length)).sum + ys.length * a.length ≤ 16777216 ∧ R (.str (Txt.join a ys))) : EvP K (tM1 (rJoin K) ta tb) σ H R := by
  intro H1 e Q q
  refine ha H1 e _ fun v _ Hk2 H2 g2 r2 p2 => ?_
  subst p2
  cases r2
  refine ⟨⟨a, rfl⟩, ?_⟩
  refine hb.mono g2.known H2 g2.sub _ fun w d Hk3 H3 g3 r3 p3 => ?_
  obtain ⟨ys, rfl, hz, hR⟩ := hP d p3
  cases r3 with
  | lst h1 r1 =>
    rw [r1.strs] at h1
    exact ⟨a, _, ys, rfl, rfl, .inl (ex_l g3.sub h1), hz, q _ _ Hk3 H3 (g2.trans g3) (.str _) hR⟩
theorem cutG_from {α : Type} (xs : List α) (n : Nat) : cutG xs (some (n : Int)) none = xs.drop n := by
  unfold cutG
  rw [show HT.sIx xs.length 0 (some (n : Int)) = min n xs.length from HT.sIx_nat xs.length 0 n, HT.sIx_none]
  by_cases h : n ≤ xs.length
  · rw [Nat.min_eq_left h]
    exact List.take_of_length_le (by rw [List.length_drop]; exact Nat.le_refl _)
  · have h' : xs.length ≤ n := by omega
    rw [Nat.min_eq_right h', List.drop_eq_nil_of_le h', List.drop_eq_nil_of_le (Nat.le_refl _)]
    exact List.take_nil
theorem cutG_to {α : Type} (xs : List α) (n : Nat) : cutG xs none (some (n : Int)) = xs.take n := by
  unfold cutG
  rw [show HT.sIx xs.length xs.length (some (n : Int)) = min n xs.length from HT.sIx_nat xs.length xs.length n, HT.sIx_none]
  show (xs.drop 0).take (min n xs.length - 0) = _
  rw [List.drop_zero, Nat.sub_zero]
  by_cases h : n ≤ xs.length
  · rw [Nat.min_eq_left h]
  · rw [Nat.min_eq_right (by omega), List.take_of_length_le (Nat.le_refl _), List.take_of_length_le (by omega)]
theorem eo_int {i : Int} (h : EvD K te σ H (.int i)) (hv : ∀ H1, Ex H H1 → ∀ Q : VK, Q (.int i) H1 → te σ H1 Q) : EvO (tPart te) σ H (some i) := fun H1 e Q q => hv H1 e _ ⟨i, rfl, q H1 (Ex.refl H1)⟩
theorem eo_c {i : Int} : EvO (tPart (tC (.int i))) σ H (some i) := fun H1 e Q q => ⟨i, rfl, q H1 (Ex.refl H1)⟩
theorem eo_v {i : Int} {j : Nat} (h : σ[j]? = some (some (.int i))) : EvO (tPart (tVar j)) σ H (some i) := fun H1 e Q q => ⟨.int i, h, i, rfl, q H1 (Ex.refl H1)⟩
end
end DL
/-! the bag's promises -/
namespace DL
open PySem PySem.Spec PyProof.Rows L2 Evl
/-- a new bag for a place of the script -/
def spNewBag (K : PySem.W.Frag) : Sp := fun vs H1 Q _ => ∃ H a ns n, vs = [.ref a, .int n] ∧ Ex H H1 ∧ SqL K H a ((ns : List Int).map V.int) ∧ ns.length ≤ 63 ∧ 0 ≤ n ∧ n < 100 ∧
  ∀ p Hk H2, Grow H H1 Hk H2 → Hk p = some (BagO p) → Q (.ref p) H2
def drawPre (d : PyData) : Prop := ∃ n : Int, d = .int n ∧ 0 < n ∧ n.natAbs.log2 < 1000
def drawPost (d z : PyData) : Prop := ∃ i n : Int, z = .int i ∧ d = .int n ∧ 0 ≤ i ∧ i < n
def items : PyData → List PyData
  | .list ds => ds
  | .tuple ds => ds
  | .str s => s.cps.toList.map fun c => .str ⟨#[c]⟩
  | _ => []
def pickPre (d : PyData) : Prop := items d ≠ [] ∧ (items d).length ≤ 100000
def pickPost (d z : PyData) : Prop := z ∈ items d
theorem items_pos {d : PyData} (h : items d ≠ []) : 0 < (items d).length := List.length_pos_iff.mpr h
theorem items_len {d : PyData} (h : items d ≠ []) (h1 : (items d).length ≤ 100000) : lenD d = some (items d).length := by
  cases d with
  | list ds => rfl
  | tuple ds => rfl
  | str s =>
    have e : (items (.str s)).length = s.length := by
      show (s.cps.toList.map _).length = s.cps.size
      rw [List.length_map, Array.length_toList]
    show (if s.length ≤ 100000 then some s.length else none) = _
    rw [e] at h1 ⊢
    rw [if_pos h1]
  | none => exact absurd rfl h
  | bool _ => exact absurd rfl h
  | int _ => exact absurd rfl h
  | dict _ => exact absurd rfl h
theorem log2_small {n : Nat} (h : n ≤ 100000) : (n : Int).natAbs.log2 ≤ 17 := by
  show n.log2 ≤ 17
  by_cases h0 : n = 0
  · subst h0; decide
  · have : n < 2 ^ 18 := Nat.lt_of_le_of_lt h (by decide)
    have := (Nat.log2_lt h0).mpr this
    omega
theorem items_len_str (s : Str) : (items (.str s)).length = s.length := by
  show (s.cps.toList.map _).length = s.cps.size
  rw [List.length_map, Array.length_toList]
theorem rd_pick {K : PySem.W.Frag} {d : PyData} {i : Int} (h : items d ≠ []) (h1 : (items d).length ≤ 100000) (h0 : 0 ≤ i) (hi : i < (items d).length) : RD K (rIx K) d (.int i) (fun z => z ∈ items d) := by
  obtain ⟨j, rfl⟩ : ∃ j : Nat, i = j := ⟨i.toNat, by omega⟩
  have hj : j < (items d).length := by omega
  have hg : (items d)[j]? = some (items d)[j] := List.getElem?_eq_getElem hj
  have hm : (items d)[j] ∈ items d := List.getElem_mem hj
  cases d with
  | list ds => exact fun v1 v2 H H1 e r1 r2 Q q => rd_ix (.inl rfl) (atI_nat hg) v1 v2 H H1 e r1 r2 Q fun v z Hk H2 g r p => q v z Hk H2 g r (by subst p; exact hm)
  | tuple ds => exact fun v1 v2 H H1 e r1 r2 Q q => rd_ix (.inr rfl) (atI_nat hg) v1 v2 H H1 e r1 r2 Q fun v z Hk H2 g r p => q v z Hk H2 g r (by subst p; exact hm)
  | str s =>
    have e : (items (.str s)).length = s.length := by
      show (s.cps.toList.map _).length = s.cps.size
      rw [List.length_map, Array.length_toList]
    have hs : j < s.cps.toList.length := by rw [Array.length_toList]; rw [e] at hj; exact hj
    have hc : s.cps.toList[j]? = some s.cps.toList[j] := List.getElem?_eq_getElem hs
    have hx : (PyData.str ⟨#[s.cps.toList[j]]⟩) ∈ items (.str s) := List.mem_map.mpr ⟨_, List.getElem_mem hs, rfl⟩
    exact fun v1 v2 H H1 e r1 r2 Q q => rd_ixS (by rw [← items_len_str s]; exact h1) (atI_nat hc) v1 v2 H H1 e r1 r2 Q fun v z Hk H2 g r p => q v z Hk H2 g r (by subst p; exact hx)
  | none => exact absurd rfl h
  | bool _ => exact absurd rfl h
  | int _ => exact absurd rfl h
  | dict _ => exact absurd rfl h
theorem bag_grow {H H1 H3 : Hp} {b : Addr} {o : HO} (ex : Ex H H1) (hb : H1 b = some (BagO b)) (e : Ex (upd H1 b o) H3) : Grow H H1 H (upd H3 b (BagO b)) := by
  have all : Ex H1 (upd H3 b (BagO b)) := fun a u h => by
    by_cases ha : a = b
    · subst ha
      rw [hb] at h
      cases h
      exact upd_same
    · rw [upd_ne ha]
      exact e a u (by rw [upd_ne ha]; exact h)
  exact ⟨Ex.refl H, ex.trans all, all, fun p u h n => by rw [h] at n; cases n⟩
/-- return [x, y, z], a new bag -/
theorem st_retBag {K : PySem.W.Frag} {σ : L2.St} {H H1 : Hp} {ta : TA} {D : Ends} {x y z : Int} (h : EvA1 K ta σ H [.int x, .int y, .int z]) (ex : Ex H H1)
    (k : ∀ p Hk H2, Grow H H1 Hk H2 → Hk p = some (BagO p) → D.rt (.ref p) H2) : tRet (tShut (tLst ta)) D σ H1 := by
  refine h H1 ex _ fun vs ds Hk H2 g r p => ?_
  subst p
  cases r with
  | cons ra rr =>
    cases rr with
    | cons rb rr =>
      cases rr with
      | cons rc rr =>
        cases rr
        cases ra
        cases rb
        cases rc
        refine ⟨by show 3 ≤ sizeLine; decide, fun p hp => ⟨p, x, y, z, rfl, upd_same, ?_⟩⟩
        rw [upd_upd]
        exact k p _ _ (g.trans (Grow.new g.sub hp (BagO p))) upd_same
theorem ex_upd2 {H1 H3 : Hp} {b : Addr} {o : HO} (e : Ex (upd H1 b o) H3) (o' : HO) : Ex (upd H1 b o') (upd H3 b o') := fun a u h => by
  by_cases ha : a = b
  · subst ha
    rw [upd_same] at h ⊢
    exact h
  · rw [upd_ne ha] at h ⊢
    exact e a u (by rw [upd_ne ha]; exact h)
end DL
/-! names, lots, pairs: the plain functions -/
namespace DL
open PySem PySem.Spec PyProof.Rows L2 Evl
theorem gn {i : Nat} {x : V} {σ : L2.St} {H : Hp} {k : L2.St → Hp → Prop} (h : k (σ.set i (some x)) H) : gName i x σ H k := h
theorem st_setL {K : PySem.W.Frag} {σ : L2.St} {H H1 : Hp} {te : TE} {P : PyData → Prop} {D : Ends} {i : Nat} (h : EvP K te σ H P) (ex : Ex H H1) (k : ∀ v d Hk H2, Grow H H1 Hk H2 → Rp K Hk v d → P d → D.nx (σ.set i (some v)) H2) : tAsg te (gName i) D σ H1 := h H1 ex _ k
section
variable {K : PySem.W.Frag} {σ : L2.St} {H : Hp} {te t0 ta : TE} {i j : Nat} {vs : List Nat}
theorem all_true {α : Type} (l : List α) : l.filter (fun _ => true) = l := List.filter_eq_self.mpr fun _ _ => rfl
theorem evd_mapS {z : Str} {g : Nat → PyData} (h : EvD K t0 σ H (.str z)) (hn : z.length ≤ 100000) (hw : ∀ x, wipe ((wipe σ vs).set i (some x)) vs = wipe σ vs)
    (hb : ∀ c Hm, Ex H Hm → EvD K te ((wipe σ vs).set i (some (.str ⟨#[c]⟩))) Hm (g c)) : EvD K (tLc (iStr t0) (gName i) tYes te vs) σ H (.list (z.cps.toList.map g)) := by
  have := evd_lcS (p := fun _ => true) h hn hw (fun _ _ _ => etp_yes) fun c Hm e _ => hb c Hm e
  rw [all_true] at this
  exact this
theorem evd_mapL {ds : List PyData} {g : PyData → PyData} (h : EvD K t0 σ H (.list ds)) (hn : ds.length ≤ 100000) (hw : ∀ x, wipe ((wipe σ vs).set i (some x)) vs = wipe σ vs)
    (hb : ∀ (k : Nat) d x Hm, ds[k]? = some d → Ex H Hm → Rp K Hm x d → EvD K te ((wipe σ vs).set i (some x)) Hm (g d)) : EvD K (tLc (iList K t0) (gName i) tYes te vs) σ H (.list (ds.map g)) := by
  have := evd_lcL (p := fun _ => true) h hn hw (fun _ _ _ _ _ _ _ => etp_yes) fun k d x Hm a b c _ => hb k d x Hm a b c
  rw [all_true] at this
  exact this
theorem evd_mapT {ds : List PyData} {g : PyData → PyData} (h : EvD K t0 σ H (.tuple ds)) (hn : ds.length ≤ 100000) (hw : ∀ x, wipe ((wipe σ vs).set i (some x)) vs = wipe σ vs)
    (hb : ∀ (k : Nat) d x Hm, ds[k]? = some d → Ex H Hm → Rp K Hm x d → EvD K te ((wipe σ vs).set i (some x)) Hm (g d)) : EvD K (tLc (iTup K t0) (gName i) tYes te vs) σ H (.list (ds.map g)) := by
  have := evd_lcT (p := fun _ => true) h hn hw (fun _ _ _ _ _ _ _ => etp_yes) fun k d x Hm a b c _ => hb k d x Hm a b c
  rw [all_true] at this
  exact this
theorem evd_mapZ {tz : TA} {d e : PyData} {ds es : List PyData} {g : PyData × PyData → PyData} (h : EvA1 K tz σ H [d, e]) (hd : (d = .list ds ∧ e = .list es) ∨ (d = .tuple ds ∧ e = .tuple es))
    (hn : ds.length ≤ 100000) (hw : ∀ x y, wipe (((wipe σ vs).set i (some x)).set j (some y)) vs = wipe σ vs)
    (hb : ∀ a b x y Hm, (a, b) ∈ ds.zip es → Ex H Hm → Rp K Hm x a → Rp K Hm y b → EvD K te (((wipe σ vs).set i (some x)).set j (some y)) Hm (g (a, b))) :
    EvD K (tLc (RZ.iZipA K tz) (gTup K 2 (gCons (gName i) (gCons (gName j) gNil))) tYes te vs) σ H (.list ((ds.zip es).map g)) := by
  have := evd_lcZ (p := fun _ => true) h hd hn hw (fun _ _ _ _ _ _ _ _ _ => etp_yes) fun a b x y Hm h1 h2 h3 h4 _ => hb a b x y Hm h1 h2 h3 h4
  rw [all_true] at this
  exact this
/-- over a range whose end is drawn -/
theorem evp_mapR {P0 P : PyData → Prop} {N : Int} (h : EvP K ta σ H P0) (hn : ∀ d, P0 d → ∃ n, d = .int n ∧ 0 ≤ n ∧ n ≤ N) (hN : N ≤ 100000) (hw : ∀ x, wipe ((wipe σ vs).set i (some x)) vs = wipe σ vs)
    (hb : ∀ (k : Nat) Hm, Ex H Hm → EvP K te ((wipe σ vs).set i (some (.int k))) Hm P) :
    EvP K (tLc (iRng1 (tCons ta tNil)) (gName i) tYes te vs) σ H (fun d => ∃ ds, d = .list ds ∧ (ds.length : Int) ≤ N ∧ P0 (.int ds.length) ∧ ∀ x ∈ ds, P x) := by
  intro H1 e Q q
  refine h H1 e _ fun v d Hk H2 g r p => ?_
  obtain ⟨n, rfl, h0, h1⟩ := hn d p
  cases r
  have := evp_lcR (K := K) (σ := σ) (H := Hk) (te := te) (i := i) (vs := vs) (ta := tCons (tC (.int n)) tNil) (n := n) (P := P) (eas1 evp_int eas_nil) ⟨h0, by omega⟩ hw (fun k Hm _ ek => hb k Hm (g.known.trans ek)) H2 g.sub Q ?_
  · exact this
  · rintro u z Hk3 H3 g3 r3 ⟨ds, rfl, hl, hx⟩
    exact q u _ Hk3 H3 (g.trans g3) r3 ⟨ds, rfl, by omega, by rw [hl]; exact p, hx⟩
end
/-! ### kinds of data that are drawn -/
mutual
/-- short texts of real signs, short sequences; no dict -/
def tidy : PyData → Bool
  | .str s => decide (s.length ≤ 1000) && PyData.strOk s
  | .list ds => decide (ds.length ≤ 1000) && tidyAll ds
  | .tuple ds => decide (ds.length ≤ 1000) && tidyAll ds
  | .dict _ => false
  | _ => true
def tidyAll : List PyData → Bool
  | [] => true
  | d :: ds => tidy d && tidyAll ds
end
theorem tidyAll_mem : ∀ {ds : List PyData}, tidyAll ds = true → ∀ d ∈ ds, tidy d = true
  | d :: ds, h, x, hx => by
    have h' : tidy d = true ∧ tidyAll ds = true := by simpa [tidyAll] using h
    rcases List.mem_cons.mp hx with rfl | hx
    · exact h'.1
    · exact tidyAll_mem h'.2 x hx
theorem tidyAll_of : ∀ {ds : List PyData}, (∀ d ∈ ds, tidy d = true) → tidyAll ds = true
  | [], _ => rfl
  | d :: ds, h => by
    simp only [tidyAll, Bool.and_eq_true]
    exact ⟨h d List.mem_cons_self, tidyAll_of fun x hx => h x (List.mem_cons_of_mem _ hx)⟩
mutual
theorem canLay_tidy : ∀ {d : PyData}, tidy d = true → d.canLay0 = true
  | .none, _ => rfl
  | .bool _, _ => rfl
  | .int _, _ => rfl
  | .str s, h => by
    have h' : s.length ≤ 1000 ∧ PyData.strOk s = true := by simpa [tidy] using h
    exact h'.2
  | .list ds, h => by
    have h' : ds.length ≤ 1000 ∧ tidyAll ds = true := by simpa [tidy] using h
    show PyData.canLayAll0 ds = true
    exact canLayAll_tidy h'.2
  | .tuple ds, h => by
    have h' : ds.length ≤ 1000 ∧ tidyAll ds = true := by simpa [tidy] using h
    show PyData.canLayAll0 ds = true
    exact canLayAll_tidy h'.2
  | .dict _, h => by simp [tidy] at h
theorem canLayAll_tidy : ∀ {ds : List PyData}, tidyAll ds = true → PyData.canLayAll0 ds = true
  | [], _ => rfl
  | d :: ds, h => by
    have h' : tidy d = true ∧ tidyAll ds = true := by simpa [tidyAll] using h
    simp only [PyData.canLayAll0, Bool.and_eq_true]
    exact ⟨canLay_tidy h'.1, canLayAll_tidy h'.2⟩
end
/-- tidy, or a dict -/
def Nice (d : PyData) : Prop := tidy d = true ∨ isDic d = true
theorem Nice.str {s : Str} (h : Nice (.str s)) : s.length ≤ 1000 ∧ PyData.strOk s = true := by
  rcases h with h | h
  · simpa [tidy] using h
  · cases h
theorem Nice.tup {ds : List PyData} (h : Nice (.tuple ds)) : ds.length ≤ 1000 ∧ ∀ d ∈ ds, Nice d := by
  rcases h with h | h
  · have h' : ds.length ≤ 1000 ∧ tidyAll ds = true := by simpa [tidy] using h
    exact ⟨h'.1, fun d hd => .inl (tidyAll_mem h'.2 d hd)⟩
  · cases h
/-! ### the words' plain functions -/
def isWhole (d : PyData) : Bool := isInt d && !isBool d
def within (d : PyData) (lo hi : Int) : Bool := match d with
  | .int i => decide (lo ≤ i) && decide (i ≤ hi)
  | _ => false
/-- the first number of 2001 digits -/
def BEY : Nat := 10 ^ 2000
theorem beyG (n m : Nat) : (true && decide ((n : Int) < (m : Int))) = decide (n < m) := by
  rw [Bool.true_and]
  exact decide_eq_decide.mpr Int.ofNat_lt
def isInteger (d : PyData) : Bool := match d with
  | .int i => decide (i.natAbs < BEY)
  | _ => false
def LETT : Str := "abcdefghijklmnopqrstuvwxyz"
def isLett (c : Nat) : Bool := decide (c ∈ LETT.cps.toList)
def okName (d : PyData) : Bool := match d with
  | .str s => (decide (1 ≤ (s.length : Int)) && decide ((s.length : Int) ≤ 4)) && s.cps.toList.all isLett
  | _ => false
def areNames (d : PyData) : Bool := match d with
  | .tuple ds => ds.all okName
  | _ => false
def ltS (a b : Str) : Bool := decide (a.cps.toList < b.cps.toList)
def ascS (ss : List Str) : Bool := (ss.zip (ss.drop 1)).all fun p => ltS p.1 p.2
def strOf : PyData → Str
  | .str s => s
  | _ => Str.empty
def strsOf : PyData → List Str
  | .tuple ds => ds.map strOf
  | .list ds => ds.map strOf
  | _ => []
def isLot (d : PyData) : Bool := areNames d && ascS (strsOf d)
def sizeIs (d : PyData) (n : Int) : Bool := match d with
  | .tuple ds => decide ((ds.length : Int) = n)
  | _ => false
def isPair (d : PyData) : Bool := isLot d && sizeIs d 2
theorem whole_int {d : PyData} (h : isWhole d = true) : ∃ i, d = .int i := by
  cases d <;> first | exact ⟨_, rfl⟩ | cases h
theorem okName_str {d : PyData} (h : okName d = true) : ∃ s, d = .str s := by
  cases d <;> first | exact ⟨_, rfl⟩ | cases h
theorem strs_map (ss : List Str) : (ss.map PyData.str).map strOf = ss := by
  rw [List.map_map]
  exact List.map_id'' (fun _ => rfl) ss
theorem all_strs : ∀ {ds : List PyData}, (∀ x ∈ ds, ∃ s, x = PyData.str s) → ∃ ss : List Str, ds = ss.map .str
  | [], _ => ⟨[], rfl⟩
  | d :: ds, h => by
    obtain ⟨s, rfl⟩ := h d List.mem_cons_self
    obtain ⟨ss, rfl⟩ := all_strs fun x hx => h x (List.mem_cons_of_mem _ hx)
    exact ⟨s :: ss, rfl⟩
theorem names_strs {d : PyData} (h : areNames d = true) : ∃ ss : List Str, d = .tuple (ss.map .str) := by
  cases d with
  | tuple ds =>
    have h' : ∀ x ∈ ds, okName x = true := List.all_eq_true.mp h
    obtain ⟨ss, rfl⟩ := all_strs fun x hx => okName_str (h' x hx)
    exact ⟨ss, rfl⟩
  | none => cases h
  | bool _ => cases h
  | int _ => cases h
  | str _ => cases h
  | list _ => cases h
  | dict _ => cases h
def ltD (p : PyData × PyData) : Bool := match p with
  | (.str a, .str b) => ltS a b
  | _ => false
theorem zip_strs (ss ts : List Str) : ((ss.map PyData.str).zip (ts.map PyData.str)).all ltD = (ss.zip ts).all fun p => ltS p.1 p.2 := by
  rw [List.zip_map, List.all_map]
  rfl
theorem pow10_ok {a b : Nat} (h : a + b ≤ 100000) : IntMulOk (10 ^ a) (10 ^ b) := by
  have l : ∀ k : Nat, ((10 : Int) ^ k).natAbs.log2 ≤ 4 * k := fun k => by
    have e : ((10 : Int) ^ k).natAbs = 10 ^ k := by
      rw [Int.natAbs_pow]
      rfl
    rw [e]
    have h1 : (10 : Nat) ^ k ≤ 2 ^ (4 * k) := by
      rw [Nat.pow_mul]
      exact Nat.pow_le_pow_left (by decide) k
    have h0 : (10 : Nat) ^ k ≠ 0 := Nat.ne_of_gt (Nat.pow_pos (by decide))
    have h2 : (10 : Nat) ^ k < 2 ^ (4 * k + 1) := Nat.lt_of_le_of_lt h1 (Nat.pow_lt_pow_right (by decide) (by omega))
    have := (Nat.log2_lt h0).mpr h2
    omega
  have m : CMulW (10 ^ a) (10 ^ b) := by
    have h1 := l a
    have h2 := l b
    show _ + _ < 1000000
    omega
  exact m.ok
end DL
/-! the rules with the written part named, so that a comprehension's block may use them -/
namespace DL
open PySem PySem.Spec PyProof.Rows L2 Evl
section
variable {X : Cx} {K : PySem.W.Frag}
theorem kAdd (h : X.K = K) : OpR X (binaryOp .Add) (rAddU K) := h ▸ opAdd
theorem kMul (h : X.K = K) : OpR X (binaryOp .Mult) (rMulU K) := h ▸ opMul
theorem kIn (h : X.K = K) (hu : X.A.units + 65 < cLine) : OpR X (compareOp .In) (rInU K) := h ▸ opIn hu
theorem kNi (h : X.K = K) (hu : X.A.units + 65 < cLine) : OpR X (compareOp .NotIn) (rNiU K) := h ▸ opNi hu
theorem kEq (h : X.K = K) (hu : X.A.units + 64 < cLine) : OpR X (compareOp .Eq) (rEqD K) := h ▸ op_eqD hu
theorem kNe (h : X.K = K) (hu : X.A.units + 64 < cLine) : OpR X (compareOp .NotEq) (rNeD K) := h ▸ op_neD hu
theorem kIx (h : X.K = K) : IxR X (rIx K) := h ▸ ix_seq
theorem kSl (h : X.K = K) : L2.SlR X (rSlU K) := h ▸ slU
theorem kLen (h : X.K = K) : CallR X (.builtin "len") (rLen K) := h ▸ call_len
theorem kIsi (h : X.K = K) : CallR X (.builtin "isinstance") (rIsi K) := h ▸ call_isi
theorem kAll (h : X.K = K) (hc : X.calm = true) : CallR X (.builtin "all") (rAll K) := h ▸ cr_all hc
theorem kAny (h : X.K = K) (hc : X.calm = true) : CallR X (.builtin "any") (rAny K) := h ▸ cr_any hc
theorem kSum (h : X.K = K) (hc : X.calm = true) : CallR X (.builtin "sum") (rSum K) := h ▸ cr_sum hc
theorem kSortS (h : X.K = K) : CallR X (.builtin "sorted") (rSortedS K) := h ▸ cr_sortedS
theorem kRepr (h : X.K = K) (hgd : X.A.guards = some []) (hu : X.A.units + 65 < cLine) : CallR X (.builtin "repr") (rRepr K) := h ▸ call_reprG hgd hu
theorem kTup (h : X.K = K) : CallR X (.type "tuple") (rTupOf K) := h ▸ call_tuple_of
theorem kLst (h : X.K = K) : CallR X (.type "list") (rLstOf K) := h ▸ call_list_of
theorem kpList {tg l : Expr} {tl : TE} (h : X.K = K) (hl : PE X l tl) : PI X tg l (iList K tl) := h ▸ pi_list hl
theorem kpTup {tg l : Expr} {tl : TE} (h : X.K = K) (hl : PE X l tl) : PI X tg l (iTup K tl) := h ▸ pi_tup hl
theorem kpZip {e e2 : Expr} {ta : TA} {p pos tpos : Pos} {elts : List Expr} {kk : Nat} (h : X.K = K) (hg : Gl X "zip") (hm : X.mg "zip" = none) (ha : PA X [e, e2] ta)
    (hs : starEach [e, e2] X.env = (false, eval e X.env) :: starEach [e2] X.env := by rfl)
    (hpl : (backTo pos (starEach [e2] X.env)).any (·.1) = false := by rfl) :
    PI X (.Tuple elts kk tpos) (.Call (.Name "zip" p) [e, e2] [] pos) (RZ.iZipA K ta) := h ▸ RZ.pi_zipA hg hm ha hs hpl
theorem kgTup {es : List Expr} {k : Nat} {pos : Pos} {t : TGs} {n : Nat} (h : X.K = K) (hc : X.calm = true) (hp : PGs X es t) (hn : (assignEach es X.env).length = n := by rfl)
    (hst : (assignEach es X.env).findIdx? (·.1) = none := by rfl) : PG X (.Tuple es k pos) (gTup K n t) := h ▸ pg_tup hc hp hn hst
theorem kJoin {o e : Expr} {to te : TE} {apos pos : Pos} (h : X.K = K) (ho : PE X o to) (he : PE X e te) (hs : starEach [e] X.env = [(false, eval e X.env)] := by rfl)
    (hbase : attributeBase o "join" X.env (eval o X.env) = eval o X.env := by rfl) (hline : (apos.endLine == pos.line) = true := by rfl) : PE X (.Call (.Attribute o "join" apos) [e] [] pos) (tM1 (rJoin K) to te) := h ▸ pe_join ho he hs hbase hline
end
end DL
/-! further pieces: weakening, new lists that are changed, a bag made, dicts written, fine data -/
namespace DL
open PySem PySem.Spec PyProof.Rows L2 Evl
section
variable {K : PySem.W.Frag} {σ : L2.St} {H H1 : Hp} {te ta tb tv : TE} {tz : TS} {D : Ends} {P P1 P2 : PyData → Prop} {d1 d2 : PyData}
theorem RD.weak {r : R2} (h : RD K r d1 d2 P1) (w : ∀ z, P1 z → P2 z) : RD K r d1 d2 P2 := fun v1 v2 H H1 e r1 r2 Q q => h v1 v2 H H1 e r1 r2 Q fun v d Hk H2 g r p => q v d Hk H2 g r (w d p)
theorem RCD.weak {r : List V → Hp → VK → Prop} {ds : List PyData} (h : RCD K r ds P1) (w : ∀ z, P1 z → P2 z) : RCD K r ds P2 := fun vs H H1 e r1 Q q => h vs H H1 e r1 Q fun v d Hk H2 g r p => q v d Hk H2 g r (w d p)
theorem evp_cb1 {rr : List V → Hp → VK → Prop} (h : EvP K ta σ H P1) (hr : ∀ d, P1 d → RCD K rr [d] P) : EvP K (tCB rr (tCons ta tNil)) σ H P :=
  evp_cb (eas_cons h eas_nil) fun ds p => by
    obtain ⟨d, es, rfl, p1, rfl⟩ := p
    exact hr d p1
/-- a drawn item of written ones -/
theorem evp_pick {E : XK} {i : Nat} {b : Addr} {d : PyData} (hi : σ[i]? = some (some (.ref b))) (hb : H b = some (BagO b)) (h : EvD K ta σ H d) (h0 : items d ≠ []) (h1 : (items d).length ≤ 100000) :
    EvP K (tCall (spB1 K pickPre pickPost) [] E (tCons (tVar i) (tCons ta tNil))) σ H (fun z => z ∈ items d) := evd_B1 hi hb h ⟨h0, h1⟩
/-- a drawn number below n -/
theorem evp_drawn {E : XK} {i : Nat} {b : Addr} {n : Int} (hi : σ[i]? = some (some (.ref b))) (hb : H b = some (BagO b)) (h : EvD K ta σ H (.int n)) (h0 : 0 < n) (h1 : n.natAbs.log2 < 1000) :
    EvP K (tCall (spB1 K drawPre drawPost) [] E (tCons (tVar i) (tCons ta tNil))) σ H (fun z => ∃ k, z = .int k ∧ 0 ≤ k ∧ k < n) :=
  EvP.weak (evd_B1 hi hb h ⟨n, rfl, h0, h1⟩) fun z ⟨k, m, e1, e2, h2, h3⟩ => by
    cases e2
    exact ⟨k, e1, h2, h3⟩
/-- x = [..], a list that will be changed: it stands at p and is not told -/
theorem st_newList {tr : TA} {i : Nat} {P : List PyData → Prop} (h : EvAs K tr σ H P) (hl : ∀ ds, P ds → ds.length ≤ 100000) (ex : Ex H H1)
    (k : ∀ p vs ds Hk H2, Grow H H1 Hk H2 → RpAll K Hk vs ds → P ds → Hk p = none → H2 p = some (.lst vs) → H1 p = none → tz D (σ.set i (some (.ref p))) H2) : tSeq (tAsg (tLst tr) (gName i)) tz D σ H1 := by
  refine h H1 ex _ fun vs ds Hk H2 g r p => ⟨sz_of (by rw [r.len]; exact hl ds p), fun a ha => ?_⟩
  exact k a vs ds Hk _ (g.trans (Grow.hide g.sub ha _)) r p (ex_none g.sub ha) upd_same (ex_none g.all ha)
/-- xs.append(e), xs at p, not told -/
theorem st_append {i : Nat} {p : Addr} {xs : List V} (hi : σ[i]? = some (some (.ref p))) (h : EvP K te σ H P) (ex : Ex H H1) (hk : H p = none) (hp : H1 p = some (.lst xs)) (hz : xs.length < 100000)
    (k : ∀ v d Hk H2, Grow H H1 Hk H2 → Rp K Hk v d → P d → Hk p = none → H2 p = some (.lst xs) → tz D σ (upd H2 p (.lst (xs ++ [v])))) : tSeq (tDrop (tBM K "list" rAppend (tVar i) (tCons te tNil))) tz D σ H1 := by
  refine ⟨.ref p, hi, .inl ⟨rfl, xs, .inl (.inl hp)⟩, ?_⟩
  refine h H1 ex _ fun v d Hk H2 g r q => ?_
  have hp2 := g.all _ _ hp
  exact ⟨p, xs, v, rfl, rfl, hp2, sz_lt hz, k v d Hk H2 g r q (g.unk hk hp) hp2⟩
theorem st_appendL {i : Nat} {p : Addr} {xs : List V} (hi : σ[i]? = some (some (.ref p))) (h : EvP K te σ H P) (ex : Ex H H1) (hk : H p = none) (hp : H1 p = some (.lst xs)) (hz : xs.length < 100000)
    (k : ∀ v d Hk H2, Grow H H1 Hk H2 → Rp K Hk v d → P d → Hk p = none → H2 p = some (.lst xs) → D.nx σ (upd H2 p (.lst (xs ++ [v])))) : tDrop (tBM K "list" rAppend (tVar i) (tCons te tNil)) D σ H1 := by
  refine ⟨.ref p, hi, .inl ⟨rfl, xs, .inl (.inl hp)⟩, ?_⟩
  refine h H1 ex _ fun v d Hk H2 g r q => ?_
  have hp2 := g.all _ _ hp
  exact ⟨p, xs, v, rfl, rfl, hp2, sz_lt hz, k v d Hk H2 g r q (g.unk hk hp) hp2⟩
/-- a list at p that was not told is told -/
theorem tell {Hk H2 : Hp} {p : Addr} {o : HO} (e : Ex Hk H2) (hk : Hk p = none) (hp : H2 p = some o) : Ex Hk (upd Hk p o) ∧ Ex (upd Hk p o) H2 :=
  ⟨Ex.new hk, fun a u h => by
    by_cases ha : a = p
    · subst ha
      rw [upd_same] at h
      cases h
      exact hp
    · rw [upd_ne ha] at h
      exact e a u h⟩
theorem grow_tell {H H1 Hk H2 : Hp} {p : Addr} {o : HO} (g : Grow H H1 Hk H2) (hk : Hk p = none) (h1 : H1 p = none) : Grow H H1 (upd Hk p o) (upd H2 p o) :=
  ⟨g.known.trans (Ex.new hk), ex_upd g.sub p o, g.all.mut h1, fun a u h n => by
    by_cases ha : a = p
    · subst ha
      exact h1
    · rw [upd_ne ha] at h
      exact g.fresh a u h n⟩
theorem told_list {Hk : Hp} {p : Addr} {vs : List V} {ds : List PyData} (r : RpAll K Hk vs ds) (hk : Hk p = none) : Rp K (upd Hk p (.lst vs)) (.ref p) (.list ds) := .lst (sq_of upd_same) (r.mono (Ex.new hk))
theorem RpAll.snoc {Hk : Hp} {vs : List V} {ds : List PyData} {v : V} {d : PyData} (r : RpAll K Hk vs ds) (q : Rp K Hk v d) : RpAll K Hk (vs ++ [v]) (ds ++ [d]) := r.append (.cons q .nil)
/-- bag = _law_bag(script, at) -/
theorem st_bag {i j l : Nat} {a : Addr} {ns : List Int} {n : Int} {E : XK} (h0 : σ[i]? = some (some (.ref a))) (h1 : σ[j]? = some (some (.int n))) (hS : SqL K H a (ns.map V.int)) (hl : ns.length ≤ 63) (hn : 0 ≤ n ∧ n < 100) (ex : Ex H H1)
    (k : ∀ p Hk H2, Grow H H1 Hk H2 → Hk p = some (BagO p) → tz D (σ.set l (some (.ref p))) H2) : tSeq (tAsg (tCall (spNewBag K) [] E (tCons (tVar i) (tCons (tVar j) tNil))) (gName l)) tz D σ H1 :=
  ⟨.ref a, h0, .int n, h1, H, a, ns, n, rfl, ex, hS, hl, hn.1, hn.2, k⟩
theorem evd_dnew : EvD K tDNewK σ H (.dict []) := fun H1 e Q q p hp => q (.ref p) (.dict []) _ _ (Grow.new e hp _) (.dic upd_same .nil) rfl
theorem evd_dict1 {k : Str} {d : PyData} (h : EvD K tv σ H d) : EvD K (tDisp [(tC (.str k), tv)]) σ H (.dict [(.str k, d)]) := by
  intro H1 e Q q p hp
  refine h _ (e.trans (Ex.new hp)) _ fun v d' Hk H2 g r e' => ?_
  subst e'
  have hp2 : H2 p = some (.dK []) := g.all _ _ upd_same
  have hk : Hk p = none := g.unk (ex_none e hp) upd_same
  refine ⟨hp2, [(Sum.inr k, v)], rfl, (by show 1 ≤ 15; decide), ?_⟩
  have g2 : Grow H H1 (upd Hk p (.dK (mergeK [] [(Sum.inr k, v)]))) (upd H2 p (.dK (mergeK [] [(Sum.inr k, v)]))) :=
    ⟨g.known.trans (Ex.new hk), ex_upd g.sub p _, fun a u ha => by
      by_cases hap : a = p
      · subst hap
        rw [hp] at ha
        cases ha
      · rw [upd_ne hap]
        exact g.all a u (by rw [upd_ne hap]; exact ha), fun a u ha n => by
      by_cases hap : a = p
      · subst hap
        exact hp
      · rw [upd_ne hap] at ha
        have := g.fresh a u ha n
        rw [upd_ne hap] at this
        exact this⟩
  refine q (.ref p) _ _ _ g2 (.dic upd_same ?_) rfl
  exact .cons (r.mono (Ex.new hk)) .nil
end
/-- the law's own promise -/
def spLaw (K : PySem.W.Frag) : Sp := fun vs H1 Q _ => ∃ H a ns, vs = [.ref a] ∧ Ex H H1 ∧ SqL K H a ((ns : List Int).map V.int) ∧ ns.length ≤ 63 ∧ ∀ H2, Q (.bl true) H2
/-! fine data: nice and not deep -/
def Fine (d : PyData) : Prop := Nice d ∧ d.depth ≤ 10
def fineB (d : PyData) : Bool := (tidy d || isDic d) && decide (d.depth ≤ 10)
theorem Fine.of {d : PyData} (h : fineB d = true) : Fine d := by
  unfold fineB at h
  rw [Bool.and_eq_true, Bool.or_eq_true] at h
  exact ⟨h.1, of_decide_eq_true h.2⟩
theorem depthAll_le : ∀ {ds : List PyData} {n : Nat}, (∀ d ∈ ds, d.depth ≤ n) → PyData.depthAll ds ≤ n
  | [], n, _ => Nat.zero_le n
  | d :: ds, n, h => by
    show max d.depth (PyData.depthAll ds) ≤ n
    exact Nat.max_le.mpr ⟨h d List.mem_cons_self, depthAll_le fun x hx => h x (List.mem_cons_of_mem _ hx)⟩
theorem depth_mem : ∀ {ds : List PyData} {d : PyData}, d ∈ ds → d.depth ≤ PyData.depthAll ds
  | x :: ds, d, h => by
    show d.depth ≤ max x.depth (PyData.depthAll ds)
    rcases List.mem_cons.mp h with rfl | h
    · exact Nat.le_max_left _ _
    · exact Nat.le_trans (depth_mem h) (Nat.le_max_right _ _)
theorem canLayAll_of : ∀ {ds : List PyData}, (∀ d ∈ ds, d.canLay0 = true) → PyData.canLayAll0 ds = true
  | [], _ => rfl
  | d :: ds, h => by
    simp only [PyData.canLayAll0, Bool.and_eq_true]
    exact ⟨h d List.mem_cons_self, canLayAll_of fun x hx => h x (List.mem_cons_of_mem _ hx)⟩
/-- a list of data that may be compared -/
theorem shaped_list {ds : List PyData} (h : ∀ d ∈ ds, d.canLay0 = true ∧ d.depth ≤ 60) : SeqAt.shaped (.list ds) = true := by
  unfold SeqAt.shaped
  rw [Bool.and_eq_true]
  refine ⟨canLayAll_of fun d hd => (h d hd).1, decide_eq_true ?_⟩
  show PyData.depthAll ds + 1 ≤ 64
  have := depthAll_le (n := 60) fun d hd => (h d hd).2
  omega
theorem shaped_tuple {ds : List PyData} (h : ∀ d ∈ ds, d.canLay0 = true ∧ d.depth ≤ 60) : SeqAt.shaped (.tuple ds) = true := by
  unfold SeqAt.shaped
  rw [Bool.and_eq_true]
  refine ⟨canLayAll_of fun d hd => (h d hd).1, decide_eq_true ?_⟩
  show PyData.depthAll ds + 1 ≤ 64
  have := depthAll_le (n := 60) fun d hd => (h d hd).2
  omega
theorem shaped_str {s : Str} (h : PyData.strOk s = true) : SeqAt.shaped (.str s) = true := by
  unfold SeqAt.shaped
  rw [Bool.and_eq_true]
  exact ⟨h, rfl⟩
theorem eqv_nil (ds : List PyData) : PyData.eqv (.list ds) (.list []) = ds.isEmpty := by cases ds <;> simp [PyData.eqv, PyData.eqvAll]
theorem Fine.tup {ds : List PyData} (h : Fine (.tuple ds)) : ∀ d ∈ ds, Fine d ∧ d.canLay0 = true := by
  intro d hd
  have hdep : d.depth ≤ 10 := Nat.le_trans (Nat.le_trans (depth_mem hd) (Nat.le_succ _)) h.2
  rcases h.1 with ht | ht
  · have h' : ds.length ≤ 1000 ∧ tidyAll ds = true := by simpa [tidy] using ht
    have := tidyAll_mem h'.2 d hd
    exact ⟨⟨.inl this, hdep⟩, canLay_tidy this⟩
  · cases ht
theorem isLett_iff (c : Nat) : isLett c = (decide (97 ≤ c) && decide (c ≤ 122)) := by
  have e : LETT.cps.toList = List.range' 97 26 := by decide +kernel
  unfold isLett
  rw [e, Bool.eq_iff_iff, decide_eq_true_iff, Bool.and_eq_true, decide_eq_true_iff, decide_eq_true_iff, List.mem_range'_1]
  omega
theorem lt_one (a b : Nat) : decide (([a] : List Nat) < [b]) = decide (a < b) := by
  rw [Bool.eq_iff_iff, decide_eq_true_iff, decide_eq_true_iff, List.cons_lt_cons_iff]
  simp
theorem strOk_iff {s : Str} : PyData.strOk s = true ↔ ∀ c ∈ s.cps.toList, c < 0x110000 := by
  unfold PyData.strOk
  rw [Array.all_eq_true_iff_forall_mem]
  constructor
  · intro h c hc
    exact of_decide_eq_true (h c (by simpa using hc))
  · intro h c hc
    exact decide_eq_true (h c (by simpa using hc))
theorem join_strOk {ys : List Str} (h : ∀ y ∈ ys, PyData.strOk y = true) : PyData.strOk (Txt.join Str.empty ys) = true := by
  rw [strOk_iff]
  intro c hc
  have e : Txt.join Str.empty ys = Str.join Str.empty ys := StrLaws.glued_eq_join _ _
  rw [e, mem_join] at hc
  rcases hc with ⟨t, ht, hc⟩ | ⟨_, hc⟩
  · exact strOk_iff.mp (h t ht) c hc
  · simp [Str.empty] at hc
theorem join_len {ys : List Str} : (Txt.join Str.empty ys).length ≤ (ys.map (·.length)).sum := by
  have e : Txt.join Str.empty ys = Str.join Str.empty ys := StrLaws.glued_eq_join _ _
  rw [e]
  have := StrLaws.join_length_le Str.empty ys
  simpa [Str.empty, Str.length] using this
theorem sum_le_mul {ns : List Nat} {m : Nat} (h : ∀ n ∈ ns, n ≤ m) : ns.sum ≤ ns.length * m := by
  induction ns with
  | nil => simp
  | cons n ns ih =>
    have h1 := h n List.mem_cons_self
    have h2 := ih fun x hx => h x (List.mem_cons_of_mem _ hx)
    rw [List.sum_cons, List.length_cons, Nat.succ_mul]
    omega
/-- signs of a text, as texts -/
theorem signs_of {s : Str} (hs : PyData.strOk s = true) : ∀ {ds : List PyData}, (∀ x ∈ ds, x ∈ items (.str s)) → ∃ ys : List Str, ds = ys.map .str ∧ ys.length = ds.length ∧ (∀ y ∈ ys, y.length = 1 ∧ PyData.strOk y = true)
  | [], _ => ⟨[], rfl, rfl, fun y hy => nomatch hy⟩
  | d :: ds, h => by
    obtain ⟨c, hc, rfl⟩ := List.mem_map.mp (h d List.mem_cons_self)
    obtain ⟨ys, rfl, hl, hy⟩ := signs_of hs fun x hx => h x (List.mem_cons_of_mem _ hx)
    refine ⟨⟨#[c]⟩ :: ys, rfl, (by rw [List.length_cons, List.length_cons, hl, List.length_map]), fun y hy' => ?_⟩
    rcases List.mem_cons.mp hy' with rfl | hy'
    · refine ⟨rfl, strOk_iff.mpr fun x hx => ?_⟩
      have : x = c := List.mem_singleton.mp hx
      rw [this]
      exact strOk_iff.mp hs c hc
    · exact hy y hy'
end DL
/-! tables of code objects, not told; the first place in an enumeration that passes a test -/
namespace DL
open PySem PySem.Spec PyProof.Rows L2 Evl
/-- the table of code objects at P, whatever it holds -/
def TabO (P : Addr) : HO := .ext fun h => ∃ qs : Array Value, h.get? P = some { cls := .none, data := .fields qs } ∧ TriplesOk qs.toList
theorem tabO_own {P x : Addr} : TabO P ≠ .own x := fun z => by
  unfold TabO at z
  cases z
theorem tabO_ok {Pg : Program} {w : World} {H : Hp} {h : Heap} {P : Addr} {qs : Array Value} (e : h.get? P = some { cls := .none, data := .fields qs }) (t : TriplesOk qs.toList) : ObjOk Pg w H h P (TabO P) :=
  ⟨⟨qs, e, t⟩, ⟨_, e⟩, fun _ _ z st => let ⟨us, a, b⟩ := z; ⟨us, st _ a, b⟩⟩
section
variable {X : Cx} {pins : List (Addr × Obj)} {σ : L2.St} {H : Hp} {s : Shared} {P : Addr}
theorem tabO_get (I : Inv X pins σ H s) (hP : H P = some (TabO P)) : ∃ qs : Array Value, s.heap.get? P = some { cls := .none, data := .fields qs } ∧ TriplesOk qs.toList := by
  have z := I.hok P _ hP
  exact z.1
theorem inv_tabO {qs : Array Value} {h' : Heap} {g' : Array GenState} {d' : Drawn} {t' : Nat} (I : Inv X pins σ H s) (hP : H P = some (TabO P)) (k : ∀ b o, b ≠ P → s.heap.get? b = some o → h'.get? b = some o)
    (hm : h'.get? P = some { cls := .none, data := .fields qs }) (ht : TriplesOk qs.toList) (hg : AllBare g') : Inv X pins σ H { s with heap := h', gens := g', drawn := d', toks := t' } := by
  have nP : ∀ {b : Addr}, H b = none → b ≠ P := by
    rintro b e rfl
    rw [hP] at e
    cases e
  refine I.step (ch := []) (fun b hb => nomatch hb) (fun b o _ _ _ e n => k b o (nP n) e) (fun b o _ _ _ e n => ⟨o.slots, k b o (nP n) e⟩) (fun _ _ _ _ n => n) (fun b o _ e => ?_) (fun _ _ e => e) (fun _ _ _ e => e)
    (fun b ps e => ⟨#[], by rw [Array.append_empty]; exact e⟩) (fun m hn => ?_) (fun b u e => ?_) hg
  · by_cases hb : b = P
    · subst hb
      exact ⟨_, hm⟩
    · exact ⟨o, k b o hb e⟩
  · obtain ⟨ob, es, ep, ho, r⟩ := hn
    exact ⟨ob, es, ep, k _ ob (nP I.free) ho, r⟩
  · by_cases hb : b = P
    · subst hb
      rw [hP] at e
      cases e
      exact tabO_ok hm ht
    · refine (I.hok b u e).stay (fun d v hd q => k d v ?_ q) (fun _ q => q) (fun _ _ q => q)
      rintro rfl
      rcases hd with z | z
      · exact hb z.symm
      · rw [hP] at z
        cases z
end
end DL
namespace DL
open PySem PySem.Spec PyProof.Rows L2 Evl
/-- the expression's own scope: two names bound, one captured -/
structure GenT (env : Env) (sc : Scope) (xa xb xc : Str) : Prop where
  kind : sc.kind = .function
  co : sc.isCoroutine = false
  cell : ∀ y ∈ sc.names, y.2 ≠ .cell
  dot : sc.names.lookup (".0" : Str) = some NameKind.local
  la : sc.names.lookup xa = some .local
  lb : sc.names.lookup xb = some .local
  ne : xa ≠ xb
  lc : sc.names.lookup xc = some .free
  mc : (xc, NameKind.free) ∈ sc.names
  free : ∀ y ∈ sc.names, y.2 = .free → ∃ c, env.cells.lookup y.1 = some c
section
variable {Pg : Program} {w : World}
theorem keeps_tk (s : Shared) (k : Nat) : Keeps s { s with toks := k } := ⟨s.heap, k, rfl, fun _ _ e => e⟩
/-- row[column] != 0 -/
theorem led_test {cenv : Env} {A : Around} {E : Value → Shared → Prop} {s : Shared} {m : Str → Option Value} {xb xc : Str} {c r : Addr} {its : Array Value} {j : Nat} {n : Int} {t t' : Tok} {k0 : Nat} {p1 p2 p3 p4 p5 : Pos}
    (hk : cenv.scope.kind = .function) (hb : cenv.scope.names.lookup xb = some .local) (hc : cenv.scope.names.lookup xc = some .free) (hcl : cenv.cells.lookup xc = some c) (hn : s.heap.Ns cenv.locals m) (hm : m xb = some (.ref r))
    (hcell : s.heap.IsCell c (some (.int (j : Int) t))) (hl : s.heap.IsList r its) (hj : (j : Int) < 2 ^ 63) (hx : its[j]? = some (.int n t'))
    (hd1 : (xb == ("__debug__" : Str)) = false := by decide) (hd2 : (xc == ("__debug__" : Str)) = false := by decide) (hd3 : (xc == ("__classdict__" : Str)) = false := by decide) :
    wpAny (model Pg w) A (forIn [Expr.Compare (.Subscript (.Name xb p1) (.Name xc p2) p3) [.NotEq] [.Constant (.int 0) k0 p4] p5] true fun c r => if r = true then do let ok ← isTrue c cenv (eval c cenv); pure (ForInStep.yield ok) else pure (ForInStep.yield r))
      (fun ok s3 => ok = (n != 0) ∧ Keeps s s3) E s := by
  simp only [List.forIn_cons, List.forIn_nil, if_true]
  refine wpAny_bind (wpAny_bind ?_)
  refine wpAny_isTrue_Compare1 ?_ (by rfl)
  refine wpAny_Subscript_Name_late ?_
  refine wpAny_Name (wpAny_loadName_local hk hb hn hm ?_) hd1
  refine wpAny_Name (wpAny_loadName_free hk hc hcl hcell ?_ hd3) hd2
  refine ⟨"list", _, slot_list_getitem.lookup, hl.typeIs, ?_⟩
  refine wpAny_getItem_list hl (Int.natCast_nonneg j) hj hx ?_
  refine wpAny_Constant_int ?_
  refine PySem.P.ne_int ?_
  refine wpAny_truthy_bool ?_
  exact wpAny_pure (wpAny_pure ⟨rfl, keeps_tk _ _⟩)
end
end DL
namespace DL
open PySem PySem.Spec PyProof.Rows L2 Evl
/-- the rows at xs -/
def Led (K : PySem.W.Frag) (H : Hp) (xs : List V) (rows : List (List Int)) : Prop := xs.length = rows.length ∧ ∀ (i : Nat) (v : V), xs[i]? = some v → ∃ r row, rows[i]? = some row ∧ v = .ref r ∧ SqL K H r ((row : List Int).map V.int)
def ledAt (rows : List (List Int)) (j : Nat) (i : Nat) : Bool := match rows[i]? with
  | some r => r.getD j 0 != 0
  | none => false
/-- the first row with a number other than 0 at j -/
def ledOf (rows : List (List Int)) (j : Nat) : Option Nat := ((List.range rows.length).filter (ledAt rows j)).head?
theorem near {b n m : Nat} (h : b = n + 1 ∨ b = n ∨ b < n) (hm : n + 2 ≤ m) : b < m := by omega
theorem old_ne {b n : Nat} (h : b < n) : ¬ (b = n + 1 ∨ b = n) := by omega
theorem old_ne3 {b n m : Nat} (h : b < n) (hm : n + 2 ≤ m) : ¬ (b = m ∨ b = n + 1 ∨ b = n) := by omega
section
variable {X : Cx} {pins : List (Addr × Obj)} {σ : L2.St} {H : Hp} {s : Shared}
/-- the generator g, ready, in the state s5 -/
def ReadyT (X : Cx) (pins : List (Addr × Obj)) (σ : L2.St) (H1 : Hp) (rows : List (List Int)) (j : Nat) (g : Addr) (s5 : Shared) : Prop :=
  ∃ (fp wr : List Addr) (G : Array GenState → Array GenState → Prop) (F : Nat → Value → Prop) (St : Nat → Shared → Prop),
    WalksS X.prog X.w X.A.in1 g fp wr G ((List.range rows.length).filter (ledAt rows j)).length F St ∧ St 0 s5 ∧ s5.TypeIs (.ref g) "generator" ∧
    (∀ v, F 0 v → ∃ (i : Nat) (t : Tok), ledOf rows j = some i ∧ v = .int (i : Int) t) ∧ ∀ s', Moved wr G s5 s' → Inv X pins σ H1 s'
theorem gen_led {c P : Addr} {it : Expr} {xa xb xc : Str} {ci k kt k0 : Nat} {p0 pa pb pt pe pc p1 p2 p3 p4 p5 gpos : Pos} {scope : Scope} {ti : TA} {Q' : Value → Shared → Prop} {R : List (List Int) → Nat → Hp → Prop}
    (hr : Room k X.A) (TB : GxR.TabB X.base X.mg c P) (hcode : X.env.code = .ref c) (S : GenT X.env scope xa xb xc) (hge : Gl X "enumerate") (hme : X.mg "enumerate" = none) (hi : PA X [it] ti) (hN : X.N[ci]? = some xc) (hkc : X.env.kindOf xc = some .cell)
    (hst : starEach [it] X.env = [(false, eval it X.env)])
    (hd1 : (xb == ("__debug__" : Str)) = false) (hd2 : (xc == ("__debug__" : Str)) = false) (hd3 : (xc == ("__classdict__" : Str)) = false) (hd4 : (xa == ("__debug__" : Str)) = false)
    (I : Inv X pins σ H s) (h : ti σ H fun vs H1 => ∃ (a : Addr) (xs : List V) (rows : List (List Int)) (j : Nat), vs = [.ref a] ∧ SqL X.K H1 a xs ∧ Led X.K H1 xs rows ∧ σ[ci]? = some (some (.int (j : Int))) ∧ (j : Int) < 2 ^ 62 ∧ (∀ r ∈ rows, j < r.length) ∧
      H1 P = some (TabO P) ∧ R rows j H1)
    (hQ : ∀ rows j H1 g s5, R rows j H1 → ReadyT X pins σ H1 rows j g s5 → Q' (.ref g) s5) :
    wpAny (model X.prog X.w) X.A (eval (.GeneratorExp (.Name xa p0) [⟨.Tuple [.Name xa pa, .Name xb pb] kt pt, .Call (.Name "enumerate" pe) [it] [] pc, [Expr.Compare (.Subscript (.Name xb p1) (.Name xc p2) p3) [.NotEq] [.Constant (.int 0) k0 p4] p5], 0⟩] scope gpos) X.env) Q' X.xe s := by
  refine wpAny_GeneratorExp_walksQT hr.hd S.co (closure_ok S.free) S.cell S.dot S.la S.lb S.ne S.kind (by have := hr.dp; omega) ?_ (fun _ => rfl)
  refine Call_ (ld_blt I hge hme boot_enumerate (PyProof.Rows.callWith_type1 (thn (hi.run pc pins s σ H _ I h) fun us s1 ⟨vs, H1, I1, r1, q1⟩ => ?_) hst rfl))
  obtain ⟨a, xs, rows, j, rfl, hq, ⟨hlen, hat⟩, hσ, hj, hw, hP, q⟩ := q1
  obtain ⟨u0, rfl, ru⟩ := vals1 r1
  obtain rfl : u0 = Value.ref a := ru
  obtain ⟨its, rv, pl, hz⟩ := I1.list hq
  obtain ⟨qs, hPs, ht⟩ := tabO_get I1 hP
  have hlen2 : its.length = rows.length := by rw [← rv.length, hlen]
  -- the cell
  obtain ⟨m1, hns1, hl1⟩ := id I1.loc
  obtain ⟨uj, rj, look⟩ := hl1 ci xc _ hN hσ (.inr (.inl hkc))
  obtain ⟨tj, rfl⟩ : ∃ t, uj = .int (j : Int) t := rj
  obtain ⟨cc, hcc, hcell⟩ : ∃ cc, X.env.cells.lookup xc = some cc ∧ s1.heap.IsCell cc (some (.int (j : Int) tj)) := by
    rcases look with ⟨z, _⟩ | ⟨_, cc, z1, z2⟩
    · rw [hkc] at z
      cases z
    · exact ⟨cc, z1, z2⟩
  -- the rows
  have hrow : ∀ (i : Nat) (v : Value), its.toArray[i]? = some v → ∃ (r : Addr) (row : List Int) (rs : List Value) (t : Tok), rows[i]? = some row ∧ v = .ref r ∧ s1.heap.IsList r rs.toArray ∧ rs.toArray[j]? = some (.int (row.getD j 0) t) := by
    intro i v hv
    have hv2 : its[i]? = some v := by rw [← List.getElem?_toArray]; exact hv
    have hi2 : i < xs.length := by rw [rv.length]; exact (List.getElem?_eq_some_iff.mp hv2).1
    obtain ⟨u, hu, ru⟩ := rv.get (List.getElem?_eq_getElem hi2)
    rw [hv2] at hu
    cases hu
    obtain ⟨r, row, e1, e2, e3⟩ := hat i _ (List.getElem?_eq_getElem hi2)
    rw [e2] at ru
    obtain rfl : v = Value.ref r := ru
    obtain ⟨rs, rv2, pl2, _⟩ := I1.list e3
    have hjr : j < row.length := hw row (List.mem_of_getElem? e1)
    have ej : (row.map V.int)[j]? = some (V.int (row.getD j 0)) := by
      rw [List.getElem?_map, List.getD_eq_getElem?_getD, List.getElem?_eq_getElem hjr]
      rfl
    obtain ⟨u, hu, ru⟩ := rv2.get ej
    obtain ⟨t, rfl⟩ : ∃ t, u = .int (row.getD j 0) t := ru
    exact ⟨r, row, rs, t, e1, rfl, pl2.isList, by rw [List.getElem?_toArray]; exact hu⟩
  refine call_enumerate_list pl.isList fun h2 hen hit hsz hk => wpAny_pyIter_enum hen ?_
  have hPlt : P < s1.heap.objs.size := Heap.lt_size hPs
  have hP2 := hk _ _ hPs
  have cd : PySem.W.CodeHd h2 c P := TB.code.keeps fun b u e => hk _ _ (I1.bk b u e)
  have lim2 : h2.NoLimit := I1.nolimit.keeps hk
  have halt : a < s1.heap.objs.size := by
    obtain ⟨_, e, _⟩ := pl.isList
    exact Heap.lt_size e
  have cont : ∀ (code : Value) (h3 : Heap) (tk : Nat) (qs' : Array Value), Heap.ExtBut P h2 h3 → h2.objs.size ≤ h3.objs.size → h3.get? P = some { cls := .none, data := .fields qs' } → TriplesOk qs'.toList →
      wpAny (model X.prog X.w) X.A (builtinsFor X.env.globals X.env.builtins) (fun bi s4 =>
        ∃ Ia fp wr n0 Pt St0 Mid pz F, Value.ref (s1.heap.objs.size + 1) = .ref Ia ∧ (∀ A' : Around, A'.handled = none → WalksU X.prog X.w A' Ia fp wr n0 Pt St0 Mid) ∧ (∀ i vals, Pt i vals → ∃ va vb, vals = #[va, vb]) ∧ St0 0 s4.heap ∧ (∀ b ∈ fp, b < s4.heap.objs.size) ∧ s4.heap.NoLimit ∧ cStatics ∉ wr ∧
          (∀ href : Heap, (∀ b o, s4.heap.get? b = some o → href.get? b = some o) →
            QuietGenT X.prog X.w (genEnv scope (cloFrom X.env.cells scope.names []) s4.heap.objs.size code bi X.env) xa xb [Expr.Compare (.Subscript (.Name xb p1) (.Name xc p2) p3) [.NotEq] [.Constant (.int 0) k0 p4] p5] (.Name xa p0) (List.range s4.heap.objs.size) wr Pt pz F href) ∧
          (∀ a h5 tk gs, gs.bare = true → s4.heap.objs.size < a → h5.objs.size = a + 1 → (∀ b o, s4.heap.get? b = some o → h5.get? b = some o) →
            WalksS X.prog X.w X.A.in4 a (a :: s4.heap.objs.size :: List.range s4.heap.objs.size) (s4.heap.objs.size :: wr) (GenOnlyQ s4.gens.size) (passing pz n0 0).length
              (fun j y => ∃ i, (passing pz n0 0)[j]? = some i ∧ F i y) (GenAt X.prog X.w X.A.in4 a s4.gens.size s4.heap.objs.size (List.range s4.heap.objs.size) wr pz n0 F) →
            GenAt X.prog X.w X.A.in4 a s4.gens.size s4.heap.objs.size (List.range s4.heap.objs.size) wr pz n0 F 0 { s4 with gens := s4.gens.push gs, toks := tk, heap := h5 } →
            Q' (.ref a) { s4 with gens := s4.gens.push gs, toks := tk, heap := h5 })) X.xe { s1 with heap := h3, toks := tk } := by
    intro code h3 tk qs' hx hge3 hP3 ht3
    obtain ⟨bm, ob, e1, e2, e3, e4, e5, e6, e7, e8⟩ := TB.bm
    have nPof : ∀ {b : Addr} {o : Obj}, s1.heap.get? b = some o → (∀ us, o.data ≠ .fields us) → b ≠ P := by
      rintro b o e d rfl
      rw [hPs] at e
      cases e
      exact d _ rfl
    have hcP : cStatics ≠ P := by
      obtain ⟨_, ⟨o', es, ep, ho, hd, _⟩, _⟩ := I1.nolimit
      exact nPof ho fun us z => by rw [hd] at z; cases z
    have hcl : cStatics < s1.heap.objs.size := let ⟨_, hns, _⟩ := I1.nolimit; hns.lt
    have keep3 : ∀ b u, b ≠ P → s1.heap.get? b = some u → h3.get? b = some u := fun b u hb e => hx b u hb (hk _ _ e)
    have new3 : ∀ {b : Addr} {o : Obj}, s1.heap.objs.size ≤ b → h2.get? b = some o → h3.get? b = some o := fun {b o} hb e => hx b o (fun z => by rw [z] at hb; exact absurd hPlt (Nat.not_lt.mpr hb)) e
    have hL3 : h3.IsList a its.toArray := by
      obtain ⟨ob, e, c1, n1, d1⟩ := pl.isList
      exact ⟨ob, keep3 _ _ (nPof e fun us z => by rw [d1] at z; cases z) e, c1, n1, d1⟩
    refine wpAny_builtinsFor (m := X.mg) (by rw [I1.ok.glob]; exact ((I1.mod.glob.keeps I1.bk).keeps hk).extBut hx TB.gP) e1 e2 (keep3 _ _ e4 (I1.bk _ _ e5)) e6 e7 e8 ?_
    refine ⟨_, [s1.heap.objs.size + 1, s1.heap.objs.size, a], [s1.heap.objs.size + 1, s1.heap.objs.size], its.toArray.size, _, _, _, ledAt rows j, (fun i y => ∃ t, y = .int (i : Int) t), rfl,
      (fun A' hA => (WalksT.enumerate hA (s1.heap.objs.size + 1) s1.heap.objs.size a (Nat.succ_ne_self _) (Nat.ne_of_lt (Nat.lt_succ_of_lt halt)) (Nat.ne_of_lt halt) its.toArray).toU), ?_, ?_, ?_, lim2.extBut hx hcP, ?_, ?_, ?_⟩
    · rintro i vals ⟨t, x, _, e⟩
      exact ⟨_, _, e⟩
    · obtain ⟨oi, ei, ri⟩ := hit
      exact ⟨⟨.none, new3 (Nat.le_succ _) hen⟩, ⟨oi, new3 (Nat.le_refl _) ei, ri⟩, hL3⟩
    · intro b hb
      have : b = s1.heap.objs.size + 1 ∨ b = s1.heap.objs.size ∨ b = a := by simpa using hb
      exact near (b := b) (this.imp id (Or.imp id fun z => by rw [z]; exact halt)) (by rw [← hsz]; exact hge3)
    · intro z
      have : cStatics = s1.heap.objs.size + 1 ∨ cStatics = s1.heap.objs.size := by simpa using z
      exact old_ne (b := cStatics) hcl this
    · intro href hhref
      have up : ∀ {b : Addr} {o : Obj} {s2 : Shared}, (∀ b ∈ List.range h3.objs.size, b ∉ [s1.heap.objs.size + 1, s1.heap.objs.size] → ∀ o, href.get? b = some o → s2.heap.get? b = some o) → s1.heap.get? b = some o → (∀ us, o.data ≠ .fields us) → s2.heap.get? b = some o := by
        intro b o s2 hk2 e d
        have e3 := keep3 _ _ (nPof e d) e
        have hb := Heap.lt_size e
        refine hk2 b (List.mem_range.mpr (Heap.lt_size e3)) (fun z => ?_) o (hhref _ _ e3)
        have : b = s1.heap.objs.size + 1 ∨ b = s1.heap.objs.size := by simpa using z
        exact old_ne (b := b) hb this
      refine ⟨?_, ?_⟩
      · rintro A' E' i va vb s2 m2 hA ⟨t, x, hix, ee⟩ hn2 hma hmb hk2
        obtain ⟨r, row, rs, tr, er, rfl, hlr, hxr⟩ := hrow i x hix
        have ev : va = .int (i : Int) t ∧ vb = .ref r := by simpa using ee
        rw [ev.2] at hmb
        have hcell2 : s2.heap.IsCell cc (some (.int (j : Int) tj)) := by
          obtain ⟨oc, eo, dc⟩ := hcell
          exact ⟨oc, up hk2 eo (fun us z => by rw [dc] at z; cases z), dc⟩
        have hlr2 : s2.heap.IsList r rs.toArray := by
          obtain ⟨ob, e, c1, n1, d1⟩ := hlr
          exact ⟨ob, up hk2 e (fun us z => by rw [d1] at z; cases z), c1, n1, d1⟩
        refine wpAny_mono (led_test (c := cc) (r := r) (its := rs.toArray) (j := j) (n := row.getD j 0) S.kind S.lb S.lc (NdefX.clo_has S.free S.mc hcc) hn2 hmb hcell2 hlr2 (by omega) hxr hd1 hd2 hd3) (fun ok s3 z => ⟨?_, z.2⟩) fun _ _ z => z
        rw [z.1]
        unfold ledAt
        rw [er]
      · rintro A' E' i va vb s2 m2 hA ⟨t, x, hix, ee⟩ _ hn2 hma hmb hk2
        have ev : va = .int (i : Int) t ∧ vb = x := by simpa using ee
        rw [ev.1] at hma
        exact wpAny_Name (wpAny_loadName_local S.kind S.la hn2 hma ⟨⟨t, rfl⟩, keeps_tk s2 s2.toks⟩) hd4
    · intro g h5 tk5 gs hgb hag hsz5 hk5 W5 hgat
      have n5 : its.toArray.size = rows.length := by rw [List.size_toArray, hlen2]
      rw [n5] at W5 hgat
      have epass : passing (ledAt rows j) rows.length 0 = (List.range rows.length).filter (ledAt rows j) := rfl
      rw [epass] at W5
      refine hQ rows j H1 g _ q ⟨_, _, _, _, _, W5.in4_1, hgat, hgat.1.typeIs, ?_, fun s' hm => ?_⟩
      · rintro v ⟨i, hi0, t, rfl⟩
        refine ⟨i, t, ?_, rfl⟩
        unfold ledOf
        rw [List.head?_eq_getElem?]
        exact hi0
      · have nwr : ∀ b u, s1.heap.get? b = some u → b ∉ h3.objs.size :: [s1.heap.objs.size + 1, s1.heap.objs.size] := fun b u e hb => by
          have : b = h3.objs.size ∨ b = s1.heap.objs.size + 1 ∨ b = s1.heap.objs.size := by simpa using hb
          exact old_ne3 (b := b) (Heap.lt_size e) (by rw [← hsz]; exact hge3) this
        have J := inv_tabO (qs := qs') (h' := s'.heap) (g' := s'.gens) (d' := s'.drawn) (t' := s'.toks) I1 hP (fun b u hb e => hm.heap b u (nwr b u e) (hk5 b u (keep3 b u hb e)))
          (hm.heap P _ (nwr P _ hPs) (hk5 P _ hP3)) ht3 (AllBare.movedS (I1.bare.push hgb) hm)
        rw [GxR.sh_eta s1 s' hm.os] at J
        exact J
  refine ⟨lim2, ?_⟩
  cases hf : codeAmong gpos qs.toList with
  | none =>
    refine wpAny_genexprCodeX hcode (cd.code hP2 ht) (cd.tab hP2) hf fun c' h' tk hx hge' hlt hco' _ htab' _ => ?_
    obtain ⟨o1, vs, f1, tf, fl, tg, inF, tx, tt, op, _, _, _, _, _, _, _, _, _, htr, _⟩ := hco'
    exact cont _ h' tk _ hx (Nat.le_trans hge' (Nat.le_of_lt hlt)) htab'.2 htr
  | some cv =>
    refine wpAny_genexprCode_hit hcode (cd.code hP2 ht) hf ?_
    exact cont cv h2 s1.toks qs (Heap.ExtBut.refl _ _) (Nat.le_refl _) hP2 ht
end
end DL
namespace DL
open PySem PySem.Spec PyProof.Rows L2 Evl
def ledV (rows : List (List Int)) (j : Nat) : V := match ledOf rows j with
  | some i => .int (i : Int)
  | none => .non
def ledD (rows : List (List Int)) (j : Nat) : PyData := match ledOf rows j with
  | some i => .int (i : Int)
  | none => .none
section
variable {X : Cx} {pins : List (Addr × Obj)} {σ : L2.St} {H : Hp} {s : Shared}
theorem call_nextG {H1 : Hp} {rows : List (List Int)} {j : Nat} {g : Addr} {Q : VK} (G : ReadyT X pins σ H1 rows j g s) (q : Q (ledV rows j) H1) :
    wpAny (model X.prog X.w) X.A (call (.builtin "next") [.ref g, .none]) (EP X pins σ Q) X.xe s := by
  obtain ⟨fp, wr, G', F, St, W, hst, hT, hF, hI⟩ := G
  refine Calls.call_function_entry (by decide +kernel) (by decide +kernel) PySem.W.kdk_entry_next (PySem.W.kdk_args_next2 _ _) ?_
  unfold Builtin.«next»
  refine wpAny_bind (m := someArgs "next" 1 2 _) (wpAny_of_eq (a := [Value.ref g, .none]) (by first | rfl | kernel_rfl!) ?_)
  dsimp only
  refine wpAny_bind (wpAny_specialOf (name := Str.ofString "__next__") hT slot_gen_next.lookup ?_)
  refine wpAny_ite_split (fun hab => absurd hab (by decide)) (fun _ => ?_)
  cases hl : (List.range rows.length).filter (ledAt rows j) with
  | nil =>
    rw [hl] at W
    refine wpAny_bind (W.done _ _ _ hst fun s' hm => ?_)
    have e : ledV rows j = .non := by
      unfold ledV ledOf
      rw [hl]
      rfl
    rw [e] at q
    exact wpAny_pure ⟨_, rfl, .non, H1, hI s' hm, rfl, q⟩
  | cons i r =>
    refine wpAny_bind (W.item 0 _ _ _ (by rw [hl]; exact Nat.succ_pos _) hst fun v s' hv _ hm => ?_)
    obtain ⟨k, t, e, rfl⟩ := hF v hv
    have e' : ledV rows j = .int (k : Int) := by
      unfold ledV
      rw [e]
    rw [e'] at q
    exact wpAny_pure ⟨_, rfl, .int (k : Int), H1, hI s' hm, ⟨t, rfl⟩, q⟩
/-- next((x for x, r in enumerate(e) if r[c] != 0), None) -/
def tLed (K : PySem.W.Frag) (P : Addr) (ci : Nat) (ti : TA) : TE := fun σ H Q => ti σ H fun vs H1 => ∃ (a : Addr) (xs : List V) (rows : List (List Int)) (j : Nat), vs = [.ref a] ∧ SqL K H1 a xs ∧ Led K H1 xs rows ∧ σ[ci]? = some (some (.int (j : Int))) ∧ (j : Int) < 2 ^ 62 ∧
  (∀ r ∈ rows, j < r.length) ∧ H1 P = some (TabO P) ∧ Q (ledV rows j) H1
theorem pe_led {c P : Addr} {it : Expr} {xa xb xc : Str} {ci k kt k0 kn : Nat} {p pos pn p0 pa pb pt pe pc p1 p2 p3 p4 p5 gpos : Pos} {scope : Scope} {ti : TA}
    (hr : Room k X.A) (TB : GxR.TabB X.base X.mg c P) (hcode : X.env.code = .ref c) (S : GenT X.env scope xa xb xc) (hge : Gl X "enumerate") (hme : X.mg "enumerate" = none) (hg : Gl X "next") (hm : X.mg "next" = none) (hi : PA X [it] ti) (hN : X.N[ci]? = some xc) (hkc : X.env.kindOf xc = some .cell)
    (hst : starEach [it] X.env = [(false, eval it X.env)] := by rfl)
    (hd1 : (xb == ("__debug__" : Str)) = false := by decide) (hd2 : (xc == ("__debug__" : Str)) = false := by decide) (hd3 : (xc == ("__classdict__" : Str)) = false := by decide) (hd4 : (xa == ("__debug__" : Str)) = false := by decide)
    (he : starEach [Expr.GeneratorExp (.Name xa p0) [⟨.Tuple [.Name xa pa, .Name xb pb] kt pt, .Call (.Name "enumerate" pe) [it] [] pc, [Expr.Compare (.Subscript (.Name xb p1) (.Name xc p2) p3) [.NotEq] [.Constant (.int 0) k0 p4] p5], 0⟩] scope gpos, .Constant .none kn pn] X.env =
      (false, eval (Expr.GeneratorExp (.Name xa p0) [⟨.Tuple [.Name xa pa, .Name xb pb] kt pt, .Call (.Name "enumerate" pe) [it] [] pc, [Expr.Compare (.Subscript (.Name xb p1) (.Name xc p2) p3) [.NotEq] [.Constant (.int 0) k0 p4] p5], 0⟩] scope gpos) X.env) :: starEach [.Constant .none kn pn] X.env := by rfl) :
    PE X (.Call (.Name "next" p) [Expr.GeneratorExp (.Name xa p0) [⟨.Tuple [.Name xa pa, .Name xb pb] kt pt, .Call (.Name "enumerate" pe) [it] [] pc, [Expr.Compare (.Subscript (.Name xb p1) (.Name xc p2) p3) [.NotEq] [.Constant (.int 0) k0 p4] p5], 0⟩] scope gpos, .Constant .none kn pn] [] pos) (tLed X.K P ci ti) := by
  refine ⟨fun pins s σ H Q I h => ?_⟩
  refine wpAny_Call_Name_kw (ld_blt (u := .builtin "next") I hg hm (by first | rfl | decide +kernel) ?_ (by decide) (by decide))
  refine PyProof.Rows.callWith_builtin1 ?_ he (by rfl)
  rw [he]
  refine Calls.spliced_cons (gen_led (R := fun rows j H1 => Q (ledV rows j) H1) hr TB hcode S hge hme hi hN hkc hst hd1 hd2 hd3 hd4 I h fun rows j H1 g s5 hR hG => ?_)
  show wpAny _ _ (spliced ((false, eval (.Constant .none kn pn) X.env) :: [])) _ _ s5
  refine Calls.spliced_cons (Constant_none ?_)
  refine Calls.spliced_nil ?_
  exact call_nextG hG hR
end
end DL
/-! the law's end where defs have tables of code objects -/
namespace DL
open PySem PySem.Spec PyProof.Rows L2 Evl
def Tabs (ts : List Addr) (H : Hp) : Prop := ∀ P ∈ ts, H P = some (TabO P)
theorem Tabs.mono {ts : List Addr} {H H' : Hp} (h : Tabs ts H) (e : Ex H H') : Tabs ts H' := fun P hP => e _ _ (h P hP)
/-- the law's own promise, with tables -/
def spLawT (K : PySem.W.Frag) (ts : List Addr) : Sp := fun vs H1 Q _ => ∃ H a ns, vs = [.ref a] ∧ Ex H H1 ∧ SqL K H a ((ns : List Int).map V.int) ∧ ns.length ≤ 63 ∧ Tabs ts H ∧ ∀ H2, Ex H H2 → Q (.bl true) H2
theorem lawT_from {P : Program} {w : World} {K : PySem.W.Frag} {mg mb : Str → Option Value} {k : Nat} {fa a : Addr} {cs : List (Addr × Addr)} {fd : FuncData} {x : Str} {sp : Sp} {s1 : Shared} {vs : List Value} {H : Hp}
    (KX : K.In s1.heap) (gl : s1.heap.Ns mainGlobals mg) (bl : s1.heap.Ns builtinsNs mb) (bb : ∀ x : Str, x ≠ "__name__" → mb x = bootBuiltins x) (nol : s1.heap.NoLimit) (ge : s1.gens = #[])
    (hT : ∀ p ∈ cs, s1.heap.get? p.2 = some { cls := .none, data := .fields #[] }) (nT : ∀ p ∈ cs, K.lookup p.2 = none) (C : ∀ p ∈ cs, PySem.W.CodeHd s1.heap p.1 p.2)
    (bmn : ∃ (bm : Addr) (ob : Obj), mg "__builtins__" = some (.ref bm) ∧ bm ≠ builtinsNs ∧ s1.heap.get? bm = some ob ∧ ob.cls = .type "module" ∧ ob.dict = some builtinsNs ∧ ob.data = .plain)
    (ha : s1.heap.get? a = some { cls := .type "list", data := .seq vs.toArray }) (hr : Room k callerA)
    (F : ∀ base : Heap, K.In base → base.Ns mainGlobals mg → (∀ p ∈ cs, GxR.TabB base mg p.1 p.2) → FnG P w K mg base CX0 k fa fd [x] sp) (hb : ∀ (s : Shared) (u : Value), BindsTo s fd ⟨[u], []⟩ [(x, u)])
    (hO : ∀ b, H b = none ∨ b ∈ cs.map (·.2) ∨ ∃ o xs, H b = some (.frz o (.lst xs))) (ok : HOk P w H s1.heap) (at1 : ∀ b, H b ≠ none → b = a ∨ b ∈ cs.map (·.2)) (at2 : H a ≠ none → K.lookup a = none)
    (hs : sp [.ref a] H (fun v H' => v = .bl true ∧ Tabs (cs.map (·.2)) H') fun _ _ _ => False) :
    codeAny (model P w) callerA (.call (.ref fa) ⟨[.ref a], []⟩) (fun r s' => r = .ok (.ret (.bool true)) ∧ OldK s1.heap s'.heap ∧ s'.os = s1.os ∧ AllBare s'.gens) s1 := by
  have isT : ∀ b, b ∈ cs.map (·.2) → s1.heap.get? b = some { cls := .none, data := .fields #[] } ∧ K.lookup b = none := fun b hb => by
    obtain ⟨p, hp, rfl⟩ := List.mem_map.mp hb
    exact ⟨hT p hp, nT p hp⟩
  -- an object that is neither the script nor a table is not tracked
  have free : ∀ {b : Addr} {o : Obj}, s1.heap.get? b = some o → (∀ us n, o.data ≠ .seq us n) → o.data ≠ .fields #[] → H b = none := by
    intro b o e d1 d2
    cases q : H b with
    | none => rfl
    | some u =>
      rcases at1 b (by rw [q]; exact fun z => nomatch z) with rfl | hb
      · rw [ha] at e
        cases e
        exact absurd rfl (d1 _ _)
      · rw [(isT b hb).1] at e
        cases e
        exact absurd rfl d2
  have keepNs : ∀ {b : Addr} {m : Str → Option Value}, s1.heap.Ns b m → (hidT s1.heap H).Ns b m := by
    rintro b m ⟨o, es, ep, e, d, r⟩
    exact ⟨o, es, ep, hidT_get e (free e (fun us n z => by rw [d] at z; cases z) (fun z => by rw [d] at z; cases z)), d, r⟩
  have keepK : K.In (hidT s1.heap H) := by
    intro b o e
    refine hidT_get (KX b o e) ?_
    cases q : H b with
    | none => rfl
    | some u =>
      rcases at1 b (by rw [q]; exact fun z => nomatch z) with rfl | hb
      · rw [at2 (by rw [q]; exact fun z => nomatch z)] at e
        cases e
      · rw [(isT b hb).2] at e
        cases e
  have md : Mod K mg (hidT s1.heap H) := by
    obtain ⟨mc, n1, n2⟩ := nol
    exact ⟨keepK, keepNs gl, ⟨mb, keepNs bl, bb⟩, ⟨mc, keepNs n1, n2⟩⟩
  have TB : ∀ p ∈ cs, GxR.TabB (hidT s1.heap H) mg p.1 p.2 := by
    intro p hp
    have e0 := hT p hp
    obtain ⟨bm, ob, b1, b2, b3, b4, b5, b6⟩ := bmn
    refine ⟨?_, ⟨bm, ob, b1, b2, ?_, ?_, hidT_get b3 (free b3 (fun us n z => by rw [b6] at z; cases z) (fun z => by rw [b6] at z; cases z)), b4, b5, b6⟩, ?_⟩
    · obtain ⟨o, us, file, tf, flags, tg, inF, text, tt, e1, r1, r2, r3, r4⟩ := C p hp
      refine ⟨o, us, file, tf, flags, tg, inF, text, tt, hidT_get e1 (free e1 (fun vs n z => by rw [r2] at z; cases z) fun z => ?_), r1, r2, r3, r4⟩
      rw [r2] at z
      cases z
      cases r3
    · rintro rfl
      obtain ⟨o, es, ep, e, d, _⟩ := gl
      rw [b3] at e
      cases e
      rw [b6] at d
      cases d
    · rintro rfl
      rw [e0] at b3
      cases b3
      cases b6
    · intro z
      obtain ⟨o, es, ep, e, d, _⟩ := gl
      rw [z, e0] at e
      cases e
      cases d
  have en : Env0 P w K mg (hidT s1.heap H) callerA [] s1 H :=
    ⟨rfl, md, fun b o e => of_hidT e, Nat.le_of_eq (hidT_size _ _), trivial, (fun b hb => absurd (show b ∈ ([] : List Addr) from hb) (List.not_mem_nil)), ok, AllBare.of_eq ge⟩
  refine codeAny_mono ((F _ keepK (keepNs gl) TB).go callerA [] s1 H ⟨[.ref a], []⟩ [.ref a] [.ref a] _ _ rfl hr en (hb s1 (.ref a)) (.cons rfl .nil) hs) ?_
  intro res s' h
  match res, h with
  | .error e, h => exact h.elim
  | .ok (.ret u), h =>
    obtain ⟨v, H', os, bare, un, ok', r', q, tab⟩ := h
    subst q
    obtain rfl : u = Value.bool true := r'
    have old : ∀ b o, b ∉ cs.map (·.2) → s1.heap.get? b = some o → s'.heap.get? b = some o := by
      intro b o nb e
      cases q : H b with
      | none => exact un.keep b o e q (fun z => absurd (show b ∈ ([] : List Addr) from z) (List.not_mem_nil)) (List.not_mem_nil)
      | some u =>
        rcases hO b with z | z | ⟨ob, xs, z⟩
        · rw [q] at z; cases z
        · exact absurd z nb
        · have e1 := (ok b _ z).1
          have e2 := (ok' b _ (un.frzs b ob _ z)).1
          rw [e] at e1
          cases e1
          exact e2
    have grown : ∀ b, b ∈ cs.map (·.2) → ∃ more : Array Value, s'.heap.get? b = some { cls := .none, data := .fields more } := fun b hb => by
      obtain ⟨⟨us, e, _⟩, _⟩ := (show ObjOk P w H' s'.heap b (TabO b) from ok' b _ (tab b hb))
      exact ⟨us, e⟩
    refine ⟨rfl, ⟨fun b o e => ?_, fun b o e => ?_⟩, os, bare⟩
    · by_cases hb : b ∈ cs.map (·.2)
      · obtain ⟨us, e'⟩ := grown b hb
        rw [(isT b hb).1] at e
        cases e
        obtain ⟨p, hp, rfl⟩ := List.mem_map.mp hb
        exact .inr (.inl ⟨((C p hp).tab (hT p hp)).isCodeTable, rfl, #[], us, rfl, by rw [Array.empty_append]; exact e'⟩)
      · exact .inl (old b o hb e)
    · by_cases hb : b ∈ cs.map (·.2)
      · obtain ⟨us, e'⟩ := grown b hb
        exact ⟨_, e'⟩
      · exact ⟨o, old b o hb e⟩
theorem lawT {P : Program} {w : World} {K : PySem.W.Frag} {mg mb : Str → Option Value} {k : Nat} {fa a : Addr} {cs : List (Addr × Addr)} {fd : FuncData} {x : Str} {s1 : Shared} {vs : List Value} {ns : List Int}
    (KX : K.In s1.heap) (gl : s1.heap.Ns mainGlobals mg) (bl : s1.heap.Ns builtinsNs mb) (bb : ∀ x : Str, x ≠ "__name__" → mb x = bootBuiltins x) (nol : s1.heap.NoLimit) (ge : s1.gens = #[])
    (hT : ∀ p ∈ cs, s1.heap.get? p.2 = some { cls := .none, data := .fields #[] }) (nT : ∀ p ∈ cs, K.lookup p.2 = none) (C : ∀ p ∈ cs, PySem.W.CodeHd s1.heap p.1 p.2)
    (bmn : ∃ (bm : Addr) (ob : Obj), mg "__builtins__" = some (.ref bm) ∧ bm ≠ builtinsNs ∧ s1.heap.get? bm = some ob ∧ ob.cls = .type "module" ∧ ob.dict = some builtinsNs ∧ ob.data = .plain)
    (ha : s1.heap.get? a = some { cls := .type "list", data := .seq vs.toArray }) (hi : IntsAre vs ns) (hl : ns.length ≤ 63) (hr : Room k callerA)
    (F : ∀ base : Heap, K.In base → base.Ns mainGlobals mg → (∀ p ∈ cs, GxR.TabB base mg p.1 p.2) → FnG P w K mg base CX0 k fa fd [x] (spLawT K (cs.map (·.2)))) (hb : ∀ (s : Shared) (u : Value), BindsTo s fd ⟨[u], []⟩ [(x, u)]) :
    codeAny (model P w) callerA (.call (.ref fa) ⟨[.ref a], []⟩) (fun r s' => r = .ok (.ret (.bool true)) ∧ OldK s1.heap s'.heap ∧ s'.os = s1.os ∧ AllBare s'.gens) s1 := by
  have aT : a ∉ cs.map (·.2) := fun z => by
    obtain ⟨p, hp, rfl⟩ := List.mem_map.mp z
    have e := hT p hp
    rw [ha] at e
    cases e
  have okT : ∀ {H : Hp} {b : Addr}, b ∈ cs.map (·.2) → ObjOk P w H s1.heap b (TabO b) := fun {H b} hb => by
    obtain ⟨p, hp, rfl⟩ := List.mem_map.mp hb
    exact tabO_ok (hT p hp) True.intro
  have hls : ns.length ≤ sizeLine := Nat.le_trans hl (by decide)
  cases hk : K.lookup a with
  | some o =>
    have e := KX a o hk
    rw [ha] at e
    cases e
    let H0 : Hp := fun b => if b ∈ cs.map (·.2) then some (TabO b) else none
    have y1 : ∀ {b}, b ∈ cs.map (·.2) → H0 b = some (TabO b) := fun hb => if_pos hb
    have y0 : ∀ {b}, b ∉ cs.map (·.2) → H0 b = none := fun hb => if_neg hb
    refine lawT_from (H := H0) KX gl bl bb nol ge hT nT C bmn ha hr F hb (fun b => ?_) (fun b u z => ?_) (fun b z => ?_) (fun z => absurd (y0 aT) z) ⟨H0, a, ns, rfl, Ex.refl _, ?_, hl, fun b hb => y1 hb, fun H2 e => ⟨rfl, fun b hb => e _ _ (y1 hb)⟩⟩
    · by_cases hb : b ∈ cs.map (·.2)
      · exact .inr (.inl hb)
      · exact .inl (y0 hb)
    · by_cases hb : b ∈ cs.map (·.2)
      · rw [y1 hb] at z
        cases z
        exact okT hb
      · rw [y0 hb] at z
        cases z
    · by_cases hb : b ∈ cs.map (·.2)
      · exact .inr hb
      · exact absurd (y0 hb) z
    · exact .inr ⟨_, vs.toArray, _, hk, rfl, rfl, rfl, by rw [List.size_toArray, hi.length]; exact hls, by simpa using vals_ints hi⟩
  | none =>
    let scr : HO := .frz { cls := .type "list", data := .seq vs.toArray } (.lst (ns.map V.int))
    let H0 : Hp := fun b => if b = a then some scr else if b ∈ cs.map (·.2) then some (TabO b) else none
    have ya : H0 a = some scr := if_pos rfl
    have y1 : ∀ {b}, b ∈ cs.map (·.2) → H0 b = some (TabO b) := fun {b} hb => (if_neg (show ¬ b = a from fun z => aT (by rw [← z]; exact hb))).trans (if_pos hb)
    have y0 : ∀ {b}, b ≠ a → b ∉ cs.map (·.2) → H0 b = none := fun h1 h2 => (if_neg h1).trans (if_neg h2)
    refine lawT_from (H := H0) KX gl bl bb nol ge hT nT C bmn ha hr F hb (fun b => ?_) (fun b u z => ?_) (fun b z => ?_) (fun _ => hk) ⟨H0, a, ns, rfl, Ex.refl _, .inl (.inr ⟨_, ya⟩), hl, fun b hb => y1 hb, fun H2 e => ⟨rfl, fun b hb => e _ _ (y1 hb)⟩⟩
    · by_cases h : b = a
      · exact .inr (.inr ⟨_, _, by rw [h]; exact ya⟩)
      · by_cases hb : b ∈ cs.map (·.2)
        · exact .inr (.inl hb)
        · exact .inl (y0 h hb)
    · by_cases h : b = a
      · subst h
        rw [ya] at z
        cases z
        exact ⟨ha, by rw [List.length_map]; exact hls, vs, _, vals_ints hi, ha⟩
      · by_cases hb : b ∈ cs.map (·.2)
        · rw [y1 hb] at z
          cases z
          exact okT hb
        · rw [y0 h hb] at z
          cases z
    · by_cases h : b = a
      · exact .inl h
      · by_cases hb : b ∈ cs.map (·.2)
        · exact .inr hb
        · exact absurd (y0 h hb) z
theorem walkT {l : PySem.W.OpenLaw} {k : Nat} {q : Program} {loose : List Str} {XP : (Str → Option Value) → Heap → Prop} {YP : World → Heap → Prop} {d : DefRec} {K : Params → PySem.W.Frag} {x : Str} (names : List Str)
    (hn : l.most = some 63) (hdf : d.params.defaults = []) (hr : Room k callerA)
    (hY : ∀ (w : World) (h : Heap), YP w h → (K w.params).In h) (hrec : ∀ x ∈ names, ∃ d, (recsOf q).find? (fun e => e.name == x) = some d)
    (F : ∀ (w : World) (mg : Str → Option Value) (fa : Addr) (h : Heap), (K w.params).In h → h.Ns mainGlobals mg → mg d.name = some (.ref fa) →
      ∃ (fd : FuncData) (cs : List (Str × Addr × Addr)), (∀ p ∈ cs, p.1 ∈ names ∧ PySem.W.tabIn (K w.params) p.1 = some p.2 ∧ (K w.params).lookup p.2.2 = none) ∧ (∀ (s : Shared) (u : Value), BindsTo s fd ⟨[u], []⟩ [(x, u)]) ∧
        ∀ base : Heap, (K w.params).In base → base.Ns mainGlobals mg → (∀ p ∈ cs.map (·.2), GxR.TabB base mg p.1 p.2) → FnG l.prog w (K w.params) mg base CX0 k fa fd [x] (spLawT (K w.params) ((cs.map (·.2)).map (·.2)))) :
    PySem.W.WalkO q loose XP YP l.row.toRowW d [] (fun f vs => PySem.call f vs) := by
  refine Att.attach_call hn hdf fun w s0 s1 mg mb fa o pm cd doc a vs ns G Y ho hd hcd hmg hobj hints hlen hg => ?_
  obtain ⟨fd, cs, hc, hb, hF⟩ := F w mg fa _ (hY w _ Y) G.T.g hmg
  have tb : ∀ p ∈ cs.map (·.2), PySem.W.CodeHd s1.heap p.1 p.2 ∧ s1.heap.get? p.2 = some (PySem.W.tabObj #[]) ∧ (K w.params).lookup p.2 = none := fun p hp => by
    obtain ⟨y, hy, rfl⟩ := List.mem_map.mp hp
    obtain ⟨h1, h2, h3⟩ := hc y hy
    obtain ⟨d', hd'⟩ := hrec y.1 h1
    obtain ⟨e1, e2⟩ := PySem.W.tab_of G.T (hY w _ Y) hd' h2
    exact ⟨e1, e2, h3⟩
  exact lawT (hY w _ Y) G.T.g G.T.b G.T.builtins G.T.nolimit hg (fun p hp => (tb p hp).2.1) (fun p hp => (tb p hp).2.2) (fun p hp => (tb p hp).1) G.T.bmain hobj hints hlen hr hF hb
end DL
/-! enumerate of a tuple; statements that are not reached; // by any divisor -/
namespace DL
open PySem PySem.Spec PyProof.Rows L2 Evl
open AutoSeq1 (wpAny_loadPart')
abbrev titO (l : Addr) : Obj := { cls := .type "tuple_iterator", data := .fields #[.ref l, .int 0 0] }
abbrev enO (it : Addr) : Obj := { cls := .type "enumerate", data := .fields #[.none, .bool false, .ref it, rawInt 0, .none, .none] }
theorem meets_enT (l : Addr) (items : Array Value) (n : Nat) (dct : Option Addr) (sl : Array (Option Value)) :
    Meets (Builtin.«enumerate.__new__» ⟨[.type "enumerate", .ref l], []⟩) (fun _ R s => s.heap.get? l = some { cls := .type "tuple", dict := dct, data := .seq items n, slots := sl } ∧
      R (.ok (.ret (.ref (s.heap.push (titO l)).objs.size))) { s with heap := (s.heap.push (titO l)).push (enO s.heap.objs.size) }) := by
  refine .of_wp ?_
  rintro prog w A R ⟨hp, g, d, tk, os⟩ ⟨hl, h⟩
  have hsub := sub_enumerate
  have hL : Heap.IsTuple (Shared.heap ⟨hp, g, d, tk, os⟩) l items := ⟨_, hl, rfl, n, rfl⟩
  wp_walk using wpAny_loadPart' hl
  refine wpAny_stack_any fun st => wpAny_pure ?_
  split
  · rename_i c _ _ _ _ _
    by_cases hc : (c == Value.type "enumerate") = true <;> simp only [hc] <;> (wp_walk using wpAny_loadPart' hl, wpAny_pyIter_tuple hL) <;> exact ⟨_, rfl, h⟩
  · wp_walk using wpAny_loadPart' hl, wpAny_pyIter_tuple hL
    exact ⟨_, rfl, h⟩
section
variable {prog : Program} {w : World} {A : Around} {E : Value → Shared → Prop} {s : Shared}
theorem call_enT {l : Addr} {items : Array Value} {Q : Value → Shared → Prop} (hL : s.heap.IsTuple l items)
    (h : ∀ h', IsEnum h' (s.heap.objs.size + 1) s.heap.objs.size 0 .none → h'.IsTupleIter s.heap.objs.size l 0 → (∀ b o, s.heap.get? b = some o → h'.get? b = some o) → Q (.ref (s.heap.objs.size + 1)) { s with heap := h' }) :
    wpAny (model prog w) A (call (.type "enumerate") [.ref l]) Q E s := by
  obtain ⟨⟨c, dct, dt, sl⟩, hl, hc, n, hd⟩ := hL
  obtain rfl : c = .type "tuple" := hc
  obtain rfl : dt = .seq items n := hd
  refine callType_new F.called_enumerate (by decide) (F.typeCall_enumerate_1 _) (F.newCall_enumerate_1 _) (fun obj => F.args_object_init_2 obj _) F.entry_enumerate_new (meets_enT l items n dct sl) ⟨hl, ?_⟩
  have hz : (s.heap.push (titO l)).objs.size = s.heap.objs.size + 1 := Heap.size_push ..
  show _ ∧ _
  rw [hz]
  have he : IsEnum ((s.heap.push (titO l)).push (enO s.heap.objs.size)) (s.heap.objs.size + 1) s.heap.objs.size 0 .none := by
    have e := Heap.get?_push_size (s.heap.push (titO l)) (o := enO s.heap.objs.size) rfl
    rw [hz] at e
    exact e
  exact ⟨⟨_, he, rfl⟩, h _ he ⟨_, Heap.get?_push_of_some _ (Heap.get?_push_size _ rfl), rfl, rfl⟩ fun b o x => Heap.get?_push_of_some _ (Heap.get?_push_of_some _ x)⟩
end
/-- the tuple at a, each item in a new pair -/
def IteT (K : PySem.W.Frag) (a : Addr) : It :=
  ⟨fun i H => ∃ (xs : List V) (x : V), SqT K H a xs ∧ xs[i]? = some x, fun i H v H' => ∃ T x, v = .ref T ∧ H T = none ∧ H' = upd H T (.tup [.int (i : Nat), x]) ∧ ∀ xs, SqT K H a xs → xs[i]? = some x,
    fun i H => ∃ xs : List V, SqT K H a xs ∧ xs.length ≤ i⟩
theorem turn_enT {P : Program} {w : World} {K : PySem.W.Frag} {elts : List Expr} {kk : Nat} {tpos : Pos} (a e it : Addr) :
    Turn P w K (.Tuple elts kk tpos) (IteT K a) [e, it] e (fun i h => (∃ old, IsEnum h e it ((i : Nat) : Int) old) ∧ h.IsTupleIter it a i ∧ e ≠ it) where
  mem := List.mem_cons_self
  obj := fun i h st b hb => by
    obtain ⟨⟨old, he⟩, ⟨o, ho, hc, hd⟩, _⟩ := st
    have e' : b = e ∨ b = it := by simpa using hb
    rcases e' with rfl | rfl
    · exact ⟨_, he, fun v q => nomatch q⟩
    · exact ⟨o, ho, fun v q => by rw [hd] at q; cases q⟩
  keep := fun i h h' st k => let ⟨⟨old, he⟩, hi, hne⟩ := st; ⟨⟨old, k e List.mem_cons_self _ he⟩, hi.at fun o q => k it (List.mem_cons_of_mem _ List.mem_cons_self) o q, hne⟩
  item := by
    intro X hP hw hK hc i pins s σ H E I hf st hg
    subst hP hw hK
    obtain ⟨⟨old, he⟩, hit, hne⟩ := st
    obtain ⟨xs, x, hq, hx⟩ := hg
    obtain ⟨its, rv, p, hz⟩ := I.tuple hq
    obtain ⟨u, hu, ru⟩ := rv.get hx
    have hel : e < s.heap.objs.size := Heap.lt_size he
    have hil : it < s.heap.objs.size := by obtain ⟨_, q, _⟩ := hit; exact Heap.lt_size q
    have ha : a ≠ it := by
      rintro rfl
      obtain ⟨o, e1, e2, _⟩ := p
      obtain ⟨o', f1, f2, _⟩ := hit
      rw [e1] at f1
      cases f1
      rw [e2] at f2
      simp at f2
    have hae : e ∉ [it, a] := by
      intro hm
      have : e = it ∨ e = a := by simpa using hm
      rcases this with z | z
      · exact hne z
      · obtain ⟨o, e1, e2, _⟩ := p
        rw [← z, he] at e1
        cases e1
        simp at e2
    have hlt : i < its.toArray.size := by
      rw [List.size_toArray]
      exact (List.getElem?_eq_some_iff.mp hu).1
    refine wpAny_pyNext_enum_itemD (Draws.tuple (prog := X.prog) (w := X.w) (A := X.A.in1) (I.ok.hd hc) it a ha its.toArray) he ⟨hit, p⟩ hlt hne hae fun y h' tk hy ho hst hT hsz hk => ?_
    obtain rfl : y = u := by
      have : its[i]? = some y := by rw [← List.getElem?_toArray]; exact hy
      rw [hu] at this
      exact (Option.some.inj this).symm
    refine ⟨_, rfl, wpAny_letOwnedTupleGo_enum (s := { s with heap := h', toks := tk + 1 }) ho fun h'' he' sb => ?_⟩
    have hT2 : h''.get? s.heap.objs.size = some { cls := .type "tuple", data := .seq #[.int i tk, y] } := (sb.2 _ (Nat.ne_of_gt hel)).trans hT
    have new : ObjOk X.prog X.w (upd H s.heap.objs.size (.tup [.int (i : Nat), x])) h'' s.heap.objs.size (.tup [.int (i : Nat), x]) :=
      ⟨by show 2 ≤ sizeLine; decide, [.int i tk, y], .cons ⟨_, rfl⟩ (.cons ru .nil), ⟨_, hT2, rfl, _, rfl⟩⟩
    have I1 : Inv X pins σ (upd H s.heap.objs.size (.tup [.int (i : Nat), x])) { s with heap := h'', toks := tk + 1 } :=
      I.turnedNew (ch := [e, it]) (fun b ob hb q => (sb.2 b (fun z => hb (by simp [z]))).trans (hk b ob (fun z => hb (by simp [z])) (fun z => hb (by simp [z])) q)) hf (Nat.le_refl _) new
    refine ⟨.ref s.heap.objs.size, _, I1, rfl, ⟨_, x, rfl, I.hok.fresh (Nat.le_refl _), rfl, fun ys hy => by rw [I.tuple_inj hy hq]; exact hx⟩, ⟨⟨y, ?_⟩, hst.1.at fun o q => (sb.2 it (Ne.symm hne)).trans q, hne⟩, fun b hb => ?_⟩
    · have e1 : ((i + 1 : Nat) : Int) = (i : Int) + 1 := Int.natCast_succ i
      rw [e1]
      exact he'
    · have e' : b = e ∨ b = it := by simpa using hb
      have hb' : b < s.heap.objs.size := by
        rcases e' with rfl | rfl
        · exact hel
        · exact hil
      rw [upd_ne (Nat.ne_of_lt hb')]
      exact (hf b hb).1
  done := by
    intro X hP hw hK hc i pins s σ H E I hf st hg
    subst hP hw hK
    obtain ⟨⟨old, he⟩, hit, hne⟩ := st
    obtain ⟨xs, hq, hx⟩ := hg
    obtain ⟨its, rv, p, hz⟩ := I.tuple hq
    obtain ⟨f0, f1, f2, f3, f4, f5⟩ := hf it (List.mem_cons_of_mem _ List.mem_cons_self)
    have hl := rv.length
    have ha : a ≠ it := by
      rintro rfl
      obtain ⟨o, e1, e2, _⟩ := p
      obtain ⟨o', g1, g2, _⟩ := hit
      rw [e1] at g1
      cases g1
      rw [e2] at g2
      simp at g2
    have hT : s.TypeIs (.ref e) "enumerate" := ⟨_, he, rfl⟩
    unfold pyNext
    refine wpAny_bind (wpAny_attempt (wpAny_callSpecial?_slot (name := Str.ofString "__next__") hT F.slot_enumerate_next (wpAny_call_entry F.slot_enumerate_next hT F.entry_enumerate_next ?_ (F.args_enumerate_next_1 _))))
    show wpAny _ _ (field (.ref e) 2 >>= _) _ _ _
    refine wpAny_bind (wpAny_field he rfl (x := .ref it) rfl ?_)
    refine wpAny_bind (wpAny_nextOf_tuple_end (A := X.A.in1) (I.ok.hd hc) hit p (by simp; omega) fun h' x he' hx' => ?_)
    obtain ⟨o, ho, hcl⟩ := hx'
    refine wpAny_bind (wpAny_isInstance (T := "StopIteration") (b := true) ⟨o, ho, hcl⟩ isSubtype_stop ?_)
    exact wpAny_pure ⟨rfl, I.turned (t' := s.toks) (fun b o hb q => he' b o hb q) f0 f1 f3 f4 f5⟩
  self := fun A i s Q E st h => let ⟨⟨_, he⟩, _⟩ := st; wpAny_pyIter_enum he h
/-- enumerate(e), e a list or a tuple -/
def iEnA (K : PySem.W.Frag) (ta : TA) : TI := fun σ H R => ta σ H fun vs H1 => ∃ a xs, vs = [.ref a] ∧ ((SqL K H1 a xs ∧ R (Ite K a) H1) ∨ (SqT K H1 a xs ∧ R (IteT K a) H1))
theorem pi_enA {X : Cx} {e : Expr} {ta : TA} {p pos tpos : Pos} {elts : List Expr} {kk : Nat} {K : PySem.W.Frag} (hK : X.K = K) (hg : Gl X "enumerate") (hm : X.mg "enumerate" = none) (ha : PA X [e] ta) (hs : starEach [e] X.env = [(false, eval e X.env)] := by rfl) :
    PI X (.Tuple elts kk tpos) (.Call (.Name "enumerate" p) [e] [] pos) (iEnA K ta) := by
  subst hK
  refine ⟨fun pins s σ H R I h => ?_⟩
  refine Call_ (ld_blt I hg hm boot_enumerate (PyProof.Rows.callWith_type1 (thn (ha.run pos pins s σ H _ I h) fun us s1 ⟨vs, H1, I1, r1, a, xs, ev, q1⟩ => ?_) hs rfl))
  subst ev
  obtain ⟨u0, rfl, ru⟩ := vals1 r1
  obtain rfl : u0 = Value.ref a := ru
  have ok : ∀ b, b ∈ [s1.heap.objs.size + 1, s1.heap.objs.size] → FpOk X pins H1 b := fun b hb => by
    have e' : b = s1.heap.objs.size + 1 ∨ b = s1.heap.objs.size := by simpa using hb
    have hle : s1.heap.objs.size ≤ b := by
      rcases e' with rfl | rfl
      · exact Nat.le_succ _
      · exact Nat.le_refl _
    exact I1.fpOk hle (I1.hok.fresh hle)
  rcases q1 with ⟨hq, q⟩ | ⟨hq, q⟩
  · obtain ⟨its, rv, pl, hz⟩ := I1.list hq
    refine call_enumerate_list pl.isList fun h' hen hit hsz hk => wpAny_pyIter_enum hen ?_
    exact ⟨_, [s1.heap.objs.size + 1, s1.heap.objs.size], _, _, H1, rfl, I1.kept (t' := s1.toks) hk, turn_enum a (s1.heap.objs.size + 1) s1.heap.objs.size, ⟨⟨.none, hen⟩, hit, Nat.succ_ne_self _⟩, ok, q⟩
  · obtain ⟨its, rv, pl, hz⟩ := I1.tuple hq
    refine call_enT pl fun h' hen hit hk => wpAny_pyIter_enum hen ?_
    exact ⟨_, [s1.heap.objs.size + 1, s1.heap.objs.size], _, _, H1, rfl, I1.kept (t' := s1.toks) hk, turn_enT a (s1.heap.objs.size + 1) s1.heap.objs.size, ⟨⟨.none, hen⟩, hit, Nat.succ_ne_self _⟩, ok, q⟩
theorem walk_enT {K : PySem.W.Frag} {a : Addr} {xs : List V} : Walk (IteT K a) xs.length (fun H => SqT K H a xs) (YPair (fun i => some (.int (i : Nat))) (fun i => xs[i]?)) := by
  refine ⟨fun i _ hi q => ⟨xs, xs[i], q, List.getElem?_eq_getElem hi⟩, fun _ q => ⟨xs, q, Nat.le_refl _⟩, ?_⟩
  rintro i H v H' _ q ⟨T, x, h1, h2, h3, h4⟩
  exact ⟨T, .int (i : Nat), x, h1, h2, h3, rfl, h4 xs q⟩
/-- each turn: a pair of the place and the item -/
def TEn (K : PySem.W.Frag) (ds : List PyData) (i : Nat) (v : V) (H : Hp) : Prop := ∃ T x d, v = .ref T ∧ SqT K H T [.int (i : Nat), x] ∧ ds[i]? = some d ∧ Rp K H x d
theorem walkd_en {K : PySem.W.Frag} {σ : L2.St} {H : Hp} {ta : TA} {d : PyData} {ds : List PyData} (h : EvA1 K ta σ H [d]) (hd : d = .list ds ∨ d = .tuple ds) : WalkD K (iEnA K ta) σ H ds.length (TEn K ds) := by
  intro H1 e1 R k
  refine h H1 e1 _ fun vs _ Hk H2 g2 r2 p2 => ?_
  subst p2
  cases r2 with
  | cons ra rr =>
    cases rr
    rcases hd with rfl | rfl
    · cases ra with
      | @lst a xs _ ga ra =>
        refine ⟨a, xs, rfl, .inl ⟨ex_l g2.sub ga, ?_⟩⟩
        refine k _ _ _ Hk H2 g2 (by have w := walk_enum (K := K) (a := a) (xs := xs); rw [ra.len] at w; exact w) (fun H3 e3 => ex_l e3 ga) ?_
        rintro i v Hm H3 H4 hi em e3 ⟨T, x, y, rfl, nT, rfl, hx, hy⟩
        cases hx
        obtain ⟨d', hd', rd⟩ := ra.get hy
        have g4 := Grow.new e3 nT (.tup [.int (i : Nat), y])
        exact ⟨_, g4, T, y, d', rfl, st_of upd_same, hd', rd.mono (em.trans g4.known)⟩
    · cases ra with
      | @tup a xs _ ga ra =>
        refine ⟨a, xs, rfl, .inr ⟨ex_t g2.sub ga, ?_⟩⟩
        refine k _ _ _ Hk H2 g2 (by have w := walk_enT (K := K) (a := a) (xs := xs); rw [ra.len] at w; exact w) (fun H3 e3 => ex_t e3 ga) ?_
        rintro i v Hm H3 H4 hi em e3 ⟨T, x, y, rfl, nT, rfl, hx, hy⟩
        cases hx
        obtain ⟨d', hd', rd⟩ := ra.get hy
        have g4 := Grow.new e3 nT (.tup [.int (i : Nat), y])
        exact ⟨_, g4, T, y, d', rfl, st_of upd_same, hd', rd.mono (em.trans g4.known)⟩
/-! what is not reached; // by any divisor -/
theorem ps_dead {X : Cx} {st : Stmt} : PS X st (fun _ _ _ => False) := ⟨fun _ _ _ _ _ _ h => h.elim⟩
def CDivX (_ j : Int) : Prop := j ≠ 0 ∧ j.natAbs.log2 < 9000
theorem op_fdivX {X : Cx} : OpR X (binaryOp .FloorDiv) (rI CDivX fun i j => .int (i.fdiv j)) := opI fun i j _ _ _ _ _ hc q => floordiv_int hc.1 q (.inl (PyProof.noPylong_of_log2 hc.2))
end DL
/-! tuples backwards; new lists not told; loops whose lists change -/
namespace DL
open PySem PySem.Spec PyProof.Rows L2 Evl
section
variable {prog : Program} {w : World} {A : Around} {E : Value → Shared → Prop} {s : Shared}
theorem adjust_back (n : Nat) : Builtin.Slice.sliceAdjust none none (-1) (n : Int) = ((n : Int) - 1, -1) := by
  unfold Builtin.Slice.sliceAdjust
  simp
theorem places_back (n : Nat) : Builtin.Slice.slicePlaces ((n : Int) - 1) (-1) (-1) = n := by
  unfold Builtin.Slice.slicePlaces
  by_cases h : n = 0
  · subst h
    decide
  · rw [if_neg (by decide), if_pos (by omega)]
    have e : ((n : Int) - 1 - -1 - 1) / (- -1) + 1 = n := by
      rw [show (- -1 : Int) = 1 by decide, Int.ediv_one]
      omega
    rw [e]
    rfl
theorem pick_back (xs : Array Value) : ((List.range xs.size).filterMap fun (m : Nat) => xs[((xs.size : Int) - 1 + (m : Int) * (-1)).toNat]?).toArray = xs.toList.reverse.toArray := by
  have h := PySem.W.krv_pick xs
  unfold slicePick at h
  rw [PySem.W.krv_bounds] at h
  rw [← h]
  show _ = ((sliceRange ((xs.size : Int) - 1) (-1) (-1)).filterMap (xs[·]?)).toArray
  rw [PySem.W.krv_sliceRange, List.filterMap_map]
  congr 1
  have : ∀ l : List Nat, (∀ m ∈ l, m < xs.size) → (l.filterMap fun (m : Nat) => xs[((xs.size : Int) - 1 + (m : Int) * (-1)).toNat]?) = l.filterMap ((fun x => xs[x]?) ∘ fun k => xs.size - 1 - k) := by
    intro l
    induction l with
    | nil => exact fun _ => rfl
    | cons m l ih =>
      intro hl
      have e : ((xs.size : Int) - 1 + (m : Int) * (-1)).toNat = xs.size - 1 - m := by
        have := hl m List.mem_cons_self
        omega
      rw [List.filterMap_cons, List.filterMap_cons, ih fun k hk => hl k (List.mem_cons_of_mem _ hk)]
      simp only [Function.comp, e]
  exact this _ fun m hm => List.mem_range.mp hm
theorem getItem_back {t sl : Addr} {items : Array Value} {vl vu vs : Value} {Q : Value → Shared → Prop} (ht : IsTup s.heap t items) (hs : s.heap.IsSliceOf sl vl vu vs) (pl : IsPart vl none) (pu : IsPart vu none) (ps : IsPart vs (some (-1)))
    (h : Q (.ref s.heap.objs.size) { s with heap := s.heap.push { cls := .type "tuple", data := .seq items.toList.reverse.toArray } }) (hsz : items.size ≤ sizeLine) : wpAny (model prog w) A (getItem (.ref t) (.ref sl)) Q E s := by
  obtain ⟨os, hos, hcs, hds⟩ := id hs
  have hTs : s.TypeIs (.ref sl) "slice" := ⟨os, hos, hcs⟩
  have ok : sizeOk (.seq items.toList.reverse.toArray) := by
    show items.toList.reverse.toArray.size ≤ sizeLine
    rw [List.size_toArray, List.length_reverse, Array.length_toList]
    exact hsz
  unfold getItem
  try with_reducible refine wpAny_holding ?_
  first | refine wpAny_bind (wpAny_pure ?_) | skip
  refine wpAny_bind (wpAny_sequenceKey ht.typeIs (by decide) ?_)
  refine wpAny_bind (wpAny_callSpecial?_slot (name := Str.ofString "__getitem__") ht.typeIs PyProof.Rows.slot_tuple_getitem (wpAny_call_entry PyProof.Rows.slot_tuple_getitem ht.typeIs entry_tuple_getitem ?_ (args_tuple_getitem _ _)))
  show wpAny _ _ (Builtin.Tuple.tupleItemsOf (.ref t) >>= _) _ _ s
  refine wpAny_bind (tupleItemsOf_ ht ?_)
  refine wpAny_bind (wpAny_typeOf hTs ?_)
  rw [if_pos (by decide)]
  refine wpAny_bind ?_
  unfold Builtin.Slice.sliceApplied Builtin.Slice.sliceFields
  refine wpAny_bind (wpAny_bind (wpAny_field hos hds (x := vl) rfl (wpAny_bind (wpAny_field hos hds (x := vu) rfl (wpAny_bind (wpAny_field hos hds (x := vs) rfl (wpAny_pure ?_)))))))
  refine wpAny_bind (HT.slicePart_ ps ?_)
  show wpAny _ _ (if ((-1 : Int) == 0) = true then _ else _) _ _ s
  rw [if_neg (by decide)]
  refine wpAny_bind (HT.slicePart_ pl (wpAny_bind (HT.slicePart_ pu (wpAny_bind (wpAny_pure ?_)))))
  show wpAny _ _ (match Builtin.Slice.sliceAdjust none none (-1) (items.size : Int) with | (lo, hi) => pure (lo, (-1 : Int), Builtin.Slice.slicePlaces lo hi (-1))) _ _ s
  rw [adjust_back]
  show wpAny _ _ (pure ((items.size : Int) - 1, (-1 : Int), Builtin.Slice.slicePlaces ((items.size : Int) - 1) (-1) (-1))) _ _ s
  rw [places_back]
  refine wpAny_pure ?_
  have hno : ¬ (((items.size : Int) - 1 == 0 && (-1 : Int) == 1 && items.size == items.size) = true) := by
    intro q
    rw [Bool.and_eq_true, Bool.and_eq_true] at q
    exact absurd q.1.2 (by decide)
  show wpAny _ _ (if ((items.size : Int) - 1 == 0 && (-1 : Int) == 1 && items.size == items.size) = true then _ else _) _ _ s
  rw [if_neg hno, pick_back]
  first
    | exact wpAny_bind (m := Builtin.Tuple.tupleExact _) (wpAny_newObj_type (wpAny_pure ⟨_, rfl, wpAny_pure h⟩) ok)
    | exact wpAny_bind (m := Builtin.Tuple.tupleExact _) (wpAny_newObj_type (wpAny_bind (wpAny_pure (wpAny_pure ⟨_, rfl, wpAny_pure h⟩))) ok)
end
/-- e[::-1], e a list or a tuple -/
def tBack (K : PySem.W.Frag) (te : TE) : TE := fun σ H Q => te σ H fun x H1 => ∃ a xs, x = .ref a ∧ ((SqL K H1 a xs ∧ ∀ p, H1 p = none → Q (.ref p) (upd H1 p (.lst xs.reverse))) ∨ (SqT K H1 a xs ∧ ∀ p, H1 p = none → Q (.ref p) (upd H1 p (.tup xs.reverse))))
theorem pe_back {X : Cx} {K : PySem.W.Frag} {e : Expr} {te : TE} {k : Nat} {p1 p2 p3 pos : Pos} (hK : X.K = K) (he : PE X e te) : PE X (.Subscript e (.Slice none none (some (.UnaryOp .USub (.Constant (.int 1) k p1) p2)) p3) pos) (tBack K te) := by
  subst hK
  refine ⟨fun pins s σ H Q I h => ?_⟩
  refine Subscript_ (thn (he.run pins s σ H _ I h) fun v s1 ⟨x, H1, I1, r1, a, xs, ex, q1⟩ => ?_)
  subst ex
  obtain rfl : v = Value.ref a := r1
  have hst : PO X (some (.UnaryOp .USub (.Constant (.int 1) k p1) p2)) (tPart (tUn (rU fun i => .int (-i)) (tC (.int 1)))) := po_some (pe_un un_neg pe_int)
  refine wpAny_Slice (thn (po_none.run pins s1 σ H1 (fun o H2 => o = none ∧ H2 = H1) I1 ⟨rfl, rfl⟩) fun vl s2 ⟨l, H2, I2, pl, el, e2⟩ => ?_)
  subst el e2
  refine thn (po_none.run pins s2 σ H2 (fun o H3 => o = none ∧ H3 = H2) I2 ⟨rfl, rfl⟩) fun vu s3 ⟨u, H3, I3, pu, eu, e3⟩ => ?_
  subst eu e3
  refine thn (hst.run pins s3 σ H3 (fun o H4 => o = some (-1) ∧ H4 = H3) I3 ⟨1, rfl, -1, rfl, rfl, rfl⟩) fun vs s4 ⟨o, H4, I4, ps, eo, e4⟩ => ?_
  subst eo e4
  have I5 : Inv X pins σ H4 { s4 with heap := s4.heap.push { cls := .type "slice", data := .fields #[vl, vu, vs] } } := I4.kept (t' := s4.toks) fun b ob q => Heap.get?_push_of_some _ q
  show wpAny (model X.prog X.w) X.A (subscriptTail e (.Slice none none (some (.UnaryOp .USub (.Constant (.int 1) k p1) p2)) p3) (.ref a) (.ref s4.heap.objs.size)) (EP X pins σ Q) X.xe { s4 with heap := s4.heap.push { cls := .type "slice", data := .fields #[vl, vu, vs] } }
  rcases q1 with ⟨hx, q⟩ | ⟨hx, q⟩
  · obtain ⟨its, r, ht, hz⟩ := I5.list hx
    have hlen := r.length
    refine tail_any (ops := [.ref a, .ref s4.heap.objs.size]) ht.isList.typeIs (PySem.slot_list_getitem.lookup) ?_ (by with_unfolding_all rfl)
    refine wpAny_getItem_list_slice ht.isList (Heap.IsSliceOf.new _ vl vu vs) pl pu ps (by decide) ?_ (by rw [List.size_toArray]; omega)
    rw [PySem.W.krv_pick]
    refine ⟨.ref _, _, I5.laid (t' := s4.toks) (o := .lst xs.reverse) (fun b ob q => Heap.get?_push_of_some _ q) (Nat.le_refl _) ?_, rfl, q _ (I5.hok.fresh (Nat.le_refl _))⟩
    exact ⟨by rw [List.length_reverse]; exact hz, _, 0, r.reverse, Heap.get?_push_size _ rfl⟩
  · obtain ⟨its, r, ht, hz⟩ := I5.tuple hx
    have hlen := r.length
    refine tail_any (ops := [.ref a, .ref s4.heap.objs.size]) ht.typeIs (PyProof.Rows.slot_tuple_getitem.lookup) ?_ (by with_unfolding_all rfl)
    refine getItem_back ht (Heap.IsSliceOf.new _ vl vu vs) pl pu ps ?_ (by rw [List.size_toArray]; omega)
    refine ⟨.ref _, _, I5.laid (t' := s4.toks) (o := .tup xs.reverse) (fun b ob q => Heap.get?_push_of_some _ q) (Nat.le_refl _) ?_, rfl, q _ (I5.hok.fresh (Nat.le_refl _))⟩
    exact ⟨by rw [List.length_reverse]; exact hz, _, r.reverse, IsTup.new _ _⟩
theorem RpAll.rev {K : PySem.W.Frag} {H : Hp} : ∀ {vs : List V} {ds : List PyData}, RpAll K H vs ds → RpAll K H vs.reverse ds.reverse
  | _, _, .nil => .nil
  | _, _, .cons h r => by
    rw [List.reverse_cons, List.reverse_cons]
    exact (RpAll.rev r).append (.cons h .nil)
theorem evd_back {K : PySem.W.Frag} {σ : L2.St} {H : Hp} {te : TE} {d : PyData} {ds : List PyData} {f : PyData → PyData} (h : EvD K te σ H d) (hd : (d = .list ds ∧ f = fun _ => .list ds.reverse) ∨ (d = .tuple ds ∧ f = fun _ => .tuple ds.reverse)) : EvD K (tBack K te) σ H (f d) := by
  intro H1 e Q q
  refine h H1 e _ fun v _ Hk2 H2 g2 r2 p2 => ?_
  subst p2
  rcases hd with ⟨rfl, rfl⟩ | ⟨rfl, rfl⟩
  · cases r2 with
    | @lst a xs _ g r =>
      refine ⟨a, xs, rfl, .inl ⟨ex_l g2.sub g, fun p hp => ?_⟩⟩
      have g4 := Grow.new g2.sub hp (.lst xs.reverse)
      exact q _ _ _ _ (g2.trans g4) (.lst (sq_of upd_same) (r.mono g4.known).rev) rfl
  · cases r2 with
    | @tup a xs _ g r =>
      refine ⟨a, xs, rfl, .inr ⟨ex_t g2.sub g, fun p hp => ?_⟩⟩
      have g4 := Grow.new g2.sub hp (.tup xs.reverse)
      exact q _ _ _ _ (g2.trans g4) (.tup (st_of upd_same) (r.mono g4.known).rev) rfl
end DL
namespace DL
open PySem PySem.Spec PyProof.Rows L2 Evl
open AutoSeq1 (wpAny_loadPart')
/-! () * k -/
theorem tuple_mul0 (l : Addr) (n : Nat) (dd : Option Addr) (sl : Array (Option Value)) (x : Int) (u : Tok) (c0 : (decide (x < -(2 ^ 63)) || decide (x ≥ 2 ^ 63)) = false) :
    Meets (Builtin.«tuple.__mul__» ⟨[.ref l, .int x u], []⟩) (fun _ R s => s.heap.get? l = some { cls := .type "tuple", dict := dd, data := .seq #[] n, slots := sl } ∧ R (.ok (.ret (Value.ref l))) s) := by
  refine .of_wp ?_
  rintro prog w A R ⟨hp, g, d, tk, os⟩ ⟨hl, h⟩
  have f1 := AutoSeq1.idx_int
  wp_walk using wpAny_loadPart' hl
  repeat (first
    | (refine wpAny_ite_false (decide_eq_false (by rw [c0]; exact Bool.false_ne_true)) ?_; wp_walk using wpAny_loadPart' hl)
    | (refine wpAny_ite_true (by decide) ?_; wp_walk using wpAny_loadPart' hl))
  exact ⟨_, rfl, h⟩
def rRep0 (K : PySem.W.Frag) : R2 := fun x y H Q => ∃ l k, x = .ref l ∧ y = .int k ∧ SqT K H l [] ∧ -(2 ^ 63) ≤ k ∧ k < 2 ^ 63 ∧ Q (.ref l) H
theorem op_rep0 {X : Cx} : OpR X (binaryOp .Mult) (rRep0 X.K) := by
  intro pins s σ H x y v u Q I rx ry h
  obtain ⟨l, k, rfl, rfl, hT, h1, h2, q⟩ := h
  obtain rfl : v = Value.ref l := rx
  obtain ⟨t, rfl⟩ := ry
  obtain ⟨its, r, ⟨⟨cls, dd, data, sl⟩, ho, hc, n, hd⟩, hs⟩ := I.tuple hT
  cases r
  obtain rfl : cls = .type "tuple" := hc
  obtain rfl : data = .seq #[] n := hd
  have c0 : (decide (k < -(2 ^ 63)) || decide (k ≥ 2 ^ 63)) = false := by
    rw [Bool.or_eq_false_iff]
    exact ⟨decide_eq_false (by omega), decide_eq_false (by omega)⟩
  exact wpAny_binaryOp_repeat_ref (T := "tuple") (U := "int") (by decide) ⟨_, ho, rfl⟩ (fun s' => typeIs_int s' k t) noFill_tuple_mul F.fills_int_mul F.slot_int_rmul repeat_tuple F.slot_int_index.lookup
    (call_meets F.slot_int_rmul (typeIs_int s k t) F.entry_int_rmul (F.args_int_rmul_2 _ _) (int_rmul_tuple k t l #[] n dd sl)
      ⟨ho, rfl, ⟨_, ho, rfl⟩, call_meets F.slot_tuple_mul ⟨_, ho, rfl⟩ F.entry_tuple_mul (F.args_tuple_mul_2 _ _) (tuple_mul0 l n dd sl k t c0) ⟨ho, ⟨.ref l, H, I, rfl, q⟩⟩⟩)
/-- e * k, e a tuple -/
def rRepTA (K : PySem.W.Frag) : R2 := fun x y H Q => rRepT K x y H Q ∨ rRep0 K x y H Q
theorem kRepT {X : Cx} {K : PySem.W.Frag} (h : X.K = K) : OpR X (binaryOp .Mult) (rRepTA K) := h ▸ opOr op_repT op_rep0
theorem RpAll.rep {K : PySem.W.Frag} {H : Hp} {vs : List V} {ds : List PyData} (h : RpAll K H vs ds) : ∀ n, RpAll K H (List.replicate n vs).flatten (List.replicate n ds).flatten
  | 0 => .nil
  | n + 1 => by
    rw [List.replicate_succ, List.replicate_succ, List.flatten_cons, List.flatten_cons]
    exact h.append (RpAll.rep h n)
theorem rd_repT {K : PySem.W.Frag} {ds : List PyData} {k : Int} (h1 : 2 ≤ k ∧ k ≤ 1000) (hl : ds.length ≤ 1000) : RD K (rRepTA K) (.tuple ds) (.int k) (· = .tuple (List.replicate k.toNat ds).flatten) := by
  intro v1 v2 H H1 e r1 r2 Q q
  cases r2
  cases r1 with
  | @tup a xs _ g r =>
    cases r with
    | nil =>
      refine .inr ⟨a, k, rfl, rfl, ex_t e g, by omega, by omega, ?_⟩
      have e0 : (List.replicate k.toNat ([] : List PyData)).flatten = [] := List.flatten_eq_nil_iff.mpr fun l hl => (List.mem_replicate.mp hl).2
      exact q _ (.tuple []) H H1 (Grow.refl e) (.tup g .nil) (by rw [e0])
    | @cons v vs d ds' hv hr =>
      refine .inl ⟨a, k, _, rfl, rfl, ex_t e g, (fun z => nomatch z), h1.1, h1.2, ?_, fun p hp => ?_⟩
      · rw [(RpAll.cons hv hr).len]
        exact hl
      · have g4 := Grow.new e hp (.tup (List.replicate k.toNat (v :: vs)).flatten)
        exact q _ _ _ _ g4 (.tup (st_of upd_same) (((RpAll.cons hv hr).mono g4.known).rep _)) rfl
/-! two or three names at once -/
section
variable {K : PySem.W.Frag} {σ : L2.St} {H H1 : Hp} {te ta tb tc : TE} {tt : TT} {tu tz : TS} {P P1 P2 P3 : PyData → Prop} {D : Ends} {i j l : Nat}
theorem st_par (h1 : EvP K ta σ H P1) (h2 : EvP K tb σ H P2) (ex : Ex H H1)
    (k : ∀ v w d e Hk H2, Grow H H1 Hk H2 → Rp K Hk v d → Rp K Hk w e → P1 d → P2 e → tz D ((σ.set i (some v)).set j (some w)) H2) : tSeq (tPar i j (tCons ta (tCons tb tNil))) tz D σ H1 :=
  h1 H1 ex _ fun v d Hk H2 g r p => h2.mono g.known H2 g.sub _ fun w e Hk' H3 g' r' p' => ⟨v, w, rfl, k v w d e Hk' H3 (g.trans g') (r.mono g'.known) r' p p'⟩
theorem st_parL (h1 : EvP K ta σ H P1) (h2 : EvP K tb σ H P2) (ex : Ex H H1)
    (k : ∀ v w d e Hk H2, Grow H H1 Hk H2 → Rp K Hk v d → Rp K Hk w e → P1 d → P2 e → D.nx ((σ.set i (some v)).set j (some w)) H2) : tPar i j (tCons ta (tCons tb tNil)) D σ H1 :=
  h1 H1 ex _ fun v d Hk H2 g r p => h2.mono g.known H2 g.sub _ fun w e Hk' H3 g' r' p' => ⟨v, w, rfl, k v w d e Hk' H3 (g.trans g') (r.mono g'.known) r' p p'⟩
/-- a new list, not told -/
def EvN (K : PySem.W.Frag) (te : TE) (σ : L2.St) (H : Hp) (P : List PyData → Prop) : Prop :=
  ∀ H1, Ex H H1 → ∀ Q : VK, (∀ p vs ds Hk H2, Grow H H1 Hk H2 → RpAll K Hk vs ds → P ds → Hk p = none → H2 p = some (.lst vs) → H1 p = none → Q (.ref p) H2) → te σ H1 Q
theorem st_par3N {P1' : List PyData → Prop} (h1 : EvN K ta σ H P1') (h2 : EvP K tb σ H P2) (h3 : EvP K tc σ H P3) (ex : Ex H H1)
    (k : ∀ p vs ds v w d e Hk H2, Grow H H1 Hk H2 → RpAll K Hk vs ds → P1' ds → Hk p = none → H2 p = some (.lst vs) → H1 p = none → Rp K Hk v d → Rp K Hk w e → P2 d → P3 e → tz D (((σ.set i (some (.ref p))).set j (some v)).set l (some w)) H2) :
    tSeq (tPar3 i j l (tCons ta (tCons tb (tCons tc tNil)))) tz D σ H1 :=
  h1 H1 ex _ fun p vs ds Hk H2 g r q n1 n2 n3 => h2.mono g.known H2 g.sub _ fun v d Hk' H3 g' r' p' => h3.mono (g.trans g').known H3 g'.sub _ fun w e Hk'' H4 g'' r'' p'' => by
    have gg := g'.trans g''
    exact ⟨.ref p, v, w, rfl, k p vs ds v w d e Hk'' H4 (g.trans gg) (r.mono gg.known) q (gg.unk n1 n2) (gg.all _ _ n2) n3 (r'.mono g''.known) r'' p' p''⟩
/-- a loop over a range, whatever its body changes -/
theorem st_forR {ta : TA} {tb : TS} {n : Int} (h : EvA1 K ta σ H [.int n]) (hn : -(2 ^ 62) ≤ n ∧ n < 2 ^ 62) (ex : Ex H H1) (Pv : Nat → L2.St → Hp → Prop) (h0 : ∀ Hk H2, Grow H H1 Hk H2 → Pv 0 σ H2)
    (hs : ∀ (x : Nat) σ2 H3, x < n.toNat → Pv x σ2 H3 → tb { D with nx := Pv (x + 1), ct := Pv (x + 1), bk := tz D } (σ2.set i (some (.int (x : Int)))) H3) (hd : ∀ σ2 H3, Pv n.toNat σ2 H3 → tz D σ2 H3) :
    tSeq (tFor (iRng1 ta) (gName i) tb) tz D σ H1 := by
  refine h H1 ex _ fun vs _ Hk H2 g2 r2 p2 => ?_
  subst p2
  cases r2 with
  | cons r rr =>
    cases r
    cases rr
    refine ⟨n, rfl, hn.1, hn.2, ?_⟩
    refine for_it (D := { D with nx := tz D }) walk_range Pv (h0 Hk H2 g2) (fun _ _ _ _ _ => trivial) ?_ hd
    rintro x v σ2 H3 H4 hx p ⟨rfl, hv⟩
    have hv' : v = .int (x : Int) := by rw [hv]; simp
    subst hv'
    exact hs x σ2 _ hx p
/-- x = xs.pop(k), xs at p, not told -/
theorem st_pop {a : Nat} {p : Addr} {xs : List V} {k : Nat} {v : V} (hi : σ[i]? = some (some (.ref p))) (ha : σ[a]? = some (some (.int (k : Int)))) (hp : H1 p = some (.lst xs)) (hx : xs[k]? = some v) (hz : xs.length ≤ 100000)
    (q : tz D (σ.set l (some v)) (upd H1 p (.lst (xs.eraseIdx k)))) : tSeq (tAsg (tBM K "list" rPopAt (tVar i) (tCons (tVar a) tNil)) (gName l)) tz D σ H1 := by
  have hk : k < xs.length := (List.getElem?_eq_some_iff.mp hx).1
  refine ⟨.ref p, hi, .inl ⟨rfl, xs, .inl (.inl hp)⟩, .int (k : Int), ha, p, xs, (k : Int), k, v, rfl, rfl, hp, by omega, by omega, ?_, hx, q⟩
  exact seqIndex_of (k := (k : Int)) (Int.natCast_nonneg k) (by omega)
/-- while, by a measure of what stands -/
theorem st_while (W : Nat → L2.St → Hp → Prop) (m0 : Nat) (h0 : W m0 σ H1)
    (hs : ∀ m σ' H', W m σ' H' → ∃ Hk b, Ex Hk H' ∧ EvT1 tt σ' Hk b ∧ (b = true → ∀ Hk2 H2, Grow Hk H' Hk2 H2 → tu { D with nx := fun σ2 H3 => ∃ m', m' < m ∧ W m' σ2 H3, ct := fun σ2 H3 => ∃ m', m' < m ∧ W m' σ2 H3, bk := tz D } σ' H2) ∧
      (b = false → ∀ Hk2 H2, Grow Hk H' Hk2 H2 → tz D σ' H2)) : tSeq (tWhile tt tu) tz D σ H1 := by
  refine ⟨W, ⟨m0, h0⟩, fun m σ' H' w => ?_⟩
  obtain ⟨Hk, b, e, ht, h1, h2⟩ := hs m σ' H' w
  refine ht H' e _ fun c Hk2 H2 g hc => ?_
  subst hc
  cases c with
  | true =>
    show ∃ N : L2.St → Hp → Prop, _
    exact ⟨_, fun σ2 H3 z => z, h1 rfl Hk2 H2 g⟩
  | false => exact h2 rfl Hk2 H2 g
theorem st_whileL (W : Nat → L2.St → Hp → Prop) (m0 : Nat) (h0 : W m0 σ H1)
    (hs : ∀ m σ' H', W m σ' H' → ∃ Hk b, Ex Hk H' ∧ EvT1 tt σ' Hk b ∧ (b = true → ∀ Hk2 H2, Grow Hk H' Hk2 H2 → tu { D with nx := fun σ2 H3 => ∃ m', m' < m ∧ W m' σ2 H3, ct := fun σ2 H3 => ∃ m', m' < m ∧ W m' σ2 H3, bk := D.nx } σ' H2) ∧
      (b = false → ∀ Hk2 H2, Grow Hk H' Hk2 H2 → D.nx σ' H2)) : tWhile tt tu D σ H1 := by
  refine ⟨W, ⟨m0, h0⟩, fun m σ' H' w => ?_⟩
  obtain ⟨Hk, b, e, ht, h1, h2⟩ := hs m σ' H' w
  refine ht H' e _ fun c Hk2 H2 g hc => ?_
  subst hc
  cases c with
  | true =>
    show ∃ N : L2.St → Hp → Prop, _
    exact ⟨_, fun σ2 H3 z => z, h1 rfl Hk2 H2 g⟩
  | false => exact h2 rfl Hk2 H2 g
end
end DL
/-! new lists by comprehensions, not told -/
namespace DL
open PySem PySem.Spec PyProof.Rows L2 Evl
section
variable {K : PySem.W.Frag} {H : Hp} {σ : L2.St} {g : TG} {tt : TT} {te : TE} {vs : List Nat}
theorem evn_lcW {wi : TI} {n : Nat} {T : Nat → V → Hp → Prop} {b : Nat → Bool} {P : Nat → PyData → Prop} (hi : WalkD K wi σ H n T)
    (ht : ∀ i x Hm, i < n → Ex H Hm → T i x Hm → Turn1 K g tt te vs σ x Hm (b i) (P i)) (hn : n ≤ 100000) :
    EvN K (tLc wi g tt te vs) σ H (fun ds => ∃ f : Nat → PyData, ds = ((List.range n).filter b).map f ∧ ∀ i, i < n → b i = true → P i (f i)) := by
  intro H1 e Q q
  refine hi H1 e _ fun J G Y Hk H2 g2 w g0 hy => ?_
  intro D hD
  have hDk : Hk D = none := ex_none g2.sub hD
  refine lc_it w (fun i H' => ∃ Hm xs, Ex Hk Hm ∧ Ex Hm H' ∧ Ex H2 H' ∧ Hm D = none ∧ (∀ p o, Hm p = some o → Hk p = none → H2 p = none) ∧ H' D = some (.lst xs) ∧ ∃ f : Nat → PyData, RpAll K Hm xs (((List.range i).filter b).map f) ∧ ∀ j, j < i → b j = true → P j (f j)) ?_ ?_ ?_ ?_
  · exact ⟨Hk, [], Ex.refl _, g2.sub.trans (Ex.new hD), Ex.new hD, hDk, (fun p o h n => by rw [h] at n; cases n), upd_same, fun _ => .none, .nil, fun j hj => absurd hj (Nat.not_lt_zero j)⟩
  · rintro i H' _ ⟨Hm, xs, e1, e2, _⟩
    exact g0 H' (e1.trans e2)
  · rintro i x H3 H4 hlt ⟨Hm, xs, em, e3, e23, hm, hf, hx, f, r, hP⟩ y
    obtain ⟨Hm', g34, tx⟩ := hy i x Hm H3 H4 hlt em e3 y
    refine ht i x Hm' hlt ((g2.known.trans em).trans g34.known) tx H4 g34.sub _ fun σ2 hw ht he => ⟨hw, ?_⟩
    refine ht H4 g34.sub _ fun c Hm5 H5 g5 hc => ?_
    subst hc
    have g35 := g34.trans g5
    have hx5 : H5 D = some (.lst xs) := g35.all _ _ hx
    have hm5 : Hm5 D = none := g35.unk hm hx
    have hf5 : ∀ p o, Hm5 p = some o → Hk p = none → H2 p = none := fun p o h n => by
      cases z : Hm p with
      | some u => exact hf p u z n
      | none => exact ex_none e23 (g35.fresh p o h z)
    cases hb : b i with
    | false =>
      rw [if_neg Bool.false_ne_true]
      refine ⟨Hm5, xs, em.trans g35.known, g35.sub, e23.trans g35.all, hm5, hf5, hx5, f, ?_, fun j hj hbj => ?_⟩
      · rw [List.range_succ, List.filter_append, List.filter_cons_of_neg (by rw [hb]; exact Bool.false_ne_true), List.filter_nil, List.append_nil]
        exact r.mono g35.known
      · by_cases hji : j = i
        · subst hji; rw [hb] at hbj; cases hbj
        · exact hP j (by omega) hbj
    | true =>
      rw [if_pos rfl]
      refine (he hb).mono g5.known H5 g5.sub _ fun v d Hm7 H7 g7 r7 p7 => ?_
      have g37 := g35.trans g7
      have hx7 : H7 D = some (.lst xs) := g37.all _ _ hx
      have hm7 : Hm7 D = none := g37.unk hm hx
      refine ⟨xs, hx7, ?_, ?_⟩
      · have hl : xs.length = (((List.range i).filter b).map f).length := r.len
        have h2 : (((List.range i).filter b).map f).length ≤ i := by
          rw [List.length_map]
          exact Nat.le_trans (List.length_filter_le _ _) (by rw [List.length_range]; exact Nat.le_refl i)
        exact sz_lt (by omega)
      · refine ⟨Hm7, xs ++ [v], em.trans g37.known, g37.sub.mut hm7, (e23.trans g37.all).mut hD, hm7, fun p o h n => ?_, upd_same, fun j => if j = i then d else f j, ?_, fun j hj hbj => ?_⟩
        · cases z : Hm5 p with
          | some u => exact hf5 p u z n
          | none => exact ex_none (e23.trans g35.all) (g7.fresh p o h z)
        · rw [List.range_succ, List.filter_append, List.map_append, List.filter_cons_of_pos hb, List.filter_nil]
          refine RpAll.append ?_ ?_
          · have em : ((List.range i).filter b).map (fun j => if j = i then d else f j) = ((List.range i).filter b).map f := List.map_congr_left fun j hj => by
              have : j < i := List.mem_range.mp (List.mem_filter.mp hj).1
              rw [if_neg (by omega)]
            rw [em]
            exact r.mono g37.known
          · show RpAll K Hm7 [v] [if i = i then d else f i]
            rw [if_pos rfl]
            exact .cons r7 .nil
        · by_cases hji : j = i
          · subst hji
            show P j (if j = j then d else f j)
            rw [if_pos rfl]
            exact p7
          · show P j (if j = i then d else f j)
            rw [if_neg hji]
            exact hP j (by omega) hbj
  · rintro H' ⟨Hm, xs, em, e3, e23, hm, hf, hx, f, r, hP⟩
    have gk : Grow Hk H2 Hm H' := ⟨em, e3, e23, hf⟩
    exact q D xs _ Hm H' (g2.trans gk) r ⟨f, rfl, hP⟩ hm hx (ex_none g2.all hD)
end
section
variable {K : PySem.W.Frag} {σ : L2.St} {H H1 : Hp} {te t0 : TE} {i j : Nat} {vs : List Nat} {tz : TS} {D : Ends}
/-- over a list or a tuple, each item some datum by its own -/
theorem evn_mapW {wi : TI} {ds : List PyData} {P : PyData → PyData → Prop} (hwk : WalkD K wi σ H ds.length (TAt K ds)) (hn : ds.length ≤ 100000) (hw : ∀ x, wipe ((wipe σ vs).set i (some x)) vs = wipe σ vs)
    (hb : ∀ (k : Nat) d x Hm, ds[k]? = some d → Ex H Hm → Rp K Hm x d → EvP K te ((wipe σ vs).set i (some x)) Hm (P d)) :
    EvN K (tLc wi (gName i) tYes te vs) σ H (fun es => ∃ f : Nat → PyData, es = (List.range ds.length).map f ∧ ∀ k, k < ds.length → P (ds.getD k .none) (f k)) := by
  intro H1 ex Q q
  refine evn_lcW (b := fun _ => true) (P := fun k => P (ds.getD k .none)) hwk ?_ hn H1 ex Q ?_
  · rintro k x Hm hk e ⟨d, hd, r⟩
    have ed : ds.getD k .none = d := by rw [List.getD_eq_getElem?_getD, hd]; rfl
    rw [ed]
    exact turn_name (hw _) etp_yes fun _ => hb k d x Hm hd e r
  · rintro p us es Hk H2 g r ⟨f, rfl, hf⟩ n1 n2 n3
    refine q p us _ Hk H2 g r ⟨f, ?_, fun k hk => hf k hk rfl⟩ n1 n2 n3
    rw [all_true]
/-- x = a new list -/
theorem st_setN {P : List PyData → Prop} (h : EvN K te σ H P) (ex : Ex H H1) (k : ∀ p us ds Hk H2, Grow H H1 Hk H2 → RpAll K Hk us ds → P ds → Hk p = none → H2 p = some (.lst us) → H1 p = none → tz D (σ.set i (some (.ref p))) H2) : tSeq (tAsg te (gName i)) tz D σ H1 := h H1 ex _ k
/-- what a number or None says stands anywhere -/
theorem flat_any {H2 : Hp} {v : V} {d : PyData} (r : Rp K H v d) (h : flatD d = true) : Rp K H2 v d := by
  cases r with
  | non => exact .non
  | bl b => exact .bl b
  | int i => exact .int i
  | str x => exact .str x
  | lst _ _ => cases h
  | tup _ _ => cases h
  | dic _ _ => cases h
/-- a list at p, not told, is told for a while -/
theorem held {Hk H2 : Hp} {p : Addr} {us : List V} {ds : List PyData} (e : Ex Hk H2) (hk : Hk p = none) (hp : H2 p = some (.lst us)) (r : RpAll K Hk us ds) : Ex (upd Hk p (.lst us)) H2 ∧ Rp K (upd Hk p (.lst us)) (.ref p) (.list ds) :=
  ⟨(tell e hk hp).2, told_list r hk⟩
/-- .. and no more told -/
theorem Grow.forget {H0 H01 Hk H2 H3 : Hp} (g0 : Grow H0 H01 Hk H2) (e : Ex H2 H3) : Grow H0 H01 Hk H3 := ⟨g0.known, g0.sub.trans e, g0.all.trans e, g0.fresh⟩
end
/-! next((..), None) -/
theorem sq_rows {K : PySem.W.Frag} {H : Hp} : ∀ {xs : List V} {rows : List (List Int)}, RpAll K H xs (rows.map fun r => .list (r.map .int)) → ∀ (i : Nat) (v : V), xs[i]? = some v → ∃ r row, rows[i]? = some row ∧ v = .ref r ∧ SqL K H r ((row : List Int).map V.int)
  | [], [], _, i, v, e => by simp at e
  | x :: xs, row :: rows, .cons h r, 0, v, e => by
    cases Option.some.inj e
    cases h with
    | @lst a us _ g q =>
      refine ⟨a, row, rfl, rfl, ?_⟩
      rw [← RpAll.ints q]
      exact g
  | x :: xs, row :: rows, .cons h r, i + 1, v, e => sq_rows r i v (by simpa using e)
theorem evd_led {K : PySem.W.Frag} {σ : L2.St} {H : Hp} {te : TE} {P : Addr} {ci j : Nat} {rows : List (List Int)} (h : EvD K te σ H (.list (rows.map fun r => .list (r.map .int)))) (hσ : σ[ci]? = some (some (.int (j : Int)))) (hj : (j : Int) < 2 ^ 62)
    (hw : ∀ r ∈ rows, j < r.length) (hP : H P = some (TabO P)) : EvD K (tLed K P ci (tCons te tNil)) σ H (ledD rows j) := by
  intro H1 e Q q
  refine h H1 e _ fun v _ Hk H2 g r p => ?_
  subst p
  cases r with
  | @lst a xs _ ga r =>
    refine ⟨a, xs, rows, j, rfl, ex_l g.sub ga, ⟨by rw [r.len, List.length_map], fun i v hv => ?_⟩, hσ, hj, hw, g.sub _ _ (g.known _ _ hP), ?_⟩
    · obtain ⟨r', row, e1, e2, e3⟩ := sq_rows r i v hv
      exact ⟨r', row, e1, e2, ex_l g.sub e3⟩
    · refine q _ _ Hk H2 g ?_ rfl
      unfold ledV ledD
      cases ledOf rows j with
      | none => exact .non
      | some i => exact .int _
end DL
/-! promises of defs with tables -/
namespace DL
open PySem PySem.Spec PyProof.Rows L2 Evl
def spT1 (K : PySem.W.Frag) (ts : List Addr) (pre : PyData → Prop) (post : PyData → PyData → Prop) : Sp := fun vs H1 Q _ => ∃ H v d, vs = [v] ∧ Ex H H1 ∧ Tabs ts H ∧ Rp K H v d ∧ pre d ∧ ∀ u z Hk H2, Grow H H1 Hk H2 → Rp K Hk u z → post d z → Q u H2
def spT2 (K : PySem.W.Frag) (ts : List Addr) (pre : PyData → PyData → Prop) (post : PyData → PyData → PyData → Prop) : Sp := fun vs H1 Q _ => ∃ H v w d e, vs = [v, w] ∧ Ex H H1 ∧ Tabs ts H ∧ Rp K H v d ∧ Rp K H w e ∧ pre d e ∧
  ∀ u z Hk H2, Grow H H1 Hk H2 → Rp K Hk u z → post d e z → Q u H2
def spU0 (K : PySem.W.Frag) (ts : List Addr) (post : PyData → Prop) : Sp := fun vs H1 Q _ => ∃ H b, vs = [.ref b] ∧ Ex H H1 ∧ Tabs ts H ∧ H b = some (BagO b) ∧ ∀ u z Hk H2, Grow H H1 Hk H2 → Rp K Hk u z → post z → Q u H2
section
variable {K : PySem.W.Frag} {σ : L2.St} {H : Hp} {ta tb tc td : TE} {P1 P2 R : PyData → Prop} {E : XK} {i : Nat} {b : Addr} {ts : List Addr}
theorem evp_T1 {pre : PyData → Prop} {post : PyData → PyData → Prop} (hT : Tabs ts H) (h : EvP K ta σ H P1) (hp : ∀ d, P1 d → pre d) (hq : ∀ d z, P1 d → post d z → R z) :
    EvP K (tCall (spT1 K ts pre post) [] E (tCons ta tNil)) σ H R := fun H1 e Q q => h H1 e _ fun v d Hk H2 g2 r2 p2 =>
  ⟨Hk, v, d, rfl, g2.sub, hT.mono g2.known, r2, hp d p2, fun u z Hk3 H3 g3 r3 p3 => q u z Hk3 H3 (g2.trans g3) r3 (hq d z p2 p3)⟩
theorem evd_T1 {pre : PyData → Prop} {post : PyData → PyData → Prop} {d : PyData} (hT : Tabs ts H) (h : EvD K ta σ H d) (hp : pre d) : EvP K (tCall (spT1 K ts pre post) [] E (tCons ta tNil)) σ H (post d) :=
  evp_T1 hT h (fun _ e => by subst e; exact hp) fun _ _ e p => by subst e; exact p
theorem evp_T2 {pre : PyData → PyData → Prop} {post : PyData → PyData → PyData → Prop} (hT : Tabs ts H) (h : EvP K ta σ H P1) (h2 : EvP K tb σ H P2) (hp : ∀ d e, P1 d → P2 e → pre d e) (hq : ∀ d e z, P1 d → P2 e → post d e z → R z) :
    EvP K (tCall (spT2 K ts pre post) [] E (tCons ta (tCons tb tNil))) σ H R := fun H1 e Q q => h H1 e _ fun v d Hk H2 g2 r2 p2 => h2.mono g2.known H2 g2.sub _ fun w f Hk' H2' g2' r2' p2' =>
  ⟨Hk', v, w, d, f, rfl, g2'.sub, hT.mono (g2.trans g2').known, r2.mono g2'.known, r2', hp d f p2 p2', fun u z Hk3 H3 g3 r3 p3 => q u z Hk3 H3 ((g2.trans g2').trans g3) r3 (hq d f z p2 p2' p3)⟩
theorem evd_T2 {pre : PyData → PyData → Prop} {post : PyData → PyData → PyData → Prop} {d e : PyData} (hT : Tabs ts H) (h : EvD K ta σ H d) (h2 : EvD K tb σ H e) (hp : pre d e) : EvP K (tCall (spT2 K ts pre post) [] E (tCons ta (tCons tb tNil))) σ H (post d e) :=
  evp_T2 hT h h2 (fun _ _ e f => by subst e; subst f; exact hp) fun _ _ _ e f p => by subst e; subst f; exact p
theorem evp_U0 {post : PyData → Prop} (hT : Tabs ts H) (hi : σ[i]? = some (some (.ref b))) (hb : H b = some (BagO b)) : EvP K (tCall (spU0 K ts post) [] E (tCons (tVar i) tNil)) σ H post := fun H1 e Q q => ⟨.ref b, hi, H, b, rfl, e, hT, hb, q⟩
end
section
variable {P : Program} {w : World} {K : PySem.W.Frag} {mg : Str → Option Value} {base : Heap}
/-- a def whose code object is known -/
theorem Fun.okC {x qual : Str} {st : Stmt} {f c : Addr} {fd : FuncData} {N ps : List Str} {k : Nat} {sp : Sp} (F : Fun K x qual st f fd) (hc : fd.code = .ref c) (S : FnScope N ps (defScope st)) (len : ∀ vs H Q E, sp vs H Q E → vs.length = ps.length)
    (body : ∀ (cdv : Value) (A : Around) (outer : List Env) (s : Shared) (H : Hp) (vs : List V) (Q : VK) (E : XK), cdv = .ref c → Room k (A.deeper (envOfC qual (defScope st) s.heap.objs.size f cdv)) → sp vs H Q E →
      ∃ t, PSs (cxOf CX0 P w K mg base N qual (defScope st) f cdv A outer s H E).nox (defBody st) t ∧ t { nx := fun _ H' => Q .non H', rt := Q } (start N vs) H) : FnOk P w K mg base CX0 (k + 1) f fd ps sp := by
  obtain ⟨oc, od, kV, doc, pm, an, cdv, ct, osl, e, lk, hcd⟩ := F.ex
  subst e
  refine fn_of lk hcd S len fun A outer s H vs Q E hr hsp => ?_
  obtain ⟨t, h, q⟩ := body cdv A outer s H vs Q E hc hr hsp
  exact ⟨t, h.nox, q⟩
end
theorem tab_code {K : PySem.W.Frag} {x : Str} {f c P : Addr} {oc : Value} {od : Option Addr} {fd : FuncData} {osl : Array (Option Value)} (p : PySem.W.nsIn K mainGlobals x = some (some (.ref f))) (l : K.lookup f = some ⟨oc, od, .func fd, osl⟩)
    (q : PySem.W.tabIn K x = some (c, P)) : fd.code = .ref c := by
  unfold PySem.W.tabIn at q
  rw [p] at q
  simp only [l] at q
  split at q
  · rename_i c' hc'
    split at q
    · split at q
      · cases q
        exact hc'
      · cases q
    · cases q
  · cases q
end DL
/-! determinants by expansion along the first column; elimination without fractions is exact -/
namespace Mx
abbrev R := List Int
abbrev at' (r : R) (c : Nat) : Int := r.getD c 0
def expand (g : List R → Int) (c : Nat) : List R → Int
  | [] => 0
  | r :: S => at' r c * g S - expand (fun T => g (r :: T)) c S
def det : List Nat → List R → Int
  | [], [] => 1
  | [], _ :: _ => 0
  | c :: Cs, rs => expand (det Cs) c rs
def Alt (g : List R → Int) : Prop := ∀ P a b S, g (P ++ a :: b :: S) = - g (P ++ b :: a :: S)
theorem expand_lin (x y : Int) (c : Nat) : ∀ (S : List R) (g h k : List R → Int), (∀ T, k T = x * g T + y * h T) → expand k c S = x * expand g c S + y * expand h c S
  | [], g, h, k, e => by simp [expand]
  | r :: S, g, h, k, e => by
    have ih := expand_lin x y c S (fun T => g (r :: T)) (fun T => h (r :: T)) (fun T => k (r :: T)) fun T => e (r :: T)
    have e0 := e S
    simp only [expand]
    grind
theorem expand_neg {g h : List R → Int} (e : ∀ T, g T = - h T) (c : Nat) (S : List R) : expand g c S = - expand h c S := by
  have := expand_lin (-1) 0 c S h h g fun T => by rw [e T]; omega
  omega
theorem alt_expand (c : Nat) : ∀ (P : List R) (g : List R → Int), Alt g → ∀ a b S, expand g c (P ++ a :: b :: S) = - expand g c (P ++ b :: a :: S)
  | [], g, hg, a, b, S => by
    have e := expand_neg (g := fun T => g (a :: b :: T)) (h := fun T => g (b :: a :: T)) (fun T => hg [] a b T) c S
    simp only [List.nil_append, expand]
    rw [e]
    omega
  | x :: P, g, hg, a, b, S => by
    have ih := alt_expand c P (fun T => g (x :: T)) (fun Q a b S => hg (x :: Q) a b S) a b S
    have e := hg P a b S
    simp only [List.cons_append, expand]
    rw [ih, e]
    grind
theorem alt_det : ∀ Cs, Alt (det Cs)
  | [] => fun P a b S => by cases P <;> simp [det]
  | c :: Cs => fun P a b S => alt_expand c P (det Cs) (alt_det Cs) a b S
theorem alt_zero : ∀ (P : List R) (g : List R → Int), Alt g → ∀ a S, g (a :: (P ++ a :: S)) = 0
  | [], g, hg, a, S => by
    have := hg [] a a S
    simp only [List.nil_append] at this ⊢
    omega
  | x :: P, g, hg, a, S => by
    have h1 := hg [] a x (P ++ a :: S)
    have h2 := alt_zero P (fun T => g (x :: T)) (fun Q a b S => hg (x :: Q) a b S) a S
    simp only [List.nil_append, List.cons_append] at h1 ⊢
    rw [h1, h2]
    rfl
theorem det_twice {Cs : List Nat} {r : R} {Ls : List R} (h : r ∈ Ls) : det Cs (r :: Ls) = 0 := by
  obtain ⟨P, S, rfl⟩ := List.append_of_mem h
  exact alt_zero P (det Cs) (alt_det Cs) r S
/-- a row's number as a sum of its numbers at the columns Cs -/
def Lin : List Nat → (R → Int) → Prop
  | [], f => ∀ r, f r = 0
  | c :: Cs, f => ∃ a k, Lin Cs k ∧ ∀ r, f r = a * at' r c + k r
theorem lin_congr : ∀ {Cs : List Nat} {f g : R → Int}, Lin Cs f → (∀ r, g r = f r) → Lin Cs g
  | [], f, g, h, e => fun r => by rw [e r]; exact h r
  | c :: Cs, f, g, ⟨a, k, hk, h⟩, e => ⟨a, k, hk, fun r => by rw [e r]; exact h r⟩
theorem lin_comb (x y : Int) : ∀ {Cs : List Nat} {f g : R → Int}, Lin Cs f → Lin Cs g → Lin Cs (fun r => x * f r + y * g r)
  | [], f, g, h, k => fun r => by
    show x * f r + y * g r = 0
    rw [h r, k r]
    simp
  | c :: Cs, f, g, ⟨a, p, hp, h⟩, ⟨b, q, hq, k⟩ => ⟨x * a + y * b, _, lin_comb x y hp hq, fun r => by
    show x * f r + y * g r = _
    rw [h r, k r]
    grind⟩
theorem lin_zero : ∀ {Cs : List Nat}, Lin Cs (fun _ => 0)
  | [] => fun _ => rfl
  | c :: Cs => ⟨0, _, lin_zero, fun r => by simp⟩
theorem lin_expand {Cs : List Nat} (c : Nat) : ∀ (S : List R) (G : R → List R → Int), (∀ T, Lin Cs (fun r => G r T)) → Lin Cs (fun r => expand (G r) c S)
  | [], G, h => lin_zero
  | s :: S, G, h => by
    have ih := lin_expand c S (fun r T => G r (s :: T)) fun T => h (s :: T)
    refine lin_congr (lin_comb (at' s c) (-1) (h S) ih) fun r => ?_
    simp only [expand]
    omega
theorem lin_det : ∀ (Cs : List Nat) (S : List R), Lin Cs (fun r => det Cs (r :: S))
  | [], S => fun r => rfl
  | c :: Cs, S => by
    have h := lin_expand c S (fun r T => det Cs (r :: T)) (fun T => lin_det Cs T)
    refine ⟨det Cs S, _, lin_comb (-1) 0 h lin_zero, fun r => ?_⟩
    simp only [det, expand]
    grind
theorem lin_det1 (c : Nat) (Cs : List Nat) (S : List R) : ∃ k, Lin Cs k ∧ ∀ r, det (c :: Cs) (r :: S) = det Cs S * at' r c + k r := by
  have h := lin_expand c S (fun r T => det Cs (r :: T)) (fun T => lin_det Cs T)
  refine ⟨_, lin_comb (-1) 0 h lin_zero, fun r => ?_⟩
  simp only [det, expand]
  grind
/-- all the leading determinants differ from 0 -/
def NZ : List Nat → List R → Prop
  | [], [] => True
  | c :: Cs, l :: Ls => det (c :: Cs) (l :: Ls) ≠ 0 ∧ NZ Cs Ls
  | [], _ :: _ => False
  | _ :: _, [] => False
theorem nz_det : ∀ {Cs : List Nat} {Ls : List R}, NZ Cs Ls → det Cs Ls ≠ 0
  | [], [], _ => by decide
  | _ :: _, _ :: _, h => h.1
theorem nz_len : ∀ {Cs : List Nat} {Ls : List R}, NZ Cs Ls → Cs.length = Ls.length
  | [], [], _ => rfl
  | _ :: _, _ :: _, h => congrArg (· + 1) (nz_len h.2)
theorem nz_nodup : ∀ {Cs : List Nat} {Ls : List R}, NZ Cs Ls → Ls.Nodup
  | [], [], _ => List.nodup_nil
  | _ :: _, _ :: _, h => List.nodup_cons.mpr ⟨fun m => h.1 (det_twice m), nz_nodup h.2⟩
theorem uniq : ∀ {Cs : List Nat} {Ls : List R} {f : R → Int}, NZ Cs Ls → Lin Cs f → (∀ l ∈ Ls, f l = 0) → ∀ r, f r = 0
  | [], [], f, _, h, _ => h
  | c :: Cs, l :: Ls, f, ⟨h1, h2⟩, ⟨a, k, hk, e⟩, z => by
    obtain ⟨k', hk', e'⟩ := lin_det1 c Cs Ls
    have hx : Lin Cs (fun r => det Cs Ls * f r + (-a) * det (c :: Cs) (r :: Ls)) := lin_congr (lin_comb (det Cs Ls) (-a) hk hk') fun r => by
      show det Cs Ls * f r + (-a) * det (c :: Cs) (r :: Ls) = det Cs Ls * k r + (-a) * k' r
      rw [e r, e' r]
      grind
    have hz : ∀ r, det Cs Ls * f r + (-a) * det (c :: Cs) (r :: Ls) = 0 := uniq h2 hx fun l' hl' => by
      show det Cs Ls * f l' + (-a) * det (c :: Cs) (l' :: Ls) = 0
      rw [z l' (List.mem_cons_of_mem _ hl'), det_twice hl']
      simp
    have ha : a = 0 := by
      have h := hz l
      rw [z l List.mem_cons_self, Int.mul_zero, Int.zero_add] at h
      rcases Int.mul_eq_zero.mp h with h | h
      · omega
      · exact absurd h h1
    intro r
    have h := hz r
    rw [ha, Int.neg_zero, Int.zero_mul, Int.add_zero] at h
    exact (Int.mul_eq_zero.mp h).resolve_left (nz_det h2)
/-- the step without fractions -/
theorem exact_step {Cs : List Nat} {Ls : List R} (h : NZ Cs Ls) (j c : Nat) (r l : R) :
    det Cs Ls * det (j :: c :: Cs) (r :: l :: Ls) = det (j :: Cs) (r :: Ls) * det (c :: Cs) (l :: Ls) - det (c :: Cs) (r :: Ls) * det (j :: Cs) (l :: Ls) := by
  obtain ⟨kj, hj, ej⟩ := lin_det1 j Cs Ls
  obtain ⟨kc, hc, ec⟩ := lin_det1 c Cs Ls
  -- the greater determinant by r's numbers at j, at c, and at Cs
  have eg : ∃ k, Lin Cs k ∧ ∀ r, det (j :: c :: Cs) (r :: l :: Ls) = at' r j * det (c :: Cs) (l :: Ls) - at' r c * det (j :: Cs) (l :: Ls) + k r := by
    have h2 := lin_expand j (l :: Ls) (fun r T => expand (fun U => det Cs (r :: U)) c T) fun T => lin_expand c T (fun r U => det Cs (r :: U)) fun U => lin_det Cs U
    refine ⟨_, h2, fun r => ?_⟩
    have e1 := expand_lin (at' r c) (-1) j (l :: Ls) (det Cs) (fun T => expand (fun U => det Cs (r :: U)) c T) (fun T => det (c :: Cs) (r :: T)) fun T => by
      simp only [det, expand]
      omega
    have e2 : det (j :: c :: Cs) (r :: l :: Ls) = at' r j * det (c :: Cs) (l :: Ls) - expand (fun T => det (c :: Cs) (r :: T)) j (l :: Ls) := rfl
    have e3 : det (j :: Cs) (l :: Ls) = expand (det Cs) j (l :: Ls) := rfl
    rw [e2, e1, e3]
    grind
  obtain ⟨kg, hg, eg⟩ := eg
  have hx : Lin Cs (fun r => det Cs Ls * det (j :: c :: Cs) (r :: l :: Ls) - (det (j :: Cs) (r :: Ls) * det (c :: Cs) (l :: Ls) - det (c :: Cs) (r :: Ls) * det (j :: Cs) (l :: Ls))) := by
    refine lin_congr (lin_comb 1 1 (lin_comb (det Cs Ls) (- det (c :: Cs) (l :: Ls)) hg hj) (lin_comb (det (j :: Cs) (l :: Ls)) 0 hc lin_zero)) fun r => ?_
    show det Cs Ls * det (j :: c :: Cs) (r :: l :: Ls) - (det (j :: Cs) (r :: Ls) * det (c :: Cs) (l :: Ls) - det (c :: Cs) (r :: Ls) * det (j :: Cs) (l :: Ls)) = _
    rw [eg r, ej r, ec r]
    grind
  have := uniq h hx (fun l' hl' => by
    show det Cs Ls * det (j :: c :: Cs) (l' :: l :: Ls) - (det (j :: Cs) (l' :: Ls) * det (c :: Cs) (l :: Ls) - det (c :: Cs) (l' :: Ls) * det (j :: Cs) (l :: Ls)) = 0
    rw [det_twice (List.mem_cons_of_mem _ hl'), det_twice hl', det_twice hl']
    simp) r
  omega
end Mx
/-! rows free of one another: how many, whatever the way -/
namespace Mx
abbrev F := Nat → Int
def sumN : Nat → (Nat → Int) → Int
  | 0, _ => 0
  | n + 1, f => f 0 + sumN n fun i => f (i + 1)
theorem sumN_congr : ∀ {n : Nat} {f g : Nat → Int}, (∀ i, i < n → f i = g i) → sumN n f = sumN n g
  | 0, _, _, _ => rfl
  | n + 1, f, g, h => by
    show f 0 + _ = g 0 + _
    rw [h 0 (Nat.succ_pos n), sumN_congr fun i hi => h (i + 1) (Nat.succ_lt_succ hi)]
theorem sumN_lin (x y : Int) : ∀ (n : Nat) (f g : Nat → Int), sumN n (fun i => x * f i + y * g i) = x * sumN n f + y * sumN n g
  | 0, _, _ => by simp [sumN]
  | n + 1, f, g => by
    have ih := sumN_lin x y n (fun i => f (i + 1)) fun i => g (i + 1)
    simp only [sumN]
    rw [ih]
    grind
theorem sumN_zero (n : Nat) : sumN n (fun _ => 0) = 0 := by
  have := sumN_lin 0 0 n (fun _ => 0) fun _ => 0
  simpa using this
theorem sumN_mul (x : Int) (n : Nat) (f : Nat → Int) : sumN n (fun i => x * f i) = x * sumN n f := by
  have := sumN_lin x 0 n f fun _ => 0
  simp only [Int.zero_mul, Int.add_zero] at this
  exact this
theorem sumN_add (n : Nat) (f g : Nat → Int) : sumN n (fun i => f i + g i) = sumN n f + sumN n g := by
  have := sumN_lin 1 1 n f g
  simp only [Int.one_mul] at this
  exact this
theorem sumN_one : ∀ {n k : Nat} (f : Nat → Int), k < n → sumN n (fun i => (if i = k then 1 else 0) * f i) = f k
  | n + 1, 0, f, _ => by
    have : sumN n (fun i => (if i + 1 = 0 then 1 else 0) * f (i + 1)) = 0 := (sumN_congr fun i _ => by simp).trans (sumN_zero n)
    simp only [sumN]
    rw [this]
    simp
  | n + 1, k + 1, f, h => by
    have ih := sumN_one (fun i => f (i + 1)) (Nat.lt_of_succ_lt_succ h)
    simp only [sumN]
    have e : sumN n (fun i => (if i + 1 = k + 1 then 1 else 0) * f (i + 1)) = sumN n (fun i => (if i = k then 1 else 0) * f (i + 1)) := sumN_congr fun i _ => by simp
    rw [e, ih]
    simp
theorem sumN_swap (f : Nat → Nat → Int) : ∀ (n m : Nat), sumN n (fun i => sumN m (f i)) = sumN m fun j => sumN n fun i => f i j
  | 0, m => (sumN_zero m).symm
  | n + 1, m => by
    have ih := sumN_swap (fun i => f (i + 1)) n m
    simp only [sumN]
    rw [ih, ← sumN_add]
theorem sum_zeros : ∀ {J : List Nat} {k : F}, (∀ i ∈ J, k i = 0) → (J.map k).sum = 0
  | [], _, _ => rfl
  | i :: J, k, h => by
    rw [List.map_cons, List.sum_cons, h i List.mem_cons_self, sum_zeros fun i hi => h i (List.mem_cons_of_mem _ hi)]
    rfl
theorem perm_sum {a b : List Int} (h : a.Perm b) : a.sum = b.sum := by
  induction h with
  | nil => rfl
  | cons x _ ih => rw [List.sum_cons, List.sum_cons, ih]
  | swap x y l =>
    simp only [List.sum_cons]
    omega
  | trans _ _ ih1 ih2 => exact ih1.trans ih2
/-- more unknowns than sums -/
theorem more_unknowns : ∀ (n : Nat) (A : List F) (I : List Nat), A.length = n → I.Nodup → A.length < I.length → ∃ x : Nat → Int, (∃ i ∈ I, x i ≠ 0) ∧ ∀ a ∈ A, (I.map fun i => a i * x i).sum = 0
  | 0, A, I, hA, hn, h => by
    obtain rfl := List.length_eq_zero_iff.mp hA
    obtain ⟨i, hi⟩ : ∃ i, i ∈ I := List.exists_mem_of_length_pos h
    exact ⟨fun _ => 1, ⟨i, hi, Int.one_ne_zero⟩, fun a ha => nomatch ha⟩
  | n + 1, [], I, hA, hn, h => nomatch hA
  | n + 1, a :: A, I, hA, hn, h => by
    have hA' : A.length = n := Nat.succ.inj hA
    by_cases hz : ∀ i ∈ I, a i = 0
    · obtain ⟨x, hx, h2⟩ := more_unknowns n A I hA' hn (by rw [List.length_cons] at h; omega)
      refine ⟨x, hx, fun b hb => ?_⟩
      rcases List.mem_cons.mp hb with rfl | hb
      · exact sum_zeros fun i hi => by rw [hz i hi, Int.zero_mul]
      · exact h2 b hb
    · obtain ⟨p, hp, hap⟩ : ∃ p, p ∈ I ∧ a p ≠ 0 := by
        refine Classical.byContradiction fun z => hz fun i hi => ?_
        exact Classical.byContradiction fun y => z ⟨i, hi, y⟩
      have hperm : I.Perm (p :: I.erase p) := List.perm_cons_erase hp
      have hlen : (I.erase p).length = I.length - 1 := List.length_erase_of_mem hp
      obtain ⟨x, ⟨i0, hi0, hx0⟩, h2⟩ := more_unknowns n (A.map fun b i => a p * b i - b p * a i) (I.erase p) (by rw [List.length_map]; exact hA') (hn.erase p) (by
        rw [List.length_map, hlen]
        rw [List.length_cons] at h
        omega)
      have hnp : p ∉ I.erase p := by
        intro hm
        exact absurd rfl (((List.Nodup.mem_erase_iff hn).mp hm).1)
      let T : Int := ((I.erase p).map fun i => a i * x i).sum
      refine ⟨fun i => if i = p then - T else a p * x i, ⟨i0, List.mem_of_mem_erase hi0, ?_⟩, fun b hb => ?_⟩
      · have : i0 ≠ p := fun e => hnp (e ▸ hi0)
        show (if i0 = p then - T else a p * x i0) ≠ 0
        rw [if_neg this]
        exact Int.mul_ne_zero hap hx0
      · have key : ∀ b : F, (I.map fun i => b i * (if i = p then - T else a p * x i)).sum = b p * (- T) + ((I.erase p).map fun i => b i * (a p * x i)).sum := fun b => by
          rw [perm_sum (hperm.map _), List.map_cons, List.sum_cons, if_pos rfl]
          have e : ((I.erase p).map fun i => b i * (if i = p then - T else a p * x i)) = (I.erase p).map fun i => b i * (a p * x i) := List.map_congr_left fun i hi => by
            have hip : ¬ i = p := fun e => hnp (e ▸ hi)
            rw [if_neg hip]
          rw [e]
        have sm : ∀ (J : List Nat) (y z : Int) (f g k : F), (∀ i ∈ J, k i = y * f i + z * g i) → (J.map k).sum = y * (J.map f).sum + z * (J.map g).sum := by
          intro J y z f g k e
          induction J with
          | nil => simp
          | cons i J ih =>
            rw [List.map_cons, List.map_cons, List.map_cons, List.sum_cons, List.sum_cons, List.sum_cons, ih fun i hi => e i (List.mem_cons_of_mem _ hi), e i List.mem_cons_self]
            grind
        show (I.map fun i => b i * (if i = p then - T else a p * x i)).sum = 0
        rw [key b]
        rcases List.mem_cons.mp hb with rfl | hb
        · have e := sm (I.erase p) (b p) 0 (fun i => b i * x i) (fun _ => 0) (fun i => b i * (b p * x i)) fun i _ => by grind
          rw [e]
          show b p * - T + (b p * T + _) = 0
          grind
        · have e := h2 (fun i => a p * b i - b p * a i) (List.mem_map.mpr ⟨b, hb, rfl⟩)
          have e2 := sm (I.erase p) 1 (b p) (fun i => (a p * b i - b p * a i) * x i) (fun i => a i * x i) (fun i => b i * (a p * x i)) fun i _ => by grind
          rw [e2, e]
          show b p * - T + (1 * 0 + b p * T) = 0
          grind
abbrev ix (L : List F) (i : Nat) : F := L.getD i fun _ => 0
def Indep (L : List F) : Prop := ∀ x : Nat → Int, (∀ j, sumN L.length (fun i => x i * ix L i j) = 0) → ∀ i, i < L.length → x i = 0
/-- what sums of multiples of S reach, and parts of these -/
inductive Sp (S : F → Prop) : F → Prop
  | zero {t : F} : (∀ j, t j = 0) → Sp S t
  | mem {r : F} : S r → Sp S r
  | comb {r s t : F} (x y : Int) : Sp S r → Sp S s → (∀ j, t j = x * r j + y * s j) → Sp S t
  | div {r s : F} (d : Int) : d ≠ 0 → Sp S r → (∀ j, r j = d * s j) → Sp S s
theorem Sp.trans {S T : F → Prop} (h : ∀ r, S r → Sp T r) {r : F} (k : Sp S r) : Sp T r := by
  induction k with
  | zero e => exact .zero e
  | mem e => exact h _ e
  | comb x y _ _ e ih1 ih2 => exact .comb x y ih1 ih2 e
  | div d hd _ e ih => exact .div d hd ih e
theorem Sp.coefs {L : List F} {r : F} (h : Sp (· ∈ L) r) : ∃ d : Int, d ≠ 0 ∧ ∃ x : Nat → Int, ∀ j, d * r j = sumN L.length (fun i => x i * ix L i j) := by
  induction h with
  | zero e => exact ⟨1, by decide, fun _ => 0, fun j => by
      rw [e j, (sumN_congr (g := fun _ => 0) fun i _ => Int.zero_mul _), sumN_zero]
      rfl⟩
  | @mem r e =>
    obtain ⟨k, hk, rfl⟩ := List.getElem_of_mem e
    refine ⟨1, by decide, fun i => if i = k then 1 else 0, fun j => ?_⟩
    rw [sumN_one (fun i => ix L i j) hk]
    show 1 * L[k] j = (L.getD k _) j
    rw [List.getD_eq_getElem?_getD, List.getElem?_eq_getElem hk, Int.one_mul]
    rfl
  | @comb r s t x y _ _ e ih1 ih2 =>
    obtain ⟨d1, h1, x1, e1⟩ := ih1
    obtain ⟨d2, h2, x2, e2⟩ := ih2
    refine ⟨d1 * d2, Int.mul_ne_zero h1 h2, fun i => (x * d2) * x1 i + (y * d1) * x2 i, fun j => ?_⟩
    have e3 := sumN_lin (x * d2) (y * d1) L.length (fun i => x1 i * ix L i j) fun i => x2 i * ix L i j
    rw [← e1 j, ← e2 j] at e3
    rw [e j]
    refine Eq.trans ?_ (e3.symm.trans (sumN_congr fun i _ => by grind))
    grind
  | @div r s d hd _ e ih =>
    obtain ⟨d1, h1, x1, e1⟩ := ih
    refine ⟨d1 * d, Int.mul_ne_zero h1 hd, x1, fun j => ?_⟩
    rw [← e1 j, e j, Int.mul_assoc]
theorem range_sum : ∀ (n : Nat) (f : Nat → Int), ((List.range n).map f).sum = sumN n f
  | 0, _ => rfl
  | n + 1, f => by
    rw [List.range_succ_eq_map, List.map_cons, List.sum_cons, List.map_map]
    show f 0 + _ = f 0 + _
    rw [← range_sum n fun i => f (i + 1)]
    rfl
/-- independent rows are no more than what they come of -/
theorem exchange {L M : List F} (hi : Indep M) (h : ∀ r ∈ M, Sp (· ∈ L) r) : M.length ≤ L.length := by
  refine Classical.byContradiction fun z => ?_
  have c : ∀ i, ∃ d : Int, d ≠ 0 ∧ ∃ x : Nat → Int, i < M.length → ∀ j, d * ix M i j = sumN L.length (fun k => x k * ix L k j) := fun i => by
    by_cases hi : i < M.length
    · have hm : ix M i ∈ M := by
        show M.getD i _ ∈ M
        rw [List.getD_eq_getElem?_getD, List.getElem?_eq_getElem hi]
        exact List.getElem_mem hi
      obtain ⟨d, hd, x, e⟩ := (h _ hm).coefs
      exact ⟨d, hd, x, fun _ => e⟩
    · exact ⟨1, by decide, fun _ => 0, fun y => absurd y hi⟩
  let d : Nat → Int := fun i => Classical.choose (c i)
  have hd : ∀ i, d i ≠ 0 ∧ ∃ x : Nat → Int, i < M.length → ∀ j, d i * ix M i j = sumN L.length (fun k => x k * ix L k j) := fun i => Classical.choose_spec (c i)
  let xs : Nat → Nat → Int := fun i => Classical.choose (hd i).2
  have hx : ∀ i, i < M.length → ∀ j, d i * ix M i j = sumN L.length (fun k => xs i k * ix L k j) := fun i => Classical.choose_spec (hd i).2
  obtain ⟨y, ⟨i0, hi0, hy0⟩, hy⟩ := more_unknowns _ ((List.range L.length).map fun k i => xs i k) (List.range M.length) rfl List.nodup_range (by
    rw [List.length_map, List.length_range, List.length_range]
    omega)
  have h0 := hi (fun i => y i * d i) (fun j => by
    have e1 : sumN M.length (fun i => (y i * d i) * ix M i j) = sumN M.length (fun i => sumN L.length fun k => y i * (xs i k * ix L k j)) := sumN_congr fun i hi => by
      rw [Int.mul_assoc, hx i hi j, sumN_mul]
    rw [e1, sumN_swap]
    refine (sumN_congr (g := fun _ => 0) fun k hk => ?_).trans (sumN_zero _)
    have e2 := hy (fun i => xs i k) (List.mem_map.mpr ⟨k, List.mem_range.mpr hk, rfl⟩)
    rw [range_sum] at e2
    have e3 : sumN M.length (fun i => y i * (xs i k * ix L k j)) = sumN M.length (fun i => ix L k j * (xs i k * y i)) := sumN_congr fun i _ => by grind
    rw [e3, sumN_mul, e2, Int.mul_zero]) i0 (List.mem_range.mp hi0)
  rcases Int.mul_eq_zero.mp h0 with h0 | h0
  · exact hy0 h0
  · exact (hd i0).1 h0
def IsRank (rows : List F) (k : Nat) : Prop := ∃ Ls : List F, (∀ l ∈ Ls, l ∈ rows) ∧ Ls.length = k ∧ Indep Ls ∧ ∀ r ∈ rows, Sp (· ∈ Ls) r
theorem rank_le {rows rows' : List F} {k k' : Nat} (h : IsRank rows k) (h' : IsRank rows' k') (sp : ∀ r ∈ rows, Sp (· ∈ rows') r) : k ≤ k' := by
  obtain ⟨L, h1, h2, h3, h4⟩ := h
  obtain ⟨M, g1, g2, g3, g4⟩ := h'
  have := exchange h3 (L := M) fun r hr => Sp.trans g4 (sp r (h1 r hr))
  omega
theorem rank_eq {rows rows' : List F} {k k' : Nat} (h : IsRank rows k) (h' : IsRank rows' k') (sp : ∀ r ∈ rows, Sp (· ∈ rows') r) (sp' : ∀ r ∈ rows', Sp (· ∈ rows) r) : k = k' :=
  Nat.le_antisymm (rank_le h h' sp) (rank_le h' h sp')
end Mx
/-! any elimination by leads finds the rank -/
namespace Mx
inductive All2 {α β : Type} (p : α → β → Prop) : List α → List β → Prop
  | nil : All2 p [] []
  | cons {a : α} {b : β} {as : List α} {bs : List β} : p a b → All2 p as bs → All2 p (a :: as) (b :: bs)
theorem All2.right {α β : Type} {p : α → β → Prop} {as : List α} {bs : List β} (h : All2 p as bs) : ∀ b ∈ bs, ∃ a ∈ as, p a b := by
  induction h with
  | nil => exact fun b hb => nomatch hb
  | cons hp _ ih =>
    intro b hb
    rcases List.mem_cons.mp hb with rfl | hb
    · exact ⟨_, List.mem_cons_self, hp⟩
    · obtain ⟨a, ha, h⟩ := ih b hb
      exact ⟨a, List.mem_cons_of_mem _ ha, h⟩
theorem All2.left {α β : Type} {p : α → β → Prop} {as : List α} {bs : List β} (h : All2 p as bs) : ∀ a ∈ as, ∃ b ∈ bs, p a b := by
  induction h with
  | nil => exact fun b hb => nomatch hb
  | cons hp _ ih =>
    intro b hb
    rcases List.mem_cons.mp hb with rfl | hb
    · exact ⟨_, List.mem_cons_self, hp⟩
    · obtain ⟨a, ha, h⟩ := ih b hb
      exact ⟨a, List.mem_cons_of_mem _ ha, h⟩
theorem All2.map {α β γ : Type} {p : β → γ → Prop} {f : α → β} {g : α → γ} : ∀ {l : List α}, (∀ a ∈ l, p (f a) (g a)) → All2 p (l.map f) (l.map g)
  | [], _ => .nil
  | a :: l, h => .cons (h a List.mem_cons_self) (All2.map fun x hx => h x (List.mem_cons_of_mem _ hx))
/-- r' is r less the lead l at c, but for a factor -/
def Step1 (c : Nat) (l r r' : F) : Prop := ∃ a : Int, a ≠ 0 ∧ ∀ j, a * r' j = l c * r j - r c * l j
inductive Elim (w : Nat) : Nat → List F → Nat → Prop
  | done {c : Nat} {left : List F} : w ≤ c → Elim w c left 0
  | skip {c k : Nat} {left : List F} : c < w → (∀ r ∈ left, r c = 0) → Elim w (c + 1) left k → Elim w c left k
  | lead {c k : Nat} {A B left' : List F} {l : F} : c < w → l c ≠ 0 → All2 (Step1 c l) (A ++ B) left' → Elim w (c + 1) left' k → Elim w c (A ++ l :: B) (k + 1)
theorem pick2 {c : Nat} {l : F} {as bs : List F} (h : All2 (Step1 c l) as bs) : ∀ (Ls : List F), (∀ x ∈ Ls, x ∈ bs) → ∃ Ms : List F, (∀ x ∈ Ms, x ∈ as) ∧ All2 (Step1 c l) Ms Ls
  | [], _ => ⟨[], (fun x hx => nomatch hx), .nil⟩
  | x :: Ls, hx => by
    obtain ⟨Ms, h1, h2⟩ := pick2 h Ls fun y hy => hx y (List.mem_cons_of_mem _ hy)
    obtain ⟨a, ha, hs⟩ := h.right x (hx x List.mem_cons_self)
    refine ⟨a :: Ms, fun y hy => ?_, .cons hs h2⟩
    rcases List.mem_cons.mp hy with rfl | hy
    · exact ha
    · exact h1 y hy
theorem facts2 {c : Nat} {l : F} {Ms Ls : List F} (h : All2 (Step1 c l) Ms Ls) : Ms.length = Ls.length ∧ ∃ a : Nat → Int, ∀ i, i < Ls.length → a i ≠ 0 ∧ ∀ j, a i * ix Ls i j = l c * ix Ms i j - ix Ms i c * l j := by
  induction h with
  | nil => exact ⟨rfl, fun _ => 1, fun i hi => absurd hi (Nat.not_lt_zero i)⟩
  | @cons x y as bs hp _ ih =>
    obtain ⟨h1, a, h2⟩ := ih
    obtain ⟨a0, h3, h4⟩ := hp
    refine ⟨congrArg (· + 1) h1, fun i => match i with | 0 => a0 | n + 1 => a n, fun i hi => ?_⟩
    cases i with
    | zero => exact ⟨h3, h4⟩
    | succ n => exact h2 n (Nat.lt_of_succ_lt_succ hi)
theorem indep_cons {c : Nat} {l : F} {Ms Ls : List F} (hl : l c ≠ 0) (h : All2 (Step1 c l) Ms Ls) (hi : Indep Ls) : Indep (l :: Ms) := by
  obtain ⟨hlen, a, ha⟩ := facts2 h
  intro x hx
  have hx' : ∀ j, x 0 * l j + sumN Ms.length (fun i => x (i + 1) * ix Ms i j) = 0 := hx
  have h0 : ∀ i, i < Ls.length → x (i + 1) * a i = 0 := by
    refine hi (fun i => x (i + 1) * a i) fun j => ?_
    have e1 : sumN Ls.length (fun i => (x (i + 1) * a i) * ix Ls i j) = sumN Ls.length (fun i => l c * (x (i + 1) * ix Ms i j) + (- l j) * (x (i + 1) * ix Ms i c)) := sumN_congr fun i hi => by
      have := (ha i hi).2 j
      rw [Int.mul_assoc, this]
      grind
    show sumN Ls.length (fun i => (x (i + 1) * a i) * ix Ls i j) = 0
    rw [e1, sumN_lin, ← hlen]
    have e2 := hx' j
    have e3 := hx' c
    have e4 : sumN Ms.length (fun i => x (i + 1) * ix Ms i j) = - (x 0 * l j) := by omega
    have e5 : sumN Ms.length (fun i => x (i + 1) * ix Ms i c) = - (x 0 * l c) := by omega
    rw [e4, e5]
    grind
  have h1 : ∀ i, i < Ms.length → x (i + 1) = 0 := fun i hi => by
    rw [hlen] at hi
    exact (Int.mul_eq_zero.mp (h0 i hi)).resolve_right (ha i hi).1
  intro i hi'
  cases i with
  | succ n => exact h1 n (Nat.lt_of_succ_lt_succ hi')
  | zero =>
    have e := hx' c
    rw [(sumN_congr (g := fun _ => 0) fun i hi => by rw [h1 i hi, Int.zero_mul]), sumN_zero, Int.add_zero] at e
    exact (Int.mul_eq_zero.mp e).resolve_right hl
theorem elim_rank {w c k : Nat} {left : List F} (h : Elim w c left k) : (∀ r ∈ left, ∀ j, j < c ∨ w ≤ j → r j = 0) → IsRank left k := by
  induction h with
  | done hc =>
    intro z
    exact ⟨[], fun l hl => (nomatch hl), rfl, fun x _ i hi => absurd hi (Nat.not_lt_zero i), fun r hr => .zero fun j => z r hr j (by omega)⟩
  | @skip c k left hc h0 _ ih =>
    intro z
    refine ih fun r hr j hj => ?_
    by_cases e : j = c
    · subst e
      exact h0 r hr
    · exact z r hr j (by omega)
  | @lead c k A B left' l hc hl hs _ ih =>
    intro z
    have zl : ∀ r ∈ A ++ B, r ∈ A ++ l :: B := fun r hr => by
      rcases List.mem_append.mp hr with h | h
      · exact List.mem_append.mpr (.inl h)
      · exact List.mem_append.mpr (.inr (List.mem_cons_of_mem _ h))
    have ml : l ∈ A ++ l :: B := List.mem_append.mpr (.inr List.mem_cons_self)
    obtain ⟨Ls, h1, h2, h3, h4⟩ := ih fun r hr j hj => by
      obtain ⟨r0, hr0, a, ha, e⟩ := hs.right r hr
      have e' := e j
      have : a * r j = 0 := by
        by_cases ej : j = c
        · subst ej
          rw [e']
          grind
        · have y1 := z r0 (zl r0 hr0) j (by omega)
          have y2 := z l ml j (by omega)
          rw [e', y1, y2]
          simp
      exact (Int.mul_eq_zero.mp this).resolve_left ha
    obtain ⟨Ms, g1, g2⟩ := pick2 hs Ls h1
    have hlen := (facts2 g2).1
    refine ⟨l :: Ms, fun x hx => ?_, by rw [List.length_cons, hlen, h2], indep_cons hl g2 h3, ?_⟩
    · rcases List.mem_cons.mp hx with rfl | hx
      · exact ml
      · exact zl x (g1 x hx)
    · have sl : Sp (· ∈ l :: Ms) l := .mem List.mem_cons_self
      have up : ∀ r, r ∈ Ls → Sp (· ∈ l :: Ms) r := fun r hr => by
        obtain ⟨r0, hr0, a, ha, e⟩ := g2.right r hr
        exact .div a ha (.comb (l c) (- r0 c) (.mem (List.mem_cons_of_mem _ hr0)) sl fun j => rfl) fun j => by
          have := e j
          grind
      have all : ∀ r ∈ A ++ B, Sp (· ∈ l :: Ms) r := fun r hr => by
        obtain ⟨r', hr', a, ha, e⟩ := hs.left r hr
        exact .div (l c) hl (.comb a (r c) (Sp.trans up (h4 r' hr')) sl fun j => rfl) fun j => by
          have := e j
          grind
      intro r hr
      rcases List.mem_append.mp hr with h | h
      · exact all r (List.mem_append.mpr (.inl h))
      · rcases List.mem_cons.mp h with rfl | h
        · exact sl
        · exact all r (List.mem_append.mpr (.inr h))
/-! bounds -/
theorem expand_le {N B : Nat} (c : Nat) : ∀ (S : List R) (g : List R → Int), (∀ s ∈ S, (at' s c).natAbs ≤ B) → (∀ T : List R, (∀ t ∈ T, t ∈ S) → T.length + 1 = S.length → (g T).natAbs ≤ N) → (expand g c S).natAbs ≤ S.length * (B * N)
  | [], g, _, _ => by simp [expand]
  | s :: S, g, hB, hg => by
    have ih := expand_le (N := N) (B := B) c S (fun T => g (s :: T)) (fun t ht => hB t (List.mem_cons_of_mem _ ht)) fun T hT hl => hg (s :: T) (fun t ht => by
      rcases List.mem_cons.mp ht with rfl | ht
      · exact List.mem_cons_self
      · exact List.mem_cons_of_mem _ (hT t ht)) (by rw [List.length_cons, List.length_cons, hl])
    have h1 := hB s List.mem_cons_self
    have h2 := hg S (fun t ht => List.mem_cons_of_mem _ ht) rfl
    have h3 : (at' s c * g S).natAbs ≤ B * N := by
      rw [Int.natAbs_mul]
      exact Nat.mul_le_mul h1 h2
    simp only [expand, List.length_cons]
    have h4 : (S.length + 1) * (B * N) = S.length * (B * N) + B * N := by rw [Nat.succ_mul]
    rw [h4]
    omega
theorem det_le {B m : Nat} : ∀ (Cs : List Nat) (rs : List R), (∀ r ∈ rs, ∀ c, (at' r c).natAbs ≤ B) → rs.length ≤ m → (det Cs rs).natAbs ≤ (m * B) ^ Cs.length
  | [], [], _, _ => by simp [det]
  | [], _ :: _, _, _ => by simp [det]
  | c :: Cs, rs, hB, hm => by
    have h := expand_le (N := (m * B) ^ Cs.length) (B := B) c rs (det Cs) (fun s hs => hB s hs c) fun T hT hl => det_le Cs T (fun t ht => hB t (hT t ht)) (by omega)
    have h2 : rs.length * (B * (m * B) ^ Cs.length) ≤ m * (B * (m * B) ^ Cs.length) := Nat.mul_le_mul_right _ hm
    have h3 : m * (B * (m * B) ^ Cs.length) = (m * B) ^ (c :: Cs).length := by
      rw [List.length_cons, Nat.pow_succ, Nat.mul_comm ((m * B) ^ Cs.length), Nat.mul_assoc]
    show (expand (det Cs) c rs).natAbs ≤ _
    omega
theorem nodup_le : ∀ {L U : List R}, L.Nodup → (∀ x ∈ L, x ∈ U) → L.length ≤ U.length
  | [], U, _, _ => Nat.zero_le _
  | x :: L, U, hn, h => by
    have hx := h x List.mem_cons_self
    obtain ⟨h1, h2⟩ := List.nodup_cons.mp hn
    have := nodup_le (U := U.erase x) h2 fun y hy => (List.mem_erase_of_ne (fun e : y = x => h1 (by rw [← e]; exact hy))).mpr (h y (List.mem_cons_of_mem _ hy))
    rw [List.length_erase_of_mem hx] at this
    have : 0 < U.length := List.length_pos_of_mem hx
    rw [List.length_cons]
    omega
end Mx
/-! the elimination without fractions, as it is done with lists -/
namespace Mx
open DL
def lessOf (r l : R) (c : Nat) (d : Int) : R := List.zipWith (fun n o => (n * l.getD c 0 - r.getD c 0 * o).fdiv d) r l
def mRow (w : Nat) (Cs : List Nat) (Ls : List R) (r : R) : R := (List.range w).map fun j => det (j :: Cs) (r :: Ls)
theorem mRow_len {w : Nat} {Cs : List Nat} {Ls : List R} {r : R} : (mRow w Cs Ls r).length = w := by
  unfold mRow
  rw [List.length_map, List.length_range]
theorem mRow_at {w : Nat} {Cs : List Nat} {Ls : List R} {r : R} (j : Nat) : at' (mRow w Cs Ls r) j = if j < w then det (j :: Cs) (r :: Ls) else 0 := by
  unfold at' mRow
  rw [List.getD_eq_getElem?_getD, List.getElem?_map]
  by_cases h : j < w
  · rw [if_pos h, List.getElem?_range h]
    rfl
  · rw [if_neg h, List.getElem?_eq_none (by rw [List.length_range]; omega)]
    rfl
theorem at_over {r : R} {w j : Nat} (h : r.length = w) (hj : w ≤ j) : at' r j = 0 := by
  unfold at'
  rw [List.getD_eq_getElem?_getD, List.getElem?_eq_none (by omega)]
  rfl
theorem mRow_nil {w : Nat} {r : R} (h : r.length = w) : mRow w [] [] r = r := by
  unfold mRow
  refine List.ext_getElem (by rw [List.length_map, List.length_range, h]) fun j h1 h2 => ?_
  rw [List.getElem_map, List.getElem_range]
  have e : det [j] [r] = at' r j := by simp [det, expand]
  rw [e]
  unfold at'
  rw [List.getD_eq_getElem?_getD, List.getElem?_eq_getElem h2]
  rfl
theorem less_mRow {w c : Nat} {Cs : List Nat} {Ls : List R} (h : NZ Cs Ls) (hc : c < w) (r l : R) : lessOf (mRow w Cs Ls r) (mRow w Cs Ls l) c (det Cs Ls) = mRow w (c :: Cs) (l :: Ls) r := by
  have e1 : (mRow w Cs Ls l).getD c 0 = det (c :: Cs) (l :: Ls) := by
    have := mRow_at (w := w) (Cs := Cs) (Ls := Ls) (r := l) c
    rw [if_pos hc] at this
    exact this
  have e2 : (mRow w Cs Ls r).getD c 0 = det (c :: Cs) (r :: Ls) := by
    have := mRow_at (w := w) (Cs := Cs) (Ls := Ls) (r := r) c
    rw [if_pos hc] at this
    exact this
  unfold lessOf
  rw [e1, e2]
  unfold mRow
  refine List.ext_getElem (by simp) fun j h1 h2 => ?_
  rw [List.getElem_zipWith, List.getElem_map, List.getElem_map, List.getElem_map, List.getElem_range]
  rw [← exact_step h j c r l, Int.mul_fdiv_cancel_left _ (nz_det h)]
theorem led_some {rows : List R} {j i : Nat} (h : ledOf rows j = some i) : ∃ r, rows[i]? = some r ∧ at' r j ≠ 0 := by
  unfold ledOf at h
  have hm := List.mem_of_mem_head? h
  obtain ⟨h1, h2⟩ := List.mem_filter.mp hm
  have hi := List.mem_range.mp h1
  refine ⟨rows[i], List.getElem?_eq_getElem hi, ?_⟩
  unfold ledAt at h2
  rw [List.getElem?_eq_getElem hi] at h2
  simpa using h2
theorem led_none {rows : List R} {j : Nat} (h : ledOf rows j = none) : ∀ r ∈ rows, at' r j = 0 := by
  intro r hr
  unfold ledOf at h
  have hn := List.head?_eq_none_iff.mp h
  obtain ⟨i, hi, e⟩ := List.getElem_of_mem hr
  refine Classical.byContradiction fun z => ?_
  have : i ∈ (List.range rows.length).filter (ledAt rows j) := by
    refine List.mem_filter.mpr ⟨List.mem_range.mpr hi, ?_⟩
    unfold ledAt
    rw [List.getElem?_eq_getElem hi, e]
    simpa using z
  rw [hn] at this
  cases this
theorem erase_map {α β : Type} (f : α → β) : ∀ (l : List α) (i : Nat), (l.map f).eraseIdx i = (l.eraseIdx i).map f
  | [], _ => rfl
  | _ :: _, 0 => rfl
  | a :: l, i + 1 => congrArg (f a :: ·) (erase_map f l i)
structure BInv (w c : Nat) (rows0 left : List R) (pv : Int) (k : Nat) : Prop where
  ex : ∃ (Cs : List Nat) (Ls rs : List R), NZ Cs Ls ∧ left = rs.map (mRow w Cs Ls) ∧ pv = det Cs Ls ∧ k = Ls.length ∧ (∀ r ∈ rs, r ∈ rows0) ∧ (∀ l ∈ Ls, l ∈ rows0)
  len : left.length + k = rows0.length
  on : ∀ k', Elim w c (left.map at') k' → Elim w 0 (rows0.map at') (k + k')
theorem binv_start {w : Nat} {rows0 : List R} (h : ∀ r ∈ rows0, r.length = w) : BInv w 0 rows0 rows0 1 0 :=
  ⟨⟨[], [], rows0, trivial, by
    have : rows0.map (mRow w [] []) = rows0.map id := List.map_congr_left fun r hr => mRow_nil (h r hr)
    rw [this, List.map_id], rfl, rfl, fun r hr => hr, fun l hl => nomatch hl⟩, rfl, fun k' e => by rw [Nat.zero_add]; exact e⟩
theorem binv_skip {w c k : Nat} {rows0 left : List R} {pv : Int} (h : BInv w c rows0 left pv k) (hc : c < w) (hn : ledOf left c = none) : BInv w (c + 1) rows0 left pv k :=
  ⟨h.ex, h.len, fun k' e => h.on k' (.skip hc (fun r hr => by
    obtain ⟨x, hx, rfl⟩ := List.mem_map.mp hr
    exact led_none hn x hx) e)⟩
theorem binv_lead {w c k i : Nat} {rows0 left : List R} {pv : Int} (h : BInv w c rows0 left pv k) (hc : c < w) (hn : ledOf left c = some i) :
    ∃ lead, left[i]? = some lead ∧ BInv w (c + 1) rows0 ((left.eraseIdx i).map fun r => lessOf r lead c pv) (at' lead c) (k + 1) := by
  obtain ⟨lead, hl, hz⟩ := led_some hn
  refine ⟨lead, hl, ?_⟩
  obtain ⟨⟨Cs, Ls, rs, h1, h2, h3, h4, h5, h6⟩, hlen, hon⟩ := h
  have hi : i < left.length := (List.getElem?_eq_some_iff.mp hl).1
  obtain ⟨l, hrs, rfl⟩ : ∃ l, rs[i]? = some l ∧ lead = mRow w Cs Ls l := by
    rw [h2, List.getElem?_map] at hl
    cases e : rs[i]? with
    | none =>
      rw [e] at hl
      cases hl
    | some l =>
      rw [e] at hl
      exact ⟨l, rfl, (Option.some.inj hl).symm⟩
  have hlc : at' (mRow w Cs Ls l) c = det (c :: Cs) (l :: Ls) := by rw [mRow_at, if_pos hc]
  rw [hlc] at hz ⊢
  have hnz : NZ (c :: Cs) (l :: Ls) := ⟨hz, h1⟩
  have eL : (left.eraseIdx i).map (fun r => lessOf r (mRow w Cs Ls l) c pv) = (rs.eraseIdx i).map (mRow w (c :: Cs) (l :: Ls)) := by
    rw [h2, h3, erase_map, List.map_map]
    exact List.map_congr_left fun r _ => less_mRow h1 hc r l
  have hme : ∀ r ∈ rs.eraseIdx i, r ∈ rs := fun r hr => List.mem_of_mem_eraseIdx hr
  refine ⟨⟨c :: Cs, l :: Ls, rs.eraseIdx i, hnz, eL, rfl, by rw [h4]; rfl, fun r hr => h5 r (hme r hr), fun x hx => ?_⟩, ?_, fun k' e => ?_⟩
  · rcases List.mem_cons.mp hx with rfl | hx
    · exact h5 _ (List.mem_of_getElem? hrs)
    · exact h6 x hx
  · rw [List.length_map, List.length_eraseIdx_of_lt hi]
    omega
  · rw [Nat.add_assoc, Nat.add_comm 1]
    refine hon (k' + 1) ?_
    have es : left.map at' = (left.take i).map at' ++ at' (mRow w Cs Ls l) :: (left.drop (i + 1)).map at' := by
      have : left = left.take i ++ mRow w Cs Ls l :: left.drop (i + 1) := by
        have e1 : left[i] = mRow w Cs Ls l := by
          have := List.getElem?_eq_getElem hi
          rw [this] at hl
          exact Option.some.inj hl
        rw [← e1, ← List.drop_eq_getElem_cons hi, List.take_append_drop]
      have e2 := congrArg (List.map at') this
      rw [List.map_append, List.map_cons] at e2
      exact e2
    rw [es]
    refine .lead hc (by rw [hlc]; exact hz) (left' := ((left.eraseIdx i).map fun r => lessOf r (mRow w Cs Ls l) c pv).map at') ?_ e
    rw [← List.map_append, ← List.eraseIdx_eq_take_drop_succ, List.map_map]
    refine All2.map fun r hr => ?_
    have hr2 : r ∈ left := List.mem_of_mem_eraseIdx hr
    rw [h2] at hr2
    obtain ⟨r0, _, rfl⟩ := List.mem_map.mp hr2
    refine ⟨det Cs Ls, nz_det h1, fun j => ?_⟩
    show det Cs Ls * at' (lessOf (mRow w Cs Ls r0) (mRow w Cs Ls l) c pv) j = _
    rw [h3, less_mRow h1 hc, mRow_at, mRow_at, mRow_at, mRow_at, mRow_at, if_pos hc]
    by_cases hj : j < w
    · rw [if_pos hj, if_pos hj, if_pos hj, if_pos hc, exact_step h1]
      grind
    · rw [if_neg hj, if_neg hj, if_neg hj]
      simp
theorem binv_end {w k : Nat} {rows0 left : List R} {pv : Int} (h : BInv w w rows0 left pv k) (hw : ∀ r ∈ rows0, r.length = w) : IsRank (rows0.map at') k := by
  have := h.on 0 (.done (Nat.le_refl w))
  refine elim_rank this fun r hr j hj => ?_
  obtain ⟨x, hx, rfl⟩ := List.mem_map.mp hr
  exact at_over (hw x hx) (by omega)
/-- few unlike rows, numbers of few digits -/
def Small (rows0 : List R) : Prop := (∀ r ∈ rows0, ∀ c, (at' r c).natAbs ≤ 2 ^ (354 : Nat)) ∧ ∃ U : List R, U.length ≤ 18 ∧ ∀ r ∈ rows0, r ∈ U
theorem pow_small {n : Nat} (h : n ≤ 19) : (19 * 2 ^ (354 : Nat)) ^ n < 2 ^ 6900 := by
  have h1 : (19 * 2 ^ (354 : Nat)) ^ n ≤ (19 * 2 ^ (354 : Nat)) ^ 19 := Nat.pow_le_pow_right (by decide) h
  exact Nat.lt_of_le_of_lt h1 (by decide +kernel)
theorem det_small {rows0 : List R} (hs : Small rows0) {Cs : List Nat} {Ls : List R} (hl : ∀ l ∈ Ls, l ∈ rows0) (h : Ls.length ≤ 19) (hc : Cs.length ≤ 19) : (det Cs Ls).natAbs < 2 ^ 6900 :=
  Nat.lt_of_le_of_lt (det_le (B := 2 ^ (354 : Nat)) (m := 19) Cs Ls (fun r hr c => hs.1 r (hl r hr) c) h) (pow_small hc)
theorem binv_facts {w c k : Nat} {rows0 left : List R} {pv : Int} (h : BInv w c rows0 left pv k) (hs : Small rows0) :
    pv ≠ 0 ∧ pv.natAbs < 2 ^ 6900 ∧ (∀ r ∈ left, r.length = w ∧ ∀ n ∈ r, n.natAbs < 2 ^ 6900) ∧ k ≤ 18 := by
  obtain ⟨⟨Cs, Ls, rs, h1, h2, h3, h4, h5, h6⟩, _, _⟩ := h
  obtain ⟨U, hU, hm⟩ := hs.2
  have hk : Ls.length ≤ 18 := Nat.le_trans (nodup_le (nz_nodup h1) fun x hx => hm x (h6 x hx)) hU
  have hcs := nz_len h1
  refine ⟨by rw [h3]; exact nz_det h1, by rw [h3]; exact det_small hs h6 (by omega) (by omega), fun r hr => ?_, by omega⟩
  rw [h2] at hr
  obtain ⟨r0, hr0, rfl⟩ := List.mem_map.mp hr
  refine ⟨mRow_len, fun n hn => ?_⟩
  obtain ⟨j, _, rfl⟩ := List.mem_map.mp hn
  refine det_small hs (fun l hl => ?_) (by rw [List.length_cons]; omega) (by rw [List.length_cons]; omega)
  rcases List.mem_cons.mp hl with rfl | hl
  · exact h5 _ hr0
  · exact h6 l hl
end Mx
/-! list + list; the scope of next's expression -/
namespace DL
open PySem PySem.Spec PyProof.Rows L2 Evl
def rCatS (K : PySem.W.Frag) : R2 := fun x y H Q => ∃ l b xs zs, x = .ref l ∧ y = .ref b ∧ SqL K H l xs ∧ SqL K H b zs ∧ xs.length + zs.length ≤ sizeLine ∧ ∀ p, H p = none → Q (.ref p) (upd H p (.lst (xs ++ zs)))
theorem op_catS {X : Cx} : OpR X (binaryOp .Add) (rCatS X.K) := by
  intro pins s σ H x y v u Q I rx ry h
  obtain ⟨l, b, xs, zs, rfl, rfl, hH, hB, hz, q⟩ := h
  obtain rfl : v = Value.ref l := rx
  obtain rfl : u = Value.ref b := ry
  obtain ⟨its, r, ⟨⟨c1, d1, t1, s1⟩, n, e, rfl, rfl, rfl⟩, hl⟩ := I.list hH
  obtain ⟨its2, r2, ⟨⟨c2, d2, t2, s2⟩, n2, e2, rfl, rfl, rfl⟩, hl2⟩ := I.list hB
  have e1 := r.length
  have e3 := r2.length
  have hsz : its.toArray.size + its2.toArray.size ≤ sizeLine := by
    rw [List.size_toArray, List.size_toArray]
    omega
  refine concat_meets ⟨_, e, rfl⟩ ⟨_, e2, rfl⟩ noFill_list_add seq_list_add PySem.F.slot_list_add PySem.F.entry_list_add (PySem.F.args_list_add_2 _ _) (list_addW l b its.toArray its2.toArray n n2 _ _ s1 s2 hsz) ⟨e, e2, ?_⟩
  have ea : its.toArray ++ its2.toArray = (its ++ its2).toArray := by simp
  rw [ea]
  exact ⟨.ref _, _, I.lnew (t' := s.toks) (r.append r2) (by rw [List.length_append]; omega), rfl, q _ I.fresh⟩
theorem kCatS {X : Cx} {K : PySem.W.Frag} (h : X.K = K) : OpR X (binaryOp .Add) (rCatS K) := h ▸ op_catS
theorem rd_catS {K : PySem.W.Frag} {ds es : List PyData} (h : ds.length + es.length ≤ 100000) : RD K (rCatS K) (.list ds) (.list es) (· = .list (ds ++ es)) := by
  intro v1 v2 H H1 e r1 r2 Q q
  cases r1 with
  | @lst a xs _ g r =>
    cases r2 with
    | @lst b ys _ g2 r2 =>
      refine ⟨a, b, xs, ys, rfl, rfl, ex_l e g, ex_l e g2, by rw [r.len, r2.len]; exact sz_of h, fun p hp => ?_⟩
      have g4 := Grow.new e hp (.lst (xs ++ ys))
      exact q _ _ _ _ g4 (.lst (sq_of upd_same) ((r.append r2).mono g4.known)) rfl
section
variable {K : PySem.W.Frag} {σ : L2.St} {H H1 : Hp} {ta tb tc : TE} {tz : TS} {P1 P2 P3 : PyData → Prop} {D : Ends} {i j l : Nat}
/-- a, b = x, y through a tuple -/
theorem st_asg2 (h1 : EvP K ta σ H P1) (h2 : EvP K tb σ H P2) (ex : Ex H H1)
    (k : ∀ v w d e Hk H2, Grow H H1 Hk H2 → Rp K Hk v d → Rp K Hk w e → P1 d → P2 e → tz D ((σ.set i (some v)).set j (some w)) H2) : tSeq (tAsg (tTup (tCons ta (tCons tb tNil))) (gTup K 2 (gCons (gName i) (gCons (gName j) gNil)))) tz D σ H1 :=
  h1 H1 ex _ fun v d Hk H2 g r p => h2.mono g.known H2 g.sub _ fun w e Hk' H3 g' r' p' => ⟨by show 2 ≤ sizeLine; decide, fun a ha => ⟨a, [v, w], rfl, st_of upd_same, rfl, v, [w], rfl, w, [], rfl, rfl,
    k v w d e Hk' _ ((g.trans g').trans (Grow.hide g'.sub ha _)) (r.mono g'.known) r' p p'⟩⟩
theorem st_asg3N {P1' : List PyData → Prop} (h1 : EvN K ta σ H P1') (h2 : EvP K tb σ H P2) (h3 : EvP K tc σ H P3) (ex : Ex H H1)
    (k : ∀ p vs ds v w d e Hk H2, Grow H H1 Hk H2 → RpAll K Hk vs ds → P1' ds → Hk p = none → H2 p = some (.lst vs) → H1 p = none → Rp K Hk v d → Rp K Hk w e → P2 d → P3 e → tz D (((σ.set i (some (.ref p))).set j (some v)).set l (some w)) H2) :
    tSeq (tAsg (tTup (tCons ta (tCons tb (tCons tc tNil)))) (gTup K 3 (gCons (gName i) (gCons (gName j) (gCons (gName l) gNil))))) tz D σ H1 :=
  h1 H1 ex _ fun p vs ds Hk H2 g r q n1 n2 n3 => h2.mono g.known H2 g.sub _ fun v d Hk' H3 g' r' p' => h3.mono (g.trans g').known H3 g'.sub _ fun w e Hk'' H4 g'' r'' p'' => by
    have gg := g'.trans g''
    refine ⟨by show 3 ≤ sizeLine; decide, fun a ha => ⟨a, [.ref p, v, w], rfl, st_of upd_same, rfl, .ref p, [v, w], rfl, v, [w], rfl, w, [], rfl, rfl, ?_⟩⟩
    have hp : H4 p = some (.lst vs) := gg.all _ _ n2
    exact k p vs ds v w d e Hk'' _ ((g.trans gg).trans (Grow.hide g''.sub ha _)) (r.mono gg.known) q (gg.unk n1 n2) ((Ex.new ha) _ _ hp) n3 (r'.mono g''.known) r'' p' p''
end
/-- the scope of next's expression, told by a test -/
def ledB (ds sc : Scope) (xa xb xc : Str) : Bool := decide (sc.kind = .function) && (decide (sc.isCoroutine = false) && (sc.names.all (fun y => decide (y.2 ≠ .cell)) && (decide (sc.names.lookup (".0" : Str) = some NameKind.local) && (decide (sc.names.lookup xa = some .local) && (decide (sc.names.lookup xb = some .local) &&
  (decide (xa ≠ xb) && (decide (sc.names.lookup xc = some .free) && (sc.names.any (fun y => decide (y = (xc, NameKind.free))) && sc.names.all (fun y => !decide (y.2 = .free) || decide (ds.names.lookup y.1 = some .cell))))))))))
theorem ledS {env : Env} {ds sc : Scope} {xa xb xc : Str} {n : Nat} (hc : env.cells = cellsFrom n ds.names []) (h : ledB ds sc xa xb xc = true) : GenT env sc xa xb xc := by
  unfold ledB at h
  simp only [Bool.and_eq_true, decide_eq_true_iff] at h
  obtain ⟨h1, h2, h3, h4, h5, h6, h7, h8, h9, h10⟩ := h
  refine ⟨h1, h2, fun y hy => ?_, h4, h5, h6, h7, h8, ?_, fun y hy hf => ?_⟩
  · exact of_decide_eq_true (List.all_eq_true.mp h3 y hy)
  · obtain ⟨y, hy, e⟩ := List.any_eq_true.mp h9
    rw [← of_decide_eq_true e]
    exact hy
  · have := List.all_eq_true.mp h10 y hy
    rw [Bool.or_eq_true] at this
    rcases this with z | z
    · rw [hf] at z
      cases z
    · rw [hc]
      exact Option.isSome_iff_exists.mp (PySem.W.cellsFrom_some _ _ _ (.inl (of_decide_eq_true z)))
end DL
/-! rows of numbers as data -/
namespace DL
open PySem PySem.Spec PyProof.Rows L2 Evl Mx
def intOf : PyData → Int
  | .int i => i
  | _ => 0
def intsOf : PyData → List Int
  | .list ds => ds.map intOf
  | .tuple ds => ds.map intOf
  | _ => []
def rowsOf : PyData → List (List Int)
  | .list ds => ds.map intsOf
  | .tuple ds => ds.map intsOf
  | _ => []
abbrev lstI (ns : List Int) : PyData := .list (ns.map .int)
abbrev tupI (ns : List Int) : PyData := .tuple (ns.map .int)
abbrev lstR (rows : List (List Int)) : PyData := .list (rows.map lstI)
abbrev tupR (rows : List (List Int)) : PyData := .tuple (rows.map tupI)
theorem ints_map (ns : List Int) : (ns.map PyData.int).map intOf = ns := by
  rw [List.map_map]
  exact List.map_id'' (fun _ => rfl) ns
theorem intsOf_l (ns : List Int) : intsOf (lstI ns) = ns := ints_map ns
theorem intsOf_t (ns : List Int) : intsOf (tupI ns) = ns := ints_map ns
theorem rowsOf_l (rows : List (List Int)) : rowsOf (lstR rows) = rows := by
  show (rows.map lstI).map intsOf = rows
  rw [List.map_map]
  exact List.map_id'' (fun r => intsOf_l r) rows
theorem rowsOf_t (rows : List (List Int)) : rowsOf (tupR rows) = rows := by
  show (rows.map tupI).map intsOf = rows
  rw [List.map_map]
  exact List.map_id'' (fun r => intsOf_t r) rows
theorem at_int {ns : List Int} {c : Nat} (h : c < ns.length) : (ns.map PyData.int)[c]? = some (.int (ns.getD c 0)) := by
  rw [List.getElem?_map, List.getD_eq_getElem?_getD, List.getElem?_eq_getElem h]
  rfl
theorem mem_int {ns : List Int} {k : Nat} {d : PyData} (h : (ns.map PyData.int)[k]? = some d) : ∃ n ∈ ns, d = .int n := by
  obtain ⟨n, hn, e⟩ := List.mem_map.mp (List.mem_of_getElem? h)
  exact ⟨n, hn, e.symm⟩
/-- a number of less than 9000 bits -/
def Mid (n : Int) : Prop := n.natAbs < 2 ^ (9000 : Nat)
theorem Mid.mul {a b : Int} (h : Mid a) (g : Mid b) : IntMulOk a b := (wide_mul h g (by decide) (by decide) (by decide)).ok
theorem Mid.log {n : Int} (h : Mid n) : n.natAbs.log2 < 9000 := PySem.Flt.log2_lt_of (by decide) h
theorem Mid.getD {ns : List Int} {c : Nat} (h : ∀ n ∈ ns, Mid n) : Mid (ns.getD c 0) := by
  rw [List.getD_eq_getElem?_getD]
  by_cases hc : c < ns.length
  · rw [List.getElem?_eq_getElem hc]
    exact h _ (List.getElem_mem hc)
  · rw [List.getElem?_eq_none (by omega)]
    exact Nat.pow_pos (by decide)
theorem mid_of {n : Int} (h : n.natAbs < 2 ^ (6900 : Nat)) : Mid n := Nat.lt_trans h (Nat.pow_lt_pow_right (by decide) (by decide))
theorem eqv_int {a b : Int} : PyData.eqv (.int a) (.int b) = decide (a = b) := by
  show (a == b) = _
  rw [Bool.beq_eq_decide_eq]
theorem less_zero {ro le : List Int} {c : Nat} {D : Int} (hl : ro.length = le.length) (hz : ro.getD c 0 = 0) :
    (ro.map PyData.int).map (fun d => PyData.int ((intOf d * le.getD c 0).fdiv D)) = (lessOf ro le c D).map .int := by
  unfold lessOf
  rw [hz]
  refine List.ext_getElem (by simp; omega) fun j h1 h2 => ?_
  simp [intOf]
theorem less_zip {ro le : List Int} {c : Nat} {D : Int} :
    ((ro.map PyData.int).zip (le.map PyData.int)).map (fun d => PyData.int ((intOf d.1 * le.getD c 0 - ro.getD c 0 * intOf d.2).fdiv D)) = (lessOf ro le c D).map .int := by
  unfold lessOf
  refine List.ext_getElem (by simp) fun j h1 h2 => ?_
  simp [intOf]
/-- the rows that may be asked: 60 at most, of one length -/
def Good (rows : List (List Int)) (w : Nat) : Prop := rows.length ≤ 60 ∧ 1 ≤ w ∧ w ≤ 28 ∧ ∀ r ∈ rows, r.length = w
theorem small_bey {n : Int} (h : n.natAbs ≤ 2 ^ (354 : Nat)) : decide (n.natAbs < BEY) = true := by
  refine decide_eq_true ?_
  have h1 : 2 ^ (354 : Nat) < 10 ^ (354 : Nat) := Nat.pow_lt_pow_left (by decide) (by decide)
  have h2 : 10 ^ (354 : Nat) ≤ 10 ^ (2000 : Nat) := Nat.pow_le_pow_right (by decide) (by decide)
  exact Nat.lt_of_le_of_lt h (Nat.lt_of_lt_of_le h1 h2)
theorem mem_getD {r : List Int} {n : Int} (h : n ∈ r) : ∃ c, at' r c = n := by
  obtain ⟨c, hc, e⟩ := List.getElem_of_mem h
  refine ⟨c, ?_⟩
  unfold at'
  rw [List.getD_eq_getElem?_getD, List.getElem?_eq_getElem hc]
  exact e
end DL
namespace DL
open PySem PySem.Spec PyProof.Rows L2 Evl Mx
section
variable {K : PySem.W.Frag} {σ : L2.St} {H H1 Hm H5 Hk6 H6 : Hp} {ta tb tc td : TE} {P1 P2 : PyData → Prop} {E : XK} {D : Ends} {i j : Nat} {p : Addr} {o : HO}
theorem evd_D4 {pre : PyData → PyData → PyData → PyData → Prop} {post : PyData → PyData → PyData → PyData → PyData → Prop} {d e f g : PyData} (h : EvD K ta σ H d) (h2 : EvD K tb σ H e) (h3 : EvD K tc σ H f) (h4 : EvD K td σ H g) (hp : pre d e f g) :
    EvP K (tCall (spD4 K pre post) [] E (tCons ta (tCons tb (tCons tc (tCons td tNil))))) σ H (post d e f g) := fun H1 ex Q q => h H1 ex _ fun v d' Hk2 H2 g2 r2 p2 => h2.mono g2.known H2 g2.sub _ fun w e' Hk3 H3 g3 r3 p3 =>
  h3.mono (g2.trans g3).known H3 g3.sub _ fun y f' Hk4 H4 g4 r4 p4 => h4.mono ((g2.trans g3).trans g4).known H4 g4.sub _ fun x g' Hk5 H5 g5 r5 p5 => by
    subst p2 p3 p4 p5
    exact ⟨Hk5, v, w, y, x, _, _, _, _, rfl, g5.sub, r2.mono ((g3.trans g4).trans g5).known, r3.mono (g4.trans g5).known, r4.mono g5.known, r5, hp, fun u z Hk6 H6 g6 r6 p6 => q u z Hk6 H6 ((((g2.trans g3).trans g4).trans g5).trans g6) r6 p6⟩
theorem st_asg2L (h1 : EvP K ta σ H P1) (h2 : EvP K tb σ H P2) (ex : Ex H H1)
    (k : ∀ v w d e Hk H2, Grow H H1 Hk H2 → Rp K Hk v d → Rp K Hk w e → P1 d → P2 e → D.nx ((σ.set i (some v)).set j (some w)) H2) : tAsg (tTup (tCons ta (tCons tb tNil))) (gTup K 2 (gCons (gName i) (gCons (gName j) gNil))) D σ H1 :=
  h1 H1 ex _ fun v d Hk H2 g r p => h2.mono g.known H2 g.sub _ fun w e Hk' H3 g' r' p' => ⟨by show 2 ≤ sizeLine; decide, fun a ha => ⟨a, [v, w], rfl, st_of upd_same, rfl, v, [w], rfl, w, [], rfl, rfl,
    k v w d e Hk' _ ((g.trans g').trans (Grow.hide g'.sub ha _)) (r.mono g'.known) r' p p'⟩⟩
/-- what was not told was told, and more is known behind -/
theorem grow_held (g : Grow H H1 Hm H5) (hm : Hm p = none) (h5 : H5 p = some o) (h1 : H1 p = none) (g6 : Grow (upd Hm p o) H5 Hk6 H6) : Grow H H1 Hk6 H6 :=
  ⟨(g.known.trans (Ex.new hm)).trans g6.known, g6.sub, g.all.trans g6.all, fun q u h n => by
    cases z : upd Hm p o q with
    | none => exact ex_none g.all (g6.fresh q u h z)
    | some u' =>
      by_cases hq : q = p
      · subst hq
        exact h1
      · rw [upd_ne hq] at z
        exact g.fresh q u' z n⟩
/-- a thing that is not told is changed -/
theorem grow_mut (g : Grow H H1 Hm H5) (hm : Hm p = none) (h1 : H1 p = none) : Grow H H1 Hm (upd H5 p o) := ⟨g.known, g.sub.mut hm, g.all.mut h1, g.fresh⟩
theorem RpAll.erase : ∀ {vs : List V} {ds : List PyData} (i : Nat), RpAll K H vs ds → RpAll K H (vs.eraseIdx i) (ds.eraseIdx i)
  | _, _, _, .nil => .nil
  | _, _, 0, .cons _ r => r
  | _, _, i + 1, .cons h r => .cons h (RpAll.erase i r)
end
theorem canLay_ints : ∀ (ns : List Int), PyData.canLayAll0 (ns.map .int) = true
  | [] => rfl
  | n :: ns => by
    simp only [List.map_cons, PyData.canLayAll0, Bool.and_eq_true]
    exact ⟨rfl, canLay_ints ns⟩
theorem depth_ints : ∀ (ns : List Int), PyData.depthAll (ns.map .int) = 0
  | [] => rfl
  | n :: ns => by
    show max 0 (PyData.depthAll (ns.map .int)) = 0
    rw [depth_ints ns]
    rfl
theorem lay_lstI (ns : List Int) : (lstI ns).canLay0 = true ∧ (lstI ns).depth ≤ 60 := ⟨canLay_ints ns, by
  show PyData.depthAll (ns.map .int) + 1 ≤ 60
  rw [depth_ints]
  decide⟩
theorem lay_tupI (ns : List Int) : (tupI ns).canLay0 = true ∧ (tupI ns).depth ≤ 60 := ⟨canLay_ints ns, by
  show PyData.depthAll (ns.map .int) + 1 ≤ 60
  rw [depth_ints]
  decide⟩
theorem shaped_lstI (ns : List Int) : SeqAt.shaped (lstI ns) = true := shaped_list fun d hd => by
  obtain ⟨n, _, rfl⟩ := List.mem_map.mp hd
  exact ⟨rfl, Nat.zero_le _⟩
theorem shaped_lstR (rows : List (List Int)) : SeqAt.shaped (lstR rows) = true := shaped_list fun d hd => by
  obtain ⟨r, _, rfl⟩ := List.mem_map.mp hd
  exact lay_lstI r
theorem shaped_tupR (rows : List (List Int)) : SeqAt.shaped (tupR rows) = true := shaped_tuple fun d hd => by
  obtain ⟨r, _, rfl⟩ := List.mem_map.mp hd
  exact lay_tupI r
theorem from_turns {rows : List (List Int)} {ds : List PyData} {f : Nat → PyData} {g : List Int → List Int} {c : List Int → PyData} (hd : ds = rows.map c) (h : ∀ k, k < ds.length → ∀ r, ds.getD k .none = c r → rows[k]? = some r → f k = lstI (g r)) : (List.range ds.length).map f = (rows.map g).map lstI := by
  subst hd
  refine List.ext_getElem (by simp) fun k h1 h2 => ?_
  have hk : k < rows.length := by simpa using h2
  rw [List.getElem_map, List.getElem_map, List.getElem_map, List.getElem_range]
  refine h k (by simpa using hk) rows[k] ?_ (List.getElem?_eq_getElem hk)
  rw [List.getD_eq_getElem?_getD, List.getElem?_map, List.getElem?_eq_getElem hk]
  rfl
end DL
/-! the law's own elimination: by products, without the rows' factors -/
namespace Mx
open DL
def gcdL (ns : List Int) : Nat := ns.foldl (fun g n => Nat.gcd g n.natAbs) 0
theorem gcd_fold (g : Nat) : ∀ (ns : List Int), (∀ n ∈ ns, ns.foldl (fun g n => Nat.gcd g n.natAbs) g ∣ n.natAbs) ∧ ns.foldl (fun g n => Nat.gcd g n.natAbs) g ∣ g ∧ (g = 0 → (∀ n ∈ ns, n = 0) → ns.foldl (fun g n => Nat.gcd g n.natAbs) g = 0)
  | [] => ⟨(fun n hn => nomatch hn), Nat.dvd_refl g, fun h _ => h⟩
  | n :: ns => by
    obtain ⟨h1, h2, h3⟩ := gcd_fold (Nat.gcd g n.natAbs) ns
    refine ⟨fun m hm => ?_, Nat.dvd_trans h2 (Nat.gcd_dvd_left ..), fun hg hz => ?_⟩
    · rcases List.mem_cons.mp hm with rfl | hm
      · exact Nat.dvd_trans h2 (Nat.gcd_dvd_right ..)
      · exact h1 m hm
    · refine h3 ?_ fun m hm => hz m (List.mem_cons_of_mem _ hm)
      rw [hg, hz n List.mem_cons_self]
      rfl
theorem gcdL_dvd {ns : List Int} {n : Int} (h : n ∈ ns) : (gcdL ns : Int) ∣ n := Int.ofNat_dvd_left.mpr ((gcd_fold 0 ns).1 n h)
theorem gcdL_le {ns : List Int} {B : Nat} (h : ∀ n ∈ ns, n.natAbs ≤ B) : gcdL ns ≤ B := by
  by_cases hz : ∀ n ∈ ns, n = 0
  · have := (gcd_fold 0 ns).2.2 rfl hz
    show ns.foldl (fun g n => Nat.gcd g n.natAbs) 0 ≤ B
    rw [this]
    exact Nat.zero_le B
  · obtain ⟨n, hn, hne⟩ : ∃ n, n ∈ ns ∧ n ≠ 0 := by
      refine Classical.byContradiction fun z => hz fun n hn => ?_
      exact Classical.byContradiction fun y => z ⟨n, hn, y⟩
    have h1 := Nat.le_of_dvd (Int.natAbs_pos.mpr hne) ((gcd_fold 0 ns).1 n hn)
    exact Nat.le_trans h1 (h n hn)
theorem gcdL_snoc {ns : List Int} {i : Nat} {n : Int} (h : ns[i]? = some n) : gcdL (ns.take (i + 1)) = Nat.gcd (gcdL (ns.take i)) n.natAbs := by
  unfold gcdL
  rw [List.take_add_one, h, List.foldl_append]
  rfl
def clearL (ns : List Int) : List Int := if (gcdL ns : Int) < 2 then ns else ns.map fun n => n / (gcdL ns : Int)
theorem clearL_len (ns : List Int) : (clearL ns).length = ns.length := by
  unfold clearL
  split
  · rfl
  · exact List.length_map ..
theorem at_lt {r : List Int} {j : Nat} (h : j < r.length) : at' r j = r[j] := by
  unfold at'
  rw [List.getD_eq_getElem?_getD, List.getElem?_eq_getElem h]
  rfl
theorem clearL_at (ns : List Int) : ∃ a : Int, a ≠ 0 ∧ ∀ j, a * at' (clearL ns) j = at' ns j := by
  unfold clearL
  by_cases h : (gcdL ns : Int) < 2
  · rw [if_pos h]
    exact ⟨1, by decide, fun j => Int.one_mul _⟩
  · rw [if_neg h]
    refine ⟨(gcdL ns : Int), by omega, fun j => ?_⟩
    unfold at'
    rw [List.getD_eq_getElem?_getD, List.getD_eq_getElem?_getD, List.getElem?_map]
    by_cases hj : j < ns.length
    · rw [List.getElem?_eq_getElem hj]
      exact Int.mul_ediv_cancel' (gcdL_dvd (List.getElem_mem hj))
    · rw [List.getElem?_eq_none (by omega)]
      exact Int.mul_zero _
theorem clearL_le {ns : List Int} {B : Nat} (h : ∀ n ∈ ns, n.natAbs < B) : ∀ n ∈ clearL ns, n.natAbs < B := by
  unfold clearL
  split
  · exact h
  · intro n hn
    obtain ⟨m, hm, rfl⟩ := List.mem_map.mp hn
    have h1 := h m hm
    have h2 : (m / (gcdL ns : Int)).natAbs ≤ m.natAbs := Int.natAbs_ediv_le_natAbs ..
    omega
def lessL (ro he : List Int) (c : Nat) : List Int := if at' ro c = 0 then ro else clearL (List.zipWith (fun a b => a * at' he c - b * at' ro c) ro he)
theorem lessL_len {ro he : List Int} {c : Nat} (h : ro.length = he.length) : (lessL ro he c).length = ro.length := by
  unfold lessL
  split
  · rfl
  · rw [clearL_len, List.length_zipWith]
    omega
theorem lessL_step {ro he : List Int} {c : Nat} (h : ro.length = he.length) (hz : at' he c ≠ 0) : Step1 c (at' he) (at' ro) (at' (lessL ro he c)) := by
  unfold lessL
  by_cases h0 : at' ro c = 0
  · rw [if_pos h0]
    refine ⟨at' he c, hz, fun j => ?_⟩
    rw [h0]
    simp
  · rw [if_neg h0]
    obtain ⟨a, ha, e⟩ := clearL_at (List.zipWith (fun a b => a * at' he c - b * at' ro c) ro he)
    refine ⟨a, ha, fun j => ?_⟩
    rw [e j]
    by_cases hj : j < ro.length
    · have e1 : at' (List.zipWith (fun a b => a * at' he c - b * at' ro c) ro he) j = at' ro j * at' he c - at' he j * at' ro c := by
        rw [at_lt (j := j) (r := List.zipWith (fun a b => a * at' he c - b * at' ro c) ro he) (by rw [List.length_zipWith]; omega), List.getElem_zipWith, at_lt hj, at_lt (j := j) (r := he) (by omega)]
      rw [e1]
      grind
    · rw [at_over (w := ro.length) (j := j) (r := List.zipWith (fun a b => a * at' he c - b * at' ro c) ro he) (by rw [List.length_zipWith]; omega) (by omega), at_over (r := ro) (j := j) rfl (by omega), at_over (r := he) (j := j) rfl (by omega)]
      simp
theorem lessL_le {ro he : List Int} {c b : Nat} (h1 : ∀ n ∈ ro, n.natAbs < 2 ^ b) (h2 : ∀ n ∈ he, n.natAbs < 2 ^ b) : (∀ n ∈ List.zipWith (fun a b => a * at' he c - b * at' ro c) ro he, n.natAbs < 2 ^ (2 * b + 1)) ∧ ∀ n ∈ lessL ro he c, n.natAbs < 2 ^ (2 * b + 1) := by
  have ha : ∀ {r : List Int}, (∀ n ∈ r, n.natAbs < 2 ^ b) → (at' r c).natAbs < 2 ^ b := fun {r} h => by
    unfold at'
    rw [List.getD_eq_getElem?_getD]
    by_cases hc : c < r.length
    · rw [List.getElem?_eq_getElem hc]
      exact h _ (List.getElem_mem hc)
    · rw [List.getElem?_eq_none (by omega)]
      exact Nat.pow_pos (by decide)
  have key : ∀ n ∈ List.zipWith (fun a b => a * at' he c - b * at' ro c) ro he, n.natAbs < 2 ^ (2 * b + 1) := by
    intro n hn
    obtain ⟨i, hi, rfl⟩ := List.getElem_of_mem hn
    rw [List.getElem_zipWith]
    have hi' : i < ro.length ∧ i < he.length := by
      rw [List.length_zipWith] at hi
      omega
    have x1 : (ro[i]'hi'.1 * at' he c).natAbs < 2 ^ b * 2 ^ b := by
      rw [Int.natAbs_mul]
      exact Nat.mul_lt_mul'' (h1 _ (List.getElem_mem _)) (ha h2)
    have x2 : (he[i]'hi'.2 * at' ro c).natAbs < 2 ^ b * 2 ^ b := by
      rw [Int.natAbs_mul]
      exact Nat.mul_lt_mul'' (h2 _ (List.getElem_mem _)) (ha h1)
    have e : 2 ^ (2 * b + 1) = 2 ^ b * 2 ^ b + 2 ^ b * 2 ^ b := by
      rw [Nat.pow_succ, Nat.two_mul b, Nat.pow_add]
      omega
    rw [e]
    omega
  refine ⟨key, ?_⟩
  unfold lessL
  split
  · intro n hn
    exact Nat.lt_of_lt_of_le (h1 n hn) (Nat.pow_le_pow_right (by decide) (by omega))
  · exact clearL_le key
/-- the state of the law's elimination after k leads -/
def bits (k : Nat) : Nat := 17 * 2 ^ k - 1
theorem bits_succ (k : Nat) : 2 * bits k + 1 = bits (k + 1) := by
  unfold bits
  have : 0 < 2 ^ k := Nat.pow_pos (by decide)
  rw [Nat.pow_succ]
  omega
structure LInv (w c : Nat) (rows0 left : List R) (leads : List (Nat × R)) : Prop where
  len : left.length + leads.length = rows0.length
  wid : ∀ r ∈ left, r.length = w ∧ ∀ n ∈ r, n.natAbs < 2 ^ bits leads.length
  lds : ∀ p ∈ leads, p.2.length = w ∧ ∀ n ∈ p.2, n.natAbs < 2 ^ bits leads.length
  on : ∀ k', Elim w c (left.map at') k' → Elim w 0 (rows0.map at') (leads.length + k')
theorem linv_start {w : Nat} {rows0 : List R} (h : ∀ r ∈ rows0, r.length = w ∧ ∀ n ∈ r, n.natAbs < 2 ^ (16 : Nat)) : LInv w 0 rows0 rows0 [] :=
  ⟨rfl, h, fun p hp => (nomatch hp), fun k' e => by
    have : ([] : List (Nat × R)).length + k' = k' := Nat.zero_add k'
    rw [this]
    exact e⟩
theorem linv_skip {w c : Nat} {rows0 left : List R} {leads : List (Nat × R)} (h : LInv w c rows0 left leads) (hc : c < w) (hn : ledOf left c = none) : LInv w (c + 1) rows0 left leads :=
  ⟨h.len, h.wid, h.lds, fun k' e => h.on k' (.skip hc (fun r hr => by
    obtain ⟨x, hx, rfl⟩ := List.mem_map.mp hr
    exact led_none hn x hx) e)⟩
theorem linv_lead {w c i : Nat} {rows0 left : List R} {leads : List (Nat × R)} (h : LInv w c rows0 left leads) (hc : c < w) (hn : ledOf left c = some i) :
    ∃ head, left[i]? = some head ∧ LInv w (c + 1) rows0 ((left.take i ++ left.drop (i + 1)).map fun r => lessL r head c) ((leads.map fun p => (p.1, lessL p.2 head c)) ++ [(c, head)]) := by
  obtain ⟨head, hl, hz⟩ := led_some hn
  have hi : i < left.length := (List.getElem?_eq_some_iff.mp hl).1
  have hm : head ∈ left := List.mem_of_getElem? hl
  have hlen : ((leads.map fun p => (p.1, lessL p.2 head c)) ++ [(c, head)]).length = leads.length + 1 := by
    rw [List.length_append, List.length_map]
    rfl
  have sub : ∀ r ∈ left.take i ++ left.drop (i + 1), r ∈ left := fun r hr => by
    rcases List.mem_append.mp hr with hr | hr
    · exact List.mem_of_mem_take hr
    · exact List.mem_of_mem_drop hr
  have big : ∀ {n : Int}, n.natAbs < 2 ^ bits leads.length → n.natAbs < 2 ^ bits (leads.length + 1) := fun {n} hn => Nat.lt_of_lt_of_le hn (Nat.pow_le_pow_right (by decide) (by rw [← bits_succ]; omega))
  refine ⟨head, hl, ⟨?_, fun r hr => ?_, fun p hp => ?_, fun k' e => ?_⟩⟩
  · rw [hlen, List.length_map, List.length_append, List.length_take, List.length_drop]
    have := h.len
    omega
  · rw [hlen, ← bits_succ]
    obtain ⟨r0, hr0, rfl⟩ := List.mem_map.mp hr
    have h1 := h.wid r0 (sub r0 hr0)
    have h2 := h.wid head hm
    exact ⟨by rw [lessL_len (by rw [h1.1, h2.1]), h1.1], (lessL_le h1.2 h2.2).2⟩
  · rw [hlen]
    rcases List.mem_append.mp hp with hp | hp
    · obtain ⟨p0, hp0, rfl⟩ := List.mem_map.mp hp
      have h1 := h.lds p0 hp0
      have h2 := h.wid head hm
      rw [← bits_succ]
      exact ⟨by rw [lessL_len (by rw [h1.1, h2.1]), h1.1], (lessL_le h1.2 h2.2).2⟩
    · obtain rfl := List.mem_singleton.mp hp
      exact ⟨(h.wid head hm).1, fun n hn => big ((h.wid head hm).2 n hn)⟩
  · rw [hlen, Nat.add_assoc, Nat.add_comm 1]
    refine h.on (k' + 1) ?_
    have es : left.map at' = (left.take i).map at' ++ at' head :: (left.drop (i + 1)).map at' := by
      have : left = left.take i ++ head :: left.drop (i + 1) := by
        have e1 : left[i] = head := by
          have := List.getElem?_eq_getElem hi
          rw [this] at hl
          exact Option.some.inj hl
        rw [← e1, ← List.drop_eq_getElem_cons hi, List.take_append_drop]
      have e2 := congrArg (List.map at') this
      rw [List.map_append, List.map_cons] at e2
      exact e2
    rw [es]
    refine .lead hc hz (left' := ((left.take i ++ left.drop (i + 1)).map fun r => lessL r head c).map at') ?_ e
    rw [← List.map_append, List.map_map]
    refine All2.map fun r hr => ?_
    exact lessL_step (by rw [(h.wid r (sub r hr)).1, (h.wid head hm).1]) hz
theorem linv_end {w : Nat} {rows0 left : List R} {leads : List (Nat × R)} (h : LInv w w rows0 left leads) (hw : ∀ r ∈ rows0, r.length = w) : IsRank (rows0.map at') leads.length := by
  have := h.on 0 (.done (Nat.le_refl w))
  refine elim_rank this fun r hr j hj => ?_
  obtain ⟨x, hx, rfl⟩ := List.mem_map.mp hr
  exact at_over (hw x hx) (by omega)
theorem bits_le {k : Nat} (h : k ≤ 8) : 2 * bits k + 1 < 9000 ∧ bits k ≤ 4400 := by
  have h1 : 2 ^ k ≤ 2 ^ 8 := Nat.pow_le_pow_right (by decide) h
  unfold bits
  omega
end Mx
namespace DL
open PySem PySem.Spec PyProof.Rows L2 Evl Mx
section
variable {K : PySem.W.Frag} {σ : L2.St} {H : Hp} {te t0 : TE} {tt : TT} {i j : Nat} {vs : List Nat}
theorem eo_evd {n : Int} (h : EvD K te σ H (.int n)) : EvO (tPart te) σ H (some n) := fun H1 e Q q => h H1 e _ fun v d Hk H2 g r p => by
  subst p
  cases r
  exact ⟨n, rfl, q H2 g.all⟩
/-- over the places and items of a list or a tuple -/
theorem evd_lcE {ta : TA} {d : PyData} {ds : List PyData} {p : Nat → Bool} {g : Nat → PyData} (h : EvA1 K ta σ H [d]) (hd : d = .list ds ∨ d = .tuple ds) (hn : ds.length ≤ 100000) (hw : ∀ x y, wipe (((wipe σ vs).set i (some x)).set j (some y)) vs = wipe σ vs)
    (ht : ∀ (k : Nat) a x Hm, ds[k]? = some a → Ex H Hm → Rp K Hm x a → EvT1 tt (((wipe σ vs).set i (some (.int (k : Int)))).set j (some x)) Hm (p k))
    (hb : ∀ (k : Nat) a x Hm, ds[k]? = some a → Ex H Hm → Rp K Hm x a → p k = true → EvD K te (((wipe σ vs).set i (some (.int (k : Int)))).set j (some x)) Hm (g k)) :
    EvD K (tLc (iEnA K ta) (gTup K 2 (gCons (gName i) (gCons (gName j) gNil))) tt te vs) σ H (.list (((List.range ds.length).filter p).map g)) := by
  refine EvP.weak (evp_lcW (b := p) (P := fun k => (· = g k)) (walkd_en h hd) ?_ hn) ?_
  · rintro k v Hm hk ex ⟨T, x, a, rfl, hT, ha, rx⟩
    exact turn_pair hT (hw _ _) (ht k a x Hm ha ex rx) fun q => hb k a x Hm ha ex rx q
  · rintro z ⟨f, rfl, hf⟩
    refine congrArg PyData.list (List.map_congr_left fun k hk => ?_)
    obtain ⟨h1, h2⟩ := List.mem_filter.mp hk
    exact hf k (List.mem_range.mp h1) h2
/-- over a list of pairs -/
theorem evd_mapP {ps : List (PyData × PyData)} {g : PyData × PyData → PyData} (h : EvD K t0 σ H (.list (ps.map fun p => .tuple [p.1, p.2]))) (hn : ps.length ≤ 100000) (hw : ∀ x y, wipe (((wipe σ vs).set i (some x)).set j (some y)) vs = wipe σ vs)
    (hb : ∀ (k : Nat) p x y Hm, ps[k]? = some p → Ex H Hm → Rp K Hm x p.1 → Rp K Hm y p.2 → EvD K te (((wipe σ vs).set i (some x)).set j (some y)) Hm (g p)) :
    EvD K (tLc (iList K t0) (gTup K 2 (gCons (gName i) (gCons (gName j) gNil))) tYes te vs) σ H (.list (ps.map g)) := by
  refine EvP.weak (evp_lcW (b := fun _ => true) (P := fun k => (· = g (ps.getD k (.none, .none)))) (walkd_list h) ?_ (by rw [List.length_map]; exact hn)) ?_
  · rintro k v Hm hk ex ⟨d, hd, rd⟩
    obtain ⟨p, hp, rfl⟩ : ∃ p, ps[k]? = some p ∧ d = .tuple [p.1, p.2] := by
      rw [List.getElem?_map] at hd
      cases e : ps[k]? with
      | none =>
        rw [e] at hd
        cases hd
      | some p =>
        rw [e] at hd
        exact ⟨p, rfl, (Option.some.inj hd).symm⟩
    have ed : ps.getD k (.none, .none) = p := by rw [List.getD_eq_getElem?_getD, hp]; rfl
    rw [ed]
    cases rd with
    | @tup T xs _ hT r =>
      cases r with
      | cons rx r =>
        cases r with
        | cons ry r =>
          cases r
          exact turn_pair hT (hw _ _) etp_yes fun _ => hb k p _ _ Hm hp ex rx ry
  · rintro z ⟨f, rfl, hf⟩
    refine congrArg PyData.list ?_
    rw [all_true, List.length_map]
    refine List.ext_getElem (by simp) fun k h1 h2 => ?_
    have hk : k < ps.length := by simpa using h2
    rw [List.getElem_map, List.getElem_map, List.getElem_range]
    have := hf k (by rw [List.length_map]; exact hk) rfl
    rw [this, List.getD_eq_getElem?_getD, List.getElem?_eq_getElem hk]
    rfl
end
/-- a list of columns with their leads -/
abbrev pairD (p : Nat × List Int) : PyData × PyData := (.int (p.1 : Int), lstI p.2)
abbrev ldsD (leads : List (Nat × List Int)) : PyData := .list ((leads.map pairD).map fun p => .tuple [p.1, p.2])
theorem led_filter {left : List (List Int)} {c i : Nat} (h : ledOf left c = some i) : ∃ r, (List.range left.length).filter (ledAt left c) = i :: r := by
  unfold ledOf at h
  cases e : (List.range left.length).filter (ledAt left c) with
  | nil =>
    rw [e] at h
    cases h
  | cons k r =>
    rw [e] at h
    cases h
    exact ⟨r, rfl⟩
theorem led_filter0 {left : List (List Int)} {c : Nat} (h : ledOf left c = none) : (List.range left.length).filter (ledAt left c) = [] := List.head?_eq_none_iff.mp h
theorem shaped_nats (ks : List Nat) : SeqAt.shaped (.list (ks.map fun (k : Nat) => PyData.int (k : Int))) = true := shaped_list fun d hd => by
  obtain ⟨k, _, rfl⟩ := List.mem_map.mp hd
  exact ⟨rfl, Nat.zero_le _⟩
def lessPre (d e f : PyData) : Prop := ∃ (ro he : List Int) (c : Nat), d = lstI ro ∧ e = lstI he ∧ f = .int (c : Int) ∧ ro.length = he.length ∧ c < ro.length ∧ ro.length ≤ 1000 ∧ (∀ n ∈ ro, n.natAbs < 2 ^ (4400 : Nat)) ∧ (∀ n ∈ he, n.natAbs < 2 ^ (4400 : Nat))
def lessPost (d e f z : PyData) : Prop := z = lstI (lessL (intsOf d) (intsOf e) (intOf f).toNat)
end DL
/-! what order, factors and sums do to the rank -/
namespace Mx
open DL
theorem rank_nil : IsRank [] 0 := ⟨[], (fun l hl => nomatch hl), rfl, fun x _ i hi => absurd hi (Nat.not_lt_zero i), fun r hr => nomatch hr⟩
theorem rank_len {rows : List F} {k : Nat} (h : IsRank rows k) : k ≤ rows.length := by
  obtain ⟨L, h1, h2, h3, h4⟩ := h
  rw [← h2]
  exact exchange h3 fun r hr => .mem (h1 r hr)
/-- each row of ys is one of xs but for a factor, and the other way round -/
def Scaled (xs ys : List R) : Prop := (∀ y ∈ ys, ∃ x ∈ xs, ∃ f : Int, f ≠ 0 ∧ ∀ j, at' y j = f * at' x j) ∧ ∀ x ∈ xs, ∃ y ∈ ys, ∃ f : Int, f ≠ 0 ∧ ∀ j, at' y j = f * at' x j
theorem rank_scaled {xs ys : List R} {k k' : Nat} (h : Scaled xs ys) (h1 : IsRank (xs.map at') k) (h2 : IsRank (ys.map at') k') : k' = k := by
  refine rank_eq h2 h1 (fun r hr => ?_) fun r hr => ?_
  · obtain ⟨y, hy, rfl⟩ := List.mem_map.mp hr
    obtain ⟨x, hx, f, _, e⟩ := h.1 y hy
    exact .comb f 0 (.mem (List.mem_map.mpr ⟨x, hx, rfl⟩)) (.mem (List.mem_map.mpr ⟨x, hx, rfl⟩)) fun j => by
      rw [e j]
      simp
  · obtain ⟨x, hx, rfl⟩ := List.mem_map.mp hr
    obtain ⟨y, hy, f, hf, e⟩ := h.2 x hx
    exact .div f hf (.mem (List.mem_map.mpr ⟨y, hy, rfl⟩)) e
/-- the same rows, however often and in whichever order; sums of them more -/
theorem rank_same {xs ys : List R} {k k' : Nat} (h1 : IsRank (xs.map at') k) (h2 : IsRank (ys.map at') k') (h : ∀ x ∈ xs, x ∈ ys) (g : ∀ y ∈ ys, y ∈ xs ∨ ∃ a ∈ xs, ∃ b ∈ xs, ∃ s t : Int, ∀ j, at' y j = s * at' a j + t * at' b j) : k' = k := by
  refine rank_eq h2 h1 (fun r hr => ?_) fun r hr => ?_
  · obtain ⟨y, hy, rfl⟩ := List.mem_map.mp hr
    rcases g y hy with z | ⟨a, ha, b, hb, s, t, e⟩
    · exact .mem (List.mem_map.mpr ⟨y, z, rfl⟩)
    · exact .comb s t (.mem (List.mem_map.mpr ⟨a, ha, rfl⟩)) (.mem (List.mem_map.mpr ⟨b, hb, rfl⟩)) e
  · obtain ⟨x, hx, rfl⟩ := List.mem_map.mp hr
    exact .mem (List.mem_map.mpr ⟨x, h x hx, rfl⟩)
theorem rank_more {xs ys : List R} {k k' : Nat} (h1 : IsRank (xs.map at') k) (h2 : IsRank (ys.map at') k') (h : ∀ x ∈ xs, x ∈ ys) : k ≤ k' :=
  rank_le h1 h2 fun r hr => by
    obtain ⟨x, hx, rfl⟩ := List.mem_map.mp hr
    exact .mem (List.mem_map.mpr ⟨x, h x hx, rfl⟩)
/-! rows read backwards -/
def back (w : Nat) (r : F) : F := fun j => if j < w then r (w - 1 - j) else 0
theorem at_back {r : R} {w : Nat} (h : r.length = w) : at' r.reverse = back w (at' r) := by
  funext j
  unfold back
  by_cases hj : j < w
  · rw [if_pos hj, at_lt (r := r.reverse) (j := j) (by rw [List.length_reverse, h]; exact hj), at_lt (r := r) (j := w - 1 - j) (by omega), List.getElem_reverse]
    simp only [h]
  · rw [if_neg hj]
    exact at_over (w := w) (by rw [List.length_reverse, h]) (by omega)
theorem sp_back {w : Nat} {S T : F → Prop} (h : ∀ r, S r → T (back w r)) {r : F} (k : Sp S r) : Sp T (back w r) := by
  induction k with
  | zero e =>
    refine .zero fun j => ?_
    unfold back
    split
    · exact e _
    · rfl
  | mem e => exact .mem (h _ e)
  | @comb r s t x y _ _ e ih1 ih2 =>
    refine .comb x y ih1 ih2 fun j => ?_
    unfold back
    split
    · exact e _
    · simp
  | @div r s d hd _ e ih =>
    refine .div d hd ih fun j => ?_
    unfold back
    split
    · exact e _
    · simp
theorem rank_back {w k : Nat} {xs : List R} (hw : ∀ x ∈ xs, x.length = w) (h : IsRank (xs.map at') k) : IsRank ((xs.map List.reverse).map at') k := by
  obtain ⟨L, h1, h2, h3, h4⟩ := h
  have em : ∀ x ∈ xs, at' x.reverse = back w (at' x) := fun x hx => at_back (hw x hx)
  have hL : ∀ l ∈ L, ∃ x ∈ xs, l = at' x := fun l hl => by
    obtain ⟨x, hx, e⟩ := List.mem_map.mp (h1 l hl)
    exact ⟨x, hx, e.symm⟩
  refine ⟨L.map (back w), fun l hl => ?_, by rw [List.length_map, h2], ?_, fun r hr => ?_⟩
  · obtain ⟨l0, hl0, rfl⟩ := List.mem_map.mp hl
    obtain ⟨x, hx, rfl⟩ := hL l0 hl0
    exact List.mem_map.mpr ⟨x.reverse, List.mem_map.mpr ⟨x, hx, rfl⟩, em x hx⟩
  · intro y hy i hi
    rw [List.length_map] at hi
    refine h3 y (fun j => ?_) i hi
    by_cases hj : j < w
    · have e := hy (w - 1 - j)
      rw [List.length_map] at e
      refine Eq.trans (sumN_congr fun i hi => ?_) e
      congr 1
      show (L.getD i _) j = ((L.map (back w)).getD i _) (w - 1 - j)
      rw [List.getD_eq_getElem?_getD, List.getD_eq_getElem?_getD, List.getElem?_map, List.getElem?_eq_getElem hi]
      show L[i] j = back w L[i] (w - 1 - j)
      unfold back
      have e1 : w - 1 - j < w := by omega
      have e2 : w - 1 - (w - 1 - j) = j := by omega
      rw [if_pos e1, e2]
    · refine Eq.trans (sumN_congr (g := fun _ => 0) fun i hi => ?_) (sumN_zero _)
      obtain ⟨x, hx, e⟩ := hL L[i] (List.getElem_mem hi)
      have : ix L i j = 0 := by
        show (L.getD i _) j = 0
        rw [List.getD_eq_getElem?_getD, List.getElem?_eq_getElem hi]
        show L[i] j = 0
        rw [e]
        exact at_over (hw x hx) (by omega)
      rw [this, Int.mul_zero]
  · obtain ⟨y, hy, rfl⟩ := List.mem_map.mp hr
    obtain ⟨x, hx, rfl⟩ := List.mem_map.mp hy
    rw [em x hx]
    exact sp_back (fun l hl => List.mem_map.mpr ⟨l, hl, rfl⟩) (h4 (at' x) (List.mem_map.mpr ⟨x, hx, rfl⟩))
/-- factors -/
def withF (fs : List Int) (rows : List R) : List R := List.zipWith (fun f r => r.map (f * ·)) fs rows
theorem at_scale (f : Int) (r : R) (j : Nat) : at' (r.map (f * ·)) j = f * at' r j := by
  by_cases hj : j < r.length
  · rw [at_lt (r := r.map (f * ·)) (j := j) (by rw [List.length_map]; exact hj), at_lt hj, List.getElem_map]
  · rw [at_over (w := r.length) (j := j) (by rw [List.length_map]) (by omega), at_over (r := r) (w := r.length) (j := j) rfl (by omega), Int.mul_zero]
theorem withF_scaled : ∀ {fs : List Int} {rows : List R}, fs.length = rows.length → (∀ f ∈ fs, f ≠ 0) → Scaled rows (withF fs rows)
  | [], [], _, _ => ⟨fun y hy => (nomatch hy), fun x hx => nomatch hx⟩
  | f :: fs, r :: rows, hl, hf => by
    obtain ⟨h1, h2⟩ := withF_scaled (Nat.succ.inj hl) fun f h => hf f (List.mem_cons_of_mem _ h)
    have h0 := hf f List.mem_cons_self
    refine ⟨fun y hy => ?_, fun x hx => ?_⟩
    · rcases List.mem_cons.mp hy with rfl | hy
      · exact ⟨r, List.mem_cons_self, f, h0, at_scale f r⟩
      · obtain ⟨x, hx, e⟩ := h1 y hy
        exact ⟨x, List.mem_cons_of_mem _ hx, e⟩
    · rcases List.mem_cons.mp hx with rfl | hx
      · exact ⟨_, List.mem_cons_self, f, h0, at_scale f x⟩
      · obtain ⟨y, hy, e⟩ := h2 x hx
        exact ⟨y, List.mem_cons_of_mem _ hy, e⟩
end Mx
namespace DL
open PySem PySem.Spec PyProof.Rows L2 Evl Mx
section
variable {K : PySem.W.Frag} {σ : L2.St} {H H1 Hm H3 Hk6 H6 : Hp} {te ta tb : TE} {tu tz : TS} {P : PyData → Prop} {D : Ends} {i : Nat} {p : Addr} {o : HO}
/-- a loop over a range whose end is drawn -/
theorem st_forRP (h : EvP K te σ H P) (hP : ∀ d, P d → ∃ n : Int, d = .int n ∧ 0 ≤ n ∧ n < 2 ^ 62) (ex : Ex H H1) (Pv : Nat → L2.St → Hp → Prop) (h0 : ∀ Hk H2, Grow H H1 Hk H2 → Pv 0 σ H2)
    (hs : ∀ n : Int, P (.int n) → ∀ (x : Nat) σ2 H3, x < n.toNat → Pv x σ2 H3 → tu { D with nx := Pv (x + 1), ct := Pv (x + 1), bk := tz D } (σ2.set i (some (.int (x : Int)))) H3) (hd : ∀ n : Int, P (.int n) → ∀ σ2 H3, Pv n.toNat σ2 H3 → tz D σ2 H3) :
    tSeq (tFor (iRng1 (tCons te tNil)) (gName i) tu) tz D σ H1 := by
  refine h H1 ex _ fun v d Hk H2 g r p => ?_
  obtain ⟨n, rfl, h1, h2⟩ := hP d p
  cases r
  refine ⟨n, rfl, by omega, h2, ?_⟩
  refine for_it (D := { D with nx := tz D }) walk_range Pv (h0 Hk H2 g) (fun _ _ _ _ _ => trivial) ?_ (hd n p)
  rintro x v σ2 H3 H4 hx pv ⟨rfl, hv⟩
  have hv' : v = .int (x : Int) := by rw [hv]; simp
  subst hv'
  exact hs n p x σ2 _ hx pv
/-- a loop over any walk, whatever its body changes that is not told -/
theorem st_forX {wi : TI} {gg : TG} {tb : TS} {n : Nat} {T : Nat → V → Hp → Prop} (hw : WalkD K wi σ H n T) (ex : Ex H H1)
    (k : ∀ Hk H2, Grow H H1 Hk H2 → ∃ Pv : Nat → L2.St → Hp → Hp → Prop, (∀ i σ2 Hm H3, Pv i σ2 Hm H3 → Ex Hk Hm ∧ Ex Hm H3) ∧ Pv 0 σ Hk H2 ∧
      (∀ i x σ2 Hm H3 Hm' H4, i < n → Pv i σ2 Hm H3 → Grow Hm H3 Hm' H4 → T i x Hm' → gg x σ2 H4 fun σ3 H5 => tb { D with nx := fun σ4 H6 => ∃ Hn, Pv (i + 1) σ4 Hn H6, ct := fun σ4 H6 => ∃ Hn, Pv (i + 1) σ4 Hn H6, bk := tz D } σ3 H5) ∧
      ∀ σ2 Hm H3, Pv n σ2 Hm H3 → tz D σ2 H3) : tSeq (tFor wi gg tb) tz D σ H1 := by
  refine hw H1 ex _ fun J G Y Hk H2 g2 w g0 hy => ?_
  obtain ⟨Pv, h1, h2, h3, h4⟩ := k Hk H2 g2
  refine for_it (D := { D with nx := tz D }) w (fun i σ2 H3 => ∃ Hn, Pv i σ2 Hn H3) ⟨Hk, h2⟩ ?_ ?_ ?_
  · rintro i σ2 H3 _ ⟨Hn, p⟩
    have e := h1 _ _ _ _ p
    exact g0 H3 (e.1.trans e.2)
  · rintro i x σ2 H3 H4 hlt ⟨Hn, p⟩ y
    have e := h1 _ _ _ _ p
    obtain ⟨Hm', g4, t4⟩ := hy i x Hn H3 H4 hlt e.1 e.2 y
    exact h3 i x σ2 Hn H3 Hm' H4 hlt p g4 t4
  · rintro σ2 H3 ⟨Hn, p⟩
    exact h4 σ2 Hn H3 p
/-- what was told for a while is no more told; all else that is known stays so -/
def less (H : Hp) (p : Addr) : Hp := fun b => if b = p then none else H b
theorem less_same {H : Hp} : less H p p = none := if_pos rfl
theorem less_ne {H : Hp} {b : Addr} (h : b ≠ p) : less H p b = H b := if_neg h
theorem less_ex {H : Hp} : Ex (less H p) H := fun b u h => by
  by_cases hb : b = p
  · subst hb
    rw [less_same] at h
    cases h
  · rw [less_ne hb] at h
    exact h
theorem unheld (g : Grow H H1 Hm H3) (m1 : Hm p = none) (m2 : H3 p = some o) (m3 : H1 p = none) (g6 : Grow (upd Hm p o) H3 Hk6 H6) : Grow H H1 (less Hk6 p) H6 ∧ Ex Hm (less Hk6 p) ∧ less Hk6 p p = none ∧ H6 p = some o := by
  have em : Ex Hm (less Hk6 p) := fun b u h => by
    have hb : b ≠ p := ne_of_none h m1
    rw [less_ne hb]
    exact g6.known b u (by rw [upd_ne hb]; exact h)
  refine ⟨⟨g.known.trans em, less_ex.trans g6.sub, g.all.trans g6.all, fun q u h n => ?_⟩, em, less_same, g6.all _ _ m2⟩
  by_cases hq : q = p
  · subst hq
    exact m3
  · rw [less_ne hq] at h
    cases z : Hm q with
    | some u' => exact g.fresh q u' z n
    | none => exact ex_none g.all (g6.fresh q u h (by rw [upd_ne hq]; exact z))
/-- a row of numbers is not the list of rows -/
theorem row_less {v : V} {ns : List Int} {us : List V} (r : Rp K Hk6 v (lstI ns)) (hp : Hk6 p = some (.lst us)) (hn : ns ≠ []) (hu : ∀ u ∈ us, ∃ a, u = .ref a) : Rp K (less Hk6 p) v (lstI ns) := by
  cases r with
  | @lst a xs _ g q =>
    have hx := RpAll.ints q
    subst hx
    have e : SqL K (less Hk6 p) a (ns.map V.int) := by
      rcases g with g | g
      · refine .inl ?_
        have ha : a ≠ p := by
          rintro rfl
          rcases g with g | ⟨o, g⟩
          · rw [hp] at g
            cases ns with
            | nil => exact hn rfl
            | cons n ns =>
              have e : us = V.int n :: ns.map V.int := by
                injection (Option.some.inj g)
              obtain ⟨a, ea⟩ := hu (V.int n) (by rw [e]; exact List.mem_cons_self)
              cases ea
          · rw [hp] at g
            cases g
        rcases g with g | ⟨o, g⟩
        · exact .inl (by rw [less_ne ha]; exact g)
        · exact .inr ⟨o, by rw [less_ne ha]; exact g⟩
      · exact .inr g
    exact .lst e RpAll.of_ints
theorem refs_rows : ∀ {us : List V} {rows : List (List Int)}, RpAll K H us (rows.map lstI) → ∀ u ∈ us, ∃ a, u = .ref a
  | [], _, _, u, hu => nomatch hu
  | u0 :: us, r :: rows, .cons h q, u, hu => by
    rcases List.mem_cons.mp hu with rfl | hu
    · cases h with
      | lst _ _ => exact ⟨_, rfl⟩
    · exact refs_rows q u hu
/-- x or y of truth values that are not told -/
theorem evp_orB (h1 : EvP K ta σ H fun z => ∃ b, z = .bool b) (h2 : EvP K tb σ H fun z => ∃ b, z = .bool b) : EvP K (tOrV ta tb) σ H fun z => ∃ b, z = .bool b := fun H1 e Q q => h1 H1 e _ fun v d Hk2 H2 g2 r2 p2 => by
  obtain ⟨a, rfl⟩ := p2
  cases r2
  refine ⟨a, rfl, ?_⟩
  cases a with
  | false => exact h2.mono g2.known H2 g2.sub Q fun v d Hk3 H3 g3 r3 p3 => q v d Hk3 H3 (g2.trans g3) r3 p3
  | true => exact q _ _ Hk2 H2 g2 (.bl true) ⟨true, rfl⟩
end
theorem all_ints {P : Int → Prop} : ∀ {ds : List PyData}, (∀ x ∈ ds, ∃ n, x = PyData.int n ∧ P n) → ∃ ns : List Int, ds = ns.map .int ∧ ∀ n ∈ ns, P n
  | [], _ => ⟨[], rfl, fun n hn => nomatch hn⟩
  | d :: ds, h => by
    obtain ⟨n, rfl, hn⟩ := h d List.mem_cons_self
    obtain ⟨ns, rfl, hs⟩ := all_ints fun x hx => h x (List.mem_cons_of_mem _ hx)
    exact ⟨n :: ns, rfl, fun m hm => by
      rcases List.mem_cons.mp hm with rfl | hm
      · exact hn
      · exact hs m hm⟩
end DL
namespace Mx
open DL
theorem elim_exists {w : Nat} : ∀ (n c : Nat) (left : List F), c + n = w → ∃ k, Elim w c left k
  | 0, c, left, h => ⟨0, .done (c := c) (by omega)⟩
  | n + 1, c, left, h => by
    by_cases hz : ∀ r ∈ left, r c = 0
    · obtain ⟨k, e⟩ := elim_exists (w := w) n (c + 1) left (by omega)
      exact ⟨k, .skip (c := c) (by omega) hz e⟩
    · obtain ⟨l, hl, hc⟩ : ∃ l, l ∈ left ∧ l c ≠ 0 := by
        refine Classical.byContradiction fun z => hz fun r hr => ?_
        exact Classical.byContradiction fun y => z ⟨r, hr, y⟩
      obtain ⟨A, B, rfl⟩ := List.append_of_mem hl
      obtain ⟨k, e⟩ := elim_exists (w := w) n (c + 1) ((A ++ B).map fun r j => l c * r j - r c * l j) (by omega)
      refine ⟨k + 1, .lead (c := c) (by omega) hc ?_ e⟩
      have := All2.map (p := Step1 c l) (f := fun r : F => r) (g := fun (r : F) j => l c * r j - r c * l j) (l := A ++ B) fun r _ => ⟨1, by decide, fun j => Int.one_mul _⟩
      rw [List.map_id'' (fun _ => rfl)] at this
      exact this
theorem rank_exists {w : Nat} {rows : List R} (hw : ∀ r ∈ rows, r.length = w) : ∃ k, IsRank (rows.map at') k := by
  obtain ⟨k, e⟩ := elim_exists (w := w) w 0 (rows.map at') (Nat.zero_add w)
  refine ⟨k, elim_rank e fun r hr j hj => ?_⟩
  obtain ⟨x, hx, rfl⟩ := List.mem_map.mp hr
  exact at_over (hw x hx) (by omega)
theorem withF_facts {w : Nat} {fs : List Int} {rows : List R} (hl : fs.length = rows.length) (hf : ∀ f ∈ fs, f ≠ 0 ∧ f.natAbs ≤ 7 * 10 ^ (100 : Nat)) (hr : ∀ r ∈ rows, r.length = w ∧ ∀ n ∈ r, n.natAbs < 2 ^ (15 : Nat)) :
    (withF fs rows).length = rows.length ∧ ∀ r ∈ withF fs rows, r.length = w ∧ ∀ n ∈ r, n.natAbs ≤ 2 ^ (351 : Nat) := by
  refine ⟨by unfold withF; rw [List.length_zipWith, hl]; exact Nat.min_self _, fun r hm => ?_⟩
  unfold withF at hm
  obtain ⟨i, hi, rfl⟩ := List.getElem_of_mem hm
  rw [List.length_zipWith] at hi
  rw [List.getElem_zipWith]
  have h1 := hf (fs[i]'(by omega)) (List.getElem_mem _)
  have h2 := hr (rows[i]'(by omega)) (List.getElem_mem _)
  refine ⟨by rw [List.length_map]; exact h2.1, fun n hn => ?_⟩
  obtain ⟨m, hm, rfl⟩ := List.mem_map.mp hn
  have h3 := h2.2 m hm
  show (fs[i]'(by omega) * m).natAbs ≤ _
  rw [Int.natAbs_mul]
  have h4 : (fs[i]'(by omega)).natAbs * m.natAbs ≤ 7 * 10 ^ (100 : Nat) * 2 ^ (15 : Nat) := Nat.mul_le_mul h1.2 (Nat.le_of_lt h3)
  exact Nat.le_trans h4 (by decide +kernel)
theorem small_of {rows : List R} {B : Nat} (hB : B ≤ 2 ^ (354 : Nat)) (h : ∀ r ∈ rows, ∀ n ∈ r, n.natAbs ≤ B) (U : List R) (hU : U.length ≤ 18) (hm : ∀ r ∈ rows, r ∈ U) : Small rows := by
  refine ⟨fun r hr c => ?_, U, hU, hm⟩
  by_cases hc : c < r.length
  · rw [at_lt hc]
    exact Nat.le_trans (h r hr _ (List.getElem_mem hc)) hB
  · rw [at_over (r := r) (w := r.length) (j := c) rfl (by omega)]
    exact Nat.zero_le _
end Mx
namespace DL
open PySem PySem.Spec PyProof.Rows L2 Evl Mx
def rankPre (d : PyData) : Prop := ∃ (rows : List (List Int)) (w : Nat), d = tupR rows ∧ Good rows w ∧ Small rows
def rankPost (d z : PyData) : Prop := ∃ k : Nat, z = .int (k : Int) ∧ IsRank ((rowsOf d).map at') k
def freePost (d z : PyData) : Prop := ∃ k : Nat, z = .bool (decide (k = (rowsOf d).length)) ∧ IsRank ((rowsOf d).map at') k
section
variable {K : PySem.W.Frag} {σ : L2.St} {H : Hp} {tr : TE} {ts : List Addr} {E : XK} {ys : List (List Int)} {w k : Nat}
theorem evp_rank (hT : Tabs ts H) (h : EvD K tr σ H (tupR ys)) (hg : Good ys w) (hs : Small ys) : EvP K (tCall (spT1 K ts rankPre rankPost) [] E (tCons tr tNil)) σ H (fun z => ∃ k' : Nat, z = .int (k' : Int) ∧ IsRank (ys.map at') k') :=
  EvP.weak (evd_T1 hT h ⟨ys, w, rfl, hg, hs⟩) fun z ⟨k', e, hk⟩ => ⟨k', e, by rw [rowsOf_t] at hk; exact hk⟩
theorem evd_rank (hT : Tabs ts H) (h : EvD K tr σ H (tupR ys)) (hg : Good ys w) (hs : Small ys) (hk : ∀ k', IsRank (ys.map at') k' → k' = k) : EvD K (tCall (spT1 K ts rankPre rankPost) [] E (tCons tr tNil)) σ H (.int (k : Int)) :=
  EvP.weak (evp_rank hT h hg hs) fun z ⟨k', e, h'⟩ => by rw [e, hk k' h']
theorem evd_free (hT : Tabs ts H) (h : EvD K tr σ H (tupR ys)) (hg : Good ys w) (hs : Small ys) (hk : ∀ k', IsRank (ys.map at') k' → k' = k) : EvD K (tCall (spT1 K ts rankPre freePost) [] E (tCons tr tNil)) σ H (.bool (decide (k = ys.length))) :=
  EvP.weak (evd_T1 hT h ⟨ys, w, rfl, hg, hs⟩) fun z ⟨k', e, h'⟩ => by
    rw [rowsOf_t] at h' e
    rw [e, hk k' h']
end
theorem show_small : ∀ {k : Nat}, k ≤ 9 → (PyData.int (k : Int)).showable = true ∧ (PyData.int (k : Int)).shown.length ≤ sizeLine ∧ SeqAt.shaped (.str (PyData.int (k : Int)).shown) = true := by
  have h : (List.range 10).all (fun k => (PyData.int (k : Int)).showable && (decide ((PyData.int (k : Int)).shown.length ≤ sizeLine) && SeqAt.shaped (.str (PyData.int (k : Int)).shown))) = true := by decide +kernel
  intro k hk
  have := List.all_eq_true.mp h k (List.mem_range.mpr (by omega))
  simp only [Bool.and_eq_true, decide_eq_true_iff] at this
  exact ⟨this.1, this.2.1, this.2.2⟩
theorem show_bool (b : Bool) : (PyData.bool b).showable = true ∧ (PyData.bool b).shown.length ≤ sizeLine ∧ SeqAt.shaped (.str (PyData.bool b).shown) = true := by
  cases b <;> decide +kernel
theorem eqv_str (s : Str) : PyData.eqv (.str s) (.str s) = true := by
  show (s == s) = true
  exact beq_self_eq_true s
theorem eqv_bool (a : Bool) : PyData.eqv (.bool a) (.bool a) = true := by cases a <;> rfl
theorem from1 {rows : List (List Int)} : ((List.range (rows.map tupI).length).filter fun k => decide (k ≠ 0)).map (fun k => (rows.map tupI).getD k .none) = (rows.drop 1).map tupI := by
  cases rows with
  | nil => rfl
  | cons r rows =>
    rw [List.map_cons, List.length_cons, List.range_succ_eq_map, List.filter_cons_of_neg (by simp), List.filter_eq_self.mpr (fun k hk => by
      obtain ⟨j, _, rfl⟩ := List.mem_map.mp hk
      exact decide_eq_true (Nat.succ_ne_zero j)), List.map_map]
    refine List.ext_getElem (by simp) fun k h1 h2 => ?_
    have hk : k < rows.length := by simpa using h2
    simp [List.getElem_map, hk]
theorem rep_map {rows : List (List Int)} (n : Nat) : (List.replicate n (rows.map tupI)).flatten = ((List.replicate n rows).flatten).map tupI := by
  induction n with
  | zero => rfl
  | succ n ih => rw [List.replicate_succ, List.replicate_succ, List.flatten_cons, List.flatten_cons, List.map_append, ih]
theorem twice_mem {rows : List (List Int)} (h : rows.length ≤ 60) : (∀ r ∈ rows, r ∈ ((List.replicate 30 rows).flatten).take 60) ∧ ∀ r ∈ ((List.replicate 30 rows).flatten).take 60, r ∈ rows := by
  refine ⟨fun r hr => ?_, fun r hr => ?_⟩
  · rw [show (30 : Nat) = 29 + 1 from rfl, List.replicate_succ, List.flatten_cons, List.take_append]
    refine List.mem_append.mpr (.inl ?_)
    rw [List.take_of_length_le h]
    exact hr
  · obtain ⟨l, hl, hr⟩ := List.mem_flatten.mp (List.mem_of_mem_take hr)
    rw [(List.mem_replicate.mp hl).2] at hr
    exact hr
end DL
namespace DL
open PySem PySem.Spec PyProof.Rows L2 Evl
theorem tab_in {K : PySem.W.Frag} {x : Str} {f c P : Addr} {oc ce : Value} {od ed : Option Addr} {fd : FuncData} {osl esl : Array (Option Value)} {vs : Array Value} (p : PySem.W.nsIn K mainGlobals x = some (some (.ref f))) (l : K.lookup f = some ⟨oc, od, .func fd, osl⟩)
    (q : fd.code = .ref c) (n : K.lookup c = some ⟨ce, ed, .fields vs, esl⟩) (r : vs[11]? = some (.ref P)) : PySem.W.tabIn K x = some (c, P) := by
  unfold PySem.W.tabIn
  rw [p]
  simp only [l, q, n, r]
end DL

namespace Lw
open PySem PySem.Spec PyProof.Rows L2 Evl DL
def top (i : Nat) : Stmt := PySem.Challenge.pw_lengthstell_k02_rows_free_of_one_another.main.body.getD i (.Pass ⟨0, 0, 0, 0⟩)
abbrev s__law_bag : Stmt := top 20
theorem sc__law_bag : FnScope ["_law_script", "_law_at", "_law_cell", "_law_great", "_law_mixed"] ["_law_script", "_law_at"] (defScope s__law_bag) := ⟨rfl, rfl, rfl, by decide +kernel, rfl, by decide +kernel, by decide +kernel⟩
abbrev s__law_draw : Stmt := top 21
theorem sc__law_draw : FnScope ["_law_bag_here", "_law_total", "_law_found", "_law_one", "_law_two"] ["_law_bag_here", "_law_total"] (defScope s__law_draw) := ⟨rfl, rfl, rfl, by decide +kernel, rfl, by decide +kernel, by decide +kernel⟩
abbrev s__law_one_of : Stmt := top 22
theorem sc__law_one_of : FnScope ["_law_bag_here", "_law_items"] ["_law_bag_here", "_law_items"] (defScope s__law_one_of) := ⟨rfl, rfl, rfl, by decide +kernel, rfl, by decide +kernel, by decide +kernel⟩
abbrev s_is_whole : Stmt := top 6
theorem sc_is_whole : FnScope ["value"] ["value"] (defScope s_is_whole) := ⟨rfl, rfl, rfl, by decide +kernel, rfl, by decide +kernel, by decide +kernel⟩
abbrev s_is_integer : Stmt := top 7
theorem sc_is_integer : FnScope ["value"] ["value"] (defScope s_is_integer) := ⟨rfl, rfl, rfl, by decide +kernel, rfl, by decide +kernel, by decide +kernel⟩
abbrev s_less_lead : Stmt := top 11
theorem sc_less_lead : FnScope ["row", "lead", "column", "divisor", "pivot", "factor", "number", "other"] ["row", "lead", "column", "divisor"] (defScope s_less_lead) := ⟨rfl, rfl, rfl, by decide +kernel, rfl, by decide +kernel, by decide +kernel⟩
abbrev s_index_of_led : Stmt := top 12
theorem sc_index_of_led : FnScope ["rows", "column"] ["rows", "column"] (defScope s_index_of_led) := ⟨rfl, rfl, rfl, by decide +kernel, rfl, by decide +kernel, by decide +kernel⟩
abbrev s_rank_of : Stmt := top 13
theorem sc_rank_of : FnScope ["rows", "left", "pivot", "found", "row", "column", "at", "lead"] ["rows"] (defScope s_rank_of) := ⟨rfl, rfl, rfl, by decide +kernel, rfl, by decide +kernel, by decide +kernel⟩
abbrev s_is_row : Stmt := top 14
theorem sc_is_row : FnScope ["value", "one"] ["value"] (defScope s_is_row) := ⟨rfl, rfl, rfl, by decide +kernel, rfl, by decide +kernel, by decide +kernel⟩
abbrev s_are_rows : Stmt := top 15
theorem sc_are_rows : FnScope ["value", "row"] ["value"] (defScope s_are_rows) := ⟨rfl, rfl, rfl, by decide +kernel, rfl, by decide +kernel, by decide +kernel⟩
abbrev s_require_rows : Stmt := top 16
theorem sc_require_rows : FnScope ["rows"] ["rows"] (defScope s_require_rows) := ⟨rfl, rfl, rfl, by decide +kernel, rfl, by decide +kernel, by decide +kernel⟩
abbrev s_rank : Stmt := top 17
theorem sc_rank : FnScope ["rows"] ["rows"] (defScope s_rank) := ⟨rfl, rfl, rfl, by decide +kernel, rfl, by decide +kernel, by decide +kernel⟩
abbrev s_are_free : Stmt := top 18
theorem sc_are_free : FnScope ["rows"] ["rows"] (defScope s_are_free) := ⟨rfl, rfl, rfl, by decide +kernel, rfl, by decide +kernel, by decide +kernel⟩
abbrev s__law_divisor : Stmt := top 23
theorem sc__law_divisor : FnScope ["_law_numbers", "_law_found", "_law_number", "_law_one"] ["_law_numbers"] (defScope s__law_divisor) := ⟨rfl, rfl, rfl, by decide +kernel, rfl, by decide +kernel, by decide +kernel⟩
abbrev s__law_cleared : Stmt := top 24
theorem sc__law_cleared : FnScope ["_law_row", "_law_divisor_here", "_law_number"] ["_law_row"] (defScope s__law_cleared) := ⟨rfl, rfl, rfl, by decide +kernel, rfl, by decide +kernel, by decide +kernel⟩
abbrev s__law_less : Stmt := top 25
theorem sc__law_less : FnScope ["_law_row", "_law_head", "_law_column", "_law_one", "_law_other"] ["_law_row", "_law_head", "_law_column"] (defScope s__law_less) := ⟨rfl, rfl, rfl, by decide +kernel, rfl, by decide +kernel, by decide +kernel⟩
abbrev s__law_leads : Stmt := top 26
theorem sc__law_leads : FnScope ["_law_rows", "_law_width", "_law_left", "_law_leads_here", "_law_row", "_law_column", "_law_some", "_law_at", "_law_head"] ["_law_rows", "_law_width"] (defScope s__law_leads) := ⟨rfl, rfl, rfl, by decide +kernel, rfl, by decide +kernel, by decide +kernel⟩
abbrev s__law_rank : Stmt := top 27
theorem sc__law_rank : FnScope ["_law_rows"] ["_law_rows"] (defScope s__law_rank) := ⟨rfl, rfl, rfl, by decide +kernel, rfl, by decide +kernel, by decide +kernel⟩
abbrev s__law_factor : Stmt := top 29
theorem sc__law_factor : FnScope ["_law_bag_here", "_law_many", "_law_found"] ["_law_bag_here"] (defScope s__law_factor) := ⟨rfl, rfl, rfl, by decide +kernel, rfl, by decide +kernel, by decide +kernel⟩
abbrev s__law_with_factors : Stmt := top 30
theorem sc__law_with_factors : FnScope ["_law_bag_here", "_law_rows", "_law_found", "_law_row", "_law_factor_here", "_law_one"] ["_law_bag_here", "_law_rows"] (defScope s__law_with_factors) := ⟨rfl, rfl, rfl, by decide +kernel, rfl, by decide +kernel, by decide +kernel⟩
abbrev s__law_drawn_rows : Stmt := top 28
theorem sc__law_drawn_rows : FnScope ["_law_bag_here", "_law_width", "_law_found", "_law_turn", "_law_way", "_law_one", "_law_other", "_law_times", "_law_here", "_law_there", "_law_at"] ["_law_bag_here", "_law_width"] (defScope s__law_drawn_rows) := ⟨rfl, rfl, rfl, by decide +kernel, rfl, by decide +kernel, by decide +kernel⟩
abbrev s__law_right : Stmt := top 31
theorem sc__law_right : FnScope ["_law_bag_here", "_law_width", "_law_base", "_law_due", "_law_rows", "_law_turned", "_law_row", "_law_twice", "_law_one", "_law_other", "_law_more", "_law_here", "_law_there", "_law_less_here", "_law_at"] ["_law_bag_here"] (defScope s__law_right) := ⟨rfl, rfl, rfl, by decide +kernel, rfl, by decide +kernel, by decide +kernel⟩
abbrev s_law : Stmt := top 32
theorem sc_law : FnScope ["_law_script", "_law_at", "_law_bag_here", "_law_told"] ["_law_script"] (defScope s_law) := ⟨rfl, rfl, rfl, by decide +kernel, rfl, by decide +kernel, by decide +kernel⟩
/-! what the top has left -/
structure Tx (K : PySem.W.Frag) (mg : Str → Option Value) where
  a__law_bag : Addr
  d__law_bag : FuncData
  F__law_bag : Fun K "_law_bag" "_law_bag" s__law_bag a__law_bag d__law_bag
  b__law_bag : Binds K d__law_bag ["_law_script", "_law_at"] []
  g__law_bag : mg "_law_bag" = some (.ref a__law_bag)
  a__law_draw : Addr
  d__law_draw : FuncData
  F__law_draw : Fun K "_law_draw" "_law_draw" s__law_draw a__law_draw d__law_draw
  b__law_draw : Binds K d__law_draw ["_law_bag_here", "_law_total"] []
  g__law_draw : mg "_law_draw" = some (.ref a__law_draw)
  a__law_one_of : Addr
  d__law_one_of : FuncData
  F__law_one_of : Fun K "_law_one_of" "_law_one_of" s__law_one_of a__law_one_of d__law_one_of
  b__law_one_of : Binds K d__law_one_of ["_law_bag_here", "_law_items"] []
  g__law_one_of : mg "_law_one_of" = some (.ref a__law_one_of)
  a_is_whole : Addr
  d_is_whole : FuncData
  F_is_whole : Fun K "is_whole" "is_whole" s_is_whole a_is_whole d_is_whole
  b_is_whole : Binds K d_is_whole ["value"] []
  g_is_whole : mg "is_whole" = some (.ref a_is_whole)
  a_is_integer : Addr
  d_is_integer : FuncData
  F_is_integer : Fun K "is_integer" "is_integer" s_is_integer a_is_integer d_is_integer
  b_is_integer : Binds K d_is_integer ["value"] []
  g_is_integer : mg "is_integer" = some (.ref a_is_integer)
  a_less_lead : Addr
  d_less_lead : FuncData
  F_less_lead : Fun K "less_lead" "less_lead" s_less_lead a_less_lead d_less_lead
  b_less_lead : Binds K d_less_lead ["row", "lead", "column", "divisor"] []
  g_less_lead : mg "less_lead" = some (.ref a_less_lead)
  a_index_of_led : Addr
  d_index_of_led : FuncData
  F_index_of_led : Fun K "index_of_led" "index_of_led" s_index_of_led a_index_of_led d_index_of_led
  b_index_of_led : Binds K d_index_of_led ["rows", "column"] []
  g_index_of_led : mg "index_of_led" = some (.ref a_index_of_led)
  k_index_of_led : Addr
  t_index_of_led : Addr
  u_index_of_led : d_index_of_led.code = .ref k_index_of_led
  a_rank_of : Addr
  d_rank_of : FuncData
  F_rank_of : Fun K "rank_of" "rank_of" s_rank_of a_rank_of d_rank_of
  b_rank_of : Binds K d_rank_of ["rows"] []
  g_rank_of : mg "rank_of" = some (.ref a_rank_of)
  a_is_row : Addr
  d_is_row : FuncData
  F_is_row : Fun K "is_row" "is_row" s_is_row a_is_row d_is_row
  b_is_row : Binds K d_is_row ["value"] []
  g_is_row : mg "is_row" = some (.ref a_is_row)
  a_are_rows : Addr
  d_are_rows : FuncData
  F_are_rows : Fun K "are_rows" "are_rows" s_are_rows a_are_rows d_are_rows
  b_are_rows : Binds K d_are_rows ["value"] []
  g_are_rows : mg "are_rows" = some (.ref a_are_rows)
  a_require_rows : Addr
  d_require_rows : FuncData
  F_require_rows : Fun K "require_rows" "require_rows" s_require_rows a_require_rows d_require_rows
  b_require_rows : Binds K d_require_rows ["rows"] []
  g_require_rows : mg "require_rows" = some (.ref a_require_rows)
  a_rank : Addr
  d_rank : FuncData
  F_rank : Fun K "rank" "rank" s_rank a_rank d_rank
  b_rank : Binds K d_rank ["rows"] []
  g_rank : mg "rank" = some (.ref a_rank)
  a_are_free : Addr
  d_are_free : FuncData
  F_are_free : Fun K "are_free" "are_free" s_are_free a_are_free d_are_free
  b_are_free : Binds K d_are_free ["rows"] []
  g_are_free : mg "are_free" = some (.ref a_are_free)
  a__law_divisor : Addr
  d__law_divisor : FuncData
  F__law_divisor : Fun K "_law_divisor" "_law_divisor" s__law_divisor a__law_divisor d__law_divisor
  b__law_divisor : Binds K d__law_divisor ["_law_numbers"] []
  g__law_divisor : mg "_law_divisor" = some (.ref a__law_divisor)
  a__law_cleared : Addr
  d__law_cleared : FuncData
  F__law_cleared : Fun K "_law_cleared" "_law_cleared" s__law_cleared a__law_cleared d__law_cleared
  b__law_cleared : Binds K d__law_cleared ["_law_row"] []
  g__law_cleared : mg "_law_cleared" = some (.ref a__law_cleared)
  a__law_less : Addr
  d__law_less : FuncData
  F__law_less : Fun K "_law_less" "_law_less" s__law_less a__law_less d__law_less
  b__law_less : Binds K d__law_less ["_law_row", "_law_head", "_law_column"] []
  g__law_less : mg "_law_less" = some (.ref a__law_less)
  a__law_leads : Addr
  d__law_leads : FuncData
  F__law_leads : Fun K "_law_leads" "_law_leads" s__law_leads a__law_leads d__law_leads
  b__law_leads : Binds K d__law_leads ["_law_rows", "_law_width"] []
  g__law_leads : mg "_law_leads" = some (.ref a__law_leads)
  a__law_rank : Addr
  d__law_rank : FuncData
  F__law_rank : Fun K "_law_rank" "_law_rank" s__law_rank a__law_rank d__law_rank
  b__law_rank : Binds K d__law_rank ["_law_rows"] []
  g__law_rank : mg "_law_rank" = some (.ref a__law_rank)
  a__law_factor : Addr
  d__law_factor : FuncData
  F__law_factor : Fun K "_law_factor" "_law_factor" s__law_factor a__law_factor d__law_factor
  b__law_factor : Binds K d__law_factor ["_law_bag_here"] []
  g__law_factor : mg "_law_factor" = some (.ref a__law_factor)
  a__law_with_factors : Addr
  d__law_with_factors : FuncData
  F__law_with_factors : Fun K "_law_with_factors" "_law_with_factors" s__law_with_factors a__law_with_factors d__law_with_factors
  b__law_with_factors : Binds K d__law_with_factors ["_law_bag_here", "_law_rows"] []
  g__law_with_factors : mg "_law_with_factors" = some (.ref a__law_with_factors)
  a__law_drawn_rows : Addr
  d__law_drawn_rows : FuncData
  F__law_drawn_rows : Fun K "_law_drawn_rows" "_law_drawn_rows" s__law_drawn_rows a__law_drawn_rows d__law_drawn_rows
  b__law_drawn_rows : Binds K d__law_drawn_rows ["_law_bag_here", "_law_width"] []
  g__law_drawn_rows : mg "_law_drawn_rows" = some (.ref a__law_drawn_rows)
  a__law_right : Addr
  d__law_right : FuncData
  F__law_right : Fun K "_law_right" "_law_right" s__law_right a__law_right d__law_right
  b__law_right : Binds K d__law_right ["_law_bag_here"] []
  g__law_right : mg "_law_right" = some (.ref a__law_right)
  a_law : Addr
  d_law : FuncData
  F_law : Fun K "law" "law" s_law a_law d_law
  b_law : Binds K d_law ["_law_script"] []
  g_law : mg "law" = some (.ref a_law)
  n_abs : mg "abs" = none
  n_all : mg "all" = none
  n_bool : mg "bool" = none
  n_enumerate : mg "enumerate" = none
  n_index : mg "index" = none
  n_int : mg "int" = none
  n_isinstance : mg "isinstance" = none
  n_len : mg "len" = none
  n_list : mg "list" = none
  n_max : mg "max" = none
  n_min : mg "min" = none
  n_next : mg "next" = none
  n_range : mg "range" = none
  n_repr : mg "repr" = none
  n_row : mg "row" = none
  n_sum : mg "sum" = none
  n_tuple : mg "tuple" = none
  n_zip : mg "zip" = none
  t_BEYOND : Tok
  c_BEYOND : mg "BEYOND" = some (.int (BEY : Int) t_BEYOND)
  t_MAX_ROWS : Tok
  c_MAX_ROWS : mg "MAX_ROWS" = some (.int 60 t_MAX_ROWS)
  t_MAX_WIDTH : Tok
  c_MAX_WIDTH : mg "MAX_WIDTH" = some (.int 28 t_MAX_WIDTH)
open Mx
abbrev Tb {K : PySem.W.Frag} {mg : Str → Option Value} (T : Tx K mg) (base : Heap) : Prop := GxR.TabB base mg T.k_index_of_led T.t_index_of_led
section
variable {P : Program} {w : World} {K : PySem.W.Frag} {mg : Str → Option Value} {base : Heap}
theorem ok__law_bag (T : Tx K mg) : FnOk P w K mg base CX0 1 T.a__law_bag T.d__law_bag ["_law_script", "_law_at"] (spNewBag K) := by
  refine T.F__law_bag.ok sc__law_bag (fun vs H1 Q E h => ?_) (fun cdv A outer s H1 vs Q E hr h => ?_)
  · obtain ⟨H, a, ns, n, rfl, _⟩ := h
    rfl
  · obtain ⟨H, a, ns, n, rfl, ex, hS, hl, h0, h1, q⟩ := h
    refine ⟨_, (pss_cons (ps_set (i := 2) sc__law_bag.nd rfl (by first | exact Or.inl rfl | exact Or.inr rfl) (pe_ifExp (pt_cmpR opLt (pv 1) (pe_callB (kLen (K := K) rfl) (by rfl) T.n_len (by decide +kernel) (pa_cons (pv 0) pa_nil)) (nomark _)) (pe_ix (kIx (K := K) rfl) (pv 0) (pv 1) (fun _ _ => rfl)) (pe_op (kAdd (K := K) rfl) (pe_op (kAdd (K := K) rfl) (pe_callB (kSum (K := K) rfl rfl) (by rfl) T.n_sum (by decide +kernel) (pa_cons (pe_slice (kSl (K := K) rfl) (pv 0) po_none (po_some pe_int)) pa_nil)) (pe_op (kMul (K := K) rfl) pe_int (pv 1))) pe_int)))
      (pss_cons (ps_set (i := 3) sc__law_bag.nd rfl (by first | exact Or.inl rfl | exact Or.inr rfl) (pe_op op_mod (pe_callTy call_int1 (by rfl) T.n_int (by decide +kernel) (pa_cons (pe_callB call_abs (by rfl) T.n_abs (by decide +kernel) (pa_cons (pv 2) pa_nil)) pa_nil)) (pe_op op_powW (pe_op op_powW pe_int pe_int) pe_int)))
      (pss_cons (ps_set (i := 4) sc__law_bag.nd rfl (by first | exact Or.inl rfl | exact Or.inr rfl) (pe_op (kAdd (K := K) rfl) (pe_op (kAdd (K := K) rfl) (pe_op (kAdd (K := K) rfl) (pe_op (kMul (K := K) rfl) (pe_op op_mod (pe_callTy call_int1 (by rfl) T.n_int (by decide +kernel) (pa_cons (pv 3) pa_nil)) pe_int) pe_int) (pe_op (kMul (K := K) rfl) pe_int (pv 1))) (pe_op (kMul (K := K) rfl) pe_int (pe_callTy call_int1 (by rfl) T.n_int (by decide +kernel) (pa_cons (pe_cmpR opLt (pv 2) pe_int (nomark _)) pa_nil)))) pe_int))
      (pss_one (ps_ret (pe_shut (pe_lst (pa_cons (pe_callB (call_max2 rfl) (by rfl) T.n_max (by decide +kernel) (pa_cons pe_int (pa_cons (pe_op op_sub (pv 3) (pe_op op_powW pe_int pe_int)) pa_nil))) (pa_cons (pe_op op_mod (pe_callTy call_int1 (by rfl) T.n_int (by decide +kernel) (pa_cons (pv 4) pa_nil)) pe_int) (pa_cons pe_int pa_nil)))))))))), ?_⟩
    try dsimp only [cxOf]
    have rs : Rp K H (.ref a) (.list (ns.map .int)) := .lst hS RpAll.of_ints
    have ri : Rp K H (.int n) (.int n) := .int n
    have lenE : ∀ {σ : L2.St} {i : Nat}, σ[i]? = some (some (.ref a)) → EvD K (tCB (rLen K) (tCons (tVar i) tNil)) σ H (.int (ns.length : Int)) := fun {σ i} hi =>
      evd_cb (eas1 (evp_var hi rs) eas_nil) (rc_len (by show some (ns.map PyData.int).length = _; rw [List.length_map]))
    refine st_set (K := K) (P := fun d => ∃ i, d = .int i) (evp_if (etp_test (evd_op (evp_var rfl ri) (lenE rfl) rd_lt)) (fun hb => ?_) (fun hb => ?_)) ex fun v d Hk H2 g r p => ?_
    · have hb' := of_decide_eq_true hb
      refine EvP.weak (evd_op (evp_var rfl rs) (evp_var rfl ri) (rd_ix (d := .int (ns.getD n.toNat 0)) (.inl rfl) ?_)) fun d e => ⟨_, e⟩
      have e1 : n = ((n.toNat : Nat) : Int) := by omega
      rw [e1]
      refine atI_nat (j := n.toNat) ?_
      rw [List.getElem?_map, List.getD_eq_getElem?_getD]
      rw [show (((n.toNat : Nat) : Int)).toNat = n.toNat from rfl, List.getElem?_eq_getElem (show n.toNat < ns.length by omega)]
      rfl
    · refine EvP.weak (evd_op (evd_op (evd_cb (eas1 (EvP.is (evd_sl (l := none) (u := some 1) (ds := ns.map .int) (evp_var rfl rs) (.inl ⟨rfl, rfl⟩) eo_none eo_c) (d2 := .list ((ns.take 1).map .int)) ?_) eas_nil) rc_sum) (evd_op evp_int (evp_var rfl ri) (rd_mul (.of_left (by decide)))) rd_add) evp_int rd_add) fun d e => ⟨_, e⟩
      show PyData.list (cutG (ns.map .int) none (some ((1 : Nat) : Int))) = _
      rw [cutG_to, List.map_take]
    obtain ⟨c, rfl⟩ := p
    have ri2 := ri.mono g.known
    refine st_set (evd_op (evd_cb (eas1 (evd_cb (eas1 (evp_var rfl r) eas_nil) rc_abs) eas_nil) rc_int) (evd_op (evd_op evp_int evp_int (rd_pow ⟨by decide, by decide⟩)) evp_int (rd_pow ⟨by decide, by decide +kernel⟩)) (rd_I (by decide +kernel))) g.sub fun v2 d2 Hk2 H3 g2 r2 p2 => ?_
    subst p2
    have mk : ∀ m : Int, 0 ≤ m % 2305843009213693669 ∧ m % 2305843009213693669 < 2305843009213693669 := fun m => ⟨Int.emod_nonneg _ (by decide), Int.emod_lt_of_pos _ (by decide)⟩
    refine st_set (evd_op (evd_op (evd_op (evd_op (evd_op (evd_cb (eas1 (evp_var rfl r2) eas_nil) rc_int) evp_int (rd_I (by decide))) evp_int (rd_mul (.of_right (by decide)))) (evd_op evp_int (evp_var rfl (ri2.mono g2.known)) (rd_mul (.of_left (by decide)))) rd_add)
      (evd_op evp_int (evd_cb (eas1 (evd_op (evp_var rfl (r.mono g2.known)) evp_int rd_lt) eas_nil) rc_intB) (rd_mul (.of_left (by decide)))) rd_add) evp_int rd_add) g2.sub fun v3 d3 Hk3 H4 g3 r3 p3 => ?_
    subst p3
    exact st_retBag (eas1 (evd_cb (eas1 evp_int (eas1 (evd_op (evp_var rfl (r2.mono g3.known)) (evd_op evp_int evp_int (rd_pow ⟨by decide, by decide⟩)) rd_I0) eas_nil)) rc_max2)
      (eas1 (evd_op (evd_cb (eas1 (evp_var rfl r3) eas_nil) rc_int) evp_int (rd_I (by decide))) (eas1 evp_int eas_nil))) g3.sub fun p Hk4 H5 g4 hp =>
      q p _ _ ((g.trans (g2.trans g3)).trans g4) hp
theorem ok__law_draw (T : Tx K mg) : FnOk P w K mg base CX0 1 T.a__law_draw T.d__law_draw ["_law_bag_here", "_law_total"] (spB1 K drawPre drawPost) := by
  refine T.F__law_draw.ok sc__law_draw (fun vs H1 Q E h => ?_) (fun cdv A outer s H1 vs Q E hr h => ?_)
  · obtain ⟨H, b, v, d, rfl, _⟩ := h
    rfl
  · obtain ⟨H, b, v, d, rfl, ex, hb, r, p, q⟩ := h
    refine ⟨_, (pss_bag (pss_cons (ps_if (pt_cmpR opGt (pe_ix (kIx (K := K) rfl) (pv 0) pe_int (fun _ _ => rfl)) pe_int (nomark _)) (pss_cons (ps_set (i := 2) sc__law_draw.nd rfl (by first | exact Or.inl rfl | exact Or.inr rfl) (pe_op op_mod (pe_callTy call_int1 (by rfl) T.n_int (by decide +kernel) (pa_cons (pe_ix (kIx (K := K) rfl) (pv 0) pe_int (fun _ _ => rfl)) pa_nil)) (pv 1)))
      (pss_cons (ps_asg (pe_op op_fdivW (pe_ix (kIx (K := K) rfl) (pv 0) pe_int (fun _ _ => rfl)) (pv 1)) (pg_sub (pv 0) pe_int set_list))
      (pss_one (ps_ret (pv 2))))) pss_nil)
      (pss_cons (ps_asg (pe_op (kAdd (K := K) rfl) (pe_ix (kIx (K := K) rfl) (pv 0) pe_int (fun _ _ => rfl)) pe_int) (pg_sub (pv 0) pe_int set_list))
      (pss_cons (ps_set (i := 3) sc__law_draw.nd rfl (by first | exact Or.inl rfl | exact Or.inr rfl) (pe_op op_mod (pe_callTy call_int1 (by rfl) T.n_int (by decide +kernel) (pa_cons (pe_op (kAdd (K := K) rfl) (pe_ix (kIx (K := K) rfl) (pv 0) pe_int (fun _ _ => rfl)) (pe_op (kMul (K := K) rfl) pe_int (pe_ix (kIx (K := K) rfl) (pv 0) pe_int (fun _ _ => rfl)))) pa_nil)) pe_int))
      (pss_cons (ps_set (i := 4) sc__law_draw.nd rfl (by first | exact Or.inl rfl | exact Or.inr rfl) (pe_op (kAdd (K := K) rfl) (pe_op (kMul (K := K) rfl) (pe_op op_mod (pe_callTy call_int1 (by rfl) T.n_int (by decide +kernel) (pa_cons (pe_op (kMul (K := K) rfl) (pv 3) (pv 3)) pa_nil)) pe_int) (pv 3)) (pe_op (kMul (K := K) rfl) pe_int (pe_ix (kIx (K := K) rfl) (pv 0) pe_int (fun _ _ => rfl)))))
      (pss_one (ps_ret (pe_op op_mod (pe_callTy call_int1 (by rfl) T.n_int (by decide +kernel) (pa_cons (pe_op op_fdivW (pe_op op_mod (pe_callTy call_int1 (by rfl) T.n_int (by decide +kernel) (pa_cons (pv 4) pa_nil)) pe_int) pe_int) pa_nil)) (pv 1))))))))), ?_⟩
    try dsimp only [cxOf]
    obtain ⟨n, rfl, hn, hn2⟩ := p
    have rn := r
    cases r
    refine ⟨b, ex _ _ hb, fun x y z => ?_⟩
    have e0 : Ex (upd H b (three x y z)) (upd H1 b (three x y z)) := ex_upd ex b _
    have rb : Rp K (upd H b (three x y z)) (.ref b) (.list [.int x, .int y, .int z]) := .lst (sq_of upd_same) (.cons (.int x) (.cons (.int y) (.cons (.int z) .nil)))
    have fin : ∀ (H3 : Hp), Ex (upd H1 b (three x y z)) H3 → Grow H H1 H (upd H3 b (BagO b)) := fun H3 e3 => bag_grow ex (ex _ _ hb) e3
    have fin2 : ∀ (H3 : Hp) (o : HO), Ex (upd H1 b (three x y z)) H3 → Grow H H1 H (upd (upd H3 b o) b (BagO b)) := fun H3 o e3 => by
      rw [upd_upd]
      exact fin H3 e3
    have rem : ∀ m : Int, 0 ≤ m % n ∧ m % n < n := fun m => ⟨Int.emod_nonneg _ (by omega), Int.emod_lt_of_pos _ hn⟩
    have dv : CDivW x n := ⟨hn, Nat.lt_trans hn2 (by decide)⟩
    refine st_when (etp_test (evd_op (evd_op (evp_var rfl rb) evp_int (rd_ix (d := .int x) (.inl rfl) rfl)) evp_int rd_gt)) e0 (fun hx Hk H2 g => ?_) (fun hx Hk H2 g => ?_)
    · refine st_set (evd_op (evd_cb (eas1 (evd_op (evp_var rfl (rb.mono g.known)) evp_int (rd_ix (d := .int x) (.inl rfl) rfl)) eas_nil) rc_int) (evp_var rfl (.int n)) (rd_I hn)) g.sub fun v2 d2 Hk2 H3 g2 r2 p2 => ?_
      subst p2
      cases r2
      refine (evd_op (evd_op (evp_var rfl (rb.mono (g.trans g2).known)) evp_int (rd_ix (d := .int x) (.inl rfl) rfl)) (evp_var rfl (.int n)) (rd_I dv)) H3 g2.sub _ fun v3 d3 Hk3 H4 g3 r3 p3 => ?_
      subst p3
      cases r3
      have e4 : Ex (upd H1 b (three x y z)) H4 := ((g.trans g2).trans g3).all
      refine ⟨_, rfl, b, _, 0, 0, rfl, rfl, e4 _ _ upd_same, rfl, ?_⟩
      refine ⟨_, rfl, _, _, _, upd_same, ?_⟩
      exact q _ (.int (x % n)) _ _ (fin2 H4 _ e4) (.int _) ⟨_, n, rfl, rfl, rem x⟩
    · -- bag[2] = bag[2] + 1
      refine (evd_op (evd_op (evp_var rfl (rb.mono g.known)) evp_int (rd_ix (d := .int z) (.inl rfl) rfl)) evp_int rd_add) H2 g.sub _ fun v2 d2 Hk2 H3 g2 r2 p2 => ?_
      subst p2
      cases r2
      have e3 : Ex (upd H1 b (three x y z)) H3 := (g.trans g2).all
      refine ⟨_, rfl, b, _, 2, 2, rfl, rfl, e3 _ _ upd_same, rfl, ?_⟩
      have e4 : Ex (upd H b (three x y (z + 1))) (upd H3 b (.lst ([V.int x, V.int y, V.int z].set 2 (.int (z + 1))))) := fun a o h => by
        by_cases ha : a = b
        · subst ha
          rw [upd_same] at h ⊢
          exact h
        · rw [upd_ne ha] at h ⊢
          exact e3 a o (by rw [upd_ne ha]; exact ex a o h)
      have rb2 : Rp K (upd H b (three x y (z + 1))) (.ref b) (.list [.int x, .int y, .int (z + 1)]) := .lst (sq_of upd_same) (.cons (.int x) (.cons (.int y) (.cons (.int _) .nil)))
      refine st_set (evd_op (evd_cb (eas1 (evd_op (evd_op (evp_var rfl rb2) evp_int (rd_ix (d := .int y) (.inl rfl) rfl)) (evd_op evp_int (evd_op (evp_var rfl rb2) evp_int (rd_ix (d := .int (z + 1)) (.inl rfl) rfl)) (rd_mul (.of_left (by decide)))) rd_add) eas_nil) rc_int) evp_int (rd_I (by decide))) e4 fun v5 d5 Hk5 H5 g5 r5 p5 => ?_
      subst p5
      cases r5
      generalize e1 : (y + 1048613 * (z + 1)) % 2305843009213693951 = one
      have h1 : -(2 ^ 64) < one ∧ one < 2 ^ 64 := by
        have a := Int.emod_nonneg (y + 1048613 * (z + 1)) (show (2305843009213693951 : Int) ≠ 0 by decide)
        have c := Int.emod_lt_of_pos (y + 1048613 * (z + 1)) (show (0 : Int) < 2305843009213693951 by decide)
        constructor <;> omega
      have ok1 : ∀ i, IntMulOk one i := fun i => .of_left (PySem.intBits_le_64 h1.1 h1.2)
      have ok2 : ∀ i, IntMulOk i one := fun i => .of_right (PySem.intBits_le_64 h1.1 h1.2)
      refine st_set (evd_op (evd_op (evd_op (evd_cb (eas1 (evd_op (evp_var rfl (.int one)) (evp_var rfl (.int one)) (rd_mul (ok1 _))) eas_nil) rc_int) evp_int (rd_I (by decide))) (evp_var rfl (.int one)) (rd_mul (ok2 _)))
        (evd_op evp_int (evd_op (evp_var rfl (rb2.mono g5.known)) evp_int (rd_ix (d := .int (z + 1)) (.inl rfl) rfl)) (rd_mul (.of_left (by decide)))) rd_add) g5.sub fun v6 d6 Hk6 H6 g6 r6 p6 => ?_
      subst p6
      refine st_ret (evd_op (evd_cb (eas1 (evd_op (evd_op (evd_cb (eas1 (evp_var rfl r6) eas_nil) rc_int) evp_int (rd_I (by decide))) evp_int (rd_I ⟨by decide, by decide⟩)) eas_nil) rc_int) (evp_var rfl (.int n)) (rd_I hn)) g6.sub fun v7 d7 Hk7 H7 g7 r7 p7 => ?_
      subst p7
      cases r7
      have e7 := ((g5.trans g6).trans g7).all
      refine ⟨_, _, _, e7 _ _ upd_same, ?_⟩
      refine q _ _ H _ ?_ (.int _) ⟨_, n, rfl, rfl, rem _⟩
      exact bag_grow ex (ex _ _ hb) ((ex_upd2 e3 _).trans e7)
theorem ok__law_one_of (T : Tx K mg) : FnOk P w K mg base CX0 2 T.a__law_one_of T.d__law_one_of ["_law_bag_here", "_law_items"] (spB1 K pickPre pickPost) := by
  refine T.F__law_one_of.ok sc__law_one_of (fun vs H1 Q E h => ?_) (fun cdv A outer s H1 vs Q E hr h => ?_)
  · obtain ⟨H, b, v, d, rfl, _⟩ := h
    rfl
  · obtain ⟨H, b, v, d, rfl, ex, hb, r, p, q⟩ := h
    refine ⟨_, (pss_one (ps_ret (pe_ix (kIx (K := K) rfl) (pv 1) (pe_call (ok__law_draw T) (hr.mono (by decide)) (by rfl) T.g__law_draw T.F__law_draw.kp T.b__law_draw .nil pass0 (pa_cons (pv 0) (pa_cons (pe_callB (kLen (K := K) rfl) (by rfl) T.n_len (by decide +kernel) (pa_cons (pv 1) pa_nil)) pa_nil))) (fun _ _ => rfl)))), ?_⟩
    try dsimp only [cxOf]
    obtain ⟨h0, h1⟩ := p
    refine st_ret (evp_op (evp_var rfl r) (evd_B1 rfl hb (evd_cb (eas1 (evp_var rfl r) eas_nil) (rc_len (items_len h0 h1))) ⟨_, rfl, ?_, ?_⟩) ?_) ex q
    · have := items_pos h0
      omega
    · exact Nat.lt_of_le_of_lt (log2_small h1) (by decide)
    · rintro d1 d2 rfl ⟨i, m, rfl, e, hi0, hi1⟩
      cases e
      exact rd_pick h0 h1 hi0 hi1
theorem ok_is_whole (T : Tx K mg) : FnOk P w K mg base CX0 1 T.a_is_whole T.d_is_whole ["value"] (spD1 K (fun _ => True) (fun d z => z = .bool (isWhole d))) := by
  refine T.F_is_whole.ok sc_is_whole (fun vs H1 Q E h => ?_) (fun cdv A outer s H1 vs Q E hr h => ?_)
  · obtain ⟨H, v, d, rfl, _⟩ := h
    rfl
  · obtain ⟨H, v, d, rfl, ex, r, p, q⟩ := h
    refine ⟨_, (pss_one (ps_ret (pe_and (pe_callB (kIsi (K := K) rfl) (by rfl) T.n_isinstance (by decide +kernel) (pa_cons (pv 0) (pa_cons (pe_bltn (v := .ty "int") (by rfl) T.n_int (by decide +kernel) rfl) pa_nil))) (pe_one (pe_not (pe_callB (kIsi (K := K) rfl) (by rfl) T.n_isinstance (by decide +kernel) (pa_cons (pv 0) (pa_cons (pe_bltn (v := .ty "bool") (by rfl) T.n_bool (by decide +kernel) rfl) pa_nil)))))))), ?_⟩
    try dsimp only [cxOf]
    exact (evp_andV (evp_isi (evp_var rfl r) (kit_int d)) (fun _ => evp_notV (evp_isi (evp_var rfl r) (kit_bool d)))) H1 ex _ q
theorem ok_is_integer (T : Tx K mg) : FnOk P w K mg base CX0 2 T.a_is_integer T.d_is_integer ["value"] (spD1 K (fun _ => True) (fun d z => z = .bool (isInteger d))) := by
  refine T.F_is_integer.ok sc_is_integer (fun vs H1 Q E h => ?_) (fun cdv A outer s H1 vs Q E hr h => ?_)
  · obtain ⟨H, v, d, rfl, _⟩ := h
    rfl
  · obtain ⟨H, v, d, rfl, ex, r, p, q⟩ := h
    refine ⟨_, (pss_one (ps_ret (pe_and (pe_call (ok_is_whole T) (hr.mono (by decide)) (by rfl) T.g_is_whole T.F_is_whole.kp T.b_is_whole .nil pass0 (pa_cons (pv 0) pa_nil)) (pe_one (pe_cmpR opLt (pe_callB call_abs (by rfl) T.n_abs (by decide +kernel) (pa_cons (pv 0) pa_nil)) (pe_glob (v := .int (BEY : Int)) (by rfl) T.c_BEYOND ⟨_, rfl⟩) (nomark _)))))), ?_⟩
    try dsimp only [cxOf]
    cases d with
    | int i =>
      refine (EvP.is (evp_andV (a := isWhole (.int i)) (evd_D1 (evp_var rfl r) trivial) (fun _ => evd_op (evd_cb (eas1 (evp_var rfl r) eas_nil) rc_abs) evp_int rd_lt)) ?_) H1 ex _ q
      exact congrArg PyData.bool (beyG i.natAbs BEY)
    | none => exact (EvP.is (evp_andV (a := isWhole _) (b := false) (evd_D1 (evp_var rfl r) trivial) (fun h => by cases h)) rfl) H1 ex _ q
    | bool _ => exact (EvP.is (evp_andV (a := isWhole _) (b := false) (evd_D1 (evp_var rfl r) trivial) (fun h => by cases h)) rfl) H1 ex _ q
    | str _ => exact (EvP.is (evp_andV (a := isWhole _) (b := false) (evd_D1 (evp_var rfl r) trivial) (fun h => by cases h)) rfl) H1 ex _ q
    | list _ => exact (EvP.is (evp_andV (a := isWhole _) (b := false) (evd_D1 (evp_var rfl r) trivial) (fun h => by cases h)) rfl) H1 ex _ q
    | tuple _ => exact (EvP.is (evp_andV (a := isWhole _) (b := false) (evd_D1 (evp_var rfl r) trivial) (fun h => by cases h)) rfl) H1 ex _ q
    | dict _ => exact (EvP.is (evp_andV (a := isWhole _) (b := false) (evd_D1 (evp_var rfl r) trivial) (fun h => by cases h)) rfl) H1 ex _ q
theorem ok_less_lead (T : Tx K mg) : FnOk P w K mg base CX0 1 T.a_less_lead T.d_less_lead ["row", "lead", "column", "divisor"] (spD4 K (fun d e f g => ∃ (ro le : List Int) (c : Nat) (D : Int), d = lstI ro ∧ e = lstI le ∧ f = .int (c : Int) ∧ g = .int D ∧ ro.length = le.length ∧ c < ro.length ∧ D ≠ 0 ∧ Mid D ∧ (∀ n ∈ ro, Mid n) ∧ (∀ n ∈ le, Mid n) ∧ ro.length ≤ 1000) (fun d e f g z => z = lstI (lessOf (intsOf d) (intsOf e) (intOf f).toNat (intOf g)))) := by
  refine T.F_less_lead.ok sc_less_lead (fun vs H1 Q E h => ?_) (fun cdv A outer s H1 vs Q E hr h => ?_)
  · obtain ⟨H, v, w, y, x, d, e, f, g, rfl, _⟩ := h
    rfl
  · obtain ⟨H, v, w, y, x, d, e, f, g, rfl, ex, r, r2, r3, r4, p, q⟩ := h
    refine ⟨_, (pss_cons (ps_asg (pe_tup (pa_cons (pe_ix (kIx (K := K) rfl) (pv 1) (pv 2) (fun _ _ => rfl)) (pa_cons (pe_ix (kIx (K := K) rfl) (pv 0) (pv 2) (fun _ _ => rfl)) pa_nil))) (kgTup (K := K) rfl rfl (pgs_cons (pg_name (i := 4) sc_less_lead.nd rfl (by first | exact Or.inl rfl | exact Or.inr rfl)) (pgs_cons (pg_name (i := 5) sc_less_lead.nd rfl (by first | exact Or.inl rfl | exact Or.inr rfl)) pgs_nil))))
      (pss_cons (ps_if (pt_cmpR (kEq (K := K) rfl (hu64 hr)) (pv 5) pe_int (nomark _)) (pss_one (ps_ret (pe_lc (own := [("number", 6)]) (g := (gName 6)) rfl sc_less_lead.nd (kpList (K := K) rfl (pv 0)) (blkOk_by (N := ["row", "lead", "column", "divisor", "pivot", "factor", "number", "other"]) (sc := defScope s_less_lead) (by decide +kernel)) (fun _ _ _ _ _ => (pg_name (i := 6) sc_less_lead.nd rfl (by first | exact Or.inl rfl | exact Or.inr rfl))) (fun _ _ _ _ _ => pts_nil) (fun _ _ _ _ _ => (pe_op op_fdivX (pe_op (kMul (K := K) rfl) (pv 6) (pv 4)) (pv 3)))))) pss_nil)
      (pss_one (ps_ret (pe_lc (own := [("number", 6), ("other", 7)]) (g := (gTup K 2 (gCons (gName 6) (gCons (gName 7) gNil)))) rfl sc_less_lead.nd (kpZip (K := K) rfl (by rfl) T.n_zip (pa_cons (pv 0) (pa_cons (pv 1) pa_nil))) (blkOk_by (N := ["row", "lead", "column", "divisor", "pivot", "factor", "number", "other"]) (sc := defScope s_less_lead) (by decide +kernel)) (fun _ _ _ _ _ => (kgTup (K := K) rfl rfl (pgs_cons (pg_name (i := 6) sc_less_lead.nd rfl (by first | exact Or.inl rfl | exact Or.inr rfl)) (pgs_cons (pg_name (i := 7) sc_less_lead.nd rfl (by first | exact Or.inl rfl | exact Or.inr rfl)) pgs_nil)))) (fun _ _ _ _ _ => pts_nil) (fun _ _ _ _ _ => (pe_op op_fdivX (pe_op op_sub (pe_op (kMul (K := K) rfl) (pv 6) (pv 4)) (pe_op (kMul (K := K) rfl) (pv 5) (pv 7))) (pv 3)))))))), ?_⟩
    try dsimp only [cxOf]
    obtain ⟨ro, le, c, D, rfl, rfl, rfl, rfl, hlen, hc, hD, hD2, hr, hl, hn⟩ := p
    have q' : ∀ u z Hk H2, Grow H H1 Hk H2 → Rp K Hk u z → z = lstI (lessOf ro le c D) → Q u H2 := fun u z Hk H2 g r e => q u z Hk H2 g r (by
      show z = lstI (lessOf (intsOf (lstI ro)) (intsOf (lstI le)) c D)
      rw [intsOf_l, intsOf_l]
      exact e)
    have hp : Mid (le.getD c 0) := Mid.getD hl
    have hf : Mid (ro.getD c 0) := Mid.getD hr
    refine st_asg2 (P1 := (· = .int (le.getD c 0))) (P2 := (· = .int (ro.getD c 0))) (evd_op (evp_var rfl r2) (evp_var rfl r3) (rd_ix (d := .int (le.getD c 0)) (.inl rfl) (atI_nat (at_int (by omega))))) (evd_op (evp_var rfl r) (evp_var rfl r3) (rd_ix (d := .int (ro.getD c 0)) (.inl rfl) (atI_nat (at_int hc)))) ex fun v5 v6 d5 d6 Hk H2 g1 r5 r6 e5 e6 => ?_
    subst e5 e6
    refine st_when (etp_test (evd_op (evp_var rfl r6) evp_int (rd_eqD rfl rfl))) g1.sub (fun hb Hk2 H3 g2 => ?_) (fun _ Hk2 H3 g2 => ?_)
    · rw [eqv_int] at hb
      have hz := of_decide_eq_true hb
      have G := g1.trans g2
      refine st_ret (evd_mapL (g := fun d => .int ((intOf d * le.getD c 0).fdiv D)) (evp_var rfl (r.mono G.known)) (by rw [List.length_map]; omega) (fun _ => rfl) ?_) g2.sub fun u z Hk9 H9 g9 r9 p9 => q' u z Hk9 H9 (G.trans g9) r9 ?_
      · intro k d x Hm hk em rx
        obtain ⟨n, hn', rfl⟩ := mem_int hk
        exact evd_op (evd_op (evp_var rfl rx) (evp_var rfl ((r5.mono g2.known).mono em)) (rd_mul ((hr n hn').mul hp))) (evp_var rfl ((r4.mono G.known).mono em)) (rd_I ⟨hD, hD2.log⟩)
      · rw [p9]
        exact congrArg PyData.list (less_zero hlen hz)
    · have G := g1.trans g2
      refine st_ret (evd_mapZ (g := fun d => .int ((intOf d.1 * le.getD c 0 - ro.getD c 0 * intOf d.2).fdiv D)) (eas1 (evp_var rfl (r.mono G.known)) (eas1 (evp_var rfl (r2.mono G.known)) eas_nil)) (.inl ⟨rfl, rfl⟩) (by rw [List.length_map]; omega) (fun _ _ => rfl) ?_) g2.sub fun u z Hk9 H9 g9 r9 p9 => q' u z Hk9 H9 (G.trans g9) r9 ?_
      · intro a b x y Hm hm em rx ry
        obtain ⟨h1, h2⟩ := List.of_mem_zip hm
        obtain ⟨n, hn', rfl⟩ := List.mem_map.mp h1
        obtain ⟨m, hm', rfl⟩ := List.mem_map.mp h2
        exact evd_op (evd_op (evd_op (evp_var rfl rx) (evp_var rfl ((r5.mono g2.known).mono em)) (rd_mul ((hr n hn').mul hp))) (evd_op (evp_var rfl ((r6.mono g2.known).mono em)) (evp_var rfl ry) (rd_mul (hf.mul (hl m hm')))) rd_I0) (evp_var rfl ((r4.mono G.known).mono em)) (rd_I ⟨hD, hD2.log⟩)
      · rw [p9]
        exact congrArg PyData.list less_zip
theorem ok_index_of_led (T : Tx K mg) (B : Tb T base) : FnOk P w K mg base CX0 1 T.a_index_of_led T.d_index_of_led ["rows", "column"] (spT2 K [T.t_index_of_led] (fun d e => ∃ (rows : List (List Int)) (j : Nat), d = lstR rows ∧ e = .int (j : Int) ∧ (j : Int) < 2 ^ (62 : Nat) ∧ ∀ r ∈ rows, j < r.length) (fun d e z => z = ledD (rowsOf d) (intOf e).toNat)) := by
  refine DL.Fun.okC T.F_index_of_led T.u_index_of_led sc_index_of_led (fun vs H1 Q E h => ?_) (fun cdv A outer s H1 vs Q E hcdv hr h => ?_)
  · obtain ⟨H, v, w, d, e, rfl, _⟩ := h
    rfl
  · obtain ⟨H, v, w, d, e, rfl, ex, hT, r, r2, p, q⟩ := h
    subst hcdv
    refine ⟨_, (pss_one (ps_ret (pe_led (ci := 1) hr B rfl (ledS (ds := defScope s_index_of_led) rfl (by decide +kernel)) (by rfl) T.n_enumerate (by rfl) T.n_next (pa_cons (pv 0) pa_nil) rfl rfl))), ?_⟩
    try dsimp only [cxOf]
    obtain ⟨rows, j, rfl, rfl, hj, hw⟩ := p
    cases r2
    refine st_ret (evd_led (evp_var rfl r) rfl hj hw (hT _ List.mem_cons_self)) ex fun u z Hk H2 g r p => q u z Hk H2 g r ?_
    show z = ledD (rowsOf (lstR rows)) j
    rw [rowsOf_l]
    exact p
theorem ok_rank_of (T : Tx K mg) (B : Tb T base) : FnOk P w K mg base CX0 2 T.a_rank_of T.d_rank_of ["rows"] (spT1 K [T.t_index_of_led] (fun d => ∃ (rows : List (List Int)) (w : Nat), d = tupR rows ∧ Good rows w ∧ Small rows) (fun d z => ∃ k : Nat, z = .int (k : Int) ∧ IsRank ((rowsOf d).map at') k)) := by
  refine T.F_rank_of.ok sc_rank_of (fun vs H1 Q E h => ?_) (fun cdv A outer s H1 vs Q E hr h => ?_)
  · obtain ⟨H, v, d, rfl, _⟩ := h
    rfl
  · obtain ⟨H, v, d, rfl, ex, hT, r, p, q⟩ := h
    refine ⟨_, (pss_cons (ps_asg (pe_tup (pa_cons (pe_lc (own := [("row", 4)]) (g := (gName 4)) rfl sc_rank_of.nd (kpTup (K := K) rfl (pv 0)) (blkOk_by (N := ["rows", "left", "pivot", "found", "row", "column", "at", "lead"]) (sc := defScope s_rank_of) (by decide +kernel)) (fun _ _ _ _ _ => (pg_name (i := 4) sc_rank_of.nd rfl (by first | exact Or.inl rfl | exact Or.inr rfl))) (fun _ _ _ _ _ => pts_nil) (fun _ _ _ _ _ => (pe_callTy (kLst (K := K) rfl) (by rfl) T.n_list (by decide +kernel) (pa_cons (pv 4) pa_nil)))) (pa_cons pe_int (pa_cons pe_int pa_nil)))) (kgTup (K := K) rfl rfl (pgs_cons (pg_name (i := 1) sc_rank_of.nd rfl (by first | exact Or.inl rfl | exact Or.inr rfl)) (pgs_cons (pg_name (i := 2) sc_rank_of.nd rfl (by first | exact Or.inl rfl | exact Or.inr rfl)) (pgs_cons (pg_name (i := 3) sc_rank_of.nd rfl (by first | exact Or.inl rfl | exact Or.inr rfl)) pgs_nil)))))
      (pss_cons (ps_for PassesOwn.never rfl (pi_range1 (by rfl) T.n_range (pa_cons (pe_ifExp (pt_cmpR (kNe (K := K) rfl (hu64 hr)) (pv 1) (pe_lst pa_nil) (nomark _)) (pe_callB (kLen (K := K) rfl) (by rfl) T.n_len (by decide +kernel) (pa_cons (pe_ix (kIx (K := K) rfl) (pv 1) pe_int (fun _ _ => rfl)) pa_nil)) pe_int) pa_nil)) (pg_name (i := 5) sc_rank_of.nd rfl (by first | exact Or.inl rfl | exact Or.inr rfl)) (pss_cons (ps_set (i := 6) sc_rank_of.nd rfl (by first | exact Or.inl rfl | exact Or.inr rfl) (pe_call (ok_index_of_led T B) (hr.mono (by decide)) (by rfl) T.g_index_of_led T.F_index_of_led.kp T.b_index_of_led .nil pass0 (pa_cons (pv 1) (pa_cons (pv 5) pa_nil))))
      (pss_one (ps_if (pt_cmpR op_notN1 (pv 6) pe_non (nomark _)) (pss_cons (ps_set (i := 7) sc_rank_of.nd rfl (by first | exact Or.inl rfl | exact Or.inr rfl) (pe_bm PySem.F.plainAttrs_list PySem.F.slot_list_pop PySem.F.type_list_pop mt_popAt (pv 1) (pa_cons (pv 6) pa_nil)))
      (pss_cons (ps_setLc (i := 1) (own := [("row", 4)]) (g := (gName 4)) rfl sc_rank_of.nd rfl rfl (sw_true rfl rfl rfl (by decide +kernel)) (kpList (K := K) rfl (pv 1)) (blkOk_by (N := ["rows", "left", "pivot", "found", "row", "column", "at", "lead"]) (sc := defScope s_rank_of) (by decide +kernel)) (fun _ _ _ _ _ => (pg_name (i := 4) sc_rank_of.nd rfl (by first | exact Or.inl rfl | exact Or.inr rfl))) (fun _ _ _ _ _ => pts_nil) (fun _ _ _ _ _ => (pe_call (ok_less_lead T) (hr.mono (by decide)) (by rfl) T.g_less_lead T.F_less_lead.kp T.b_less_lead .nil pass0 (pa_cons (pv 4) (pa_cons (pv 7) (pa_cons (pv 5) (pa_cons (pv 2) pa_nil)))))))
      (pss_one (ps_asg (pe_tup (pa_cons (pe_ix (kIx (K := K) rfl) (pv 7) (pv 5) (fun _ _ => rfl)) (pa_cons (pe_op (kAdd (K := K) rfl) (pv 3) pe_int) pa_nil))) (kgTup (K := K) rfl rfl (pgs_cons (pg_name (i := 2) sc_rank_of.nd rfl (by first | exact Or.inl rfl | exact Or.inr rfl)) (pgs_cons (pg_name (i := 3) sc_rank_of.nd rfl (by first | exact Or.inl rfl | exact Or.inr rfl)) pgs_nil))))))) pss_nil))))
      (pss_one (ps_ret (pv 3))))), ?_⟩
    try dsimp only [cxOf]
    obtain ⟨rows, w0, rfl, hgood, hsm⟩ := p
    obtain ⟨w, hw, hw28, hempty⟩ : ∃ w : Nat, (∀ r ∈ rows, r.length = w) ∧ w ≤ 28 ∧ (rows = [] → w = 0) := by
      by_cases e : rows = []
      · subst e
        exact ⟨0, (fun r hr => nomatch hr), by decide, fun _ => rfl⟩
      · exact ⟨w0, hgood.2.2.2, hgood.2.2.1, fun z => absurd z e⟩
    have q' : ∀ u z Hk H2, Grow H H1 Hk H2 → Rp K Hk u z → (∃ k : Nat, z = .int (k : Int) ∧ IsRank (rows.map at') k) → Q u H2 := fun u z Hk H2 g r e => q u z Hk H2 g r (by
      show ∃ k : Nat, z = .int (k : Int) ∧ IsRank ((rowsOf (tupR rows)).map at') k
      rw [rowsOf_t]
      exact e)
    have hlen : rows.length ≤ 60 := hgood.1
    refine st_asg3N (P2 := (· = .int 1)) (P3 := (· = .int 0)) (evn_mapW (P := fun d z => ∀ ns, d = tupI ns → z = lstI ns) (walkd_tup (evp_var rfl r)) (by rw [List.length_map]; omega) (fun _ => rfl) ?_) evp_int evp_int ex fun p vs ds v2 v3 d2 d3 Hk H2 g rvs pds n1 n2 n3 r2 r3 e2 e3 => ?_
    · intro k d x Hm hk em rx
      obtain ⟨ns, _, rfl⟩ := List.mem_map.mp (List.mem_of_getElem? hk)
      refine EvP.weak (evd_cb (eas1 (evp_var rfl rx) eas_nil) (rc_list (.inr rfl))) fun z e ms e' => ?_
      cases e
      have := congrArg intsOf e'
      rw [intsOf_t, intsOf_t] at this
      rw [this]
    subst e2 e3
    cases r2
    cases r3
    obtain ⟨f, rfl, hf⟩ := pds
    have eds : (List.range (rows.map tupI).length).map f = (rows.map id).map lstI := from_turns (c := tupI) rfl fun k hk r e _ => hf k hk r e
    rw [List.map_id] at eds
    rw [eds] at rvs
    obtain ⟨hex, hrl⟩ := held g.sub n1 n2 rvs
    have hpos : decide (rows = []) = (rows.map lstI).isEmpty := by cases rows <;> rfl
    refine st_forR (K := K) (H := upd Hk p (.lst vs)) (n := (w : Int)) (eas1 (evp_if (b := !(rows.map lstI).isEmpty) (etp_test (EvP.is (evd_op (evp_var rfl hrl) (evd_lst eas_nil) (rd_neD (shaped_lstR rows) rfl)) ?_)) (fun hb => ?_) (fun hb => ?_)) eas_nil) ⟨by omega, by omega⟩ hex
      (fun c σ2 H3 => ∃ Hm p us left pv k s4 s5 s6 s7, Grow H H1 Hm H3 ∧ Hm p = none ∧ H3 p = some (.lst us) ∧ H1 p = none ∧ RpAll K Hm us ((left : List (List Int)).map lstI) ∧ BInv w c rows left pv k ∧ σ2 = [some v, some (.ref p), some (.int pv), some (.int (k : Int)), s4, s5, s6, s7])
      (fun Hk3 H3 g3 => ⟨Hk, p, vs, rows, 1, 0, none, none, none, none, Grow.forget g g3.all, n1, g3.all _ _ n2, n3, rvs, binv_start hw, rfl⟩) ?_ ?_
    · rw [eqv_nil]
    · have hne : rows ≠ [] := fun e => by subst e; cases hb
      obtain ⟨r0, hr0⟩ : ∃ r0, rows[0]? = some r0 := ⟨rows[0]'(List.length_pos_iff.mpr hne), List.getElem?_eq_getElem _⟩
      refine EvP.is (evd_cb (eas1 (evd_op (evp_var rfl hrl) evp_int (rd_ix (d := lstI r0) (.inl rfl) (atI_nat (j := 0) ?_))) eas_nil) (rc_len rfl)) ?_
      · rw [List.getElem?_map, hr0]
        rfl
      · rw [List.length_map, hw r0 (List.mem_of_getElem? hr0)]
    · have he : rows = [] := by
        cases rows with
        | nil => rfl
        | cons _ _ => cases hb
      exact EvP.is evp_int (by rw [hempty he]; rfl)
    · rintro c σ2 H3 hc ⟨Hm, p, us, left, pv, k, s4, s5, s6, s7, gm, m1, m2, m3, rus, hb, rfl⟩
      have hcw : c < w := by simpa using hc
      obtain ⟨hpv, hpv2, hent, hk18⟩ := binv_facts hb hsm
      obtain ⟨hex2, hrl2⟩ := held gm.sub m1 m2 rus
      have hleft : left.length ≤ 60 := by
        have := hb.len
        omega
      refine st_set (K := K) (evd_T2 ((hT.mono gm.known).mono (Ex.new m1)) (evp_var rfl hrl2) (evp_var rfl (.int (c : Int))) ⟨left, c, rfl, rfl, by omega, fun r hr => by rw [(hent r hr).1]; exact hcw⟩) hex2 fun v6 d6 Hk6 H6 g6 r6 p6 => ?_
      have p6' : d6 = ledD left c := by
        have e : d6 = ledD (rowsOf (lstR left)) c := p6
        rw [rowsOf_l] at e
        exact e
      have G6 : Grow H H1 Hm H6 := Grow.forget gm g6.all
      have m6 := g6.all _ _ m2
      cases hled : ledOf left c with
      | none =>
        have e6 : d6 = .none := by
          rw [p6']
          unfold ledD
          rw [hled]
        subst e6
        cases r6
        refine st_ifL (b := false) (etp_test (K := K) (EvP.is (evd_op (evp_var rfl .non) evp_non rd_notN) rfl)) G6.sub (fun h => by cases h) fun _ Hk7 H7 g7 => ?_
        exact ⟨Hm, p, us, left, pv, k, s4, _, _, s7, Grow.forget G6 g7.all, m1, g7.all _ _ m6, m3, rus, binv_skip hb hcw hled, rfl⟩
      | some i =>
        have e6 : d6 = .int (i : Int) := by
          rw [p6']
          unfold ledD
          rw [hled]
        subst e6
        cases r6
        obtain ⟨lead, hlead, hb'⟩ := binv_lead hb hcw hled
        refine st_ifL (b := true) (etp_test (K := K) (EvP.is (evd_op (evp_var rfl (.int _)) evp_non rd_notN) rfl)) G6.sub (fun _ Hk7 H7 g7 => ?_) (fun h => by cases h)
        have G7 := Grow.forget G6 g7.all
        have m7 := g7.all _ _ m6
        obtain ⟨vl, hvl, rvl⟩ := rus.get' (i := i) (d := lstI lead) (by rw [List.getElem?_map, hlead]; rfl)
        refine st_pop rfl rfl m7 hvl (by rw [rus.len, List.length_map]; omega) ?_
        have G8 : Grow H H1 Hm (upd H7 p (.lst (us.eraseIdx i))) := grow_mut G7 m1 m3
        have rer : RpAll K Hm (us.eraseIdx i) ((left.eraseIdx i).map lstI) := by
          have := rus.erase i
          rw [erase_map] at this
          exact this
        obtain ⟨hex8, hrl8⟩ := held G8.sub m1 upd_same rer
        have hlm : lead ∈ left := List.mem_of_getElem? hlead
        have hll : lead.length = w := (hent lead hlm).1
        refine st_setN (evn_mapW (P := fun d z => ∀ r, d = lstI r → r ∈ left → z = lstI (lessOf r lead c pv)) (walkd_list (evp_var rfl hrl8)) ?_ (fun _ => rfl) ?_) hex8 fun p9 us9 ds9 Hk9 H9 g9 rus9 pds9 l1 l2 l3 => ?_
        · rw [List.length_map]
          exact Nat.le_trans (List.length_eraseIdx_le ..) (by omega)
        · intro k9 d x Hn hk em rx
          obtain ⟨r, hr, rfl⟩ := List.mem_map.mp (List.mem_of_getElem? hk)
          have hr2 : r ∈ left := List.mem_of_mem_eraseIdx hr
          have h1 := hent r hr2
          have h2 := hent lead hlm
          refine EvP.weak (evd_D4 (evp_var rfl rx) (evp_var rfl ((rvl.mono (Ex.new m1)).mono em)) (evp_var rfl (.int (c : Int))) (evp_var rfl (.int pv)) ⟨r, lead, c, pv, rfl, rfl, rfl, rfl, by rw [h1.1, h2.1], by rw [h1.1]; exact hcw, hpv, mid_of hpv2, fun n hn => mid_of (h1.2 n hn), fun n hn => mid_of (h2.2 n hn), by rw [h1.1]; omega⟩) fun z e r' e' _ => ?_
          have ee := congrArg intsOf e'
          rw [intsOf_l, intsOf_l] at ee
          subst ee
          have e9 : z = lstI (lessOf (intsOf (lstI r)) (intsOf (lstI lead)) c pv) := e
          rw [intsOf_l, intsOf_l] at e9
          exact e9
        · obtain ⟨f9, rfl, hf9⟩ := pds9
          have e9 : (List.range ((left.eraseIdx i).map lstI).length).map f9 = ((left.eraseIdx i).map fun r => lessOf r lead c pv).map lstI :=
            from_turns (c := lstI) (g := fun r => lessOf r lead c pv) rfl fun k hk r e hr => hf9 k hk r e (List.mem_of_mem_eraseIdx (List.mem_of_getElem? hr))
          rw [e9] at rus9
          have G9 := grow_held G8 m1 upd_same m3 g9
          have kn : Ex Hm Hk9 := (Ex.new m1).trans g9.known
          refine st_asg2L (P1 := (· = .int (lead.getD c 0))) (P2 := (· = .int ((k + 1 : Nat) : Int))) (evd_op (evp_var rfl (rvl.mono kn)) (evp_var rfl (.int (c : Int))) (rd_ix (d := .int (lead.getD c 0)) (.inl rfl) (atI_nat (at_int (by rw [hll]; exact hcw))))) (EvP.is (evd_op (evp_var rfl (.int (k : Int))) evp_int rd_add) ?_) g9.sub fun v10 v11 d10 d11 Hk10 H10 g10 r10 r11 e10 e11 => ?_
          · exact congrArg PyData.int (Int.natCast_succ k).symm
          · subst e10 e11
            cases r10
            cases r11
            have hp9 : H1 p9 = none := by
              have := ex_none (H := H1) (H' := upd H7 p (.lst (us.eraseIdx i))) G8.all l3
              exact this
            exact ⟨Hk10, p9, us9, _, _, k + 1, s4, _, _, _, G9.trans g10, g10.unk l1 l2, g10.all _ _ l2, hp9, rus9.mono g10.known, hb', rfl⟩
    · rintro σ2 H3 ⟨Hm, p, us, left, pv, k, s4, s5, s6, s7, gm, m1, m2, m3, rus, hb, rfl⟩
      refine st_ret (K := K) (evp_var rfl (.int (k : Int))) gm.sub fun u z Hk9 H9 g9 r9 p9 => q' u z Hk9 H9 (gm.trans g9) r9 ⟨k, p9, ?_⟩
      have hb' : BInv w w rows left pv k := by
        have e : ((w : Int)).toNat = w := Int.toNat_natCast w
        rw [e] at hb
        exact hb
      exact binv_end hb' hw
theorem ok_is_row (T : Tx K mg) : FnOk P w K mg base CX0 3 T.a_is_row T.d_is_row ["value"] (spD1 K (fun d => ∃ ns : List Int, d = tupI ns ∧ 1 ≤ ns.length ∧ ns.length ≤ 28 ∧ ∀ n ∈ ns, n.natAbs ≤ 2 ^ (354 : Nat)) (fun _ z => z = .bool true)) := by
  refine T.F_is_row.ok sc_is_row (fun vs H1 Q E h => ?_) (fun cdv A outer s H1 vs Q E hr h => ?_)
  · obtain ⟨H, v, d, rfl, _⟩ := h
    rfl
  · obtain ⟨H, v, d, rfl, ex, r, p, q⟩ := h
    refine ⟨_, (pss_one (ps_ret (pe_and (pe_callB (kIsi (K := K) rfl) (by rfl) T.n_isinstance (by decide +kernel) (pa_cons (pv 0) (pa_cons (pe_bltn (v := .ty "tuple") (by rfl) T.n_tuple (by decide +kernel) rfl) pa_nil))) (pe_and (pe_chain opLe opLe pe_int (pe_callB (kLen (K := K) rfl) (by rfl) T.n_len (by decide +kernel) (pa_cons (pv 0) pa_nil)) (pe_glob (v := .int 28) (by rfl) T.c_MAX_WIDTH ⟨_, rfl⟩)) (pe_one (pe_callB (kAll (K := K) rfl rfl) (by rfl) T.n_all (by decide +kernel) (pa_cons (pe_lc (own := [("one", 1)]) (g := (gName 1)) rfl sc_is_row.nd (kpTup (K := K) rfl (pv 0)) (blkOk_by (N := ["value", "one"]) (sc := defScope s_is_row) (by decide +kernel)) (fun _ _ _ _ _ => (pg_name (i := 1) sc_is_row.nd rfl (by first | exact Or.inl rfl | exact Or.inr rfl))) (fun _ _ _ _ _ => pts_nil) (fun _ _ _ _ _ => (pe_call (ok_is_integer T) (hr.mono (by decide)) (by rfl) T.g_is_integer T.F_is_integer.kp T.b_is_integer .nil pass0 (pa_cons (pv 1) pa_nil)))) pa_nil))))))), ?_⟩
    try dsimp only [cxOf]
    obtain ⟨ns, rfl, h1, h2, h3⟩ := p
    refine (EvP.is (evp_andV (a := isTup (tupI ns)) (evp_isi (evp_var rfl r) (kit_tup _)) (fun _ => evp_andV (evp_chain evp_int (evd_cb (eas1 (evp_var rfl r) eas_nil) (rc_len rfl)) (fun _ => evp_int) rd_le (fun _ => rd_le)) fun _ =>
      evd_all (f := isInteger) (evd_mapT (evp_var rfl r) (by rw [List.length_map]; omega) (fun _ => rfl) fun k d x Hm hk _ rx => evd_D1 (evp_var rfl rx) trivial))) ?_) H1 ex _ q
    refine congrArg PyData.bool ?_
    have hl : (ns.map PyData.int).length = ns.length := List.length_map ..
    rw [hl]
    have e1 : decide ((1 : Int) ≤ (ns.length : Int)) = true := decide_eq_true (by omega)
    have e2 : decide ((ns.length : Int) ≤ 28) = true := decide_eq_true (by omega)
    have e3 : (ns.map PyData.int).all isInteger = true := List.all_eq_true.mpr fun d hd => by
      obtain ⟨n, hn, rfl⟩ := List.mem_map.mp hd
      exact small_bey (h3 n hn)
    rw [e1, e2, e3]
    rfl
theorem ok_are_rows (T : Tx K mg) : FnOk P w K mg base CX0 4 T.a_are_rows T.d_are_rows ["value"] (spD1 K (fun d => ∃ (rows : List (List Int)) (w : Nat), d = tupR rows ∧ Good rows w ∧ ∀ ns ∈ rows, ∀ n ∈ ns, n.natAbs ≤ 2 ^ (354 : Nat)) (fun _ z => z = .bool true)) := by
  refine T.F_are_rows.ok sc_are_rows (fun vs H1 Q E h => ?_) (fun cdv A outer s H1 vs Q E hr h => ?_)
  · obtain ⟨H, v, d, rfl, _⟩ := h
    rfl
  · obtain ⟨H, v, d, rfl, ex, r, p, q⟩ := h
    refine ⟨_, (pss_cons (ps_if (PW.pt (pw_or (pt_not (pt_val (pe_callB (kIsi (K := K) rfl) (by rfl) T.n_isinstance (by decide +kernel) (pa_cons (pv 0) (pa_cons (pe_bltn (v := .ty "tuple") (by rfl) T.n_tuple (by decide +kernel) rfl) pa_nil))))) (pw_or (pt_cmpR opGt (pe_callB (kLen (K := K) rfl) (by rfl) T.n_len (by decide +kernel) (pa_cons (pv 0) pa_nil)) (pe_glob (v := .int 60) (by rfl) T.c_MAX_ROWS ⟨_, rfl⟩) (nomark _)) (pw_or1 (pt_not (pt_val (pe_callB (kAll (K := K) rfl rfl) (by rfl) T.n_all (by decide +kernel) (pa_cons (pe_lc (own := [("row", 1)]) (g := (gName 1)) rfl sc_are_rows.nd (kpTup (K := K) rfl (pv 0)) (blkOk_by (N := ["value", "row"]) (sc := defScope s_are_rows) (by decide +kernel)) (fun _ _ _ _ _ => (pg_name (i := 1) sc_are_rows.nd rfl (by first | exact Or.inl rfl | exact Or.inr rfl))) (fun _ _ _ _ _ => pts_nil) (fun _ _ _ _ _ => (pe_call (ok_is_row T) (hr.mono (by decide)) (by rfl) T.g_is_row T.F_is_row.kp T.b_is_row .nil pass0 (pa_cons (pv 1) pa_nil)))) pa_nil)))))))) (pss_one (ps_ret pe_bl)) pss_nil)
      (pss_one (ps_ret (pe_callB (kAll (K := K) rfl rfl) (by rfl) T.n_all (by decide +kernel) (pa_cons (pe_lc (own := [("row", 1)]) (g := (gName 1)) rfl sc_are_rows.nd (kpTup (K := K) rfl (pv 0)) (blkOk_by (N := ["value", "row"]) (sc := defScope s_are_rows) (by decide +kernel)) (fun _ _ _ _ _ => (pg_name (i := 1) sc_are_rows.nd rfl (by first | exact Or.inl rfl | exact Or.inr rfl))) (fun _ _ _ _ _ => pts_nil) (fun _ _ _ _ _ => (pe_cmpR (kEq (K := K) rfl (hu64 hr)) (pe_callB (kLen (K := K) rfl) (by rfl) T.n_len (by decide +kernel) (pa_cons (pv 1) pa_nil)) (pe_callB (kLen (K := K) rfl) (by rfl) T.n_len (by decide +kernel) (pa_cons (pe_ix (kIx (K := K) rfl) (pv 0) pe_int (fun _ _ => rfl)) pa_nil)) (nomark _)))) pa_nil))))), ?_⟩
    try dsimp only [cxOf]
    obtain ⟨rows, w, rfl, ⟨g1, g2, g3, g4⟩, hb⟩ := p
    have hl : (rows.map tupI).length = rows.length := List.length_map ..
    have hn : (rows.map tupI).length ≤ 100000 := by rw [hl]; omega
    refine st_when (b := !isTup (tupR rows) || (decide ((60 : Int) < ((rows.map tupI).length : Int)) || !((rows.map tupI).all fun _ => true))) (etp_or (etp_not (etp_B (evp_isi (evp_var rfl r) (kit_tup _)))) (fun _ => etp_or (etp_test (evd_op (evd_cb (eas1 (evp_var rfl r) eas_nil) (rc_len rfl)) evp_int rd_gt))
      (fun _ => etp_not (etp_B (evd_all (f := fun _ => true) (evd_mapT (evp_var rfl r) hn (fun _ => rfl) fun k d x Hm hk _ rx => ?_)))))) ex (fun h => ?_) (fun _ Hk H2 g => ?_)
    · obtain ⟨ns, hns, rfl⟩ := List.mem_map.mp (List.mem_of_getElem? hk)
      exact evd_D1 (evp_var rfl rx) ⟨ns, rfl, by rw [g4 ns hns]; exact g2, by rw [g4 ns hns]; exact g3, hb ns hns⟩
    · rw [hl] at h
      have e1 : decide ((60 : Int) < (rows.length : Int)) = false := decide_eq_false (by omega)
      have e2 : ((rows.map tupI).all fun _ => true) = true := List.all_eq_true.mpr fun _ _ => rfl
      rw [e1, e2] at h
      cases h
    · have rm := r.mono g.known
      refine st_ret (EvP.is (evd_all (f := fun _ => true) (evd_mapT (evp_var rfl rm) hn (fun _ => rfl) fun k d x Hm hk em rx => ?_)) ?_) g.sub fun u z Hk9 H9 g9 r9 p9 => q u z Hk9 H9 (g.trans g9) r9 p9
      · obtain ⟨ns, hns, rfl⟩ := List.mem_map.mp (List.mem_of_getElem? hk)
        obtain ⟨r0, hr0⟩ : ∃ r0, rows[0]? = some r0 := ⟨rows[0]'(List.length_pos_of_mem hns), List.getElem?_eq_getElem _⟩
        refine EvP.is (evd_op (evd_cb (eas1 (evp_var rfl rx) eas_nil) (rc_len rfl)) (evd_cb (eas1 (evd_op (evp_var rfl (rm.mono em)) evp_int (rd_ix (d := tupI r0) (.inr rfl) (atI_nat (j := 0) ?_))) eas_nil) (rc_len rfl)) (rd_eqD rfl rfl)) ?_
        · rw [List.getElem?_map, hr0]
          rfl
        · rw [eqv_int, List.length_map, List.length_map, g4 ns hns, g4 r0 (List.mem_of_getElem? hr0)]
          exact congrArg PyData.bool (decide_eq_true rfl)
      · exact congrArg PyData.bool (List.all_eq_true.mpr fun _ _ => rfl)
theorem ok_require_rows (T : Tx K mg) : FnOk P w K mg base CX0 5 T.a_require_rows T.d_require_rows ["rows"] (spD1 K (fun d => ∃ (rows : List (List Int)) (w : Nat), d = tupR rows ∧ Good rows w ∧ ∀ ns ∈ rows, ∀ n ∈ ns, n.natAbs ≤ 2 ^ (354 : Nat)) (fun _ z => z = .none)) := by
  refine T.F_require_rows.ok sc_require_rows (fun vs H1 Q E h => ?_) (fun cdv A outer s H1 vs Q E hr h => ?_)
  · obtain ⟨H, v, d, rfl, _⟩ := h
    rfl
  · obtain ⟨H, v, d, rfl, ex, r, p, q⟩ := h
    refine ⟨_, (pss_one (ps_if (pt_not (pt_val (pe_call (ok_are_rows T) (hr.mono (by decide)) (by rfl) T.g_are_rows T.F_are_rows.kp T.b_are_rows .nil pass0 (pa_cons (pv 0) pa_nil)))) (pss_one ps_dead) pss_nil)), ?_⟩
    try dsimp only [cxOf]
    exact st_ifL (b := !true) (etp_not (etp_B (evd_D1 (evp_var rfl r) p))) ex (fun h => by cases h) fun _ Hk H2 g => q .non .none Hk H2 g .non rfl
theorem ok_rank (T : Tx K mg) (B : Tb T base) : FnOk P w K mg base CX0 6 T.a_rank T.d_rank ["rows"] (spT1 K [T.t_index_of_led] rankPre rankPost) := by
  refine T.F_rank.ok sc_rank (fun vs H1 Q E h => ?_) (fun cdv A outer s H1 vs Q E hr h => ?_)
  · obtain ⟨H, v, d, rfl, _⟩ := h
    rfl
  · obtain ⟨H, v, d, rfl, ex, hT, r, p, q⟩ := h
    refine ⟨_, (pss_cons (ps_expr (pe_call (ok_require_rows T) (hr.mono (by decide)) (by rfl) T.g_require_rows T.F_require_rows.kp T.b_require_rows .nil pass0 (pa_cons (pv 0) pa_nil)))
      (pss_one (ps_ret (pe_call (ok_rank_of T B) (hr.mono (by decide)) (by rfl) T.g_rank_of T.F_rank_of.kp T.b_rank_of .nil pass0 (pa_cons (pv 0) pa_nil))))), ?_⟩
    try dsimp only [cxOf]
    have p0 := p
    obtain ⟨rows, w, rfl, hg, hs⟩ := p
    refine st_drop (evd_D1 (evp_var rfl r) ⟨rows, w, rfl, hg, fun ns hns n hn => ?_⟩) ex fun v d Hk H2 g _ _ => ?_
    · obtain ⟨c, rfl⟩ := DL.mem_getD hn
      exact hs.1 ns hns c
    · exact st_ret (evd_T1 (hT.mono g.known) (evp_var rfl (r.mono g.known)) p0) g.sub fun u z Hk9 H9 g9 r9 p9 => q u z Hk9 H9 (g.trans g9) r9 p9
theorem ok_are_free (T : Tx K mg) (B : Tb T base) : FnOk P w K mg base CX0 6 T.a_are_free T.d_are_free ["rows"] (spT1 K [T.t_index_of_led] rankPre freePost) := by
  refine T.F_are_free.ok sc_are_free (fun vs H1 Q E h => ?_) (fun cdv A outer s H1 vs Q E hr h => ?_)
  · obtain ⟨H, v, d, rfl, _⟩ := h
    rfl
  · obtain ⟨H, v, d, rfl, ex, hT, r, p, q⟩ := h
    refine ⟨_, (pss_cons (ps_expr (pe_call (ok_require_rows T) (hr.mono (by decide)) (by rfl) T.g_require_rows T.F_require_rows.kp T.b_require_rows .nil pass0 (pa_cons (pv 0) pa_nil)))
      (pss_one (ps_ret (pe_cmpR (kEq (K := K) rfl (hu64 hr)) (pe_call (ok_rank_of T B) (hr.mono (by decide)) (by rfl) T.g_rank_of T.F_rank_of.kp T.b_rank_of .nil pass0 (pa_cons (pv 0) pa_nil)) (pe_callB (kLen (K := K) rfl) (by rfl) T.n_len (by decide +kernel) (pa_cons (pv 0) pa_nil)) (nomark _))))), ?_⟩
    try dsimp only [cxOf]
    have p0 := p
    obtain ⟨rows, w, rfl, hg, hs⟩ := p
    refine st_drop (evd_D1 (evp_var rfl r) ⟨rows, w, rfl, hg, fun ns hns n hn => ?_⟩) ex fun v d Hk H2 g _ _ => ?_
    · obtain ⟨c, rfl⟩ := DL.mem_getD hn
      exact hs.1 ns hns c
    · refine st_ret (evp_op (P2 := (· = .int (rows.length : Int))) (evd_T1 (hT.mono g.known) (evp_var rfl (r.mono g.known)) p0) (EvP.is (evd_cb (eas1 (evp_var rfl (r.mono g.known)) eas_nil) (rc_len rfl)) (by rw [List.length_map])) ?_) g.sub fun u z Hk9 H9 g9 r9 p9 => q u z Hk9 H9 (g.trans g9) r9 p9
      rintro d1 d2 ⟨k, rfl, hk⟩ rfl
      refine RD.weak (rd_eqD rfl rfl) fun z e => ⟨k, ?_, hk⟩
      rw [e, eqv_int, rowsOf_t]
      exact congrArg PyData.bool (decide_eq_decide.mpr Int.ofNat_inj)
theorem ok__law_divisor (T : Tx K mg) : FnOk P w K mg base CX0 1 T.a__law_divisor T.d__law_divisor ["_law_numbers"] (spD1 K (fun d => ∃ ns : List Int, d = lstI ns ∧ ns.length ≤ 1000) (fun d z => z = .int (gcdL (intsOf d) : Int))) := by
  refine T.F__law_divisor.ok sc__law_divisor (fun vs H1 Q E h => ?_) (fun cdv A outer s H1 vs Q E hr h => ?_)
  · obtain ⟨H, v, d, rfl, _⟩ := h
    rfl
  · obtain ⟨H, v, d, rfl, ex, r, p, q⟩ := h
    refine ⟨_, (pss_cons (ps_set (i := 1) sc__law_divisor.nd rfl (by first | exact Or.inl rfl | exact Or.inr rfl) pe_int)
      (pss_cons (ps_for PassesOwn.never rfl (kpList (K := K) rfl (pv 0)) (pg_name (i := 2) sc__law_divisor.nd rfl (by first | exact Or.inl rfl | exact Or.inr rfl)) (pss_cons (ps_set (i := 3) sc__law_divisor.nd rfl (by first | exact Or.inl rfl | exact Or.inr rfl) (pe_callB call_abs (by rfl) T.n_abs (by decide +kernel) (pa_cons (pv 2) pa_nil)))
      (pss_one (ps_while PassesOwn.never (pt_cmpR (kNe (K := K) rfl (hu64 hr)) (pv 3) pe_int (nomark _)) (pss_one (ps_par (i := 1) (j := 3) (by rfl) sc__law_divisor.nd rfl rfl (by decide) rfl rfl (pa_cons (pv 3) (pa_cons (pe_op op_mod (pv 1) (pv 3)) pa_nil)) (by rfl)))))))
      (pss_one (ps_ret (pv 1))))), ?_⟩
    try dsimp only [cxOf]
    obtain ⟨ns, rfl, hn⟩ := p
    have q' : ∀ u z Hk H2, Grow H H1 Hk H2 → Rp K Hk u z → z = .int (gcdL ns : Int) → Q u H2 := fun u z Hk H2 g r e => q u z Hk H2 g r (by
      show z = .int (gcdL (intsOf (lstI ns)) : Int)
      rw [intsOf_l]
      exact e)
    refine st_set (K := K) evp_int ex fun v1 d1 Hk1 H2 g1 r1 p1 => ?_
    subst p1
    cases r1
    refine st_forS (walkd_list (evp_var rfl (r.mono g1.known))) g1.sub (fun i σ _ _ => ∃ s2 s3, σ = [some v, some (V.int (gcdL (ns.take i) : Int)), s2, s3]) (fun Hk H2 g => ⟨none, none, rfl⟩) ?_ ?_
    · rintro Hb Hc i x σ2 Hm H3 Hm' H4 gb hi gm ⟨s2, s3, rfl⟩ g4 ⟨d, hd, rd⟩
      obtain ⟨n, hns, rfl⟩ : ∃ n, ns[i]? = some n ∧ d = .int n := by
        rw [List.getElem?_map] at hd
        cases e : ns[i]? with
        | none =>
          rw [e] at hd
          cases hd
        | some n =>
          rw [e] at hd
          exact ⟨n, rfl, (Option.some.inj hd).symm⟩
      cases rd
      refine gn ?_
      refine st_set (K := K) (evd_cb (eas1 (evp_var rfl (.int n)) eas_nil) rc_abs) g4.sub fun v5 d5 Hk5 H5 g5 r5 p5 => ?_
      subst p5
      cases r5
      have G := (gm.trans g4).trans g5
      refine st_whileL (fun m σ' H' => ∃ (Hw : Hp) (f o : Nat), Grow Hb Hc Hw H' ∧ m = o ∧ Nat.gcd f o = gcdL (ns.take (i + 1)) ∧ σ' = [some v, some (V.int (f : Int)), some (V.int n), some (V.int (o : Int))]) n.natAbs ⟨Hk5, gcdL (ns.take i), n.natAbs, G, rfl, (gcdL_snoc hns).symm, rfl⟩ ?_
      rintro m σ' H' ⟨Hw, f, o, Gw, rfl, hg, rfl⟩
      refine ⟨Hw, !PyData.eqv (.int (m : Int)) (.int 0), Gw.sub, etp_test (K := K) (evd_op (evp_var rfl (.int (m : Int))) evp_int (rd_neD rfl rfl)), fun hb Hk2 H2 g2 => ?_, fun hb Hk2 H2 g2 => ?_⟩
      · rw [eqv_int] at hb
        have hm0 : 0 < m := by
          rcases Nat.eq_zero_or_pos m with h | h
          · subst h
            cases hb
          · exact h
        refine st_parL (K := K) (P1 := (· = .int (m : Int))) (P2 := (· = .int ((f % m : Nat) : Int))) (evp_var rfl (.int (m : Int))) (EvP.is (evd_op (evp_var rfl (.int (f : Int))) (evp_var rfl (.int (m : Int))) (rd_I (by omega))) (congrArg PyData.int (Int.natCast_emod f m).symm)) g2.sub fun v7 v8 d7 d8 Hk3 H3 g3 r7 r8 e7 e8 => ?_
        subst e7 e8
        cases r7
        cases r8
        refine ⟨f % m, Nat.mod_lt f hm0, Hk3, m, f % m, (Gw.trans g2).trans g3, rfl, ?_, rfl⟩
        rw [← hg, Nat.gcd_comm f m, Nat.gcd_rec m f]
        exact Nat.gcd_comm _ _
      · rw [eqv_int] at hb
        have hm0 : m = 0 := by
          rcases Nat.eq_zero_or_pos m with h | h
          · exact h
          · rw [decide_eq_false (by omega)] at hb
            cases hb
        subst hm0
        rw [Nat.gcd_zero_right] at hg
        subst hg
        exact ⟨Hk2, Gw.trans g2, _, _, rfl⟩
    · rintro Hb Hc σ2 Hm H3 gb gm ⟨s2, s3, rfl⟩
      have G := (g1.trans gb).trans gm
      refine st_ret (K := K) (evp_var rfl (.int _)) gm.sub fun u z Hk9 H9 g9 r9 p9 => q' u z Hk9 H9 (G.trans g9) r9 ?_
      rw [p9, List.length_map, List.take_length]
theorem ok__law_cleared (T : Tx K mg) : FnOk P w K mg base CX0 2 T.a__law_cleared T.d__law_cleared ["_law_row"] (spD1 K (fun d => ∃ ns : List Int, d = lstI ns ∧ ns.length ≤ 1000 ∧ ∀ n ∈ ns, Mid n) (fun d z => z = lstI (clearL (intsOf d)))) := by
  refine T.F__law_cleared.ok sc__law_cleared (fun vs H1 Q E h => ?_) (fun cdv A outer s H1 vs Q E hr h => ?_)
  · obtain ⟨H, v, d, rfl, _⟩ := h
    rfl
  · obtain ⟨H, v, d, rfl, ex, r, p, q⟩ := h
    refine ⟨_, (pss_cons (ps_set (i := 1) sc__law_cleared.nd rfl (by first | exact Or.inl rfl | exact Or.inr rfl) (pe_call (ok__law_divisor T) (hr.mono (by decide)) (by rfl) T.g__law_divisor T.F__law_divisor.kp T.b__law_divisor .nil pass0 (pa_cons (pv 0) pa_nil)))
      (pss_one (ps_ret (pe_ifExp (pt_cmpR opLt (pv 1) pe_int (nomark _)) (pe_callTy (kLst (K := K) rfl) (by rfl) T.n_list (by decide +kernel) (pa_cons (pv 0) pa_nil)) (pe_lc (own := [("_law_number", 2)]) (g := (gName 2)) rfl sc__law_cleared.nd (kpList (K := K) rfl (pv 0)) (blkOk_by (N := ["_law_row", "_law_divisor_here", "_law_number"]) (sc := defScope s__law_cleared) (by decide +kernel)) (fun _ _ _ _ _ => (pg_name (i := 2) sc__law_cleared.nd rfl (by first | exact Or.inl rfl | exact Or.inr rfl))) (fun _ _ _ _ _ => pts_nil) (fun _ _ _ _ _ => (pe_op op_fdivW (pv 2) (pv 1)))))))), ?_⟩
    try dsimp only [cxOf]
    obtain ⟨ns, rfl, hn, hm⟩ := p
    refine st_set (evd_D1 (evp_var rfl r) ⟨ns, rfl, hn⟩) ex fun v1 d1 Hk1 H2 g1 r1 p1 => ?_
    have p1' : d1 = .int (gcdL ns : Int) := by
      have e : d1 = .int (gcdL (intsOf (lstI ns)) : Int) := p1
      rw [intsOf_l] at e
      exact e
    subst p1'
    have hgm : (gcdL ns : Int).natAbs.log2 < 9000 := Mid.log (n := (gcdL ns : Int)) (by
      show gcdL ns < 2 ^ (9000 : Nat)
      have h0 : 0 < 2 ^ (9000 : Nat) := Nat.pow_pos (by decide)
      have := gcdL_le (ns := ns) (B := 2 ^ (9000 : Nat) - 1) fun n h => by
        have : n.natAbs < 2 ^ (9000 : Nat) := hm n h
        omega
      omega)
    refine st_ret (evp_if (b := decide ((gcdL ns : Int) < 2)) (P := fun z => z = lstI (clearL ns)) (etp_test (evd_op (evp_var rfl r1) evp_int rd_lt)) (fun hb => ?_) (fun hb => ?_)) g1.sub fun u z Hk9 H9 g9 r9 p9 => q u z Hk9 H9 (g1.trans g9) r9 (by
      show z = lstI (clearL (intsOf (lstI ns)))
      rw [intsOf_l]
      exact p9)
    · have h := of_decide_eq_true hb
      refine EvP.is (evd_cb (eas1 (evp_var rfl (r.mono g1.known)) eas_nil) (rc_list (.inl rfl))) ?_
      unfold clearL
      rw [if_pos h]
    · have h := of_decide_eq_false hb
      refine EvP.is (evd_mapL (g := fun d => .int (intOf d / (gcdL ns : Int))) (evp_var rfl (r.mono g1.known)) (by rw [List.length_map]; omega) (fun _ => rfl) fun k d x Hm hk em rx => ?_) ?_
      · obtain ⟨n, hn', rfl⟩ := mem_int hk
        exact evd_op (evp_var rfl rx) (evp_var rfl (r1.mono em)) (rd_I ⟨by omega, hgm⟩)
      · unfold clearL
        rw [if_neg h]
        show PyData.list _ = .list _
        rw [List.map_map, List.map_map]
        rfl
theorem ok__law_less (T : Tx K mg) : FnOk P w K mg base CX0 3 T.a__law_less T.d__law_less ["_law_row", "_law_head", "_law_column"] (spD3 K lessPre lessPost) := by
  refine T.F__law_less.ok sc__law_less (fun vs H1 Q E h => ?_) (fun cdv A outer s H1 vs Q E hr h => ?_)
  · obtain ⟨H, v, w, y, d, e, f, rfl, _⟩ := h
    rfl
  · obtain ⟨H, v, w, y, d, e, f, rfl, ex, r, r2, r3, p, q⟩ := h
    refine ⟨_, (pss_cons (ps_if (pt_cmpR (kEq (K := K) rfl (hu64 hr)) (pe_ix (kIx (K := K) rfl) (pv 0) (pv 2) (fun _ _ => rfl)) pe_int (nomark _)) (pss_one (ps_ret (pe_callTy (kLst (K := K) rfl) (by rfl) T.n_list (by decide +kernel) (pa_cons (pv 0) pa_nil)))) pss_nil)
      (pss_one (ps_ret (pe_call (ok__law_cleared T) (hr.mono (by decide)) (by rfl) T.g__law_cleared T.F__law_cleared.kp T.b__law_cleared .nil pass0 (pa_cons (pe_lc (own := [("_law_one", 3), ("_law_other", 4)]) (g := (gTup K 2 (gCons (gName 3) (gCons (gName 4) gNil)))) rfl sc__law_less.nd (kpZip (K := K) rfl (by rfl) T.n_zip (pa_cons (pv 0) (pa_cons (pv 1) pa_nil))) (blkOk_by (N := ["_law_row", "_law_head", "_law_column", "_law_one", "_law_other"]) (sc := defScope s__law_less) (by decide +kernel)) (fun _ _ _ _ _ => (kgTup (K := K) rfl rfl (pgs_cons (pg_name (i := 3) sc__law_less.nd rfl (by first | exact Or.inl rfl | exact Or.inr rfl)) (pgs_cons (pg_name (i := 4) sc__law_less.nd rfl (by first | exact Or.inl rfl | exact Or.inr rfl)) pgs_nil)))) (fun _ _ _ _ _ => pts_nil) (fun _ _ _ _ _ => (pe_op op_sub (pe_op (kMul (K := K) rfl) (pv 3) (pe_ix (kIx (K := K) rfl) (pv 1) (pv 2) (fun _ _ => rfl))) (pe_op (kMul (K := K) rfl) (pv 4) (pe_ix (kIx (K := K) rfl) (pv 0) (pv 2) (fun _ _ => rfl)))))) pa_nil))))), ?_⟩
    try dsimp only [cxOf]
    obtain ⟨ro, he, c, rfl, rfl, rfl, hlen, hc, hn, h1, h2⟩ := p
    have q' : ∀ u z Hk H2, Grow H H1 Hk H2 → Rp K Hk u z → z = lstI (lessL ro he c) → Q u H2 := fun u z Hk H2 g r e => q u z Hk H2 g r (by
      show z = lstI (lessL (intsOf (lstI ro)) (intsOf (lstI he)) c)
      rw [intsOf_l, intsOf_l]
      exact e)
    have mid4 : ∀ {n : Int}, n.natAbs < 2 ^ (4400 : Nat) → Mid n := fun h => Nat.lt_trans h (Nat.pow_lt_pow_right (by decide) (by decide))
    have hro : Mid (ro.getD c 0) := Mid.getD fun n hn => mid4 (h1 n hn)
    have hhe : Mid (he.getD c 0) := Mid.getD fun n hn => mid4 (h2 n hn)
    refine st_when (etp_test (evd_op (evd_op (evp_var rfl r) (evp_var rfl r3) (rd_ix (d := .int (ro.getD c 0)) (.inl rfl) (atI_nat (at_int hc)))) evp_int (rd_eqD rfl rfl))) ex (fun hb Hk2 H2 g2 => ?_) (fun hb Hk2 H2 g2 => ?_)
    · rw [eqv_int] at hb
      have hz : at' ro c = 0 := of_decide_eq_true hb
      refine st_ret (evd_cb (eas1 (evp_var rfl (r.mono g2.known)) eas_nil) (rc_list (.inl rfl))) g2.sub fun u z Hk9 H9 g9 r9 p9 => q' u z Hk9 H9 (g2.trans g9) r9 ?_
      rw [p9]
      unfold lessL
      rw [if_pos hz]
    · rw [eqv_int] at hb
      have hz : at' ro c ≠ 0 := of_decide_eq_false hb
      have key := (lessL_le (c := c) h1 h2).1
      have hle : (List.zipWith (fun a b => a * at' he c - b * at' ro c) ro he).length ≤ 1000 := by
        rw [List.length_zipWith]
        omega
      have hmid : ∀ n ∈ List.zipWith (fun a b => a * at' he c - b * at' ro c) ro he, Mid n := fun n hn => Nat.lt_trans (key n hn) (Nat.pow_lt_pow_right (by decide) (by decide))
      refine st_ret (evd_D1 (EvP.is (evd_mapZ (g := fun d => .int (intOf d.1 * at' he c - intOf d.2 * at' ro c)) (eas1 (evp_var rfl (r.mono g2.known)) (eas1 (evp_var rfl (r2.mono g2.known)) eas_nil)) (.inl ⟨rfl, rfl⟩) (by rw [List.length_map]; omega) (fun _ _ => rfl) ?_) ?_) ⟨List.zipWith (fun a b => a * at' he c - b * at' ro c) ro he, rfl, hle, hmid⟩) g2.sub fun u z Hk9 H9 g9 r9 p9 => q' u z Hk9 H9 (g2.trans g9) r9 ?_
      · intro a b x y Hm hm em rx ry
        obtain ⟨y1, y2⟩ := List.of_mem_zip hm
        obtain ⟨n, hn', rfl⟩ := List.mem_map.mp y1
        obtain ⟨m, hm', rfl⟩ := List.mem_map.mp y2
        exact evd_op (evd_op (evp_var rfl rx) (evd_op (evp_var rfl ((r2.mono g2.known).mono em)) (evp_var rfl ((r3.mono g2.known).mono em)) (rd_ix (d := .int (he.getD c 0)) (.inl rfl) (atI_nat (at_int (by omega))))) (rd_mul ((mid4 (h1 n hn')).mul hhe)))
          (evd_op (evp_var rfl ry) (evd_op (evp_var rfl ((r.mono g2.known).mono em)) (evp_var rfl ((r3.mono g2.known).mono em)) (rd_ix (d := .int (ro.getD c 0)) (.inl rfl) (atI_nat (at_int hc)))) (rd_mul ((mid4 (h2 m hm')).mul hro))) rd_I0
      · refine congrArg PyData.list (List.ext_getElem (by simp) fun j h1 h2 => ?_)
        simp [intOf]
      · have e : z = lstI (clearL (intsOf (lstI (List.zipWith (fun a b => a * at' he c - b * at' ro c) ro he)))) := p9
        rw [intsOf_l] at e
        rw [e]
        unfold lessL
        rw [if_neg hz]
theorem ok__law_leads (T : Tx K mg) : FnOk P w K mg base CX0 4 T.a__law_leads T.d__law_leads ["_law_rows", "_law_width"] (spD2 K (fun d e => ∃ (rows : List (List Int)) (w : Nat), d = lstR rows ∧ e = .int (w : Int) ∧ w ≤ 28 ∧ rows.length ≤ 9 ∧ ∀ r ∈ rows, r.length = w ∧ ∀ n ∈ r, n.natAbs < 2 ^ (16 : Nat)) (fun d e z => ∃ ds, z = .list ds ∧ IsRank ((rowsOf d).map at') ds.length)) := by
  refine T.F__law_leads.ok sc__law_leads (fun vs H1 Q E h => ?_) (fun cdv A outer s H1 vs Q E hr h => ?_)
  · obtain ⟨H, v, w, d, e, rfl, _⟩ := h
    rfl
  · obtain ⟨H, v, w, d, e, rfl, ex, r, r2, p, q⟩ := h
    refine ⟨_, (pss_cons (ps_par (i := 2) (j := 3) (by rfl) sc__law_leads.nd rfl rfl (by decide) rfl rfl (pa_cons (pe_lc (own := [("_law_row", 4)]) (g := (gName 4)) rfl sc__law_leads.nd (kpList (K := K) rfl (pv 0)) (blkOk_by (N := ["_law_rows", "_law_width", "_law_left", "_law_leads_here", "_law_row", "_law_column", "_law_some", "_law_at", "_law_head"]) (sc := defScope s__law_leads) (by decide +kernel)) (fun _ _ _ _ _ => (pg_name (i := 4) sc__law_leads.nd rfl (by first | exact Or.inl rfl | exact Or.inr rfl))) (fun _ _ _ _ _ => pts_nil) (fun _ _ _ _ _ => (pe_callTy (kLst (K := K) rfl) (by rfl) T.n_list (by decide +kernel) (pa_cons (pv 4) pa_nil)))) (pa_cons (pe_lst pa_nil) pa_nil)) (by rfl))
      (pss_cons (ps_for PassesOwn.never rfl (pi_range1 (by rfl) T.n_range (pa_cons (pv 1) pa_nil)) (pg_name (i := 5) sc__law_leads.nd rfl (by first | exact Or.inl rfl | exact Or.inr rfl)) (pss_cons (ps_setLc (i := 6) (own := [("_law_at", 7), ("_law_row", 4)]) (g := (gTup K 2 (gCons (gName 7) (gCons (gName 4) gNil)))) rfl sc__law_leads.nd rfl rfl (sw_true rfl rfl rfl (by decide +kernel)) (pi_enA (K := K) rfl (by rfl) T.n_enumerate (pa_cons (pv 2) pa_nil)) (blkOk_by (N := ["_law_rows", "_law_width", "_law_left", "_law_leads_here", "_law_row", "_law_column", "_law_some", "_law_at", "_law_head"]) (sc := defScope s__law_leads) (by decide +kernel)) (fun _ _ _ _ _ => (kgTup (K := K) rfl rfl (pgs_cons (pg_name (i := 7) sc__law_leads.nd rfl (by first | exact Or.inl rfl | exact Or.inr rfl)) (pgs_cons (pg_name (i := 4) sc__law_leads.nd rfl (by first | exact Or.inl rfl | exact Or.inr rfl)) pgs_nil)))) (fun _ _ _ _ _ => (pts_one (pt_cmpR (kNe (K := K) rfl (hu64 hr)) (pe_ix (kIx (K := K) rfl) (pv 4) (pv 5) (fun _ _ => rfl)) pe_int (nomark _)))) (fun _ _ _ _ _ => (pv 7)))
      (pss_one (ps_if (pt_cmpR (kNe (K := K) rfl (hu64 hr)) (pv 6) (pe_lst pa_nil) (nomark _)) (pss_cons (ps_set (i := 8) sc__law_leads.nd rfl (by first | exact Or.inl rfl | exact Or.inr rfl) (pe_ix (kIx (K := K) rfl) (pv 2) (pe_ix (kIx (K := K) rfl) (pv 6) pe_int (fun _ _ => rfl)) (fun _ _ => rfl)))
      (pss_cons (ps_setLc (i := 2) (own := [("_law_row", 4)]) (g := (gName 4)) rfl sc__law_leads.nd rfl rfl (sw_true rfl rfl rfl (by decide +kernel)) (kpList (K := K) rfl (pe_op (kCatS (K := K) rfl) (pe_slice (kSl (K := K) rfl) (pv 2) po_none (po_some (pe_ix (kIx (K := K) rfl) (pv 6) pe_int (fun _ _ => rfl)))) (pe_slice (kSl (K := K) rfl) (pv 2) (po_some (pe_op (kAdd (K := K) rfl) (pe_ix (kIx (K := K) rfl) (pv 6) pe_int (fun _ _ => rfl)) pe_int)) po_none))) (blkOk_by (N := ["_law_rows", "_law_width", "_law_left", "_law_leads_here", "_law_row", "_law_column", "_law_some", "_law_at", "_law_head"]) (sc := defScope s__law_leads) (by decide +kernel)) (fun _ _ _ _ _ => (pg_name (i := 4) sc__law_leads.nd rfl (by first | exact Or.inl rfl | exact Or.inr rfl))) (fun _ _ _ _ _ => pts_nil) (fun _ _ _ _ _ => (pe_call (ok__law_less T) (hr.mono (by decide)) (by rfl) T.g__law_less T.F__law_less.kp T.b__law_less .nil pass0 (pa_cons (pv 4) (pa_cons (pv 8) (pa_cons (pv 5) pa_nil))))))
      (pss_one (ps_set (i := 3) sc__law_leads.nd rfl (by first | exact Or.inl rfl | exact Or.inr rfl) (pe_op (kCatS (K := K) rfl) (pe_lc (own := [("_law_at", 7), ("_law_row", 4)]) (g := (gTup K 2 (gCons (gName 7) (gCons (gName 4) gNil)))) rfl sc__law_leads.nd (kpList (K := K) rfl (pv 3)) (blkOk_by (N := ["_law_rows", "_law_width", "_law_left", "_law_leads_here", "_law_row", "_law_column", "_law_some", "_law_at", "_law_head"]) (sc := defScope s__law_leads) (by decide +kernel)) (fun _ _ _ _ _ => (kgTup (K := K) rfl rfl (pgs_cons (pg_name (i := 7) sc__law_leads.nd rfl (by first | exact Or.inl rfl | exact Or.inr rfl)) (pgs_cons (pg_name (i := 4) sc__law_leads.nd rfl (by first | exact Or.inl rfl | exact Or.inr rfl)) pgs_nil)))) (fun _ _ _ _ _ => pts_nil) (fun _ _ _ _ _ => (pe_tup (pa_cons (pv 7) (pa_cons (pe_call (ok__law_less T) (hr.mono (by decide)) (by rfl) T.g__law_less T.F__law_less.kp T.b__law_less .nil pass0 (pa_cons (pv 4) (pa_cons (pv 8) (pa_cons (pv 5) pa_nil)))) pa_nil))))) (pe_lst (pa_cons (pe_tup (pa_cons (pv 5) (pa_cons (pv 8) pa_nil))) pa_nil))))))) pss_nil))))
      (pss_one (ps_ret (pv 3))))), ?_⟩
    try dsimp only [cxOf]
    obtain ⟨rows, w, rfl, rfl, hw, h9, hr⟩ := p
    cases r2
    have q' : ∀ u z Hk H2, Grow H H1 Hk H2 → Rp K Hk u z → (∃ ds, z = .list ds ∧ IsRank (rows.map at') ds.length) → Q u H2 := fun u z Hk H2 g r e => q u z Hk H2 g r (by
      show ∃ ds, z = .list ds ∧ IsRank ((rowsOf (lstR rows)).map at') ds.length
      rw [rowsOf_l]
      exact e)
    refine st_par (P1 := (· = lstR rows)) (P2 := (· = ldsD [])) (EvP.is (evd_mapL (g := fun d => d) (evp_var rfl r) (by rw [List.length_map]; omega) (fun _ => rfl) fun k d x Hm hk em rx => ?_) (congrArg PyData.list (List.map_id'' (fun _ => rfl) _))) (evd_lst eas_nil) ex fun vl vd dl dd Hk H2 g rl rd el ed => ?_
    · obtain ⟨ns, _, rfl⟩ := List.mem_map.mp (List.mem_of_getElem? hk)
      exact evd_cb (eas1 (evp_var rfl rx) eas_nil) (rc_list (.inl rfl))
    subst el ed
    refine st_forS (K := K) (H := Hk) (walkd_range (j := (w : Int)) (eas1 (evp_var rfl (.int _)) eas_nil) ⟨by omega, by omega⟩) g.sub
      (fun c σ Hm _ => ∃ vl vd left leads s4 s5 s6 s7 s8, Rp K Hm vl (lstR left) ∧ Rp K Hm vd (ldsD leads) ∧ LInv w c rows left leads ∧ σ = [some v, some (V.int (w : Int)), some vl, some vd, s4, s5, s6, s7, s8])
      (fun Hk2 H3 g2 => ⟨vl, vd, rows, [], _, _, _, _, _, rl.mono g2.known, rd.mono g2.known, linv_start hr, rfl⟩) ?_ ?_
    · rintro Hb Hc c x σ2 Hm H3 Hm' H4 gb hi gm ⟨vl, vd, left, leads, s4, s5, s6, s7, s8, rl, rd, hI, rfl⟩ g4 rfl
      have hcw : c < w := by simpa using hi
      have rl4 := rl.mono g4.known
      have rd4 := rd.mono g4.known
      have hll : left.length ≤ 9 := by
        have := hI.len
        omega
      refine gn ?_
      refine st_set (K := K) (P := (· = .list (((List.range left.length).filter (ledAt left c)).map fun (k : Nat) => PyData.int (k : Int)))) (EvP.is (evd_lcE (p := ledAt left c) (g := fun k => .int (k : Int)) (ds := left.map lstI) (eas1 (evp_var rfl rl4) eas_nil) (.inl rfl) (by rw [List.length_map]; omega) (fun _ _ => rfl) ?_ ?_) ?_) g4.sub fun v6 d6 Hk6 H6 g6 r6 p6 => ?_
      · intro k a y Hn hk em ry
        obtain ⟨ns, hns, rfl⟩ : ∃ ns, left[k]? = some ns ∧ a = lstI ns := by
          rw [List.getElem?_map] at hk
          cases e : left[k]? with
          | none =>
            rw [e] at hk
            cases hk
          | some ns =>
            rw [e] at hk
            exact ⟨ns, rfl, (Option.some.inj hk).symm⟩
        have hc2 : c < ns.length := by rw [(hI.wid ns (List.mem_of_getElem? hns)).1]; exact hcw
        have eb : ledAt left c k = !PyData.eqv (.int (ns.getD c 0)) (.int 0) := by
          unfold ledAt
          rw [hns]
          rfl
        rw [eb]
        exact etp_test (evd_op (evd_op (evp_var rfl ry) (evp_var rfl (.int (c : Int))) (rd_ix (d := .int (ns.getD c 0)) (.inl rfl) (atI_nat (at_int hc2)))) evp_int (rd_neD rfl rfl))
      · intro k a y Hn hk em ry _
        exact evp_var rfl (.int (k : Int))
      · rw [List.length_map]
      subst p6
      have G6 := (gm.trans g4).trans g6
      cases hled : ledOf left c with
      | none =>
        rw [led_filter0 hled] at r6
        refine st_ifL (b := !true) (etp_test (K := K) (EvP.is (evd_op (evp_var rfl r6) (evd_lst eas_nil) (rd_neD rfl rfl)) (by rw [eqv_nil]; rfl))) g6.sub (fun h => by cases h) fun _ Hk7 H7 g7 => ?_
        have kn := (g4.trans g6).trans g7
        exact ⟨Hk7, G6.trans g7, vl, vd, left, leads, _, _, _, _, _, rl.mono kn.known, rd.mono kn.known, linv_skip hI hcw hled, rfl⟩
      | some i =>
        obtain ⟨rest, hfil⟩ := led_filter hled
        rw [hfil] at r6
        obtain ⟨head, hhead, hI'⟩ := linv_lead hI hcw hled
        have hhm : head ∈ left := List.mem_of_getElem? hhead
        have hil : i < left.length := (List.getElem?_eq_some_iff.mp hhead).1
        have hk8 : leads.length ≤ 8 := by
          have := hI.len
          omega
        have hbits := (bits_le hk8).2
        have up : ∀ {n : Int}, n.natAbs < 2 ^ bits leads.length → n.natAbs < 2 ^ (4400 : Nat) := fun h => Nat.lt_of_lt_of_le h (Nat.pow_le_pow_right (by decide) hbits)
        have hhw := hI.wid head hhm
        refine st_ifL (b := !false) (etp_test (K := K) (EvP.is (evd_op (evp_var rfl r6) (evd_lst eas_nil) (rd_neD (shaped_nats (i :: rest)) rfl)) (by rw [eqv_nil]; rfl))) g6.sub (fun _ Hk7 H7 g7 => ?_) (fun h => by cases h)
        have r67 := r6.mono g7.known
        have rl7 := rl4.mono (g6.trans g7).known
        have rd7 := rd4.mono (g6.trans g7).known
        have some0 : ∀ {σ' : L2.St} {Hn : Hp}, σ'[6]? = some (some v6) → Ex Hk7 Hn → EvD K (tOp (rIx K) (tVar 6) (tC (.int 0))) σ' Hn (.int (i : Int)) := fun h e => evd_op (evp_var h (r67.mono e)) evp_int (rd_ix (d := .int (i : Int)) (.inl rfl) (atI_nat (j := 0) rfl))
        refine st_set (K := K) (evd_op (evp_var rfl rl7) (some0 rfl (Ex.refl _)) (rd_ix (d := lstI head) (.inl rfl) (atI_nat (j := i) (by rw [List.getElem?_map, hhead]; rfl)))) g7.sub fun v8 d8 Hk8 H8 g8 r8 p8 => ?_
        subst p8
        have lessE : ∀ {σ' : L2.St} {Hn : Hp} {ro : List Int} {tr : TE}, EvD K tr σ' Hn (lstI ro) → σ'[8]? = some (some v8) → σ'[5]? = some (some (.int (c : Int))) → Ex Hk8 Hn → ro.length = w → (∀ n ∈ ro, n.natAbs < 2 ^ bits leads.length) →
            EvD K (tCall (spD3 K lessPre lessPost) [] E0 (tCons tr (tCons (tVar 8) (tCons (tVar 5) tNil)))) σ' Hn (lstI (lessL ro head c)) := fun {σ' Hn ro tr} h1 h2 h3 e hl hb =>
          EvP.weak (evd_D3 h1 (evp_var h2 (r8.mono e)) (evp_var h3 (.int (c : Int))) ⟨ro, head, c, rfl, rfl, rfl, by rw [hl, hhw.1], by rw [hl]; exact hcw, by rw [hl]; omega, fun n hn => up (hb n hn), fun n hn => up (hhw.2 n hn)⟩) fun z e => by
            have e' : z = lstI (lessL (intsOf (lstI ro)) (intsOf (lstI head)) c) := e
            rw [intsOf_l, intsOf_l] at e'
            exact e'
        have rl8 := rl7.mono g8.known
        have rd8 := rd7.mono g8.known
        have hcl : (left.take i ++ left.drop (i + 1)).map lstI = cutG (left.map lstI) none (some ((i : Nat) : Int)) ++ cutG (left.map lstI) (some ((i + 1 : Nat) : Int)) none := by
          rw [cutG_to, cutG_from, List.map_append, List.map_take, List.map_drop]
        have hcn : (cutG (left.map lstI) none (some ((i : Nat) : Int))).length + (cutG (left.map lstI) (some ((i + 1 : Nat) : Int)) none).length ≤ 100000 := by
          rw [cutG_to, cutG_from, List.length_take, List.length_drop, List.length_map]
          omega
        have hsub : ∀ ro ∈ left.take i ++ left.drop (i + 1), ro ∈ left := fun ro hr => by
          rcases List.mem_append.mp hr with hr | hr
          · exact List.mem_of_mem_take hr
          · exact List.mem_of_mem_drop hr
        refine st_set (K := K) (P := (· = lstR ((left.take i ++ left.drop (i + 1)).map fun r => lessL r head c))) (EvP.is (evd_mapL (ds := (left.take i ++ left.drop (i + 1)).map lstI) (g := fun d => lstI (lessL (intsOf d) head c)) (EvP.is (evd_op (evd_sl (l := none) (u := some ((i : Nat) : Int)) (ds := left.map lstI) (evp_var rfl rl8) (.inl ⟨rfl, rfl⟩) eo_none (eo_evd (some0 rfl g8.known)))
          (evd_sl (l := some ((i + 1 : Nat) : Int)) (u := none) (ds := left.map lstI) (evp_var rfl rl8) (.inl ⟨rfl, rfl⟩) (eo_evd (EvP.is (evd_op (some0 rfl g8.known) evp_int rd_add) (congrArg PyData.int (Int.natCast_succ i).symm))) eo_none) (rd_catS hcn)) (congrArg PyData.list hcl.symm)) ?_ (fun _ => rfl) ?_) ?_) g8.sub fun v9 d9 Hk9 H9 g9 r9 p9 => ?_
        · rw [List.length_map, List.length_append, List.length_take, List.length_drop]
          omega
        · intro k d y Hn hk em ry
          obtain ⟨ro, hro, rfl⟩ := List.mem_map.mp (List.mem_of_getElem? hk)
          have h := hI.wid ro (hsub ro hro)
          refine EvP.is (lessE (evp_var rfl ry) rfl rfl em h.1 h.2) ?_
          show _ = lstI (lessL (intsOf (lstI ro)) head c)
          rw [intsOf_l]
        · refine congrArg PyData.list ?_
          rw [List.map_map, List.map_map]
          refine List.map_congr_left fun ro _ => ?_
          show lstI (lessL (intsOf (lstI ro)) head c) = lstI (lessL ro head c)
          rw [intsOf_l]
        subst p9
        have rd9 := rd8.mono g9.known
        refine st_setL (K := K) (P := (· = ldsD ((leads.map fun p => (p.1, lessL p.2 head c)) ++ [(c, head)]))) (EvP.is (evd_op (evd_mapP (ps := leads.map pairD) (g := fun p => .tuple [p.1, lstI (lessL (intsOf p.2) head c)]) (evp_var rfl rd9) ?_ (fun _ _ => rfl) ?_) (evd_lst (eas1 (evd_tup (eas1 (evp_var rfl (.int (c : Int))) (eas1 (evp_var rfl (r8.mono g9.known)) eas_nil))) eas_nil)) (rd_catS ?_)) ?_) g9.sub fun v10 d10 Hk10 H10 g10 r10 p10 => ?_
        · rw [List.length_map]
          omega
        · intro k pr y1 y2 Hn hk em ry1 ry2
          obtain ⟨pl, hpl, rfl⟩ : ∃ pl, pl ∈ leads ∧ pr = pairD pl := by
            obtain ⟨pl, h1, h2⟩ := List.mem_map.mp (List.mem_of_getElem? hk)
            exact ⟨pl, h1, h2.symm⟩
          have h := hI.lds pl hpl
          refine evd_tup (eas1 (evp_var rfl ry1) (eas1 (EvP.is (lessE (evp_var rfl ry2) rfl rfl (g9.known.trans em) h.1 h.2) ?_) eas_nil))
          show _ = lstI (lessL (intsOf (lstI pl.2)) head c)
          rw [intsOf_l]
        · rw [List.length_map, List.length_map]
          show leads.length + 1 ≤ 100000
          omega
        · refine congrArg PyData.list ?_
          rw [List.map_append, List.map_append, List.map_map, List.map_map, List.map_map]
          refine congrArg (· ++ _) (List.map_congr_left fun pl _ => ?_)
          show PyData.tuple [PyData.int (pl.1 : Int), lstI (lessL (intsOf (lstI pl.2)) head c)] = PyData.tuple [PyData.int (pl.1 : Int), lstI (lessL pl.2 head c)]
          rw [intsOf_l]
        · subst p10
          have kn := (((g7.trans g8).trans g9).trans g10)
          exact ⟨Hk10, G6.trans kn, v9, v10, _, _, _, _, _, _, _, r9.mono g10.known, r10, hI', rfl⟩
    · rintro Hb Hc σ2 Hm H3 gb gm ⟨vl, vd, left, leads, s4, s5, s6, s7, s8, rl, rd, hI, rfl⟩
      have hI' : LInv w w rows left leads := by
        have e : ((w : Int)).toNat = w := Int.toNat_natCast w
        rw [e] at hI
        exact hI
      refine st_ret (evp_var rfl rd) gm.sub fun u z Hk9 H9 g9 r9 p9 => q' u z Hk9 H9 (((g.trans gb).trans gm).trans g9) r9 ⟨_, p9, ?_⟩
      rw [List.length_map, List.length_map]
      exact linv_end hI' fun r h => (hr r h).1
theorem ok__law_rank (T : Tx K mg) : FnOk P w K mg base CX0 5 T.a__law_rank T.d__law_rank ["_law_rows"] (spD1 K (fun d => ∃ (rows : List (List Int)) (w : Nat), d = lstR rows ∧ w ≤ 28 ∧ rows.length ≤ 9 ∧ ∀ r ∈ rows, r.length = w ∧ ∀ n ∈ r, n.natAbs < 2 ^ (16 : Nat)) (fun d z => ∃ k : Nat, z = .int (k : Int) ∧ IsRank ((rowsOf d).map at') k)) := by
  refine T.F__law_rank.ok sc__law_rank (fun vs H1 Q E h => ?_) (fun cdv A outer s H1 vs Q E hr h => ?_)
  · obtain ⟨H, v, d, rfl, _⟩ := h
    rfl
  · obtain ⟨H, v, d, rfl, ex, r, p, q⟩ := h
    refine ⟨_, (pss_one (ps_ret (pe_ifExp (pt_cmpR (kNe (K := K) rfl (hu64 hr)) (pv 0) (pe_lst pa_nil) (nomark _)) (pe_callB (kLen (K := K) rfl) (by rfl) T.n_len (by decide +kernel) (pa_cons (pe_call (ok__law_leads T) (hr.mono (by decide)) (by rfl) T.g__law_leads T.F__law_leads.kp T.b__law_leads .nil pass0 (pa_cons (pv 0) (pa_cons (pe_callB (kLen (K := K) rfl) (by rfl) T.n_len (by decide +kernel) (pa_cons (pe_ix (kIx (K := K) rfl) (pv 0) pe_int (fun _ _ => rfl)) pa_nil)) pa_nil))) pa_nil)) pe_int))), ?_⟩
    try dsimp only [cxOf]
    obtain ⟨rows, w, rfl, hw, h9, hr⟩ := p
    refine st_ret (evp_if (b := !(rows.map lstI).isEmpty) (P := fun z => ∃ k : Nat, z = .int (k : Int) ∧ IsRank (rows.map at') k) (etp_test (EvP.is (evd_op (evp_var rfl r) (evd_lst eas_nil) (rd_neD (shaped_lstR rows) rfl)) ?_)) (fun hb => ?_) (fun hb => ?_)) ex fun u z Hk H2 g r p => q u z Hk H2 g r ?_
    · rw [eqv_nil]
    · have hne : rows ≠ [] := fun e => by subst e; cases hb
      obtain ⟨r0, hr0⟩ : ∃ r0, rows[0]? = some r0 := ⟨rows[0]'(List.length_pos_iff.mpr hne), List.getElem?_eq_getElem _⟩
      refine evp_cb1 (evd_D2 (evp_var rfl r) (EvP.is (evd_cb (eas1 (evd_op (evp_var rfl r) evp_int (rd_ix (d := lstI r0) (.inl rfl) (atI_nat (j := 0) (by rw [List.getElem?_map, hr0]; rfl)))) eas_nil) (rc_len rfl)) (by rw [List.length_map, (hr r0 (List.mem_of_getElem? hr0)).1])) ⟨rows, w, rfl, rfl, hw, h9, hr⟩) ?_
      rintro d ⟨ds, rfl, hk⟩
      refine RCD.weak (rc_len rfl) fun z e => ⟨ds.length, e, ?_⟩
      have h : IsRank ((rowsOf (lstR rows)).map at') ds.length := hk
      rw [rowsOf_l] at h
      exact h
    · have he : rows = [] := by
        cases rows with
        | nil => rfl
        | cons _ _ => cases hb
      subst he
      exact EvP.weak evp_int fun z e => ⟨0, e, rank_nil⟩
    · show ∃ k : Nat, z = .int (k : Int) ∧ IsRank ((rowsOf (lstR rows)).map at') k
      rw [rowsOf_l]
      exact p

theorem in_ints {L : List PyData} {P : Int → Prop} (h : ∀ z ∈ L, ∃ n, z = PyData.int n ∧ P n) : ∀ z, z ∈ L → ∃ n, z = PyData.int n ∧ P n := h

theorem ok__law_factor (T : Tx K mg) : FnOk P w K mg base CX0 3 T.a__law_factor T.d__law_factor ["_law_bag_here"] (spB0 K (fun z => ∃ f : Int, z = .int f ∧ f ≠ 0 ∧ f.natAbs ≤ 7 * 10 ^ (100 : Nat))) := by
  refine T.F__law_factor.ok sc__law_factor (fun vs H1 Q E h => ?_) (fun cdv A outer s H1 vs Q E hr h => ?_)
  · obtain ⟨H, b, rfl, _⟩ := h
    rfl
  · obtain ⟨H, b, rfl, ex, hb, q⟩ := h
    refine ⟨_, (pss_cons (ps_set (i := 1) sc__law_factor.nd rfl (by first | exact Or.inl rfl | exact Or.inr rfl) (pe_call (ok__law_one_of T) (hr.mono (by decide)) (by rfl) T.g__law_one_of T.F__law_one_of.kp T.b__law_one_of .nil pass0 (pa_cons (pv 0) (pa_cons (pe_lst (pa_cons pe_int (pa_cons pe_int (pa_cons pe_int (pa_cons pe_int (pa_cons pe_int (pa_cons pe_int (pa_cons pe_int pa_nil)))))))) pa_nil))))
      (pss_cons (ps_set (i := 2) sc__law_factor.nd rfl (by first | exact Or.inl rfl | exact Or.inr rfl) (pe_call (ok__law_one_of T) (hr.mono (by decide)) (by rfl) T.g__law_one_of T.F__law_one_of.kp T.b__law_one_of .nil pass0 (pa_cons (pv 0) (pa_cons (pe_lst (pa_cons pe_int (pa_cons pe_int (pa_cons (pe_un un_neg pe_int) (pa_cons pe_int (pa_cons (pe_un un_neg pe_int) (pa_cons pe_int pa_nil))))))) pa_nil))))
      (pss_one (ps_ret (pe_ifExp (pt_cmpR (kEq (K := K) rfl (hu64 hr)) (pv 1) pe_int (nomark _)) (pe_op (kMul (K := K) rfl) (pe_op (kMul (K := K) rfl) (pv 2) (pe_op op_powW pe_int pe_int)) (pe_op op_powW pe_int pe_int)) (pe_ifExp (pt_cmpR (kEq (K := K) rfl (hu64 hr)) (pv 1) pe_int (nomark _)) (pe_op (kMul (K := K) rfl) (pe_op (kMul (K := K) rfl) (pv 2) (pe_op op_powW pe_int pe_int)) (pe_op op_powW pe_int pe_int)) (pv 2))))))), ?_⟩
    try dsimp only [cxOf]
    refine st_set (P := fun z => ∃ n : Int, z = .int n) (EvP.weak (evp_pick rfl hb (evd_lst (eas1 evp_int (eas1 evp_int (eas1 evp_int (eas1 evp_int (eas1 evp_int (eas1 evp_int (eas1 evp_int eas_nil)))))))) (by intro h; cases h) (by show 7 ≤ 100000; decide)) ?_) ex fun v1 d1 Hk1 H2 g1 r1 p1 => ?_
    · intro z hz
      simp only [items, List.mem_cons, List.not_mem_nil, or_false] at hz
      rcases hz with rfl | rfl | rfl | rfl | rfl | rfl | rfl <;> exact ⟨_, rfl⟩
    obtain ⟨m, rfl⟩ := p1
    have hb1 := g1.known _ _ hb
    refine st_set (P := fun z => ∃ n : Int, z = .int n ∧ n ≠ 0 ∧ -7 ≤ n ∧ n ≤ 7) (EvP.weak (evp_pick rfl hb1 (evd_lst (eas1 evp_int (eas1 evp_int (eas1 (evd_neg evp_int) (eas1 evp_int (eas1 (evd_neg evp_int) (eas1 evp_int eas_nil))))))) (by intro h; cases h) (by show 6 ≤ 100000; decide)) ?_) g1.sub fun v2 d2 Hk2 H3 g2 r2 p2 => ?_
    · intro z hz
      simp only [items, List.mem_cons, List.not_mem_nil, or_false] at hz
      rcases hz with rfl | rfl | rfl | rfl | rfl | rfl <;> exact ⟨_, rfl, by decide, by decide, by decide⟩
    obtain ⟨n, rfl, hn0, hn1, hn2⟩ := p2
    have r12 := r1.mono g2.known
    have hsm : IntMulOk n (10 ^ (30 : Nat)) := .of_left (intBits_le_64 (by omega) (by omega))
    have hsm2 : IntMulOk n (10 ^ (50 : Nat)) := .of_left (intBits_le_64 (by omega) (by omega))
    have mid : ∀ k : Nat, k ≤ 50 → Mid (n * 10 ^ k) ∧ Mid (10 ^ k) := fun k hk => by
      have e : ((10 : Int) ^ k).natAbs = 10 ^ k := by rw [Int.natAbs_pow]; rfl
      have h1 : 10 ^ k ≤ 10 ^ (50 : Nat) := Nat.pow_le_pow_right (by decide) hk
      have h2 : (10 : Nat) ^ (50 : Nat) ≤ 2 ^ (200 : Nat) := by decide +kernel
      have h3 : (2 : Nat) ^ (200 : Nat) * 8 < 2 ^ (9000 : Nat) := by
        rw [show (8 : Nat) = 2 ^ (3 : Nat) from rfl, ← Nat.pow_add]
        exact Nat.pow_lt_pow_right (by decide) (by decide)
      refine ⟨?_, ?_⟩
      · show (n * 10 ^ k).natAbs < _
        rw [Int.natAbs_mul, e]
        have h4 : n.natAbs * 10 ^ k ≤ 8 * 2 ^ (200 : Nat) := Nat.mul_le_mul (by omega) (Nat.le_trans h1 h2)
        omega
      · show ((10 : Int) ^ k).natAbs < _
        rw [e]
        omega
    have fin : ∀ k : Nat, k ≤ 50 → n * 10 ^ k * 10 ^ k ≠ 0 ∧ (n * 10 ^ k * 10 ^ k).natAbs ≤ 7 * 10 ^ (100 : Nat) := fun k hk => by
      have e : ((10 : Int) ^ k).natAbs = 10 ^ k := by rw [Int.natAbs_pow]; rfl
      have hz : (10 : Int) ^ k ≠ 0 := fun z => by
        have : 0 < 10 ^ k := Nat.pow_pos (by decide)
        rw [z] at e
        have e2 : 0 = 10 ^ k := e
        omega
      refine ⟨Int.mul_ne_zero (Int.mul_ne_zero hn0 hz) hz, ?_⟩
      rw [Int.natAbs_mul, Int.natAbs_mul, e, Nat.mul_assoc, ← Nat.pow_add]
      exact Nat.mul_le_mul (by omega) (Nat.pow_le_pow_right (by decide) (by omega))
    refine st_ret (evp_if (P := fun z => ∃ f : Int, z = .int f ∧ f ≠ 0 ∧ f.natAbs ≤ 7 * 10 ^ (100 : Nat)) (etp_test (evd_op (evp_var rfl r12) evp_int (rd_eqD rfl rfl))) (fun _ => ?_) (fun _ => evp_if (etp_test (evd_op (evp_var rfl r12) evp_int (rd_eqD rfl rfl))) (fun _ => ?_) (fun _ => ?_))) g2.sub fun u z Hk9 H9 g9 r9 p9 => q u z Hk9 H9 ((g1.trans g2).trans g9) r9 p9
    · exact EvP.weak (evd_op (evd_op (evp_var rfl r2) (evd_op evp_int evp_int (rd_pow ⟨by decide, by decide⟩)) (rd_mul hsm)) (evd_op evp_int evp_int (rd_pow ⟨by decide, by decide⟩)) (rd_mul (Mid.mul (mid 30 (by decide)).1 (mid 30 (by decide)).2))) fun z e => ⟨_, e, fin 30 (by decide)⟩
    · exact EvP.weak (evd_op (evd_op (evp_var rfl r2) (evd_op evp_int evp_int (rd_pow ⟨by decide, by decide⟩)) (rd_mul hsm2)) (evd_op evp_int evp_int (rd_pow ⟨by decide, by decide⟩)) (rd_mul (Mid.mul (mid 50 (by decide)).1 (mid 50 (by decide)).2))) fun z e => ⟨_, e, fin 50 (by decide)⟩
    · refine EvP.weak (evp_var rfl r2) fun z e => ⟨n, e, hn0, ?_⟩
      have : 0 < 10 ^ (100 : Nat) := Nat.pow_pos (by decide)
      have h7 : n.natAbs ≤ 7 := by omega
      exact Nat.le_trans h7 (Nat.le_mul_of_pos_right 7 this)

theorem withF_snoc {fs : List Int} {rows : List R} {i : Nat} {f : Int} {r : R} (hl : fs.length = i) (hr : rows[i]? = some r) : withF (fs ++ [f]) (rows.take (i + 1)) = withF fs (rows.take i) ++ [r.map (f * ·)] := by
  have hi : i < rows.length := (List.getElem?_eq_some_iff.mp hr).1
  unfold withF
  rw [List.take_add_one, hr, List.zipWith_append (by rw [hl, List.length_take]; omega)]
  rfl

theorem ok__law_with_factors (T : Tx K mg) : FnOk P w K mg base CX0 4 T.a__law_with_factors T.d__law_with_factors ["_law_bag_here", "_law_rows"] (spB1 K (fun d => ∃ rows : List (List Int), d = lstR rows ∧ rows.length ≤ 9 ∧ ∀ r ∈ rows, r.length ≤ 28 ∧ ∀ n ∈ r, n.natAbs < 2 ^ (16 : Nat)) (fun d z => ∃ fs : List Int, fs.length = (rowsOf d).length ∧ (∀ f ∈ fs, f ≠ 0 ∧ f.natAbs ≤ 7 * 10 ^ (100 : Nat)) ∧ z = tupR (withF fs (rowsOf d)))) := by
  refine T.F__law_with_factors.ok sc__law_with_factors (fun vs H1 Q E h => ?_) (fun cdv A outer s H1 vs Q E hr h => ?_)
  · obtain ⟨H, b, v, d, rfl, _⟩ := h
    rfl
  · obtain ⟨H, b, v, d, rfl, ex, hb, r, p, q⟩ := h
    refine ⟨_, (pss_cons (ps_set (i := 2) sc__law_with_factors.nd rfl (by first | exact Or.inl rfl | exact Or.inr rfl) (pe_lst pa_nil))
      (pss_cons (ps_for PassesOwn.never rfl (kpList (K := K) rfl (pv 1)) (pg_name (i := 3) sc__law_with_factors.nd rfl (by first | exact Or.inl rfl | exact Or.inr rfl)) (pss_cons (ps_set (i := 4) sc__law_with_factors.nd rfl (by first | exact Or.inl rfl | exact Or.inr rfl) (pe_call (ok__law_factor T) (hr.mono (by decide)) (by rfl) T.g__law_factor T.F__law_factor.kp T.b__law_factor .nil pass0 (pa_cons (pv 0) pa_nil)))
      (pss_one (ps_expr (pe_bm PySem.F.plainAttrs_list PySem.F.slot_list_append PySem.F.type_list_append mt_append (pv 2) (pa_cons (pe_callTy (kTup (K := K) rfl) (by rfl) T.n_tuple (by decide +kernel) (pa_cons (pe_lc (own := [("_law_one", 5)]) (g := (gName 5)) rfl sc__law_with_factors.nd (kpList (K := K) rfl (pv 3)) (blkOk_by (N := ["_law_bag_here", "_law_rows", "_law_found", "_law_row", "_law_factor_here", "_law_one"]) (sc := defScope s__law_with_factors) (by decide +kernel)) (fun _ _ _ _ _ => (pg_name (i := 5) sc__law_with_factors.nd rfl (by first | exact Or.inl rfl | exact Or.inr rfl))) (fun _ _ _ _ _ => pts_nil) (fun _ _ _ _ _ => (pe_op (kMul (K := K) rfl) (pv 4) (pv 5)))) pa_nil)) pa_nil))))))
      (pss_one (ps_ret (pe_callTy (kTup (K := K) rfl) (by rfl) T.n_tuple (by decide +kernel) (pa_cons (pv 2) pa_nil)))))), ?_⟩
    try dsimp only [cxOf]
    obtain ⟨rows, rfl, h9, hr⟩ := p
    have q' : ∀ u z Hk H2, Grow H H1 Hk H2 → Rp K Hk u z → (∃ fs : List Int, fs.length = rows.length ∧ (∀ f ∈ fs, f ≠ 0 ∧ f.natAbs ≤ 7 * 10 ^ (100 : Nat)) ∧ z = tupR (withF fs rows)) → Q u H2 := fun u z Hk H2 g r e => q u z Hk H2 g r (by
      show ∃ fs : List Int, fs.length = (rowsOf (lstR rows)).length ∧ (∀ f ∈ fs, f ≠ 0 ∧ f.natAbs ≤ 7 * 10 ^ (100 : Nat)) ∧ z = tupR (withF fs (rowsOf (lstR rows)))
      rw [rowsOf_l]
      exact e)
    refine st_newList (eas_nil (K := K) (H := H)) (fun ds e => by subst e; exact Nat.zero_le _) ex fun p vs ds Hk0 H2 g0 rvs e0 n1 n2 n3 => ?_
    subst e0
    cases rvs
    refine st_forX (walkd_list (evp_var rfl (r.mono g0.known))) g0.sub fun Hka H3a ga => ⟨fun i σ Hm H3 => Ex Hka Hm ∧ Grow H H1 Hm H3 ∧ ∃ us fs s3 s4, Hm p = none ∧ H3 p = some (.lst us) ∧ RpAll K Hm us ((withF fs (rows.take i)).map tupI) ∧ fs.length = i ∧ (∀ f ∈ fs, f ≠ 0 ∧ f.natAbs ≤ 7 * 10 ^ (100 : Nat)) ∧ σ = [some (.ref b), some v, some (.ref p), s3, s4, none],
      fun i σ2 Hm H3 h => ⟨h.1, h.2.1.sub⟩, ⟨Ex.refl _, g0.trans ga, [], [], none, none, ga.unk n1 n2, ga.all _ _ n2, .nil, rfl, (fun f hf => nomatch hf), rfl⟩, ?_, ?_⟩
    · rintro i x σ2 Hm H3 Hm' H4 hi ⟨ka, gm, us, fs, s3, s4, m1, m2, rus, hfl, hfs, rfl⟩ g4 ⟨d, hd, rd⟩
      obtain ⟨ro, hro, rfl⟩ : ∃ ro, rows[i]? = some ro ∧ d = lstI ro := by
        rw [List.getElem?_map] at hd
        cases e : rows[i]? with
        | none =>
          rw [e] at hd
          cases hd
        | some ro =>
          rw [e] at hd
          exact ⟨ro, rfl, (Option.some.inj hd).symm⟩
      have hrr := hr ro (List.mem_of_getElem? hro)
      refine gn ?_
      have hb4 := ((gm.trans g4).known) _ _ hb
      refine st_set (evp_B0 rfl hb4) g4.sub fun v5 d5 Hk5 H5 g5 r5 p5 => ?_
      obtain ⟨f, rfl, hf0, hf1⟩ := p5
      have rd5 := rd.mono g5.known
      have hfm : Mid f := Nat.lt_of_le_of_lt hf1 (by
        have h2 : (10 : Nat) ^ (100 : Nat) ≤ 2 ^ (400 : Nat) := by decide +kernel
        have h3 : (2 : Nat) ^ (400 : Nat) * 8 < 2 ^ (9000 : Nat) := by
          rw [show (8 : Nat) = 2 ^ (3 : Nat) from rfl, ← Nat.pow_add]
          exact Nat.pow_lt_pow_right (by decide) (by decide)
        omega)
      have g45 := g4.trans g5
      have hm5 : Hk5 p = none := g45.unk m1 m2
      have hp5 := g45.all _ _ m2
      have hul : us.length ≤ 9 := by
        rw [rus.len, List.length_map]
        unfold withF
        rw [List.length_zipWith, List.length_take]
        omega
      refine st_appendL (P := (· = tupI (ro.map (f * ·)))) rfl (EvP.weak (evp_cb1 (evd_mapL (ds := ro.map PyData.int) (g := fun d => .int (f * intOf d)) (evp_var rfl rd5) (by rw [List.length_map]; omega) (fun _ => rfl) ?_) fun d e => by subst e; exact rc_tuple (.inl rfl)) ?_) g5.sub hm5 hp5 (by omega) fun v6 d6 Hk6 H6 g6 r6 p6 l1 l2 => ?_
      · intro k d x Hn hk em rx
        obtain ⟨n, hn, rfl⟩ := mem_int hk
        exact evd_op (evp_var rfl (r5.mono em)) (evp_var rfl rx) (rd_mul (hfm.mul (Nat.lt_trans (hrr.2 n hn) (Nat.pow_lt_pow_right (by decide) (by decide)))))
      · intro z e
        rw [e]
        show PyData.tuple _ = PyData.tuple ((ro.map (f * ·)).map .int)
        rw [List.map_map, List.map_map]
        rfl
      · subst p6
        have kn := g45.trans g6
        refine ⟨Hk6, ka.trans kn.known, grow_mut (gm.trans kn) l1 n3, us ++ [v6], fs ++ [f], _, _, l1, upd_same, ?_, by rw [List.length_append, hfl]; rfl, fun f' hf' => ?_, rfl⟩
        · rw [withF_snoc hfl hro, List.map_append]
          exact (rus.mono kn.known).append (.cons r6 .nil)
        · rcases List.mem_append.mp hf' with h | h
          · exact hfs f' h
          · obtain rfl := List.mem_singleton.mp h
            exact ⟨hf0, hf1⟩
    · rintro σ2 Hm H3 ⟨ka, G, us, fs, s3, s4, m1, m2, rus, hfl, hfs, rfl⟩
      rw [List.length_map] at hfl rus
      rw [List.take_length] at rus
      obtain ⟨hex, hrl⟩ := held G.sub m1 m2 rus
      refine st_ret (evd_cb (eas1 (evp_var rfl hrl) eas_nil) (rc_tuple (.inl rfl))) hex fun u z Hk9 H9 g9 r9 p9 => q' u z Hk9 H9 (grow_held G m1 m2 n3 g9) r9 ⟨fs, hfl, hfs, p9⟩

theorem pow3 {x : Nat} (h : x ≤ 9) : 3 ^ x < 2 ^ (15 : Nat) := Nat.lt_of_le_of_lt (Nat.pow_le_pow_right (by decide) h) (by decide)

theorem ok__law_drawn_rows (T : Tx K mg) : FnOk P w K mg base CX0 3 T.a__law_drawn_rows T.d__law_drawn_rows ["_law_bag_here", "_law_width"] (spB1 K (fun d => ∃ w : Nat, d = .int (w : Int) ∧ 1 ≤ w ∧ w ≤ 28) (fun d z => ∃ rows : List (List Int), z = lstR rows ∧ rows.length ≤ 9 ∧ ∀ r ∈ rows, (r.length : Int) = intOf d ∧ ∀ n ∈ r, n.natAbs < 2 ^ (15 : Nat))) := by
  refine T.F__law_drawn_rows.ok sc__law_drawn_rows (fun vs H1 Q E h => ?_) (fun cdv A outer s H1 vs Q E hr h => ?_)
  · obtain ⟨H, b, v, d, rfl, _⟩ := h
    rfl
  · obtain ⟨H, b, v, d, rfl, ex, hb, r, p, q⟩ := h
    refine ⟨_, (pss_cons (ps_set (i := 2) sc__law_drawn_rows.nd rfl (by first | exact Or.inl rfl | exact Or.inr rfl) (pe_lst pa_nil))
      (pss_cons (ps_for PassesOwn.never rfl (pi_range1 (by rfl) T.n_range (pa_cons (pe_call (ok__law_draw T) (hr.mono (by decide)) (by rfl) T.g__law_draw T.F__law_draw.kp T.b__law_draw .nil pass0 (pa_cons (pv 0) (pa_cons pe_int pa_nil))) pa_nil)) (pg_name (i := 3) sc__law_drawn_rows.nd rfl (by first | exact Or.inl rfl | exact Or.inr rfl)) (pss_cons (ps_set (i := 4) sc__law_drawn_rows.nd rfl (by first | exact Or.inl rfl | exact Or.inr rfl) (pe_call (ok__law_draw T) (hr.mono (by decide)) (by rfl) T.g__law_draw T.F__law_draw.kp T.b__law_draw .nil pass0 (pa_cons (pv 0) (pa_cons pe_int pa_nil))))
      (pss_one (ps_if (PW.pt (pw_and (pt_cmpR (kNe (K := K) rfl (hu64 hr)) (pv 2) (pe_lst pa_nil) (nomark _)) (pw_and1 (pt_cmpR (kEq (K := K) rfl (hu64 hr)) (pv 4) pe_int (nomark _))))) (pss_cons (ps_par (i := 5) (j := 6) (by rfl) sc__law_drawn_rows.nd rfl rfl (by decide) rfl rfl (pa_cons (pe_call (ok__law_one_of T) (hr.mono (by decide)) (by rfl) T.g__law_one_of T.F__law_one_of.kp T.b__law_one_of .nil pass0 (pa_cons (pv 0) (pa_cons (pv 2) pa_nil))) (pa_cons (pe_call (ok__law_one_of T) (hr.mono (by decide)) (by rfl) T.g__law_one_of T.F__law_one_of.kp T.b__law_one_of .nil pass0 (pa_cons (pv 0) (pa_cons (pv 2) pa_nil))) pa_nil)) (by rfl))
      (pss_cons (ps_set (i := 7) sc__law_drawn_rows.nd rfl (by first | exact Or.inl rfl | exact Or.inr rfl) (pe_op op_sub (pe_call (ok__law_draw T) (hr.mono (by decide)) (by rfl) T.g__law_draw T.F__law_draw.kp T.b__law_draw .nil pass0 (pa_cons (pv 0) (pa_cons pe_int pa_nil))) pe_int))
      (pss_one (ps_expr (pe_bm PySem.F.plainAttrs_list PySem.F.slot_list_append PySem.F.type_list_append mt_append (pv 2) (pa_cons (pe_lc (own := [("_law_here", 8), ("_law_there", 9)]) (g := (gTup K 2 (gCons (gName 8) (gCons (gName 9) gNil)))) rfl sc__law_drawn_rows.nd (kpZip (K := K) rfl (by rfl) T.n_zip (pa_cons (pv 5) (pa_cons (pv 6) pa_nil))) (blkOk_by (N := ["_law_bag_here", "_law_width", "_law_found", "_law_turn", "_law_way", "_law_one", "_law_other", "_law_times", "_law_here", "_law_there", "_law_at"]) (sc := defScope s__law_drawn_rows) (by decide +kernel)) (fun _ _ _ _ _ => (kgTup (K := K) rfl rfl (pgs_cons (pg_name (i := 8) sc__law_drawn_rows.nd rfl (by first | exact Or.inl rfl | exact Or.inr rfl)) (pgs_cons (pg_name (i := 9) sc__law_drawn_rows.nd rfl (by first | exact Or.inl rfl | exact Or.inr rfl)) pgs_nil)))) (fun _ _ _ _ _ => pts_nil) (fun _ _ _ _ _ => (pe_op (kAdd (K := K) rfl) (pv 8) (pe_op (kMul (K := K) rfl) (pv 7) (pv 9))))) pa_nil)))))) (pss_one (ps_expr (pe_bm PySem.F.plainAttrs_list PySem.F.slot_list_append PySem.F.type_list_append mt_append (pv 2) (pa_cons (pe_lc (own := [("_law_at", 10)]) (g := (gName 10)) rfl sc__law_drawn_rows.nd (pi_range1 (by rfl) T.n_range (pa_cons (pv 1) pa_nil)) (blkOk_by (N := ["_law_bag_here", "_law_width", "_law_found", "_law_turn", "_law_way", "_law_one", "_law_other", "_law_times", "_law_here", "_law_there", "_law_at"]) (sc := defScope s__law_drawn_rows) (by decide +kernel)) (fun _ _ _ _ _ => (pg_name (i := 10) sc__law_drawn_rows.nd rfl (by first | exact Or.inl rfl | exact Or.inr rfl))) (fun _ _ _ _ _ => pts_nil) (fun _ _ _ _ _ => (pe_op (kMul (K := K) rfl) (pe_op op_sub (pe_call (ok__law_draw T) (hr.mono (by decide)) (by rfl) T.g__law_draw T.F__law_draw.kp T.b__law_draw .nil pass0 (pa_cons (pv 0) (pa_cons pe_int pa_nil))) pe_int) (pe_callTy call_int1 (by rfl) T.n_int (by decide +kernel) (pa_cons (pe_or (pe_cmpR (kEq (K := K) rfl (hu64 hr)) (pv 4) pe_int (nomark _)) (pe_one (pe_cmpR (kEq (K := K) rfl (hu64 hr)) (pe_call (ok__law_draw T) (hr.mono (by decide)) (by rfl) T.g__law_draw T.F__law_draw.kp T.b__law_draw .nil pass0 (pa_cons (pv 0) (pa_cons pe_int pa_nil))) pe_int (nomark _)))) pa_nil))))) pa_nil))))))))
      (pss_one (ps_ret (pv 2))))), ?_⟩
    try dsimp only [cxOf]
    obtain ⟨w, rfl, hw1, hw28⟩ := p
    cases r
    have q' : ∀ u z Hk H2, Grow H H1 Hk H2 → Rp K Hk u z → (∃ rows : List (List Int), z = lstR rows ∧ rows.length ≤ 9 ∧ ∀ r ∈ rows, r.length = w ∧ ∀ n ∈ r, n.natAbs < 2 ^ (15 : Nat)) → Q u H2 := fun u z Hk H2 g r ⟨rows, e1, e2, e3⟩ => q u z Hk H2 g r ⟨rows, e1, e2, fun r hr => ⟨Int.ofNat_inj.mpr (e3 r hr).1, (e3 r hr).2⟩⟩
    refine st_newList (eas_nil (K := K) (H := H)) (fun ds e => by subst e; exact Nat.zero_le _) ex fun p vs ds Hk0 H2 g0 rvs e0 n1 n2 n3 => ?_
    subst e0
    cases rvs
    have hb0 := g0.known _ _ hb
    refine st_forRP (evp_drawn rfl hb0 evp_int (by decide) (by decide)) (fun d ⟨n, e, h0, h1⟩ => ⟨n, e, h0, by omega⟩) g0.sub (fun x σ2 H3 => ∃ Hm us rows s3 s4 s5 s6 s7 s8 s9 s10, Grow H H1 Hm H3 ∧ Hm p = none ∧ H3 p = some (.lst us) ∧ RpAll K Hm us ((rows : List (List Int)).map lstI) ∧ rows.length = x ∧ (∀ r ∈ rows, r.length = w ∧ ∀ n ∈ r, n.natAbs ≤ 3 ^ x) ∧
        σ2 = [some (.ref b), some (.int (w : Int)), some (.ref p), s3, s4, s5, s6, s7, s8, s9, s10])
      (fun Hk H2 g => ⟨Hk, [], [], _, _, _, _, _, _, _, _, g0.trans g, g.unk n1 n2, g.all _ _ n2, .nil, rfl, (fun r hr => nomatch hr), rfl⟩) ?_ ?_
    · rintro n ⟨n', en, hn0, hn1⟩ x σ2 H3 hx ⟨Hm, us, rows, s3, s4, s5, s6, s7, s8, s9, s10, gm, m1, m2, rus, hlen, hrows, rfl⟩
      cases en
      have hx9 : x ≤ 8 := by omega
      have hbm := gm.known _ _ hb
      have hul : us.length = x := by rw [rus.len, List.length_map, hlen]
      refine st_set (K := K) (evp_drawn rfl hbm evp_int (by decide) (by decide)) gm.sub fun v4 d4 Hk4 H4 g4 r4 p4 => ?_
      obtain ⟨way, rfl, _, _⟩ := p4
      cases r4
      have G4 := gm.trans g4
      have m14 := g4.unk m1 m2
      have m24 := g4.all _ _ m2
      have rus4 := rus.mono g4.known
      obtain ⟨hex, hrl⟩ := held G4.sub m14 m24 rus4
      refine st_ifL (b := !(rows.map lstI).isEmpty && PyData.eqv (.int way) (.int 0)) (etp_and (etp_test (K := K) (EvP.is (evd_op (evp_var rfl hrl) (evd_lst eas_nil) (rd_neD (shaped_lstR rows) rfl)) (by rw [eqv_nil]))) fun _ => etp_test (K := K) (evd_op (evp_var rfl (.int way)) evp_int (rd_eqD rfl rfl))) hex (fun hb2 Hk5 H5 g5 => ?_) (fun _ Hk5 H5 g5 => ?_)
      · have hne : rows ≠ [] := fun e => by subst e; cases hb2
        obtain ⟨G5, em5, l15, m25⟩ := unheld G4 m14 m24 n3 g5
        have rus5 := rus4.mono em5
        obtain ⟨hex5, hrl5⟩ := held G5.sub l15 m25 rus5
        have hb5 : upd (less Hk5 p) p (.lst us) b = some (BagO b) := by
          have : less Hk5 p b = some (BagO b) := em5 _ _ (g4.known _ _ hbm)
          exact (Ex.new l15) _ _ this
        have hit : items (lstR rows) ≠ [] := fun e => hne (List.map_eq_nil_iff.mp e)
        have hil : (items (lstR rows)).length ≤ 100000 := by
          show (rows.map lstI).length ≤ _
          rw [List.length_map]
          omega
        refine st_par (P1 := fun z => z ∈ items (lstR rows)) (P2 := fun z => z ∈ items (lstR rows)) (evp_pick rfl hb5 (evp_var rfl hrl5) hit hil) (evp_pick rfl hb5 (evp_var rfl hrl5) hit hil) hex5 fun v6 v7 d6 d7 Hk6 H6 g6 r6 r7 p6 p7 => ?_
        obtain ⟨ra, hra, rfl⟩ := List.mem_map.mp p6
        obtain ⟨rb, hrb, rfl⟩ := List.mem_map.mp p7
        have hp6 : Hk6 p = some (.lst us) := g6.known _ _ upd_same
        have ne_of : ∀ r ∈ rows, r ≠ [] := fun r hr e => by
          have := (hrows r hr).1
          subst e
          simp at this
          omega
        have r6' := row_less r6 hp6 (ne_of ra hra) (refs_rows rus)
        have r7' := row_less r7 hp6 (ne_of rb hrb) (refs_rows rus)
        obtain ⟨G6, em6, l16, m26⟩ := unheld G5 l15 m25 n3 g6
        have hb6 := em6 _ _ (em5 _ _ (g4.known _ _ hbm))
        refine st_set (K := K) (P := fun z => ∃ t : Int, z = .int t ∧ -2 ≤ t ∧ t ≤ 2) (evp_op (P2 := (· = .int 2)) (evp_drawn rfl hb6 evp_int (by decide) (by decide)) evp_int ?_) G6.sub fun v8 d8 Hk8 H8 g8 r8 p8 => ?_
        · rintro d1 d2 ⟨k, rfl, h0, h1⟩ rfl
          exact RD.weak rd_I0 fun z e => ⟨_, e, by omega, by omega⟩
        · obtain ⟨t, rfl, ht1, ht2⟩ := p8
          have l18 := g8.unk l16 m26
          have m28 := g8.all _ _ m26
          have la := hrows ra hra
          have lb := hrows rb hrb
          have big : ∀ {n : Int}, n.natAbs ≤ 3 ^ x → Mid n := fun {n} h => Nat.lt_of_le_of_lt h (Nat.lt_trans (pow3 (by omega)) (Nat.pow_lt_pow_right (by decide) (by decide)))
          have hmt : Mid t := by
            show t.natAbs < _
            have h4 : t.natAbs < 4 := by omega
            exact Nat.lt_trans h4 (by rw [show (4 : Nat) = 2 ^ (2 : Nat) from rfl]; exact Nat.pow_lt_pow_right (by decide) (by decide))
          refine st_appendL (P := (· = lstI (List.zipWith (fun a b => a + t * b) ra rb))) rfl (EvP.is (evd_mapZ (ds := ra.map PyData.int) (es := rb.map PyData.int) (g := fun d => .int (intOf d.1 + t * intOf d.2)) (eas1 (evp_var rfl (r6'.mono g8.known)) (eas1 (evp_var rfl (r7'.mono g8.known)) eas_nil)) (.inl ⟨rfl, rfl⟩) (by rw [List.length_map]; omega) (fun _ _ => rfl) ?_) ?_) g8.sub l18 m28 (by omega) fun v9 d9 Hk9 H9 g9 r9 p9 l19 m29 => ?_
          · intro a c y1 y2 Hn hm em ry1 ry2
            obtain ⟨z1, z2⟩ := List.of_mem_zip hm
            obtain ⟨k1, hk1, rfl⟩ := List.mem_map.mp z1
            obtain ⟨k2, hk2, rfl⟩ := List.mem_map.mp z2
            exact evd_op (evp_var rfl ry1) (evd_op (evp_var rfl (r8.mono em)) (evp_var rfl ry2) (rd_mul (hmt.mul (big (lb.2 k2 hk2))))) rd_add
          · refine congrArg PyData.list (List.ext_getElem (by simp) fun k h1 h2 => ?_)
            simp [intOf]
          · subst p9
            have kn := (em5.trans em6).trans (g8.trans g9).known
            refine ⟨Hk9, us ++ [v9], rows ++ [List.zipWith (fun a b => a + t * b) ra rb], _, _, _, _, _, _, _, _, grow_mut ((G6.trans g8).trans g9) l19 n3, l19, upd_same, ?_, by rw [List.length_append, hlen]; rfl, fun ro hro => ?_, rfl⟩
            · rw [List.map_append]
              exact (rus4.mono kn).append (.cons r9 .nil)
            · rcases List.mem_append.mp hro with h | h
              · exact ⟨(hrows ro h).1, fun n hn => Nat.le_trans ((hrows ro h).2 n hn) (Nat.pow_le_pow_right (by decide) (Nat.le_succ x))⟩
              · obtain rfl := List.mem_singleton.mp h
                refine ⟨by rw [List.length_zipWith, la.1, lb.1]; exact Nat.min_self w, fun n hn => ?_⟩
                obtain ⟨i, hi, rfl⟩ := List.getElem_of_mem hn
                rw [List.getElem_zipWith]
                have hi' : i < ra.length ∧ i < rb.length := by
                  rw [List.length_zipWith] at hi
                  omega
                have h1 := la.2 _ (List.getElem_mem hi'.1)
                have h2 := lb.2 _ (List.getElem_mem hi'.2)
                have h3 : (t * rb[i]'hi'.2).natAbs ≤ 2 * 3 ^ x := by
                  rw [Int.natAbs_mul]
                  exact Nat.mul_le_mul (by omega) h2
                have h4 : 3 ^ (x + 1) = 3 ^ x * 3 := Nat.pow_succ ..
                omega
      · obtain ⟨G5, em5, l15, m25⟩ := unheld G4 m14 m24 n3 g5
        have rus5 := rus4.mono em5
        have hb5 := em5 _ _ (g4.known _ _ hbm)
        refine st_appendL (P := fun z => ∃ ns : List Int, z = lstI ns ∧ ns.length = w ∧ ∀ n ∈ ns, n.natAbs ≤ 3) rfl (EvP.weak (evp_lcR (n := (w : Int)) (P := fun z => ∃ n : Int, z = .int n ∧ n.natAbs ≤ 3) (eas1 (evp_var rfl (.int (w : Int))) eas_nil) ⟨by omega, by omega⟩ (fun _ => rfl) fun k Hn hk em => ?_) ?_) G5.sub l15 m25 (by omega) fun v9 d9 Hk9 H9 g9 r9 p9 l19 m29 => ?_
        · refine evp_op (P1 := fun z => ∃ n : Int, z = .int n ∧ -3 ≤ n ∧ n ≤ 3) (P2 := fun z => ∃ n : Int, z = .int n ∧ 0 ≤ n ∧ n ≤ 1) (evp_op (P2 := (· = .int 3)) (evp_drawn rfl (em _ _ hb5) evp_int (by decide) (by decide)) evp_int ?_) (evp_cb1 (evp_orB (EvP.weak (evd_op (evp_var rfl (.int way)) evp_int (rd_eqD rfl rfl)) fun z e => ⟨_, e⟩) (evp_op (P2 := (· = .int 0)) (evp_drawn rfl (em _ _ hb5) evp_int (by decide) (by decide)) evp_int ?_)) ?_) ?_
          · rintro d1 d2 ⟨k, rfl, h0, h1⟩ rfl
            exact RD.weak rd_I0 fun z e => ⟨_, e, by omega, by omega⟩
          · rintro d1 d2 ⟨k, rfl, h0, h1⟩ rfl
            exact RD.weak (rd_eqD rfl rfl) fun z e => ⟨_, e⟩
          · rintro d ⟨c, rfl⟩
            refine RCD.weak rc_intB fun z e => ⟨_, e, ?_⟩
            cases c <;> decide
          · rintro d1 d2 ⟨k, rfl, h0, h1⟩ ⟨m, rfl, y0, y1⟩
            refine RD.weak (rd_mul (.of_left (intBits_le_64 (by omega) (by omega)))) fun z e => ⟨_, e, ?_⟩
            rw [Int.natAbs_mul]
            have h3 : k.natAbs * m.natAbs ≤ 3 * 1 := Nat.mul_le_mul (by omega) (by omega)
            omega
        · rintro z ⟨ds, rfl, hl, hds⟩
          obtain ⟨ns, rfl, hns⟩ := all_ints hds
          rw [List.length_map] at hl
          exact ⟨ns, rfl, by omega, hns⟩
        · obtain ⟨ns, rfl, hnl, hns⟩ := p9
          have kn := em5.trans g9.known
          refine ⟨Hk9, us ++ [v9], rows ++ [ns], _, _, _, _, _, _, _, _, grow_mut (G5.trans g9) l19 n3, l19, upd_same, ?_, by rw [List.length_append, hlen]; rfl, fun ro hro => ?_, rfl⟩
          · rw [List.map_append]
            exact (rus4.mono kn).append (.cons r9 .nil)
          · rcases List.mem_append.mp hro with h | h
            · exact ⟨(hrows ro h).1, fun n hn => Nat.le_trans ((hrows ro h).2 n hn) (Nat.pow_le_pow_right (by decide) (Nat.le_succ x))⟩
            · obtain rfl := List.mem_singleton.mp h
              refine ⟨hnl, fun n hn => ?_⟩
              have h1 : 3 ^ 1 ≤ 3 ^ (x + 1) := Nat.pow_le_pow_right (by decide) (by omega)
              have := hns n hn
              omega
    · rintro n ⟨n', en, hn0, hn1⟩ σ2 H3 ⟨Hm, us, rows, s3, s4, s5, s6, s7, s8, s9, s10, gm, m1, m2, rus, hlen, hrows, rfl⟩
      cases en
      obtain ⟨hex, hrl⟩ := held gm.sub m1 m2 rus
      refine st_ret (K := K) (evp_var rfl hrl) hex fun u z Hk9 H9 g9 r9 p9 => q' u z Hk9 H9 (grow_held gm m1 m2 n3 g9) r9 ⟨rows, p9, by omega, fun r hr => ⟨(hrows r hr).1, fun k hk => ?_⟩⟩
      exact Nat.lt_of_le_of_lt ((hrows r hr).2 k hk) (pow3 (by omega))

theorem six_sub (a b : Int) : (a - 5 * b).natAbs ≤ a.natAbs + 5 * b.natAbs := by omega
theorem six_le {a b B : Nat} (h1 : a ≤ B) (h2 : b ≤ B) : a + 5 * b ≤ B * 8 := by omega

theorem ok__law_right (T : Tx K mg) (B : Tb T base) : FnG P w K mg base CX0 7 T.a__law_right T.d__law_right ["_law_bag_here"] (spU0 K [T.t_index_of_led] (fun z => z = .bool true)) := by
  refine DL.Fun.okG T.F__law_right sc__law_right (fun vs H1 Q E h => ?_) (fun cdv A outer s H1 vs Q E hgd hr h => ?_)
  · obtain ⟨H, b, rfl, _⟩ := h
    rfl
  · obtain ⟨H, b, rfl, ex, hT, hb, q⟩ := h
    refine ⟨_, (pss_cons (ps_set (i := 1) sc__law_right.nd rfl (by first | exact Or.inl rfl | exact Or.inr rfl) (pe_call (ok__law_one_of T) (hr.mono (by decide)) (by rfl) T.g__law_one_of T.F__law_one_of.kp T.b__law_one_of .nil pass0 (pa_cons (pv 0) (pa_cons (pe_lst (pa_cons pe_int (pa_cons pe_int (pa_cons pe_int (pa_cons pe_int (pa_cons pe_int (pa_cons pe_int (pa_cons pe_int (pa_cons pe_int pa_nil))))))))) pa_nil))))
      (pss_cons (ps_set (i := 2) sc__law_right.nd rfl (by first | exact Or.inl rfl | exact Or.inr rfl) (pe_call (ok__law_drawn_rows T) (hr.mono (by decide)) (by rfl) T.g__law_drawn_rows T.F__law_drawn_rows.kp T.b__law_drawn_rows .nil pass0 (pa_cons (pv 0) (pa_cons (pv 1) pa_nil))))
      (pss_cons (ps_par (i := 3) (j := 4) (by rfl) sc__law_right.nd rfl rfl (by decide) rfl rfl (pa_cons (pe_call (ok__law_rank T) (hr.mono (by decide)) (by rfl) T.g__law_rank T.F__law_rank.kp T.b__law_rank .nil pass0 (pa_cons (pv 2) pa_nil)) (pa_cons (pe_call (ok__law_with_factors T) (hr.mono (by decide)) (by rfl) T.g__law_with_factors T.F__law_with_factors.kp T.b__law_with_factors .nil pass0 (pa_cons (pv 0) (pa_cons (pv 2) pa_nil))) pa_nil)) (by rfl))
      (pss_cons (ps_if (PW.pt (pw_or (pt_cmpR (kNe (K := K) rfl (hu64 hr)) (pe_callB (kRepr (K := K) rfl hgd (hu65 hr)) (by rfl) T.n_repr (by decide +kernel) (pa_cons (pe_call (ok_rank T B) (hr.mono (by decide)) (by rfl) T.g_rank T.F_rank.kp T.b_rank .nil pass0 (pa_cons (pv 4) pa_nil)) pa_nil)) (pe_callB (kRepr (K := K) rfl hgd (hu65 hr)) (by rfl) T.n_repr (by decide +kernel) (pa_cons (pv 3) pa_nil)) (nomark _)) (pw_or1 (pt_cmpR (kNe (K := K) rfl (hu64 hr)) (pe_callB (kRepr (K := K) rfl hgd (hu65 hr)) (by rfl) T.n_repr (by decide +kernel) (pa_cons (pe_call (ok_are_free T B) (hr.mono (by decide)) (by rfl) T.g_are_free T.F_are_free.kp T.b_are_free .nil pass0 (pa_cons (pv 4) pa_nil)) pa_nil)) (pe_callB (kRepr (K := K) rfl hgd (hu65 hr)) (by rfl) T.n_repr (by decide +kernel) (pa_cons (pe_cmpR (kEq (K := K) rfl (hu64 hr)) (pv 3) (pe_callB (kLen (K := K) rfl) (by rfl) T.n_len (by decide +kernel) (pa_cons (pv 2) pa_nil)) (nomark _)) pa_nil)) (nomark _))))) (pss_one (ps_ret pe_bl)) pss_nil)
      (pss_cons (ps_set (i := 5) sc__law_right.nd rfl (by first | exact Or.inl rfl | exact Or.inr rfl) (pe_callTy (kTup (K := K) rfl) (by rfl) T.n_tuple (by decide +kernel) (pa_cons (pe_lc (own := [("_law_row", 6)]) (g := (gName 6)) rfl sc__law_right.nd (kpTup (K := K) rfl (pe_back (K := K) rfl (pv 4))) (blkOk_by (N := ["_law_bag_here", "_law_width", "_law_base", "_law_due", "_law_rows", "_law_turned", "_law_row", "_law_twice", "_law_one", "_law_other", "_law_more", "_law_here", "_law_there", "_law_less_here", "_law_at"]) (sc := defScope s__law_right) (by decide +kernel)) (fun _ _ _ _ _ => (pg_name (i := 6) sc__law_right.nd rfl (by first | exact Or.inl rfl | exact Or.inr rfl))) (fun _ _ _ _ _ => pts_nil) (fun _ _ _ _ _ => (pe_back (K := K) rfl (pv 6)))) pa_nil)))
      (pss_cons (ps_if (PW.pt (pw_or (pt_cmpR (kNe (K := K) rfl (hu64 hr)) (pe_call (ok_rank T B) (hr.mono (by decide)) (by rfl) T.g_rank T.F_rank.kp T.b_rank .nil pass0 (pa_cons (pv 5) pa_nil)) (pv 3) (nomark _)) (pw_or1 (pt_cmpR opLt (pe_call (ok_rank T B) (hr.mono (by decide)) (by rfl) T.g_rank T.F_rank.kp T.b_rank .nil pass0 (pa_cons (pe_op (kAdd (K := K) rfl) (pv 4) (pv 5)) pa_nil)) (pv 3) (nomark _))))) (pss_one (ps_ret pe_bl)) pss_nil)
      (pss_cons (ps_set (i := 7) sc__law_right.nd rfl (by first | exact Or.inl rfl | exact Or.inr rfl) (pe_slice (kSl (K := K) rfl) (pe_op (kRepT (K := K) rfl) (pv 4) pe_int) po_none (po_some pe_int)))
      (pss_cons (ps_if (PW.pt (pw_or (pt_cmpR (kNe (K := K) rfl (hu64 hr)) (pe_call (ok_rank T B) (hr.mono (by decide)) (by rfl) T.g_rank T.F_rank.kp T.b_rank .nil pass0 (pa_cons (pv 7) pa_nil)) (pv 3) (nomark _)) (pw_or1 (pt_cmpR (kNe (K := K) rfl (hu64 hr)) (pe_call (ok_are_free T B) (hr.mono (by decide)) (by rfl) T.g_are_free T.F_are_free.kp T.b_are_free .nil pass0 (pa_cons (pv 7) pa_nil)) (pe_cmpR (kEq (K := K) rfl (hu64 hr)) (pv 3) (pe_callB (kLen (K := K) rfl) (by rfl) T.n_len (by decide +kernel) (pa_cons (pv 7) pa_nil)) (nomark _)) (nomark _))))) (pss_one (ps_ret pe_bl)) pss_nil)
      (pss_cons (ps_if (pt_cmpR (kEq (K := K) rfl (hu64 hr)) (pv 2) (pe_lst pa_nil) (nomark _)) (pss_one (ps_ret pe_bl)) pss_nil)
      (pss_cons (ps_par (i := 8) (j := 9) (by rfl) sc__law_right.nd rfl rfl (by decide) rfl rfl (pa_cons (pe_call (ok__law_one_of T) (hr.mono (by decide)) (by rfl) T.g__law_one_of T.F__law_one_of.kp T.b__law_one_of .nil pass0 (pa_cons (pv 0) (pa_cons (pv 4) pa_nil))) (pa_cons (pe_call (ok__law_one_of T) (hr.mono (by decide)) (by rfl) T.g__law_one_of T.F__law_one_of.kp T.b__law_one_of .nil pass0 (pa_cons (pv 0) (pa_cons (pv 4) pa_nil))) pa_nil)) (by rfl))
      (pss_cons (ps_set (i := 10) sc__law_right.nd rfl (by first | exact Or.inl rfl | exact Or.inr rfl) (pe_op (kAdd (K := K) rfl) (pv 4) (pe_tup (pa_cons (pe_callTy (kTup (K := K) rfl) (by rfl) T.n_tuple (by decide +kernel) (pa_cons (pe_lc (own := [("_law_here", 11), ("_law_there", 12)]) (g := (gTup K 2 (gCons (gName 11) (gCons (gName 12) gNil)))) rfl sc__law_right.nd (kpZip (K := K) rfl (by rfl) T.n_zip (pa_cons (pv 8) (pa_cons (pv 9) pa_nil))) (blkOk_by (N := ["_law_bag_here", "_law_width", "_law_base", "_law_due", "_law_rows", "_law_turned", "_law_row", "_law_twice", "_law_one", "_law_other", "_law_more", "_law_here", "_law_there", "_law_less_here", "_law_at"]) (sc := defScope s__law_right) (by decide +kernel)) (fun _ _ _ _ _ => (kgTup (K := K) rfl rfl (pgs_cons (pg_name (i := 11) sc__law_right.nd rfl (by first | exact Or.inl rfl | exact Or.inr rfl)) (pgs_cons (pg_name (i := 12) sc__law_right.nd rfl (by first | exact Or.inl rfl | exact Or.inr rfl)) pgs_nil)))) (fun _ _ _ _ _ => pts_nil) (fun _ _ _ _ _ => (pe_op op_sub (pv 11) (pe_op (kMul (K := K) rfl) pe_int (pv 12))))) pa_nil)) pa_nil))))
      (pss_cons (ps_set (i := 13) sc__law_right.nd rfl (by first | exact Or.inl rfl | exact Or.inr rfl) (pe_callTy (kTup (K := K) rfl) (by rfl) T.n_tuple (by decide +kernel) (pa_cons (pe_lc (own := [("_law_at", 14), ("_law_row", 6)]) (g := (gTup K 2 (gCons (gName 14) (gCons (gName 6) gNil)))) rfl sc__law_right.nd (pi_enA (K := K) rfl (by rfl) T.n_enumerate (pa_cons (pv 4) pa_nil)) (blkOk_by (N := ["_law_bag_here", "_law_width", "_law_base", "_law_due", "_law_rows", "_law_turned", "_law_row", "_law_twice", "_law_one", "_law_other", "_law_more", "_law_here", "_law_there", "_law_less_here", "_law_at"]) (sc := defScope s__law_right) (by decide +kernel)) (fun _ _ _ _ _ => (kgTup (K := K) rfl rfl (pgs_cons (pg_name (i := 14) sc__law_right.nd rfl (by first | exact Or.inl rfl | exact Or.inr rfl)) (pgs_cons (pg_name (i := 6) sc__law_right.nd rfl (by first | exact Or.inl rfl | exact Or.inr rfl)) pgs_nil)))) (fun _ _ _ _ _ => (pts_one (pt_cmpR (kNe (K := K) rfl (hu64 hr)) (pv 14) pe_int (nomark _)))) (fun _ _ _ _ _ => (pv 6))) pa_nil)))
      (pss_one (ps_ret (pe_and (pe_cmpR (kEq (K := K) rfl (hu64 hr)) (pe_call (ok_rank T B) (hr.mono (by decide)) (by rfl) T.g_rank T.F_rank.kp T.b_rank .nil pass0 (pa_cons (pv 10) pa_nil)) (pv 3) (nomark _)) (pe_and (pe_not (pe_call (ok_are_free T B) (hr.mono (by decide)) (by rfl) T.g_are_free T.F_are_free.kp T.b_are_free .nil pass0 (pa_cons (pv 10) pa_nil))) (pe_one (pe_cmpR (kEq (K := K) rfl (hu64 hr)) (pe_call (ok_rank T B) (hr.mono (by decide)) (by rfl) T.g_rank T.F_rank.kp T.b_rank .nil pass0 (pa_cons (pv 13) pa_nil)) (pe_call (ok__law_rank T) (hr.mono (by decide)) (by rfl) T.g__law_rank T.F__law_rank.kp T.b__law_rank .nil pass0 (pa_cons (pe_slice (kSl (K := K) rfl) (pv 2) (po_some pe_int) po_none) pa_nil)) (nomark _))))))))))))))))))), ?_⟩
    try dsimp only [cxOf]
    refine st_set (P := fun z => ∃ w : Nat, z = .int (w : Int) ∧ 1 ≤ w ∧ w ≤ 28) (EvP.weak (evp_pick rfl hb (evd_lst (eas1 evp_int (eas1 evp_int (eas1 evp_int (eas1 evp_int (eas1 evp_int (eas1 evp_int (eas1 evp_int (eas1 evp_int eas_nil))))))))) (by intro h; cases h) (by show 8 ≤ 100000; decide)) ?_) ex fun v1 d1 Hk1 H2 g1 r1 p1 => ?_
    · intro z hz
      simp only [items, List.mem_cons, List.not_mem_nil, or_false] at hz
      rcases hz with rfl | rfl | rfl | rfl | rfl | rfl | rfl | rfl
      · exact ⟨1, rfl, by decide, by decide⟩
      · exact ⟨2, rfl, by decide, by decide⟩
      · exact ⟨3, rfl, by decide, by decide⟩
      · exact ⟨4, rfl, by decide, by decide⟩
      · exact ⟨5, rfl, by decide, by decide⟩
      · exact ⟨6, rfl, by decide, by decide⟩
      · exact ⟨8, rfl, by decide, by decide⟩
      · exact ⟨28, rfl, by decide, by decide⟩
    obtain ⟨w, rfl, hw1, hw28⟩ := p1
    have hb1 := g1.known _ _ hb
    refine st_set (evd_B1 rfl hb1 (evp_var rfl r1) ⟨w, rfl, hw1, hw28⟩) g1.sub fun v2 d2 Hk2 H3 g2 r2 p2 => ?_
    obtain ⟨base, rfl, hb9, hbr⟩ := p2
    have hbw : ∀ r ∈ base, r.length = w ∧ ∀ n ∈ r, n.natAbs < 2 ^ (15 : Nat) := fun r hr => ⟨Int.ofNat_inj.mp (hbr r hr).1, (hbr r hr).2⟩
    have hb16 : ∀ r ∈ base, r.length = w ∧ ∀ n ∈ r, n.natAbs < 2 ^ (16 : Nat) := fun r hr => ⟨(hbw r hr).1, fun n hn => Nat.lt_trans ((hbw r hr).2 n hn) (by decide)⟩
    have hb2 := g2.known _ _ hb1
    refine st_par (P1 := fun z => ∃ k : Nat, z = .int (k : Int) ∧ IsRank (base.map at') k) (P2 := fun z => ∃ fs : List Int, fs.length = base.length ∧ (∀ f ∈ fs, f ≠ 0 ∧ f.natAbs ≤ 7 * 10 ^ (100 : Nat)) ∧ z = tupR (withF fs base)) (EvP.weak (evd_D1 (evp_var rfl r2) ⟨base, w, rfl, hw28, hb9, hb16⟩) fun z ⟨k, e, hk⟩ => ⟨k, e, by rw [rowsOf_l] at hk; exact hk⟩)
      (EvP.weak (evd_B1 rfl hb2 (evp_var rfl r2) ⟨base, rfl, hb9, fun r hr => ⟨by rw [(hb16 r hr).1]; exact hw28, (hb16 r hr).2⟩⟩) fun z ⟨fs, e1, e2, e3⟩ => ⟨fs, by rw [rowsOf_l] at e1; exact e1, e2, by rw [rowsOf_l] at e3; exact e3⟩) g2.sub fun v3 v4 d3 d4 Hk4 H4 g4 r3 r4 p3 p4 => ?_
    obtain ⟨k, rfl, hk⟩ := p3
    obtain ⟨fs, hfl, hfs, rfl⟩ := p4
    cases r3
    obtain ⟨hrl, hrw⟩ := withF_facts hfl hfs hbw
    have hsc := withF_scaled hfl fun f hf => (hfs f hf).1
    generalize hrows : withF fs base = rows at r4 hrl hrw hsc
    have hrw' : ∀ r ∈ rows, r.length = w := fun r hr => (hrw r hr).1
    have hr9 : rows.length ≤ 9 := by rw [hrl]; exact hb9
    obtain ⟨k0, hk0⟩ := rank_exists hrw'
    obtain rfl : k0 = k := rank_scaled hsc hk hk0
    have hk9 : k0 ≤ 9 := by
      have := rank_len hk0
      rw [List.length_map] at this
      omega
    have hkn : k0 ≤ rows.length := by
      have := rank_len hk0
      rw [List.length_map] at this
      exact this
    have b351 : (2 : Nat) ^ (351 : Nat) ≤ 2 ^ (354 : Nat) := Nat.pow_le_pow_right (by decide) (by decide)
    have small1 : ∀ ys : List (List Int), (∀ r ∈ ys, r ∈ rows) → Small ys := fun ys h => small_of b351 (fun r hr n hn => (hrw r (h r hr)).2 n hn) rows (by omega) h
    have good1 : ∀ ys : List (List Int), ys.length ≤ 60 → (∀ r ∈ ys, r.length = w) → Good ys w := fun ys h1 h2 => ⟨h1, hw1, hw28, h2⟩
    have hT4 := hT.mono ((g1.trans g2).trans g4).known
    have G4 := (g1.trans g2).trans g4
    have S9 := show_small hk9
    have rankR : ∀ {σ' : L2.St} {Hn : Hp}, Ex Hk4 Hn → σ'[4]? = some (some v4) → EvD K (tCall (spT1 K [T.t_index_of_led] rankPre rankPost) [] E0 (tCons (tVar 4) tNil)) σ' Hn (.int (k0 : Int)) := fun e h => evd_rank (hT4.mono e) (evp_var h (r4.mono e)) (good1 rows (by omega) hrw') (small1 rows fun _ h => h) fun k' h' => rank_scaled hsc hk h'
    have freeR : ∀ {σ' : L2.St} {Hn : Hp}, Ex Hk4 Hn → σ'[4]? = some (some v4) → EvD K (tCall (spT1 K [T.t_index_of_led] rankPre freePost) [] E0 (tCons (tVar 4) tNil)) σ' Hn (.bool (decide (k0 = rows.length))) := fun e h => evd_free (hT4.mono e) (evp_var h (r4.mono e)) (good1 rows (by omega) hrw') (small1 rows fun _ h => h) fun k' h' => rank_scaled hsc hk h'
    have SB := show_bool (decide (k0 = rows.length))
    have r24 := r2.mono g4.known
    have dueLen : ∀ {σ' : L2.St} {Hn : Hp}, Ex Hk4 Hn → σ'[2]? = some (some v2) → σ'[3]? = some (some (.int (k0 : Int))) → EvD K (tOp (rEqD K) (tVar 3) (tCB (rLen K) (tCons (tVar 2) tNil))) σ' Hn (.bool (decide (k0 = rows.length))) := fun e h2 h3 => EvP.is (evd_op (evp_var h3 (.int _)) (evd_cb (eas1 (evp_var h2 (r24.mono e)) eas_nil) (rc_len rfl)) (rd_eqD rfl rfl)) (by
      rw [eqv_int, List.length_map, hrl]
      exact congrArg PyData.bool (decide_eq_decide.mpr Int.ofNat_inj))
    refine st_when (b := (false || false)) (etp_or (etp_test (K := K) (EvP.is (evd_op (evd_cb (eas1 (rankR (Ex.refl _) rfl) eas_nil) (rc_repr S9.1 rfl (Nat.zero_le _) S9.2.1)) (evd_cb (eas1 (evp_var rfl (.int (k0 : Int))) eas_nil) (rc_repr S9.1 rfl (Nat.zero_le _) S9.2.1)) (rd_neD S9.2.2 S9.2.2)) (by rw [eqv_str]; rfl)))
      (fun _ => etp_test (K := K) (EvP.is (evd_op (evd_cb (eas1 (freeR (Ex.refl _) rfl) eas_nil) (rc_repr SB.1 rfl (Nat.zero_le _) SB.2.1)) (evd_cb (eas1 (dueLen (Ex.refl _) rfl rfl) eas_nil) (rc_repr SB.1 rfl (Nat.zero_le _) SB.2.1)) (rd_neD SB.2.2 SB.2.2)) (by rw [eqv_str]; rfl)))) g4.sub (fun h => by cases h) fun _ Hk5 H5 g5 => ?_
    have r45 := r4.mono g5.known
    refine st_set (P := (· = tupR (rows.reverse.map List.reverse))) (EvP.is (evd_cb (eas1 (evd_mapT (ds := (rows.map tupI).reverse) (g := fun d => tupI (intsOf d).reverse) (evd_back (ds := rows.map tupI) (evp_var rfl r45) (.inr ⟨rfl, rfl⟩)) (by rw [List.length_reverse, List.length_map]; omega) (fun _ => rfl) ?_) eas_nil) (rc_tuple (.inl rfl))) ?_) g5.sub fun v5 d5 Hk6 H6 g6 r5 p5 => ?_
    · intro j d x Hm hj em rx
      obtain ⟨ns, _, rfl⟩ := List.mem_map.mp (List.mem_reverse.mp (List.mem_of_getElem? hj))
      refine EvP.is (evd_back (ds := ns.map .int) (evp_var rfl rx) (.inr ⟨rfl, rfl⟩)) ?_
      rw [intsOf_t]
      exact congrArg PyData.tuple (List.map_reverse ..).symm
    · refine congrArg PyData.tuple ?_
      rw [← List.map_reverse, List.map_map, List.map_map]
      refine List.map_congr_left fun r _ => ?_
      show tupI (intsOf (tupI r)).reverse = tupI r.reverse
      rw [intsOf_t]
    subst p5
    generalize ht : rows.reverse.map List.reverse = turned at r5
    have htl : turned.length = rows.length := by rw [← ht, List.length_map, List.length_reverse]
    have htm : ∀ y, y ∈ turned ↔ y ∈ rows.map List.reverse := fun y => by
      rw [← ht, List.map_reverse]
      exact List.mem_reverse
    have htw : ∀ r ∈ turned, r.length = w ∧ ∀ n ∈ r, n.natAbs ≤ 2 ^ (351 : Nat) := fun r hr => by
      obtain ⟨x, hx, rfl⟩ := List.mem_map.mp ((htm r).mp hr)
      exact ⟨by rw [List.length_reverse]; exact hrw' x hx, fun n hn => (hrw x hx).2 n (List.mem_reverse.mp hn)⟩
    have hback := rank_back hrw' hk0
    have kn56 := g5.trans g6
    have r46 := r45.mono g6.known
    have hT6 := hT4.mono kn56.known
    refine st_when (b := (false || false)) (etp_or (etp_test (K := K) (EvP.is (evd_op (evd_rank (k := k0) hT6 (evp_var rfl r5) (good1 turned (by omega) fun r hr => (htw r hr).1) (small_of b351 (fun r hr => (htw r hr).2) turned (by omega) fun _ h => h) fun k' h' => rank_same hback h' (fun x hx => (htm x).mpr hx) fun y hy => .inl ((htm y).mp hy)) (evp_var rfl (.int (k0 : Int))) (rd_neD rfl rfl)) (by rw [eqv_int, decide_eq_true rfl]; rfl)))
      (fun _ => etp_test (K := K) (evp_op (P2 := (· = .int (k0 : Int))) (evp_rank (w := w) (ys := rows ++ turned) hT6 (EvP.is (evd_op (evp_var rfl r46) (evp_var rfl r5) (rd_addT ?_)) (congrArg PyData.tuple (List.map_append ..).symm)) (good1 (rows ++ turned) ?_ ?_) (small_of b351 ?_ (rows ++ turned) ?_ fun _ h => h)) (evp_var rfl (.int (k0 : Int))) ?_))) g6.sub (fun h => by cases h) fun _ Hk7 H7 g7 => ?_
    · rw [List.length_map, List.length_map]
      omega
    · rw [List.length_append]
      omega
    · intro r hr
      rcases List.mem_append.mp hr with h | h
      · exact hrw' r h
      · exact (htw r h).1
    · intro r hr
      rcases List.mem_append.mp hr with h | h
      · exact (hrw r h).2
      · exact (htw r h).2
    · rw [List.length_append]
      omega
    · rintro d1 d2 ⟨k', rfl, hk'⟩ rfl
      refine RD.weak rd_lt fun z e => ?_
      have h := rank_more hk0 hk' fun x hx => List.mem_append.mpr (.inl hx)
      rw [e, decide_eq_false (by omega)]
    have r47 := r46.mono g7.known
    have kn57 := kn56.trans g7
    refine st_set (P := (· = tupR (((List.replicate 30 rows).flatten).take 60))) (EvP.is (evd_sl (l := none) (u := some ((60 : Nat) : Int)) (ds := (List.replicate 30 (rows.map tupI)).flatten) (evd_op (evp_var rfl r47) evp_int (rd_repT ⟨by decide, by decide⟩ (by rw [List.length_map]; omega))) (.inr ⟨rfl, rfl⟩) eo_none eo_c) ?_) g7.sub fun v7 d7 Hk8 H8 g8 r7 p7 => ?_
    · show PyData.tuple (cutG _ none (some ((60 : Nat) : Int))) = _
      rw [cutG_to, rep_map, ← List.map_take]
    subst p7
    obtain ⟨tw1, tw2⟩ := twice_mem (rows := rows) (by omega)
    have twl : (((List.replicate 30 rows).flatten).take 60).length ≤ 60 := by
      rw [List.length_take]
      exact Nat.min_le_left ..
    generalize htw : ((List.replicate 30 rows).flatten).take 60 = twice at r7 tw1 tw2 twl
    have kn58 := kn57.trans g8
    have hT8 := hT4.mono kn58.known
    have gtw := good1 twice twl fun r hr => hrw' r (tw2 r hr)
    have stw := small1 twice tw2
    have ktw : ∀ k', IsRank (twice.map at') k' → k' = k0 := fun k' h' => rank_same hk0 h' tw1 fun y hy => .inl (tw2 y hy)
    refine st_when (b := (false || false)) (etp_or (etp_test (K := K) (EvP.is (evd_op (evd_rank (k := k0) hT8 (evp_var rfl r7) gtw stw ktw) (evp_var rfl (.int (k0 : Int))) (rd_neD rfl rfl)) (by rw [eqv_int, decide_eq_true rfl]; rfl)))
      (fun _ => etp_test (K := K) (EvP.is (evd_op (evd_free (k := k0) hT8 (evp_var rfl r7) gtw stw ktw) (evd_op (evp_var rfl (.int (k0 : Int))) (evd_cb (eas1 (evp_var rfl r7) eas_nil) (rc_len rfl)) (rd_eqD rfl rfl)) (rd_neD rfl rfl)) ?_))) g8.sub (fun h => by cases h) fun _ Hk9 H9 g9 => ?_
    · rw [eqv_int, List.length_map]
      have e : decide ((k0 : Int) = (twice.length : Int)) = decide (k0 = twice.length) := decide_eq_decide.mpr Int.ofNat_inj
      rw [e, eqv_bool]
      rfl
    have kn59 := kn58.trans g9
    have r29 := r24.mono kn59.known
    have r49 := r47.mono (g8.trans g9).known
    have G9 := G4.trans kn59
    refine st_when (b := (base.map lstI).isEmpty) (etp_test (K := K) (EvP.is (evd_op (evp_var rfl r29) (evd_lst eas_nil) (rd_eqD (shaped_lstR base) rfl)) (by rw [eqv_nil]))) g9.sub (fun _ Hk10 H10 g10 => ?_) (fun hne Hk10 H10 g10 => ?_)
    · exact st_ret (K := K) evp_bl g10.sub fun u z Hk11 H11 g11 r11 p11 => q u z Hk11 H11 ((G9.trans g10).trans g11) r11 p11
    have hbne : rows ≠ [] := fun e => by
      rw [e] at hrl
      have : base = [] := List.length_eq_zero_iff.mp hrl.symm
      rw [this] at hne
      cases hne
    have kn510 := kn59.trans g10
    have r410 := r49.mono g10.known
    have hb10 := (G9.trans g10).known _ _ hb
    have hit : items (tupR rows) ≠ [] := fun e => hbne (List.map_eq_nil_iff.mp e)
    have hil : (items (tupR rows)).length ≤ 100000 := by
      show (rows.map tupI).length ≤ _
      rw [List.length_map]
      omega
    refine st_par (P1 := fun z => z ∈ items (tupR rows)) (P2 := fun z => z ∈ items (tupR rows)) (evp_pick rfl hb10 (evp_var rfl r410) hit hil) (evp_pick rfl hb10 (evp_var rfl r410) hit hil) g10.sub fun v8 v9 d8 d9 Hk11 H11 g11 r8 r9 p8 p9 => ?_
    obtain ⟨ra, hra, rfl⟩ := List.mem_map.mp p8
    obtain ⟨rb, hrb, rfl⟩ := List.mem_map.mp p9
    have r411 := r410.mono g11.known
    have la := hrw ra hra
    have lb := hrw rb hrb
    refine st_set (P := (· = tupR (rows ++ [List.zipWith (fun a b => a - 5 * b) ra rb]))) (EvP.is (evd_op (evp_var rfl r411) (evd_tup (eas1 (evd_cb (eas1 (evd_mapZ (ds := ra.map PyData.int) (es := rb.map PyData.int) (g := fun d => .int (intOf d.1 - 5 * intOf d.2)) (eas1 (evp_var rfl r8) (eas1 (evp_var rfl r9) eas_nil)) (.inr ⟨rfl, rfl⟩) (by rw [List.length_map]; omega) (fun _ _ => rfl) ?_) eas_nil) (rc_tuple (.inl rfl))) eas_nil)) (rd_addT ?_)) ?_) g11.sub fun v10 d10 Hk12 H12 g12 r10 p10 => ?_
    · intro a c y1 y2 Hn hm em ry1 ry2
      obtain ⟨z1, z2⟩ := List.of_mem_zip hm
      obtain ⟨k1, hk1, rfl⟩ := List.mem_map.mp z1
      obtain ⟨k2, hk2, rfl⟩ := List.mem_map.mp z2
      exact evd_op (evp_var rfl ry1) (evd_op evp_int (evp_var rfl ry2) (rd_mul (.of_left (by decide)))) rd_I0
    · rw [List.length_map]
      show rows.length + 1 ≤ 100000
      omega
    · refine congrArg PyData.tuple ?_
      rw [List.map_append]
      refine congrArg (rows.map tupI ++ ·) ?_
      show [PyData.tuple _] = [PyData.tuple _]
      congr 2
      refine List.ext_getElem (by simp) fun j h1 h2 => ?_
      simp [intOf]
    subst p10
    have r412 := r411.mono g12.known
    refine st_set (P := (· = tupR (rows.drop 1))) (EvP.is (evd_cb (eas1 (evd_lcE (p := fun j => decide (j ≠ 0)) (g := fun j => (rows.map tupI).getD j .none) (ds := rows.map tupI) (eas1 (evp_var rfl r412) eas_nil) (.inr rfl) (by rw [List.length_map]; omega) (fun _ _ => rfl) ?_ ?_) eas_nil) (rc_tuple (.inl rfl))) (congrArg PyData.tuple from1)) g12.sub fun v13 d13 Hk13 H13 g13 r13 p13 => ?_
    · intro j a x Hm hj em rx
      refine etp_test (K := K) (EvP.is (evd_op (evp_var rfl (.int (j : Int))) evp_int (rd_neD rfl rfl)) ?_)
      rw [eqv_int]
      refine congrArg PyData.bool ?_
      by_cases h0 : j = 0
      · subst h0
        rfl
      · rw [decide_eq_false (by omega), decide_eq_true h0]
        rfl
    · intro j a x Hm hj em rx _
      have e : (rows.map tupI).getD j .none = a := by
        rw [List.getD_eq_getElem?_getD, hj]
        rfl
      rw [e]
      exact evp_var rfl rx
    subst p13
    have kn513 := ((kn510.trans g11).trans g12).trans g13
    have hT13 := hT4.mono kn513.known
    have r213 := r24.mono kn513.known
    have r1013 := r10.mono g13.known
    have hdrop : Scaled (base.drop 1) (rows.drop 1) := by
      have e : rows.drop 1 = withF (fs.drop 1) (base.drop 1) := by
        rw [← hrows]
        unfold withF
        exact List.drop_zipWith
      rw [e]
      exact withF_scaled (by rw [List.length_drop, List.length_drop, hfl]) fun f hf => (hfs f (List.mem_of_mem_drop hf)).1
    have mlen : (List.zipWith (fun a b => a - 5 * b) ra rb).length = w := by
      rw [List.length_zipWith, la.1, lb.1]
      exact Nat.min_self w
    have mat : ∀ j, at' (List.zipWith (fun a b => a - 5 * b) ra rb) j = 1 * at' ra j + (-5) * at' rb j := fun j => by
      by_cases hj : j < w
      · rw [at_lt (j := j) (r := List.zipWith (fun a b => a - 5 * b) ra rb) (by omega), List.getElem_zipWith, at_lt (j := j) (r := ra) (by omega), at_lt (j := j) (r := rb) (by omega)]
        omega
      · rw [at_over (j := j) mlen (by omega), at_over (j := j) la.1 (by omega), at_over (j := j) lb.1 (by omega)]
        rfl
    have gm := good1 (rows ++ [List.zipWith (fun a b => a - 5 * b) ra rb]) (by rw [List.length_append]; show rows.length + 1 ≤ 60; omega) fun r hr => by
      rcases List.mem_append.mp hr with h | h
      · exact hrw' r h
      · obtain rfl := List.mem_singleton.mp h
        exact mlen
    have sm : Small (rows ++ [List.zipWith (fun a b => a - 5 * b) ra rb]) := small_of (B := 2 ^ (354 : Nat)) (Nat.le_refl _) (fun r hr n hn => by
      rcases List.mem_append.mp hr with h | h
      · exact Nat.le_trans ((hrw r h).2 n hn) b351
      · obtain rfl := List.mem_singleton.mp h
        obtain ⟨i, hi, rfl⟩ := List.getElem_of_mem hn
        rw [List.getElem_zipWith]
        rw [mlen] at hi
        have h1 := la.2 _ (List.getElem_mem (show i < ra.length by rw [la.1]; exact hi))
        have h2 := lb.2 _ (List.getElem_mem (show i < rb.length by rw [lb.1]; exact hi))
        have h3 : (2 : Nat) ^ (354 : Nat) = 2 ^ (351 : Nat) * 8 := by rw [show (8 : Nat) = 2 ^ (3 : Nat) from rfl, ← Nat.pow_add]
        rw [h3]
        exact Nat.le_trans (six_sub _ _) (six_le h1 h2)) (rows ++ [List.zipWith (fun a b => a - 5 * b) ra rb]) (by rw [List.length_append]; show rows.length + 1 ≤ 18; omega) fun _ h => h
    have km : ∀ k', IsRank ((rows ++ [List.zipWith (fun a b => a - 5 * b) ra rb]).map at') k' → k' = k0 := fun k' h' => rank_same hk0 h' (fun x hx => List.mem_append.mpr (.inl hx)) fun y hy => by
      rcases List.mem_append.mp hy with h | h
      · exact .inl h
      · obtain rfl := List.mem_singleton.mp h
        exact .inr ⟨ra, hra, rb, hrb, 1, -5, mat⟩
    have md : ∀ r ∈ rows.drop 1, r ∈ rows := fun r hr => List.mem_of_mem_drop hr
    have mbd : ∀ r ∈ base.drop 1, r ∈ base := fun r hr => List.mem_of_mem_drop hr
    refine st_ret (P := (· = .bool (true && (!false && true)))) (evp_andV (a := true) (b := !false && true) (EvP.is (evd_op (evd_rank (k := k0) hT13 (evp_var rfl r1013) gm sm km) (evp_var rfl (.int (k0 : Int))) (rd_eqD rfl rfl)) (by rw [eqv_int, decide_eq_true rfl])) fun _ =>
      evp_andV (a := !false) (b := true) (evp_notV (EvP.is (evd_free (k := k0) hT13 (evp_var rfl r1013) gm sm km) ?_)) fun _ => EvP.weak (evp_op (evp_rank hT13 (evp_var rfl r13) (good1 (rows.drop 1) (by rw [List.length_drop]; omega) fun r hr => hrw' r (md r hr)) (small1 (rows.drop 1) md))
        (P2 := fun z => ∃ k2 : Nat, z = .int (k2 : Int) ∧ IsRank ((base.drop 1).map at') k2) (EvP.weak (evd_D1 (EvP.is (d2 := lstR (base.drop 1)) (evd_sl (l := some ((1 : Nat) : Int)) (u := none) (ds := base.map lstI) (evp_var rfl r213) (.inl ⟨rfl, rfl⟩) eo_c eo_none) ?_) ⟨base.drop 1, w, rfl, hw28, by rw [List.length_drop]; omega, fun r hr => hb16 r (mbd r hr)⟩) fun z ⟨k2, e, hk2⟩ => ⟨k2, e, by rw [rowsOf_l] at hk2; exact hk2⟩) ?_) fun z e => e) g13.sub fun u z Hk14 H14 g14 r14 p14 => q u z Hk14 H14 ((G4.trans kn513).trans g14) r14 p14
    · rw [List.length_append]
      show PyData.bool (decide (k0 = rows.length + 1)) = .bool false
      rw [decide_eq_false (by omega)]
    · show PyData.list (cutG (base.map lstI) (some ((1 : Nat) : Int)) none) = _
      rw [cutG_from, ← List.map_drop]
    · rintro d1 d2 ⟨k1, rfl, h1⟩ ⟨k2, rfl, h2⟩
      refine RD.weak (rd_eqD rfl rfl) fun z e => ?_
      obtain rfl : k1 = k2 := rank_scaled hdrop h2 h1
      rw [e, eqv_int, decide_eq_true rfl]

theorem rank_zero {rows : List R} {k : Nat} (h : IsRank (rows.map at') k) (hz : ∀ r ∈ rows, ∀ j, at' r j = 0) : k = 0 := by
  obtain ⟨L, h1, h2, h3, h4⟩ := h
  rcases Nat.eq_zero_or_pos k with h | h
  · exact h
  · have := h3 (fun _ => 1) (fun j => (sumN_congr (g := fun _ => 0) fun i hi => by
      have hm : ix L i ∈ L := by
        show L.getD i _ ∈ L
        rw [List.getD_eq_getElem?_getD, List.getElem?_eq_getElem hi]
        exact List.getElem_mem hi
      obtain ⟨x, hx, e⟩ := List.mem_map.mp (h1 _ hm)
      show 1 * ix L i j = 0
      rw [← e, hz x hx j]
      rfl).trans (sumN_zero _)) 0 (by omega)
    cases this
theorem rank_pos {rows : List R} {k : Nat} (h : IsRank (rows.map at') k) {r : R} (hr : r ∈ rows) {j : Nat} (hj : at' r j ≠ 0) : 1 ≤ k := by
  obtain ⟨L, h1, h2, h3, h4⟩ := h
  rcases Nat.eq_zero_or_pos k with h | h
  · rw [h] at h2
    obtain rfl := List.length_eq_zero_iff.mp h2
    obtain ⟨d, hd, x, e⟩ := (h4 _ (List.mem_map.mpr ⟨r, hr, rfl⟩)).coefs
    rcases Int.mul_eq_zero.mp (e j) with z | z
    · exact absurd z hd
    · exact absurd z hj
  · exact h

theorem ok_law (T : Tx K mg) (B : Tb T base) : FnG P w K mg base CX0 8 T.a_law T.d_law ["_law_script"] (spLawT K [T.t_index_of_led]) := by
  refine DL.Fun.okG T.F_law sc_law (fun vs H1 Q E h => ?_) (fun cdv A outer s H1 vs Q E hgd hr h => ?_)
  · obtain ⟨H, a, ns, rfl, _⟩ := h
    rfl
  · obtain ⟨H, a, ns, rfl, ex, hS, hl, hT, q⟩ := h
    refine ⟨_, (pss_cons (ps_for PassesOwn.never rfl (pi_range1 (by rfl) T.n_range (pa_cons (pe_callB (call_max2 rfl) (by rfl) T.n_max (by decide +kernel) (pa_cons pe_int (pa_cons (pe_callB (call_min2 rfl) (by rfl) T.n_min (by decide +kernel) (pa_cons pe_int (pa_cons (pe_callB (kLen (K := K) rfl) (by rfl) T.n_len (by decide +kernel) (pa_cons (pv 0) pa_nil)) pa_nil))) pa_nil))) pa_nil)) (pg_name (i := 1) sc_law.nd rfl (by first | exact Or.inl rfl | exact Or.inr rfl)) (pss_cons (ps_set (i := 2) sc_law.nd rfl (by first | exact Or.inl rfl | exact Or.inr rfl) (pe_call (ok__law_bag T) (hr.mono (by decide)) (by rfl) T.g__law_bag T.F__law_bag.kp T.b__law_bag .nil pass0 (pa_cons (pv 0) (pa_cons (pv 1) pa_nil))))
      (pss_one (ps_if (PW.pt (pw_or (pt_not (pt_val (pe_callG (ok__law_right T B) hgd (hr.mono (by decide)) (by rfl) T.g__law_right T.F__law_right.kp T.b__law_right .nil pass0 (pa_cons (pv 2) pa_nil)))) (pw_or1 (pt_not (pt_val (pe_callG (ok__law_right T B) hgd (hr.mono (by decide)) (by rfl) T.g__law_right T.F__law_right.kp T.b__law_right .nil pass0 (pa_cons (pv 2) pa_nil))))))) (pss_one (ps_ret pe_bl)) pss_nil))))
      (pss_cons (ps_set (i := 3) sc_law.nd rfl (by first | exact Or.inl rfl | exact Or.inr rfl) (pe_lst (pa_cons (pe_call (ok_rank T B) (hr.mono (by decide)) (by rfl) T.g_rank T.F_rank.kp T.b_rank .nil pass0 (pa_cons (pe_tup pa_nil) pa_nil)) (pa_cons (pe_call (ok_are_free T B) (hr.mono (by decide)) (by rfl) T.g_are_free T.F_are_free.kp T.b_are_free .nil pass0 (pa_cons (pe_tup pa_nil) pa_nil)) (pa_cons (pe_call (ok_rank T B) (hr.mono (by decide)) (by rfl) T.g_rank T.F_rank.kp T.b_rank .nil pass0 (pa_cons (pe_tup (pa_cons (pe_tup (pa_cons pe_int pa_nil)) pa_nil)) pa_nil)) (pa_cons (pe_call (ok_are_free T B) (hr.mono (by decide)) (by rfl) T.g_are_free T.F_are_free.kp T.b_are_free .nil pass0 (pa_cons (pe_tup (pa_cons (pe_tup (pa_cons pe_int (pa_cons pe_int pa_nil))) pa_nil)) pa_nil)) (pa_cons (pe_call (ok_are_free T B) (hr.mono (by decide)) (by rfl) T.g_are_free T.F_are_free.kp T.b_are_free .nil pass0 (pa_cons (pe_tup (pa_cons (pe_tup (pa_cons pe_int (pa_cons pe_int pa_nil))) pa_nil)) pa_nil)) pa_nil)))))))
      (pss_one (ps_ret (pe_cmpR (kEq (K := K) rfl (hu64 hr)) (pe_callB (kRepr (K := K) rfl hgd (hu65 hr)) (by rfl) T.n_repr (by decide +kernel) (pa_cons (pv 3) pa_nil)) (pe_callB (kRepr (K := K) rfl hgd (hu65 hr)) (by rfl) T.n_repr (by decide +kernel) (pa_cons (pe_lst (pa_cons pe_int (pa_cons pe_bl (pa_cons pe_int (pa_cons pe_bl (pa_cons pe_bl pa_nil)))))) pa_nil)) (nomark _)))))), ?_⟩
    try dsimp only [cxOf]
    have rs : Rp K H (.ref a) (.list (ns.map .int)) := .lst hS RpAll.of_ints
    have lenE : EvD K (tCB (rLen K) (tCons (tVar 0) tNil)) (start ["_law_script", "_law_at", "_law_bag_here", "_law_told"] [.ref a]) H (.int (ns.length : Int)) :=
      evd_cb (eas1 (evp_var rfl rs) eas_nil) (rc_len (by show some (ns.map PyData.int).length = _; rw [List.length_map]))
    refine st_forS (walkd_range (K := K) (eas1 (evd_cb (eas1 evp_int (eas1 (evd_cb (eas1 evp_int (eas1 lenE eas_nil)) rc_min2) eas_nil)) rc_max2) eas_nil) ?_) ex (fun i σ _ _ => ∃ t1 t2, σ = [some (V.ref a), t1, t2, none]) (fun _ _ _ => ⟨none, none, rfl⟩) ?_ ?_
    · constructor <;> (split <;> split <;> omega)
    · rintro Hb Hc i x σ2 Hm H3 Hm' H4 gb hi gm ⟨t1, t2, rfl⟩ g4 rfl
      refine gn ?_
      have hi4 : i < 4 := by
        have : (if (if (ns.length : Int) < 3 then (ns.length : Int) else 3) > 1 then (if (ns.length : Int) < 3 then (ns.length : Int) else 3) else 1) ≤ 3 := by split <;> split <;> omega
        omega
      refine st_bag (n := (i : Int)) rfl rfl (ex_l ((gb.trans gm).trans g4).known hS) hl ⟨by omega, by omega⟩ g4.sub fun b Hk5 H5 g5 hb => ?_
      have hT5 := hT.mono (((gb.trans gm).trans g4).trans g5).known
      refine st_ifL (b := (!true || !true)) (etp_or (etp_not (etp_B (evp_U0 hT5 rfl hb))) (fun _ => etp_not (etp_B (evp_U0 hT5 rfl hb)))) g5.sub (fun h => by cases h) fun _ Hk8 H8 g8 => ?_
      exact ⟨Hk8, ((gm.trans g4).trans g5).trans g8, _, _, rfl⟩
    · rintro Hb Hc σ2 Hm H3 gb gm ⟨t1, t2, rfl⟩
      have hTm := hT.mono (gb.trans gm).known
      have sml : ∀ ys : List (List Int), ys.length ≤ 18 → (∀ r ∈ ys, ∀ n ∈ r, n.natAbs ≤ 4) → Small ys := fun ys h1 h2 => small_of (B := 4) (Nat.le_trans (show 4 ≤ 2 ^ (2 : Nat) by decide) (Nat.pow_le_pow_right (by decide) (by decide))) h2 ys h1 fun _ h => h
      have z1 : ∀ r ∈ ([[0]] : List R), ∀ j, at' r j = 0 := fun r hr j => by
        obtain rfl := List.mem_singleton.mp hr
        match j with
        | 0 => rfl
        | j + 1 => rfl
      have z2 : ∀ r ∈ ([[0, 0]] : List R), ∀ j, at' r j = 0 := fun r hr j => by
        obtain rfl := List.mem_singleton.mp hr
        match j with
        | 0 => rfl
        | 1 => rfl
        | j + 2 => rfl
      refine st_set (K := K) (P := (· = .list [.int 0, .bool true, .int 0, .bool false, .bool true])) (evd_lst (eas1 (evd_rank (k := 0) (w := 1) (ys := []) hTm (evd_tup eas_nil) ⟨by decide, by decide, by decide, fun r hr => nomatch hr⟩ (sml [] (by decide) fun r hr => nomatch hr) ?_)
        (eas1 (evd_free (k := 0) (w := 1) (ys := []) hTm (evd_tup eas_nil) ⟨by decide, by decide, by decide, fun r hr => nomatch hr⟩ (sml [] (by decide) fun r hr => nomatch hr) ?_)
        (eas1 (evd_rank (k := 0) (w := 1) (ys := [[0]]) hTm (evd_tup (eas1 (evd_tup (eas1 evp_int eas_nil)) eas_nil)) ⟨by decide, by decide, by decide, by decide⟩ (sml [[0]] (by decide) (by decide)) ?_)
        (eas1 (EvP.is (evd_free (k := 0) (w := 2) (ys := [[0, 0]]) hTm (evd_tup (eas1 (evd_tup (eas1 evp_int (eas1 evp_int eas_nil))) eas_nil)) ⟨by decide, by decide, by decide, by decide⟩ (sml [[0, 0]] (by decide) (by decide)) ?_) rfl)
        (eas1 (EvP.is (evd_free (k := 1) (w := 2) (ys := [[0, 4]]) hTm (evd_tup (eas1 (evd_tup (eas1 evp_int (eas1 evp_int eas_nil))) eas_nil)) ⟨by decide, by decide, by decide, by decide⟩ (sml [[0, 4]] (by decide) (by decide)) ?_) rfl) eas_nil)))))) gm.sub fun v4 d4 Hk4 H4 g4 r4 p4 => ?_
      · intro k' h'
        exact Nat.le_zero.mp (rank_len h')
      · intro k' h'
        exact Nat.le_zero.mp (rank_len h')
      · intro k' h'
        exact rank_zero h' z1
      · intro k' h'
        exact rank_zero h' z2
      · intro k' h'
        exact Nat.le_antisymm (rank_len h') (rank_pos h' List.mem_cons_self (j := 1) (by decide))
      · subst p4
        refine st_ret (K := K) (EvP.is (evd_op (evd_cb (eas1 (evp_var rfl r4) eas_nil) (rc_repr (by decide +kernel) (by decide +kernel) (by decide +kernel) (by decide +kernel))) (evd_cb (eas1 (evd_lst (eas1 evp_int (eas1 evp_bl (eas1 evp_int (eas1 evp_bl (eas1 evp_bl eas_nil)))))) eas_nil) (rc_repr (by decide +kernel) (by decide +kernel) (by decide +kernel) (by decide +kernel))) (rd_eqD (by decide +kernel) (by decide +kernel))) (congrArg PyData.bool (eqv_str _))) g4.sub fun u z Hk9 H9 g9 r9 p9 => ?_
        subst p9
        cases r9
        exact q _ (((((gb.trans gm).trans g4).trans g9).known).trans g9.sub)
end
end Lw
namespace Lw
open PySem PySem.Spec PyProof.Rows L2 Evl DL
theorem all_mk {l : PySem.W.OpenLaw} {w : World} {K : PySem.W.Frag} {h : Heap} {mg : Str → Option Value} {fa : Addr} (X : K.In h) (G : h.Ns mainGlobals mg) (hfa : mg "law" = some (.ref fa))
    {f__law_bag : Addr} {od__law_bag an__law_bag : Option Addr} {sl__law_bag : Array (Option Value)} {oc__law_bag kV__law_bag dc__law_bag pm__law_bag cd__law_bag ct__law_bag : Value}
    {f__law_draw : Addr} {od__law_draw an__law_draw : Option Addr} {sl__law_draw : Array (Option Value)} {oc__law_draw kV__law_draw dc__law_draw pm__law_draw cd__law_draw ct__law_draw : Value}
    {f__law_one_of : Addr} {od__law_one_of an__law_one_of : Option Addr} {sl__law_one_of : Array (Option Value)} {oc__law_one_of kV__law_one_of dc__law_one_of pm__law_one_of cd__law_one_of ct__law_one_of : Value}
    {f_is_whole : Addr} {od_is_whole an_is_whole : Option Addr} {sl_is_whole : Array (Option Value)} {oc_is_whole kV_is_whole dc_is_whole pm_is_whole cd_is_whole ct_is_whole : Value}
    {f_is_integer : Addr} {od_is_integer an_is_integer : Option Addr} {sl_is_integer : Array (Option Value)} {oc_is_integer kV_is_integer dc_is_integer pm_is_integer cd_is_integer ct_is_integer : Value}
    {f_less_lead : Addr} {od_less_lead an_less_lead : Option Addr} {sl_less_lead : Array (Option Value)} {oc_less_lead kV_less_lead dc_less_lead pm_less_lead cd_less_lead ct_less_lead : Value}
    {f_index_of_led : Addr} {od_index_of_led an_index_of_led : Option Addr} {sl_index_of_led : Array (Option Value)} {oc_index_of_led kV_index_of_led dc_index_of_led pm_index_of_led cd_index_of_led ct_index_of_led : Value}
    {kc_index_of_led kt_index_of_led : Addr} {ke_index_of_led : Value} {kd_index_of_led : Option Addr} {kv_index_of_led : Array Value} {ks_index_of_led : Array (Option Value)}
    {f_rank_of : Addr} {od_rank_of an_rank_of : Option Addr} {sl_rank_of : Array (Option Value)} {oc_rank_of kV_rank_of dc_rank_of pm_rank_of cd_rank_of ct_rank_of : Value}
    {f_is_row : Addr} {od_is_row an_is_row : Option Addr} {sl_is_row : Array (Option Value)} {oc_is_row kV_is_row dc_is_row pm_is_row cd_is_row ct_is_row : Value}
    {f_are_rows : Addr} {od_are_rows an_are_rows : Option Addr} {sl_are_rows : Array (Option Value)} {oc_are_rows kV_are_rows dc_are_rows pm_are_rows cd_are_rows ct_are_rows : Value}
    {f_require_rows : Addr} {od_require_rows an_require_rows : Option Addr} {sl_require_rows : Array (Option Value)} {oc_require_rows kV_require_rows dc_require_rows pm_require_rows cd_require_rows ct_require_rows : Value}
    {f_rank : Addr} {od_rank an_rank : Option Addr} {sl_rank : Array (Option Value)} {oc_rank kV_rank dc_rank pm_rank cd_rank ct_rank : Value}
    {f_are_free : Addr} {od_are_free an_are_free : Option Addr} {sl_are_free : Array (Option Value)} {oc_are_free kV_are_free dc_are_free pm_are_free cd_are_free ct_are_free : Value}
    {f__law_divisor : Addr} {od__law_divisor an__law_divisor : Option Addr} {sl__law_divisor : Array (Option Value)} {oc__law_divisor kV__law_divisor dc__law_divisor pm__law_divisor cd__law_divisor ct__law_divisor : Value}
    {f__law_cleared : Addr} {od__law_cleared an__law_cleared : Option Addr} {sl__law_cleared : Array (Option Value)} {oc__law_cleared kV__law_cleared dc__law_cleared pm__law_cleared cd__law_cleared ct__law_cleared : Value}
    {f__law_less : Addr} {od__law_less an__law_less : Option Addr} {sl__law_less : Array (Option Value)} {oc__law_less kV__law_less dc__law_less pm__law_less cd__law_less ct__law_less : Value}
    {f__law_leads : Addr} {od__law_leads an__law_leads : Option Addr} {sl__law_leads : Array (Option Value)} {oc__law_leads kV__law_leads dc__law_leads pm__law_leads cd__law_leads ct__law_leads : Value}
    {f__law_rank : Addr} {od__law_rank an__law_rank : Option Addr} {sl__law_rank : Array (Option Value)} {oc__law_rank kV__law_rank dc__law_rank pm__law_rank cd__law_rank ct__law_rank : Value}
    {f__law_factor : Addr} {od__law_factor an__law_factor : Option Addr} {sl__law_factor : Array (Option Value)} {oc__law_factor kV__law_factor dc__law_factor pm__law_factor cd__law_factor ct__law_factor : Value}
    {f__law_with_factors : Addr} {od__law_with_factors an__law_with_factors : Option Addr} {sl__law_with_factors : Array (Option Value)} {oc__law_with_factors kV__law_with_factors dc__law_with_factors pm__law_with_factors cd__law_with_factors ct__law_with_factors : Value}
    {f__law_drawn_rows : Addr} {od__law_drawn_rows an__law_drawn_rows : Option Addr} {sl__law_drawn_rows : Array (Option Value)} {oc__law_drawn_rows kV__law_drawn_rows dc__law_drawn_rows pm__law_drawn_rows cd__law_drawn_rows ct__law_drawn_rows : Value}
    {f__law_right : Addr} {od__law_right an__law_right : Option Addr} {sl__law_right : Array (Option Value)} {oc__law_right kV__law_right dc__law_right pm__law_right cd__law_right ct__law_right : Value}
    {f_law : Addr} {od_law an_law : Option Addr} {sl_law : Array (Option Value)} {oc_law kV_law dc_law pm_law cd_law ct_law : Value}
    {m_BEYOND : Int} {w_BEYOND : Tok}
    {w_MAX_ROWS : Tok}
    {w_MAX_WIDTH : Tok}
    (p__law_bag : PySem.W.nsIn K mainGlobals "_law_bag" = some (some (.ref f__law_bag)))
    (l__law_bag : K.lookup f__law_bag = some ⟨oc__law_bag, od__law_bag, .func (PySem.W.fnOf "_law_bag" "_law_bag" (defArgs s__law_bag) (defBody s__law_bag) (defScope s__law_bag) .none kV__law_bag dc__law_bag pm__law_bag an__law_bag cd__law_bag ct__law_bag), sl__law_bag⟩)
    (c__law_bag : PySem.W.codeIn K cd__law_bag "_law_bag" = true) (k__law_bag : PySem.W.keepIn K (.ref f__law_bag) = true)
    (p__law_draw : PySem.W.nsIn K mainGlobals "_law_draw" = some (some (.ref f__law_draw)))
    (l__law_draw : K.lookup f__law_draw = some ⟨oc__law_draw, od__law_draw, .func (PySem.W.fnOf "_law_draw" "_law_draw" (defArgs s__law_draw) (defBody s__law_draw) (defScope s__law_draw) .none kV__law_draw dc__law_draw pm__law_draw an__law_draw cd__law_draw ct__law_draw), sl__law_draw⟩)
    (c__law_draw : PySem.W.codeIn K cd__law_draw "_law_draw" = true) (k__law_draw : PySem.W.keepIn K (.ref f__law_draw) = true)
    (p__law_one_of : PySem.W.nsIn K mainGlobals "_law_one_of" = some (some (.ref f__law_one_of)))
    (l__law_one_of : K.lookup f__law_one_of = some ⟨oc__law_one_of, od__law_one_of, .func (PySem.W.fnOf "_law_one_of" "_law_one_of" (defArgs s__law_one_of) (defBody s__law_one_of) (defScope s__law_one_of) .none kV__law_one_of dc__law_one_of pm__law_one_of an__law_one_of cd__law_one_of ct__law_one_of), sl__law_one_of⟩)
    (c__law_one_of : PySem.W.codeIn K cd__law_one_of "_law_one_of" = true) (k__law_one_of : PySem.W.keepIn K (.ref f__law_one_of) = true)
    (p_is_whole : PySem.W.nsIn K mainGlobals "is_whole" = some (some (.ref f_is_whole)))
    (l_is_whole : K.lookup f_is_whole = some ⟨oc_is_whole, od_is_whole, .func (PySem.W.fnOf "is_whole" "is_whole" (defArgs s_is_whole) (defBody s_is_whole) (defScope s_is_whole) .none kV_is_whole dc_is_whole pm_is_whole an_is_whole cd_is_whole ct_is_whole), sl_is_whole⟩)
    (c_is_whole : PySem.W.codeIn K cd_is_whole "is_whole" = true) (k_is_whole : PySem.W.keepIn K (.ref f_is_whole) = true)
    (p_is_integer : PySem.W.nsIn K mainGlobals "is_integer" = some (some (.ref f_is_integer)))
    (l_is_integer : K.lookup f_is_integer = some ⟨oc_is_integer, od_is_integer, .func (PySem.W.fnOf "is_integer" "is_integer" (defArgs s_is_integer) (defBody s_is_integer) (defScope s_is_integer) .none kV_is_integer dc_is_integer pm_is_integer an_is_integer cd_is_integer ct_is_integer), sl_is_integer⟩)
    (c_is_integer : PySem.W.codeIn K cd_is_integer "is_integer" = true) (k_is_integer : PySem.W.keepIn K (.ref f_is_integer) = true)
    (p_less_lead : PySem.W.nsIn K mainGlobals "less_lead" = some (some (.ref f_less_lead)))
    (l_less_lead : K.lookup f_less_lead = some ⟨oc_less_lead, od_less_lead, .func (PySem.W.fnOf "less_lead" "less_lead" (defArgs s_less_lead) (defBody s_less_lead) (defScope s_less_lead) .none kV_less_lead dc_less_lead pm_less_lead an_less_lead cd_less_lead ct_less_lead), sl_less_lead⟩)
    (c_less_lead : PySem.W.codeIn K cd_less_lead "less_lead" = true) (k_less_lead : PySem.W.keepIn K (.ref f_less_lead) = true)
    (p_index_of_led : PySem.W.nsIn K mainGlobals "index_of_led" = some (some (.ref f_index_of_led)))
    (l_index_of_led : K.lookup f_index_of_led = some ⟨oc_index_of_led, od_index_of_led, .func (PySem.W.fnOf "index_of_led" "index_of_led" (defArgs s_index_of_led) (defBody s_index_of_led) (defScope s_index_of_led) .none kV_index_of_led dc_index_of_led pm_index_of_led an_index_of_led cd_index_of_led ct_index_of_led), sl_index_of_led⟩)
    (c_index_of_led : PySem.W.codeIn K cd_index_of_led "index_of_led" = true) (k_index_of_led : PySem.W.keepIn K (.ref f_index_of_led) = true)
    (p_rank_of : PySem.W.nsIn K mainGlobals "rank_of" = some (some (.ref f_rank_of)))
    (l_rank_of : K.lookup f_rank_of = some ⟨oc_rank_of, od_rank_of, .func (PySem.W.fnOf "rank_of" "rank_of" (defArgs s_rank_of) (defBody s_rank_of) (defScope s_rank_of) .none kV_rank_of dc_rank_of pm_rank_of an_rank_of cd_rank_of ct_rank_of), sl_rank_of⟩)
    (c_rank_of : PySem.W.codeIn K cd_rank_of "rank_of" = true) (k_rank_of : PySem.W.keepIn K (.ref f_rank_of) = true)
    (p_is_row : PySem.W.nsIn K mainGlobals "is_row" = some (some (.ref f_is_row)))
    (l_is_row : K.lookup f_is_row = some ⟨oc_is_row, od_is_row, .func (PySem.W.fnOf "is_row" "is_row" (defArgs s_is_row) (defBody s_is_row) (defScope s_is_row) .none kV_is_row dc_is_row pm_is_row an_is_row cd_is_row ct_is_row), sl_is_row⟩)
    (c_is_row : PySem.W.codeIn K cd_is_row "is_row" = true) (k_is_row : PySem.W.keepIn K (.ref f_is_row) = true)
    (p_are_rows : PySem.W.nsIn K mainGlobals "are_rows" = some (some (.ref f_are_rows)))
    (l_are_rows : K.lookup f_are_rows = some ⟨oc_are_rows, od_are_rows, .func (PySem.W.fnOf "are_rows" "are_rows" (defArgs s_are_rows) (defBody s_are_rows) (defScope s_are_rows) .none kV_are_rows dc_are_rows pm_are_rows an_are_rows cd_are_rows ct_are_rows), sl_are_rows⟩)
    (c_are_rows : PySem.W.codeIn K cd_are_rows "are_rows" = true) (k_are_rows : PySem.W.keepIn K (.ref f_are_rows) = true)
    (p_require_rows : PySem.W.nsIn K mainGlobals "require_rows" = some (some (.ref f_require_rows)))
    (l_require_rows : K.lookup f_require_rows = some ⟨oc_require_rows, od_require_rows, .func (PySem.W.fnOf "require_rows" "require_rows" (defArgs s_require_rows) (defBody s_require_rows) (defScope s_require_rows) .none kV_require_rows dc_require_rows pm_require_rows an_require_rows cd_require_rows ct_require_rows), sl_require_rows⟩)
    (c_require_rows : PySem.W.codeIn K cd_require_rows "require_rows" = true) (k_require_rows : PySem.W.keepIn K (.ref f_require_rows) = true)
    (p_rank : PySem.W.nsIn K mainGlobals "rank" = some (some (.ref f_rank)))
    (l_rank : K.lookup f_rank = some ⟨oc_rank, od_rank, .func (PySem.W.fnOf "rank" "rank" (defArgs s_rank) (defBody s_rank) (defScope s_rank) .none kV_rank dc_rank pm_rank an_rank cd_rank ct_rank), sl_rank⟩)
    (c_rank : PySem.W.codeIn K cd_rank "rank" = true) (k_rank : PySem.W.keepIn K (.ref f_rank) = true)
    (p_are_free : PySem.W.nsIn K mainGlobals "are_free" = some (some (.ref f_are_free)))
    (l_are_free : K.lookup f_are_free = some ⟨oc_are_free, od_are_free, .func (PySem.W.fnOf "are_free" "are_free" (defArgs s_are_free) (defBody s_are_free) (defScope s_are_free) .none kV_are_free dc_are_free pm_are_free an_are_free cd_are_free ct_are_free), sl_are_free⟩)
    (c_are_free : PySem.W.codeIn K cd_are_free "are_free" = true) (k_are_free : PySem.W.keepIn K (.ref f_are_free) = true)
    (p__law_divisor : PySem.W.nsIn K mainGlobals "_law_divisor" = some (some (.ref f__law_divisor)))
    (l__law_divisor : K.lookup f__law_divisor = some ⟨oc__law_divisor, od__law_divisor, .func (PySem.W.fnOf "_law_divisor" "_law_divisor" (defArgs s__law_divisor) (defBody s__law_divisor) (defScope s__law_divisor) .none kV__law_divisor dc__law_divisor pm__law_divisor an__law_divisor cd__law_divisor ct__law_divisor), sl__law_divisor⟩)
    (c__law_divisor : PySem.W.codeIn K cd__law_divisor "_law_divisor" = true) (k__law_divisor : PySem.W.keepIn K (.ref f__law_divisor) = true)
    (p__law_cleared : PySem.W.nsIn K mainGlobals "_law_cleared" = some (some (.ref f__law_cleared)))
    (l__law_cleared : K.lookup f__law_cleared = some ⟨oc__law_cleared, od__law_cleared, .func (PySem.W.fnOf "_law_cleared" "_law_cleared" (defArgs s__law_cleared) (defBody s__law_cleared) (defScope s__law_cleared) .none kV__law_cleared dc__law_cleared pm__law_cleared an__law_cleared cd__law_cleared ct__law_cleared), sl__law_cleared⟩)
    (c__law_cleared : PySem.W.codeIn K cd__law_cleared "_law_cleared" = true) (k__law_cleared : PySem.W.keepIn K (.ref f__law_cleared) = true)
    (p__law_less : PySem.W.nsIn K mainGlobals "_law_less" = some (some (.ref f__law_less)))
    (l__law_less : K.lookup f__law_less = some ⟨oc__law_less, od__law_less, .func (PySem.W.fnOf "_law_less" "_law_less" (defArgs s__law_less) (defBody s__law_less) (defScope s__law_less) .none kV__law_less dc__law_less pm__law_less an__law_less cd__law_less ct__law_less), sl__law_less⟩)
    (c__law_less : PySem.W.codeIn K cd__law_less "_law_less" = true) (k__law_less : PySem.W.keepIn K (.ref f__law_less) = true)
    (p__law_leads : PySem.W.nsIn K mainGlobals "_law_leads" = some (some (.ref f__law_leads)))
    (l__law_leads : K.lookup f__law_leads = some ⟨oc__law_leads, od__law_leads, .func (PySem.W.fnOf "_law_leads" "_law_leads" (defArgs s__law_leads) (defBody s__law_leads) (defScope s__law_leads) .none kV__law_leads dc__law_leads pm__law_leads an__law_leads cd__law_leads ct__law_leads), sl__law_leads⟩)
    (c__law_leads : PySem.W.codeIn K cd__law_leads "_law_leads" = true) (k__law_leads : PySem.W.keepIn K (.ref f__law_leads) = true)
    (p__law_rank : PySem.W.nsIn K mainGlobals "_law_rank" = some (some (.ref f__law_rank)))
    (l__law_rank : K.lookup f__law_rank = some ⟨oc__law_rank, od__law_rank, .func (PySem.W.fnOf "_law_rank" "_law_rank" (defArgs s__law_rank) (defBody s__law_rank) (defScope s__law_rank) .none kV__law_rank dc__law_rank pm__law_rank an__law_rank cd__law_rank ct__law_rank), sl__law_rank⟩)
    (c__law_rank : PySem.W.codeIn K cd__law_rank "_law_rank" = true) (k__law_rank : PySem.W.keepIn K (.ref f__law_rank) = true)
    (p__law_factor : PySem.W.nsIn K mainGlobals "_law_factor" = some (some (.ref f__law_factor)))
    (l__law_factor : K.lookup f__law_factor = some ⟨oc__law_factor, od__law_factor, .func (PySem.W.fnOf "_law_factor" "_law_factor" (defArgs s__law_factor) (defBody s__law_factor) (defScope s__law_factor) .none kV__law_factor dc__law_factor pm__law_factor an__law_factor cd__law_factor ct__law_factor), sl__law_factor⟩)
    (c__law_factor : PySem.W.codeIn K cd__law_factor "_law_factor" = true) (k__law_factor : PySem.W.keepIn K (.ref f__law_factor) = true)
    (p__law_with_factors : PySem.W.nsIn K mainGlobals "_law_with_factors" = some (some (.ref f__law_with_factors)))
    (l__law_with_factors : K.lookup f__law_with_factors = some ⟨oc__law_with_factors, od__law_with_factors, .func (PySem.W.fnOf "_law_with_factors" "_law_with_factors" (defArgs s__law_with_factors) (defBody s__law_with_factors) (defScope s__law_with_factors) .none kV__law_with_factors dc__law_with_factors pm__law_with_factors an__law_with_factors cd__law_with_factors ct__law_with_factors), sl__law_with_factors⟩)
    (c__law_with_factors : PySem.W.codeIn K cd__law_with_factors "_law_with_factors" = true) (k__law_with_factors : PySem.W.keepIn K (.ref f__law_with_factors) = true)
    (p__law_drawn_rows : PySem.W.nsIn K mainGlobals "_law_drawn_rows" = some (some (.ref f__law_drawn_rows)))
    (l__law_drawn_rows : K.lookup f__law_drawn_rows = some ⟨oc__law_drawn_rows, od__law_drawn_rows, .func (PySem.W.fnOf "_law_drawn_rows" "_law_drawn_rows" (defArgs s__law_drawn_rows) (defBody s__law_drawn_rows) (defScope s__law_drawn_rows) .none kV__law_drawn_rows dc__law_drawn_rows pm__law_drawn_rows an__law_drawn_rows cd__law_drawn_rows ct__law_drawn_rows), sl__law_drawn_rows⟩)
    (c__law_drawn_rows : PySem.W.codeIn K cd__law_drawn_rows "_law_drawn_rows" = true) (k__law_drawn_rows : PySem.W.keepIn K (.ref f__law_drawn_rows) = true)
    (p__law_right : PySem.W.nsIn K mainGlobals "_law_right" = some (some (.ref f__law_right)))
    (l__law_right : K.lookup f__law_right = some ⟨oc__law_right, od__law_right, .func (PySem.W.fnOf "_law_right" "_law_right" (defArgs s__law_right) (defBody s__law_right) (defScope s__law_right) .none kV__law_right dc__law_right pm__law_right an__law_right cd__law_right ct__law_right), sl__law_right⟩)
    (c__law_right : PySem.W.codeIn K cd__law_right "_law_right" = true) (k__law_right : PySem.W.keepIn K (.ref f__law_right) = true)
    (p_law : PySem.W.nsIn K mainGlobals "law" = some (some (.ref f_law)))
    (l_law : K.lookup f_law = some ⟨oc_law, od_law, .func (PySem.W.fnOf "law" "law" (defArgs s_law) (defBody s_law) (defScope s_law) .none kV_law dc_law pm_law an_law cd_law ct_law), sl_law⟩)
    (c_law : PySem.W.codeIn K cd_law "law" = true) (k_law : PySem.W.keepIn K (.ref f_law) = true)
    (z_abs : PySem.W.nsIn K mainGlobals "abs" = some none)
    (z_all : PySem.W.nsIn K mainGlobals "all" = some none)
    (z_bool : PySem.W.nsIn K mainGlobals "bool" = some none)
    (z_enumerate : PySem.W.nsIn K mainGlobals "enumerate" = some none)
    (z_index : PySem.W.nsIn K mainGlobals "index" = some none)
    (z_int : PySem.W.nsIn K mainGlobals "int" = some none)
    (z_isinstance : PySem.W.nsIn K mainGlobals "isinstance" = some none)
    (z_len : PySem.W.nsIn K mainGlobals "len" = some none)
    (z_list : PySem.W.nsIn K mainGlobals "list" = some none)
    (z_max : PySem.W.nsIn K mainGlobals "max" = some none)
    (z_min : PySem.W.nsIn K mainGlobals "min" = some none)
    (z_next : PySem.W.nsIn K mainGlobals "next" = some none)
    (z_range : PySem.W.nsIn K mainGlobals "range" = some none)
    (z_repr : PySem.W.nsIn K mainGlobals "repr" = some none)
    (z_row : PySem.W.nsIn K mainGlobals "row" = some none)
    (z_sum : PySem.W.nsIn K mainGlobals "sum" = some none)
    (z_tuple : PySem.W.nsIn K mainGlobals "tuple" = some none)
    (z_zip : PySem.W.nsIn K mainGlobals "zip" = some none)
    (v_BEYOND : PySem.W.nsIn K mainGlobals "BEYOND" = some (some (.int m_BEYOND w_BEYOND))) (e_BEYOND : m_BEYOND = (BEY : Int))
    (v_MAX_ROWS : PySem.W.nsIn K mainGlobals "MAX_ROWS" = some (some (.int 60 w_MAX_ROWS)))
    (v_MAX_WIDTH : PySem.W.nsIn K mainGlobals "MAX_WIDTH" = some (some (.int 28 w_MAX_WIDTH)))
    (q_index_of_led : cd_index_of_led = .ref kc_index_of_led) (n_index_of_led : K.lookup kc_index_of_led = some ⟨ke_index_of_led, kd_index_of_led, .fields kv_index_of_led, ks_index_of_led⟩) (r_index_of_led : kv_index_of_led[11]? = some (.ref kt_index_of_led)) (x_index_of_led : K.lookup kt_index_of_led = none)
    : ∃ (fd : FuncData) (cs : List (Str × Addr × Addr)), (∀ p ∈ cs, p.1 ∈ (["index_of_led"] : List Str) ∧ PySem.W.tabIn K p.1 = some p.2 ∧ K.lookup p.2.2 = none) ∧ (∀ (s : Shared) (v : Value), BindsTo s fd ⟨[v], []⟩ [("_law_script", v)]) ∧ ∀ base : Heap, K.In base → base.Ns mainGlobals mg → (∀ p ∈ cs.map (·.2), GxR.TabB base mg p.1 p.2) → FnG l.prog w K mg base CX0 8 fa fd ["_law_script"] (spLawT K ((cs.map (·.2)).map (·.2))) := by
  have e : fa = f_law := by
    have z := hfa.symm.trans (PySem.W.mg_of X G p_law)
    cases z
    rfl
  rw [e]
  let T : Tx K mg := {
    a__law_bag := f__law_bag, d__law_bag := (PySem.W.fnOf "_law_bag" "_law_bag" (defArgs s__law_bag) (defBody s__law_bag) (defScope s__law_bag) .none kV__law_bag dc__law_bag pm__law_bag an__law_bag cd__law_bag ct__law_bag), F__law_bag := fun_mk (st := s__law_bag) l__law_bag c__law_bag k__law_bag,
    b__law_bag := (fun_mk (st := s__law_bag) l__law_bag c__law_bag k__law_bag).binds (ps := ["_law_script", "_law_at"]) fun _ _ _ _ _ _ us hl => match us, hl with | [_, _], _ => rfl,
    g__law_bag := PySem.W.mg_of X G p__law_bag,
    a__law_draw := f__law_draw, d__law_draw := (PySem.W.fnOf "_law_draw" "_law_draw" (defArgs s__law_draw) (defBody s__law_draw) (defScope s__law_draw) .none kV__law_draw dc__law_draw pm__law_draw an__law_draw cd__law_draw ct__law_draw), F__law_draw := fun_mk (st := s__law_draw) l__law_draw c__law_draw k__law_draw,
    b__law_draw := (fun_mk (st := s__law_draw) l__law_draw c__law_draw k__law_draw).binds (ps := ["_law_bag_here", "_law_total"]) fun _ _ _ _ _ _ us hl => match us, hl with | [_, _], _ => rfl,
    g__law_draw := PySem.W.mg_of X G p__law_draw,
    a__law_one_of := f__law_one_of, d__law_one_of := (PySem.W.fnOf "_law_one_of" "_law_one_of" (defArgs s__law_one_of) (defBody s__law_one_of) (defScope s__law_one_of) .none kV__law_one_of dc__law_one_of pm__law_one_of an__law_one_of cd__law_one_of ct__law_one_of), F__law_one_of := fun_mk (st := s__law_one_of) l__law_one_of c__law_one_of k__law_one_of,
    b__law_one_of := (fun_mk (st := s__law_one_of) l__law_one_of c__law_one_of k__law_one_of).binds (ps := ["_law_bag_here", "_law_items"]) fun _ _ _ _ _ _ us hl => match us, hl with | [_, _], _ => rfl,
    g__law_one_of := PySem.W.mg_of X G p__law_one_of,
    a_is_whole := f_is_whole, d_is_whole := (PySem.W.fnOf "is_whole" "is_whole" (defArgs s_is_whole) (defBody s_is_whole) (defScope s_is_whole) .none kV_is_whole dc_is_whole pm_is_whole an_is_whole cd_is_whole ct_is_whole), F_is_whole := fun_mk (st := s_is_whole) l_is_whole c_is_whole k_is_whole,
    b_is_whole := (fun_mk (st := s_is_whole) l_is_whole c_is_whole k_is_whole).binds (ps := ["value"]) fun _ _ _ _ _ _ us hl => match us, hl with | [_], _ => rfl,
    g_is_whole := PySem.W.mg_of X G p_is_whole,
    a_is_integer := f_is_integer, d_is_integer := (PySem.W.fnOf "is_integer" "is_integer" (defArgs s_is_integer) (defBody s_is_integer) (defScope s_is_integer) .none kV_is_integer dc_is_integer pm_is_integer an_is_integer cd_is_integer ct_is_integer), F_is_integer := fun_mk (st := s_is_integer) l_is_integer c_is_integer k_is_integer,
    b_is_integer := (fun_mk (st := s_is_integer) l_is_integer c_is_integer k_is_integer).binds (ps := ["value"]) fun _ _ _ _ _ _ us hl => match us, hl with | [_], _ => rfl,
    g_is_integer := PySem.W.mg_of X G p_is_integer,
    a_less_lead := f_less_lead, d_less_lead := (PySem.W.fnOf "less_lead" "less_lead" (defArgs s_less_lead) (defBody s_less_lead) (defScope s_less_lead) .none kV_less_lead dc_less_lead pm_less_lead an_less_lead cd_less_lead ct_less_lead), F_less_lead := fun_mk (st := s_less_lead) l_less_lead c_less_lead k_less_lead,
    b_less_lead := (fun_mk (st := s_less_lead) l_less_lead c_less_lead k_less_lead).binds (ps := ["row", "lead", "column", "divisor"]) fun _ _ _ _ _ _ us hl => match us, hl with | [_, _, _, _], _ => rfl,
    g_less_lead := PySem.W.mg_of X G p_less_lead,
    k_index_of_led := kc_index_of_led, t_index_of_led := kt_index_of_led, u_index_of_led := q_index_of_led,
    a_index_of_led := f_index_of_led, d_index_of_led := (PySem.W.fnOf "index_of_led" "index_of_led" (defArgs s_index_of_led) (defBody s_index_of_led) (defScope s_index_of_led) .none kV_index_of_led dc_index_of_led pm_index_of_led an_index_of_led cd_index_of_led ct_index_of_led), F_index_of_led := fun_mk (st := s_index_of_led) l_index_of_led c_index_of_led k_index_of_led,
    b_index_of_led := (fun_mk (st := s_index_of_led) l_index_of_led c_index_of_led k_index_of_led).binds (ps := ["rows", "column"]) fun _ _ _ _ _ _ us hl => match us, hl with | [_, _], _ => rfl,
    g_index_of_led := PySem.W.mg_of X G p_index_of_led,
    a_rank_of := f_rank_of, d_rank_of := (PySem.W.fnOf "rank_of" "rank_of" (defArgs s_rank_of) (defBody s_rank_of) (defScope s_rank_of) .none kV_rank_of dc_rank_of pm_rank_of an_rank_of cd_rank_of ct_rank_of), F_rank_of := fun_mk (st := s_rank_of) l_rank_of c_rank_of k_rank_of,
    b_rank_of := (fun_mk (st := s_rank_of) l_rank_of c_rank_of k_rank_of).binds (ps := ["rows"]) fun _ _ _ _ _ _ us hl => match us, hl with | [_], _ => rfl,
    g_rank_of := PySem.W.mg_of X G p_rank_of,
    a_is_row := f_is_row, d_is_row := (PySem.W.fnOf "is_row" "is_row" (defArgs s_is_row) (defBody s_is_row) (defScope s_is_row) .none kV_is_row dc_is_row pm_is_row an_is_row cd_is_row ct_is_row), F_is_row := fun_mk (st := s_is_row) l_is_row c_is_row k_is_row,
    b_is_row := (fun_mk (st := s_is_row) l_is_row c_is_row k_is_row).binds (ps := ["value"]) fun _ _ _ _ _ _ us hl => match us, hl with | [_], _ => rfl,
    g_is_row := PySem.W.mg_of X G p_is_row,
    a_are_rows := f_are_rows, d_are_rows := (PySem.W.fnOf "are_rows" "are_rows" (defArgs s_are_rows) (defBody s_are_rows) (defScope s_are_rows) .none kV_are_rows dc_are_rows pm_are_rows an_are_rows cd_are_rows ct_are_rows), F_are_rows := fun_mk (st := s_are_rows) l_are_rows c_are_rows k_are_rows,
    b_are_rows := (fun_mk (st := s_are_rows) l_are_rows c_are_rows k_are_rows).binds (ps := ["value"]) fun _ _ _ _ _ _ us hl => match us, hl with | [_], _ => rfl,
    g_are_rows := PySem.W.mg_of X G p_are_rows,
    a_require_rows := f_require_rows, d_require_rows := (PySem.W.fnOf "require_rows" "require_rows" (defArgs s_require_rows) (defBody s_require_rows) (defScope s_require_rows) .none kV_require_rows dc_require_rows pm_require_rows an_require_rows cd_require_rows ct_require_rows), F_require_rows := fun_mk (st := s_require_rows) l_require_rows c_require_rows k_require_rows,
    b_require_rows := (fun_mk (st := s_require_rows) l_require_rows c_require_rows k_require_rows).binds (ps := ["rows"]) fun _ _ _ _ _ _ us hl => match us, hl with | [_], _ => rfl,
    g_require_rows := PySem.W.mg_of X G p_require_rows,
    a_rank := f_rank, d_rank := (PySem.W.fnOf "rank" "rank" (defArgs s_rank) (defBody s_rank) (defScope s_rank) .none kV_rank dc_rank pm_rank an_rank cd_rank ct_rank), F_rank := fun_mk (st := s_rank) l_rank c_rank k_rank,
    b_rank := (fun_mk (st := s_rank) l_rank c_rank k_rank).binds (ps := ["rows"]) fun _ _ _ _ _ _ us hl => match us, hl with | [_], _ => rfl,
    g_rank := PySem.W.mg_of X G p_rank,
    a_are_free := f_are_free, d_are_free := (PySem.W.fnOf "are_free" "are_free" (defArgs s_are_free) (defBody s_are_free) (defScope s_are_free) .none kV_are_free dc_are_free pm_are_free an_are_free cd_are_free ct_are_free), F_are_free := fun_mk (st := s_are_free) l_are_free c_are_free k_are_free,
    b_are_free := (fun_mk (st := s_are_free) l_are_free c_are_free k_are_free).binds (ps := ["rows"]) fun _ _ _ _ _ _ us hl => match us, hl with | [_], _ => rfl,
    g_are_free := PySem.W.mg_of X G p_are_free,
    a__law_divisor := f__law_divisor, d__law_divisor := (PySem.W.fnOf "_law_divisor" "_law_divisor" (defArgs s__law_divisor) (defBody s__law_divisor) (defScope s__law_divisor) .none kV__law_divisor dc__law_divisor pm__law_divisor an__law_divisor cd__law_divisor ct__law_divisor), F__law_divisor := fun_mk (st := s__law_divisor) l__law_divisor c__law_divisor k__law_divisor,
    b__law_divisor := (fun_mk (st := s__law_divisor) l__law_divisor c__law_divisor k__law_divisor).binds (ps := ["_law_numbers"]) fun _ _ _ _ _ _ us hl => match us, hl with | [_], _ => rfl,
    g__law_divisor := PySem.W.mg_of X G p__law_divisor,
    a__law_cleared := f__law_cleared, d__law_cleared := (PySem.W.fnOf "_law_cleared" "_law_cleared" (defArgs s__law_cleared) (defBody s__law_cleared) (defScope s__law_cleared) .none kV__law_cleared dc__law_cleared pm__law_cleared an__law_cleared cd__law_cleared ct__law_cleared), F__law_cleared := fun_mk (st := s__law_cleared) l__law_cleared c__law_cleared k__law_cleared,
    b__law_cleared := (fun_mk (st := s__law_cleared) l__law_cleared c__law_cleared k__law_cleared).binds (ps := ["_law_row"]) fun _ _ _ _ _ _ us hl => match us, hl with | [_], _ => rfl,
    g__law_cleared := PySem.W.mg_of X G p__law_cleared,
    a__law_less := f__law_less, d__law_less := (PySem.W.fnOf "_law_less" "_law_less" (defArgs s__law_less) (defBody s__law_less) (defScope s__law_less) .none kV__law_less dc__law_less pm__law_less an__law_less cd__law_less ct__law_less), F__law_less := fun_mk (st := s__law_less) l__law_less c__law_less k__law_less,
    b__law_less := (fun_mk (st := s__law_less) l__law_less c__law_less k__law_less).binds (ps := ["_law_row", "_law_head", "_law_column"]) fun _ _ _ _ _ _ us hl => match us, hl with | [_, _, _], _ => rfl,
    g__law_less := PySem.W.mg_of X G p__law_less,
    a__law_leads := f__law_leads, d__law_leads := (PySem.W.fnOf "_law_leads" "_law_leads" (defArgs s__law_leads) (defBody s__law_leads) (defScope s__law_leads) .none kV__law_leads dc__law_leads pm__law_leads an__law_leads cd__law_leads ct__law_leads), F__law_leads := fun_mk (st := s__law_leads) l__law_leads c__law_leads k__law_leads,
    b__law_leads := (fun_mk (st := s__law_leads) l__law_leads c__law_leads k__law_leads).binds (ps := ["_law_rows", "_law_width"]) fun _ _ _ _ _ _ us hl => match us, hl with | [_, _], _ => rfl,
    g__law_leads := PySem.W.mg_of X G p__law_leads,
    a__law_rank := f__law_rank, d__law_rank := (PySem.W.fnOf "_law_rank" "_law_rank" (defArgs s__law_rank) (defBody s__law_rank) (defScope s__law_rank) .none kV__law_rank dc__law_rank pm__law_rank an__law_rank cd__law_rank ct__law_rank), F__law_rank := fun_mk (st := s__law_rank) l__law_rank c__law_rank k__law_rank,
    b__law_rank := (fun_mk (st := s__law_rank) l__law_rank c__law_rank k__law_rank).binds (ps := ["_law_rows"]) fun _ _ _ _ _ _ us hl => match us, hl with | [_], _ => rfl,
    g__law_rank := PySem.W.mg_of X G p__law_rank,
    a__law_factor := f__law_factor, d__law_factor := (PySem.W.fnOf "_law_factor" "_law_factor" (defArgs s__law_factor) (defBody s__law_factor) (defScope s__law_factor) .none kV__law_factor dc__law_factor pm__law_factor an__law_factor cd__law_factor ct__law_factor), F__law_factor := fun_mk (st := s__law_factor) l__law_factor c__law_factor k__law_factor,
    b__law_factor := (fun_mk (st := s__law_factor) l__law_factor c__law_factor k__law_factor).binds (ps := ["_law_bag_here"]) fun _ _ _ _ _ _ us hl => match us, hl with | [_], _ => rfl,
    g__law_factor := PySem.W.mg_of X G p__law_factor,
    a__law_with_factors := f__law_with_factors, d__law_with_factors := (PySem.W.fnOf "_law_with_factors" "_law_with_factors" (defArgs s__law_with_factors) (defBody s__law_with_factors) (defScope s__law_with_factors) .none kV__law_with_factors dc__law_with_factors pm__law_with_factors an__law_with_factors cd__law_with_factors ct__law_with_factors), F__law_with_factors := fun_mk (st := s__law_with_factors) l__law_with_factors c__law_with_factors k__law_with_factors,
    b__law_with_factors := (fun_mk (st := s__law_with_factors) l__law_with_factors c__law_with_factors k__law_with_factors).binds (ps := ["_law_bag_here", "_law_rows"]) fun _ _ _ _ _ _ us hl => match us, hl with | [_, _], _ => rfl,
    g__law_with_factors := PySem.W.mg_of X G p__law_with_factors,
    a__law_drawn_rows := f__law_drawn_rows, d__law_drawn_rows := (PySem.W.fnOf "_law_drawn_rows" "_law_drawn_rows" (defArgs s__law_drawn_rows) (defBody s__law_drawn_rows) (defScope s__law_drawn_rows) .none kV__law_drawn_rows dc__law_drawn_rows pm__law_drawn_rows an__law_drawn_rows cd__law_drawn_rows ct__law_drawn_rows), F__law_drawn_rows := fun_mk (st := s__law_drawn_rows) l__law_drawn_rows c__law_drawn_rows k__law_drawn_rows,
    b__law_drawn_rows := (fun_mk (st := s__law_drawn_rows) l__law_drawn_rows c__law_drawn_rows k__law_drawn_rows).binds (ps := ["_law_bag_here", "_law_width"]) fun _ _ _ _ _ _ us hl => match us, hl with | [_, _], _ => rfl,
    g__law_drawn_rows := PySem.W.mg_of X G p__law_drawn_rows,
    a__law_right := f__law_right, d__law_right := (PySem.W.fnOf "_law_right" "_law_right" (defArgs s__law_right) (defBody s__law_right) (defScope s__law_right) .none kV__law_right dc__law_right pm__law_right an__law_right cd__law_right ct__law_right), F__law_right := fun_mk (st := s__law_right) l__law_right c__law_right k__law_right,
    b__law_right := (fun_mk (st := s__law_right) l__law_right c__law_right k__law_right).binds (ps := ["_law_bag_here"]) fun _ _ _ _ _ _ us hl => match us, hl with | [_], _ => rfl,
    g__law_right := PySem.W.mg_of X G p__law_right,
    a_law := f_law, d_law := (PySem.W.fnOf "law" "law" (defArgs s_law) (defBody s_law) (defScope s_law) .none kV_law dc_law pm_law an_law cd_law ct_law), F_law := fun_mk (st := s_law) l_law c_law k_law,
    b_law := (fun_mk (st := s_law) l_law c_law k_law).binds (ps := ["_law_script"]) fun _ _ _ _ _ _ us hl => match us, hl with | [_], _ => rfl,
    g_law := PySem.W.mg_of X G p_law,
    n_abs := PySem.W.mg_none_of X G z_abs,
    n_all := PySem.W.mg_none_of X G z_all,
    n_bool := PySem.W.mg_none_of X G z_bool,
    n_enumerate := PySem.W.mg_none_of X G z_enumerate,
    n_index := PySem.W.mg_none_of X G z_index,
    n_int := PySem.W.mg_none_of X G z_int,
    n_isinstance := PySem.W.mg_none_of X G z_isinstance,
    n_len := PySem.W.mg_none_of X G z_len,
    n_list := PySem.W.mg_none_of X G z_list,
    n_max := PySem.W.mg_none_of X G z_max,
    n_min := PySem.W.mg_none_of X G z_min,
    n_next := PySem.W.mg_none_of X G z_next,
    n_range := PySem.W.mg_none_of X G z_range,
    n_repr := PySem.W.mg_none_of X G z_repr,
    n_row := PySem.W.mg_none_of X G z_row,
    n_sum := PySem.W.mg_none_of X G z_sum,
    n_tuple := PySem.W.mg_none_of X G z_tuple,
    n_zip := PySem.W.mg_none_of X G z_zip,
    t_BEYOND := w_BEYOND, c_BEYOND := by subst e_BEYOND; exact PySem.W.mg_of X G v_BEYOND,
    t_MAX_ROWS := w_MAX_ROWS, c_MAX_ROWS := PySem.W.mg_of X G v_MAX_ROWS,
    t_MAX_WIDTH := w_MAX_WIDTH, c_MAX_WIDTH := PySem.W.mg_of X G v_MAX_WIDTH }
  exact ⟨(PySem.W.fnOf "law" "law" (defArgs s_law) (defBody s_law) (defScope s_law) .none kV_law dc_law pm_law an_law cd_law ct_law), [("index_of_led", kc_index_of_led, kt_index_of_led)], fun p hp => (by obtain rfl := List.mem_singleton.mp hp; exact ⟨List.mem_singleton.mpr rfl, DL.tab_in p_index_of_led l_index_of_led q_index_of_led n_index_of_led r_index_of_led, x_index_of_led⟩), fun s v => .of_eq rfl, fun base _ _ hB => ok_law T (hB (kc_index_of_led, kt_index_of_led) (List.mem_singleton.mpr rfl))⟩
end Lw
open PySem PySem.W PyProof.Rows
set_option maxRecDepth 100000 in
set_option maxHeartbeats 0 in
theorem PySem.Challenge.cw_lengthstell_k02_rows_free_of_one_another_holds : PySem.Challenge.rw_lengthstell_k02_rows_free_of_one_another.Holds := by
  w_on; o_law; k_head; (case hw => w_witness2)
  k_fill
  refine DL.walkT (l := PySem.Challenge.rw_lengthstell_k02_rows_free_of_one_another) (k := 8) (x := "_law_script") ["index_of_led"] rfl rfl ⟨rfl, by decide, by decide⟩ (fun w h Y => PySem.W.kIn_of Y) (fun x hx => (by obtain rfl := List.mem_singleton.mp hx; exact Option.isSome_iff_exists.mp (by decide +kernel))) ?F
  case F =>
    intro w mg fa h KX G hmg
    refine' Lw.all_mk KX G hmg ?p__law_bag ?l__law_bag ?c__law_bag ?k__law_bag ?p__law_draw ?l__law_draw ?c__law_draw ?k__law_draw ?p__law_one_of ?l__law_one_of ?c__law_one_of ?k__law_one_of ?p_is_whole ?l_is_whole ?c_is_whole ?k_is_whole ?p_is_integer ?l_is_integer ?c_is_integer ?k_is_integer ?p_less_lead ?l_less_lead ?c_less_lead ?k_less_lead ?p_index_of_led ?l_index_of_led ?c_index_of_led ?k_index_of_led ?p_rank_of ?l_rank_of ?c_rank_of ?k_rank_of ?p_is_row ?l_is_row ?c_is_row ?k_is_row ?p_are_rows ?l_are_rows ?c_are_rows ?k_are_rows ?p_require_rows ?l_require_rows ?c_require_rows ?k_require_rows ?p_rank ?l_rank ?c_rank ?k_rank ?p_are_free ?l_are_free ?c_are_free ?k_are_free ?p__law_divisor ?l__law_divisor ?c__law_divisor ?k__law_divisor ?p__law_cleared ?l__law_cleared ?c__law_cleared ?k__law_cleared ?p__law_less ?l__law_less ?c__law_less ?k__law_less ?p__law_leads ?l__law_leads ?c__law_leads ?k__law_leads ?p__law_rank ?l__law_rank ?c__law_rank ?k__law_rank ?p__law_factor ?l__law_factor ?c__law_factor ?k__law_factor ?p__law_with_factors ?l__law_with_factors ?c__law_with_factors ?k__law_with_factors ?p__law_drawn_rows ?l__law_drawn_rows ?c__law_drawn_rows ?k__law_drawn_rows ?p__law_right ?l__law_right ?c__law_right ?k__law_right ?p_law ?l_law ?c_law ?k_law ?z_abs ?z_all ?z_bool ?z_enumerate ?z_index ?z_int ?z_isinstance ?z_len ?z_list ?z_max ?z_min ?z_next ?z_range ?z_repr ?z_row ?z_sum ?z_tuple ?z_zip ?v_BEYOND ?e_BEYOND ?v_MAX_ROWS ?v_MAX_WIDTH ?q_index_of_led ?n_index_of_led ?r_index_of_led ?x_index_of_led
    (case p__law_bag => k_is)
    (case l__law_bag => k_is)
    (case c__law_bag => k_is)
    (case k__law_bag => k_is)
    (case p__law_draw => k_is)
    (case l__law_draw => k_is)
    (case c__law_draw => k_is)
    (case k__law_draw => k_is)
    (case p__law_one_of => k_is)
    (case l__law_one_of => k_is)
    (case c__law_one_of => k_is)
    (case k__law_one_of => k_is)
    (case p_is_whole => k_is)
    (case l_is_whole => k_is)
    (case c_is_whole => k_is)
    (case k_is_whole => k_is)
    (case p_is_integer => k_is)
    (case l_is_integer => k_is)
    (case c_is_integer => k_is)
    (case k_is_integer => k_is)
    (case p_less_lead => k_is)
    (case l_less_lead => k_is)
    (case c_less_lead => k_is)
    (case k_less_lead => k_is)
    (case p_index_of_led => k_is)
    (case l_index_of_led => k_is)
    (case c_index_of_led => k_is)
    (case k_index_of_led => k_is)
    (case p_rank_of => k_is)
    (case l_rank_of => k_is)
    (case c_rank_of => k_is)
    (case k_rank_of => k_is)
    (case p_is_row => k_is)
    (case l_is_row => k_is)
    (case c_is_row => k_is)
    (case k_is_row => k_is)
    (case p_are_rows => k_is)
    (case l_are_rows => k_is)
    (case c_are_rows => k_is)
    (case k_are_rows => k_is)
    (case p_require_rows => k_is)
    (case l_require_rows => k_is)
    (case c_require_rows => k_is)
    (case k_require_rows => k_is)
    (case p_rank => k_is)
    (case l_rank => k_is)
    (case c_rank => k_is)
    (case k_rank => k_is)
    (case p_are_free => k_is)
    (case l_are_free => k_is)
    (case c_are_free => k_is)
    (case k_are_free => k_is)
    (case p__law_divisor => k_is)
    (case l__law_divisor => k_is)
    (case c__law_divisor => k_is)
    (case k__law_divisor => k_is)
    (case p__law_cleared => k_is)
    (case l__law_cleared => k_is)
    (case c__law_cleared => k_is)
    (case k__law_cleared => k_is)
    (case p__law_less => k_is)
    (case l__law_less => k_is)
    (case c__law_less => k_is)
    (case k__law_less => k_is)
    (case p__law_leads => k_is)
    (case l__law_leads => k_is)
    (case c__law_leads => k_is)
    (case k__law_leads => k_is)
    (case p__law_rank => k_is)
    (case l__law_rank => k_is)
    (case c__law_rank => k_is)
    (case k__law_rank => k_is)
    (case p__law_factor => k_is)
    (case l__law_factor => k_is)
    (case c__law_factor => k_is)
    (case k__law_factor => k_is)
    (case p__law_with_factors => k_is)
    (case l__law_with_factors => k_is)
    (case c__law_with_factors => k_is)
    (case k__law_with_factors => k_is)
    (case p__law_drawn_rows => k_is)
    (case l__law_drawn_rows => k_is)
    (case c__law_drawn_rows => k_is)
    (case k__law_drawn_rows => k_is)
    (case p__law_right => k_is)
    (case l__law_right => k_is)
    (case c__law_right => k_is)
    (case k__law_right => k_is)
    (case p_law => k_is)
    (case l_law => k_is)
    (case c_law => k_is)
    (case k_law => k_is)
    (case z_abs => k_is)
    (case z_all => k_is)
    (case z_bool => k_is)
    (case z_enumerate => k_is)
    (case z_index => k_is)
    (case z_int => k_is)
    (case z_isinstance => k_is)
    (case z_len => k_is)
    (case z_list => k_is)
    (case z_max => k_is)
    (case z_min => k_is)
    (case z_next => k_is)
    (case z_range => k_is)
    (case z_repr => k_is)
    (case z_row => k_is)
    (case z_sum => k_is)
    (case z_tuple => k_is)
    (case z_zip => k_is)
    (case v_BEYOND => k_is)
    (case v_MAX_ROWS => k_is)
    (case v_MAX_WIDTH => k_is)
    (case q_index_of_led => rfl)
    (case n_index_of_led => k_is)
    (case r_index_of_led => rfl)
    (case x_index_of_led => first | rfl | with_unfolding_all rfl | kernel_rfl)
    (case e_BEYOND => (unfold DL.BEY; decide +kernel))
