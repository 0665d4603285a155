import PyProof.Rows.All
import Wide.All
import OpenK.AllK
import Wide.FinOn
import HandS.ForMost
import HandS.Walk
import HandS.Evl
import HandS.IsInst
import HandS.Wide
import HandS.Steps
import HandS.TupAny
import HandS.Zip
import HandS.TupMul
import HandS.Deep
import HandS.Flow
import PySem.Challenge.RW_lengthstell_k01_words_and_lots
set_option Elab.async false
set_option linter.all false
set_option maxRecDepth 100000
set_option maxHeartbeats 4000000
namespace DL
open PySem L2 Evl

/-! what stands for a datum: lists and tuples by their items, dicts with int and text keys -/
def kD : Key → PyData
  | .inl i => .int i
  | .inr s => .str s
mutual
inductive Rp (K : PySem.W.Frag) (H : Hp) : V → PyData → Prop
  | non : Rp K H .non .none
  | bl (b : Bool) : Rp K H (.bl b) (.bool b)
  | int (i : Int) : Rp K H (.int i) (.int i)
  | str (x : Str) : Rp K H (.str x) (.str x)
  | lst {a : Addr} {xs : List V} {ds : List PyData} : SqL K H a xs → RpAll K H xs ds → Rp K H (.ref a) (.list ds)
  | tup {a : Addr} {xs : List V} {ds : List PyData} : SqT K H a xs → RpAll K H xs ds → Rp K H (.ref a) (.tuple ds)
  | dic {a : Addr} {kvs : List (Key × V)} {ds : List (PyData × PyData)} : H a = some (.dK kvs) → RpKv K H kvs ds → Rp K H (.ref a) (.dict ds)
inductive RpAll (K : PySem.W.Frag) (H : Hp) : List V → List PyData → Prop
  | nil : RpAll K H [] []
  | cons {v : V} {vs : List V} {d : PyData} {ds : List PyData} : Rp K H v d → RpAll K H vs ds → RpAll K H (v :: vs) (d :: ds)
inductive RpKv (K : PySem.W.Frag) (H : Hp) : List (Key × V) → List (PyData × PyData) → Prop
  | nil : RpKv K H [] []
  | cons {k : Key} {v : V} {vs : List (Key × V)} {d : PyData} {ds : List (PyData × PyData)} : Rp K H v d → RpKv K H vs ds → RpKv K H ((k, v) :: vs) ((kD k, d) :: ds)
end
variable {K : PySem.W.Frag} {H H' H1 H2 : Hp}
mutual
theorem Rp.mono (e : Ex H H') : ∀ {v : V} {d : PyData}, Rp K H v d → Rp K H' v d
  | _, _, .non => .non
  | _, _, .bl b => .bl b
  | _, _, .int i => .int i
  | _, _, .str x => .str x
  | _, _, .lst h r => .lst (ex_l e h) (RpAll.mono e r)
  | _, _, .tup h r => .tup (ex_t e h) (RpAll.mono e r)
  | _, _, .dic h r => .dic (e _ _ h) (RpKv.mono e r)
theorem RpAll.mono (e : Ex H H') : ∀ {vs : List V} {ds : List PyData}, RpAll K H vs ds → RpAll K H' vs ds
  | _, _, .nil => .nil
  | _, _, .cons h r => .cons (Rp.mono e h) (RpAll.mono e r)
theorem RpKv.mono (e : Ex H H') : ∀ {vs : List (Key × V)} {ds : List (PyData × PyData)}, RpKv K H vs ds → RpKv K H' vs ds
  | _, _, .nil => .nil
  | _, _, .cons h r => .cons (Rp.mono e h) (RpKv.mono e r)
end
theorem RpAll.len : ∀ {vs : List V} {ds : List PyData}, RpAll K H vs ds → vs.length = ds.length
  | _, _, .nil => rfl
  | _, _, .cons _ r => congrArg (· + 1) (RpAll.len r)
theorem RpAll.get : ∀ {vs : List V} {ds : List PyData} {i : Nat} {v : V}, RpAll K H vs ds → vs[i]? = some v → ∃ d, ds[i]? = some d ∧ Rp K H v d
  | _, _, _, _, .nil, e => by simp at e
  | _, _, 0, _, .cons h _, e => ⟨_, rfl, by cases (Option.some.inj e); exact h⟩
  | _, _, i + 1, v, .cons _ r, e => by
    obtain ⟨d, h1, h2⟩ := RpAll.get (i := i) (v := v) r (by simpa using e)
    exact ⟨d, by simpa using h1, h2⟩
theorem RpAll.get' : ∀ {vs : List V} {ds : List PyData} {i : Nat} {d : PyData}, RpAll K H vs ds → ds[i]? = some d → ∃ v, vs[i]? = some v ∧ Rp K H v d
  | _, _, _, _, .nil, e => by simp at e
  | _, _, 0, _, .cons h _, e => ⟨_, rfl, by cases (Option.some.inj e); exact h⟩
  | _, _, i + 1, d, .cons _ r, e => by
    obtain ⟨v, h1, h2⟩ := RpAll.get' (i := i) (d := d) r (by simpa using e)
    exact ⟨v, by simpa using h1, h2⟩
theorem RpAll.append : ∀ {vs ws : List V} {ds es : List PyData}, RpAll K H vs ds → RpAll K H ws es → RpAll K H (vs ++ ws) (ds ++ es)
  | _, _, _, _, .nil, s => s
  | _, _, _, _, .cons h r, s => .cons h (RpAll.append r s)
theorem RpAll.take : ∀ {vs : List V} {ds : List PyData} (n : Nat), RpAll K H vs ds → RpAll K H (vs.take n) (ds.take n)
  | _, _, 0, _ => .nil
  | _, _, n + 1, .nil => .nil
  | _, _, n + 1, .cons h r => .cons h (RpAll.take n r)
theorem RpAll.drop : ∀ {vs : List V} {ds : List PyData} (n : Nat), RpAll K H vs ds → RpAll K H (vs.drop n) (ds.drop n)
  | _, _, 0, r => r
  | _, _, n + 1, .nil => .nil
  | _, _, n + 1, .cons h r => RpAll.drop n r
theorem RpAll.ints : ∀ {vs : List V} {ns : List Int}, RpAll K H vs (ns.map .int) → vs = ns.map .int
  | [], [], _ => rfl
  | _ :: _, _ :: _, .cons (.int _) r => congrArg _ (RpAll.ints r)
theorem RpAll.bools : ∀ {vs : List V} {ns : List Bool}, RpAll K H vs (ns.map .bool) → vs = ns.map .bl
  | [], [], _ => rfl
  | _ :: _, _ :: _, .cons (.bl _) r => congrArg _ (RpAll.bools r)
theorem RpAll.strs : ∀ {vs : List V} {ns : List Str}, RpAll K H vs (ns.map .str) → vs = ns.map .str
  | [], [], _ => rfl
  | _ :: _, _ :: _, .cons (.str _) r => congrArg _ (RpAll.strs r)
theorem RpAll.of_ints : ∀ {ns : List Int}, RpAll K H (ns.map .int) (ns.map .int)
  | [] => .nil
  | _ :: _ => .cons (.int _) RpAll.of_ints
theorem RpAll.of_strs : ∀ {ns : List Str}, RpAll K H (ns.map .str) (ns.map .str)
  | [] => .nil
  | _ :: _ => .cons (.str _) RpAll.of_strs
theorem RpAll.of_bools : ∀ {ns : List Bool}, RpAll K H (ns.map .bl) (ns.map .bool)
  | [] => .nil
  | _ :: _ => .cons (.bl _) RpAll.of_bools

/-! no dict within: the library's own reading -/
mutual
theorem Rp.dp : ∀ {v : V} {d : PyData}, Rp K H v d → d.canLay0 = true → Dp K H v d
  | _, _, .non, _ => .non
  | _, _, .bl b, _ => .bl b
  | _, _, .int i, _ => .int i
  | _, _, .str x, _ => .str x
  | _, _, .lst h r, p => .lst h (RpAll.dp r (by simpa [PyData.canLay0] using p))
  | _, _, .tup h r, p => .tup h (RpAll.dp r (by simpa [PyData.canLay0] using p))
  | _, _, .dic h r, p => by simp [PyData.canLay0] at p
theorem RpAll.dp : ∀ {vs : List V} {ds : List PyData}, RpAll K H vs ds → PyData.canLayAll0 ds = true → DpAll K H vs ds
  | _, _, .nil, _ => .nil
  | v :: vs, d :: ds, .cons h r, p => by
    have q : d.canLay0 = true ∧ PyData.canLayAll0 ds = true := by simpa [PyData.canLayAll0] using p
    exact .cons (Rp.dp h q.1) (RpAll.dp r q.2)
end

/-! ### what a reading gives: H is what is known, H1 what there is -/
structure Grow (H H1 Hk H2 : Hp) : Prop where
  known : Ex H Hk
  sub : Ex Hk H2
  all : Ex H1 H2
  fresh : ∀ p o, Hk p = some o → H p = none → H1 p = none
theorem ex_none {H H' : Hp} (e : Ex H H') {p : Addr} (h : H' p = none) : H p = none := fresh_back e h
theorem Grow.refl {H H1 : Hp} (e : Ex H H1) : Grow H H1 H H1 := ⟨Ex.refl H, e, Ex.refl H1, fun p o h n => by rw [h] at n; cases n⟩
theorem Grow.trans {H H1 Hk H2 Hm H3 : Hp} (a : Grow H H1 Hk H2) (b : Grow Hk H2 Hm H3) : Grow H H1 Hm H3 :=
  ⟨a.known.trans b.known, b.sub, a.all.trans b.all, fun p o h n => by
    cases q : Hk p with
    | some u => exact a.fresh p u q n
    | none => exact ex_none a.all (b.fresh p o h q)⟩
theorem ex_upd {H H' : Hp} (e : Ex H H') (p : Addr) (o : HO) : Ex (upd H p o) (upd H' p o) := fun a u h => by
  by_cases ha : a = p
  · subst ha; rw [upd_same] at h ⊢; exact h
  · rw [upd_ne ha] at h ⊢; exact e a u h
theorem Grow.new {H H1 : Hp} {p : Addr} (e : Ex H H1) (hp : H1 p = none) (o : HO) : Grow H H1 (upd H p o) (upd H1 p o) :=
  ⟨Ex.new (ex_none e hp), ex_upd e p o, Ex.new hp, fun a u h n => by
    by_cases ha : a = p
    · subst ha; exact hp
    · rw [upd_ne ha] at h; rw [h] at n; cases n⟩
/-- a new thing that is not told -/
theorem Grow.hide {H H1 : Hp} {p : Addr} (e : Ex H H1) (hp : H1 p = none) (o : HO) : Grow H H1 H (upd H1 p o) :=
  ⟨Ex.refl H, e.trans (Ex.new hp), Ex.new hp, fun a u h n => by rw [h] at n; cases n⟩
/-- what is not known stays unknown -/
theorem Grow.unk {H H1 Hk H2 : Hp} (g : Grow H H1 Hk H2) {p : Addr} {o : HO} (h : H p = none) (h1 : H1 p = some o) : Hk p = none := by
  cases q : Hk p with
  | none => rfl
  | some u => rw [g.fresh p u q h] at h1; cases h1
def both (A B : Hp) : Hp := fun p => match A p with | some o => some o | none => B p
theorem both_l {A B : Hp} : Ex A (both A B) := fun p o h => by unfold both; rw [h]
theorem both_r {A B C : Hp} (a : Ex A C) (b : Ex B C) : Ex B (both A B) := fun p o h => by
  unfold both
  cases q : A p with
  | none => exact h
  | some u => exact ((a p u q).symm.trans (b p o h))
theorem both_sub {A B C : Hp} (a : Ex A C) (b : Ex B C) : Ex (both A B) C := fun p o h => by
  unfold both at h
  cases q : A p with
  | none => rw [q] at h; exact b p o h
  | some u => rw [q] at h; exact a p o (q.trans h)
/-- more was known -/
theorem Grow.more {H Hm H1 Hk H2 : Hp} (a : Ex H Hm) (e : Ex Hm H1) (g : Grow H H1 Hk H2) : Grow Hm H1 (both Hm Hk) H2 :=
  ⟨both_l, both_sub (e.trans g.all) g.sub, g.all, fun p o h n => by
    unfold both at h
    rw [n] at h
    exact g.fresh p o h (ex_none a n)⟩
theorem Grow.moreR {H Hm H1 Hk H2 : Hp} (e : Ex Hm H1) (g : Grow H H1 Hk H2) : Ex Hk (both Hm Hk) := both_r (e.trans g.all) g.sub

/-- te gives some datum of P, and leaves what is known -/
def EvP (K : PySem.W.Frag) (te : TE) (σ : L2.St) (H : Hp) (P : PyData → Prop) : Prop :=
  ∀ H1, Ex H H1 → ∀ Q : VK, (∀ v d Hk H2, Grow H H1 Hk H2 → Rp K Hk v d → P d → Q v H2) → te σ H1 Q
abbrev EvD (K : PySem.W.Frag) (te : TE) (σ : L2.St) (H : Hp) (d : PyData) : Prop := EvP K te σ H (· = d)
def EvAs (K : PySem.W.Frag) (ta : TA) (σ : L2.St) (H : Hp) (P : List PyData → Prop) : Prop :=
  ∀ H1, Ex H H1 → ∀ Q : List V → Hp → Prop, (∀ vs ds Hk H2, Grow H H1 Hk H2 → RpAll K Hk vs ds → P ds → Q vs H2) → ta σ H1 Q
/-- a test -/
def EvTP (tt : TT) (σ : L2.St) (H : Hp) (P : Bool → Prop) : Prop :=
  ∀ H1, Ex H H1 → ∀ Q : Bool → Hp → Prop, (∀ b Hk H2, Grow H H1 Hk H2 → P b → Q b H2) → tt σ H1 Q
/-- an operation of two values, a call of values -/
def RD (K : PySem.W.Frag) (r : R2) (d1 d2 : PyData) (P : PyData → Prop) : Prop :=
  ∀ v1 v2 H H1, Ex H H1 → Rp K H v1 d1 → Rp K H v2 d2 → ∀ Q : VK, (∀ v d Hk H2, Grow H H1 Hk H2 → Rp K Hk v d → P d → Q v H2) → r v1 v2 H1 Q
def RCD (K : PySem.W.Frag) (r : List V → Hp → VK → Prop) (ds : List PyData) (P : PyData → Prop) : Prop :=
  ∀ vs H H1, Ex H H1 → RpAll K H vs ds → ∀ Q : VK, (∀ v d Hk H2, Grow H H1 Hk H2 → Rp K Hk v d → P d → Q v H2) → r vs H1 Q

section
variable {σ : L2.St} {ta tb tc te : TE} {tt tu : TT} {P P1 P2 : PyData → Prop} {d d1 d2 : PyData} {r r' : R2}
theorem EvP.mono (a : Ex H H') (h : EvP K te σ H P) : EvP K te σ H' P := fun H1 e Q q => h H1 (a.trans e) Q fun v d Hk H2 g r p => q v d _ H2 (g.more a e) (r.mono (g.moreR e)) p
theorem EvAs.mono {ta : TA} {P : List PyData → Prop} (a : Ex H H') (h : EvAs K ta σ H P) : EvAs K ta σ H' P := fun H1 e Q q => h H1 (a.trans e) Q fun v d Hk H2 g r p => q v d _ H2 (g.more a e) (r.mono (g.moreR e)) p
theorem EvTP.mono {P : Bool → Prop} (a : Ex H H') (h : EvTP tt σ H P) : EvTP tt σ H' P := fun H1 e Q q => h H1 (a.trans e) Q fun b Hk H2 g p => q b _ H2 (g.more a e) p
theorem EvP.weak (h : EvP K te σ H P1) (w : ∀ d, P1 d → P2 d) : EvP K te σ H P2 := fun H1 a Q q => h H1 a Q fun v d Hk H2 e r p => q v d Hk H2 e r (w d p)
theorem EvP.is (h : EvD K te σ H d1) (e : d1 = d2) : EvD K te σ H d2 := by subst e; exact h
theorem evp_var {i : Nat} {v : V} (h : σ[i]? = some (some v)) (r : Rp K H v d) : EvD K (tVar i) σ H d := fun H1 e Q q => ⟨v, h, q v d H H1 (Grow.refl e) r rfl⟩
theorem evp_c {v : V} (r : Rp K H v d) : EvD K (tC v) σ H d := fun H1 e _ q => q _ _ H H1 (Grow.refl e) r rfl
theorem evp_int {i : Int} : EvD K (tC (.int i)) σ H (.int i) := evp_c (.int i)
theorem evp_bl {i : Bool} : EvD K (tC (.bl i)) σ H (.bool i) := evp_c (.bl i)
theorem evp_str {i : Str} : EvD K (tC (.str i)) σ H (.str i) := evp_c (.str i)
theorem evp_non : EvD K (tC .non) σ H .none := evp_c .non
theorem evp_op (ha : EvP K ta σ H P1) (hb : EvP K tb σ H P2) (hr : ∀ d1 d2, P1 d1 → P2 d2 → RD K r d1 d2 P) : EvP K (tOp r ta tb) σ H P := fun H1 e Q q =>
  ha H1 e _ fun v1 d1 Hk2 H2 g2 r1 p1 => hb.mono g2.known H2 g2.sub _ fun v2 d2 Hk3 H3 g3 r2 p2 => hr d1 d2 p1 p2 v1 v2 Hk3 H3 g3.sub (r1.mono g3.known) r2 Q fun v d Hk4 H4 g4 r4 p4 => q v d Hk4 H4 ((g2.trans g3).trans g4) r4 p4
/-- both known -/
theorem evd_op (ha : EvD K ta σ H d1) (hb : EvD K tb σ H d2) (hr : RD K r d1 d2 P) : EvP K (tOp r ta tb) σ H P :=
  evp_op ha hb fun _ _ e1 e2 => by subst e1; subst e2; exact hr
theorem rd_I0 {g : Int → Int → Int} {i j : Int} : RD K (rI0 fun i j => .int (g i j)) (.int i) (.int j) (· = .int (g i j)) := fun _ _ H H1 e r1 r2 Q q => by
  cases r1; cases r2; exact ⟨i, j, rfl, rfl, q _ _ H H1 (Grow.refl e) (.int _) rfl⟩
theorem rd_I {C : Int → Int → Prop} {g : Int → Int → Int} {i j : Int} (c : C i j) : RD K (rI C fun i j => .int (g i j)) (.int i) (.int j) (· = .int (g i j)) := fun _ _ H H1 e r1 r2 Q q => by
  cases r1; cases r2; exact ⟨i, j, rfl, rfl, c, q _ _ H H1 (Grow.refl e) (.int _) rfl⟩
theorem rd_B0 {g : Int → Int → Bool} {i j : Int} : RD K (rI0 fun i j => .bl (g i j)) (.int i) (.int j) (· = .bool (g i j)) := fun _ _ H H1 e r1 r2 Q q => by
  cases r1; cases r2; exact ⟨i, j, rfl, rfl, q _ _ H H1 (Grow.refl e) (.bl _) rfl⟩
theorem evp_un {rr : V → Hp → VK → Prop} (ha : EvP K ta σ H P1) (hr : ∀ d v H H1, Ex H H1 → P1 d → Rp K H v d → ∀ Q : VK, (∀ v d Hk H2, Grow H H1 Hk H2 → Rp K Hk v d → P d → Q v H2) → rr v H1 Q) : EvP K (tUn rr ta) σ H P := fun H1 e Q q =>
  ha H1 e _ fun v1 d1 Hk2 H2 g2 r1 p1 => hr d1 v1 Hk2 H2 g2.sub p1 r1 Q fun v d Hk3 H3 g3 r3 p3 => q v d Hk3 H3 (g2.trans g3) r3 p3
theorem evd_neg {i : Int} (ha : EvD K ta σ H (.int i)) : EvD K (tUn (rU fun i => .int (-i)) ta) σ H (.int (-i)) := evp_un ha fun d v H H1 e p r Q q => by
  subst p; cases r; exact ⟨i, rfl, q _ _ H H1 (Grow.refl e) (.int _) rfl⟩
/-- arguments -/
theorem eas_nil : EvAs K tNil σ H (· = []) := fun H1 e _ q => q _ _ H H1 (Grow.refl e) .nil rfl
theorem eas_cons {tr : TA} {P1 : PyData → Prop} {P2 : List PyData → Prop} (h : EvP K ta σ H P1) (hr : EvAs K tr σ H P2) : EvAs K (tCons ta tr) σ H (fun ds => ∃ d es, ds = d :: es ∧ P1 d ∧ P2 es) := fun H1 e Q q =>
  h H1 e _ fun v d Hk2 H2 g2 r2 p2 => hr.mono g2.known H2 g2.sub _ fun vs ds Hk3 H3 g3 r3 p3 => q (v :: vs) (d :: ds) Hk3 H3 (g2.trans g3) (.cons (r2.mono g3.known) r3) ⟨d, ds, rfl, p2, p3⟩
abbrev EvA1 (K : PySem.W.Frag) (ta : TA) (σ : L2.St) (H : Hp) (ds : List PyData) : Prop := EvAs K ta σ H (· = ds)
theorem eas1 {tr : TA} {ds : List PyData} (h : EvD K ta σ H d) (hr : EvA1 K tr σ H ds) : EvA1 K (tCons ta tr) σ H (d :: ds) := fun H1 e Q q =>
  eas_cons h hr H1 e Q fun vs es Hk H2 g r p => q vs es Hk H2 g r (by obtain ⟨d', es', rfl, rfl, rfl⟩ := p; rfl)
theorem evp_tup {tr : TA} {P : List PyData → Prop} (h : EvAs K tr σ H P) (hl : ∀ ds, P ds → ds.length ≤ 100000) : EvP K (tTup tr) σ H (fun d => ∃ ds, d = .tuple ds ∧ P ds) := fun H1 e Q q =>
  h H1 e _ fun vs ds Hk2 H2 g2 r2 p2 => ⟨sz_of (by rw [r2.len]; exact hl ds p2), fun p hp =>
    have g3 := Grow.new g2.sub hp (.tup vs)
    q _ (.tuple ds) _ _ (g2.trans g3) (.tup (st_of upd_same) (r2.mono g3.known)) ⟨ds, rfl, p2⟩⟩
theorem evp_lst {tr : TA} {P : List PyData → Prop} (h : EvAs K tr σ H P) (hl : ∀ ds, P ds → ds.length ≤ 100000) : EvP K (tLst tr) σ H (fun d => ∃ ds, d = .list ds ∧ P ds) := fun H1 e Q q =>
  h H1 e _ fun vs ds Hk2 H2 g2 r2 p2 => ⟨sz_of (by rw [r2.len]; exact hl ds p2), fun p hp =>
    have g3 := Grow.new g2.sub hp (.lst vs)
    q _ (.list ds) _ _ (g2.trans g3) (.lst (sq_of upd_same) (r2.mono g3.known)) ⟨ds, rfl, p2⟩⟩
theorem evd_tup {tr : TA} {ds : List PyData} (h : EvA1 K tr σ H ds) (hl : ds.length ≤ 100000 := by simp) : EvD K (tTup tr) σ H (.tuple ds) :=
  (evp_tup h fun es e => by subst e; exact hl).weak fun d ⟨es, e1, e2⟩ => by subst e2; exact e1
theorem evd_lst {tr : TA} {ds : List PyData} (h : EvA1 K tr σ H ds) (hl : ds.length ≤ 100000 := by simp) : EvD K (tLst tr) σ H (.list ds) :=
  (evp_lst h fun es e => by subst e; exact hl).weak fun d ⟨es, e1, e2⟩ => by subst e2; exact e1
theorem evp_cb {rr : List V → Hp → VK → Prop} {tr : TA} {P1 : List PyData → Prop} (h : EvAs K tr σ H P1) (hr : ∀ ds, P1 ds → RCD K rr ds P) : EvP K (tCB rr tr) σ H P := fun H1 e Q q =>
  h H1 e _ fun vs ds Hk2 H2 g2 r2 p2 => hr ds p2 vs Hk2 H2 g2.sub r2 Q fun v d Hk3 H3 g3 r3 p3 => q v d Hk3 H3 (g2.trans g3) r3 p3
theorem evd_cb {rr : List V → Hp → VK → Prop} {tr : TA} {ds : List PyData} (h : EvA1 K tr σ H ds) (hr : RCD K rr ds P) : EvP K (tCB rr tr) σ H P := evp_cb h fun _ e => by subst e; exact hr
/-! tests, and, or, not, if -/
abbrev EvT1 (tt : TT) (σ : L2.St) (H : Hp) (b : Bool) : Prop := EvTP tt σ H (· = b)
theorem etp_test {b : Bool} (h : EvD K te σ H (.bool b)) : EvT1 (tTest te) σ H b := fun H1 e Q q => h H1 e _ fun v d Hk H2 g2 r2 p2 => by
  subst p2; cases r2; exact ⟨b, rfl, q b Hk H2 g2 rfl⟩
theorem etp_B {b : Bool} (h : EvD K te σ H (.bool b)) : EvT1 (tB te) σ H b := fun H1 e Q q => h H1 e _ fun v d Hk H2 g2 r2 p2 => by
  subst p2; cases r2; exact ⟨b, rfl, q b Hk H2 g2 rfl⟩
theorem etp_yes : EvT1 tYes σ H true := fun H1 e Q q => q true H H1 (Grow.refl e) rfl
theorem etp_not {b : Bool} (h : EvT1 tt σ H b) : EvT1 (tNot tt) σ H (!b) := fun H1 e Q q => h H1 e _ fun c Hk H2 g2 p2 => by subst p2; exact q _ Hk H2 g2 rfl
theorem etp_and {a b : Bool} (h1 : EvT1 tt σ H a) (h2 : a = true → EvT1 tu σ H b) : EvT1 (tAnd tt tu) σ H (a && b) := fun H1 e Q q => h1 H1 e _ fun c Hk2 H2 g2 p2 => by
  subst p2
  cases c with
  | true => exact (h2 rfl).mono g2.known H2 g2.sub Q fun d Hk3 H3 g3 p3 => q d Hk3 H3 (g2.trans g3) (by rw [p3]; rfl)
  | false => exact q false Hk2 H2 g2 rfl
theorem etp_or {a b : Bool} (h1 : EvT1 tt σ H a) (h2 : a = false → EvT1 tu σ H b) : EvT1 (tOr tt tu) σ H (a || b) := fun H1 e Q q => h1 H1 e _ fun c Hk2 H2 g2 p2 => by
  subst p2
  cases c with
  | true => exact q true Hk2 H2 g2 rfl
  | false => exact (h2 rfl).mono g2.known H2 g2.sub Q fun d Hk3 H3 g3 p3 => q d Hk3 H3 (g2.trans g3) (by rw [p3]; rfl)
theorem evp_andV {a : Bool} {b : Bool} (h1 : EvD K ta σ H (.bool a)) (h2 : a = true → EvD K tb σ H (.bool b)) : EvD K (tAndV ta tb) σ H (.bool (a && b)) := fun H1 e Q q => h1 H1 e _ fun v d Hk2 H2 g2 r2 p2 => by
  subst p2; cases r2
  refine ⟨a, rfl, ?_⟩
  cases a with
  | true => exact (h2 rfl).mono g2.known H2 g2.sub Q fun v d Hk3 H3 g3 r3 p3 => q v d Hk3 H3 (g2.trans g3) r3 p3
  | false => exact q _ _ Hk2 H2 g2 (.bl false) rfl
theorem evp_orV {a : Bool} {b : Bool} (h1 : EvD K ta σ H (.bool a)) (h2 : a = false → EvD K tb σ H (.bool b)) : EvD K (tOrV ta tb) σ H (.bool (a || b)) := fun H1 e Q q => h1 H1 e _ fun v d Hk2 H2 g2 r2 p2 => by
  subst p2; cases r2
  refine ⟨a, rfl, ?_⟩
  cases a with
  | false => exact (h2 rfl).mono g2.known H2 g2.sub Q fun v d Hk3 H3 g3 r3 p3 => q v d Hk3 H3 (g2.trans g3) r3 p3
  | true => exact q _ _ Hk2 H2 g2 (.bl true) rfl
theorem evp_notV {a : Bool} (h1 : EvD K ta σ H (.bool a)) : EvD K (tNotV ta) σ H (.bool (!a)) := fun H1 e Q q => h1 H1 e _ fun v d Hk2 H2 g2 r2 p2 => by
  subst p2; cases r2
  exact ⟨a, rfl, q _ _ Hk2 H2 g2 (.bl _) rfl⟩
theorem evp_if {b : Bool} (h : EvT1 tt σ H b) (h1 : b = true → EvP K ta σ H P) (h2 : b = false → EvP K tb σ H P) : EvP K (tIf tt ta tb) σ H P := fun H1 e Q q => h H1 e _ fun c Hk2 H2 g2 p2 => by
  subst p2
  cases c with
  | true => exact (h1 rfl).mono g2.known H2 g2.sub Q fun v d Hk3 H3 g3 r3 p3 => q v d Hk3 H3 (g2.trans g3) r3 p3
  | false => exact (h2 rfl).mono g2.known H2 g2.sub Q fun v d Hk3 H3 g3 r3 p3 => q v d Hk3 H3 (g2.trans g3) r3 p3
theorem evp_chain {k1 k2 : Bool} {d3 : PyData} (ha : EvD K ta σ H d1) (hb : EvD K tb σ H d2) (hc : k1 = true → EvD K tc σ H d3) (h1 : RD K r d1 d2 (· = .bool k1)) (h2 : k1 = true → RD K r' d2 d3 (· = .bool k2)) :
    EvD K (tChain r r' ta tb tc) σ H (.bool (k1 && k2)) := by
  intro H1 e Q q
  refine ha H1 e _ fun v1 _ Hk2 H2 g2 r1 p1 => ?_
  refine hb.mono g2.known H2 g2.sub _ fun v2 _ Hk3 H3 g3 r2 p2 => ?_
  subst p1
  subst p2
  refine h1 v1 v2 Hk3 H3 g3.sub (r1.mono g3.known) r2 _ fun v d Hk4 H4 g4 r4 p4 => ?_
  subst p4
  cases r4
  refine ⟨k1, rfl, ?_⟩
  cases k1 with
  | false => exact q _ _ _ H4 ((g2.trans g3).trans g4) (.bl false) rfl
  | true =>
    refine (hc rfl).mono ((g2.trans g3).trans g4).known H4 g4.sub _ fun v3 d3' Hk5 H5 g5 r5 p5 => ?_
    subst p5
    exact h2 rfl v2 v3 Hk5 H5 g5.sub (r2.mono (g4.trans g5).known) r5 Q fun v d Hk6 H6 g6 r6 p6 => q v d Hk6 H6 ((((g2.trans g3).trans g4).trans g5).trans g6) r6 (by rw [p6]; rfl)
end
/-! ### the kinds -/
def tyOf : PyData → String
  | .none => "NoneType"
  | .bool _ => "bool"
  | .int _ => "int"
  | .str _ => "str"
  | .list _ => "list"
  | .tuple _ => "tuple"
  | .dict _ => "dict"
def isInt : PyData → Bool
  | .int _ => true
  | .bool _ => true
  | _ => false
def isBool : PyData → Bool
  | .bool _ => true
  | _ => false
def isStr : PyData → Bool
  | .str _ => true
  | _ => false
def isTup : PyData → Bool
  | .tuple _ => true
  | _ => false
def isLst : PyData → Bool
  | .list _ => true
  | _ => false
def isDic : PyData → Bool
  | .dict _ => true
  | _ => false
theorem kit_int (d : PyData) : kitB (tyOf d) "int" = some (isInt d) := match d with
  | .none => (by decide +kernel : kitB "NoneType" "int" = some false)
  | .bool _ => (by decide +kernel : kitB "bool" "int" = some true)
  | .int _ => (by decide +kernel : kitB "int" "int" = some true)
  | .str _ => (by decide +kernel : kitB "str" "int" = some false)
  | .list _ => (by decide +kernel : kitB "list" "int" = some false)
  | .tuple _ => (by decide +kernel : kitB "tuple" "int" = some false)
  | .dict _ => (by decide +kernel : kitB "dict" "int" = some false)
theorem kit_bool (d : PyData) : kitB (tyOf d) "bool" = some (isBool d) := match d with
  | .none => (by decide +kernel : kitB "NoneType" "bool" = some false)
  | .bool _ => (by decide +kernel : kitB "bool" "bool" = some true)
  | .int _ => (by decide +kernel : kitB "int" "bool" = some false)
  | .str _ => (by decide +kernel : kitB "str" "bool" = some false)
  | .list _ => (by decide +kernel : kitB "list" "bool" = some false)
  | .tuple _ => (by decide +kernel : kitB "tuple" "bool" = some false)
  | .dict _ => (by decide +kernel : kitB "dict" "bool" = some false)
theorem kit_str (d : PyData) : kitB (tyOf d) "str" = some (isStr d) := match d with
  | .none => (by decide +kernel : kitB "NoneType" "str" = some false)
  | .bool _ => (by decide +kernel : kitB "bool" "str" = some false)
  | .int _ => (by decide +kernel : kitB "int" "str" = some false)
  | .str _ => (by decide +kernel : kitB "str" "str" = some true)
  | .list _ => (by decide +kernel : kitB "list" "str" = some false)
  | .tuple _ => (by decide +kernel : kitB "tuple" "str" = some false)
  | .dict _ => (by decide +kernel : kitB "dict" "str" = some false)
theorem kit_tup (d : PyData) : kitB (tyOf d) "tuple" = some (isTup d) := match d with
  | .none => (by decide +kernel : kitB "NoneType" "tuple" = some false)
  | .bool _ => (by decide +kernel : kitB "bool" "tuple" = some false)
  | .int _ => (by decide +kernel : kitB "int" "tuple" = some false)
  | .str _ => (by decide +kernel : kitB "str" "tuple" = some false)
  | .list _ => (by decide +kernel : kitB "list" "tuple" = some false)
  | .tuple _ => (by decide +kernel : kitB "tuple" "tuple" = some true)
  | .dict _ => (by decide +kernel : kitB "dict" "tuple" = some false)
theorem kit_lst (d : PyData) : kitB (tyOf d) "list" = some (isLst d) := match d with
  | .none => (by decide +kernel : kitB "NoneType" "list" = some false)
  | .bool _ => (by decide +kernel : kitB "bool" "list" = some false)
  | .int _ => (by decide +kernel : kitB "int" "list" = some false)
  | .str _ => (by decide +kernel : kitB "str" "list" = some false)
  | .list _ => (by decide +kernel : kitB "list" "list" = some true)
  | .tuple _ => (by decide +kernel : kitB "tuple" "list" = some false)
  | .dict _ => (by decide +kernel : kitB "dict" "list" = some false)
theorem kit_dic (d : PyData) : kitB (tyOf d) "dict" = some (isDic d) := match d with
  | .none => (by decide +kernel : kitB "NoneType" "dict" = some false)
  | .bool _ => (by decide +kernel : kitB "bool" "dict" = some false)
  | .int _ => (by decide +kernel : kitB "int" "dict" = some false)
  | .str _ => (by decide +kernel : kitB "str" "dict" = some false)
  | .list _ => (by decide +kernel : kitB "list" "dict" = some false)
  | .tuple _ => (by decide +kernel : kitB "tuple" "dict" = some false)
  | .dict _ => (by decide +kernel : kitB "dict" "dict" = some true)
theorem Rp.ty {v : V} {d : PyData} (r : Rp K H v d) : TyX K H v (.type (tyOf d)) := by
  cases r with
  | non => exact .base .non
  | bl b => exact .base (.bl b)
  | int i => exact .base (.int i)
  | str x => exact .base (.str x)
  | lst h _ =>
    rcases h with (h | ⟨o, h⟩) | ⟨o, its, n, h, c, _⟩
    · exact .base (.lst h)
    · exact .base (.frz h)
    · exact .kList h c
  | tup h _ =>
    rcases h with (h | ⟨o, h⟩) | ⟨o, its, n, h, c, _⟩
    · exact .base (.tup h)
    · exact .fTuple h
    · exact .kTuple h c
  | dic h _ => exact .base (.dK h)


section
variable {σ : L2.St} {ta tb tc te : TE} {tt tu : TT} {P P1 P2 : PyData → Prop} {d d1 d2 : PyData} {r r' : R2}
theorem Rp.tyS {H H1 : Hp} (e : Ex H H1) {v : V} {d : PyData} (r : Rp K H v d) : TyX K H1 v (.type (tyOf d)) := (r.mono e).ty
theorem evp_isi {T : String} {b : Bool} (h : EvD K ta σ H d) (hk : kitB (tyOf d) T = some b) : EvD K (tCB (rIsi K) (tCons ta (tCons (tC (.ty T)) tNil))) σ H (.bool b) := by
  intro H1 e Q q
  refine h H1 e _ fun v _ Hk H2 g2 r2 p2 => ?_
  subst p2
  exact ⟨v, .ty T, _, _, b, rfl, .ty T, r2.tyS g2.sub, kit_ty hk, q _ _ Hk H2 g2 (.bl b) rfl⟩
def rLen (K : PySem.W.Frag) : List V → Hp → VK → Prop := fun xs H Q => ∃ x n, xs = [x] ∧ LenV K x H n ∧ Q (.int n) H
def lenD : PyData → Option Nat
  | .str s => if s.length ≤ 100000 then some s.length else none
  | .list ds => some ds.length
  | .tuple ds => some ds.length
  | _ => none
theorem rc_len {n : Nat} (h : lenD d = some n) : RCD K (rLen K) [d] (· = .int n) := by
  intro vs H H1 e r Q q
  cases r with
  | cons r rr =>
    cases rr
    refine ⟨_, n, rfl, ?_, q _ _ H H1 (Grow.refl e) (.int n) rfl⟩
    cases r with
    | non => cases h
    | bl b => cases h
    | int i => cases h
    | str x =>
      have h' : (if x.length ≤ 100000 then some x.length else none) = some n := h
      by_cases hx : x.length ≤ 100000
      · rw [if_pos hx] at h'
        cases h'
        exact ⟨sz_of hx, rfl⟩
      · rw [if_neg hx] at h'
        cases h'
    | lst h1 r1 =>
      cases h
      exact .inl ⟨_, ex_l e h1, r1.len.symm⟩
    | tup h1 r1 =>
      cases h
      exact .inr ⟨_, ex_t e h1, r1.len.symm⟩
    | dic _ _ => cases h
theorem rc_all {bs : List Bool} : RCD K (rAll K) [.list (bs.map .bool)] (· = .bool (bs.all id)) := by
  intro vs H H1 e r Q q
  cases r with
  | cons r rr =>
    cases rr
    cases r with
    | lst h1 r1 =>
      rw [r1.bools] at h1
      exact ⟨_, bs, rfl, ex_l e h1, q _ _ H H1 (Grow.refl e) (.bl _) rfl⟩
theorem rc_any {bs : List Bool} : RCD K (rAny K) [.list (bs.map .bool)] (· = .bool (bs.any id)) := by
  intro vs H H1 e r Q q
  cases r with
  | cons r rr =>
    cases rr
    cases r with
    | lst h1 r1 =>
      rw [r1.bools] at h1
      exact ⟨_, bs, rfl, ex_l e h1, q _ _ H H1 (Grow.refl e) (.bl _) rfl⟩
theorem rc_sum {ns : List Int} : RCD K (rSum K) [.list (ns.map .int)] (· = .int ns.sum) := by
  intro vs H H1 e r Q q
  cases r with
  | cons r rr =>
    cases rr
    cases r with
    | lst h1 r1 =>
      rw [r1.ints] at h1
      exact ⟨_, ns, rfl, ex_l e h1, q _ _ H H1 (Grow.refl e) (.int _) rfl⟩
/-- tuple(list) -/
def rTupOf (K : PySem.W.Frag) : List V → Hp → VK → Prop := fun xs H Q => ∃ p ys, xs = [.ref p] ∧ ((SqL K H p ys ∧ ∀ l, H l = none → Q (.ref l) (upd H l (.tup ys))) ∨ (SqT K H p ys ∧ Q (.ref p) H))
theorem rc_tuple {ds : List PyData} (h : d = .list ds ∨ d = .tuple ds) : RCD K (rTupOf K) [d] (· = .tuple ds) := by
  intro vs H H1 e r Q q
  cases r with
  | cons r rr =>
    cases rr
    rcases h with rfl | rfl
    · cases r with
      | lst h1 r1 => exact ⟨_, _, rfl, .inl ⟨ex_l e h1, fun l hl => q _ _ _ _ (Grow.new e hl _) (.tup (st_of upd_same) (r1.mono (Grow.new e hl _).known)) rfl⟩⟩
    · cases r with
      | tup h1 r1 => exact ⟨_, _, rfl, .inr ⟨ex_t e h1, q _ _ _ _ (Grow.refl e) (.tup h1 r1) rfl⟩⟩
/-- list(list), list(tuple) -/
def rLstOf (K : PySem.W.Frag) : List V → Hp → VK → Prop := fun xs H Q => ∃ p ys, xs = [.ref p] ∧ (SqL K H p ys ∨ SqT K H p ys) ∧ ∀ l, H l = none → Q (.ref l) (upd H l (.lst ys))
theorem rc_list {ds : List PyData} (h : d = .list ds ∨ d = .tuple ds) : RCD K (rLstOf K) [d] (· = .list ds) := by
  intro vs H H1 e r Q q
  cases r with
  | cons r rr =>
    cases rr
    rcases h with rfl | rfl
    · cases r with
      | lst h1 r1 => exact ⟨_, _, rfl, .inl (ex_l e h1), fun l hl => q _ _ _ _ (Grow.new e hl _) (.lst (sq_of upd_same) (r1.mono (Grow.new e hl _).known)) rfl⟩
    · cases r with
      | tup h1 r1 => exact ⟨_, _, rfl, .inr (ex_t e h1), fun l hl => q _ _ _ _ (Grow.new e hl _) (.lst (sq_of upd_same) (r1.mono (Grow.new e hl _).known)) rfl⟩
/-! subscripts, slices -/
theorem RpAll.atI {vs : List V} {ds : List PyData} {i : Int} (r : RpAll K H vs ds) (h : L2.atI ds i = some d) : ∃ v, L2.atI vs i = some v ∧ Rp K H v d := by
  unfold L2.atI at h ⊢
  rw [r.len]
  cases e : ixN ds.length i with
  | none => rw [e] at h; cases h
  | some j =>
    rw [e] at h
    exact r.get' (i := j) h
theorem rd_ixL {ds : List PyData} {i : Int} (h : L2.atI ds i = some d) : RD K (rIxL K) (.list ds) (.int i) (· = d) := by
  intro _ _ H H1 e r1 r2 Q q
  cases r2
  cases r1 with
  | lst h1 r1 =>
    obtain ⟨v, ev, rv⟩ := r1.atI h
    exact ⟨_, _, i, v, rfl, rfl, ex_l e h1, ev, q _ _ H H1 (Grow.refl e) rv rfl⟩
theorem rd_ixT {ds : List PyData} {i : Int} (h : L2.atI ds i = some d) : RD K (rIxT K) (.tuple ds) (.int i) (· = d) := by
  intro _ _ H H1 e r1 r2 Q q
  cases r2
  cases r1 with
  | tup h1 r1 =>
    obtain ⟨v, ev, rv⟩ := r1.atI h
    exact ⟨_, _, i, v, rfl, rfl, ex_t e h1, ev, q _ _ H H1 (Grow.refl e) rv rfl⟩
theorem rd_ix {ds : List PyData} {i : Int} (hd : d1 = .list ds ∨ d1 = .tuple ds) (h : L2.atI ds i = some d) : RD K (rIx K) d1 (.int i) (· = d) := by
  intro v1 v2 H H1 e r1 r2 Q q
  rcases hd with rfl | rfl
  · exact .inl (rd_ixL h v1 v2 H H1 e r1 r2 Q q)
  · exact .inr (.inl (rd_ixT h v1 v2 H H1 e r1 r2 Q q))
theorem rd_ixS {z : Str} {i : Int} {c : Nat} (hz : z.length ≤ 100000) (h : L2.atI z.cps.toList i = some c) : RD K (rIx K) (.str z) (.int i) (· = .str ⟨#[c]⟩) := by
  intro _ _ H H1 e r1 r2 Q q
  cases r1
  cases r2
  exact .inr (.inr ⟨z, i, c, rfl, rfl, sz_of hz, h, q _ _ H H1 (Grow.refl e) (.str _) rfl⟩)
def cutG {α : Type} (xs : List α) (lo hi : Option Int) : List α := (xs.drop (HT.sIx xs.length 0 lo)).take (HT.sIx xs.length xs.length hi - HT.sIx xs.length 0 lo)
theorem RpAll.cut {vs : List V} {ds : List PyData} (r : RpAll K H vs ds) (lo hi : Option Int) : RpAll K H (cutV vs lo hi) (cutG ds lo hi) := by
  unfold cutV cutG
  rw [r.len]
  exact (r.drop _).take _
theorem evd_slL {lo hi : TO} {l u : Option Int} {ds : List PyData} (h : EvD K te σ H (.list ds)) (h1 : EvO lo σ H l) (h2 : EvO hi σ H u) : EvD K (tSl (rSlL K) te lo hi) σ H (.list (cutG ds l u)) := by
  intro H1 e Q q
  refine h H1 e _ fun v _ Hk2 H2 g2 r2 p2 => ?_
  refine h1 H2 (e.trans g2.all) _ fun H3 e3 => ?_
  refine h2 H3 ((e.trans g2.all).trans e3) _ fun H4 e4 => ?_
  subst p2
  have g3 : Grow Hk2 H2 Hk2 H4 := ⟨Ex.refl _, g2.sub.trans (e3.trans e4), e3.trans e4, fun p o h n => by rw [h] at n; cases n⟩
  cases r2 with
  | @lst a xs _ g r =>
    refine ⟨_, _, rfl, ex_l g3.sub g, fun p hp => ?_⟩
    have g4 := Grow.new g3.sub hp (.lst (cutV xs l u))
    exact q _ _ _ _ ((g2.trans g3).trans g4) (.lst (sq_of upd_same) ((r.mono g4.known).cut l u)) rfl
theorem cutV_all (xs : List V) (lo hi : Option Int) (h : HT.sIx xs.length 0 lo = 0 ∧ HT.sIx xs.length xs.length hi = xs.length) : cutV xs lo hi = xs := by
  unfold cutV
  rw [h.1, h.2]
  simp
theorem evd_slT {lo hi : TO} {l u : Option Int} {ds : List PyData} (h : EvD K te σ H (.tuple ds)) (h1 : EvO lo σ H l) (h2 : EvO hi σ H u) : EvD K (tSl (rSlA K) te lo hi) σ H (.tuple (cutG ds l u)) := by
  intro H1 e Q q
  refine h H1 e _ fun v _ Hk2 H2 g2 r2 p2 => ?_
  refine h1 H2 (e.trans g2.all) _ fun H3 e3 => ?_
  refine h2 H3 ((e.trans g2.all).trans e3) _ fun H4 e4 => ?_
  subst p2
  have g3 : Grow Hk2 H2 Hk2 H4 := ⟨Ex.refl _, g2.sub.trans (e3.trans e4), e3.trans e4, fun p o h n => by rw [h] at n; cases n⟩
  cases r2 with
  | @tup a xs _ g r =>
    refine ⟨_, _, rfl, ex_t g3.sub g, fun hw => ?_, fun _ p hp => ?_⟩
    · refine q _ _ _ _ (g2.trans g3) (.tup g ?_) rfl
      have c := r.cut l u
      rw [cutV_all _ l u hw] at c
      exact c
    · have g4 := Grow.new g3.sub hp (.tup (cutV xs l u))
      exact q _ _ _ _ ((g2.trans g3).trans g4) (.tup (st_of upd_same) ((r.mono g4.known).cut l u)) rfl
end
/-! ### comparisons, membership -/
section
variable {σ : L2.St} {ta tb tc te : TE} {tt tu : TT} {P P1 P2 : PyData → Prop} {d d1 d2 : PyData} {r r' : R2}
theorem rd_eqD (h1 : SeqAt.shaped d1 = true) (h2 : SeqAt.shaped d2 = true) : RD K (rEqD K) d1 d2 (· = .bool (PyData.eqv d1 d2)) := fun v1 v2 H H1 e r1 r2 Q q =>
  ⟨d1, d2, (r1.mono e).dp (SeqAt.canLay_of_shaped h1), (r2.mono e).dp (SeqAt.canLay_of_shaped h2), h1, h2, q _ _ H H1 (Grow.refl e) (.bl _) rfl⟩
theorem rd_neD (h1 : SeqAt.shaped d1 = true) (h2 : SeqAt.shaped d2 = true) : RD K (rNeD K) d1 d2 (· = .bool (!PyData.eqv d1 d2)) := fun v1 v2 H H1 e r1 r2 Q q =>
  ⟨d1, d2, (r1.mono e).dp (SeqAt.canLay_of_shaped h1), (r2.mono e).dp (SeqAt.canLay_of_shaped h2), h1, h2, q _ _ H H1 (Grow.refl e) (.bl _) rfl⟩
def rLtS : R2 := fun x y H Q => ∃ i j, x = .str i ∧ y = .str j ∧ Q (.bl (decide (i.cps.toList < j.cps.toList))) H
theorem rd_ltS {i j : Str} : RD K rLtS (.str i) (.str j) (· = .bool (decide (i.cps.toList < j.cps.toList))) := fun v1 v2 H H1 e r1 r2 Q q => by
  cases r1; cases r2; exact ⟨i, j, rfl, rfl, q _ _ H H1 (Grow.refl e) (.bl _) rfl⟩
theorem rd_inS {c : Nat} {z : Str} : RD K rInS (.str ⟨#[c]⟩) (.str z) (· = .bool (decide (c ∈ z.cps.toList))) := fun v1 v2 H H1 e r1 r2 Q q => by
  cases r1; cases r2; exact ⟨c, z, rfl, rfl, q _ _ H H1 (Grow.refl e) (.bl _) rfl⟩
def isNon : PyData → Bool
  | .none => true
  | _ => false
theorem rd_isN : RD K rIsN d1 .none (· = .bool (isNon d1)) := fun v1 v2 H H1 e r1 r2 Q q => by
  cases r2
  refine ⟨rfl, ?_⟩
  cases r1 <;> exact q _ _ H H1 (Grow.refl e) (.bl _) rfl
theorem rd_notN : RD K rNotN d1 .none (· = .bool (!isNon d1)) := fun v1 v2 H H1 e r1 r2 Q q => by
  cases r2
  refine ⟨rfl, ?_⟩
  cases r1 <;> exact q _ _ H H1 (Grow.refl e) (.bl _) rfl
end

/-! ### list comprehensions -/
/-- one turn of a comprehension's block: x is bound, the test asked, the element made -/
def Turn1 (K : PySem.W.Frag) (g : TG) (tt : TT) (te : TE) (vs : List Nat) (σ : L2.St) (x : V) (H : Hp) (b : Bool) (P : PyData → Prop) : Prop :=
  ∀ H1, Ex H H1 → ∀ R : St → Hp → Prop, (∀ σ2, wipe σ2 vs = wipe σ vs → EvT1 tt σ2 H b → (b = true → EvP K te σ2 H P) → R σ2 H1) → g x (wipe σ vs) H1 R
theorem turn_name {i : Nat} {tt : TT} {te : TE} {vs : List Nat} {σ : L2.St} {x : V} {b : Bool} {P : PyData → Prop} (hw : wipe ((wipe σ vs).set i (some x)) vs = wipe σ vs)
    (ht : EvT1 tt ((wipe σ vs).set i (some x)) H b) (he : b = true → EvP K te ((wipe σ vs).set i (some x)) H P) : Turn1 K (gName i) tt te vs σ x H b P :=
  fun H1 e R k => k _ hw ht he
/-- a, b bound to a pair's two items -/
theorem turn_pair {i j : Nat} {tt : TT} {te : TE} {vs : List Nat} {σ : L2.St} {a : Addr} {x y : V} {b : Bool} {P : PyData → Prop} (hp : SqT K H a [x, y])
    (hw : wipe (((wipe σ vs).set i (some x)).set j (some y)) vs = wipe σ vs)
    (ht : EvT1 tt (((wipe σ vs).set i (some x)).set j (some y)) H b) (he : b = true → EvP K te (((wipe σ vs).set i (some x)).set j (some y)) H P) :
    Turn1 K (gTup K 2 (gCons (gName i) (gCons (gName j) gNil))) tt te vs σ (.ref a) H b P :=
  fun H1 e R k => ⟨a, [x, y], rfl, ex_t e hp, rfl, x, [y], rfl, y, [], rfl, rfl, k _ hw ht he⟩
section
variable {σ : L2.St} {g : TG} {tt : TT} {te : TE} {vs : List Nat}
/-- wi, from what is known in H, gives a walk of n turns; at each turn the datum is known in a bigger heap -/
def WalkD (K : PySem.W.Frag) (wi : TI) (σ : L2.St) (H : Hp) (n : Nat) (T : Nat → V → Hp → Prop) : Prop :=
  ∀ H1, Ex H H1 → ∀ R : It → Hp → Prop, (∀ J G Y Hk H2, Grow H H1 Hk H2 → Walk J n G Y → (∀ H3, Ex Hk H3 → G H3) →
      (∀ i x Hm H3 H4, i < n → Ex Hk Hm → Ex Hm H3 → Y i H3 x H4 → ∃ Hm', Grow Hm H3 Hm' H4 ∧ T i x Hm') → R J H2) → wi σ H1 R
theorem evp_lcW {wi : TI} {n : Nat} {T : Nat → V → Hp → Prop} {b : Nat → Bool} {P : Nat → PyData → Prop} (hi : WalkD K wi σ H n T)
    (ht : ∀ i x Hm, i < n → Ex H Hm → T i x Hm → Turn1 K g tt te vs σ x Hm (b i) (P i)) (hn : n ≤ 100000) :
    EvP K (tLc wi g tt te vs) σ H (fun d => ∃ f : Nat → PyData, d = .list (((List.range n).filter b).map f) ∧ ∀ i, i < n → b i = true → P i (f i)) := by
  intro H1 e Q q
  refine hi H1 e _ fun J G Y Hk H2 g2 w g0 hy => ?_
  intro D hD
  have hDk : Hk D = none := ex_none g2.sub hD
  refine lc_it w (fun i H' => ∃ Hm xs, Ex Hk Hm ∧ Ex Hm H' ∧ Ex H2 H' ∧ Hm D = none ∧ (∀ p o, Hm p = some o → Hk p = none → H2 p = none) ∧ H' D = some (.lst xs) ∧ ∃ f : Nat → PyData, RpAll K Hm xs (((List.range i).filter b).map f) ∧ ∀ j, j < i → b j = true → P j (f j)) ?_ ?_ ?_ ?_
  · exact ⟨Hk, [], Ex.refl _, g2.sub.trans (Ex.new hD), Ex.new hD, hDk, (fun p o h n => by rw [h] at n; cases n), upd_same, fun _ => .none, .nil, fun j hj => absurd hj (Nat.not_lt_zero j)⟩
  · rintro i H' _ ⟨Hm, xs, e1, e2, _⟩
    exact g0 H' (e1.trans e2)
  · rintro i x H3 H4 hlt ⟨Hm, xs, em, e3, e23, hm, hf, hx, f, r, hP⟩ y
    obtain ⟨Hm', g34, tx⟩ := hy i x Hm H3 H4 hlt em e3 y
    refine ht i x Hm' hlt ((g2.known.trans em).trans g34.known) tx H4 g34.sub _ fun σ2 hw ht he => ⟨hw, ?_⟩
    refine ht H4 g34.sub _ fun c Hm5 H5 g5 hc => ?_
    subst hc
    have g35 := g34.trans g5
    have hx5 : H5 D = some (.lst xs) := g35.all _ _ hx
    have hm5 : Hm5 D = none := g35.unk hm hx
    have hf5 : ∀ p o, Hm5 p = some o → Hk p = none → H2 p = none := fun p o h n => by
      cases z : Hm p with
      | some u => exact hf p u z n
      | none => exact ex_none e23 (g35.fresh p o h z)
    cases hb : b i with
    | false =>
      rw [if_neg Bool.false_ne_true]
      refine ⟨Hm5, xs, em.trans g35.known, g35.sub, e23.trans g35.all, hm5, hf5, hx5, f, ?_, fun j hj hbj => ?_⟩
      · rw [List.range_succ, List.filter_append, List.filter_cons_of_neg (by rw [hb]; exact Bool.false_ne_true), List.filter_nil, List.append_nil]
        exact r.mono g35.known
      · by_cases hji : j = i
        · subst hji; rw [hb] at hbj; cases hbj
        · exact hP j (by omega) hbj
    | true =>
      rw [if_pos rfl]
      refine (he hb).mono g5.known H5 g5.sub _ fun v d Hm7 H7 g7 r7 p7 => ?_
      have g37 := g35.trans g7
      have hx7 : H7 D = some (.lst xs) := g37.all _ _ hx
      have hm7 : Hm7 D = none := g37.unk hm hx
      refine ⟨xs, hx7, ?_, ?_⟩
      · have hl : xs.length = (((List.range i).filter b).map f).length := r.len
        have h2 : (((List.range i).filter b).map f).length ≤ i := by
          rw [List.length_map]
          exact Nat.le_trans (List.length_filter_le _ _) (by rw [List.length_range]; exact Nat.le_refl i)
        exact sz_lt (by omega)
      · refine ⟨Hm7, xs ++ [v], em.trans g37.known, g37.sub.mut hm7, (e23.trans g37.all).mut hD, hm7, fun p o h n => ?_, upd_same, fun j => if j = i then d else f j, ?_, fun j hj hbj => ?_⟩
        · cases z : Hm5 p with
          | some u => exact hf5 p u z n
          | none => exact ex_none (e23.trans g35.all) (g7.fresh p o h z)
        · rw [List.range_succ, List.filter_append, List.map_append, List.filter_cons_of_pos hb, List.filter_nil]
          refine RpAll.append ?_ ?_
          · have em : ((List.range i).filter b).map (fun j => if j = i then d else f j) = ((List.range i).filter b).map f := List.map_congr_left fun j hj => by
              have : j < i := List.mem_range.mp (List.mem_filter.mp hj).1
              rw [if_neg (by omega)]
            rw [em]
            exact r.mono g37.known
          · show RpAll K Hm7 [v] [if i = i then d else f i]
            rw [if_pos rfl]
            exact .cons r7 .nil
        · by_cases hji : j = i
          · subst hji
            show P j (if j = j then d else f j)
            rw [if_pos rfl]
            exact p7
          · show P j (if j = i then d else f j)
            rw [if_neg hji]
            exact hP j (by omega) hbj
  · rintro H' ⟨Hm, xs, em, e3, e23, hm, hf, hx, f, r, hP⟩
    have gk : Grow Hk H2 (upd Hm D (.lst xs)) H' := ⟨em.trans (Ex.new hm), fun a u h => by
        by_cases ha : a = D
        · subst ha; rw [upd_same] at h; cases h; exact hx
        · rw [upd_ne ha] at h; exact e3 a u h, e23, fun p o h n => by
        by_cases hp : p = D
        · subst hp; exact hD
        · rw [upd_ne hp] at h; exact hf p o h n⟩
    exact q _ _ _ _ (g2.trans gk) (.lst (sq_of upd_same) (r.mono (Ex.new hm))) ⟨f, rfl, hP⟩
end

/-! walks -/
section
variable {σ : L2.St} {te : TE}
def TAt (K : PySem.W.Frag) (ds : List PyData) (i : Nat) (x : V) (H : Hp) : Prop := ∃ d, ds[i]? = some d ∧ Rp K H x d
theorem walkd_list {ds : List PyData} (h : EvD K te σ H (.list ds)) : WalkD K (iList K te) σ H ds.length (TAt K ds) := by
  intro H1 e R k
  refine h H1 e _ fun v _ Hk H2 g2 r2 p2 => ?_
  subst p2
  cases r2 with
  | @lst a xs _ g r =>
    refine ⟨a, rfl, ⟨xs, ex_l g2.sub g⟩, ?_⟩
    refine k _ _ _ Hk H2 g2 (by have w := walk_list (K := K) (a := a) (xs := xs); rw [r.len] at w; exact w) (fun H3 e3 => ex_l e3 g) ?_
    rintro i x Hm H3 H4 hi em e3 ⟨rfl, hx⟩
    obtain ⟨d, hd, rd⟩ := r.get hx
    exact ⟨Hm, Grow.refl e3, d, hd, rd.mono em⟩
theorem walkd_tup {ds : List PyData} (h : EvD K te σ H (.tuple ds)) : WalkD K (iTup K te) σ H ds.length (TAt K ds) := by
  intro H1 e R k
  refine h H1 e _ fun v _ Hk H2 g2 r2 p2 => ?_
  subst p2
  cases r2 with
  | @tup a xs _ g r =>
    refine ⟨a, rfl, ⟨xs, ex_t g2.sub g⟩, ?_⟩
    refine k _ _ _ Hk H2 g2 (by have w := walk_tup (K := K) (a := a) (xs := xs); rw [r.len] at w; exact w) (fun H3 e3 => ex_t e3 g) ?_
    rintro i x Hm H3 H4 hi em e3 ⟨rfl, hx⟩
    obtain ⟨d, hd, rd⟩ := r.get hx
    exact ⟨Hm, Grow.refl e3, d, hd, rd.mono em⟩
theorem walkd_str {z : Str} (h : EvD K te σ H (.str z)) : WalkD K (iStr te) σ H z.cps.size (fun i x _ => ∃ c, z.cps[i]? = some c ∧ x = .str ⟨#[c]⟩) := by
  intro H1 e R k
  refine h H1 e _ fun v _ Hk H2 g2 r2 p2 => ?_
  subst p2
  cases r2
  refine ⟨z, rfl, ?_⟩
  refine k _ _ _ Hk H2 g2 walk_str (fun H3 e3 => trivial) ?_
  rintro i x Hm H3 H4 hi em e3 ⟨rfl, hx⟩
  exact ⟨Hm, Grow.refl e3, hx⟩
theorem walkd_range {ta : TA} {j : Int} (h : EvA1 K ta σ H [.int j]) (hj : -(2 ^ 62) ≤ j ∧ j < 2 ^ 62) : WalkD K (iRng1 ta) σ H j.toNat (fun i x _ => x = .int i) := by
  intro H1 e R k
  refine h H1 e _ fun vs _ Hk H2 g2 r2 p2 => ?_
  subst p2
  cases r2 with
  | cons r rr =>
    cases r
    cases rr
    refine ⟨j, rfl, hj.1, hj.2, ?_⟩
    refine k _ _ _ Hk H2 g2 walk_range (fun H3 e3 => trivial) ?_
    rintro i x Hm H3 H4 hi em e3 ⟨rfl, hx⟩
    exact ⟨Hm, Grow.refl e3, by rw [hx]; simp⟩
theorem walk_zipT {a b : Addr} {xs ys : List V} {n : Nat} (hn : n = min xs.length ys.length) : Walk (RZ.ItzT K a b) n (fun H => SqT K H a xs ∧ SqT K H b ys) (YPair (fun i => xs[i]?) (fun i => ys[i]?)) := by
  subst hn
  refine ⟨fun i _ hi q => ?_, fun _ q => ⟨xs, ys, q.1, q.2, by omega⟩, fun i H v H' _ q y => ?_⟩
  · have h1 : i < xs.length := by omega
    have h2 : i < ys.length := by omega
    exact ⟨xs, ys, xs[i], ys[i], q.1, q.2, by simp [h1], by simp [h2]⟩
  · obtain ⟨T, x, z, h1, h2, h3, h4, h5⟩ := y
    exact ⟨T, x, z, h1, h2, h3, h4 xs q.1, h5 ys q.2⟩
def TPair (K : PySem.W.Frag) (ds es : List PyData) (i : Nat) (v : V) (H : Hp) : Prop := ∃ T x y d e, v = .ref T ∧ SqT K H T [x, y] ∧ ds[i]? = some d ∧ es[i]? = some e ∧ Rp K H x d ∧ Rp K H y e
theorem walkd_zip {ta : TA} {d e : PyData} {ds es : List PyData} (h : EvA1 K ta σ H [d, e]) (hd : (d = .list ds ∧ e = .list es) ∨ (d = .tuple ds ∧ e = .tuple es)) :
    WalkD K (RZ.iZipA K ta) σ H (min ds.length es.length) (TPair K ds es) := by
  intro H1 e1 R k
  refine h H1 e1 _ fun vs _ Hk H2 g2 r2 p2 => ?_
  subst p2
  cases r2 with
  | cons ra rr =>
    cases rr with
    | cons rb rr =>
      cases rr
      rcases hd with ⟨rfl, rfl⟩ | ⟨rfl, rfl⟩
      · cases ra with
        | @lst a xs _ ga ra =>
          cases rb with
          | @lst b ys _ gb rb =>
            refine ⟨a, b, xs, ys, rfl, .inl ⟨ex_l g2.sub ga, ex_l g2.sub gb, ?_⟩⟩
            refine k _ _ _ Hk H2 g2 (walk_zip (by rw [ra.len, rb.len])) (fun H3 e3 => ⟨ex_l e3 ga, ex_l e3 gb⟩) ?_
            rintro i x Hm H3 H4 hi em e3 ⟨T, x, y, rfl, nT, rfl, hx, hy⟩
            obtain ⟨d', hd', rd⟩ := ra.get hx
            obtain ⟨e', he', re⟩ := rb.get hy
            have g4 := Grow.new e3 nT (.tup [x, y])
            exact ⟨_, g4, T, x, y, d', e', rfl, st_of upd_same, hd', he', rd.mono (em.trans g4.known), re.mono (em.trans g4.known)⟩
      · cases ra with
        | @tup a xs _ ga ra =>
          cases rb with
          | @tup b ys _ gb rb =>
            refine ⟨a, b, xs, ys, rfl, .inr ⟨ex_t g2.sub ga, ex_t g2.sub gb, ?_⟩⟩
            refine k _ _ _ Hk H2 g2 (walk_zipT (by rw [ra.len, rb.len])) (fun H3 e3 => ⟨ex_t e3 ga, ex_t e3 gb⟩) ?_
            rintro i x Hm H3 H4 hi em e3 ⟨T, x, y, rfl, nT, rfl, hx, hy⟩
            obtain ⟨d', hd', rd⟩ := ra.get hx
            obtain ⟨e', he', re⟩ := rb.get hy
            have g4 := Grow.new e3 nT (.tup [x, y])
            exact ⟨_, g4, T, x, y, d', e', rfl, st_of upd_same, hd', he', rd.mono (em.trans g4.known), re.mono (em.trans g4.known)⟩
end

/-! ### promises of defs over data -/
/-- from data ds with pre, some datum of post comes back; what is known stays -/
def spD (K : PySem.W.Frag) (pre : List PyData → Prop) (post : List PyData → PyData → Prop) : Sp := fun vs H1 Q _ => ∃ H ds, Ex H H1 ∧ RpAll K H vs ds ∧ pre ds ∧
  ∀ v d Hk H2, Grow H H1 Hk H2 → Rp K Hk v d → post ds d → Q v H2
theorem evp_call {σ : L2.St} {H : Hp} {ta : TA} {pre : List PyData → Prop} {post : List PyData → PyData → Prop} {P : List PyData → Prop} {R : PyData → Prop} {E : XK} (h : EvAs K ta σ H P) (hp : ∀ ds, P ds → pre ds) (hq : ∀ ds d, P ds → post ds d → R d) :
    EvP K (tCall (spD K pre post) [] E ta) σ H R := fun H1 e Q q => h H1 e _ fun vs ds Hk H2 g2 r2 p2 => by
  show spD K pre post (vs ++ []) H2 Q E
  rw [List.append_nil]
  exact ⟨Hk, ds, g2.sub, r2, hp ds p2, fun v d Hk3 H3 g3 r3 p3 => q v d Hk3 H3 (g2.trans g3) r3 (hq ds d p2 p3)⟩
theorem evd_call {σ : L2.St} {H : Hp} {ta : TA} {pre : List PyData → Prop} {post : List PyData → PyData → Prop} {ds : List PyData} {E : XK} (h : EvA1 K ta σ H ds) (hp : pre ds) : EvP K (tCall (spD K pre post) [] E ta) σ H (post ds) :=
  evp_call h (fun _ e => by subst e; exact hp) fun _ _ e p => by subst e; exact p
end DL
/-! defs that may lean on «no repr is under way»: FnG; repr of data -/
namespace DL
open PySem PySem.Spec PyProof.Rows L2 Evl

/-- as FnOk, where no guarded call is under way -/
structure FnG (P : Program) (w : World) (K : PySem.W.Frag) (mg : Str → Option Value) (base : Heap)
    (CX : CXT) (k : Nat) (f : Addr) (fd : FuncData) (ps : List Str) (sp : Sp) : Prop where
  many : ∀ vs H Q E, sp vs H Q E → vs.length = ps.length
  go : ∀ (A : Around) (outer : List Env) (s : Shared) (H : Hp) (args : Args) (us : List Value) (vs : List V) (Q : VK) (E : XK),
    A.guards = some [] → Room k A → Env0 P w K mg base A outer s H → BindsTo s fd args (ps.zip us) → Vals vs us → sp vs H Q E →
    codeAny (model P w) A (.call (.ref f) args) (CR CX outer P w H s Q E) s
section
variable {P : Program} {w : World} {K : PySem.W.Frag} {mg : Str → Option Value} {base : Heap} {CX : CXT}
theorem FnG.of {k : Nat} {f : Addr} {fd : FuncData} {ps : List Str} {sp : Sp} (F : FnOk P w K mg base CX k f fd ps sp) : FnG P w K mg base CX k f fd ps sp :=
  ⟨F.len, fun A outer s H args us vs Q E _ hr he hb hv hs => F.run A outer s H args us vs Q E hr he hb hv hs⟩
/-- a body whose frame knows that nothing guarded is under way -/
theorem fnG_body {k : Nat} {f : Addr} {nm ql : Str} {pm : Arguments} {bd : List Stmt} {sc : Scope} {dV kV doc pmv cdv ct oc : Value} {an od : Option Addr}
    {osl : Array (Option Value)} {N ps : List Str} {sp : Sp}
    (lk : K.lookup f = some ⟨oc, od, .func (PySem.W.fnOf nm ql pm bd sc dV kV doc pmv an cdv ct), osl⟩)
    (cdk : PySem.W.codeIn K cdv ql = true) (S : FnScope N ps sc)
    (many : ∀ vs H Q E, sp vs H Q E → vs.length = ps.length)
    (body : ∀ (A : Around) (outer : List Env) (s : Shared) (H : Hp) (vs : List V) (Q : VK) (E : XK),
      (A.deeper (envOfC ql sc s.heap.objs.size f cdv)).guards = some [] →
      Room k (A.deeper (envOfC ql sc s.heap.objs.size f cdv)) → sp vs H Q E →
      ∃ t, PSs (cxOf CX P w K mg base N ql sc f cdv A outer s H E) bd t ∧ t { nx := fun _ H' => Q .non H', rt := Q } (start N vs) H) :
    FnG P w K mg base CX (k + 1) f (PySem.W.fnOf nm ql pm bd sc dV kV doc pmv an cdv ct) ps sp := by
  refine ⟨many, fun A outer s H args us vs Q E hgd hr en hb rv hsp => ?_⟩
  have kin : K.In s.heap := en.mod.kin.keeps fun b o e => (en.bs b o e).1
  have nol : s.heap.NoLimit := en.mod.nolimit.keeps fun b o e => (en.bs b o e).1
  have kinds : ∀ y ∈ ps.zip us, sc.names.lookup y.1 = some .local ∨
      (sc.names.lookup y.1 = some .cell ∧ ((cellsFrom (s.heap.objs.size + 1) sc.names []).lookup y.1).isSome = true) := by
    rintro ⟨n, v⟩ hy
    cases S.par n (List.of_mem_zip hy).1 with
    | inl q => exact .inl q
    | inr q => exact .inr ⟨q, PySem.W.cellsFrom_some _ _ _ (.inl q)⟩
  refine codeAny_call_function hr.depth (kin _ _ lk) rfl S.co S.gen rfl (PySem.W.codeRec_of kin cdk) (hb _ _ _ _ ?_)
  refine wpAny_newFunctionEnv_cells S.kind kinds fun env he s1 x => ?_
  subst he
  refine ⟨nol.keeps x.toInCall.keep, codeAny_func ?_⟩
  obtain ⟨t, ht, hq⟩ := body A outer s H vs Q E hgd (hr.deeper _) hsp
  have J0 := inv_start (CX := CX) (E := E) (H := H) (mg := mg) (base := base) S hr.hd en (many _ _ _ _ hsp) rv x
  refine wpAny_mono (ht.run [] s1 (start N vs) H _ J0 hq) ?_ fun e s' hs => hs
  intro fl s' hs
  cases fl with
  | next =>
    obtain ⟨σ', H', J, q⟩ := hs
    exact ⟨V.non, H', J.os, J.bare, J.base, J.hok, rfl, q⟩
  | ret u =>
    obtain ⟨v, σ', H', J, r', q⟩ := hs
    exact ⟨v, H', J.os, J.bare, J.base, J.hok, r', q⟩
  | brk =>
    obtain ⟨_, _, _, q⟩ := hs
    exact q.elim
  | cont =>
    obtain ⟨_, _, _, q⟩ := hs
    exact q.elim
theorem Fun.okG {x qual : Str} {st : Stmt} {f : Addr} {fd : FuncData} {N ps : List Str} {k : Nat} {sp : Sp} (F : Fun K x qual st f fd) (S : FnScope N ps (defScope st))
    (many : ∀ vs H Q E, sp vs H Q E → vs.length = ps.length)
    (body : ∀ (cdv : Value) (A : Around) (outer : List Env) (s : Shared) (H : Hp) (vs : List V) (Q : VK) (E : XK),
      (A.deeper (envOfC qual (defScope st) s.heap.objs.size f cdv)).guards = some [] →
      Room k (A.deeper (envOfC qual (defScope st) s.heap.objs.size f cdv)) → sp vs H Q E →
      ∃ t, PSs (cxOf CX0 P w K mg base N qual (defScope st) f cdv A outer s H E).nox (defBody st) t ∧ t { nx := fun _ H' => Q .non H', rt := Q } (start N vs) H) :
    FnG P w K mg base CX0 (k + 1) f fd ps sp := by
  obtain ⟨oc, od, kV, doc, pm, an, cdv, ct, osl, rfl, lk, hcd⟩ := F.ex
  refine fnG_body lk hcd S many fun A outer s H vs Q E hgd hr hsp => ?_
  obtain ⟨t, h, q⟩ := body cdv A outer s H vs Q E hgd hr hsp
  exact ⟨t, h.nox, q⟩
end
section
variable {X : Cx} {CX : CXT} {k : Nat} {f : Addr} {fd : FuncData} {ps : List Str} {sp : Sp} {dvs : List V} {ds : List Value} {E : XK} {x : Str} {p pos : Pos} {e : Expr} {es : List Expr} {t : TA}
theorem runG {pins : List (Addr × Obj)} {σ : L2.St} {H : Hp} {s : Shared} {Q : VK} {us : List Value} {vs : List V}
    (F : FnG X.prog X.w X.K X.mg X.base CX k f fd ps sp) (hgd : X.A.guards = some []) (hr : Room k X.A) (hb : Binds X.K fd ps ds) (hd : Vals dvs ds) (hx : Passes CX X E)
    (I : Inv X pins σ H s) (r : Vals vs us) (h : sp (vs ++ dvs) H Q E) : wpAny (model X.prog X.w) X.A (call (.ref f) us) (EP X pins σ Q) X.xe s := by
  have rv : Vals (vs ++ dvs) (us ++ ds) := r.append hd
  have many : (us ++ ds).length = ps.length := rv.length.symm.trans (F.many _ _ _ _ h)
  refine wpAny_call (codeAny_mono (F.go X.A X.stack s H ⟨us, []⟩ (us ++ ds) (vs ++ dvs) Q E hgd hr I.env0 (hb s us I.kIn many) rv h) ?_)
  intro res s' hq
  match res, hq with
  | .error e, hq => exact hx pins σ H s e s' I hq
  | .ok (.ret u), hq => exact I.after hq
theorem pe_callG (F : FnG X.prog X.w X.K X.mg X.base CX k f fd ps sp) (hgd : X.A.guards = some []) (hr : Room k X.A) (hg : Gl X x) (hm : X.mg x = some (.ref f))
    (hk : PySem.W.keepIn X.K (.ref f) = true) (hb : Binds X.K fd ps ds) (hd : Vals dvs ds) (hx : Passes CX X E) (ha : PA X (e :: es) t)
    (hdb : (x == ("__debug__" : Str)) = false := by decide) (he : starEach (e :: es) X.env = (false, eval e X.env) :: starEach es X.env := by rfl)
    (hpl : (backTo pos (starEach es X.env)).any (·.1) = false := by rfl) : PE X (.Call (.Name x p) (e :: es) [] pos) (tCall sp dvs E t) := by
  constructor
  intro pins s σ H Q I h
  refine wpAny_Call_Name_kw (ld_glob I hg hm ?_ hdb)
  refine PySem.W.callWith_K (h₀ := X.base) I.ok.mod.kin hk (thn (ha.run pos pins s σ H _ I h) ?_) he hpl
  rintro us s1 ⟨vs, H1, I1, r, q⟩
  exact ⟨I1.kIn, runG F hgd hr hb hd hx I1 r q⟩
theorem pe_callG0 (F : FnG X.prog X.w X.K X.mg X.base CX k f fd ps sp) (hgd : X.A.guards = some []) (hr : Room k X.A) (hg : Gl X x) (hm : X.mg x = some (.ref f))
    (hk : PySem.W.keepIn X.K (.ref f) = true) (hb : Binds X.K fd ps ds) (hd : Vals dvs ds) (hx : Passes CX X E)
    (hdb : (x == ("__debug__" : Str)) = false := by decide) : PE X (.Call (.Name x p) [] [] pos) (tCall sp dvs E tNil) := by
  constructor
  intro pins s σ H Q I h
  refine wpAny_Call_Name_kw (ld_glob I hg hm ?_ hdb)
  exact PySem.W.callWith_K0 I.kIn hk (runG (us := []) F hgd hr hb hd hx I .nil h)
end

/-! the law itself: its call's frame has nothing guarded below -/
theorem lawG_from {P : Program} {w : World} {K : PySem.W.Frag} {mg mb : Str → Option Value} {k : Nat} {fa a : Addr} {fd : FuncData} {x : Str} {sp : Sp} {s1 : Shared} {vs : List Value} {H : Hp}
    (KX : K.In s1.heap) (gl : s1.heap.Ns mainGlobals mg) (bl : s1.heap.Ns builtinsNs mb) (bb : ∀ x : Str, x ≠ "__name__" → mb x = bootBuiltins x) (nol : s1.heap.NoLimit) (ge : s1.gens = #[])
    (ha : s1.heap.get? a = some { cls := .type "list", data := .seq vs.toArray }) (hr : Room k callerA)
    (F : ∀ base : Heap, K.In base → base.Ns mainGlobals mg → FnG P w K mg base CX0 k fa fd [x] sp) (hb : ∀ (s : Shared) (u : Value), BindsTo s fd ⟨[u], []⟩ [(x, u)])
    (hO : Only H) (ok : HOk P w H s1.heap) (at1 : ∀ b, H b ≠ none → b = a) (at2 : H a ≠ none → K.lookup a = none)
    (hs : sp [.ref a] H (fun v _ => v = .bl true) fun _ _ _ => False) :
    codeAny (model P w) callerA (.call (.ref fa) ⟨[.ref a], []⟩) (fun r s' => r = .ok (.ret (.bool true)) ∧ OldK s1.heap s'.heap ∧ s'.os = s1.os ∧ AllBare s'.gens) s1 := by
  have no1 : ∀ {b : Addr} {u : HO}, H b = some u → b = a := fun {b u} q => at1 b (by rw [q]; exact fun z => nomatch z)
  have keepNs : ∀ {b : Addr} {m : Str → Option Value}, s1.heap.Ns b m → (hidT s1.heap H).Ns b m := by
    rintro b m ⟨o, es, ep, e, d, r⟩
    refine ⟨o, es, ep, hidT_get e ?_, d, r⟩
    cases q : H b with
    | none => rfl
    | some u =>
      obtain rfl := no1 q
      rw [ha] at e
      cases e
      exact nomatch (show Data.seq vs.toArray _ = Data.dict es ep from d)
  have keepK : K.In (hidT s1.heap H) := by
    intro b o e
    refine hidT_get (KX b o e) ?_
    cases q : H b with
    | none => rfl
    | some u =>
      obtain rfl := no1 q
      rw [at2 (by rw [q]; exact fun z => nomatch z)] at e
      cases e
  have md : Mod K mg (hidT s1.heap H) := by
    obtain ⟨mc, n1, n2⟩ := nol
    exact ⟨keepK, keepNs gl, ⟨mb, keepNs bl, bb⟩, ⟨mc, keepNs n1, n2⟩⟩
  have en : Env0 P w K mg (hidT s1.heap H) callerA [] s1 H :=
    ⟨rfl, md, fun b o e => of_hidT e, Nat.le_of_eq (hidT_size _ _), trivial, (fun b hb => absurd (show b ∈ ([] : List Addr) from hb) (List.not_mem_nil)), ok, AllBare.of_eq ge⟩
  refine codeAny_mono ((F _ keepK (keepNs gl)).go callerA [] s1 H ⟨[.ref a], []⟩ [.ref a] [.ref a] _ _ rfl hr en (hb s1 (.ref a)) (.cons rfl .nil) hs) ?_
  intro res s' h
  match res, h with
  | .error e, h => exact h.elim
  | .ok (.ret u), h =>
    obtain ⟨v, H', os, bare, un, ok', r', q⟩ := h
    obtain rfl : v = V.bl true := q
    obtain rfl : u = Value.bool true := r'
    refine ⟨rfl, OldK.of_keep ?_, os, bare⟩
    intro b o e
    cases q : H b with
    | none => exact un.keep b o e q (fun z => absurd (show b ∈ ([] : List Addr) from z) (List.not_mem_nil)) (List.not_mem_nil)
    | some u =>
      cases hO b with
      | inl z => rw [q] at z; cases z
      | inr z =>
        obtain ⟨ob, xs, z⟩ := z
        have e1 := (ok b _ z).1
        have e2 := (ok' b _ (un.frzs b ob _ z)).1
        rw [e] at e1
        cases e1
        exact e2
theorem lawG {P : Program} {w : World} {K : PySem.W.Frag} {mg mb : Str → Option Value} {k : Nat} {fa a : Addr} {fd : FuncData} {x : Str} {sp : Sp} {s1 : Shared} {vs : List Value} {ns : List Int}
    (KX : K.In s1.heap) (gl : s1.heap.Ns mainGlobals mg) (bl : s1.heap.Ns builtinsNs mb) (bb : ∀ x : Str, x ≠ "__name__" → mb x = bootBuiltins x) (nol : s1.heap.NoLimit) (ge : s1.gens = #[])
    (ha : s1.heap.get? a = some { cls := .type "list", data := .seq vs.toArray }) (hi : IntsAre vs ns) (hl : ns.length ≤ sizeLine) (hr : Room k callerA)
    (F : ∀ base : Heap, K.In base → base.Ns mainGlobals mg → FnG P w K mg base CX0 k fa fd [x] sp) (hb : ∀ (s : Shared) (u : Value), BindsTo s fd ⟨[u], []⟩ [(x, u)])
    (hs : ∀ H : Hp, Only H → SqL K H a (ns.map V.int) → sp [.ref a] H (fun v _ => v = .bl true) fun _ _ _ => False) :
    codeAny (model P w) callerA (.call (.ref fa) ⟨[.ref a], []⟩) (fun r s' => r = .ok (.ret (.bool true)) ∧ OldK s1.heap s'.heap ∧ s'.os = s1.os ∧ AllBare s'.gens) s1 := by
  cases hk : K.lookup a with
  | some o =>
    have e := KX a o hk
    rw [ha] at e
    cases e
    refine lawG_from (H := fun _ => none) KX gl bl bb nol ge ha hr F hb (fun _ => .inl rfl) (fun b u z => by cases (show (none : Option HO) = some u from z)) (fun b z => absurd rfl z) (fun z => absurd rfl z) (hs _ (fun _ => .inl rfl) ?_)
    exact .inr ⟨_, vs.toArray, _, hk, rfl, rfl, rfl, by rw [List.size_toArray, hi.length]; exact hl, by simpa using vals_ints hi⟩
  | none =>
    let scr : HO := .frz { cls := .type "list", data := .seq vs.toArray } (.lst (ns.map V.int))
    let H0 : Hp := fun b => if b = a then some scr else none
    have h1 : H0 a = some scr := if_pos rfl
    have h0 : ∀ b, b ≠ a → H0 b = none := fun b n => if_neg n
    have only : Only H0 := fun b => by
      by_cases q : b = a
      · exact .inr ⟨_, _, by rw [q]; exact h1⟩
      · exact .inl (h0 b q)
    refine lawG_from (H := H0) KX gl bl bb nol ge ha hr F hb only (fun b u z => ?_) (fun b z => ?_) (fun _ => hk) (hs _ only (.inl (.inr ⟨_, h1⟩)))
    · by_cases q : b = a
      · subst q
        rw [h1] at z
        cases z
        exact ⟨ha, by rw [List.length_map]; exact hl, vs, _, vals_ints hi, ha⟩
      · rw [h0 b q] at z
        cases z
    · by_cases q : b = a
      · exact q
      · exact absurd (h0 b q) z
theorem walkG {l : PySem.W.OpenLaw} {n k : Nat} {q : Program} {loose : List Str} {XP : (Str → Option Value) → Heap → Prop} {YP : World → Heap → Prop} {d : DefRec} {K : Params → PySem.W.Frag} {sp : World → Sp} {x : Str}
    (hn : l.most = some n) (hn2 : n ≤ sizeLine) (hdf : d.params.defaults = []) (hr : Room k callerA)
    (hY : ∀ (w : World) (h : Heap), YP w h → (K w.params).In h)
    (F : ∀ (w : World) (mg : Str → Option Value) (fa : Addr) (h : Heap), (K w.params).In h → h.Ns mainGlobals mg → mg d.name = some (.ref fa) →
      ∃ fd : FuncData, (∀ (s : Shared) (u : Value), BindsTo s fd ⟨[u], []⟩ [(x, u)]) ∧
        ∀ base : Heap, (K w.params).In base → base.Ns mainGlobals mg → FnG l.prog w (K w.params) mg base CX0 k fa fd [x] (sp w))
    (hs : ∀ (w : World) (H : Hp) (a : Addr) (ns : List Int), ns.length ≤ n → Only H → SqL (K w.params) H a (ns.map V.int) → sp w [.ref a] H (fun v _ => v = .bl true) fun _ _ _ => False) :
    PySem.W.WalkO q loose XP YP l.row.toRowW d [] (fun f vs => PySem.call f vs) := by
  refine Att.attach_call hn hdf fun w s0 s1 mg mb fa o pm cd doc a vs ns G Y ho hd hcd hmg hobj hints hlen hg => ?_
  obtain ⟨fd, hb, hF⟩ := F w mg fa _ (hY w _ Y) G.T.g hmg
  exact lawG (hY w _ Y) G.T.g G.T.b G.T.builtins G.T.nolimit hg hobj hints (Nat.le_trans hlen hn2) hr hF hb fun H hO hS => hs w H a ns hlen hO hS

/-! repr -/
section
variable {X : Cx}
/-- repr(x) of data; a text's and a number's length are bounded -/
def rRepr (K : PySem.W.Frag) : List V → Hp → VK → Prop := fun xs H Q => ∃ x d, xs = [x] ∧ Dp K H x d ∧ d.showable = true ∧ d.canLay0 = true ∧ d.depth ≤ 64 ∧ d.shown.length ≤ sizeLine ∧ Q (.str d.shown) H
theorem call_reprG (hgd : X.A.guards = some []) (hu : X.A.units + 65 < cLine) : CallR X (.builtin "repr") (rRepr X.K) := by
  intro pins s σ H xs us Q I rv h
  obtain ⟨x, d, rfl, hd, hs, hc, hp, hz, q⟩ := h
  obtain ⟨u, rfl, rx⟩ := vals1 rv
  obtain ⟨as, rr⟩ := Dp.reads I d x u hd rx
  have fin : ∀ (h' : Heap) (tk : Nat) (t : Tok), (∀ b o, s.heap.get? b = some o → h'.get? b = some o) → EP X pins σ Q (.str d.shown t) { s with heap := h', toks := tk } :=
    fun h' tk t hk => ⟨.str d.shown, H, I.kept hk, ⟨t, rfl⟩, q⟩
  cases hd with
  | non =>
    cases rx
    exact PySem.P.repr_of_none (fin s.heap _ _ fun _ _ e => e)
  | bl b =>
    cases rx
    exact PySem.P.repr_of_bool (fin s.heap _ _ fun _ _ e => e)
  | int i =>
    obtain ⟨t, rfl⟩ := rx
    refine PySem.P.repr_of_int (by simpa [PyData.showable] using hs) ?_
    rw [← PyData.shown_int]
    exact fin s.heap _ _ fun _ _ e => e
  | str z =>
    obtain ⟨t, rfl⟩ := rx
    refine PySem.P.repr_of_str ?_ (by rw [← PyData.shown_str]; exact hz)
    rw [← PyData.shown_str]
    exact fin s.heap _ _ fun _ _ e => e
  | lst h1 h2 =>
    cases rx
    exact repr_of_reads' rr hs (PyData.noDict_hsm (PyData.hasDict_of_canLay _ hc)) hgd (by omega) (fun _ _ e => e) (fun h' t tk hk => fin h' tk t hk) hz
  | tup h1 h2 =>
    cases rx
    exact repr_of_reads' rr hs (PyData.noDict_hsm (PyData.hasDict_of_canLay _ hc)) hgd (by omega) (fun _ _ e => e) (fun h' t tk hk => fin h' tk t hk) hz
end
end DL
/-! operators of several kinds at once; the bag of draws -/
namespace DL
open PySem PySem.Spec PyProof.Rows L2 Evl
theorem opOr {X : Cx} {f : Value → Value → Sem Value} {r r' : R2} (h : OpR X f r) (h' : OpR X f r') : OpR X f (fun x y H Q => r x y H Q ∨ r' x y H Q) := by
  intro pins s σ H x y v u Q I rx ry q
  cases q with
  | inl q => exact h pins s σ H x y v u Q I rx ry q
  | inr q => exact h' pins s σ H x y v u Q I rx ry q
/-! + -/
def rAddS : R2 := fun x y H Q => ∃ i j, x = .str i ∧ y = .str j ∧ i.length + j.length ≤ sizeLine ∧ Q (.str (i ++ j)) H
def rAddU (K : PySem.W.Frag) : R2 := fun x y H Q => rI0 (fun i j => .int (i + j)) x y H Q ∨ rAddS x y H Q ∨ rCat x y H Q ∨ rCatA K x y H Q
theorem opAdd {X : Cx} : OpR X (binaryOp .Add) (rAddU X.K) := opOr op_add (opOr op_add_str (opOr op_cat op_catA))
/-! * -/
def rMulI : R2 := rI IntMulOk fun i j => .int (i * j)
theorem op_mulA {X : Cx} : OpR X (binaryOp .Mult) rMulI := opI fun _ _ _ _ _ _ _ hc q => mul_int q hc
def rMulU (K : PySem.W.Frag) : R2 := fun x y H Q => rMulI x y H Q ∨ rRep x y H Q ∨ rRepT K x y H Q
theorem opMul {X : Cx} : OpR X (binaryOp .Mult) (rMulU X.K) := opOr op_mulA (opOr op_rep op_repT)
/-! ** of great numbers -/
def CPowW (i j : Int) : Prop := 0 ≤ j ∧ (Builtin.Int.intBits i : Int) * j ≤ 2 ^ 27
def rPowW : R2 := rI CPowW fun i j => .int (i ^ j.toNat)
theorem op_powW {X : Cx} : OpR X (binaryOp .Pow) rPowW := opI fun _ _ _ _ _ _ _ hc q => pow_int hc.1 hc.2 q
/-! orders -/
def rLtU : R2 := fun x y H Q => rI0 (fun i j => .bl (decide (i < j))) x y H Q ∨ rLtS x y H Q
theorem opLt {X : Cx} : OpR X (compareOp .Lt) rLtU := opOr op_lt op_lt_str
def rGtS : R2 := fun x y H Q => ∃ i j, x = .str i ∧ y = .str j ∧ Q (.bl (decide (j.cps.toList < i.cps.toList))) H
def rGtU : R2 := fun x y H Q => rI0 (fun i j => .bl (decide (j < i))) x y H Q ∨ rGtS x y H Q
theorem opGt {X : Cx} : OpR X (compareOp .Gt) rGtU := opOr op_gt op_gt_str
def rGeS : R2 := fun x y H Q => ∃ i j, x = .str i ∧ y = .str j ∧ Q (.bl (!decide (i.cps.toList < j.cps.toList))) H
def rGeU : R2 := fun x y H Q => rI0 (fun i j => .bl (decide (j ≤ i))) x y H Q ∨ rGeS x y H Q
theorem opGe {X : Cx} : OpR X (compareOp .GtE) rGeU := opOr op_ge op_ge_str
def rLeS : R2 := fun x y H Q => ∃ i j, x = .str i ∧ y = .str j ∧ Q (.bl (!decide (j.cps.toList < i.cps.toList))) H
def rLeU : R2 := fun x y H Q => rI0 (fun i j => .bl (decide (i ≤ j))) x y H Q ∨ rLeS x y H Q
theorem opLe {X : Cx} : OpR X (compareOp .LtE) rLeU := opOr op_le op_le_str
/-! in -/
def rInU (K : PySem.W.Frag) : R2 := fun x y H Q => rInS x y H Q ∨ rIn K false x y H Q ∨ rInD K x y H Q
theorem opIn {X : Cx} (hu : X.A.units + 65 < cLine) : OpR X (compareOp .In) (rInU X.K) := opOr op_inS (opOr op_in_seq (op_inD hu))
def rNiU (K : PySem.W.Frag) : R2 := fun x y H Q => rNotInS x y H Q ∨ rIn K true x y H Q ∨ rNotInD K x y H Q
theorem opNi {X : Cx} (hu : X.A.units + 65 < cLine) : OpR X (compareOp .NotIn) (rNiU X.K) := opOr op_notInS (opOr op_notIn_seq (op_notInD hu))
/-! slices -/
def rSlU (K : PySem.W.Frag) : V → Option Int → Option Int → Hp → VK → Prop := fun x lo hi H Q => rSlL K x lo hi H Q ∨ rSlA K x lo hi H Q ∨ rSlS x lo hi H Q
theorem slU {X : Cx} : L2.SlR X (rSlU X.K) := SlR.or sl_list (SlR.or sl_tupA sl_str)

section
variable {K : PySem.W.Frag} {d1 d2 : PyData} {P : PyData → Prop}
theorem RD.l {r r' : R2} (h : RD K r d1 d2 P) : RD K (fun x y H Q => r x y H Q ∨ r' x y H Q) d1 d2 P := fun v1 v2 H H1 e r1 r2 Q q => .inl (h v1 v2 H H1 e r1 r2 Q q)
theorem RD.r {r r' : R2} (h : RD K r' d1 d2 P) : RD K (fun x y H Q => r x y H Q ∨ r' x y H Q) d1 d2 P := fun v1 v2 H H1 e r1 r2 Q q => .inr (h v1 v2 H H1 e r1 r2 Q q)
theorem rd_add {i j : Int} : RD K (rAddU K) (.int i) (.int j) (· = .int (i + j)) := rd_I0.l
theorem rd_addS {i j : Str} (h : i.length + j.length ≤ 100000) : RD K (rAddU K) (.str i) (.str j) (· = .str (i ++ j)) := RD.r (RD.l fun v1 v2 H H1 e r1 r2 Q q => by
  cases r1; cases r2
  exact ⟨i, j, rfl, rfl, sz_of h, q _ _ H H1 (Grow.refl e) (.str _) rfl⟩)
theorem rd_addT {xs ys : List PyData} (h : xs.length + ys.length ≤ 100000) : RD K (rAddU K) (.tuple xs) (.tuple ys) (· = .tuple (xs ++ ys)) := RD.r (RD.r (RD.r fun v1 v2 H H1 e r1 r2 Q q => by
  cases r1 with
  | tup h1 r1 =>
    cases r2 with
    | tup h2 r2 =>
      refine ⟨_, _, _, _, rfl, rfl, ex_t e h1, ex_t e h2, ?_, ?_⟩
      · rw [r1.len, r2.len]; exact sz_of h
      · refine ⟨fun e1 => ?_, fun _ e1 => ?_, fun _ _ p hp => ?_⟩
        · subst e1
          have := r1.len
          have e0 : xs = [] := List.length_eq_zero_iff.mp this.symm
          subst e0
          exact q _ _ H H1 (Grow.refl e) (.tup h2 r2) rfl
        · subst e1
          have e0 : ys = [] := List.length_eq_zero_iff.mp r2.len.symm
          subst e0
          exact q _ _ H H1 (Grow.refl e) (.tup h1 r1) (by rw [List.append_nil])
        · exact q _ _ _ _ (Grow.new e hp _) (.tup (st_of upd_same) ((r1.append r2).mono (Grow.new e hp _).known)) rfl))

theorem rd_mul {i j : Int} (h : IntMulOk i j) : RD K (rMulU K) (.int i) (.int j) (· = .int (i * j)) := (rd_I h).l
theorem rd_pow {i j : Int} (h : CPowW i j) : RD K rPowW (.int i) (.int j) (· = .int (i ^ j.toNat)) := rd_I h
theorem rd_lt {i j : Int} : RD K rLtU (.int i) (.int j) (· = .bool (decide (i < j))) := rd_B0.l
theorem rd_gt {i j : Int} : RD K rGtU (.int i) (.int j) (· = .bool (decide (j < i))) := rd_B0.l
theorem rd_le {i j : Int} : RD K rLeU (.int i) (.int j) (· = .bool (decide (i ≤ j))) := rd_B0.l
theorem rd_ge {i j : Int} : RD K rGeU (.int i) (.int j) (· = .bool (decide (j ≤ i))) := rd_B0.l
theorem rd_ltT {i j : Str} : RD K rLtU (.str i) (.str j) (· = .bool (decide (i.cps.toList < j.cps.toList))) := RD.r rd_ltS
theorem rd_gtT {i j : Str} : RD K rGtU (.str i) (.str j) (· = .bool (decide (j.cps.toList < i.cps.toList))) := RD.r fun v1 v2 H H1 e r1 r2 Q q => by
  cases r1; cases r2; exact ⟨i, j, rfl, rfl, q _ _ H H1 (Grow.refl e) (.bl _) rfl⟩
theorem rd_geT {i j : Str} : RD K rGeU (.str i) (.str j) (· = .bool (!decide (i.cps.toList < j.cps.toList))) := RD.r fun v1 v2 H H1 e r1 r2 Q q => by
  cases r1; cases r2; exact ⟨i, j, rfl, rfl, q _ _ H H1 (Grow.refl e) (.bl _) rfl⟩
theorem rd_leT {i j : Str} : RD K rLeU (.str i) (.str j) (· = .bool (!decide (j.cps.toList < i.cps.toList))) := RD.r fun v1 v2 H H1 e r1 r2 Q q => by
  cases r1; cases r2; exact ⟨i, j, rfl, rfl, q _ _ H H1 (Grow.refl e) (.bl _) rfl⟩
theorem rd_inSign {c : Nat} {z : Str} : RD K (rInU K) (.str ⟨#[c]⟩) (.str z) (· = .bool (decide (c ∈ z.cps.toList))) := rd_inS.l
def flatD : PyData → Bool
  | .none => true
  | .bool _ => true
  | .int _ => true
  | .str _ => true
  | _ => false
theorem flat_of {H : Hp} {v : V} {d : PyData} (r : Rp K H v d) (h : flatD d = true) : flatV v = true := by
  cases r <;> first | rfl | cases h
theorem eqV_of {H : Hp} {v w : V} {d e : PyData} (r : Rp K H v d) (q : Rp K H w e) (h : flatD d = true) (g : flatD e = true) : eqV v w = PyData.eqv d e := by
  cases r <;> cases q <;> first | rfl | cases h | cases g | (simp [eqV, PyData.eqv])
theorem flats_of {H : Hp} : ∀ {vs : List V} {ds : List PyData}, RpAll K H vs ds → ds.all flatD = true → vs.all flatV = true
  | _, _, .nil, _ => rfl
  | _, _, .cons h r, g => by
    simp only [List.all_cons, Bool.and_eq_true] at g ⊢
    exact ⟨flat_of h g.1, flats_of r g.2⟩
theorem inV_of {H : Hp} {v : V} {d : PyData} (q : Rp K H v d) (hd : flatD d = true) : ∀ {vs : List V} {ds : List PyData}, RpAll K H vs ds → ds.all flatD = true → inV v vs = ds.any fun y => PyData.eqv y d
  | _, _, .nil, _ => rfl
  | _, _, .cons h r, g => by
    simp only [List.all_cons, Bool.and_eq_true] at g
    have ih := inV_of q hd r g.2
    unfold inV at ih ⊢
    rw [List.any_cons, List.any_cons, ih, eqV_of h q g.1 hd]
theorem rd_inFlat {ds : List PyData} (hy : d2 = .list ds ∨ d2 = .tuple ds) (h : flatD d1 = true) (g : ds.all flatD = true) : RD K (rInU K) d1 d2 (· = .bool (ds.any fun y => PyData.eqv y d1)) := RD.r (RD.l fun v1 v2 H H1 e r1 r2 Q q => by
  rcases hy with rfl | rfl
  · cases r2 with
    | @lst a xs _ h2 r2 =>
      refine ⟨a, xs, rfl, .inl (ex_l e h2), flat_of r1 h, flats_of r2 g, ?_⟩
      exact q _ _ H H1 (Grow.refl e) (.bl _) (by rw [if_neg Bool.false_ne_true, inV_of r1 h r2 g])
  · cases r2 with
    | @tup a xs _ h2 r2 =>
      refine ⟨a, xs, rfl, .inr (ex_t e h2), flat_of r1 h, flats_of r2 g, ?_⟩
      exact q _ _ H H1 (Grow.refl e) (.bl _) (by rw [if_neg Bool.false_ne_true, inV_of r1 h r2 g]))
theorem rd_niFlat {ds : List PyData} (hy : d2 = .list ds ∨ d2 = .tuple ds) (h : flatD d1 = true) (g : ds.all flatD = true) : RD K (rNiU K) d1 d2 (· = .bool (!ds.any fun y => PyData.eqv y d1)) := RD.r (RD.l fun v1 v2 H H1 e r1 r2 Q q => by
  rcases hy with rfl | rfl
  · cases r2 with
    | @lst a xs _ h2 r2 =>
      refine ⟨a, xs, rfl, .inl (ex_l e h2), flat_of r1 h, flats_of r2 g, ?_⟩
      exact q _ _ H H1 (Grow.refl e) (.bl _) (by rw [if_pos rfl, inV_of r1 h r2 g])
  · cases r2 with
    | @tup a xs _ h2 r2 =>
      refine ⟨a, xs, rfl, .inr (ex_t e h2), flat_of r1 h, flats_of r2 g, ?_⟩
      exact q _ _ H H1 (Grow.refl e) (.bl _) (by rw [if_pos rfl, inV_of r1 h r2 g]))
end
section
variable {K : PySem.W.Frag} {σ : L2.St} {H : Hp} {te : TE}
theorem evd_sl {lo hi : TO} {l u : Option Int} {d : PyData} {f : PyData → PyData} {ds : List PyData} (h : EvD K te σ H d) (hd : (d = .list ds ∧ f = fun _ => .list (cutG ds l u)) ∨ (d = .tuple ds ∧ f = fun _ => .tuple (cutG ds l u))) (h1 : EvO lo σ H l) (h2 : EvO hi σ H u) :
    EvD K (tSl (rSlU K) te lo hi) σ H (f d) := by
  intro H1 e Q q
  refine h H1 e _ fun v _ Hk2 H2 g2 r2 p2 => ?_
  refine h1 H2 (e.trans g2.all) _ fun H3 e3 => ?_
  refine h2 H3 ((e.trans g2.all).trans e3) _ fun H4 e4 => ?_
  have g3 : Grow Hk2 H2 Hk2 H4 := ⟨Ex.refl _, g2.sub.trans (e3.trans e4), e3.trans e4, fun p o h n => by rw [h] at n; cases n⟩
  subst p2
  rcases hd with ⟨rfl, rfl⟩ | ⟨rfl, rfl⟩
  · cases r2 with
    | @lst a xs _ g r =>
      refine .inl ⟨_, _, rfl, ex_l g3.sub g, fun p hp => ?_⟩
      have g4 := Grow.new g3.sub hp (.lst (cutV xs l u))
      exact q _ _ _ _ ((g2.trans g3).trans g4) (.lst (sq_of upd_same) ((r.mono g4.known).cut l u)) rfl
  · cases r2 with
    | @tup a xs _ g r =>
      refine .inr (.inl ⟨_, _, rfl, ex_t g3.sub g, fun hw => ?_, fun _ p hp => ?_⟩)
      · refine q _ _ _ _ (g2.trans g3) (.tup g ?_) rfl
        have c := r.cut l u
        rw [cutV_all _ l u hw] at c
        exact c
      · have g4 := Grow.new g3.sub hp (.tup (cutV xs l u))
        exact q _ _ _ _ ((g2.trans g3).trans g4) (.tup (st_of upd_same) ((r.mono g4.known).cut l u)) rfl
end

/-! ### the bag -/
/-- a list of three numbers, whichever -/
def BagO (b : Addr) : HO := .ext fun h => ∃ (x y z : Int) (t u v : Tok) (n : Nat), h.get? b = some { cls := .type "list", data := .seq #[.int x t, .int y u, .int z v] n }
abbrev three (x y z : Int) : HO := .lst [.int x, .int y, .int z]
section
variable {X : Cx} {pins : List (Addr × Obj)} {σ : L2.St} {H : Hp} {s : Shared} {b : Addr}
theorem bag_open (I : Inv X pins σ H s) (hb : H b = some (BagO b)) : ∃ x y z, Inv X pins σ (upd H b (three x y z)) s := by
  obtain ⟨⟨x, y, z, t, u, v, n, e⟩, _⟩ := (show ObjOk X.prog X.w H s.heap b (BagO b) from I.hok b _ hb)
  refine ⟨x, y, z, ?_⟩
  have hm : Mut (H b) := by rw [hb]; trivial
  exact I.write (x := b) (e := b) (h' := s.heap) (t' := s.toks) hm (.inl rfl) (fun _ _ _ e => e) ⟨_, e⟩
    ⟨by show 3 ≤ sizeLine; decide, [.int x t, .int y u, .int z v], n, .cons ⟨t, rfl⟩ (.cons ⟨u, rfl⟩ (.cons ⟨v, rfl⟩ .nil)), e⟩
theorem bag_shut {x y z : Int} (I : Inv X pins σ H s) (hb : H b = some (three x y z)) : Inv X pins σ (upd H b (BagO b)) s := by
  obtain ⟨_, its, n, r, e⟩ := (show ObjOk X.prog X.w H s.heap b (three x y z) from I.hok b _ hb)
  have hm : Mut (H b) := by rw [hb]; trivial
  refine I.write (x := b) (e := b) (h' := s.heap) (t' := s.toks) hm (.inl rfl) (fun _ _ _ e => e) ⟨_, e⟩ ⟨?_, ⟨_, e⟩, ?_⟩
  · cases r with
    | cons r1 r =>
      cases r with
      | cons r2 r =>
        cases r with
        | cons r3 r =>
          cases r
          obtain ⟨t, rfl⟩ := r1
          obtain ⟨u, rfl⟩ := r2
          obtain ⟨v, rfl⟩ := r3
          exact ⟨x, y, z, t, u, v, n, e⟩
  · rintro h1 h2 ⟨x, y, z, t, u, v, n, e⟩ k
    exact ⟨x, y, z, t, u, v, n, k _ e⟩
end
def tBag (t : TS) : TS := fun D σ H => ∃ b, H b = some (BagO b) ∧ ∀ x y z, t ⟨
  fun σ' H' => ∃ x y z, H' b = some (three x y z) ∧ D.nx σ' (upd H' b (BagO b)), fun v H' => ∃ x y z, H' b = some (three x y z) ∧ D.rt v (upd H' b (BagO b)),
  fun σ' H' => ∃ x y z, H' b = some (three x y z) ∧ D.bk σ' (upd H' b (BagO b)), fun σ' H' => ∃ x y z, H' b = some (three x y z) ∧ D.ct σ' (upd H' b (BagO b))⟩ σ (upd H b (three x y z))
theorem pss_bag {X : Cx} {sts : List Stmt} {t : TS} (h : PSs X sts t) : PSs X sts (tBag t) := by
  constructor
  intro pins s σ H D I ht
  obtain ⟨b, hb, k⟩ := ht
  obtain ⟨x, y, z, I1⟩ := bag_open I hb
  refine thn (h.run pins s σ _ _ I1 (k x y z)) fun fl s1 q => ?_
  cases fl with
  | next =>
    obtain ⟨σ', H', J, x, y, z, e, q⟩ := q
    exact ⟨σ', _, bag_shut J e, q⟩
  | brk =>
    obtain ⟨σ', H', J, x, y, z, e, q⟩ := q
    exact ⟨σ', _, bag_shut J e, q⟩
  | cont =>
    obtain ⟨σ', H', J, x, y, z, e, q⟩ := q
    exact ⟨σ', _, bag_shut J e, q⟩
  | ret u =>
    obtain ⟨v, σ', H', J, r, x, y, z, e, q⟩ := q
    exact ⟨v, σ', _, bag_shut J e, r, q⟩
def tShut (t : TE) : TE := fun σ H Q => t σ H fun v H' => ∃ p x y z, v = .ref p ∧ H' p = some (three x y z) ∧ Q v (upd H' p (BagO p))
theorem pe_shut {X : Cx} {e : Expr} {t : TE} (h : PE X e t) : PE X e (tShut t) := by
  constructor
  intro pins s σ H Q I ht
  refine thn (h.run pins s σ H _ I ht) fun u s1 q => ?_
  obtain ⟨v, H', J, r, p, x, y, z, rfl, e, q⟩ := q
  exact ⟨_, _, bag_shut J e, r, q⟩
/-- a def that draws: the bag first, then data -/
def spB (K : PySem.W.Frag) (pre : List PyData → Prop) (post : List PyData → PyData → Prop) : Sp := fun vs H1 Q _ => ∃ H b ws ds, vs = .ref b :: ws ∧ Ex H H1 ∧ H b = some (BagO b) ∧ RpAll K H ws ds ∧ pre ds ∧
  ∀ v d Hk H2, Grow H H1 Hk H2 → Rp K Hk v d → post ds d → Q v H2
section
variable {K : PySem.W.Frag} {σ : L2.St} {H : Hp}
theorem evp_draw {i : Nat} {b : Addr} {ta : TA} {pre : List PyData → Prop} {post : List PyData → PyData → Prop} {P : List PyData → Prop} {R : PyData → Prop} {E : XK} (hi : σ[i]? = some (some (.ref b))) (hb : H b = some (BagO b)) (h : EvAs K ta σ H P)
    (hp : ∀ ds, P ds → pre ds) (hq : ∀ ds d, P ds → post ds d → R d) : EvP K (tCall (spB K pre post) [] E (tCons (tVar i) ta)) σ H R := fun H1 e Q q =>
  ⟨.ref b, hi, h H1 e _ fun vs ds Hk H2 g2 r2 p2 => by
    show spB K pre post ((.ref b :: vs) ++ []) H2 Q E
    rw [List.append_nil]
    exact ⟨Hk, b, vs, ds, rfl, g2.sub, g2.known _ _ hb, r2, hp ds p2, fun v d Hk3 H3 g3 r3 p3 => q v d Hk3 H3 (g2.trans g3) r3 (hq ds d p2 p3)⟩⟩
theorem evd_draw {i : Nat} {b : Addr} {ta : TA} {pre : List PyData → Prop} {post : List PyData → PyData → Prop} {ds : List PyData} {E : XK} (hi : σ[i]? = some (some (.ref b))) (hb : H b = some (BagO b)) (h : EvA1 K ta σ H ds)
    (hp : pre ds) : EvP K (tCall (spB K pre post) [] E (tCons (tVar i) ta)) σ H (post ds) := evp_draw hi hb h (fun _ e => by subst e; exact hp) fun _ _ e p => by subst e; exact p
end
end DL
/-! promises of defs of one to four data, with and without a bag -/
namespace DL
open PySem PySem.Spec PyProof.Rows L2 Evl
variable (K : PySem.W.Frag)
def spD0 (post : PyData → Prop) : Sp := fun vs H1 Q _ => ∃ H, vs = [] ∧ Ex H H1 ∧ ∀ u z Hk H2, Grow H H1 Hk H2 → Rp K Hk u z → post z → Q u H2
def spD1 (pre : PyData → Prop) (post : PyData → PyData → Prop) : Sp := fun vs H1 Q _ => ∃ H v d, vs = [v] ∧ Ex H H1 ∧ Rp K H v d ∧ pre d ∧ ∀ u z Hk H2, Grow H H1 Hk H2 → Rp K Hk u z → post d z → Q u H2
def spD2 (pre : PyData → PyData → Prop) (post : PyData → PyData → PyData → Prop) : Sp := fun vs H1 Q _ => ∃ H v w d e, vs = [v, w] ∧ Ex H H1 ∧ Rp K H v d ∧ Rp K H w e ∧ pre d e ∧
  ∀ u z Hk H2, Grow H H1 Hk H2 → Rp K Hk u z → post d e z → Q u H2
def spD3 (pre : PyData → PyData → PyData → Prop) (post : PyData → PyData → PyData → PyData → Prop) : Sp := fun vs H1 Q _ => ∃ H v w y d e f, vs = [v, w, y] ∧ Ex H H1 ∧ Rp K H v d ∧ Rp K H w e ∧ Rp K H y f ∧ pre d e f ∧
  ∀ u z Hk H2, Grow H H1 Hk H2 → Rp K Hk u z → post d e f z → Q u H2
def spD4 (pre : PyData → PyData → PyData → PyData → Prop) (post : PyData → PyData → PyData → PyData → PyData → Prop) : Sp := fun vs H1 Q _ => ∃ H v w y x d e f g, vs = [v, w, y, x] ∧ Ex H H1 ∧ Rp K H v d ∧ Rp K H w e ∧ Rp K H y f ∧ Rp K H x g ∧ pre d e f g ∧
  ∀ u z Hk H2, Grow H H1 Hk H2 → Rp K Hk u z → post d e f g z → Q u H2
def spB0 (post : PyData → Prop) : Sp := fun vs H1 Q _ => ∃ H b, vs = [.ref b] ∧ Ex H H1 ∧ H b = some (BagO b) ∧ ∀ u z Hk H2, Grow H H1 Hk H2 → Rp K Hk u z → post z → Q u H2
def spB1 (pre : PyData → Prop) (post : PyData → PyData → Prop) : Sp := fun vs H1 Q _ => ∃ H b v d, vs = [.ref b, v] ∧ Ex H H1 ∧ H b = some (BagO b) ∧ Rp K H v d ∧ pre d ∧ ∀ u z Hk H2, Grow H H1 Hk H2 → Rp K Hk u z → post d z → Q u H2
def spB2 (pre : PyData → PyData → Prop) (post : PyData → PyData → PyData → Prop) : Sp := fun vs H1 Q _ => ∃ H b v w d e, vs = [.ref b, v, w] ∧ Ex H H1 ∧ H b = some (BagO b) ∧ Rp K H v d ∧ Rp K H w e ∧ pre d e ∧
  ∀ u z Hk H2, Grow H H1 Hk H2 → Rp K Hk u z → post d e z → Q u H2
def spB3 (pre : PyData → PyData → PyData → Prop) (post : PyData → PyData → PyData → PyData → Prop) : Sp := fun vs H1 Q _ => ∃ H b v w y d e f, vs = [.ref b, v, w, y] ∧ Ex H H1 ∧ H b = some (BagO b) ∧ Rp K H v d ∧ Rp K H w e ∧ Rp K H y f ∧ pre d e f ∧
  ∀ u z Hk H2, Grow H H1 Hk H2 → Rp K Hk u z → post d e f z → Q u H2
section
variable {K} {σ : L2.St} {H : Hp} {ta tb tc td : TE} {P1 P2 P3 P4 R : PyData → Prop} {E : XK} {i : Nat} {b : Addr}
theorem evp_D0 {post : PyData → Prop} : EvP K (tCall (spD0 K post) [] E tNil) σ H post := fun H1 e Q q => ⟨H, rfl, e, q⟩
theorem evp_D1 {pre : PyData → Prop} {post : PyData → PyData → Prop} (h : EvP K ta σ H P1) (hp : ∀ d, P1 d → pre d) (hq : ∀ d z, P1 d → post d z → R z) :
    EvP K (tCall (spD1 K pre post) [] E (tCons ta tNil)) σ H R := fun H1 e Q q => h H1 e _ fun v d Hk H2 g2 r2 p2 =>
  ⟨Hk, v, d, rfl, g2.sub, r2, hp d p2, fun u z Hk3 H3 g3 r3 p3 => q u z Hk3 H3 (g2.trans g3) r3 (hq d z p2 p3)⟩
theorem evd_D1 {pre : PyData → Prop} {post : PyData → PyData → Prop} {d : PyData} (h : EvD K ta σ H d) (hp : pre d) : EvP K (tCall (spD1 K pre post) [] E (tCons ta tNil)) σ H (post d) :=
  evp_D1 h (fun _ e => by subst e; exact hp) fun _ _ e p => by subst e; exact p
theorem evp_D2 {pre : PyData → PyData → Prop} {post : PyData → PyData → PyData → Prop} (h : EvP K ta σ H P1) (h2 : EvP K tb σ H P2) (hp : ∀ d e, P1 d → P2 e → pre d e) (hq : ∀ d e z, P1 d → P2 e → post d e z → R z) :
    EvP K (tCall (spD2 K pre post) [] E (tCons ta (tCons tb tNil))) σ H R := fun H1 e Q q => h H1 e _ fun v d Hk H2 g2 r2 p2 => h2.mono g2.known H2 g2.sub _ fun w f Hk' H2' g2' r2' p2' =>
  ⟨Hk', v, w, d, f, rfl, g2'.sub, r2.mono g2'.known, r2', hp d f p2 p2', fun u z Hk3 H3 g3 r3 p3 => q u z Hk3 H3 ((g2.trans g2').trans g3) r3 (hq d f z p2 p2' p3)⟩
theorem evd_D2 {pre : PyData → PyData → Prop} {post : PyData → PyData → PyData → Prop} {d e : PyData} (h : EvD K ta σ H d) (h2 : EvD K tb σ H e) (hp : pre d e) : EvP K (tCall (spD2 K pre post) [] E (tCons ta (tCons tb tNil))) σ H (post d e) :=
  evp_D2 h h2 (fun _ _ e f => by subst e; subst f; exact hp) fun _ _ _ e f p => by subst e; subst f; exact p
theorem evp_D3 {pre : PyData → PyData → PyData → Prop} {post : PyData → PyData → PyData → PyData → Prop} (h : EvP K ta σ H P1) (h2 : EvP K tb σ H P2) (h3 : EvP K tc σ H P3) (hp : ∀ d e f, P1 d → P2 e → P3 f → pre d e f)
    (hq : ∀ d e f z, P1 d → P2 e → P3 f → post d e f z → R z) :
    EvP K (tCall (spD3 K pre post) [] E (tCons ta (tCons tb (tCons tc tNil)))) σ H R := fun H1 e Q q => h H1 e _ fun v d Hk H2 g2 r2 p2 => h2.mono g2.known H2 g2.sub _ fun w f Hk' H2' g2' r2' p2' =>
  h3.mono (g2.trans g2').known H2' g2'.sub _ fun y k Hk4 H4 g4 r4 p4 =>
  ⟨Hk4, v, w, y, d, f, k, rfl, g4.sub, r2.mono (g2'.trans g4).known, r2'.mono g4.known, r4, hp d f k p2 p2' p4, fun u z Hk3 H3 g3 r3 p3 => q u z Hk3 H3 (((g2.trans g2').trans g4).trans g3) r3 (hq d f k z p2 p2' p4 p3)⟩
theorem evd_D3 {pre : PyData → PyData → PyData → Prop} {post : PyData → PyData → PyData → PyData → Prop} {d e f : PyData} (h : EvD K ta σ H d) (h2 : EvD K tb σ H e) (h3 : EvD K tc σ H f) (hp : pre d e f) :
    EvP K (tCall (spD3 K pre post) [] E (tCons ta (tCons tb (tCons tc tNil)))) σ H (post d e f) :=
  evp_D3 h h2 h3 (fun _ _ _ e f g => by subst e; subst f; subst g; exact hp) fun _ _ _ _ e f g p => by subst e; subst f; subst g; exact p
theorem evp_B0 {post : PyData → Prop} (hi : σ[i]? = some (some (.ref b))) (hb : H b = some (BagO b)) : EvP K (tCall (spB0 K post) [] E (tCons (tVar i) tNil)) σ H post := fun H1 e Q q => ⟨.ref b, hi, H, b, rfl, e, hb, q⟩
theorem evp_B1 {pre : PyData → Prop} {post : PyData → PyData → Prop} (hi : σ[i]? = some (some (.ref b))) (hb : H b = some (BagO b)) (h : EvP K ta σ H P1) (hp : ∀ d, P1 d → pre d) (hq : ∀ d z, P1 d → post d z → R z) :
    EvP K (tCall (spB1 K pre post) [] E (tCons (tVar i) (tCons ta tNil))) σ H R := fun H1 e Q q => ⟨.ref b, hi, h H1 e _ fun v d Hk H2 g2 r2 p2 =>
  ⟨Hk, b, v, d, rfl, g2.sub, g2.known _ _ hb, r2, hp d p2, fun u z Hk3 H3 g3 r3 p3 => q u z Hk3 H3 (g2.trans g3) r3 (hq d z p2 p3)⟩⟩
theorem evd_B1 {pre : PyData → Prop} {post : PyData → PyData → Prop} {d : PyData} (hi : σ[i]? = some (some (.ref b))) (hb : H b = some (BagO b)) (h : EvD K ta σ H d) (hp : pre d) :
    EvP K (tCall (spB1 K pre post) [] E (tCons (tVar i) (tCons ta tNil))) σ H (post d) := evp_B1 hi hb h (fun _ e => by subst e; exact hp) fun _ _ e p => by subst e; exact p
theorem evp_B2 {pre : PyData → PyData → Prop} {post : PyData → PyData → PyData → Prop} (hi : σ[i]? = some (some (.ref b))) (hb : H b = some (BagO b)) (h : EvP K ta σ H P1) (h2 : EvP K tb σ H P2) (hp : ∀ d e, P1 d → P2 e → pre d e)
    (hq : ∀ d e z, P1 d → P2 e → post d e z → R z) :
    EvP K (tCall (spB2 K pre post) [] E (tCons (tVar i) (tCons ta (tCons tb tNil)))) σ H R := fun H1 e Q q => ⟨.ref b, hi, h H1 e _ fun v d Hk H2 g2 r2 p2 => h2.mono g2.known H2 g2.sub _ fun w f Hk' H2' g2' r2' p2' =>
  ⟨Hk', b, v, w, d, f, rfl, g2'.sub, (g2.trans g2').known _ _ hb, r2.mono g2'.known, r2', hp d f p2 p2', fun u z Hk3 H3 g3 r3 p3 => q u z Hk3 H3 ((g2.trans g2').trans g3) r3 (hq d f z p2 p2' p3)⟩⟩
end
theorem hu65 {k : Nat} {A : Around} (hr : Room k A) : A.units + 65 < cLine := by
  have := hr.un
  omega
theorem hu64 {k : Nat} {A : Around} (hr : Room k A) : A.units + 64 < cLine := by
  have := hr.un
  omega
end DL
/-! comprehensions of known data -/
namespace DL
open PySem PySem.Spec PyProof.Rows L2 Evl
theorem turns_eq {α β : Type} (p : α → Bool) (g : α → β) : ∀ (ds : List α) (b : Nat → Bool) (f : Nat → β),
    (∀ i d, ds[i]? = some d → b i = p d ∧ (p d = true → f i = g d)) → ((List.range ds.length).filter b).map f = (ds.filter p).map g
  | [], _, _, _ => rfl
  | d :: ds, b, f, h => by
    have ih := turns_eq p g ds (fun i => b (i + 1)) (fun i => f (i + 1)) fun i x hx => h (i + 1) x (by simpa using hx)
    have h0 := h 0 d rfl
    rw [List.length_cons, List.range_succ_eq_map]
    have e1 : List.filter b (List.map Nat.succ (List.range ds.length)) = List.map Nat.succ (List.filter (fun i => b (i + 1)) (List.range ds.length)) := by
      rw [List.filter_map]
      rfl
    rw [List.filter_cons, List.filter_cons, h0.1, e1]
    have e2 : List.map f (List.map Nat.succ (List.filter (fun i => b (i + 1)) (List.range ds.length))) = List.map g (List.filter p ds) := by
      rw [List.map_map]
      exact ih
    by_cases hp : p d = true
    · rw [if_pos hp, if_pos hp, List.map_cons, List.map_cons, e2, h0.2 hp]
    · rw [if_neg hp, if_neg hp, e2]
section
variable {K : PySem.W.Frag} {σ : L2.St} {H : Hp} {te t0 : TE} {tt : TT} {i j : Nat} {vs : List Nat}
/-- over a text -/
theorem evd_lcS {z : Str} {p : Nat → Bool} {g : Nat → PyData} (h : EvD K t0 σ H (.str z)) (hn : z.cps.size ≤ 100000) (hw : ∀ x, wipe ((wipe σ vs).set i (some x)) vs = wipe σ vs)
    (ht : ∀ c Hm, Ex H Hm → EvT1 tt ((wipe σ vs).set i (some (.str ⟨#[c]⟩))) Hm (p c)) (hb : ∀ c Hm, Ex H Hm → p c = true → EvD K te ((wipe σ vs).set i (some (.str ⟨#[c]⟩))) Hm (g c)) :
    EvD K (tLc (iStr t0) (gName i) tt te vs) σ H (.list ((z.cps.toList.filter p).map g)) := by
  refine EvP.weak (evp_lcW (b := fun k => p (z.cps.getD k 0)) (P := fun k => (· = g (z.cps.getD k 0))) (walkd_str h) ?_ hn) ?_
  · rintro k x Hm hk e ⟨c, hc, rfl⟩
    have ec : z.cps.getD k 0 = c := by rw [Array.getD_eq_getD_getElem?, hc]; rfl
    rw [ec]
    exact turn_name (hw _) (ht c Hm e) fun q => hb c Hm e q
  · rintro d ⟨f, rfl, hf⟩
    congr 1
    have := turns_eq p g z.cps.toList (fun k => p (z.cps.getD k 0)) f fun k d hk => ?_
    · simpa using this
    · have ec : z.cps.getD k 0 = d := by
        rw [Array.getD_eq_getD_getElem?]
        rw [Array.getElem?_toList] at hk
        rw [hk]
        rfl
      refine ⟨by rw [ec], fun q => ?_⟩
      have hk' : k < z.cps.size := by
        have := (List.getElem?_eq_some_iff.mp hk).1
        simpa using this
      have := hf k hk' (by rw [ec]; exact q)
      rw [ec] at this
      exact this
/-- over a list or a tuple -/
theorem evd_lcW {wi : TI} {ds : List PyData} {p : PyData → Bool} {g : PyData → PyData} (hwk : WalkD K wi σ H ds.length (TAt K ds)) (hn : ds.length ≤ 100000) (hw : ∀ x, wipe ((wipe σ vs).set i (some x)) vs = wipe σ vs)
    (ht : ∀ (k : Nat) d x Hm, ds[k]? = some d → Ex H Hm → Rp K Hm x d → EvT1 tt ((wipe σ vs).set i (some x)) Hm (p d)) (hb : ∀ (k : Nat) d x Hm, ds[k]? = some d → Ex H Hm → Rp K Hm x d → p d = true → EvD K te ((wipe σ vs).set i (some x)) Hm (g d)) :
    EvD K (tLc wi (gName i) tt te vs) σ H (.list ((ds.filter p).map g)) := by
  refine EvP.weak (evp_lcW (b := fun k => p (ds.getD k .none)) (P := fun k => (· = g (ds.getD k .none))) hwk ?_ hn) ?_
  · rintro k x Hm hk e ⟨d, hd, r⟩
    have ed : ds.getD k .none = d := by rw [List.getD_eq_getElem?_getD, hd]; rfl
    rw [ed]
    exact turn_name (hw _) (ht k d x Hm hd e r) fun q => hb k d x Hm hd e r q
  · rintro z ⟨f, rfl, hf⟩
    congr 1
    refine turns_eq p g ds _ f fun k d hk => ?_
    have ed : ds.getD k .none = d := by rw [List.getD_eq_getElem?_getD, hk]; rfl
    refine ⟨by rw [ed], fun q => ?_⟩
    have := hf k (List.getElem?_eq_some_iff.mp hk).1 (by rw [ed]; exact q)
    rw [ed] at this
    exact this
theorem evd_lcL {ds : List PyData} {p : PyData → Bool} {g : PyData → PyData} (h : EvD K t0 σ H (.list ds)) (hn : ds.length ≤ 100000) (hw : ∀ x, wipe ((wipe σ vs).set i (some x)) vs = wipe σ vs)
    (ht : ∀ (k : Nat) d x Hm, ds[k]? = some d → Ex H Hm → Rp K Hm x d → EvT1 tt ((wipe σ vs).set i (some x)) Hm (p d)) (hb : ∀ (k : Nat) d x Hm, ds[k]? = some d → Ex H Hm → Rp K Hm x d → p d = true → EvD K te ((wipe σ vs).set i (some x)) Hm (g d)) :
    EvD K (tLc (iList K t0) (gName i) tt te vs) σ H (.list ((ds.filter p).map g)) := evd_lcW (walkd_list h) hn hw ht hb
theorem evd_lcT {ds : List PyData} {p : PyData → Bool} {g : PyData → PyData} (h : EvD K t0 σ H (.tuple ds)) (hn : ds.length ≤ 100000) (hw : ∀ x, wipe ((wipe σ vs).set i (some x)) vs = wipe σ vs)
    (ht : ∀ (k : Nat) d x Hm, ds[k]? = some d → Ex H Hm → Rp K Hm x d → EvT1 tt ((wipe σ vs).set i (some x)) Hm (p d)) (hb : ∀ (k : Nat) d x Hm, ds[k]? = some d → Ex H Hm → Rp K Hm x d → p d = true → EvD K te ((wipe σ vs).set i (some x)) Hm (g d)) :
    EvD K (tLc (iTup K t0) (gName i) tt te vs) σ H (.list ((ds.filter p).map g)) := evd_lcW (walkd_tup h) hn hw ht hb
/-- over pairs of two walked together -/
theorem evd_lcZ {ta : TA} {d e : PyData} {ds es : List PyData} {p : PyData × PyData → Bool} {g : PyData × PyData → PyData} (h : EvA1 K ta σ H [d, e]) (hd : (d = .list ds ∧ e = .list es) ∨ (d = .tuple ds ∧ e = .tuple es))
    (hn : ds.length ≤ 100000) (hw : ∀ x y, wipe (((wipe σ vs).set i (some x)).set j (some y)) vs = wipe σ vs)
    (ht : ∀ a b x y Hm, (a, b) ∈ ds.zip es → Ex H Hm → Rp K Hm x a → Rp K Hm y b → EvT1 tt (((wipe σ vs).set i (some x)).set j (some y)) Hm (p (a, b)))
    (hb : ∀ a b x y Hm, (a, b) ∈ ds.zip es → Ex H Hm → Rp K Hm x a → Rp K Hm y b → p (a, b) = true → EvD K te (((wipe σ vs).set i (some x)).set j (some y)) Hm (g (a, b))) :
    EvD K (tLc (RZ.iZipA K ta) (gTup K 2 (gCons (gName i) (gCons (gName j) gNil))) tt te vs) σ H (.list (((ds.zip es).filter p).map g)) := by
  have hl : (ds.zip es).length = min ds.length es.length := List.length_zip
  refine EvP.weak (evp_lcW (b := fun k => p ((ds.zip es).getD k (.none, .none))) (P := fun k => (· = g ((ds.zip es).getD k (.none, .none)))) (walkd_zip h hd) ?_ (by omega)) ?_
  · rintro k v Hm hk ex ⟨T, x, y, a, b, rfl, hT, ha, hb', rx, ry⟩
    have hz : (ds.zip es)[k]? = some (a, b) := by
      rw [List.getElem?_zip_eq_some]
      exact ⟨ha, hb'⟩
    have ed : (ds.zip es).getD k (.none, .none) = (a, b) := by rw [List.getD_eq_getElem?_getD, hz]; rfl
    rw [ed]
    exact turn_pair hT (hw _ _) (ht a b x y Hm (List.mem_of_getElem? hz) ex rx ry) fun q => hb a b x y Hm (List.mem_of_getElem? hz) ex rx ry q
  · rintro z ⟨f, rfl, hf⟩
    congr 1
    rw [← hl]
    refine turns_eq p g (ds.zip es) _ f fun k d hk => ?_
    have ed : (ds.zip es).getD k (.none, .none) = d := by rw [List.getD_eq_getElem?_getD, hk]; rfl
    refine ⟨by rw [ed], fun q => ?_⟩
    have := hf k (by rw [← hl]; exact (List.getElem?_eq_some_iff.mp hk).1) (by rw [ed]; exact q)
    rw [ed] at this
    exact this
/-- over a range, each element some datum of P -/
theorem evp_lcR {ta : TA} {n : Int} {P : PyData → Prop} (h : EvA1 K ta σ H [.int n]) (hn : 0 ≤ n ∧ n ≤ 100000) (hw : ∀ x, wipe ((wipe σ vs).set i (some x)) vs = wipe σ vs)
    (hb : ∀ (k : Nat) Hm, (k : Int) < n → Ex H Hm → EvP K te ((wipe σ vs).set i (some (.int k))) Hm P) :
    EvP K (tLc (iRng1 ta) (gName i) tYes te vs) σ H (fun d => ∃ ds, d = .list ds ∧ (ds.length : Int) = n ∧ ∀ x ∈ ds, P x) := by
  refine EvP.weak (evp_lcW (b := fun _ => true) (P := fun _ => P) (walkd_range h ⟨by omega, by omega⟩) ?_ (by omega)) ?_
  · rintro k x Hm hk e rfl
    exact turn_name (hw _) etp_yes fun _ => hb k Hm (by omega) e
  · rintro d ⟨f, rfl, hf⟩
    refine ⟨_, rfl, ?_, fun x hx => ?_⟩
    · rw [List.length_map, List.filter_eq_self.mpr (fun _ _ => rfl), List.length_range]
      omega
    · obtain ⟨k, hk, rfl⟩ := List.mem_map.mp hx
      exact hf k (List.mem_range.mp (List.mem_filter.mp hk).1) rfl
end
end DL
/-! statements step by step; more calls -/
namespace DL
open PySem PySem.Spec PyProof.Rows L2 Evl
section
variable {K : PySem.W.Frag} {σ : L2.St} {H H1 : Hp} {te ta tb : TE} {tt : TT} {tu tw tz : TS} {P : PyData → Prop} {D : Ends} {i : Nat}
theorem st_set (h : EvP K te σ H P) (ex : Ex H H1) (k : ∀ v d Hk H2, Grow H H1 Hk H2 → Rp K Hk v d → P d → tz D (σ.set i (some v)) H2) : tSeq (tAsg te (gName i)) tz D σ H1 := h H1 ex _ k
theorem st_ret (h : EvP K te σ H P) (ex : Ex H H1) (k : ∀ v d Hk H2, Grow H H1 Hk H2 → Rp K Hk v d → P d → D.rt v H2) : tRet te D σ H1 := h H1 ex _ k
theorem st_drop (h : EvP K te σ H P) (ex : Ex H H1) (k : ∀ v d Hk H2, Grow H H1 Hk H2 → Rp K Hk v d → P d → tz D σ H2) : tSeq (tDrop te) tz D σ H1 := h H1 ex _ k
theorem st_if {b : Bool} (h : EvT1 tt σ H b) (ex : Ex H H1) (h1 : b = true → ∀ Hk H2, Grow H H1 Hk H2 → tu { D with nx := tz D } σ H2) (h2 : b = false → ∀ Hk H2, Grow H H1 Hk H2 → tw { D with nx := tz D } σ H2) : tSeq (tIfS tt tu tw) tz D σ H1 :=
  h H1 ex _ fun c Hk H2 g p => by
    subst p
    cases c with
    | true =>
      show tu { D with nx := tz D } σ H2
      exact h1 rfl Hk H2 g
    | false =>
      show tw { D with nx := tz D } σ H2
      exact h2 rfl Hk H2 g
theorem st_ifL {b : Bool} (h : EvT1 tt σ H b) (ex : Ex H H1) (h1 : b = true → ∀ Hk H2, Grow H H1 Hk H2 → tu D σ H2) (h2 : b = false → ∀ Hk H2, Grow H H1 Hk H2 → tw D σ H2) : tIfS tt tu tw D σ H1 :=
  h H1 ex _ fun c Hk H2 g p => by
    subst p
    cases c with
    | true =>
      show tu D σ H2
      exact h1 rfl Hk H2 g
    | false =>
      show tw D σ H2
      exact h2 rfl Hk H2 g
/-- if .. : (leaves); what follows -/
theorem st_when {b : Bool} (h : EvT1 tt σ H b) (ex : Ex H H1) (h1 : b = true → ∀ Hk H2, Grow H H1 Hk H2 → tu { D with nx := tz D } σ H2) (h2 : b = false → ∀ Hk H2, Grow H H1 Hk H2 → tz D σ H2) : tSeq (tIfS tt tu tNext) tz D σ H1 :=
  st_if h ex h1 h2
/-- for over a walk; Pv by the turn, the slots, what is known, what there is -/
theorem st_for {wi : TI} {g : TG} {tb : TS} {n : Nat} {T : Nat → V → Hp → Prop} (hw : WalkD K wi σ H n T) (ex : Ex H H1) (Pv : Nat → L2.St → Hp → Hp → Prop)
    (h0 : ∀ Hb Hc, Grow H H1 Hb Hc → Pv 0 σ Hb Hc)
    (hs : ∀ Hb Hc i x σ2 Hm H3 Hm' H4, Grow H H1 Hb Hc → i < n → Grow Hb Hc Hm H3 → Pv i σ2 Hm H3 → Grow Hm H3 Hm' H4 → T i x Hm' →
      g x σ2 H4 fun σ3 H5 => tb { D with nx := fun σ4 H6 => ∃ Hn, Grow Hb Hc Hn H6 ∧ Pv (i + 1) σ4 Hn H6, ct := fun σ4 H6 => ∃ Hn, Grow Hb Hc Hn H6 ∧ Pv (i + 1) σ4 Hn H6, bk := D.nx } σ3 H5)
    (hd : ∀ Hb Hc σ2 Hm H3, Grow H H1 Hb Hc → Grow Hb Hc Hm H3 → Pv n σ2 Hm H3 → D.nx σ2 H3) : tFor wi g tb D σ H1 := by
  refine hw H1 ex _ fun J G Y Hk H2 g2 w g0 hy => ?_
  refine for_it w (fun i σ2 H3 => ∃ Hn, Grow Hk H2 Hn H3 ∧ Pv i σ2 Hn H3) ⟨Hk, Grow.refl g2.sub, h0 Hk H2 g2⟩ ?_ ?_ ?_
  · rintro i σ2 H3 _ ⟨Hn, e, _⟩
    exact g0 H3 (e.known.trans e.sub)
  · rintro i x σ2 H3 H4 hlt ⟨Hn, e, p⟩ y
    obtain ⟨Hm', g4, t4⟩ := hy i x Hn H3 H4 hlt e.known e.sub y
    exact hs Hk H2 i x σ2 Hn H3 Hm' H4 g2 hlt e p g4 t4
  · rintro σ2 H3 ⟨Hn, e, p⟩
    exact hd Hk H2 σ2 Hn H3 g2 e p
theorem st_forS {wi : TI} {g : TG} {tb : TS} {n : Nat} {T : Nat → V → Hp → Prop} (hw : WalkD K wi σ H n T) (ex : Ex H H1) (Pv : Nat → L2.St → Hp → Hp → Prop)
    (h0 : ∀ Hb Hc, Grow H H1 Hb Hc → Pv 0 σ Hb Hc)
    (hs : ∀ Hb Hc i x σ2 Hm H3 Hm' H4, Grow H H1 Hb Hc → i < n → Grow Hb Hc Hm H3 → Pv i σ2 Hm H3 → Grow Hm H3 Hm' H4 → T i x Hm' →
      g x σ2 H4 fun σ3 H5 => tb { D with nx := fun σ4 H6 => ∃ Hn, Grow Hb Hc Hn H6 ∧ Pv (i + 1) σ4 Hn H6, ct := fun σ4 H6 => ∃ Hn, Grow Hb Hc Hn H6 ∧ Pv (i + 1) σ4 Hn H6, bk := fun σ4 H6 => tz D σ4 H6 } σ3 H5)
    (hd : ∀ Hb Hc σ2 Hm H3, Grow H H1 Hb Hc → Grow Hb Hc Hm H3 → Pv n σ2 Hm H3 → tz D σ2 H3) : tSeq (tFor wi g tb) tz D σ H1 :=
  st_for (D := { D with nx := tz D }) hw ex Pv h0 hs hd
end
/-! calls -/
section
variable {K : PySem.W.Frag} {σ : L2.St} {H : Hp} {te ta tb : TE}
def rAbs : List V → Hp → VK → Prop := fun xs H Q => ∃ i, xs = [.int i] ∧ Q (.int (if i < 0 then -i else i)) H
theorem rc_abs {i : Int} : RCD K rAbs [.int i] (· = .int i.natAbs) := by
  intro vs H H1 e r Q q
  cases r with
  | cons r rr =>
    cases rr
    cases r
    have ei : (if i < 0 then -i else i) = (i.natAbs : Int) := by split <;> omega
    refine ⟨i, rfl, ?_⟩
    rw [ei]
    exact q _ _ H H1 (Grow.refl e) (.int _) rfl
def rInt1 : List V → Hp → VK → Prop := fun xs H Q => (∃ i, xs = [.int i] ∧ Q (.int i) H) ∨ ∃ k, xs = [.bl k] ∧ Q (.int (if k then 1 else 0)) H
theorem rc_int {i : Int} : RCD K rInt1 [.int i] (· = .int i) := by
  intro vs H H1 e r Q q
  cases r with
  | cons r rr =>
    cases rr
    cases r
    exact .inl ⟨i, rfl, q _ _ H H1 (Grow.refl e) (.int _) rfl⟩
theorem rc_intB {b : Bool} : RCD K rInt1 [.bool b] (· = .int (if b then 1 else 0)) := by
  intro vs H H1 e r Q q
  cases r with
  | cons r rr =>
    cases rr
    cases r
    exact .inr ⟨b, rfl, q _ _ H H1 (Grow.refl e) (.int _) rfl⟩
def rMax2' : List V → Hp → VK → Prop := fun xs H Q => ∃ i j, xs = [.int i, .int j] ∧ Q (.int (if j > i then j else i)) H
theorem rc_max2 {i j : Int} : RCD K rMax2' [.int i, .int j] (· = .int (if j > i then j else i)) := by
  intro vs H H1 e r Q q
  cases r with
  | cons r rr =>
    cases rr with
    | cons r2 rr =>
      cases rr
      cases r
      cases r2
      exact ⟨i, j, rfl, q _ _ H H1 (Grow.refl e) (.int _) rfl⟩
def rMin2' : List V → Hp → VK → Prop := fun xs H Q => ∃ i j, xs = [.int i, .int j] ∧ Q (.int (if j < i then j else i)) H
theorem rc_min2 {i j : Int} : RCD K rMin2' [.int i, .int j] (· = .int (if j < i then j else i)) := by
  intro vs H H1 e r Q q
  cases r with
  | cons r rr =>
    cases rr with
    | cons r2 rr =>
      cases rr
      cases r
      cases r2
      exact ⟨i, j, rfl, q _ _ H H1 (Grow.refl e) (.int _) rfl⟩
theorem rc_repr {d : PyData} (h1 : d.showable = true) (h2 : d.canLay0 = true) (h3 : d.depth ≤ 64) (h4 : d.shown.length ≤ sizeLine) : RCD K (rRepr K) [d] (· = .str d.shown) := by
  intro vs H H1 e r Q q
  cases r with
  | cons r rr =>
    cases rr
    exact ⟨_, d, rfl, (r.mono e).dp h2, h1, h2, h3, h4, q _ _ H H1 (Grow.refl e) (.str _) rfl⟩
/-- sorted of texts -/
theorem rc_sortedS {ss : List Str} (h : ss.length < 64) : RCD K (rSortedS K) [.list (ss.map .str)] (fun d => ∃ ts : List Str, d = .list (ts.map .str) ∧ ts.Perm ss ∧ sortedS ts = true) := by
  intro vs H H1 e r Q q
  cases r with
  | cons r rr =>
    cases rr
    cases r with
    | lst h1 r1 =>
      rw [r1.strs] at h1
      refine ⟨_, ss, rfl, ex_l e h1, h, fun ts p hp hs hn => ?_⟩
      exact q _ _ _ _ (Grow.new e hn _) (.lst (sq_of upd_same) RpAll.of_strs) ⟨ts, rfl, hp, hs⟩
theorem evd_all {α : Type} {ds : List α} {f : α → Bool} (h : EvD K ta σ H (.list (ds.map fun d => .bool (f d)))) : EvD K (tCB (rAll K) (tCons ta tNil)) σ H (.bool (ds.all f)) := by
  have e : ds.map (fun d => PyData.bool (f d)) = (ds.map f).map PyData.bool := by rw [List.map_map]; rfl
  rw [e] at h
  refine EvP.is (evd_cb (eas1 h eas_nil) rc_all) ?_
  rw [List.all_map]
  rfl
theorem evd_any {α : Type} {ds : List α} {f : α → Bool} (h : EvD K ta σ H (.list (ds.map fun d => .bool (f d)))) : EvD K (tCB (rAny K) (tCons ta tNil)) σ H (.bool (ds.any f)) := by
  have e : ds.map (fun d => PyData.bool (f d)) = (ds.map f).map PyData.bool := by rw [List.map_map]; rfl
  rw [e] at h
  refine EvP.is (evd_cb (eas1 h eas_nil) rc_any) ?_
  rw [List.any_map]
  rfl
/-- sep.join(list of texts) -/
def rJoin (K : PySem.W.Frag) : V → List V → Hp → VK → Prop := fun x xs H Q => ∃ a p, ∃ ys : List Str, x = .str a ∧ xs = [.ref p] ∧ (SqL K H p (ys.map V.str) ∨ SqT K H p (ys.map V.str)) ∧ (ys.map (·.length)).sum + ys.length * a.length ≤ 16777216 ∧ Q (.str (Txt.join a ys)) H
theorem evp_join {a : Str} {P : PyData → Prop} {R : PyData → Prop} (ha : EvD K ta σ H (.str a)) (hb : EvP K tb σ H P)
    (hP : ∀ d, P d → ∃ ys : List Str, (d = .list (ys.map .str)) ∧ (ys.map (·.length)).sum + ys.length * a.length ≤ 16777216 ∧ R (.str (Txt.join a ys))) : EvP K (tM1 (rJoin K) ta tb) σ H R := by
  intro H1 e Q q
  refine ha H1 e _ fun v _ Hk2 H2 g2 r2 p2 => ?_
  subst p2
  cases r2
  refine ⟨⟨a, rfl⟩, ?_⟩
  refine hb.mono g2.known H2 g2.sub _ fun w d Hk3 H3 g3 r3 p3 => ?_
  obtain ⟨ys, rfl, hz, hR⟩ := hP d p3
  cases r3 with
  | lst h1 r1 =>
    rw [r1.strs] at h1
    exact ⟨a, _, ys, rfl, rfl, .inl (ex_l g3.sub h1), hz, q _ _ Hk3 H3 (g2.trans g3) (.str _) hR⟩
theorem cutG_from {α : Type} (xs : List α) (n : Nat) : cutG xs (some (n : Int)) none = xs.drop n := by
  unfold cutG
  rw [show HT.sIx xs.length 0 (some (n : Int)) = min n xs.length from HT.sIx_nat xs.length 0 n, HT.sIx_none]
  by_cases h : n ≤ xs.length
  · rw [Nat.min_eq_left h]
    exact List.take_of_length_le (by rw [List.length_drop]; exact Nat.le_refl _)
  · have h' : xs.length ≤ n := by omega
    rw [Nat.min_eq_right h', List.drop_eq_nil_of_le h', List.drop_eq_nil_of_le (Nat.le_refl _)]
    exact List.take_nil
theorem cutG_to {α : Type} (xs : List α) (n : Nat) : cutG xs none (some (n : Int)) = xs.take n := by
  unfold cutG
  rw [show HT.sIx xs.length xs.length (some (n : Int)) = min n xs.length from HT.sIx_nat xs.length xs.length n, HT.sIx_none]
  show (xs.drop 0).take (min n xs.length - 0) = _
  rw [List.drop_zero, Nat.sub_zero]
  by_cases h : n ≤ xs.length
  · rw [Nat.min_eq_left h]
  · rw [Nat.min_eq_right (by omega), List.take_of_length_le (Nat.le_refl _), List.take_of_length_le (by omega)]
theorem eo_int {i : Int} (h : EvD K te σ H (.int i)) (hv : ∀ H1, Ex H H1 → ∀ Q : VK, Q (.int i) H1 → te σ H1 Q) : EvO (tPart te) σ H (some i) := fun H1 e Q q => hv H1 e _ ⟨i, rfl, q H1 (Ex.refl H1)⟩
theorem eo_c {i : Int} : EvO (tPart (tC (.int i))) σ H (some i) := fun H1 e Q q => ⟨i, rfl, q H1 (Ex.refl H1)⟩
theorem eo_v {i : Int} {j : Nat} (h : σ[j]? = some (some (.int i))) : EvO (tPart (tVar j)) σ H (some i) := fun H1 e Q q => ⟨.int i, h, i, rfl, q H1 (Ex.refl H1)⟩
end
end DL
/-! the bag's promises -/
namespace DL
open PySem PySem.Spec PyProof.Rows L2 Evl
/-- a new bag for a place of the script -/
def spNewBag (K : PySem.W.Frag) : Sp := fun vs H1 Q _ => ∃ H a ns n, vs = [.ref a, .int n] ∧ Ex H H1 ∧ SqL K H a ((ns : List Int).map V.int) ∧ ns.length ≤ 63 ∧ 0 ≤ n ∧ n < 100 ∧
  ∀ p Hk H2, Grow H H1 Hk H2 → Hk p = some (BagO p) → Q (.ref p) H2
def drawPre (d : PyData) : Prop := ∃ n : Int, d = .int n ∧ 0 < n ∧ n.natAbs.log2 < 1000
def drawPost (d z : PyData) : Prop := ∃ i n : Int, z = .int i ∧ d = .int n ∧ 0 ≤ i ∧ i < n
def items : PyData → List PyData
  | .list ds => ds
  | .tuple ds => ds
  | .str s => s.cps.toList.map fun c => .str ⟨#[c]⟩
  | _ => []
def pickPre (d : PyData) : Prop := items d ≠ [] ∧ (items d).length ≤ 100000
def pickPost (d z : PyData) : Prop := z ∈ items d
theorem items_pos {d : PyData} (h : items d ≠ []) : 0 < (items d).length := List.length_pos_iff.mpr h
theorem items_len {d : PyData} (h : items d ≠ []) (h1 : (items d).length ≤ 100000) : lenD d = some (items d).length := by
  cases d with
  | list ds => rfl
  | tuple ds => rfl
  | str s =>
    have e : (items (.str s)).length = s.length := by
      show (s.cps.toList.map _).length = s.cps.size
      rw [List.length_map, Array.length_toList]
    show (if s.length ≤ 100000 then some s.length else none) = _
    rw [e] at h1 ⊢
    rw [if_pos h1]
  | none => exact absurd rfl h
  | bool _ => exact absurd rfl h
  | int _ => exact absurd rfl h
  | dict _ => exact absurd rfl h
theorem log2_small {n : Nat} (h : n ≤ 100000) : (n : Int).natAbs.log2 ≤ 17 := by
  show n.log2 ≤ 17
  by_cases h0 : n = 0
  · subst h0; decide
  · have : n < 2 ^ 18 := Nat.lt_of_le_of_lt h (by decide)
    have := (Nat.log2_lt h0).mpr this
    omega
theorem items_len_str (s : Str) : (items (.str s)).length = s.length := by
  show (s.cps.toList.map _).length = s.cps.size
  rw [List.length_map, Array.length_toList]
theorem rd_pick {K : PySem.W.Frag} {d : PyData} {i : Int} (h : items d ≠ []) (h1 : (items d).length ≤ 100000) (h0 : 0 ≤ i) (hi : i < (items d).length) : RD K (rIx K) d (.int i) (fun z => z ∈ items d) := by
  obtain ⟨j, rfl⟩ : ∃ j : Nat, i = j := ⟨i.toNat, by omega⟩
  have hj : j < (items d).length := by omega
  have hg : (items d)[j]? = some (items d)[j] := List.getElem?_eq_getElem hj
  have hm : (items d)[j] ∈ items d := List.getElem_mem hj
  cases d with
  | list ds => exact fun v1 v2 H H1 e r1 r2 Q q => rd_ix (.inl rfl) (atI_nat hg) v1 v2 H H1 e r1 r2 Q fun v z Hk H2 g r p => q v z Hk H2 g r (by subst p; exact hm)
  | tuple ds => exact fun v1 v2 H H1 e r1 r2 Q q => rd_ix (.inr rfl) (atI_nat hg) v1 v2 H H1 e r1 r2 Q fun v z Hk H2 g r p => q v z Hk H2 g r (by subst p; exact hm)
  | str s =>
    have e : (items (.str s)).length = s.length := by
      show (s.cps.toList.map _).length = s.cps.size
      rw [List.length_map, Array.length_toList]
    have hs : j < s.cps.toList.length := by rw [Array.length_toList]; rw [e] at hj; exact hj
    have hc : s.cps.toList[j]? = some s.cps.toList[j] := List.getElem?_eq_getElem hs
    have hx : (PyData.str ⟨#[s.cps.toList[j]]⟩) ∈ items (.str s) := List.mem_map.mpr ⟨_, List.getElem_mem hs, rfl⟩
    exact fun v1 v2 H H1 e r1 r2 Q q => rd_ixS (by rw [← items_len_str s]; exact h1) (atI_nat hc) v1 v2 H H1 e r1 r2 Q fun v z Hk H2 g r p => q v z Hk H2 g r (by subst p; exact hx)
  | none => exact absurd rfl h
  | bool _ => exact absurd rfl h
  | int _ => exact absurd rfl h
  | dict _ => exact absurd rfl h
theorem bag_grow {H H1 H3 : Hp} {b : Addr} {o : HO} (ex : Ex H H1) (hb : H1 b = some (BagO b)) (e : Ex (upd H1 b o) H3) : Grow H H1 H (upd H3 b (BagO b)) := by
  have all : Ex H1 (upd H3 b (BagO b)) := fun a u h => by
    by_cases ha : a = b
    · subst ha
      rw [hb] at h
      cases h
      exact upd_same
    · rw [upd_ne ha]
      exact e a u (by rw [upd_ne ha]; exact h)
  exact ⟨Ex.refl H, ex.trans all, all, fun p u h n => by rw [h] at n; cases n⟩
/-- return [x, y, z], a new bag -/
theorem st_retBag {K : PySem.W.Frag} {σ : L2.St} {H H1 : Hp} {ta : TA} {D : Ends} {x y z : Int} (h : EvA1 K ta σ H [.int x, .int y, .int z]) (ex : Ex H H1)
    (k : ∀ p Hk H2, Grow H H1 Hk H2 → Hk p = some (BagO p) → D.rt (.ref p) H2) : tRet (tShut (tLst ta)) D σ H1 := by
  refine h H1 ex _ fun vs ds Hk H2 g r p => ?_
  subst p
  cases r with
  | cons ra rr =>
    cases rr with
    | cons rb rr =>
      cases rr with
      | cons rc rr =>
        cases rr
        cases ra
        cases rb
        cases rc
        refine ⟨by show 3 ≤ sizeLine; decide, fun p hp => ⟨p, x, y, z, rfl, upd_same, ?_⟩⟩
        rw [upd_upd]
        exact k p _ _ (g.trans (Grow.new g.sub hp (BagO p))) upd_same
theorem ex_upd2 {H1 H3 : Hp} {b : Addr} {o : HO} (e : Ex (upd H1 b o) H3) (o' : HO) : Ex (upd H1 b o') (upd H3 b o') := fun a u h => by
  by_cases ha : a = b
  · subst ha
    rw [upd_same] at h ⊢
    exact h
  · rw [upd_ne ha] at h ⊢
    exact e a u (by rw [upd_ne ha]; exact h)
end DL
/-! names, lots, pairs: the plain functions -/
namespace DL
open PySem PySem.Spec PyProof.Rows L2 Evl
theorem gn {i : Nat} {x : V} {σ : L2.St} {H : Hp} {k : L2.St → Hp → Prop} (h : k (σ.set i (some x)) H) : gName i x σ H k := h
theorem st_setL {K : PySem.W.Frag} {σ : L2.St} {H H1 : Hp} {te : TE} {P : PyData → Prop} {D : Ends} {i : Nat} (h : EvP K te σ H P) (ex : Ex H H1) (k : ∀ v d Hk H2, Grow H H1 Hk H2 → Rp K Hk v d → P d → D.nx (σ.set i (some v)) H2) : tAsg te (gName i) D σ H1 := h H1 ex _ k
section
variable {K : PySem.W.Frag} {σ : L2.St} {H : Hp} {te t0 ta : TE} {i j : Nat} {vs : List Nat}
theorem all_true {α : Type} (l : List α) : l.filter (fun _ => true) = l := List.filter_eq_self.mpr fun _ _ => rfl
theorem evd_mapS {z : Str} {g : Nat → PyData} (h : EvD K t0 σ H (.str z)) (hn : z.length ≤ 100000) (hw : ∀ x, wipe ((wipe σ vs).set i (some x)) vs = wipe σ vs)
    (hb : ∀ c Hm, Ex H Hm → EvD K te ((wipe σ vs).set i (some (.str ⟨#[c]⟩))) Hm (g c)) : EvD K (tLc (iStr t0) (gName i) tYes te vs) σ H (.list (z.cps.toList.map g)) := by
  have := evd_lcS (p := fun _ => true) h hn hw (fun _ _ _ => etp_yes) fun c Hm e _ => hb c Hm e
  rw [all_true] at this
  exact this
theorem evd_mapL {ds : List PyData} {g : PyData → PyData} (h : EvD K t0 σ H (.list ds)) (hn : ds.length ≤ 100000) (hw : ∀ x, wipe ((wipe σ vs).set i (some x)) vs = wipe σ vs)
    (hb : ∀ (k : Nat) d x Hm, ds[k]? = some d → Ex H Hm → Rp K Hm x d → EvD K te ((wipe σ vs).set i (some x)) Hm (g d)) : EvD K (tLc (iList K t0) (gName i) tYes te vs) σ H (.list (ds.map g)) := by
  have := evd_lcL (p := fun _ => true) h hn hw (fun _ _ _ _ _ _ _ => etp_yes) fun k d x Hm a b c _ => hb k d x Hm a b c
  rw [all_true] at this
  exact this
theorem evd_mapT {ds : List PyData} {g : PyData → PyData} (h : EvD K t0 σ H (.tuple ds)) (hn : ds.length ≤ 100000) (hw : ∀ x, wipe ((wipe σ vs).set i (some x)) vs = wipe σ vs)
    (hb : ∀ (k : Nat) d x Hm, ds[k]? = some d → Ex H Hm → Rp K Hm x d → EvD K te ((wipe σ vs).set i (some x)) Hm (g d)) : EvD K (tLc (iTup K t0) (gName i) tYes te vs) σ H (.list (ds.map g)) := by
  have := evd_lcT (p := fun _ => true) h hn hw (fun _ _ _ _ _ _ _ => etp_yes) fun k d x Hm a b c _ => hb k d x Hm a b c
  rw [all_true] at this
  exact this
theorem evd_mapZ {tz : TA} {d e : PyData} {ds es : List PyData} {g : PyData × PyData → PyData} (h : EvA1 K tz σ H [d, e]) (hd : (d = .list ds ∧ e = .list es) ∨ (d = .tuple ds ∧ e = .tuple es))
    (hn : ds.length ≤ 100000) (hw : ∀ x y, wipe (((wipe σ vs).set i (some x)).set j (some y)) vs = wipe σ vs)
    (hb : ∀ a b x y Hm, (a, b) ∈ ds.zip es → Ex H Hm → Rp K Hm x a → Rp K Hm y b → EvD K te (((wipe σ vs).set i (some x)).set j (some y)) Hm (g (a, b))) :
    EvD K (tLc (RZ.iZipA K tz) (gTup K 2 (gCons (gName i) (gCons (gName j) gNil))) tYes te vs) σ H (.list ((ds.zip es).map g)) := by
  have := evd_lcZ (p := fun _ => true) h hd hn hw (fun _ _ _ _ _ _ _ _ _ => etp_yes) fun a b x y Hm h1 h2 h3 h4 _ => hb a b x y Hm h1 h2 h3 h4
  rw [all_true] at this
  exact this
/-- over a range whose end is drawn -/
theorem evp_mapR {P0 P : PyData → Prop} {N : Int} (h : EvP K ta σ H P0) (hn : ∀ d, P0 d → ∃ n, d = .int n ∧ 0 ≤ n ∧ n ≤ N) (hN : N ≤ 100000) (hw : ∀ x, wipe ((wipe σ vs).set i (some x)) vs = wipe σ vs)
    (hb : ∀ (k : Nat) Hm, Ex H Hm → EvP K te ((wipe σ vs).set i (some (.int k))) Hm P) :
    EvP K (tLc (iRng1 (tCons ta tNil)) (gName i) tYes te vs) σ H (fun d => ∃ ds, d = .list ds ∧ (ds.length : Int) ≤ N ∧ P0 (.int ds.length) ∧ ∀ x ∈ ds, P x) := by
  intro H1 e Q q
  refine h H1 e _ fun v d Hk H2 g r p => ?_
  obtain ⟨n, rfl, h0, h1⟩ := hn d p
  cases r
  have := evp_lcR (K := K) (σ := σ) (H := Hk) (te := te) (i := i) (vs := vs) (ta := tCons (tC (.int n)) tNil) (n := n) (P := P) (eas1 evp_int eas_nil) ⟨h0, by omega⟩ hw (fun k Hm _ ek => hb k Hm (g.known.trans ek)) H2 g.sub Q ?_
  · exact this
  · rintro u z Hk3 H3 g3 r3 ⟨ds, rfl, hl, hx⟩
    exact q u _ Hk3 H3 (g.trans g3) r3 ⟨ds, rfl, by omega, by rw [hl]; exact p, hx⟩
end
/-! ### kinds of data that are drawn -/
mutual
/-- short texts of real signs, short sequences; no dict -/
def tidy : PyData → Bool
  | .str s => decide (s.length ≤ 1000) && PyData.strOk s
  | .list ds => decide (ds.length ≤ 1000) && tidyAll ds
  | .tuple ds => decide (ds.length ≤ 1000) && tidyAll ds
  | .dict _ => false
  | _ => true
def tidyAll : List PyData → Bool
  | [] => true
  | d :: ds => tidy d && tidyAll ds
end
theorem tidyAll_mem : ∀ {ds : List PyData}, tidyAll ds = true → ∀ d ∈ ds, tidy d = true
  | d :: ds, h, x, hx => by
    have h' : tidy d = true ∧ tidyAll ds = true := by simpa [tidyAll] using h
    rcases List.mem_cons.mp hx with rfl | hx
    · exact h'.1
    · exact tidyAll_mem h'.2 x hx
theorem tidyAll_of : ∀ {ds : List PyData}, (∀ d ∈ ds, tidy d = true) → tidyAll ds = true
  | [], _ => rfl
  | d :: ds, h => by
    simp only [tidyAll, Bool.and_eq_true]
    exact ⟨h d List.mem_cons_self, tidyAll_of fun x hx => h x (List.mem_cons_of_mem _ hx)⟩
mutual
theorem canLay_tidy : ∀ {d : PyData}, tidy d = true → d.canLay0 = true
  | .none, _ => rfl
  | .bool _, _ => rfl
  | .int _, _ => rfl
  | .str s, h => by
    have h' : s.length ≤ 1000 ∧ PyData.strOk s = true := by simpa [tidy] using h
    exact h'.2
  | .list ds, h => by
    have h' : ds.length ≤ 1000 ∧ tidyAll ds = true := by simpa [tidy] using h
    show PyData.canLayAll0 ds = true
    exact canLayAll_tidy h'.2
  | .tuple ds, h => by
    have h' : ds.length ≤ 1000 ∧ tidyAll ds = true := by simpa [tidy] using h
    show PyData.canLayAll0 ds = true
    exact canLayAll_tidy h'.2
  | .dict _, h => by simp [tidy] at h
theorem canLayAll_tidy : ∀ {ds : List PyData}, tidyAll ds = true → PyData.canLayAll0 ds = true
  | [], _ => rfl
  | d :: ds, h => by
    have h' : tidy d = true ∧ tidyAll ds = true := by simpa [tidyAll] using h
    simp only [PyData.canLayAll0, Bool.and_eq_true]
    exact ⟨canLay_tidy h'.1, canLayAll_tidy h'.2⟩
end
/-- tidy, or a dict -/
def Nice (d : PyData) : Prop := tidy d = true ∨ isDic d = true
theorem Nice.str {s : Str} (h : Nice (.str s)) : s.length ≤ 1000 ∧ PyData.strOk s = true := by
  rcases h with h | h
  · simpa [tidy] using h
  · cases h
theorem Nice.tup {ds : List PyData} (h : Nice (.tuple ds)) : ds.length ≤ 1000 ∧ ∀ d ∈ ds, Nice d := by
  rcases h with h | h
  · have h' : ds.length ≤ 1000 ∧ tidyAll ds = true := by simpa [tidy] using h
    exact ⟨h'.1, fun d hd => .inl (tidyAll_mem h'.2 d hd)⟩
  · cases h
/-! ### the words' plain functions -/
def isWhole (d : PyData) : Bool := isInt d && !isBool d
def within (d : PyData) (lo hi : Int) : Bool := match d with
  | .int i => decide (lo ≤ i) && decide (i ≤ hi)
  | _ => false
/-- the first number of 2001 digits -/
def BEY : Nat := 10 ^ 2000
theorem beyG (n m : Nat) : (true && decide ((n : Int) < (m : Int))) = decide (n < m) := by
  rw [Bool.true_and]
  exact decide_eq_decide.mpr Int.ofNat_lt
def isInteger (d : PyData) : Bool := match d with
  | .int i => decide (i.natAbs < BEY)
  | _ => false
def LETT : Str := "abcdefghijklmnopqrstuvwxyz"
def isLett (c : Nat) : Bool := decide (c ∈ LETT.cps.toList)
def okName (d : PyData) : Bool := match d with
  | .str s => (decide (1 ≤ (s.length : Int)) && decide ((s.length : Int) ≤ 4)) && s.cps.toList.all isLett
  | _ => false
def areNames (d : PyData) : Bool := match d with
  | .tuple ds => ds.all okName
  | _ => false
def ltS (a b : Str) : Bool := decide (a.cps.toList < b.cps.toList)
def ascS (ss : List Str) : Bool := (ss.zip (ss.drop 1)).all fun p => ltS p.1 p.2
def strOf : PyData → Str
  | .str s => s
  | _ => Str.empty
def strsOf : PyData → List Str
  | .tuple ds => ds.map strOf
  | .list ds => ds.map strOf
  | _ => []
def isLot (d : PyData) : Bool := areNames d && ascS (strsOf d)
def sizeIs (d : PyData) (n : Int) : Bool := match d with
  | .tuple ds => decide ((ds.length : Int) = n)
  | _ => false
def isPair (d : PyData) : Bool := isLot d && sizeIs d 2
theorem whole_int {d : PyData} (h : isWhole d = true) : ∃ i, d = .int i := by
  cases d <;> first | exact ⟨_, rfl⟩ | cases h
theorem okName_str {d : PyData} (h : okName d = true) : ∃ s, d = .str s := by
  cases d <;> first | exact ⟨_, rfl⟩ | cases h
theorem strs_map (ss : List Str) : (ss.map PyData.str).map strOf = ss := by
  rw [List.map_map]
  exact List.map_id'' (fun _ => rfl) ss
theorem all_strs : ∀ {ds : List PyData}, (∀ x ∈ ds, ∃ s, x = PyData.str s) → ∃ ss : List Str, ds = ss.map .str
  | [], _ => ⟨[], rfl⟩
  | d :: ds, h => by
    obtain ⟨s, rfl⟩ := h d List.mem_cons_self
    obtain ⟨ss, rfl⟩ := all_strs fun x hx => h x (List.mem_cons_of_mem _ hx)
    exact ⟨s :: ss, rfl⟩
theorem names_strs {d : PyData} (h : areNames d = true) : ∃ ss : List Str, d = .tuple (ss.map .str) := by
  cases d with
  | tuple ds =>
    have h' : ∀ x ∈ ds, okName x = true := List.all_eq_true.mp h
    obtain ⟨ss, rfl⟩ := all_strs fun x hx => okName_str (h' x hx)
    exact ⟨ss, rfl⟩
  | none => cases h
  | bool _ => cases h
  | int _ => cases h
  | str _ => cases h
  | list _ => cases h
  | dict _ => cases h
def ltD (p : PyData × PyData) : Bool := match p with
  | (.str a, .str b) => ltS a b
  | _ => false
theorem zip_strs (ss ts : List Str) : ((ss.map PyData.str).zip (ts.map PyData.str)).all ltD = (ss.zip ts).all fun p => ltS p.1 p.2 := by
  rw [List.zip_map, List.all_map]
  rfl
theorem pow10_ok {a b : Nat} (h : a + b ≤ 100000) : IntMulOk (10 ^ a) (10 ^ b) := by
  have l : ∀ k : Nat, ((10 : Int) ^ k).natAbs.log2 ≤ 4 * k := fun k => by
    have e : ((10 : Int) ^ k).natAbs = 10 ^ k := by
      rw [Int.natAbs_pow]
      rfl
    rw [e]
    have h1 : (10 : Nat) ^ k ≤ 2 ^ (4 * k) := by
      rw [Nat.pow_mul]
      exact Nat.pow_le_pow_left (by decide) k
    have h0 : (10 : Nat) ^ k ≠ 0 := Nat.ne_of_gt (Nat.pow_pos (by decide))
    have h2 : (10 : Nat) ^ k < 2 ^ (4 * k + 1) := Nat.lt_of_le_of_lt h1 (Nat.pow_lt_pow_right (by decide) (by omega))
    have := (Nat.log2_lt h0).mpr h2
    omega
  have m : CMulW (10 ^ a) (10 ^ b) := by
    have h1 := l a
    have h2 := l b
    show _ + _ < 1000000
    omega
  exact m.ok
end DL
/-! the rules with the written part named, so that a comprehension's block may use them -/
namespace DL
open PySem PySem.Spec PyProof.Rows L2 Evl
section
variable {X : Cx} {K : PySem.W.Frag}
theorem kAdd (h : X.K = K) : OpR X (binaryOp .Add) (rAddU K) := h ▸ opAdd
theorem kMul (h : X.K = K) : OpR X (binaryOp .Mult) (rMulU K) := h ▸ opMul
theorem kIn (h : X.K = K) (hu : X.A.units + 65 < cLine) : OpR X (compareOp .In) (rInU K) := h ▸ opIn hu
theorem kNi (h : X.K = K) (hu : X.A.units + 65 < cLine) : OpR X (compareOp .NotIn) (rNiU K) := h ▸ opNi hu
theorem kEq (h : X.K = K) (hu : X.A.units + 64 < cLine) : OpR X (compareOp .Eq) (rEqD K) := h ▸ op_eqD hu
theorem kNe (h : X.K = K) (hu : X.A.units + 64 < cLine) : OpR X (compareOp .NotEq) (rNeD K) := h ▸ op_neD hu
theorem kIx (h : X.K = K) : IxR X (rIx K) := h ▸ ix_seq
theorem kSl (h : X.K = K) : L2.SlR X (rSlU K) := h ▸ slU
theorem kLen (h : X.K = K) : CallR X (.builtin "len") (rLen K) := h ▸ call_len
theorem kIsi (h : X.K = K) : CallR X (.builtin "isinstance") (rIsi K) := h ▸ call_isi
theorem kAll (h : X.K = K) (hc : X.calm = true) : CallR X (.builtin "all") (rAll K) := h ▸ cr_all hc
theorem kAny (h : X.K = K) (hc : X.calm = true) : CallR X (.builtin "any") (rAny K) := h ▸ cr_any hc
theorem kSum (h : X.K = K) (hc : X.calm = true) : CallR X (.builtin "sum") (rSum K) := h ▸ cr_sum hc
theorem kSortS (h : X.K = K) : CallR X (.builtin "sorted") (rSortedS K) := h ▸ cr_sortedS
theorem kRepr (h : X.K = K) (hgd : X.A.guards = some []) (hu : X.A.units + 65 < cLine) : CallR X (.builtin "repr") (rRepr K) := h ▸ call_reprG hgd hu
theorem kTup (h : X.K = K) : CallR X (.type "tuple") (rTupOf K) := h ▸ call_tuple_of
theorem kLst (h : X.K = K) : CallR X (.type "list") (rLstOf K) := h ▸ call_list_of
theorem kpList {tg l : Expr} {tl : TE} (h : X.K = K) (hl : PE X l tl) : PI X tg l (iList K tl) := h ▸ pi_list hl
theorem kpTup {tg l : Expr} {tl : TE} (h : X.K = K) (hl : PE X l tl) : PI X tg l (iTup K tl) := h ▸ pi_tup hl
theorem kpZip {e e2 : Expr} {ta : TA} {p pos tpos : Pos} {elts : List Expr} {kk : Nat} (h : X.K = K) (hg : Gl X "zip") (hm : X.mg "zip" = none) (ha : PA X [e, e2] ta)
    (hs : starEach [e, e2] X.env = (false, eval e X.env) :: starEach [e2] X.env := by rfl)
    (hpl : (backTo pos (starEach [e2] X.env)).any (·.1) = false := by rfl) :
    PI X (.Tuple elts kk tpos) (.Call (.Name "zip" p) [e, e2] [] pos) (RZ.iZipA K ta) := h ▸ RZ.pi_zipA hg hm ha hs hpl
theorem kgTup {es : List Expr} {k : Nat} {pos : Pos} {t : TGs} {n : Nat} (h : X.K = K) (hc : X.calm = true) (hp : PGs X es t) (hn : (assignEach es X.env).length = n := by rfl)
    (hst : (assignEach es X.env).findIdx? (·.1) = none := by rfl) : PG X (.Tuple es k pos) (gTup K n t) := h ▸ pg_tup hc hp hn hst
theorem kJoin {o e : Expr} {to te : TE} {apos pos : Pos} (h : X.K = K) (ho : PE X o to) (he : PE X e te) (hs : starEach [e] X.env = [(false, eval e X.env)] := by rfl)
    (hbase : attributeBase o "join" X.env (eval o X.env) = eval o X.env := by rfl) (hline : (apos.endLine == pos.line) = true := by rfl) : PE X (.Call (.Attribute o "join" apos) [e] [] pos) (tM1 (rJoin K) to te) := h ▸ pe_join ho he hs hbase hline
end
end DL
/-! further pieces: weakening, new lists that are changed, a bag made, dicts written, fine data -/
namespace DL
open PySem PySem.Spec PyProof.Rows L2 Evl
section
variable {K : PySem.W.Frag} {σ : L2.St} {H H1 : Hp} {te ta tb tv : TE} {tz : TS} {D : Ends} {P P1 P2 : PyData → Prop} {d1 d2 : PyData}
theorem RD.weak {r : R2} (h : RD K r d1 d2 P1) (w : ∀ z, P1 z → P2 z) : RD K r d1 d2 P2 := fun v1 v2 H H1 e r1 r2 Q q => h v1 v2 H H1 e r1 r2 Q fun v d Hk H2 g r p => q v d Hk H2 g r (w d p)
theorem RCD.weak {r : List V → Hp → VK → Prop} {ds : List PyData} (h : RCD K r ds P1) (w : ∀ z, P1 z → P2 z) : RCD K r ds P2 := fun vs H H1 e r1 Q q => h vs H H1 e r1 Q fun v d Hk H2 g r p => q v d Hk H2 g r (w d p)
theorem evp_cb1 {rr : List V → Hp → VK → Prop} (h : EvP K ta σ H P1) (hr : ∀ d, P1 d → RCD K rr [d] P) : EvP K (tCB rr (tCons ta tNil)) σ H P :=
  evp_cb (eas_cons h eas_nil) fun ds p => by
    obtain ⟨d, es, rfl, p1, rfl⟩ := p
    exact hr d p1
/-- a drawn item of written ones -/
theorem evp_pick {E : XK} {i : Nat} {b : Addr} {d : PyData} (hi : σ[i]? = some (some (.ref b))) (hb : H b = some (BagO b)) (h : EvD K ta σ H d) (h0 : items d ≠ []) (h1 : (items d).length ≤ 100000) :
    EvP K (tCall (spB1 K pickPre pickPost) [] E (tCons (tVar i) (tCons ta tNil))) σ H (fun z => z ∈ items d) := evd_B1 hi hb h ⟨h0, h1⟩
/-- a drawn number below n -/
theorem evp_drawn {E : XK} {i : Nat} {b : Addr} {n : Int} (hi : σ[i]? = some (some (.ref b))) (hb : H b = some (BagO b)) (h : EvD K ta σ H (.int n)) (h0 : 0 < n) (h1 : n.natAbs.log2 < 1000) :
    EvP K (tCall (spB1 K drawPre drawPost) [] E (tCons (tVar i) (tCons ta tNil))) σ H (fun z => ∃ k, z = .int k ∧ 0 ≤ k ∧ k < n) :=
  EvP.weak (evd_B1 hi hb h ⟨n, rfl, h0, h1⟩) fun z ⟨k, m, e1, e2, h2, h3⟩ => by
    cases e2
    exact ⟨k, e1, h2, h3⟩
/-- x = [..], a list that will be changed: it stands at p and is not told -/
theorem st_newList {tr : TA} {i : Nat} {P : List PyData → Prop} (h : EvAs K tr σ H P) (hl : ∀ ds, P ds → ds.length ≤ 100000) (ex : Ex H H1)
    (k : ∀ p vs ds Hk H2, Grow H H1 Hk H2 → RpAll K Hk vs ds → P ds → Hk p = none → H2 p = some (.lst vs) → H1 p = none → tz D (σ.set i (some (.ref p))) H2) : tSeq (tAsg (tLst tr) (gName i)) tz D σ H1 := by
  refine h H1 ex _ fun vs ds Hk H2 g r p => ⟨sz_of (by rw [r.len]; exact hl ds p), fun a ha => ?_⟩
  exact k a vs ds Hk _ (g.trans (Grow.hide g.sub ha _)) r p (ex_none g.sub ha) upd_same (ex_none g.all ha)
/-- xs.append(e), xs at p, not told -/
theorem st_append {i : Nat} {p : Addr} {xs : List V} (hi : σ[i]? = some (some (.ref p))) (h : EvP K te σ H P) (ex : Ex H H1) (hk : H p = none) (hp : H1 p = some (.lst xs)) (hz : xs.length < 100000)
    (k : ∀ v d Hk H2, Grow H H1 Hk H2 → Rp K Hk v d → P d → Hk p = none → H2 p = some (.lst xs) → tz D σ (upd H2 p (.lst (xs ++ [v])))) : tSeq (tDrop (tBM K "list" rAppend (tVar i) (tCons te tNil))) tz D σ H1 := by
  refine ⟨.ref p, hi, .inl ⟨rfl, xs, .inl (.inl hp)⟩, ?_⟩
  refine h H1 ex _ fun v d Hk H2 g r q => ?_
  have hp2 := g.all _ _ hp
  exact ⟨p, xs, v, rfl, rfl, hp2, sz_lt hz, k v d Hk H2 g r q (g.unk hk hp) hp2⟩
theorem st_appendL {i : Nat} {p : Addr} {xs : List V} (hi : σ[i]? = some (some (.ref p))) (h : EvP K te σ H P) (ex : Ex H H1) (hk : H p = none) (hp : H1 p = some (.lst xs)) (hz : xs.length < 100000)
    (k : ∀ v d Hk H2, Grow H H1 Hk H2 → Rp K Hk v d → P d → Hk p = none → H2 p = some (.lst xs) → D.nx σ (upd H2 p (.lst (xs ++ [v])))) : tDrop (tBM K "list" rAppend (tVar i) (tCons te tNil)) D σ H1 := by
  refine ⟨.ref p, hi, .inl ⟨rfl, xs, .inl (.inl hp)⟩, ?_⟩
  refine h H1 ex _ fun v d Hk H2 g r q => ?_
  have hp2 := g.all _ _ hp
  exact ⟨p, xs, v, rfl, rfl, hp2, sz_lt hz, k v d Hk H2 g r q (g.unk hk hp) hp2⟩
/-- a list at p that was not told is told -/
theorem tell {Hk H2 : Hp} {p : Addr} {o : HO} (e : Ex Hk H2) (hk : Hk p = none) (hp : H2 p = some o) : Ex Hk (upd Hk p o) ∧ Ex (upd Hk p o) H2 :=
  ⟨Ex.new hk, fun a u h => by
    by_cases ha : a = p
    · subst ha
      rw [upd_same] at h
      cases h
      exact hp
    · rw [upd_ne ha] at h
      exact e a u h⟩
theorem grow_tell {H H1 Hk H2 : Hp} {p : Addr} {o : HO} (g : Grow H H1 Hk H2) (hk : Hk p = none) (h1 : H1 p = none) : Grow H H1 (upd Hk p o) (upd H2 p o) :=
  ⟨g.known.trans (Ex.new hk), ex_upd g.sub p o, g.all.mut h1, fun a u h n => by
    by_cases ha : a = p
    · subst ha
      exact h1
    · rw [upd_ne ha] at h
      exact g.fresh a u h n⟩
theorem told_list {Hk : Hp} {p : Addr} {vs : List V} {ds : List PyData} (r : RpAll K Hk vs ds) (hk : Hk p = none) : Rp K (upd Hk p (.lst vs)) (.ref p) (.list ds) := .lst (sq_of upd_same) (r.mono (Ex.new hk))
theorem RpAll.snoc {Hk : Hp} {vs : List V} {ds : List PyData} {v : V} {d : PyData} (r : RpAll K Hk vs ds) (q : Rp K Hk v d) : RpAll K Hk (vs ++ [v]) (ds ++ [d]) := r.append (.cons q .nil)
/-- bag = _law_bag(script, at) -/
theorem st_bag {i j l : Nat} {a : Addr} {ns : List Int} {n : Int} {E : XK} (h0 : σ[i]? = some (some (.ref a))) (h1 : σ[j]? = some (some (.int n))) (hS : SqL K H a (ns.map V.int)) (hl : ns.length ≤ 63) (hn : 0 ≤ n ∧ n < 100) (ex : Ex H H1)
    (k : ∀ p Hk H2, Grow H H1 Hk H2 → Hk p = some (BagO p) → tz D (σ.set l (some (.ref p))) H2) : tSeq (tAsg (tCall (spNewBag K) [] E (tCons (tVar i) (tCons (tVar j) tNil))) (gName l)) tz D σ H1 :=
  ⟨.ref a, h0, .int n, h1, H, a, ns, n, rfl, ex, hS, hl, hn.1, hn.2, k⟩
theorem evd_dnew : EvD K tDNewK σ H (.dict []) := fun H1 e Q q p hp => q (.ref p) (.dict []) _ _ (Grow.new e hp _) (.dic upd_same .nil) rfl
theorem evd_dict1 {k : Str} {d : PyData} (h : EvD K tv σ H d) : EvD K (tDisp [(tC (.str k), tv)]) σ H (.dict [(.str k, d)]) := by
  intro H1 e Q q p hp
  refine h _ (e.trans (Ex.new hp)) _ fun v d' Hk H2 g r e' => ?_
  subst e'
  have hp2 : H2 p = some (.dK []) := g.all _ _ upd_same
  have hk : Hk p = none := g.unk (ex_none e hp) upd_same
  refine ⟨hp2, [(Sum.inr k, v)], rfl, (by show 1 ≤ 15; decide), ?_⟩
  have g2 : Grow H H1 (upd Hk p (.dK (mergeK [] [(Sum.inr k, v)]))) (upd H2 p (.dK (mergeK [] [(Sum.inr k, v)]))) :=
    ⟨g.known.trans (Ex.new hk), ex_upd g.sub p _, fun a u ha => by
      by_cases hap : a = p
      · subst hap
        rw [hp] at ha
        cases ha
      · rw [upd_ne hap]
        exact g.all a u (by rw [upd_ne hap]; exact ha), fun a u ha n => by
      by_cases hap : a = p
      · subst hap
        exact hp
      · rw [upd_ne hap] at ha
        have := g.fresh a u ha n
        rw [upd_ne hap] at this
        exact this⟩
  refine q (.ref p) _ _ _ g2 (.dic upd_same ?_) rfl
  exact .cons (r.mono (Ex.new hk)) .nil
end
/-- the law's own promise -/
def spLaw (K : PySem.W.Frag) : Sp := fun vs H1 Q _ => ∃ H a ns, vs = [.ref a] ∧ Ex H H1 ∧ SqL K H a ((ns : List Int).map V.int) ∧ ns.length ≤ 63 ∧ ∀ H2, Q (.bl true) H2
/-! fine data: nice and not deep -/
def Fine (d : PyData) : Prop := Nice d ∧ d.depth ≤ 10
def fineB (d : PyData) : Bool := (tidy d || isDic d) && decide (d.depth ≤ 10)
theorem Fine.of {d : PyData} (h : fineB d = true) : Fine d := by
  unfold fineB at h
  rw [Bool.and_eq_true, Bool.or_eq_true] at h
  exact ⟨h.1, of_decide_eq_true h.2⟩
theorem depthAll_le : ∀ {ds : List PyData} {n : Nat}, (∀ d ∈ ds, d.depth ≤ n) → PyData.depthAll ds ≤ n
  | [], n, _ => Nat.zero_le n
  | d :: ds, n, h => by
    show max d.depth (PyData.depthAll ds) ≤ n
    exact Nat.max_le.mpr ⟨h d List.mem_cons_self, depthAll_le fun x hx => h x (List.mem_cons_of_mem _ hx)⟩
theorem depth_mem : ∀ {ds : List PyData} {d : PyData}, d ∈ ds → d.depth ≤ PyData.depthAll ds
  | x :: ds, d, h => by
    show d.depth ≤ max x.depth (PyData.depthAll ds)
    rcases List.mem_cons.mp h with rfl | h
    · exact Nat.le_max_left _ _
    · exact Nat.le_trans (depth_mem h) (Nat.le_max_right _ _)
theorem canLayAll_of : ∀ {ds : List PyData}, (∀ d ∈ ds, d.canLay0 = true) → PyData.canLayAll0 ds = true
  | [], _ => rfl
  | d :: ds, h => by
    simp only [PyData.canLayAll0, Bool.and_eq_true]
    exact ⟨h d List.mem_cons_self, canLayAll_of fun x hx => h x (List.mem_cons_of_mem _ hx)⟩
/-- a list of data that may be compared -/
theorem shaped_list {ds : List PyData} (h : ∀ d ∈ ds, d.canLay0 = true ∧ d.depth ≤ 60) : SeqAt.shaped (.list ds) = true := by
  unfold SeqAt.shaped
  rw [Bool.and_eq_true]
  refine ⟨canLayAll_of fun d hd => (h d hd).1, decide_eq_true ?_⟩
  show PyData.depthAll ds + 1 ≤ 64
  have := depthAll_le (n := 60) fun d hd => (h d hd).2
  omega
theorem shaped_tuple {ds : List PyData} (h : ∀ d ∈ ds, d.canLay0 = true ∧ d.depth ≤ 60) : SeqAt.shaped (.tuple ds) = true := by
  unfold SeqAt.shaped
  rw [Bool.and_eq_true]
  refine ⟨canLayAll_of fun d hd => (h d hd).1, decide_eq_true ?_⟩
  show PyData.depthAll ds + 1 ≤ 64
  have := depthAll_le (n := 60) fun d hd => (h d hd).2
  omega
theorem shaped_str {s : Str} (h : PyData.strOk s = true) : SeqAt.shaped (.str s) = true := by
  unfold SeqAt.shaped
  rw [Bool.and_eq_true]
  exact ⟨h, rfl⟩
theorem eqv_nil (ds : List PyData) : PyData.eqv (.list ds) (.list []) = ds.isEmpty := by cases ds <;> simp [PyData.eqv, PyData.eqvAll]
theorem Fine.tup {ds : List PyData} (h : Fine (.tuple ds)) : ∀ d ∈ ds, Fine d ∧ d.canLay0 = true := by
  intro d hd
  have hdep : d.depth ≤ 10 := Nat.le_trans (Nat.le_trans (depth_mem hd) (Nat.le_succ _)) h.2
  rcases h.1 with ht | ht
  · have h' : ds.length ≤ 1000 ∧ tidyAll ds = true := by simpa [tidy] using ht
    have := tidyAll_mem h'.2 d hd
    exact ⟨⟨.inl this, hdep⟩, canLay_tidy this⟩
  · cases ht
theorem isLett_iff (c : Nat) : isLett c = (decide (97 ≤ c) && decide (c ≤ 122)) := by
  have e : LETT.cps.toList = List.range' 97 26 := by decide +kernel
  unfold isLett
  rw [e, Bool.eq_iff_iff, decide_eq_true_iff, Bool.and_eq_true, decide_eq_true_iff, decide_eq_true_iff, List.mem_range'_1]
  omega
theorem lt_one (a b : Nat) : decide (([a] : List Nat) < [b]) = decide (a < b) := by
  rw [Bool.eq_iff_iff, decide_eq_true_iff, decide_eq_true_iff, List.cons_lt_cons_iff]
  simp
theorem strOk_iff {s : Str} : PyData.strOk s = true ↔ ∀ c ∈ s.cps.toList, c < 0x110000 := by
  unfold PyData.strOk
  rw [Array.all_eq_true_iff_forall_mem]
  constructor
  · intro h c hc
    exact of_decide_eq_true (h c (by simpa using hc))
  · intro h c hc
    exact decide_eq_true (h c (by simpa using hc))
theorem join_strOk {ys : List Str} (h : ∀ y ∈ ys, PyData.strOk y = true) : PyData.strOk (Txt.join Str.empty ys) = true := by
  rw [strOk_iff]
  intro c hc
  have e : Txt.join Str.empty ys = Str.join Str.empty ys := StrLaws.glued_eq_join _ _
  rw [e, mem_join] at hc
  rcases hc with ⟨t, ht, hc⟩ | ⟨_, hc⟩
  · exact strOk_iff.mp (h t ht) c hc
  · simp [Str.empty] at hc
theorem join_len {ys : List Str} : (Txt.join Str.empty ys).length ≤ (ys.map (·.length)).sum := by
  have e : Txt.join Str.empty ys = Str.join Str.empty ys := StrLaws.glued_eq_join _ _
  rw [e]
  have := StrLaws.join_length_le Str.empty ys
  simpa [Str.empty, Str.length] using this
theorem sum_le_mul {ns : List Nat} {m : Nat} (h : ∀ n ∈ ns, n ≤ m) : ns.sum ≤ ns.length * m := by
  induction ns with
  | nil => simp
  | cons n ns ih =>
    have h1 := h n List.mem_cons_self
    have h2 := ih fun x hx => h x (List.mem_cons_of_mem _ hx)
    rw [List.sum_cons, List.length_cons, Nat.succ_mul]
    omega
/-- signs of a text, as texts -/
theorem signs_of {s : Str} (hs : PyData.strOk s = true) : ∀ {ds : List PyData}, (∀ x ∈ ds, x ∈ items (.str s)) → ∃ ys : List Str, ds = ys.map .str ∧ ys.length = ds.length ∧ (∀ y ∈ ys, y.length = 1 ∧ PyData.strOk y = true)
  | [], _ => ⟨[], rfl, rfl, fun y hy => nomatch hy⟩
  | d :: ds, h => by
    obtain ⟨c, hc, rfl⟩ := List.mem_map.mp (h d List.mem_cons_self)
    obtain ⟨ys, rfl, hl, hy⟩ := signs_of hs fun x hx => h x (List.mem_cons_of_mem _ hx)
    refine ⟨⟨#[c]⟩ :: ys, rfl, (by rw [List.length_cons, List.length_cons, hl, List.length_map]), fun y hy' => ?_⟩
    rcases List.mem_cons.mp hy' with rfl | hy'
    · refine ⟨rfl, strOk_iff.mpr fun x hx => ?_⟩
      have : x = c := List.mem_singleton.mp hx
      rw [this]
      exact strOk_iff.mp hs c hc
    · exact hy y hy'
end DL
namespace K01
open PySem PySem.Spec PyProof.Rows L2 Evl DL
def top (i : Nat) : Stmt := PySem.Challenge.pw_lengthstell_k01_words_and_lots.main.body.getD i (.Pass ⟨0, 0, 0, 0⟩)
abbrev s_is_whole : Stmt := top 6
theorem sc_is_whole : FnScope ["value"] ["value"] (defScope s_is_whole) := ⟨rfl, rfl, rfl, by decide +kernel, rfl, by decide +kernel, by decide +kernel⟩
abbrev s_is_within : Stmt := top 7
theorem sc_is_within : FnScope ["value", "low", "high"] ["value", "low", "high"] (defScope s_is_within) := ⟨rfl, rfl, rfl, by decide +kernel, rfl, by decide +kernel, by decide +kernel⟩
abbrev s_is_integer : Stmt := top 8
theorem sc_is_integer : FnScope ["value"] ["value"] (defScope s_is_integer) := ⟨rfl, rfl, rfl, by decide +kernel, rfl, by decide +kernel, by decide +kernel⟩
abbrev s_is_name : Stmt := top 9
theorem sc_is_name : FnScope ["value", "sign"] ["value"] (defScope s_is_name) := ⟨rfl, rfl, rfl, by decide +kernel, rfl, by decide +kernel, by decide +kernel⟩
abbrev s_are_names : Stmt := top 10
theorem sc_are_names : FnScope ["value", "one"] ["value"] (defScope s_are_names) := ⟨rfl, rfl, rfl, by decide +kernel, rfl, by decide +kernel, by decide +kernel⟩
abbrev s_is_ascending : Stmt := top 11
theorem sc_is_ascending : FnScope ["items", "one", "other"] ["items"] (defScope s_is_ascending) := ⟨rfl, rfl, rfl, by decide +kernel, rfl, by decide +kernel, by decide +kernel⟩
abbrev s_is_lot : Stmt := top 12
theorem sc_is_lot : FnScope ["value"] ["value"] (defScope s_is_lot) := ⟨rfl, rfl, rfl, by decide +kernel, rfl, by decide +kernel, by decide +kernel⟩
abbrev s_is_pair : Stmt := top 13
theorem sc_is_pair : FnScope ["value"] ["value"] (defScope s_is_pair) := ⟨rfl, rfl, rfl, by decide +kernel, rfl, by decide +kernel, by decide +kernel⟩
abbrev s_is_space : Stmt := top 14
theorem sc_is_space : FnScope ["value"] ["value"] (defScope s_is_space) := ⟨rfl, rfl, rfl, by decide +kernel, rfl, by decide +kernel, by decide +kernel⟩
abbrev s__law_bag : Stmt := top 16
theorem sc__law_bag : FnScope ["_law_script", "_law_at", "_law_cell", "_law_great", "_law_mixed"] ["_law_script", "_law_at"] (defScope s__law_bag) := ⟨rfl, rfl, rfl, by decide +kernel, rfl, by decide +kernel, by decide +kernel⟩
abbrev s__law_draw : Stmt := top 17
theorem sc__law_draw : FnScope ["_law_bag_here", "_law_total", "_law_found", "_law_one", "_law_two"] ["_law_bag_here", "_law_total"] (defScope s__law_draw) := ⟨rfl, rfl, rfl, by decide +kernel, rfl, by decide +kernel, by decide +kernel⟩
abbrev s__law_one_of : Stmt := top 18
theorem sc__law_one_of : FnScope ["_law_bag_here", "_law_items"] ["_law_bag_here", "_law_items"] (defScope s__law_one_of) := ⟨rfl, rfl, rfl, by decide +kernel, rfl, by decide +kernel, by decide +kernel⟩
abbrev s__law_power : Stmt := top 19
theorem sc__law_power : FnScope ["_law_many", "_law_found", "_law_turn"] ["_law_many"] (defScope s__law_power) := ⟨rfl, rfl, rfl, by decide +kernel, rfl, by decide +kernel, by decide +kernel⟩
abbrev s__law_word : Stmt := top 20
theorem sc__law_word : FnScope ["_law_bag_here", "_law_signs", "_law_turn"] ["_law_bag_here"] (defScope s__law_word) := ⟨rfl, rfl, rfl, by decide +kernel, rfl, by decide +kernel, by decide +kernel⟩
abbrev s__law_any : Stmt := top 21
theorem sc__law_any : FnScope ["_law_bag_here", "_law_way", "_law_turn", "_law_digits"] ["_law_bag_here"] (defScope s__law_any) := ⟨rfl, rfl, rfl, by decide +kernel, rfl, by decide +kernel, by decide +kernel⟩
abbrev s__law_is_word : Stmt := top 22
theorem sc__law_is_word : FnScope ["_law_value", "_law_sign"] ["_law_value"] (defScope s__law_is_word) := ⟨rfl, rfl, rfl, by decide +kernel, rfl, by decide +kernel, by decide +kernel⟩
abbrev s__law_are_words : Stmt := top 23
theorem sc__law_are_words : FnScope ["_law_value", "_law_one"] ["_law_value"] (defScope s__law_are_words) := ⟨rfl, rfl, rfl, by decide +kernel, rfl, by decide +kernel, by decide +kernel⟩
abbrev s__law_right : Stmt := top 24
theorem sc__law_right : FnScope ["_law_bag_here", "_law_value", "_law_is_whole", "_law_words", "_law_lot", "_law_one", "_law_other", "_law_due", "_law_told"] ["_law_bag_here"] (defScope s__law_right) := ⟨rfl, rfl, rfl, by decide +kernel, rfl, by decide +kernel, by decide +kernel⟩
abbrev s_law : Stmt := top 25
theorem sc_law : FnScope ["_law_script", "_law_at", "_law_bag_here", "_law_turn", "_law_edge", "_law_edges"] ["_law_script"] (defScope s_law) := ⟨rfl, rfl, rfl, by decide +kernel, rfl, by decide +kernel, by decide +kernel⟩
/-! what the top has left -/
structure Tx (K : PySem.W.Frag) (mg : Str → Option Value) where
  a_is_whole : Addr
  d_is_whole : FuncData
  F_is_whole : Fun K "is_whole" "is_whole" s_is_whole a_is_whole d_is_whole
  b_is_whole : Binds K d_is_whole ["value"] []
  g_is_whole : mg "is_whole" = some (.ref a_is_whole)
  a_is_within : Addr
  d_is_within : FuncData
  F_is_within : Fun K "is_within" "is_within" s_is_within a_is_within d_is_within
  b_is_within : Binds K d_is_within ["value", "low", "high"] []
  g_is_within : mg "is_within" = some (.ref a_is_within)
  a_is_integer : Addr
  d_is_integer : FuncData
  F_is_integer : Fun K "is_integer" "is_integer" s_is_integer a_is_integer d_is_integer
  b_is_integer : Binds K d_is_integer ["value"] []
  g_is_integer : mg "is_integer" = some (.ref a_is_integer)
  a_is_name : Addr
  d_is_name : FuncData
  F_is_name : Fun K "is_name" "is_name" s_is_name a_is_name d_is_name
  b_is_name : Binds K d_is_name ["value"] []
  g_is_name : mg "is_name" = some (.ref a_is_name)
  a_are_names : Addr
  d_are_names : FuncData
  F_are_names : Fun K "are_names" "are_names" s_are_names a_are_names d_are_names
  b_are_names : Binds K d_are_names ["value"] []
  g_are_names : mg "are_names" = some (.ref a_are_names)
  a_is_ascending : Addr
  d_is_ascending : FuncData
  F_is_ascending : Fun K "is_ascending" "is_ascending" s_is_ascending a_is_ascending d_is_ascending
  b_is_ascending : Binds K d_is_ascending ["items"] []
  g_is_ascending : mg "is_ascending" = some (.ref a_is_ascending)
  a_is_lot : Addr
  d_is_lot : FuncData
  F_is_lot : Fun K "is_lot" "is_lot" s_is_lot a_is_lot d_is_lot
  b_is_lot : Binds K d_is_lot ["value"] []
  g_is_lot : mg "is_lot" = some (.ref a_is_lot)
  a_is_pair : Addr
  d_is_pair : FuncData
  F_is_pair : Fun K "is_pair" "is_pair" s_is_pair a_is_pair d_is_pair
  b_is_pair : Binds K d_is_pair ["value"] []
  g_is_pair : mg "is_pair" = some (.ref a_is_pair)
  a_is_space : Addr
  d_is_space : FuncData
  F_is_space : Fun K "is_space" "is_space" s_is_space a_is_space d_is_space
  b_is_space : Binds K d_is_space ["value"] []
  g_is_space : mg "is_space" = some (.ref a_is_space)
  a__law_bag : Addr
  d__law_bag : FuncData
  F__law_bag : Fun K "_law_bag" "_law_bag" s__law_bag a__law_bag d__law_bag
  b__law_bag : Binds K d__law_bag ["_law_script", "_law_at"] []
  g__law_bag : mg "_law_bag" = some (.ref a__law_bag)
  a__law_draw : Addr
  d__law_draw : FuncData
  F__law_draw : Fun K "_law_draw" "_law_draw" s__law_draw a__law_draw d__law_draw
  b__law_draw : Binds K d__law_draw ["_law_bag_here", "_law_total"] []
  g__law_draw : mg "_law_draw" = some (.ref a__law_draw)
  a__law_one_of : Addr
  d__law_one_of : FuncData
  F__law_one_of : Fun K "_law_one_of" "_law_one_of" s__law_one_of a__law_one_of d__law_one_of
  b__law_one_of : Binds K d__law_one_of ["_law_bag_here", "_law_items"] []
  g__law_one_of : mg "_law_one_of" = some (.ref a__law_one_of)
  a__law_power : Addr
  d__law_power : FuncData
  F__law_power : Fun K "_law_power" "_law_power" s__law_power a__law_power d__law_power
  b__law_power : Binds K d__law_power ["_law_many"] []
  g__law_power : mg "_law_power" = some (.ref a__law_power)
  a__law_word : Addr
  d__law_word : FuncData
  F__law_word : Fun K "_law_word" "_law_word" s__law_word a__law_word d__law_word
  b__law_word : Binds K d__law_word ["_law_bag_here"] []
  g__law_word : mg "_law_word" = some (.ref a__law_word)
  a__law_any : Addr
  d__law_any : FuncData
  F__law_any : Fun K "_law_any" "_law_any" s__law_any a__law_any d__law_any
  b__law_any : Binds K d__law_any ["_law_bag_here"] []
  g__law_any : mg "_law_any" = some (.ref a__law_any)
  a__law_is_word : Addr
  d__law_is_word : FuncData
  F__law_is_word : Fun K "_law_is_word" "_law_is_word" s__law_is_word a__law_is_word d__law_is_word
  b__law_is_word : Binds K d__law_is_word ["_law_value"] []
  g__law_is_word : mg "_law_is_word" = some (.ref a__law_is_word)
  a__law_are_words : Addr
  d__law_are_words : FuncData
  F__law_are_words : Fun K "_law_are_words" "_law_are_words" s__law_are_words a__law_are_words d__law_are_words
  b__law_are_words : Binds K d__law_are_words ["_law_value"] []
  g__law_are_words : mg "_law_are_words" = some (.ref a__law_are_words)
  a__law_right : Addr
  d__law_right : FuncData
  F__law_right : Fun K "_law_right" "_law_right" s__law_right a__law_right d__law_right
  b__law_right : Binds K d__law_right ["_law_bag_here"] []
  g__law_right : mg "_law_right" = some (.ref a__law_right)
  a_law : Addr
  d_law : FuncData
  F_law : Fun K "law" "law" s_law a_law d_law
  b_law : Binds K d_law ["_law_script"] []
  g_law : mg "law" = some (.ref a_law)
  n_abs : mg "abs" = none
  n_all : mg "all" = none
  n_bool : mg "bool" = none
  n_int : mg "int" = none
  n_isinstance : mg "isinstance" = none
  n_len : mg "len" = none
  n_max : mg "max" = none
  n_min : mg "min" = none
  n_range : mg "range" = none
  n_repr : mg "repr" = none
  n_sorted : mg "sorted" = none
  n_str : mg "str" = none
  n_sum : mg "sum" = none
  n_tuple : mg "tuple" = none
  n_zip : mg "zip" = none
  t_BEYOND : Tok
  c_BEYOND : mg "BEYOND" = some (.int (BEY : Int) t_BEYOND)
  t_LETTERS : Tok
  c_LETTERS : mg "LETTERS" = some (.str "abcdefghijklmnopqrstuvwxyz" t_LETTERS)
  t_MAX_DIGITS : Tok
  c_MAX_DIGITS : mg "MAX_DIGITS" = some (.int 2000 t_MAX_DIGITS)
  t_MAX_LETTERS : Tok
  c_MAX_LETTERS : mg "MAX_LETTERS" = some (.int 4 t_MAX_LETTERS)

section
variable {P : Program} {w : World} {K : PySem.W.Frag} {mg : Str → Option Value} {base : Heap}
theorem ok_is_whole (T : Tx K mg) : FnOk P w K mg base CX0 1 T.a_is_whole T.d_is_whole ["value"] (spD1 K (fun _ => True) (fun d z => z = .bool (isWhole d))) := by
  refine T.F_is_whole.ok sc_is_whole (fun vs H1 Q E h => ?_) (fun cdv A outer s H1 vs Q E hr h => ?_)
  · obtain ⟨H, v, d, rfl, _⟩ := h
    rfl
  · obtain ⟨H, v, d, rfl, ex, r, p, q⟩ := h
    refine ⟨_, (pss_one (ps_ret (pe_and (pe_callB (kIsi (K := K) rfl) (by rfl) T.n_isinstance (by decide +kernel) (pa_cons (pv 0) (pa_cons (pe_bltn (v := .ty "int") (by rfl) T.n_int (by decide +kernel) rfl) pa_nil))) (pe_one (pe_not (pe_callB (kIsi (K := K) rfl) (by rfl) T.n_isinstance (by decide +kernel) (pa_cons (pv 0) (pa_cons (pe_bltn (v := .ty "bool") (by rfl) T.n_bool (by decide +kernel) rfl) pa_nil)))))))), ?_⟩
    try dsimp only [cxOf]
    exact (evp_andV (evp_isi (evp_var rfl r) (kit_int d)) (fun _ => evp_notV (evp_isi (evp_var rfl r) (kit_bool d)))) H1 ex _ q
theorem ok_is_within (T : Tx K mg) : FnOk P w K mg base CX0 2 T.a_is_within T.d_is_within ["value", "low", "high"] (spD3 K (fun _ e f => ∃ lo hi, e = .int lo ∧ f = .int hi) (fun d e f z => ∃ lo hi, e = .int lo ∧ f = .int hi ∧ z = .bool (within d lo hi))) := by
  refine T.F_is_within.ok sc_is_within (fun vs H1 Q E h => ?_) (fun cdv A outer s H1 vs Q E hr h => ?_)
  · obtain ⟨H, v, w, y, d, e, f, rfl, _⟩ := h
    rfl
  · obtain ⟨H, v, w, y, d, e, f, rfl, ex, r, r2, r3, p, q⟩ := h
    refine ⟨_, (pss_one (ps_ret (pe_and (pe_call (ok_is_whole T) (hr.mono (by decide)) (by rfl) T.g_is_whole T.F_is_whole.kp T.b_is_whole .nil pass0 (pa_cons (pv 0) pa_nil)) (pe_one (pe_chain opLe opLe (pv 1) (pv 0) (pv 2)))))), ?_⟩
    try dsimp only [cxOf]
    obtain ⟨lo, hi, rfl, rfl⟩ := p
    have q' : ∀ u z Hk H2, Grow H H1 Hk H2 → Rp K Hk u z → z = .bool (within d lo hi) → Q u H2 := fun u z Hk H2 g r p => q u z Hk H2 g r ⟨lo, hi, rfl, rfl, p⟩
    cases d with
    | int i => exact (EvP.is (evp_andV (a := isWhole (.int i)) (evd_D1 (evp_var rfl r) trivial) (fun _ => evp_chain (evp_var rfl r2) (evp_var rfl r) (fun _ => evp_var rfl r3) rd_le (fun _ => rd_le))) rfl) H1 ex _ q'
    | none => exact (EvP.is (evp_andV (a := isWhole _) (b := false) (evd_D1 (evp_var rfl r) trivial) (fun h => by cases h)) rfl) H1 ex _ q'
    | bool _ => exact (EvP.is (evp_andV (a := isWhole _) (b := false) (evd_D1 (evp_var rfl r) trivial) (fun h => by cases h)) rfl) H1 ex _ q'
    | str _ => exact (EvP.is (evp_andV (a := isWhole _) (b := false) (evd_D1 (evp_var rfl r) trivial) (fun h => by cases h)) rfl) H1 ex _ q'
    | list _ => exact (EvP.is (evp_andV (a := isWhole _) (b := false) (evd_D1 (evp_var rfl r) trivial) (fun h => by cases h)) rfl) H1 ex _ q'
    | tuple _ => exact (EvP.is (evp_andV (a := isWhole _) (b := false) (evd_D1 (evp_var rfl r) trivial) (fun h => by cases h)) rfl) H1 ex _ q'
    | dict _ => exact (EvP.is (evp_andV (a := isWhole _) (b := false) (evd_D1 (evp_var rfl r) trivial) (fun h => by cases h)) rfl) H1 ex _ q'
theorem ok_is_integer (T : Tx K mg) : FnOk P w K mg base CX0 2 T.a_is_integer T.d_is_integer ["value"] (spD1 K (fun _ => True) (fun d z => z = .bool (isInteger d))) := by
  refine T.F_is_integer.ok sc_is_integer (fun vs H1 Q E h => ?_) (fun cdv A outer s H1 vs Q E hr h => ?_)
  · obtain ⟨H, v, d, rfl, _⟩ := h
    rfl
  · obtain ⟨H, v, d, rfl, ex, r, p, q⟩ := h
    refine ⟨_, (pss_one (ps_ret (pe_and (pe_call (ok_is_whole T) (hr.mono (by decide)) (by rfl) T.g_is_whole T.F_is_whole.kp T.b_is_whole .nil pass0 (pa_cons (pv 0) pa_nil)) (pe_one (pe_cmpR opLt (pe_callB call_abs (by rfl) T.n_abs (by decide +kernel) (pa_cons (pv 0) pa_nil)) (pe_glob (v := .int (BEY : Int)) (by rfl) T.c_BEYOND ⟨_, rfl⟩) (nomark _)))))), ?_⟩
    try dsimp only [cxOf]
    cases d with
    | int i =>
      refine (EvP.is (evp_andV (a := isWhole (.int i)) (evd_D1 (evp_var rfl r) trivial) (fun _ => evd_op (evd_cb (eas1 (evp_var rfl r) eas_nil) rc_abs) evp_int rd_lt)) ?_) H1 ex _ q
      exact congrArg PyData.bool (beyG i.natAbs BEY)
    | none => exact (EvP.is (evp_andV (a := isWhole _) (b := false) (evd_D1 (evp_var rfl r) trivial) (fun h => by cases h)) rfl) H1 ex _ q
    | bool _ => exact (EvP.is (evp_andV (a := isWhole _) (b := false) (evd_D1 (evp_var rfl r) trivial) (fun h => by cases h)) rfl) H1 ex _ q
    | str _ => exact (EvP.is (evp_andV (a := isWhole _) (b := false) (evd_D1 (evp_var rfl r) trivial) (fun h => by cases h)) rfl) H1 ex _ q
    | list _ => exact (EvP.is (evp_andV (a := isWhole _) (b := false) (evd_D1 (evp_var rfl r) trivial) (fun h => by cases h)) rfl) H1 ex _ q
    | tuple _ => exact (EvP.is (evp_andV (a := isWhole _) (b := false) (evd_D1 (evp_var rfl r) trivial) (fun h => by cases h)) rfl) H1 ex _ q
    | dict _ => exact (EvP.is (evp_andV (a := isWhole _) (b := false) (evd_D1 (evp_var rfl r) trivial) (fun h => by cases h)) rfl) H1 ex _ q
theorem ok_is_name (T : Tx K mg) : FnOk P w K mg base CX0 1 T.a_is_name T.d_is_name ["value"] (spD1 K Nice (fun d z => z = .bool (okName d))) := by
  refine T.F_is_name.ok sc_is_name (fun vs H1 Q E h => ?_) (fun cdv A outer s H1 vs Q E hr h => ?_)
  · obtain ⟨H, v, d, rfl, _⟩ := h
    rfl
  · obtain ⟨H, v, d, rfl, ex, r, p, q⟩ := h
    refine ⟨_, (pss_one (ps_ret (pe_and (pe_callB (kIsi (K := K) rfl) (by rfl) T.n_isinstance (by decide +kernel) (pa_cons (pv 0) (pa_cons (pe_bltn (v := .ty "str") (by rfl) T.n_str (by decide +kernel) rfl) pa_nil))) (pe_and (pe_chain opLe opLe pe_int (pe_callB (kLen (K := K) rfl) (by rfl) T.n_len (by decide +kernel) (pa_cons (pv 0) pa_nil)) (pe_glob (v := .int 4) (by rfl) T.c_MAX_LETTERS ⟨_, rfl⟩)) (pe_one (pe_callB (kAll (K := K) rfl rfl) (by rfl) T.n_all (by decide +kernel) (pa_cons (pe_lc (own := [("sign", 1)]) (g := (gName 1)) rfl sc_is_name.nd (pi_str (pv 0)) (blkOk_by (N := ["value", "sign"]) (sc := defScope s_is_name) (by decide +kernel)) (fun _ _ _ _ _ => (pg_name (i := 1) sc_is_name.nd rfl (by first | exact Or.inl rfl | exact Or.inr rfl))) (fun _ _ _ _ _ => pts_nil) (fun _ _ _ _ _ => (pe_cmpR (kIn (K := K) rfl (hu65 hr)) (pv 1) (pe_glob (v := .str "abcdefghijklmnopqrstuvwxyz") (by rfl) T.c_LETTERS ⟨_, rfl⟩) (by rfl)))) pa_nil))))))), ?_⟩
    try dsimp only [cxOf]
    cases d with
    | str s =>
      have hs := p.str
      have hl : lenD (.str s) = some s.length := if_pos (by omega)
      exact (EvP.is (evp_andV (a := isStr (.str s)) (evp_isi (evp_var rfl r) (kit_str _)) (fun _ => evp_andV (evp_chain evp_int (evd_cb (eas1 (evp_var rfl r) eas_nil) (rc_len hl)) (fun _ => evp_int) rd_le (fun _ => rd_le)) fun _ =>
        evd_all (f := isLett) (evd_mapS (evp_var rfl r) (by omega) (fun _ => rfl) fun c Hm _ => evd_op (evp_var rfl (.str _)) evp_str rd_inSign))) rfl) H1 ex _ q
    | none => exact (EvP.is (evp_andV (a := isStr _) (b := false) (evp_isi (evp_var rfl r) (kit_str _)) (fun h => by cases h)) rfl) H1 ex _ q
    | bool _ => exact (EvP.is (evp_andV (a := isStr _) (b := false) (evp_isi (evp_var rfl r) (kit_str _)) (fun h => by cases h)) rfl) H1 ex _ q
    | int _ => exact (EvP.is (evp_andV (a := isStr _) (b := false) (evp_isi (evp_var rfl r) (kit_str _)) (fun h => by cases h)) rfl) H1 ex _ q
    | list _ => exact (EvP.is (evp_andV (a := isStr _) (b := false) (evp_isi (evp_var rfl r) (kit_str _)) (fun h => by cases h)) rfl) H1 ex _ q
    | tuple _ => exact (EvP.is (evp_andV (a := isStr _) (b := false) (evp_isi (evp_var rfl r) (kit_str _)) (fun h => by cases h)) rfl) H1 ex _ q
    | dict _ => exact (EvP.is (evp_andV (a := isStr _) (b := false) (evp_isi (evp_var rfl r) (kit_str _)) (fun h => by cases h)) rfl) H1 ex _ q
theorem ok_are_names (T : Tx K mg) : FnOk P w K mg base CX0 2 T.a_are_names T.d_are_names ["value"] (spD1 K Nice (fun d z => z = .bool (areNames d))) := by
  refine T.F_are_names.ok sc_are_names (fun vs H1 Q E h => ?_) (fun cdv A outer s H1 vs Q E hr h => ?_)
  · obtain ⟨H, v, d, rfl, _⟩ := h
    rfl
  · obtain ⟨H, v, d, rfl, ex, r, p, q⟩ := h
    refine ⟨_, (pss_one (ps_ret (pe_and (pe_callB (kIsi (K := K) rfl) (by rfl) T.n_isinstance (by decide +kernel) (pa_cons (pv 0) (pa_cons (pe_bltn (v := .ty "tuple") (by rfl) T.n_tuple (by decide +kernel) rfl) pa_nil))) (pe_one (pe_callB (kAll (K := K) rfl rfl) (by rfl) T.n_all (by decide +kernel) (pa_cons (pe_lc (own := [("one", 1)]) (g := (gName 1)) rfl sc_are_names.nd (kpTup (K := K) rfl (pv 0)) (blkOk_by (N := ["value", "one"]) (sc := defScope s_are_names) (by decide +kernel)) (fun _ _ _ _ _ => (pg_name (i := 1) sc_are_names.nd rfl (by first | exact Or.inl rfl | exact Or.inr rfl))) (fun _ _ _ _ _ => pts_nil) (fun _ _ _ _ _ => (pe_call (ok_is_name T) (hr.mono (by decide)) (by rfl) T.g_is_name T.F_is_name.kp T.b_is_name .nil pass0 (pa_cons (pv 1) pa_nil)))) pa_nil)))))), ?_⟩
    try dsimp only [cxOf]
    cases d with
    | tuple ds =>
      have hs := p.tup
      exact (EvP.is (evp_andV (a := isTup (.tuple ds)) (evp_isi (evp_var rfl r) (kit_tup _)) (fun _ => evd_all (f := okName) (evd_mapT (evp_var rfl r) (by omega) (fun _ => rfl) fun k d x Hm hk _ rx => evd_D1 (evp_var rfl rx) (hs.2 d (List.mem_of_getElem? hk))))) rfl) H1 ex _ q
    | none => exact (EvP.is (evp_andV (a := isTup _) (b := false) (evp_isi (evp_var rfl r) (kit_tup _)) (fun h => by cases h)) rfl) H1 ex _ q
    | bool _ => exact (EvP.is (evp_andV (a := isTup _) (b := false) (evp_isi (evp_var rfl r) (kit_tup _)) (fun h => by cases h)) rfl) H1 ex _ q
    | int _ => exact (EvP.is (evp_andV (a := isTup _) (b := false) (evp_isi (evp_var rfl r) (kit_tup _)) (fun h => by cases h)) rfl) H1 ex _ q
    | str _ => exact (EvP.is (evp_andV (a := isTup _) (b := false) (evp_isi (evp_var rfl r) (kit_tup _)) (fun h => by cases h)) rfl) H1 ex _ q
    | list _ => exact (EvP.is (evp_andV (a := isTup _) (b := false) (evp_isi (evp_var rfl r) (kit_tup _)) (fun h => by cases h)) rfl) H1 ex _ q
    | dict _ => exact (EvP.is (evp_andV (a := isTup _) (b := false) (evp_isi (evp_var rfl r) (kit_tup _)) (fun h => by cases h)) rfl) H1 ex _ q
theorem ok_is_ascending (T : Tx K mg) : FnOk P w K mg base CX0 1 T.a_is_ascending T.d_is_ascending ["items"] (spD1 K (fun d => ∃ ss : List Str, d = .tuple (ss.map .str) ∧ ss.length ≤ 1000) (fun d z => z = .bool (ascS (strsOf d)))) := by
  refine T.F_is_ascending.ok sc_is_ascending (fun vs H1 Q E h => ?_) (fun cdv A outer s H1 vs Q E hr h => ?_)
  · obtain ⟨H, v, d, rfl, _⟩ := h
    rfl
  · obtain ⟨H, v, d, rfl, ex, r, p, q⟩ := h
    refine ⟨_, (pss_one (ps_ret (pe_callB (kAll (K := K) rfl rfl) (by rfl) T.n_all (by decide +kernel) (pa_cons (pe_lc (own := [("one", 1), ("other", 2)]) (g := (gTup K 2 (gCons (gName 1) (gCons (gName 2) gNil)))) rfl sc_is_ascending.nd (kpZip (K := K) rfl (by rfl) T.n_zip (pa_cons (pv 0) (pa_cons (pe_slice (kSl (K := K) rfl) (pv 0) (po_some pe_int) po_none) pa_nil))) (blkOk_by (N := ["items", "one", "other"]) (sc := defScope s_is_ascending) (by decide +kernel)) (fun _ _ _ _ _ => (kgTup (K := K) rfl rfl (pgs_cons (pg_name (i := 1) sc_is_ascending.nd rfl (by first | exact Or.inl rfl | exact Or.inr rfl)) (pgs_cons (pg_name (i := 2) sc_is_ascending.nd rfl (by first | exact Or.inl rfl | exact Or.inr rfl)) pgs_nil)))) (fun _ _ _ _ _ => pts_nil) (fun _ _ _ _ _ => (pe_cmpR opLt (pv 1) (pv 2) (nomark _)))) pa_nil)))), ?_⟩
    try dsimp only [cxOf]
    obtain ⟨ss, rfl, hl⟩ := p
    have hl' : (ss.map PyData.str).length ≤ 100000 := by rw [List.length_map]; omega
    have hsl : cutG (ss.map PyData.str) (some ((1 : Nat) : Int)) none = (ss.drop 1).map .str := by rw [cutG_from, List.map_drop]
    refine (EvP.is (evd_all (f := ltD) (evd_mapZ (eas1 (evp_var rfl r) (eas1 (EvP.is (evd_sl (l := some 1) (u := none) (evp_var rfl r) (.inr ⟨rfl, rfl⟩) eo_c eo_none) (congrArg PyData.tuple hsl)) eas_nil)) (.inr ⟨rfl, rfl⟩) hl' (fun _ _ => rfl) ?_)) ?_) H1 ex _ q
    · intro a b x y Hm hm _ rx ry
      obtain ⟨h1, h2⟩ := List.of_mem_zip hm
      obtain ⟨s, _, rfl⟩ := List.mem_map.mp h1
      obtain ⟨t, _, rfl⟩ := List.mem_map.mp h2
      exact evd_op (evp_var rfl rx) (evp_var rfl ry) rd_ltT
    · rw [zip_strs]
      show PyData.bool _ = .bool (ascS ((ss.map PyData.str).map DL.strOf))
      rw [DL.strs_map]
      rfl
theorem ok_is_lot (T : Tx K mg) : FnOk P w K mg base CX0 3 T.a_is_lot T.d_is_lot ["value"] (spD1 K Nice (fun d z => z = .bool (isLot d))) := by
  refine T.F_is_lot.ok sc_is_lot (fun vs H1 Q E h => ?_) (fun cdv A outer s H1 vs Q E hr h => ?_)
  · obtain ⟨H, v, d, rfl, _⟩ := h
    rfl
  · obtain ⟨H, v, d, rfl, ex, r, p, q⟩ := h
    refine ⟨_, (pss_one (ps_ret (pe_and (pe_call (ok_are_names T) (hr.mono (by decide)) (by rfl) T.g_are_names T.F_are_names.kp T.b_are_names .nil pass0 (pa_cons (pv 0) pa_nil)) (pe_one (pe_call (ok_is_ascending T) (hr.mono (by decide)) (by rfl) T.g_is_ascending T.F_is_ascending.kp T.b_is_ascending .nil pass0 (pa_cons (pv 0) pa_nil)))))), ?_⟩
    try dsimp only [cxOf]
    refine (evp_andV (evd_D1 (evp_var rfl r) p) fun h => evd_D1 (evp_var rfl r) ?_) H1 ex _ q
    obtain ⟨ss, rfl⟩ := names_strs h
    have := p.tup.1
    rw [List.length_map] at this
    exact ⟨ss, rfl, this⟩
theorem ok_is_pair (T : Tx K mg) : FnOk P w K mg base CX0 4 T.a_is_pair T.d_is_pair ["value"] (spD1 K Nice (fun d z => z = .bool (isPair d))) := by
  refine T.F_is_pair.ok sc_is_pair (fun vs H1 Q E h => ?_) (fun cdv A outer s H1 vs Q E hr h => ?_)
  · obtain ⟨H, v, d, rfl, _⟩ := h
    rfl
  · obtain ⟨H, v, d, rfl, ex, r, p, q⟩ := h
    refine ⟨_, (pss_one (ps_ret (pe_and (pe_call (ok_is_lot T) (hr.mono (by decide)) (by rfl) T.g_is_lot T.F_is_lot.kp T.b_is_lot .nil pass0 (pa_cons (pv 0) pa_nil)) (pe_one (pe_cmpR (kEq (K := K) rfl (hu64 hr)) (pe_callB (kLen (K := K) rfl) (by rfl) T.n_len (by decide +kernel) (pa_cons (pv 0) pa_nil)) pe_int (nomark _)))))), ?_⟩
    try dsimp only [cxOf]
    refine (evp_andV (b := sizeIs d 2) (evd_D1 (evp_var rfl r) p) fun h => ?_) H1 ex _ q
    have h' : areNames d = true := (Bool.and_eq_true_iff.mp h).1
    obtain ⟨ss, rfl⟩ := names_strs h'
    refine EvP.is (evd_op (evd_cb (eas1 (evp_var rfl r) eas_nil) (rc_len rfl)) evp_int (rd_eqD rfl rfl)) ?_
    show PyData.bool (((ss.map PyData.str).length : Int) == 2) = .bool (decide _)
    rw [Bool.beq_eq_decide_eq]
theorem ok_is_space (T : Tx K mg) : FnOk P w K mg base CX0 3 T.a_is_space T.d_is_space ["value"] (spD1 K (fun _ => True) (fun d z => z = .bool (within d 1 2))) := by
  refine T.F_is_space.ok sc_is_space (fun vs H1 Q E h => ?_) (fun cdv A outer s H1 vs Q E hr h => ?_)
  · obtain ⟨H, v, d, rfl, _⟩ := h
    rfl
  · obtain ⟨H, v, d, rfl, ex, r, p, q⟩ := h
    refine ⟨_, (pss_one (ps_ret (pe_call (ok_is_within T) (hr.mono (by decide)) (by rfl) T.g_is_within T.F_is_within.kp T.b_is_within .nil pass0 (pa_cons (pv 0) (pa_cons pe_int (pa_cons pe_int pa_nil)))))), ?_⟩
    try dsimp only [cxOf]
    refine (EvP.weak (evd_D3 (evp_var rfl r) evp_int evp_int ⟨1, 2, rfl, rfl⟩) ?_) H1 ex _ q
    rintro z ⟨lo, hi, e1, e2, rfl⟩
    cases e1
    cases e2
    rfl
theorem ok__law_bag (T : Tx K mg) : FnOk P w K mg base CX0 1 T.a__law_bag T.d__law_bag ["_law_script", "_law_at"] (spNewBag K) := by
  refine T.F__law_bag.ok sc__law_bag (fun vs H1 Q E h => ?_) (fun cdv A outer s H1 vs Q E hr h => ?_)
  · obtain ⟨H, a, ns, n, rfl, _⟩ := h
    rfl
  · obtain ⟨H, a, ns, n, rfl, ex, hS, hl, h0, h1, q⟩ := h
    refine ⟨_, (pss_cons (ps_set (i := 2) sc__law_bag.nd rfl (by first | exact Or.inl rfl | exact Or.inr rfl) (pe_ifExp (pt_cmpR opLt (pv 1) (pe_callB (kLen (K := K) rfl) (by rfl) T.n_len (by decide +kernel) (pa_cons (pv 0) pa_nil)) (nomark _)) (pe_ix (kIx (K := K) rfl) (pv 0) (pv 1) (fun _ _ => rfl)) (pe_op (kAdd (K := K) rfl) (pe_op (kAdd (K := K) rfl) (pe_callB (kSum (K := K) rfl rfl) (by rfl) T.n_sum (by decide +kernel) (pa_cons (pe_slice (kSl (K := K) rfl) (pv 0) po_none (po_some pe_int)) pa_nil)) (pe_op (kMul (K := K) rfl) pe_int (pv 1))) pe_int)))
      (pss_cons (ps_set (i := 3) sc__law_bag.nd rfl (by first | exact Or.inl rfl | exact Or.inr rfl) (pe_op op_mod (pe_callTy call_int1 (by rfl) T.n_int (by decide +kernel) (pa_cons (pe_callB call_abs (by rfl) T.n_abs (by decide +kernel) (pa_cons (pv 2) pa_nil)) pa_nil)) (pe_op op_powW (pe_op op_powW pe_int pe_int) pe_int)))
      (pss_cons (ps_set (i := 4) sc__law_bag.nd rfl (by first | exact Or.inl rfl | exact Or.inr rfl) (pe_op (kAdd (K := K) rfl) (pe_op (kAdd (K := K) rfl) (pe_op (kAdd (K := K) rfl) (pe_op (kMul (K := K) rfl) (pe_op op_mod (pe_callTy call_int1 (by rfl) T.n_int (by decide +kernel) (pa_cons (pv 3) pa_nil)) pe_int) pe_int) (pe_op (kMul (K := K) rfl) pe_int (pv 1))) (pe_op (kMul (K := K) rfl) pe_int (pe_callTy call_int1 (by rfl) T.n_int (by decide +kernel) (pa_cons (pe_cmpR opLt (pv 2) pe_int (nomark _)) pa_nil)))) pe_int))
      (pss_one (ps_ret (pe_shut (pe_lst (pa_cons (pe_callB (call_max2 rfl) (by rfl) T.n_max (by decide +kernel) (pa_cons pe_int (pa_cons (pe_op op_sub (pv 3) (pe_op op_powW pe_int pe_int)) pa_nil))) (pa_cons (pe_op op_mod (pe_callTy call_int1 (by rfl) T.n_int (by decide +kernel) (pa_cons (pv 4) pa_nil)) pe_int) (pa_cons pe_int pa_nil)))))))))), ?_⟩
    try dsimp only [cxOf]
    have rs : Rp K H (.ref a) (.list (ns.map .int)) := .lst hS RpAll.of_ints
    have ri : Rp K H (.int n) (.int n) := .int n
    have lenE : ∀ {σ : L2.St} {i : Nat}, σ[i]? = some (some (.ref a)) → EvD K (tCB (rLen K) (tCons (tVar i) tNil)) σ H (.int (ns.length : Int)) := fun {σ i} hi =>
      evd_cb (eas1 (evp_var hi rs) eas_nil) (rc_len (by show some (ns.map PyData.int).length = _; rw [List.length_map]))
    refine st_set (K := K) (P := fun d => ∃ i, d = .int i) (evp_if (etp_test (evd_op (evp_var rfl ri) (lenE rfl) rd_lt)) (fun hb => ?_) (fun hb => ?_)) ex fun v d Hk H2 g r p => ?_
    · have hb' := of_decide_eq_true hb
      refine EvP.weak (evd_op (evp_var rfl rs) (evp_var rfl ri) (rd_ix (d := .int (ns.getD n.toNat 0)) (.inl rfl) ?_)) fun d e => ⟨_, e⟩
      have e1 : n = ((n.toNat : Nat) : Int) := by omega
      rw [e1]
      refine atI_nat (j := n.toNat) ?_
      rw [List.getElem?_map, List.getD_eq_getElem?_getD]
      rw [show (((n.toNat : Nat) : Int)).toNat = n.toNat from rfl, List.getElem?_eq_getElem (show n.toNat < ns.length by omega)]
      rfl
    · refine EvP.weak (evd_op (evd_op (evd_cb (eas1 (EvP.is (evd_sl (l := none) (u := some 1) (ds := ns.map .int) (evp_var rfl rs) (.inl ⟨rfl, rfl⟩) eo_none eo_c) (d2 := .list ((ns.take 1).map .int)) ?_) eas_nil) rc_sum) (evd_op evp_int (evp_var rfl ri) (rd_mul (.of_left (by decide)))) rd_add) evp_int rd_add) fun d e => ⟨_, e⟩
      show PyData.list (cutG (ns.map .int) none (some ((1 : Nat) : Int))) = _
      rw [cutG_to, List.map_take]
    obtain ⟨c, rfl⟩ := p
    have ri2 := ri.mono g.known
    refine st_set (evd_op (evd_cb (eas1 (evd_cb (eas1 (evp_var rfl r) eas_nil) rc_abs) eas_nil) rc_int) (evd_op (evd_op evp_int evp_int (rd_pow ⟨by decide, by decide⟩)) evp_int (rd_pow ⟨by decide, by decide +kernel⟩)) (rd_I (by decide +kernel))) g.sub fun v2 d2 Hk2 H3 g2 r2 p2 => ?_
    subst p2
    have mk : ∀ m : Int, 0 ≤ m % 2305843009213693669 ∧ m % 2305843009213693669 < 2305843009213693669 := fun m => ⟨Int.emod_nonneg _ (by decide), Int.emod_lt_of_pos _ (by decide)⟩
    refine st_set (evd_op (evd_op (evd_op (evd_op (evd_op (evd_cb (eas1 (evp_var rfl r2) eas_nil) rc_int) evp_int (rd_I (by decide))) evp_int (rd_mul (.of_right (by decide)))) (evd_op evp_int (evp_var rfl (ri2.mono g2.known)) (rd_mul (.of_left (by decide)))) rd_add)
      (evd_op evp_int (evd_cb (eas1 (evd_op (evp_var rfl (r.mono g2.known)) evp_int rd_lt) eas_nil) rc_intB) (rd_mul (.of_left (by decide)))) rd_add) evp_int rd_add) g2.sub fun v3 d3 Hk3 H4 g3 r3 p3 => ?_
    subst p3
    exact st_retBag (eas1 (evd_cb (eas1 evp_int (eas1 (evd_op (evp_var rfl (r2.mono g3.known)) (evd_op evp_int evp_int (rd_pow ⟨by decide, by decide⟩)) rd_I0) eas_nil)) rc_max2)
      (eas1 (evd_op (evd_cb (eas1 (evp_var rfl r3) eas_nil) rc_int) evp_int (rd_I (by decide))) (eas1 evp_int eas_nil))) g3.sub fun p Hk4 H5 g4 hp =>
      q p _ _ ((g.trans (g2.trans g3)).trans g4) hp
theorem ok__law_draw (T : Tx K mg) : FnOk P w K mg base CX0 1 T.a__law_draw T.d__law_draw ["_law_bag_here", "_law_total"] (spB1 K drawPre drawPost) := by
  refine T.F__law_draw.ok sc__law_draw (fun vs H1 Q E h => ?_) (fun cdv A outer s H1 vs Q E hr h => ?_)
  · obtain ⟨H, b, v, d, rfl, _⟩ := h
    rfl
  · obtain ⟨H, b, v, d, rfl, ex, hb, r, p, q⟩ := h
    refine ⟨_, (pss_bag (pss_cons (ps_if (pt_cmpR opGt (pe_ix (kIx (K := K) rfl) (pv 0) pe_int (fun _ _ => rfl)) pe_int (nomark _)) (pss_cons (ps_set (i := 2) sc__law_draw.nd rfl (by first | exact Or.inl rfl | exact Or.inr rfl) (pe_op op_mod (pe_callTy call_int1 (by rfl) T.n_int (by decide +kernel) (pa_cons (pe_ix (kIx (K := K) rfl) (pv 0) pe_int (fun _ _ => rfl)) pa_nil)) (pv 1)))
      (pss_cons (ps_asg (pe_op op_fdivW (pe_ix (kIx (K := K) rfl) (pv 0) pe_int (fun _ _ => rfl)) (pv 1)) (pg_sub (pv 0) pe_int set_list))
      (pss_one (ps_ret (pv 2))))) pss_nil)
      (pss_cons (ps_asg (pe_op (kAdd (K := K) rfl) (pe_ix (kIx (K := K) rfl) (pv 0) pe_int (fun _ _ => rfl)) pe_int) (pg_sub (pv 0) pe_int set_list))
      (pss_cons (ps_set (i := 3) sc__law_draw.nd rfl (by first | exact Or.inl rfl | exact Or.inr rfl) (pe_op op_mod (pe_callTy call_int1 (by rfl) T.n_int (by decide +kernel) (pa_cons (pe_op (kAdd (K := K) rfl) (pe_ix (kIx (K := K) rfl) (pv 0) pe_int (fun _ _ => rfl)) (pe_op (kMul (K := K) rfl) pe_int (pe_ix (kIx (K := K) rfl) (pv 0) pe_int (fun _ _ => rfl)))) pa_nil)) pe_int))
      (pss_cons (ps_set (i := 4) sc__law_draw.nd rfl (by first | exact Or.inl rfl | exact Or.inr rfl) (pe_op (kAdd (K := K) rfl) (pe_op (kMul (K := K) rfl) (pe_op op_mod (pe_callTy call_int1 (by rfl) T.n_int (by decide +kernel) (pa_cons (pe_op (kMul (K := K) rfl) (pv 3) (pv 3)) pa_nil)) pe_int) (pv 3)) (pe_op (kMul (K := K) rfl) pe_int (pe_ix (kIx (K := K) rfl) (pv 0) pe_int (fun _ _ => rfl)))))
      (pss_one (ps_ret (pe_op op_mod (pe_callTy call_int1 (by rfl) T.n_int (by decide +kernel) (pa_cons (pe_op op_fdivW (pe_op op_mod (pe_callTy call_int1 (by rfl) T.n_int (by decide +kernel) (pa_cons (pv 4) pa_nil)) pe_int) pe_int) pa_nil)) (pv 1))))))))), ?_⟩
    try dsimp only [cxOf]
    obtain ⟨n, rfl, hn, hn2⟩ := p
    have rn := r
    cases r
    refine ⟨b, ex _ _ hb, fun x y z => ?_⟩
    have e0 : Ex (upd H b (three x y z)) (upd H1 b (three x y z)) := ex_upd ex b _
    have rb : Rp K (upd H b (three x y z)) (.ref b) (.list [.int x, .int y, .int z]) := .lst (sq_of upd_same) (.cons (.int x) (.cons (.int y) (.cons (.int z) .nil)))
    have fin : ∀ (H3 : Hp), Ex (upd H1 b (three x y z)) H3 → Grow H H1 H (upd H3 b (BagO b)) := fun H3 e3 => bag_grow ex (ex _ _ hb) e3
    have fin2 : ∀ (H3 : Hp) (o : HO), Ex (upd H1 b (three x y z)) H3 → Grow H H1 H (upd (upd H3 b o) b (BagO b)) := fun H3 o e3 => by
      rw [upd_upd]
      exact fin H3 e3
    have rem : ∀ m : Int, 0 ≤ m % n ∧ m % n < n := fun m => ⟨Int.emod_nonneg _ (by omega), Int.emod_lt_of_pos _ hn⟩
    have dv : CDivW x n := ⟨hn, Nat.lt_trans hn2 (by decide)⟩
    refine st_when (etp_test (evd_op (evd_op (evp_var rfl rb) evp_int (rd_ix (d := .int x) (.inl rfl) rfl)) evp_int rd_gt)) e0 (fun hx Hk H2 g => ?_) (fun hx Hk H2 g => ?_)
    · refine st_set (evd_op (evd_cb (eas1 (evd_op (evp_var rfl (rb.mono g.known)) evp_int (rd_ix (d := .int x) (.inl rfl) rfl)) eas_nil) rc_int) (evp_var rfl (.int n)) (rd_I hn)) g.sub fun v2 d2 Hk2 H3 g2 r2 p2 => ?_
      subst p2
      cases r2
      refine (evd_op (evd_op (evp_var rfl (rb.mono (g.trans g2).known)) evp_int (rd_ix (d := .int x) (.inl rfl) rfl)) (evp_var rfl (.int n)) (rd_I dv)) H3 g2.sub _ fun v3 d3 Hk3 H4 g3 r3 p3 => ?_
      subst p3
      cases r3
      have e4 : Ex (upd H1 b (three x y z)) H4 := ((g.trans g2).trans g3).all
      refine ⟨_, rfl, b, _, 0, 0, rfl, rfl, e4 _ _ upd_same, rfl, ?_⟩
      refine ⟨_, rfl, _, _, _, upd_same, ?_⟩
      exact q _ (.int (x % n)) _ _ (fin2 H4 _ e4) (.int _) ⟨_, n, rfl, rfl, rem x⟩
    · -- bag[2] = bag[2] + 1
      refine (evd_op (evd_op (evp_var rfl (rb.mono g.known)) evp_int (rd_ix (d := .int z) (.inl rfl) rfl)) evp_int rd_add) H2 g.sub _ fun v2 d2 Hk2 H3 g2 r2 p2 => ?_
      subst p2
      cases r2
      have e3 : Ex (upd H1 b (three x y z)) H3 := (g.trans g2).all
      refine ⟨_, rfl, b, _, 2, 2, rfl, rfl, e3 _ _ upd_same, rfl, ?_⟩
      have e4 : Ex (upd H b (three x y (z + 1))) (upd H3 b (.lst ([V.int x, V.int y, V.int z].set 2 (.int (z + 1))))) := fun a o h => by
        by_cases ha : a = b
        · subst ha
          rw [upd_same] at h ⊢
          exact h
        · rw [upd_ne ha] at h ⊢
          exact e3 a o (by rw [upd_ne ha]; exact ex a o h)
      have rb2 : Rp K (upd H b (three x y (z + 1))) (.ref b) (.list [.int x, .int y, .int (z + 1)]) := .lst (sq_of upd_same) (.cons (.int x) (.cons (.int y) (.cons (.int _) .nil)))
      refine st_set (evd_op (evd_cb (eas1 (evd_op (evd_op (evp_var rfl rb2) evp_int (rd_ix (d := .int y) (.inl rfl) rfl)) (evd_op evp_int (evd_op (evp_var rfl rb2) evp_int (rd_ix (d := .int (z + 1)) (.inl rfl) rfl)) (rd_mul (.of_left (by decide)))) rd_add) eas_nil) rc_int) evp_int (rd_I (by decide))) e4 fun v5 d5 Hk5 H5 g5 r5 p5 => ?_
      subst p5
      cases r5
      generalize e1 : (y + 1048613 * (z + 1)) % 2305843009213693951 = one
      have h1 : -(2 ^ 64) < one ∧ one < 2 ^ 64 := by
        have a := Int.emod_nonneg (y + 1048613 * (z + 1)) (show (2305843009213693951 : Int) ≠ 0 by decide)
        have c := Int.emod_lt_of_pos (y + 1048613 * (z + 1)) (show (0 : Int) < 2305843009213693951 by decide)
        constructor <;> omega
      have ok1 : ∀ i, IntMulOk one i := fun i => .of_left (PySem.intBits_le_64 h1.1 h1.2)
      have ok2 : ∀ i, IntMulOk i one := fun i => .of_right (PySem.intBits_le_64 h1.1 h1.2)
      refine st_set (evd_op (evd_op (evd_op (evd_cb (eas1 (evd_op (evp_var rfl (.int one)) (evp_var rfl (.int one)) (rd_mul (ok1 _))) eas_nil) rc_int) evp_int (rd_I (by decide))) (evp_var rfl (.int one)) (rd_mul (ok2 _)))
        (evd_op evp_int (evd_op (evp_var rfl (rb2.mono g5.known)) evp_int (rd_ix (d := .int (z + 1)) (.inl rfl) rfl)) (rd_mul (.of_left (by decide)))) rd_add) g5.sub fun v6 d6 Hk6 H6 g6 r6 p6 => ?_
      subst p6
      refine st_ret (evd_op (evd_cb (eas1 (evd_op (evd_op (evd_cb (eas1 (evp_var rfl r6) eas_nil) rc_int) evp_int (rd_I (by decide))) evp_int (rd_I ⟨by decide, by decide⟩)) eas_nil) rc_int) (evp_var rfl (.int n)) (rd_I hn)) g6.sub fun v7 d7 Hk7 H7 g7 r7 p7 => ?_
      subst p7
      cases r7
      have e7 := ((g5.trans g6).trans g7).all
      refine ⟨_, _, _, e7 _ _ upd_same, ?_⟩
      refine q _ _ H _ ?_ (.int _) ⟨_, n, rfl, rfl, rem _⟩
      exact bag_grow ex (ex _ _ hb) ((ex_upd2 e3 _).trans e7)
theorem ok__law_one_of (T : Tx K mg) : FnOk P w K mg base CX0 2 T.a__law_one_of T.d__law_one_of ["_law_bag_here", "_law_items"] (spB1 K pickPre pickPost) := by
  refine T.F__law_one_of.ok sc__law_one_of (fun vs H1 Q E h => ?_) (fun cdv A outer s H1 vs Q E hr h => ?_)
  · obtain ⟨H, b, v, d, rfl, _⟩ := h
    rfl
  · obtain ⟨H, b, v, d, rfl, ex, hb, r, p, q⟩ := h
    refine ⟨_, (pss_one (ps_ret (pe_ix (kIx (K := K) rfl) (pv 1) (pe_call (ok__law_draw T) (hr.mono (by decide)) (by rfl) T.g__law_draw T.F__law_draw.kp T.b__law_draw .nil pass0 (pa_cons (pv 0) (pa_cons (pe_callB (kLen (K := K) rfl) (by rfl) T.n_len (by decide +kernel) (pa_cons (pv 1) pa_nil)) pa_nil))) (fun _ _ => rfl)))), ?_⟩
    try dsimp only [cxOf]
    obtain ⟨h0, h1⟩ := p
    refine st_ret (evp_op (evp_var rfl r) (evd_B1 rfl hb (evd_cb (eas1 (evp_var rfl r) eas_nil) (rc_len (items_len h0 h1))) ⟨_, rfl, ?_, ?_⟩) ?_) ex q
    · have := items_pos h0
      omega
    · exact Nat.lt_of_le_of_lt (log2_small h1) (by decide)
    · rintro d1 d2 rfl ⟨i, m, rfl, e, hi0, hi1⟩
      cases e
      exact rd_pick h0 h1 hi0 hi1

theorem pow_add10 (a b : Nat) : (10 : Int) ^ a * 10 ^ b = 10 ^ (a + b) := (Int.pow_add 10 a b).symm

theorem ok__law_power (T : Tx K mg) : FnOk P w K mg base CX0 1 T.a__law_power T.d__law_power ["_law_many"] (spD1 K (fun d => ∃ n : Int, d = .int n ∧ 0 ≤ n ∧ n ≤ 2200) (fun d z => ∃ n : Int, d = .int n ∧ z = .int (10 ^ n.toNat))) := by
  refine T.F__law_power.ok sc__law_power (fun vs H1 Q E h => ?_) (fun cdv A outer s H1 vs Q E hr h => ?_)
  · obtain ⟨H, v, d, rfl, _⟩ := h
    rfl
  · obtain ⟨H, v, d, rfl, ex, r, p, q⟩ := h
    refine ⟨_, (pss_cons (ps_set (i := 1) sc__law_power.nd rfl (by first | exact Or.inl rfl | exact Or.inr rfl) pe_int)
      (pss_cons (ps_for PassesOwn.never rfl (pi_range1 (by rfl) T.n_range (pa_cons (pe_op op_fdivW (pv 0) pe_int) pa_nil)) (pg_name (i := 2) sc__law_power.nd rfl (by first | exact Or.inl rfl | exact Or.inr rfl)) (pss_one (ps_set (i := 1) sc__law_power.nd rfl (by first | exact Or.inl rfl | exact Or.inr rfl) (pe_op (kMul (K := K) rfl) (pv 1) (pe_op op_powW pe_int pe_int)))))
      (pss_cons (ps_for PassesOwn.never rfl (pi_range1 (by rfl) T.n_range (pa_cons (pe_op op_sub (pv 0) (pe_op (kMul (K := K) rfl) (pe_op op_fdivW (pv 0) pe_int) pe_int)) pa_nil)) (pg_name (i := 2) sc__law_power.nd rfl (by first | exact Or.inl rfl | exact Or.inr rfl)) (pss_one (ps_set (i := 1) sc__law_power.nd rfl (by first | exact Or.inl rfl | exact Or.inr rfl) (pe_op (kMul (K := K) rfl) (pv 1) pe_int))))
      (pss_one (ps_ret (pv 1)))))), ?_⟩
    try dsimp only [cxOf]
    obtain ⟨n, rfl, h0, h1⟩ := p
    cases r
    refine st_set (K := K) evp_int ex fun v1 d1 Hk1 H2 g1 r1 p1 => ?_
    subst p1
    cases r1
    refine st_forS (walkd_range (K := K) (j := n / 50) (eas1 (evd_op (evp_var rfl (.int n)) evp_int (rd_I ⟨by decide, by decide⟩)) eas_nil) ⟨by omega, by omega⟩) g1.sub
      (fun i σ _ _ => ∃ t, σ = [some (V.int n), some (V.int (10 ^ (50 * i))), t]) (fun Hk H2 g => ⟨none, rfl⟩) ?_ ?_
    · rintro Hb Hc i x σ2 Hm H3 Hm' H4 gb hi gm ⟨t, rfl⟩ g4 rfl
      refine gn ?_
      refine st_setL (K := K) (evd_op (evp_var rfl (.int (10 ^ (50 * i)))) (evd_op evp_int evp_int (rd_pow ⟨by decide, by decide⟩)) (rd_mul (pow10_ok (a := 50 * i) (b := 50) (by omega)))) g4.sub fun v d Hk H5 g5 r5 p5 => ?_
      subst p5
      cases r5
      refine ⟨Hk, (gm.trans g4).trans g5, some (.int i), ?_⟩
      have e : (10 : Int) ^ (50 * i) * 10 ^ (50 : Int).toNat = 10 ^ (50 * (i + 1)) := pow_add10 (50 * i) 50
      rw [e]
      rfl
    · rintro Hb Hc σ2 Hm H3 gb gm ⟨t, rfl⟩
      have G := (g1.trans gb).trans gm
      refine st_forS (walkd_range (K := K) (j := n - n / 50 * 50) (eas1 (evd_op (evp_var rfl (.int n)) (evd_op (evd_op (evp_var rfl (.int n)) evp_int (rd_I ⟨by decide, by decide⟩)) evp_int (rd_mul (.of_right (by decide)))) rd_I0) eas_nil) ⟨by omega, by omega⟩) G.sub
        (fun i σ _ _ => ∃ t, σ = [some (V.int n), some (V.int (10 ^ (50 * (n / 50).toNat + i))), t]) (fun Hk H2 g => ⟨t, rfl⟩) ?_ ?_
      · rintro Hb2 Hc2 i x σ2 Hm2 H5 Hm' H4 gb2 hi gm2 ⟨t, rfl⟩ g4 rfl
        refine gn ?_
        refine st_setL (K := K) (evd_op (evp_var rfl (.int (10 ^ (50 * (n / 50).toNat + i)))) (evp_int (i := 10)) (rd_mul (.of_right (by decide)))) g4.sub fun v d Hk H6 g5 r5 p5 => ?_
        subst p5
        cases r5
        refine ⟨Hk, (gm2.trans g4).trans g5, some (.int i), ?_⟩
        have e : (10 : Int) ^ (50 * (n / 50).toNat + i) * 10 = 10 ^ (50 * (n / 50).toNat + (i + 1)) := pow_add10 _ 1
        rw [e]
        rfl
      · rintro Hb2 Hc2 σ2 Hm2 H5 gb2 gm2 ⟨t, rfl⟩
        refine st_ret (K := K) (evp_var rfl (.int _)) gm2.sub fun u z Hk9 H9 g9 r9 p9 => q u z Hk9 H9 (((G.trans gb2).trans gm2).trans g9) r9 ⟨n, rfl, ?_⟩
        rw [p9]
        congr 2
        omega

def BASE : Str := "abcxyzabcxyzabcxyzmnopqrstuvwdefghijkl"
theorem base_add : ∀ x ∈ ([.str "A", .str "Z", .str "0", .str "_", .str " ", .str "-", .str "{", .str "`", .str "."] : List PyData), ∃ s : Str, x = .str s ∧ (BASE ++ s).length = 39 ∧ PyData.strOk (BASE ++ s) = true := by
  intro x hx
  simp only [List.mem_cons, List.not_mem_nil, or_false] at hx
  rcases hx with rfl | rfl | rfl | rfl | rfl | rfl | rfl | rfl | rfl <;> exact ⟨_, rfl, by decide +kernel, by decide +kernel⟩

theorem ok__law_word (T : Tx K mg) : FnOk P w K mg base CX0 3 T.a__law_word T.d__law_word ["_law_bag_here"] (spB0 K (fun z => ∃ s : Str, z = .str s ∧ s.length ≤ 6 ∧ PyData.strOk s = true)) := by
  refine T.F__law_word.ok sc__law_word (fun vs H1 Q E h => ?_) (fun cdv A outer s H1 vs Q E hr h => ?_)
  · obtain ⟨H, b, rfl, _⟩ := h
    rfl
  · obtain ⟨H, b, rfl, ex, hb, q⟩ := h
    refine ⟨_, (pss_cons (ps_set (i := 1) sc__law_word.nd rfl (by first | exact Or.inl rfl | exact Or.inr rfl) (pe_op (kAdd (K := K) rfl) pe_str (pe_call (ok__law_one_of T) (hr.mono (by decide)) (by rfl) T.g__law_one_of T.F__law_one_of.kp T.b__law_one_of .nil pass0 (pa_cons (pv 0) (pa_cons (pe_lst (pa_cons pe_str (pa_cons pe_str (pa_cons pe_str (pa_cons pe_str (pa_cons pe_str (pa_cons pe_str (pa_cons pe_str (pa_cons pe_str (pa_cons pe_str pa_nil)))))))))) pa_nil)))))
      (pss_one (ps_ret (kJoin (K := K) rfl pe_str (pe_lc (own := [("_law_turn", 2)]) (g := (gName 2)) rfl sc__law_word.nd (pi_range1 (by rfl) T.n_range (pa_cons (pe_call (ok__law_draw T) (hr.mono (by decide)) (by rfl) T.g__law_draw T.F__law_draw.kp T.b__law_draw .nil pass0 (pa_cons (pv 0) (pa_cons pe_int pa_nil))) pa_nil)) (blkOk_by (N := ["_law_bag_here", "_law_signs", "_law_turn"]) (sc := defScope s__law_word) (by decide +kernel)) (fun _ _ _ _ _ => (pg_name (i := 2) sc__law_word.nd rfl (by first | exact Or.inl rfl | exact Or.inr rfl))) (fun _ _ _ _ _ => pts_nil) (fun _ _ _ _ _ => (pe_call (ok__law_one_of T) (hr.mono (by decide)) (by rfl) T.g__law_one_of T.F__law_one_of.kp T.b__law_one_of .nil pass0 (pa_cons (pv 0) (pa_cons (pv 1) pa_nil))))))))), ?_⟩
    try dsimp only [cxOf]
    refine st_set (P := fun z => ∃ s : Str, z = .str s ∧ s.length = 39 ∧ PyData.strOk s = true) (evp_op (P1 := (· = .str BASE)) evp_str (evp_pick rfl hb (evd_lst (eas1 evp_str (eas1 evp_str (eas1 evp_str (eas1 evp_str (eas1 evp_str (eas1 evp_str (eas1 evp_str (eas1 evp_str (eas1 evp_str eas_nil))))))))))
      (by intro h; cases h) (by show 9 ≤ 100000; decide)) ?_) ex fun v d Hk H2 g r p => ?_
    · rintro d1 d2 rfl h2
      obtain ⟨s, rfl, hl, ho⟩ := base_add d2 h2
      exact RD.weak (rd_addS (by rw [← Str.length_append, hl]; decide)) fun z e => ⟨_, e, hl, ho⟩
    · obtain ⟨s, rfl, hl, ho⟩ := p
      have hit : (items (.str s)).length = 39 := by rw [items_len_str, hl]
      refine st_ret (evp_join evp_str (evp_mapR (N := 6) (evp_drawn rfl (g.known _ _ hb) evp_int (by decide) (by decide)) ?_ (by decide) (fun _ => rfl) fun k Hm em => evp_pick rfl (em _ _ (g.known _ _ hb)) (evp_var rfl (r.mono em)) ?_ (by rw [hit]; decide)) ?_) g.sub fun u z Hk3 H3 g3 r3 p3 => q u z Hk3 H3 (g.trans g3) r3 p3
      · rintro z ⟨n, rfl, h0, h1⟩
        exact ⟨n, rfl, h0, by omega⟩
      · intro h
        rw [h] at hit
        cases hit
      · rintro z ⟨ds, rfl, hn, _, hx⟩
        obtain ⟨ys, rfl, hy, h1⟩ := signs_of ho hx
        rw [List.length_map] at hn
        have hs : (ys.map (·.length)).sum ≤ 6 := by
          have := sum_le_mul (ns := ys.map (·.length)) (m := 1) fun n hn => by
            obtain ⟨y, hy, rfl⟩ := List.mem_map.mp hn
            rw [(h1 y hy).1]
            exact Nat.le_refl 1
          rw [List.length_map] at this
          omega
        refine ⟨ys, rfl, ?_, _, rfl, Nat.le_trans join_len hs, join_strOk fun y hy => (h1 y hy).2⟩
        show _ + ys.length * 0 ≤ _
        omega

theorem fine_all {L : List PyData} (h : L.all fineB = true) : ∀ z, z ∈ L → Fine z := fun z hz => Fine.of (List.all_eq_true.mp h z hz)
theorem fine_str {s : Str} (h : s.length ≤ 1000) (ho : PyData.strOk s = true) : Fine (.str s) := ⟨.inl (by simp [tidy, h, ho]), Nat.zero_le _⟩
theorem fine_strs {ss : List Str} (hl : ss.length ≤ 1000) (h : ∀ s ∈ ss, s.length ≤ 1000 ∧ PyData.strOk s = true) : Fine (.tuple (ss.map .str)) := by
  refine ⟨.inl ?_, ?_⟩
  · have : tidyAll (ss.map .str) = true := tidyAll_of fun d hd => by
      obtain ⟨s, hs, rfl⟩ := List.mem_map.mp hd
      have := h s hs
      simp [tidy, this.1, this.2]
    simp [tidy, this, hl]
  · show PyData.depthAll (ss.map .str) + 1 ≤ 10
    have := depthAll_le (ds := ss.map .str) (n := 0) fun d hd => by
      obtain ⟨s, hs, rfl⟩ := List.mem_map.mp hd
      exact Nat.le_refl 0
    omega
theorem drawn_strs {ds : List PyData} {Pz : PyData → Prop} (h : ∀ x ∈ ds, Pz x) (w : ∀ x, Pz x → ∃ s : Str, x = .str s ∧ s.length ≤ 1000 ∧ PyData.strOk s = true) :
    ∃ ss : List Str, ds = ss.map .str ∧ ∀ s ∈ ss, s.length ≤ 1000 ∧ PyData.strOk s = true := by
  obtain ⟨ss, rfl⟩ := all_strs fun x hx => let ⟨s, e, _⟩ := w x (h x hx); ⟨s, e⟩
  refine ⟨ss, rfl, fun s hs => ?_⟩
  obtain ⟨t, e, h1, h2⟩ := w _ (h _ (List.mem_map.mpr ⟨s, hs, rfl⟩))
  cases e
  exact ⟨h1, h2⟩
def strB (z : PyData) : Bool := match z with
  | .str s => decide (s.length ≤ 1000) && PyData.strOk s
  | _ => false
theorem strB_all {L : List PyData} (h : L.all strB = true) : ∀ z, z ∈ L → ∃ s : Str, z = .str s ∧ s.length ≤ 1000 ∧ PyData.strOk s = true := fun z hz => by
  have := List.all_eq_true.mp h z hz
  cases z with
  | str s =>
    rw [strB, Bool.and_eq_true, decide_eq_true_iff] at this
    exact ⟨s, rfl, this.1, this.2⟩
  | none => cases this
  | bool _ => cases this
  | int _ => cases this
  | list _ => cases this
  | tuple _ => cases this
  | dict _ => cases this

theorem ok__law_any (T : Tx K mg) : FnOk P w K mg base CX0 4 T.a__law_any T.d__law_any ["_law_bag_here"] (spB0 K Fine) := by
  refine T.F__law_any.ok sc__law_any (fun vs H1 Q E h => ?_) (fun cdv A outer s H1 vs Q E hr h => ?_)
  · obtain ⟨H, b, rfl, _⟩ := h
    rfl
  · obtain ⟨H, b, rfl, ex, hb, q⟩ := h
    refine ⟨_, (pss_cons (ps_set (i := 1) sc__law_any.nd rfl (by first | exact Or.inl rfl | exact Or.inr rfl) (pe_call (ok__law_draw T) (hr.mono (by decide)) (by rfl) T.g__law_draw T.F__law_draw.kp T.b__law_draw .nil pass0 (pa_cons (pv 0) (pa_cons pe_int pa_nil))))
      (pss_cons (ps_if (pt_cmpR (kEq (K := K) rfl (hu64 hr)) (pv 1) pe_int (nomark _)) (pss_one (ps_ret (pe_call (ok__law_word T) (hr.mono (by decide)) (by rfl) T.g__law_word T.F__law_word.kp T.b__law_word .nil pass0 (pa_cons (pv 0) pa_nil)))) pss_nil)
      (pss_cons (ps_if (pt_cmpR (kEq (K := K) rfl (hu64 hr)) (pv 1) pe_int (nomark _)) (pss_one (ps_ret (pe_callTy (kTup (K := K) rfl) (by rfl) T.n_tuple (by decide +kernel) (pa_cons (pe_lc (own := [("_law_turn", 2)]) (g := (gName 2)) rfl sc__law_any.nd (pi_range1 (by rfl) T.n_range (pa_cons (pe_call (ok__law_draw T) (hr.mono (by decide)) (by rfl) T.g__law_draw T.F__law_draw.kp T.b__law_draw .nil pass0 (pa_cons (pv 0) (pa_cons pe_int pa_nil))) pa_nil)) (blkOk_by (N := ["_law_bag_here", "_law_way", "_law_turn", "_law_digits"]) (sc := defScope s__law_any) (by decide +kernel)) (fun _ _ _ _ _ => (pg_name (i := 2) sc__law_any.nd rfl (by first | exact Or.inl rfl | exact Or.inr rfl))) (fun _ _ _ _ _ => pts_nil) (fun _ _ _ _ _ => (pe_call (ok__law_word T) (hr.mono (by decide)) (by rfl) T.g__law_word T.F__law_word.kp T.b__law_word .nil pass0 (pa_cons (pv 0) pa_nil)))) pa_nil)))) pss_nil)
      (pss_cons (ps_if (pt_cmpR (kEq (K := K) rfl (hu64 hr)) (pv 1) pe_int (nomark _)) (pss_one (ps_ret (pe_callTy (kTup (K := K) rfl) (by rfl) T.n_tuple (by decide +kernel) (pa_cons (pe_callB (kSortS (K := K) rfl) (by rfl) T.n_sorted (by decide +kernel) (pa_cons (pe_lc (own := [("_law_turn", 2)]) (g := (gName 2)) rfl sc__law_any.nd (pi_range1 (by rfl) T.n_range (pa_cons (pe_call (ok__law_draw T) (hr.mono (by decide)) (by rfl) T.g__law_draw T.F__law_draw.kp T.b__law_draw .nil pass0 (pa_cons (pv 0) (pa_cons pe_int pa_nil))) pa_nil)) (blkOk_by (N := ["_law_bag_here", "_law_way", "_law_turn", "_law_digits"]) (sc := defScope s__law_any) (by decide +kernel)) (fun _ _ _ _ _ => (pg_name (i := 2) sc__law_any.nd rfl (by first | exact Or.inl rfl | exact Or.inr rfl))) (fun _ _ _ _ _ => pts_nil) (fun _ _ _ _ _ => (pe_call (ok__law_one_of T) (hr.mono (by decide)) (by rfl) T.g__law_one_of T.F__law_one_of.kp T.b__law_one_of .nil pass0 (pa_cons (pv 0) (pa_cons (pe_lst (pa_cons pe_str (pa_cons pe_str (pa_cons pe_str (pa_cons pe_str (pa_cons pe_str (pa_cons pe_str (pa_cons pe_str pa_nil)))))))) pa_nil))))) pa_nil)) pa_nil)))) pss_nil)
      (pss_cons (ps_if (pt_cmpR (kEq (K := K) rfl (hu64 hr)) (pv 1) pe_int (nomark _)) (pss_one (ps_ret (pe_callTy (kTup (K := K) rfl) (by rfl) T.n_tuple (by decide +kernel) (pa_cons (pe_lc (own := [("_law_turn", 2)]) (g := (gName 2)) rfl sc__law_any.nd (pi_range1 (by rfl) T.n_range (pa_cons pe_int pa_nil)) (blkOk_by (N := ["_law_bag_here", "_law_way", "_law_turn", "_law_digits"]) (sc := defScope s__law_any) (by decide +kernel)) (fun _ _ _ _ _ => (pg_name (i := 2) sc__law_any.nd rfl (by first | exact Or.inl rfl | exact Or.inr rfl))) (fun _ _ _ _ _ => pts_nil) (fun _ _ _ _ _ => (pe_call (ok__law_one_of T) (hr.mono (by decide)) (by rfl) T.g__law_one_of T.F__law_one_of.kp T.b__law_one_of .nil pass0 (pa_cons (pv 0) (pa_cons (pe_lst (pa_cons pe_str (pa_cons pe_str (pa_cons pe_str (pa_cons pe_str (pa_cons pe_str (pa_cons pe_str pa_nil))))))) pa_nil))))) pa_nil)))) pss_nil)
      (pss_cons (ps_if (pt_cmpR (kEq (K := K) rfl (hu64 hr)) (pv 1) pe_int (nomark _)) (pss_one (ps_ret (pe_call (ok__law_one_of T) (hr.mono (by decide)) (by rfl) T.g__law_one_of T.F__law_one_of.kp T.b__law_one_of .nil pass0 (pa_cons (pv 0) (pa_cons (pe_lst (pa_cons pe_int (pa_cons pe_int (pa_cons pe_int (pa_cons pe_int (pa_cons (pe_un un_neg pe_int) (pa_cons (pe_un un_neg pe_int) (pa_cons (pe_op op_powW pe_int pe_int) (pa_cons pe_bl (pa_cons pe_bl (pa_cons pe_non pa_nil))))))))))) pa_nil))))) pss_nil)
      (pss_cons (ps_if (pt_cmpR (kEq (K := K) rfl (hu64 hr)) (pv 1) pe_int (nomark _)) (pss_cons (ps_set (i := 3) sc__law_any.nd rfl (by first | exact Or.inl rfl | exact Or.inr rfl) (pe_call (ok__law_one_of T) (hr.mono (by decide)) (by rfl) T.g__law_one_of T.F__law_one_of.kp T.b__law_one_of .nil pass0 (pa_cons (pv 0) (pa_cons (pe_lst (pa_cons pe_int (pa_cons pe_int (pa_cons pe_int (pa_cons pe_int pa_nil))))) pa_nil))))
      (pss_one (ps_ret (pe_op (kMul (K := K) rfl) (pe_call (ok__law_one_of T) (hr.mono (by decide)) (by rfl) T.g__law_one_of T.F__law_one_of.kp T.b__law_one_of .nil pass0 (pa_cons (pv 0) (pa_cons (pe_lst (pa_cons pe_int (pa_cons (pe_un un_neg pe_int) pa_nil))) pa_nil))) (pe_op op_sub (pe_call (ok__law_power T) (hr.mono (by decide)) (by rfl) T.g__law_power T.F__law_power.kp T.b__law_power .nil pass0 (pa_cons (pv 3) pa_nil)) (pe_call (ok__law_draw T) (hr.mono (by decide)) (by rfl) T.g__law_draw T.F__law_draw.kp T.b__law_draw .nil pass0 (pa_cons (pv 0) (pa_cons pe_int pa_nil)))))))) pss_nil)
      (pss_cons (ps_if (pt_cmpR (kEq (K := K) rfl (hu64 hr)) (pv 1) pe_int (nomark _)) (pss_one (ps_ret (pe_call (ok__law_one_of T) (hr.mono (by decide)) (by rfl) T.g__law_one_of T.F__law_one_of.kp T.b__law_one_of .nil pass0 (pa_cons (pv 0) (pa_cons (pe_lst (pa_cons (pe_lst (pa_cons pe_str (pa_cons pe_str pa_nil))) (pa_cons (pe_disp (pps_cons pe_str pe_int pps_nil) (by rfl) (by rfl) (fun z => by cases z) (by decide)) (pa_cons pe_dnewK (pa_cons (pe_lst pa_nil) (pa_cons (pe_tup (pa_cons pe_str (pa_cons pe_int pa_nil))) (pa_cons (pe_tup (pa_cons (pe_tup (pa_cons pe_str (pa_cons pe_str pa_nil))) (pa_cons pe_str pa_nil))) (pa_cons (pe_tup (pa_cons pe_non pa_nil)) (pa_cons (pe_tup (pa_cons pe_str (pa_cons (pe_lst (pa_cons pe_str pa_nil)) pa_nil))) (pa_cons (pe_tup (pa_cons (pe_tup pa_nil) (pa_cons (pe_tup pa_nil) pa_nil))) pa_nil)))))))))) pa_nil))))) pss_nil)
      (pss_one (ps_ret (pe_call (ok__law_one_of T) (hr.mono (by decide)) (by rfl) T.g__law_one_of T.F__law_one_of.kp T.b__law_one_of .nil pass0 (pa_cons (pv 0) (pa_cons (pe_lst (pa_cons pe_str (pa_cons (pe_tup pa_nil) (pa_cons pe_str (pa_cons pe_str (pa_cons (pe_tup (pa_cons pe_str pa_nil)) (pa_cons (pe_tup (pa_cons pe_str (pa_cons pe_str pa_nil))) (pa_cons (pe_tup (pa_cons pe_str (pa_cons pe_str pa_nil))) (pa_cons (pe_tup (pa_cons pe_str (pa_cons pe_str (pa_cons pe_str pa_nil)))) (pa_cons (pe_tup (pa_cons pe_str (pa_cons pe_str pa_nil))) (pa_cons pe_str pa_nil))))))))))) pa_nil))))))))))))), ?_⟩
    try dsimp only [cxOf]
    refine st_set (evp_drawn rfl hb evp_int (by decide) (by decide)) ex fun v d Hk0 H2 g0 r p => ?_
    obtain ⟨w, rfl, hw0, hw1⟩ := p
    cases r
    have e0 : Ex Hk0 H2 := g0.sub
    have hb0 := g0.known _ _ hb
    have G0 := g0
    refine st_when (etp_test (evd_op (evp_var rfl (.int w)) evp_int (rd_eqD rfl rfl))) e0 (fun _ Hk1 H3 g1 => ?_) (fun _ Hk1 H3 g1 => ?_)
    · exact st_ret (EvP.weak (evp_B0 rfl (g1.known _ _ hb0)) fun z ⟨s, e, hl, ho⟩ => by subst e; exact fine_str (by omega) ho) g1.sub fun u z Hk9 H9 g9 r9 p9 => q u z Hk9 H9 ((G0.trans g1).trans g9) r9 p9
    have e1 : Ex Hk1 H3 := g1.sub
    have hb1 := g1.known _ _ hb0
    have G1 := G0.trans g1
    refine st_when (etp_test (evd_op (evp_var rfl (.int w)) evp_int (rd_eqD rfl rfl))) e1 (fun _ Hk2 H4 g2 => ?_) (fun _ Hk2 H4 g2 => ?_)
    · have hbb := g2.known _ _ hb1
      refine st_ret (evp_cb1 (evp_mapR (N := 3) (evp_drawn rfl hbb evp_int (by decide) (by decide)) (fun d ⟨n, e, h0, h1⟩ => ⟨n, e, h0, by omega⟩) (by decide) (fun _ => rfl) fun k Hm em => evp_B0 rfl (em _ _ hbb)) ?_) g2.sub fun u z Hk9 H9 g9 r9 p9 => q u z Hk9 H9 ((G1.trans g2).trans g9) r9 p9
      rintro d ⟨ds, rfl, hl, _, hx⟩
      obtain ⟨ss, rfl, hs⟩ := drawn_strs hx fun x ⟨s, e, h1, h2⟩ => ⟨s, e, by omega, h2⟩
      rw [List.length_map] at hl
      exact RCD.weak (rc_tuple (.inl rfl)) fun z e => by subst e; exact fine_strs (by omega) hs
    have e2 : Ex Hk2 H4 := g2.sub
    have hb2 := g2.known _ _ hb1
    have G2 := G1.trans g2
    refine st_when (etp_test (evd_op (evp_var rfl (.int w)) evp_int (rd_eqD rfl rfl))) e2 (fun _ Hk3 H5 g3 => ?_) (fun _ Hk3 H5 g3 => ?_)
    · have hbb := g3.known _ _ hb2
      refine st_ret (evp_cb1 (P1 := fun d => ∃ ss : List Str, d = .list (ss.map .str) ∧ ss.length ≤ 3 ∧ ∀ s ∈ ss, s.length ≤ 1000 ∧ PyData.strOk s = true) (evp_cb1 (evp_mapR (N := 3) (evp_drawn rfl hbb evp_int (by decide) (by decide)) (fun d ⟨n, e, h0, h1⟩ => ⟨n, e, h0, by omega⟩) (by decide) (fun _ => rfl) fun k Hm em =>
        evp_pick rfl (em _ _ hbb) (evd_lst (eas1 evp_str (eas1 evp_str (eas1 evp_str (eas1 evp_str (eas1 evp_str (eas1 evp_str (eas1 evp_str eas_nil)))))))) (by intro h; cases h) (by show (List.length _) ≤ _; decide)) ?_) ?_) g3.sub fun u z Hk9 H9 g9 r9 p9 => q u z Hk9 H9 ((G2.trans g3).trans g9) r9 p9
      · rintro d ⟨ds, rfl, hl, _, hx⟩
        obtain ⟨ss, rfl, hs⟩ := drawn_strs hx (strB_all (by decide +kernel))
        rw [List.length_map] at hl
        refine RCD.weak (rc_sortedS (by omega)) fun z ⟨ts, e, hp, _⟩ => ⟨ts, e, ?_, fun s h => hs s (hp.mem_iff.mp h)⟩
        rw [hp.length_eq]
        omega
      · rintro d ⟨ss, rfl, hl, hs⟩
        exact RCD.weak (rc_tuple (.inl rfl)) fun z e => by subst e; exact fine_strs (by omega) hs
    have e3 : Ex Hk3 H5 := g3.sub
    have hb3 := g3.known _ _ hb2
    have G3 := G2.trans g3
    refine st_when (etp_test (evd_op (evp_var rfl (.int w)) evp_int (rd_eqD rfl rfl))) e3 (fun _ Hk4 H6 g4 => ?_) (fun _ Hk4 H6 g4 => ?_)
    · have hbb := g4.known _ _ hb3
      refine st_ret (evp_cb1 (evp_mapR (P0 := (· = .int 2)) (N := 2) evp_int (fun d e => ⟨2, e, by decide, by decide⟩) (by decide) (fun _ => rfl) fun k Hm em =>
        evp_pick rfl (em _ _ hbb) (evd_lst (eas1 evp_str (eas1 evp_str (eas1 evp_str (eas1 evp_str (eas1 evp_str (eas1 evp_str eas_nil))))))) (by intro h; cases h) (by show (List.length _) ≤ _; decide)) ?_) g4.sub fun u z Hk9 H9 g9 r9 p9 => q u z Hk9 H9 ((G3.trans g4).trans g9) r9 p9
      rintro d ⟨ds, rfl, hl, _, hx⟩
      obtain ⟨ss, rfl, hs⟩ := drawn_strs hx (strB_all (by decide +kernel))
      rw [List.length_map] at hl
      exact RCD.weak (rc_tuple (.inl rfl)) fun z e => by subst e; exact fine_strs (by omega) hs
    have e4 : Ex Hk4 H6 := g4.sub
    have hb4 := g4.known _ _ hb3
    have G4 := G3.trans g4
    refine st_when (etp_test (evd_op (evp_var rfl (.int w)) evp_int (rd_eqD rfl rfl))) e4 (fun _ Hk5 H7 g5 => ?_) (fun _ Hk5 H7 g5 => ?_)
    · have hbb := g5.known _ _ hb4
      exact st_ret (EvP.weak (evp_pick rfl hbb (evd_lst (eas1 evp_int (eas1 evp_int (eas1 evp_int (eas1 evp_int (eas1 (evd_neg evp_int) (eas1 (evd_neg evp_int) (eas1 (evd_op evp_int evp_int (rd_pow ⟨by decide, by decide⟩)) (eas1 evp_bl (eas1 evp_bl (eas1 evp_non eas_nil))))))))))) (by intro h; cases h) (by show (List.length _) ≤ _; decide)) (fine_all (by decide +kernel))) g5.sub fun u z Hk9 H9 g9 r9 p9 => q u z Hk9 H9 ((G4.trans g5).trans g9) r9 p9
    have e5 : Ex Hk5 H7 := g5.sub
    have hb5 := g5.known _ _ hb4
    have G5 := G4.trans g5
    refine st_when (etp_test (evd_op (evp_var rfl (.int w)) evp_int (rd_eqD rfl rfl))) e5 (fun _ Hk6 H8 g6 => ?_) (fun _ Hk6 H8 g6 => ?_)
    · have hbb := g6.known _ _ hb5
      refine st_set (P := fun z => ∃ n : Int, z = .int n ∧ 0 ≤ n ∧ n ≤ 2200) (EvP.weak (evp_pick rfl hbb (evd_lst (eas1 evp_int (eas1 evp_int (eas1 evp_int (eas1 evp_int eas_nil))))) (by intro h; cases h) (by show (List.length _) ≤ _; decide)) ?_) g6.sub fun v7 d7 Hk7 H17 g17 r7 p7 => ?_
      · intro z hz
        simp only [items, List.mem_cons, List.not_mem_nil, or_false] at hz
        rcases hz with rfl | rfl | rfl | rfl <;> exact ⟨_, rfl, by decide, by decide⟩
      · obtain ⟨n, rfl, h0, h1⟩ := p7
        have hb7 := g17.known _ _ hbb
        refine st_ret (evp_op (P1 := fun z => ∃ i : Int, z = .int i ∧ -2 < i ∧ i < 2) (P2 := fun z => ∃ i, z = .int i) (EvP.weak (evp_pick rfl hb7 (evd_lst (eas1 evp_int (eas1 (evd_neg evp_int) eas_nil))) (by intro h; cases h) (by show (List.length _) ≤ _; decide)) ?_)
          (evp_op (evd_D1 (evp_var rfl r7) ⟨n, rfl, h0, h1⟩) (evp_drawn rfl hb7 evp_int (by decide) (by decide)) ?_) ?_) g17.sub fun u z Hk9 H9 g9 r9 p9 => q u z Hk9 H9 (((G5.trans g6).trans g17).trans g9) r9 p9
        · intro z hz
          simp only [items, List.mem_cons, List.not_mem_nil, or_false] at hz
          rcases hz with rfl | rfl <;> exact ⟨_, rfl, by decide, by decide⟩
        · rintro d1 d2 ⟨k, _, rfl⟩ ⟨m, rfl, _⟩
          exact RD.weak rd_I0 fun z e => ⟨_, e⟩
        · rintro d1 d2 ⟨i, rfl, hi0, hi1⟩ ⟨j, rfl⟩
          exact RD.weak (rd_mul (.of_left (intBits_le_64 (by omega) (by omega)))) fun z e => by subst e; exact ⟨.inl rfl, Nat.zero_le _⟩
    have e6 : Ex Hk6 H8 := g6.sub
    have hb6 := g6.known _ _ hb5
    have G6 := G5.trans g6
    refine st_when (etp_test (evd_op (evp_var rfl (.int w)) evp_int (rd_eqD rfl rfl))) e6 (fun _ Hk7 H9 g7 => ?_) (fun _ Hk7 H9 g7 => ?_)
    · have hbb := g7.known _ _ hb6
      exact st_ret (EvP.weak (evp_pick rfl hbb (evd_lst (eas1 (evd_lst (eas1 evp_str (eas1 evp_str eas_nil))) (eas1 (evd_dict1 evp_int) (eas1 evd_dnew (eas1 (evd_lst eas_nil) (eas1 (evd_tup (eas1 evp_str (eas1 evp_int eas_nil))) (eas1 (evd_tup (eas1 (evd_tup (eas1 evp_str (eas1 evp_str eas_nil))) (eas1 evp_str eas_nil))) (eas1 (evd_tup (eas1 evp_non eas_nil)) (eas1 (evd_tup (eas1 evp_str (eas1 (evd_lst (eas1 evp_str eas_nil)) eas_nil))) (eas1 (evd_tup (eas1 (evd_tup eas_nil) (eas1 (evd_tup eas_nil) eas_nil))) eas_nil)))))))))) (by intro h; cases h) (by show (List.length _) ≤ _; decide)) (fine_all (by decide +kernel))) g7.sub fun u z Hk9 H9 g9 r9 p9 => q u z Hk9 H9 ((G6.trans g7).trans g9) r9 p9
    have e7 : Ex Hk7 H9 := g7.sub
    have hb7 := g7.known _ _ hb6
    have G7 := G6.trans g7
    
    exact st_ret (EvP.weak (evp_pick rfl hb7 (evd_lst (eas1 evp_str (eas1 (evd_tup eas_nil) (eas1 evp_str (eas1 evp_str (eas1 (evd_tup (eas1 evp_str eas_nil)) (eas1 (evd_tup (eas1 evp_str (eas1 evp_str eas_nil))) (eas1 (evd_tup (eas1 evp_str (eas1 evp_str eas_nil))) (eas1 (evd_tup (eas1 evp_str (eas1 evp_str (eas1 evp_str eas_nil)))) (eas1 (evd_tup (eas1 evp_str (eas1 evp_str eas_nil))) (eas1 evp_str eas_nil))))))))))) (by intro h; cases h) (by show (List.length _) ≤ _; decide)) (fine_all (by decide +kernel))) e7 fun u z Hk9 H9 g9 r9 p9 => q u z Hk9 H9 (G7.trans g9) r9 p9
theorem ok__law_is_word (T : Tx K mg) : FnOk P w K mg base CX0 1 T.a__law_is_word T.d__law_is_word ["_law_value"] (spD1 K Fine (fun d z => z = .bool (okName d))) := by
  refine T.F__law_is_word.ok sc__law_is_word (fun vs H1 Q E h => ?_) (fun cdv A outer s H1 vs Q E hr h => ?_)
  · obtain ⟨H, v, d, rfl, _⟩ := h
    rfl
  · obtain ⟨H, v, d, rfl, ex, r, p, q⟩ := h
    refine ⟨_, (pss_cons (ps_if (PW.pt (pw_or (pt_not (pt_val (pe_callB (kIsi (K := K) rfl) (by rfl) T.n_isinstance (by decide +kernel) (pa_cons (pv 0) (pa_cons (pe_bltn (v := .ty "str") (by rfl) T.n_str (by decide +kernel) rfl) pa_nil))))) (pw_or (pt_cmpR opLt (pe_callB (kLen (K := K) rfl) (by rfl) T.n_len (by decide +kernel) (pa_cons (pv 0) pa_nil)) pe_int (nomark _)) (pw_or1 (pt_cmpR opGt (pe_callB (kLen (K := K) rfl) (by rfl) T.n_len (by decide +kernel) (pa_cons (pv 0) pa_nil)) pe_int (nomark _)))))) (pss_one (ps_ret pe_bl)) pss_nil)
      (pss_one (ps_ret (pe_cmpR (kEq (K := K) rfl (hu64 hr)) (pe_lc (own := [("_law_sign", 1)]) (g := (gName 1)) rfl sc__law_is_word.nd (pi_str (pv 0)) (blkOk_by (N := ["_law_value", "_law_sign"]) (sc := defScope s__law_is_word) (by decide +kernel)) (fun _ _ _ _ _ => (pg_name (i := 1) sc__law_is_word.nd rfl (by first | exact Or.inl rfl | exact Or.inr rfl))) (fun _ _ _ _ _ => (pts_one (PW.pt (pw_or (pt_cmpR opLt (pv 1) pe_str (nomark _)) (pw_or1 (pt_cmpR opGt (pv 1) pe_str (nomark _))))))) (fun _ _ _ _ _ => (pv 1))) (pe_lst pa_nil) (nomark _))))), ?_⟩
    try dsimp only [cxOf]
    cases d with
    | str s =>
      have hs := p.1.str
      have hl : lenD (.str s) = some s.length := if_pos (by omega)
      have lenE : ∀ {H}, Rp K H v (.str s) → EvD K (tCB (rLen K) (tCons (tVar 0) tNil)) (start ["_law_value", "_law_sign"] [v]) H (.int (s.length : Int)) := fun {H} r => evd_cb (eas1 (evp_var rfl r) eas_nil) (rc_len hl)
      refine st_when (b := (!true || (decide ((s.length : Int) < 1) || decide (4 < (s.length : Int))))) (etp_or (etp_not (etp_B (evp_isi (evp_var rfl r) (kit_str _)))) (fun _ => etp_or (etp_test (evd_op (lenE r) evp_int rd_lt)) (fun _ => etp_test (evd_op (lenE r) evp_int rd_gt)))) ex (fun hb Hk H2 g => ?_) (fun hb Hk H2 g => ?_)
      · refine st_ret (K := K) evp_bl g.sub fun u z Hk9 H9 g9 r9 p9 => q u z Hk9 H9 (g.trans g9) r9 ?_
        rw [p9]
        congr 1
        simp only [Bool.not_true, Bool.false_or, Bool.or_eq_true, decide_eq_true_iff] at hb
        have : (decide (1 ≤ (s.length : Int)) && decide ((s.length : Int) ≤ 4)) = false := by
          rw [Bool.and_eq_false_iff, decide_eq_false_iff_not, decide_eq_false_iff_not]
          omega
        show _ = ((decide (1 ≤ (s.length : Int)) && decide ((s.length : Int) ≤ 4)) && s.cps.toList.all isLett)
        rw [this]
        rfl
      · have rm := r.mono g.known
        refine st_ret (evd_op (evd_lcS (p := fun c => decide (c < 97) || decide (122 < c)) (g := fun c => .str ⟨#[c]⟩) (evp_var rfl rm) (by show s.length ≤ _; omega) (fun _ => rfl) ?_ (fun c Hm _ _ => evp_var rfl (.str _))) (evd_lst eas_nil) (rd_eqD ?_ rfl)) g.sub fun u z Hk9 H9 g9 r9 p9 => q u z Hk9 H9 (g.trans g9) r9 ?_
        · intro c Hm em
          have e : (decide (c < 97) || decide (122 < c)) = (decide (([c] : List Nat) < [97]) || decide (([122] : List Nat) < [c])) := by rw [lt_one, lt_one]
          rw [e]
          exact etp_or (etp_test (K := K) (evd_op (evp_var rfl (.str _)) evp_str rd_ltT)) (fun _ => etp_test (K := K) (evd_op (evp_var rfl (.str _)) evp_str rd_gtT))
        · refine shaped_list fun d hd => ?_
          obtain ⟨c, hc, rfl⟩ := List.mem_map.mp hd
          refine ⟨strOk_iff.mpr fun x hx => ?_, Nat.zero_le _⟩
          have e : x = c := List.mem_singleton.mp hx
          rw [e]
          exact strOk_iff.mp hs.2 c (List.mem_filter.mp hc).1
        · rw [p9, eqv_nil]
          congr 1
          simp only [Bool.not_true, Bool.false_or, Bool.or_eq_false_iff, decide_eq_false_iff_not] at hb
          have h4 : (decide (1 ≤ (s.length : Int)) && decide ((s.length : Int) ≤ 4)) = true := by
            rw [Bool.and_eq_true, decide_eq_true_iff, decide_eq_true_iff]
            omega
          show _ = ((decide (1 ≤ (s.length : Int)) && decide ((s.length : Int) ≤ 4)) && s.cps.toList.all isLett)
          rw [h4, Bool.true_and, Bool.eq_iff_iff, List.isEmpty_iff, List.map_eq_nil_iff, List.filter_eq_nil_iff, List.all_eq_true]
          constructor
          · intro h c hc
            have := h c hc
            rw [isLett_iff, Bool.and_eq_true, decide_eq_true_iff, decide_eq_true_iff]
            simp only [Bool.or_eq_true, decide_eq_true_iff] at this
            omega
          · intro h c hc
            have := h c hc
            rw [isLett_iff, Bool.and_eq_true, decide_eq_true_iff, decide_eq_true_iff] at this
            simp only [Bool.or_eq_true, decide_eq_true_iff]
            omega
    | none =>
      refine st_when (b := true) (etp_or (a := true) (b := false) (etp_not (etp_B (evp_isi (evp_var rfl r) (kit_str _)))) (fun h => by cases h)) ex (fun _ Hk H2 g => ?_) (fun hb => by cases hb)
      exact st_ret (K := K) evp_bl g.sub fun u z Hk9 H9 g9 r9 p9 => q u z Hk9 H9 (g.trans g9) r9 p9
    | bool _ =>
      refine st_when (b := true) (etp_or (a := true) (b := false) (etp_not (etp_B (evp_isi (evp_var rfl r) (kit_str _)))) (fun h => by cases h)) ex (fun _ Hk H2 g => ?_) (fun hb => by cases hb)
      exact st_ret (K := K) evp_bl g.sub fun u z Hk9 H9 g9 r9 p9 => q u z Hk9 H9 (g.trans g9) r9 p9
    | int _ =>
      refine st_when (b := true) (etp_or (a := true) (b := false) (etp_not (etp_B (evp_isi (evp_var rfl r) (kit_str _)))) (fun h => by cases h)) ex (fun _ Hk H2 g => ?_) (fun hb => by cases hb)
      exact st_ret (K := K) evp_bl g.sub fun u z Hk9 H9 g9 r9 p9 => q u z Hk9 H9 (g.trans g9) r9 p9
    | list _ =>
      refine st_when (b := true) (etp_or (a := true) (b := false) (etp_not (etp_B (evp_isi (evp_var rfl r) (kit_str _)))) (fun h => by cases h)) ex (fun _ Hk H2 g => ?_) (fun hb => by cases hb)
      exact st_ret (K := K) evp_bl g.sub fun u z Hk9 H9 g9 r9 p9 => q u z Hk9 H9 (g.trans g9) r9 p9
    | tuple _ =>
      refine st_when (b := true) (etp_or (a := true) (b := false) (etp_not (etp_B (evp_isi (evp_var rfl r) (kit_str _)))) (fun h => by cases h)) ex (fun _ Hk H2 g => ?_) (fun hb => by cases hb)
      exact st_ret (K := K) evp_bl g.sub fun u z Hk9 H9 g9 r9 p9 => q u z Hk9 H9 (g.trans g9) r9 p9
    | dict _ =>
      refine st_when (b := true) (etp_or (a := true) (b := false) (etp_not (etp_B (evp_isi (evp_var rfl r) (kit_str _)))) (fun h => by cases h)) ex (fun _ Hk H2 g => ?_) (fun hb => by cases hb)
      exact st_ret (K := K) evp_bl g.sub fun u z Hk9 H9 g9 r9 p9 => q u z Hk9 H9 (g.trans g9) r9 p9
theorem ok__law_are_words (T : Tx K mg) : FnOk P w K mg base CX0 2 T.a__law_are_words T.d__law_are_words ["_law_value"] (spD1 K Fine (fun d z => z = .bool (areNames d))) := by
  refine T.F__law_are_words.ok sc__law_are_words (fun vs H1 Q E h => ?_) (fun cdv A outer s H1 vs Q E hr h => ?_)
  · obtain ⟨H, v, d, rfl, _⟩ := h
    rfl
  · obtain ⟨H, v, d, rfl, ex, r, p, q⟩ := h
    refine ⟨_, (pss_one (ps_ret (pe_and (pe_callB (kIsi (K := K) rfl) (by rfl) T.n_isinstance (by decide +kernel) (pa_cons (pv 0) (pa_cons (pe_bltn (v := .ty "tuple") (by rfl) T.n_tuple (by decide +kernel) rfl) pa_nil))) (pe_one (pe_cmpR (kEq (K := K) rfl (hu64 hr)) (pe_lc (own := [("_law_one", 1)]) (g := (gName 1)) rfl sc__law_are_words.nd (kpTup (K := K) rfl (pv 0)) (blkOk_by (N := ["_law_value", "_law_one"]) (sc := defScope s__law_are_words) (by decide +kernel)) (fun _ _ _ _ _ => (pg_name (i := 1) sc__law_are_words.nd rfl (by first | exact Or.inl rfl | exact Or.inr rfl))) (fun _ _ _ _ _ => (pts_one (pt_not (pt_val (pe_call (ok__law_is_word T) (hr.mono (by decide)) (by rfl) T.g__law_is_word T.F__law_is_word.kp T.b__law_is_word .nil pass0 (pa_cons (pv 1) pa_nil)))))) (fun _ _ _ _ _ => (pv 1))) (pe_lst pa_nil) (nomark _)))))), ?_⟩
    try dsimp only [cxOf]
    cases d with
    | tuple ds =>
      have hs := p.1.tup
      have hf := p.tup
      refine (EvP.is (evp_andV (a := isTup (.tuple ds)) (b := (ds.filter fun x => !okName x).isEmpty) (evp_isi (evp_var rfl r) (kit_tup _)) (fun _ => ?_)) ?_) H1 ex _ q
      · refine EvP.is (evd_op (evd_lcT (p := fun x => !okName x) (g := fun x => x) (evp_var rfl r) (by omega) (fun _ => rfl) ?_ (fun k d x Hm _ _ rx _ => evp_var rfl rx)) (evd_lst eas_nil) (rd_eqD ?_ rfl)) ?_
        · intro k d x Hm hk em rx
          exact etp_not (etp_B (evd_D1 (evp_var rfl rx) (hf d (List.mem_of_getElem? hk)).1))
        · refine shaped_list fun d hd => ?_
          rw [List.map_id'] at hd
          have := hf d (List.mem_filter.mp hd).1
          exact ⟨this.2, by have := this.1.2; omega⟩
        · rw [eqv_nil, List.map_id']
      · show PyData.bool (true && _) = .bool (ds.all okName)
        congr 1
        rw [Bool.true_and, Bool.eq_iff_iff, List.isEmpty_iff, List.filter_eq_nil_iff, List.all_eq_true]
        simp
    | none => exact (EvP.is (evp_andV (a := isTup _) (b := false) (evp_isi (evp_var rfl r) (kit_tup _)) (fun h => by cases h)) rfl) H1 ex _ q
    | bool _ => exact (EvP.is (evp_andV (a := isTup _) (b := false) (evp_isi (evp_var rfl r) (kit_tup _)) (fun h => by cases h)) rfl) H1 ex _ q
    | int _ => exact (EvP.is (evp_andV (a := isTup _) (b := false) (evp_isi (evp_var rfl r) (kit_tup _)) (fun h => by cases h)) rfl) H1 ex _ q
    | str _ => exact (EvP.is (evp_andV (a := isTup _) (b := false) (evp_isi (evp_var rfl r) (kit_tup _)) (fun h => by cases h)) rfl) H1 ex _ q
    | list _ => exact (EvP.is (evp_andV (a := isTup _) (b := false) (evp_isi (evp_var rfl r) (kit_tup _)) (fun h => by cases h)) rfl) H1 ex _ q
    | dict _ => exact (EvP.is (evp_andV (a := isTup _) (b := false) (evp_isi (evp_var rfl r) (kit_tup _)) (fun h => by cases h)) rfl) H1 ex _ q

theorem len_eq2 {d : PyData} (h : isLot d = true) : ∃ ss : List Str, d = .tuple (ss.map .str) := names_strs (Bool.and_eq_true_iff.mp h).1
theorem six_ok (b1 b2 b3 b4 b5 b6 : Bool) : ∀ l, l = PyData.list [.bool b1, .bool b2, .bool b3, .bool b4, .bool b5, .bool b6] → l.showable = true ∧ l.canLay0 = true ∧ l.depth ≤ 64 ∧ l.shown.length ≤ 1000 ∧ PyData.strOk l.shown = true := by
  rintro l rfl
  revert b1 b2 b3 b4 b5 b6
  decide +kernel
theorem due_whole (d : PyData) (n : Int) (hn : n = (BEY : Int)) (h : isWhole d = true) : ∃ i : Int, d = .int i ∧ isInteger d = (true && decide ((i.natAbs : Int) < n)) := by
  obtain ⟨i, rfl⟩ := whole_int h
  refine ⟨i, rfl, ?_⟩
  rw [hn]
  exact (beyG i.natAbs BEY).symm
theorem int_not_whole {d : PyData} (h : isWhole d = false) : isInteger d = false := by cases d <;> first | rfl | cases h
theorem space_not_whole {d : PyData} (h : isWhole d = false) : within d 1 2 = false := by cases d <;> first | rfl | cases h
theorem space_in (i : Int) : ([.int 1, .int 2] : List PyData).any (fun y => PyData.eqv y (.int i)) = within (.int i) 1 2 := by
  show ((1 == i) || ((2 == i) || false)) = (decide (1 ≤ i) && decide (i ≤ 2))
  rw [Bool.eq_iff_iff, Bool.or_false, Bool.or_eq_true, beq_iff_eq, beq_iff_eq, Bool.and_eq_true, decide_eq_true_iff, decide_eq_true_iff]
  omega
theorem bey_pow : (10 : Int) ^ (2000 : Int).toNat = (BEY : Int) := by
  show (10 : Int) ^ (2000 : Nat) = ((BEY : Nat) : Int)
  unfold BEY
  exact (Int.natCast_pow 10 2000).symm

theorem ok__law_right (T : Tx K mg) : FnG P w K mg base CX0 5 T.a__law_right T.d__law_right ["_law_bag_here"] (spB0 K (fun z => z = .bool true)) := by
  refine DL.Fun.okG T.F__law_right sc__law_right (fun vs H1 Q E h => ?_) (fun cdv A outer s H1 vs Q E hgd hr h => ?_)
  · obtain ⟨H, b, rfl, _⟩ := h
    rfl
  · obtain ⟨H, b, rfl, ex, hb, q⟩ := h
    refine ⟨_, (pss_cons (ps_set (i := 1) sc__law_right.nd rfl (by first | exact Or.inl rfl | exact Or.inr rfl) (pe_call (ok__law_any T) (hr.mono (by decide)) (by rfl) T.g__law_any T.F__law_any.kp T.b__law_any .nil pass0 (pa_cons (pv 0) pa_nil)))
      (pss_cons (ps_set (i := 2) sc__law_right.nd rfl (by first | exact Or.inl rfl | exact Or.inr rfl) (pe_and (pe_callB (kIsi (K := K) rfl) (by rfl) T.n_isinstance (by decide +kernel) (pa_cons (pv 1) (pa_cons (pe_bltn (v := .ty "int") (by rfl) T.n_int (by decide +kernel) rfl) pa_nil))) (pe_one (pe_not (pe_callB (kIsi (K := K) rfl) (by rfl) T.n_isinstance (by decide +kernel) (pa_cons (pv 1) (pa_cons (pe_bltn (v := .ty "bool") (by rfl) T.n_bool (by decide +kernel) rfl) pa_nil)))))))
      (pss_cons (ps_set (i := 3) sc__law_right.nd rfl (by first | exact Or.inl rfl | exact Or.inr rfl) (pe_call (ok__law_are_words T) (hr.mono (by decide)) (by rfl) T.g__law_are_words T.F__law_are_words.kp T.b__law_are_words .nil pass0 (pa_cons (pv 1) pa_nil)))
      (pss_cons (ps_set (i := 4) sc__law_right.nd rfl (by first | exact Or.inl rfl | exact Or.inr rfl) (pe_and (pv 3) (pe_one (pe_cmpR (kEq (K := K) rfl (hu64 hr)) (pe_lc (own := [("_law_one", 5), ("_law_other", 6)]) (g := (gTup K 2 (gCons (gName 5) (gCons (gName 6) gNil)))) rfl sc__law_right.nd (kpZip (K := K) rfl (by rfl) T.n_zip (pa_cons (pv 1) (pa_cons (pe_slice (kSl (K := K) rfl) (pv 1) (po_some pe_int) po_none) pa_nil))) (blkOk_by (N := ["_law_bag_here", "_law_value", "_law_is_whole", "_law_words", "_law_lot", "_law_one", "_law_other", "_law_due", "_law_told"]) (sc := defScope s__law_right) (by decide +kernel)) (fun _ _ _ _ _ => (kgTup (K := K) rfl rfl (pgs_cons (pg_name (i := 5) sc__law_right.nd rfl (by first | exact Or.inl rfl | exact Or.inr rfl)) (pgs_cons (pg_name (i := 6) sc__law_right.nd rfl (by first | exact Or.inl rfl | exact Or.inr rfl)) pgs_nil)))) (fun _ _ _ _ _ => (pts_one (pt_cmpR opGe (pv 5) (pv 6) (nomark _)))) (fun _ _ _ _ _ => pe_int)) (pe_lst pa_nil) (nomark _)))))
      (pss_cons (ps_set (i := 7) sc__law_right.nd rfl (by first | exact Or.inl rfl | exact Or.inr rfl) (pe_lst (pa_cons (pe_and (pv 2) (pe_one (pe_cmpR opLt (pe_callB call_abs (by rfl) T.n_abs (by decide +kernel) (pa_cons (pv 1) pa_nil)) (pe_call (ok__law_power T) (hr.mono (by decide)) (by rfl) T.g__law_power T.F__law_power.kp T.b__law_power .nil pass0 (pa_cons pe_int pa_nil)) (nomark _)))) (pa_cons (pe_call (ok__law_is_word T) (hr.mono (by decide)) (by rfl) T.g__law_is_word T.F__law_is_word.kp T.b__law_is_word .nil pass0 (pa_cons (pv 1) pa_nil)) (pa_cons (pv 3) (pa_cons (pv 4) (pa_cons (pe_and (pv 4) (pe_one (pe_cmpR (kEq (K := K) rfl (hu64 hr)) (pe_callB (kLen (K := K) rfl) (by rfl) T.n_len (by decide +kernel) (pa_cons (pv 1) pa_nil)) pe_int (nomark _)))) pa_nil)))))))
      (pss_cons (ps_expr (pe_bm PySem.F.plainAttrs_list PySem.F.slot_list_append PySem.F.type_list_append mt_append (pv 7) (pa_cons (pe_and (pv 2) (pe_one (pe_cmpR (kIn (K := K) rfl (hu65 hr)) (pv 1) (pe_tup (pa_cons pe_int (pa_cons pe_int pa_nil))) (by rfl)))) pa_nil)))
      (pss_cons (ps_set (i := 8) sc__law_right.nd rfl (by first | exact Or.inl rfl | exact Or.inr rfl) (pe_lst (pa_cons (pe_call (ok_is_integer T) (hr.mono (by decide)) (by rfl) T.g_is_integer T.F_is_integer.kp T.b_is_integer .nil pass0 (pa_cons (pv 1) pa_nil)) (pa_cons (pe_call (ok_is_name T) (hr.mono (by decide)) (by rfl) T.g_is_name T.F_is_name.kp T.b_is_name .nil pass0 (pa_cons (pv 1) pa_nil)) (pa_cons (pe_call (ok_are_names T) (hr.mono (by decide)) (by rfl) T.g_are_names T.F_are_names.kp T.b_are_names .nil pass0 (pa_cons (pv 1) pa_nil)) (pa_cons (pe_call (ok_is_lot T) (hr.mono (by decide)) (by rfl) T.g_is_lot T.F_is_lot.kp T.b_is_lot .nil pass0 (pa_cons (pv 1) pa_nil)) (pa_cons (pe_call (ok_is_pair T) (hr.mono (by decide)) (by rfl) T.g_is_pair T.F_is_pair.kp T.b_is_pair .nil pass0 (pa_cons (pv 1) pa_nil)) (pa_cons (pe_call (ok_is_space T) (hr.mono (by decide)) (by rfl) T.g_is_space T.F_is_space.kp T.b_is_space .nil pass0 (pa_cons (pv 1) pa_nil)) pa_nil))))))))
      (pss_one (ps_ret (pe_cmpR (kEq (K := K) rfl (hu64 hr)) (pe_callB (kRepr (K := K) rfl hgd (hu65 hr)) (by rfl) T.n_repr (by decide +kernel) (pa_cons (pv 8) pa_nil)) (pe_callB (kRepr (K := K) rfl hgd (hu65 hr)) (by rfl) T.n_repr (by decide +kernel) (pa_cons (pv 7) pa_nil)) (nomark _))))))))))), ?_⟩
    try dsimp only [cxOf]
    refine st_set (evp_B0 rfl hb) ex fun v1 d Hk1 H2 g1 r1 hf => ?_
    -- is it a whole number
    refine st_set (evp_andV (evp_isi (evp_var rfl r1) (kit_int d)) (fun _ => evp_notV (evp_isi (evp_var rfl r1) (kit_bool d)))) g1.sub fun v2 d2 Hk2 H3 g2 r2 p2 => ?_
    subst p2
    -- words
    have r12 := r1.mono g2.known
    refine st_set (evd_D1 (evp_var rfl r12) hf) g2.sub fun v3 d3 Hk3 H4 g3 r3 p3 => ?_
    subst p3
    -- lot
    have r13 := r12.mono g3.known
    refine st_set (P := fun z => z = .bool (isLot d)) (evp_andV (a := areNames d) (b := ascS (strsOf d)) (evp_var rfl r3) (fun h => ?_)) g3.sub fun v4 d4 Hk4 H5 g4 r4 p4 => ?_
    · obtain ⟨ss, rfl⟩ := names_strs h
      have hl := hf.1.tup.1
      rw [List.length_map] at hl
      have hsl : cutG (ss.map PyData.str) (some ((1 : Nat) : Int)) none = (ss.drop 1).map .str := by rw [cutG_from, List.map_drop]
      refine EvP.is (evd_op (evd_lcZ (p := fun z => !ltD z) (g := fun _ => .int 1) (eas1 (evp_var rfl r13) (eas1 (EvP.is (evd_sl (l := some 1) (u := none) (evp_var rfl r13) (.inr ⟨rfl, rfl⟩) eo_c eo_none) (congrArg PyData.tuple hsl)) eas_nil)) (.inr ⟨rfl, rfl⟩) (by rw [List.length_map]; omega) (fun _ _ => rfl) ?_ (fun _ _ _ _ _ _ _ _ _ _ => evp_int)) (evd_lst eas_nil) (rd_eqD ?_ rfl)) ?_
      · intro a b x y Hm hm _ rx ry
        obtain ⟨h1, h2⟩ := List.of_mem_zip hm
        obtain ⟨s, _, rfl⟩ := List.mem_map.mp h1
        obtain ⟨t, _, rfl⟩ := List.mem_map.mp h2
        exact etp_test (K := K) (evd_op (evp_var rfl rx) (evp_var rfl ry) rd_geT)
      · refine shaped_list fun z hz => ?_
        obtain ⟨_, _, rfl⟩ := List.mem_map.mp hz
        exact ⟨rfl, Nat.zero_le _⟩
      · rw [eqv_nil]
        show PyData.bool _ = .bool (ascS ((ss.map PyData.str).map DL.strOf))
        rw [DL.strs_map]
        unfold ascS
        rw [← zip_strs]
        congr 1
        rw [Bool.eq_iff_iff, List.isEmpty_iff, List.map_eq_nil_iff, List.filter_eq_nil_iff, List.all_eq_true]
        simp
    subst p4
    have r14 := r13.mono g4.known
    have r24 := r2.mono (g3.trans g4).known
    have r34 := r3.mono g4.known
    -- due
    refine st_newList (eas1 (d := .bool (isInteger d)) (EvP.is (evp_andV (a := isWhole d) (b := isInteger d) (evp_var rfl r24) (fun h => ?_)) ?_) (eas1 (evd_D1 (evp_var rfl r14) hf) (eas1 (evp_var rfl r34) (eas1 (evp_var rfl r4) (eas1 (d := .bool (isPair d)) (evp_andV (a := isLot d) (b := sizeIs d 2) (evp_var rfl r4) (fun h => ?_)) eas_nil)))))
      (fun ds e => by subst e; show 5 ≤ 100000; decide) g4.sub fun pd vsd dsd Hk5 H6 g5 r5 p5 hkd hpd hnd => ?_
    · obtain ⟨i, rfl, e⟩ := due_whole d _ rfl h
      rw [e]
      refine EvP.is (evp_op (P2 := (· = .int (BEY : Int))) (evd_cb (eas1 (evp_var rfl r14) eas_nil) rc_abs) (EvP.weak (evd_D1 evp_int ⟨2000, rfl, by decide, by decide⟩) ?_) ?_) (by rw [Bool.true_and])
      · rintro z ⟨n, e1, e2⟩
        cases e1
        rw [e2, bey_pow]
      · rintro d1 d2 rfl rfl
        exact rd_lt
    · cases hw : isWhole d with
      | true => rfl
      | false => rw [int_not_whole hw]; rfl
    · obtain ⟨ss, rfl⟩ := len_eq2 h
      refine EvP.is (evd_op (evd_cb (eas1 (evp_var rfl r14) eas_nil) (rc_len rfl)) evp_int (rd_eqD rfl rfl)) ?_
      show PyData.bool (((ss.map PyData.str).length : Int) == 2) = .bool (decide _)
      rw [Bool.beq_eq_decide_eq]
    subst p5
    have r25 := r24.mono g5.known
    have r15 := r14.mono g5.known
    -- due.append(..)
    refine st_append rfl (P := (· = .bool (within d 1 2))) (EvP.is (evp_andV (a := isWhole d) (b := within d 1 2) (evp_var rfl r25) (fun h => ?_)) ?_) g5.sub hkd hpd (by rw [r5.len]; show 5 < 100000; decide) fun v6 d6 Hk6 H7 g6 r6 p6 hkd6 hpd6 => ?_
    · obtain ⟨i, rfl⟩ := whole_int h
      rw [← space_in]
      exact evd_op (evp_var rfl r15) (evd_tup (eas1 evp_int (eas1 evp_int eas_nil))) (rd_inFlat (.inr rfl) rfl rfl)
    · cases hw : isWhole d with
      | true => rfl
      | false => rw [space_not_whole hw]; rfl
    subst p6
    have rdue := told_list ((r5.mono g6.known).snoc r6) hkd6
    have e6 : Ex Hk6 (upd H7 pd (.lst (vsd ++ [v6]))) := g6.sub.mut hkd6
    obtain ⟨t1, t2⟩ := tell e6 hkd6 upd_same
    have r16 := (r15.mono g6.known).mono t1
    -- told
    refine st_set (evd_lst (eas1 (evd_D1 (evp_var rfl r16) trivial) (eas1 (evd_D1 (evp_var rfl r16) hf.1) (eas1 (evd_D1 (evp_var rfl r16) hf.1) (eas1 (evd_D1 (evp_var rfl r16) hf.1) (eas1 (evd_D1 (evp_var rfl r16) hf.1) (eas1 (evd_D1 (evp_var rfl r16) trivial) eas_nil))))))) t2 fun v7 d7 Hk7 H8 g7 r7 p7 => ?_
    subst p7
    have s6 := six_ok (isInteger d) (okName d) (areNames d) (isLot d) (isPair d) (within d 1 2) _ rfl
    refine st_ret (evd_op (evd_cb (eas1 (evp_var rfl r7) eas_nil) (rc_repr s6.1 s6.2.1 s6.2.2.1 (sz_of (Nat.le_trans s6.2.2.2.1 (by decide))))) (evd_cb (eas1 (evp_var rfl (rdue.mono g7.known)) eas_nil) (rc_repr s6.1 s6.2.1 s6.2.2.1 (sz_of (Nat.le_trans s6.2.2.2.1 (by decide))))) (rd_eqD (shaped_str s6.2.2.2.2) (shaped_str s6.2.2.2.2))) g7.sub fun u z Hk9 H9 g9 r9 p9 => q u z Hk9 H9 ?_ r9 ?_
    · have g05 := ((((g1.trans g2).trans g3).trans g4).trans g5).trans g6
      have gm : Grow H H1 (upd Hk6 pd (.lst (vsd ++ [v6]))) (upd H7 pd (.lst (vsd ++ [v6]))) := grow_tell g05 hkd6 (ex_none (((g1.trans g2).trans g3).trans g4).all hnd)
      exact (gm.trans g7).trans g9
    · rw [p9]
      exact congrArg PyData.bool (beq_self_eq_true (α := Str) _)

theorem four_edges (n : Int) (hn : n = (BEY : Int)) : [PyData.bool (isInteger (.int n)), .bool (isInteger (.int (n - 1))), .bool (isInteger (.int (-n))), .bool (isInteger (.int (1 - n)))] = [.bool false, .bool true, .bool false, .bool true] := by
  have h1 : 1 ≤ BEY := Nat.pow_pos (by decide)
  subst hn
  unfold isInteger
  generalize BEY = B at h1
  have e1 : decide (((B : Nat) : Int).natAbs < B) = false := decide_eq_false (by omega)
  have e2 : decide ((((B : Nat) : Int) - 1).natAbs < B) = true := decide_eq_true (by omega)
  have e3 : decide ((-((B : Nat) : Int)).natAbs < B) = false := decide_eq_false (by omega)
  have e4 : decide ((1 - ((B : Nat) : Int)).natAbs < B) = true := decide_eq_true (by omega)
  simp only [e1, e2, e3, e4]

theorem ok_law (T : Tx K mg) : FnG P w K mg base CX0 6 T.a_law T.d_law ["_law_script"] (spLaw K) := by
  refine DL.Fun.okG T.F_law sc_law (fun vs H1 Q E h => ?_) (fun cdv A outer s H1 vs Q E hgd hr h => ?_)
  · obtain ⟨H, a, ns, rfl, _⟩ := h
    rfl
  · obtain ⟨H, a, ns, rfl, ex, hS, hl, q⟩ := h
    refine ⟨_, (pss_cons (ps_for PassesOwn.never rfl (pi_range1 (by rfl) T.n_range (pa_cons (pe_callB (call_max2 rfl) (by rfl) T.n_max (by decide +kernel) (pa_cons pe_int (pa_cons (pe_callB (call_min2 rfl) (by rfl) T.n_min (by decide +kernel) (pa_cons pe_int (pa_cons (pe_callB (kLen (K := K) rfl) (by rfl) T.n_len (by decide +kernel) (pa_cons (pv 0) pa_nil)) pa_nil))) pa_nil))) pa_nil)) (pg_name (i := 1) sc_law.nd rfl (by first | exact Or.inl rfl | exact Or.inr rfl)) (pss_cons (ps_set (i := 2) sc_law.nd rfl (by first | exact Or.inl rfl | exact Or.inr rfl) (pe_call (ok__law_bag T) (hr.mono (by decide)) (by rfl) T.g__law_bag T.F__law_bag.kp T.b__law_bag .nil pass0 (pa_cons (pv 0) (pa_cons (pv 1) pa_nil))))
      (pss_one (ps_for PassesOwn.never rfl (pi_range1 (by rfl) T.n_range (pa_cons pe_int pa_nil)) (pg_name (i := 3) sc_law.nd rfl (by first | exact Or.inl rfl | exact Or.inr rfl)) (pss_one (ps_if (pt_not (pt_val (pe_callG (ok__law_right T) hgd (hr.mono (by decide)) (by rfl) T.g__law_right T.F__law_right.kp T.b__law_right .nil pass0 (pa_cons (pv 2) pa_nil)))) (pss_one (ps_ret pe_bl)) pss_nil))))))
      (pss_cons (ps_set (i := 4) sc_law.nd rfl (by first | exact Or.inl rfl | exact Or.inr rfl) (pe_call (ok__law_power T) (hr.mono (by decide)) (by rfl) T.g__law_power T.F__law_power.kp T.b__law_power .nil pass0 (pa_cons pe_int pa_nil)))
      (pss_cons (ps_set (i := 5) sc_law.nd rfl (by first | exact Or.inl rfl | exact Or.inr rfl) (pe_lst (pa_cons (pe_call (ok_is_integer T) (hr.mono (by decide)) (by rfl) T.g_is_integer T.F_is_integer.kp T.b_is_integer .nil pass0 (pa_cons (pv 4) pa_nil)) (pa_cons (pe_call (ok_is_integer T) (hr.mono (by decide)) (by rfl) T.g_is_integer T.F_is_integer.kp T.b_is_integer .nil pass0 (pa_cons (pe_op op_sub (pv 4) pe_int) pa_nil)) (pa_cons (pe_call (ok_is_integer T) (hr.mono (by decide)) (by rfl) T.g_is_integer T.F_is_integer.kp T.b_is_integer .nil pass0 (pa_cons (pe_un un_neg (pv 4)) pa_nil)) (pa_cons (pe_call (ok_is_integer T) (hr.mono (by decide)) (by rfl) T.g_is_integer T.F_is_integer.kp T.b_is_integer .nil pass0 (pa_cons (pe_op op_sub pe_int (pv 4)) pa_nil)) pa_nil))))))
      (pss_one (ps_ret (pe_and (pe_cmpR (kEq (K := K) rfl (hu64 hr)) (pv 5) (pe_lst (pa_cons pe_bl (pa_cons pe_bl (pa_cons pe_bl (pa_cons pe_bl pa_nil))))) (nomark _)) (pe_one (pe_cmpR (kEq (K := K) rfl (hu64 hr)) (pe_lst (pa_cons (pe_glob (v := .int 2000) (by rfl) T.c_MAX_DIGITS ⟨_, rfl⟩) (pa_cons (pe_glob (v := .int 4) (by rfl) T.c_MAX_LETTERS ⟨_, rfl⟩) pa_nil))) (pe_lst (pa_cons pe_int (pa_cons pe_int pa_nil))) (nomark _))))))))), ?_⟩
    try dsimp only [cxOf]
    have rs : Rp K H (.ref a) (.list (ns.map .int)) := .lst hS RpAll.of_ints
    have lenE : EvD K (tCB (rLen K) (tCons (tVar 0) tNil)) (start ["_law_script", "_law_at", "_law_bag_here", "_law_turn", "_law_edge", "_law_edges"] [.ref a]) H (.int (ns.length : Int)) :=
      evd_cb (eas1 (evp_var rfl rs) eas_nil) (rc_len (by show some (ns.map PyData.int).length = _; rw [List.length_map]))
    refine st_forS (walkd_range (K := K) (eas1 (evd_cb (eas1 evp_int (eas1 (evd_cb (eas1 evp_int (eas1 lenE eas_nil)) rc_min2) eas_nil)) rc_max2) eas_nil) ?_) ex (fun i σ _ _ => ∃ t1 t2 t3, σ = [some (V.ref a), t1, t2, t3, none, none]) (fun _ _ _ => ⟨none, none, none, rfl⟩) ?_ ?_
    · constructor <;> (split <;> split <;> omega)
    · rintro Hb Hc i x σ2 Hm H3 Hm' H4 gb hi gm ⟨t1, t2, t3, rfl⟩ g4 rfl
      refine gn ?_
      have hi4 : i < 4 := by
        have : (if (if (ns.length : Int) < 4 then (ns.length : Int) else 4) > 1 then (if (ns.length : Int) < 4 then (ns.length : Int) else 4) else 1) ≤ 4 := by split <;> split <;> omega
        omega
      refine st_bag (n := (i : Int)) rfl rfl (ex_l ((gb.trans gm).trans g4).known hS) hl ⟨by omega, by omega⟩ g4.sub fun b Hk5 H5 g5 hb => ?_
      refine st_for (walkd_range (K := K) (j := 12) (eas1 evp_int eas_nil) ⟨by decide, by decide⟩) g5.sub (fun j σ _ _ => ∃ t3, σ = [some (V.ref a), some (.int i), some (V.ref b), t3, none, none]) (fun _ _ _ => ⟨t3, rfl⟩) ?_ ?_
      · rintro Hb2 Hc2 j x σ2 Hm2 H6 Hm6 H7 gb2 hj gm2 ⟨t3, rfl⟩ g7 rfl
        refine gn ?_
        refine st_ifL (b := !true) (etp_not (etp_B (evp_B0 rfl (((gb2.trans gm2).trans g7).known _ _ hb)))) g7.sub (fun h => by cases h) fun _ Hk8 H8 g8 => ?_
        exact ⟨Hk8, (gm2.trans g7).trans g8, _, rfl⟩
      · rintro Hb2 Hc2 σ2 Hm2 H6 gb2 gm2 ⟨t3, rfl⟩
        exact ⟨Hm2, (((gm.trans g4).trans g5).trans gb2).trans gm2, _, _, _, rfl⟩
    · rintro Hb Hc σ2 Hm H3 gb gm ⟨t1, t2, t3, rfl⟩
      refine st_set (P := fun z => z = .int (BEY : Int)) (EvP.weak (evd_D1 evp_int ⟨2000, rfl, by decide, by decide⟩) ?_) gm.sub fun v4 d4 Hk4 H4 g4 r4 p4 => ?_
      · rintro z ⟨n, e1, e2⟩
        cases e1
        rw [e2, bey_pow]
      subst p4
      refine st_set (evd_lst (eas1 (evd_D1 (evp_var rfl r4) trivial) (eas1 (evd_D1 (evd_op (evp_var rfl r4) evp_int rd_I0) trivial) (eas1 (evd_D1 (evd_neg (evp_var rfl r4)) trivial) (eas1 (evd_D1 (evd_op evp_int (evp_var rfl r4) rd_I0) trivial) eas_nil))))) g4.sub fun v5 d5 Hk5 H5 g5 r5 p5 => ?_
      have e5 := p5.trans (congrArg PyData.list (four_edges _ rfl))
      subst e5
      refine st_ret (K := K) (evp_andV (a := true) (b := true) (evd_op (evp_var rfl r5) (evd_lst (eas1 evp_bl (eas1 evp_bl (eas1 evp_bl (eas1 evp_bl eas_nil))))) (rd_eqD (by decide +kernel) (by decide +kernel))) (fun _ => evd_op (evd_lst (eas1 evp_int (eas1 evp_int eas_nil))) (evd_lst (eas1 evp_int (eas1 evp_int eas_nil))) (rd_eqD (by decide +kernel) (by decide +kernel)))) g5.sub fun u z Hk9 H9 g9 r9 p9 => ?_
      subst p9
      cases r9
      exact q _
end
end K01
namespace K01
open PySem PySem.Spec PyProof.Rows L2 Evl DL
theorem all_mk {l : PySem.W.OpenLaw} {w : World} {K : PySem.W.Frag} {h : Heap} {mg : Str → Option Value} {fa : Addr} (X : K.In h) (G : h.Ns mainGlobals mg) (hfa : mg "law" = some (.ref fa))
    {f_is_whole : Addr} {od_is_whole an_is_whole : Option Addr} {sl_is_whole : Array (Option Value)} {oc_is_whole kV_is_whole dc_is_whole pm_is_whole cd_is_whole ct_is_whole : Value}
    {f_is_within : Addr} {od_is_within an_is_within : Option Addr} {sl_is_within : Array (Option Value)} {oc_is_within kV_is_within dc_is_within pm_is_within cd_is_within ct_is_within : Value}
    {f_is_integer : Addr} {od_is_integer an_is_integer : Option Addr} {sl_is_integer : Array (Option Value)} {oc_is_integer kV_is_integer dc_is_integer pm_is_integer cd_is_integer ct_is_integer : Value}
    {f_is_name : Addr} {od_is_name an_is_name : Option Addr} {sl_is_name : Array (Option Value)} {oc_is_name kV_is_name dc_is_name pm_is_name cd_is_name ct_is_name : Value}
    {f_are_names : Addr} {od_are_names an_are_names : Option Addr} {sl_are_names : Array (Option Value)} {oc_are_names kV_are_names dc_are_names pm_are_names cd_are_names ct_are_names : Value}
    {f_is_ascending : Addr} {od_is_ascending an_is_ascending : Option Addr} {sl_is_ascending : Array (Option Value)} {oc_is_ascending kV_is_ascending dc_is_ascending pm_is_ascending cd_is_ascending ct_is_ascending : Value}
    {f_is_lot : Addr} {od_is_lot an_is_lot : Option Addr} {sl_is_lot : Array (Option Value)} {oc_is_lot kV_is_lot dc_is_lot pm_is_lot cd_is_lot ct_is_lot : Value}
    {f_is_pair : Addr} {od_is_pair an_is_pair : Option Addr} {sl_is_pair : Array (Option Value)} {oc_is_pair kV_is_pair dc_is_pair pm_is_pair cd_is_pair ct_is_pair : Value}
    {f_is_space : Addr} {od_is_space an_is_space : Option Addr} {sl_is_space : Array (Option Value)} {oc_is_space kV_is_space dc_is_space pm_is_space cd_is_space ct_is_space : Value}
    {f__law_bag : Addr} {od__law_bag an__law_bag : Option Addr} {sl__law_bag : Array (Option Value)} {oc__law_bag kV__law_bag dc__law_bag pm__law_bag cd__law_bag ct__law_bag : Value}
    {f__law_draw : Addr} {od__law_draw an__law_draw : Option Addr} {sl__law_draw : Array (Option Value)} {oc__law_draw kV__law_draw dc__law_draw pm__law_draw cd__law_draw ct__law_draw : Value}
    {f__law_one_of : Addr} {od__law_one_of an__law_one_of : Option Addr} {sl__law_one_of : Array (Option Value)} {oc__law_one_of kV__law_one_of dc__law_one_of pm__law_one_of cd__law_one_of ct__law_one_of : Value}
    {f__law_power : Addr} {od__law_power an__law_power : Option Addr} {sl__law_power : Array (Option Value)} {oc__law_power kV__law_power dc__law_power pm__law_power cd__law_power ct__law_power : Value}
    {f__law_word : Addr} {od__law_word an__law_word : Option Addr} {sl__law_word : Array (Option Value)} {oc__law_word kV__law_word dc__law_word pm__law_word cd__law_word ct__law_word : Value}
    {f__law_any : Addr} {od__law_any an__law_any : Option Addr} {sl__law_any : Array (Option Value)} {oc__law_any kV__law_any dc__law_any pm__law_any cd__law_any ct__law_any : Value}
    {f__law_is_word : Addr} {od__law_is_word an__law_is_word : Option Addr} {sl__law_is_word : Array (Option Value)} {oc__law_is_word kV__law_is_word dc__law_is_word pm__law_is_word cd__law_is_word ct__law_is_word : Value}
    {f__law_are_words : Addr} {od__law_are_words an__law_are_words : Option Addr} {sl__law_are_words : Array (Option Value)} {oc__law_are_words kV__law_are_words dc__law_are_words pm__law_are_words cd__law_are_words ct__law_are_words : Value}
    {f__law_right : Addr} {od__law_right an__law_right : Option Addr} {sl__law_right : Array (Option Value)} {oc__law_right kV__law_right dc__law_right pm__law_right cd__law_right ct__law_right : Value}
    {f_law : Addr} {od_law an_law : Option Addr} {sl_law : Array (Option Value)} {oc_law kV_law dc_law pm_law cd_law ct_law : Value}
    {m_BEYOND : Int} {w_BEYOND : Tok}
    {w_LETTERS : Tok}
    {w_MAX_DIGITS : Tok}
    {w_MAX_LETTERS : Tok}
    (p_is_whole : PySem.W.nsIn K mainGlobals "is_whole" = some (some (.ref f_is_whole)))
    (l_is_whole : K.lookup f_is_whole = some ⟨oc_is_whole, od_is_whole, .func (PySem.W.fnOf "is_whole" "is_whole" (defArgs s_is_whole) (defBody s_is_whole) (defScope s_is_whole) .none kV_is_whole dc_is_whole pm_is_whole an_is_whole cd_is_whole ct_is_whole), sl_is_whole⟩)
    (c_is_whole : PySem.W.codeIn K cd_is_whole "is_whole" = true) (k_is_whole : PySem.W.keepIn K (.ref f_is_whole) = true)
    (p_is_within : PySem.W.nsIn K mainGlobals "is_within" = some (some (.ref f_is_within)))
    (l_is_within : K.lookup f_is_within = some ⟨oc_is_within, od_is_within, .func (PySem.W.fnOf "is_within" "is_within" (defArgs s_is_within) (defBody s_is_within) (defScope s_is_within) .none kV_is_within dc_is_within pm_is_within an_is_within cd_is_within ct_is_within), sl_is_within⟩)
    (c_is_within : PySem.W.codeIn K cd_is_within "is_within" = true) (k_is_within : PySem.W.keepIn K (.ref f_is_within) = true)
    (p_is_integer : PySem.W.nsIn K mainGlobals "is_integer" = some (some (.ref f_is_integer)))
    (l_is_integer : K.lookup f_is_integer = some ⟨oc_is_integer, od_is_integer, .func (PySem.W.fnOf "is_integer" "is_integer" (defArgs s_is_integer) (defBody s_is_integer) (defScope s_is_integer) .none kV_is_integer dc_is_integer pm_is_integer an_is_integer cd_is_integer ct_is_integer), sl_is_integer⟩)
    (c_is_integer : PySem.W.codeIn K cd_is_integer "is_integer" = true) (k_is_integer : PySem.W.keepIn K (.ref f_is_integer) = true)
    (p_is_name : PySem.W.nsIn K mainGlobals "is_name" = some (some (.ref f_is_name)))
    (l_is_name : K.lookup f_is_name = some ⟨oc_is_name, od_is_name, .func (PySem.W.fnOf "is_name" "is_name" (defArgs s_is_name) (defBody s_is_name) (defScope s_is_name) .none kV_is_name dc_is_name pm_is_name an_is_name cd_is_name ct_is_name), sl_is_name⟩)
    (c_is_name : PySem.W.codeIn K cd_is_name "is_name" = true) (k_is_name : PySem.W.keepIn K (.ref f_is_name) = true)
    (p_are_names : PySem.W.nsIn K mainGlobals "are_names" = some (some (.ref f_are_names)))
    (l_are_names : K.lookup f_are_names = some ⟨oc_are_names, od_are_names, .func (PySem.W.fnOf "are_names" "are_names" (defArgs s_are_names) (defBody s_are_names) (defScope s_are_names) .none kV_are_names dc_are_names pm_are_names an_are_names cd_are_names ct_are_names), sl_are_names⟩)
    (c_are_names : PySem.W.codeIn K cd_are_names "are_names" = true) (k_are_names : PySem.W.keepIn K (.ref f_are_names) = true)
    (p_is_ascending : PySem.W.nsIn K mainGlobals "is_ascending" = some (some (.ref f_is_ascending)))
    (l_is_ascending : K.lookup f_is_ascending = some ⟨oc_is_ascending, od_is_ascending, .func (PySem.W.fnOf "is_ascending" "is_ascending" (defArgs s_is_ascending) (defBody s_is_ascending) (defScope s_is_ascending) .none kV_is_ascending dc_is_ascending pm_is_ascending an_is_ascending cd_is_ascending ct_is_ascending), sl_is_ascending⟩)
    (c_is_ascending : PySem.W.codeIn K cd_is_ascending "is_ascending" = true) (k_is_ascending : PySem.W.keepIn K (.ref f_is_ascending) = true)
    (p_is_lot : PySem.W.nsIn K mainGlobals "is_lot" = some (some (.ref f_is_lot)))
    (l_is_lot : K.lookup f_is_lot = some ⟨oc_is_lot, od_is_lot, .func (PySem.W.fnOf "is_lot" "is_lot" (defArgs s_is_lot) (defBody s_is_lot) (defScope s_is_lot) .none kV_is_lot dc_is_lot pm_is_lot an_is_lot cd_is_lot ct_is_lot), sl_is_lot⟩)
    (c_is_lot : PySem.W.codeIn K cd_is_lot "is_lot" = true) (k_is_lot : PySem.W.keepIn K (.ref f_is_lot) = true)
    (p_is_pair : PySem.W.nsIn K mainGlobals "is_pair" = some (some (.ref f_is_pair)))
    (l_is_pair : K.lookup f_is_pair = some ⟨oc_is_pair, od_is_pair, .func (PySem.W.fnOf "is_pair" "is_pair" (defArgs s_is_pair) (defBody s_is_pair) (defScope s_is_pair) .none kV_is_pair dc_is_pair pm_is_pair an_is_pair cd_is_pair ct_is_pair), sl_is_pair⟩)
    (c_is_pair : PySem.W.codeIn K cd_is_pair "is_pair" = true) (k_is_pair : PySem.W.keepIn K (.ref f_is_pair) = true)
    (p_is_space : PySem.W.nsIn K mainGlobals "is_space" = some (some (.ref f_is_space)))
    (l_is_space : K.lookup f_is_space = some ⟨oc_is_space, od_is_space, .func (PySem.W.fnOf "is_space" "is_space" (defArgs s_is_space) (defBody s_is_space) (defScope s_is_space) .none kV_is_space dc_is_space pm_is_space an_is_space cd_is_space ct_is_space), sl_is_space⟩)
    (c_is_space : PySem.W.codeIn K cd_is_space "is_space" = true) (k_is_space : PySem.W.keepIn K (.ref f_is_space) = true)
    (p__law_bag : PySem.W.nsIn K mainGlobals "_law_bag" = some (some (.ref f__law_bag)))
    (l__law_bag : K.lookup f__law_bag = some ⟨oc__law_bag, od__law_bag, .func (PySem.W.fnOf "_law_bag" "_law_bag" (defArgs s__law_bag) (defBody s__law_bag) (defScope s__law_bag) .none kV__law_bag dc__law_bag pm__law_bag an__law_bag cd__law_bag ct__law_bag), sl__law_bag⟩)
    (c__law_bag : PySem.W.codeIn K cd__law_bag "_law_bag" = true) (k__law_bag : PySem.W.keepIn K (.ref f__law_bag) = true)
    (p__law_draw : PySem.W.nsIn K mainGlobals "_law_draw" = some (some (.ref f__law_draw)))
    (l__law_draw : K.lookup f__law_draw = some ⟨oc__law_draw, od__law_draw, .func (PySem.W.fnOf "_law_draw" "_law_draw" (defArgs s__law_draw) (defBody s__law_draw) (defScope s__law_draw) .none kV__law_draw dc__law_draw pm__law_draw an__law_draw cd__law_draw ct__law_draw), sl__law_draw⟩)
    (c__law_draw : PySem.W.codeIn K cd__law_draw "_law_draw" = true) (k__law_draw : PySem.W.keepIn K (.ref f__law_draw) = true)
    (p__law_one_of : PySem.W.nsIn K mainGlobals "_law_one_of" = some (some (.ref f__law_one_of)))
    (l__law_one_of : K.lookup f__law_one_of = some ⟨oc__law_one_of, od__law_one_of, .func (PySem.W.fnOf "_law_one_of" "_law_one_of" (defArgs s__law_one_of) (defBody s__law_one_of) (defScope s__law_one_of) .none kV__law_one_of dc__law_one_of pm__law_one_of an__law_one_of cd__law_one_of ct__law_one_of), sl__law_one_of⟩)
    (c__law_one_of : PySem.W.codeIn K cd__law_one_of "_law_one_of" = true) (k__law_one_of : PySem.W.keepIn K (.ref f__law_one_of) = true)
    (p__law_power : PySem.W.nsIn K mainGlobals "_law_power" = some (some (.ref f__law_power)))
    (l__law_power : K.lookup f__law_power = some ⟨oc__law_power, od__law_power, .func (PySem.W.fnOf "_law_power" "_law_power" (defArgs s__law_power) (defBody s__law_power) (defScope s__law_power) .none kV__law_power dc__law_power pm__law_power an__law_power cd__law_power ct__law_power), sl__law_power⟩)
    (c__law_power : PySem.W.codeIn K cd__law_power "_law_power" = true) (k__law_power : PySem.W.keepIn K (.ref f__law_power) = true)
    (p__law_word : PySem.W.nsIn K mainGlobals "_law_word" = some (some (.ref f__law_word)))
    (l__law_word : K.lookup f__law_word = some ⟨oc__law_word, od__law_word, .func (PySem.W.fnOf "_law_word" "_law_word" (defArgs s__law_word) (defBody s__law_word) (defScope s__law_word) .none kV__law_word dc__law_word pm__law_word an__law_word cd__law_word ct__law_word), sl__law_word⟩)
    (c__law_word : PySem.W.codeIn K cd__law_word "_law_word" = true) (k__law_word : PySem.W.keepIn K (.ref f__law_word) = true)
    (p__law_any : PySem.W.nsIn K mainGlobals "_law_any" = some (some (.ref f__law_any)))
    (l__law_any : K.lookup f__law_any = some ⟨oc__law_any, od__law_any, .func (PySem.W.fnOf "_law_any" "_law_any" (defArgs s__law_any) (defBody s__law_any) (defScope s__law_any) .none kV__law_any dc__law_any pm__law_any an__law_any cd__law_any ct__law_any), sl__law_any⟩)
    (c__law_any : PySem.W.codeIn K cd__law_any "_law_any" = true) (k__law_any : PySem.W.keepIn K (.ref f__law_any) = true)
    (p__law_is_word : PySem.W.nsIn K mainGlobals "_law_is_word" = some (some (.ref f__law_is_word)))
    (l__law_is_word : K.lookup f__law_is_word = some ⟨oc__law_is_word, od__law_is_word, .func (PySem.W.fnOf "_law_is_word" "_law_is_word" (defArgs s__law_is_word) (defBody s__law_is_word) (defScope s__law_is_word) .none kV__law_is_word dc__law_is_word pm__law_is_word an__law_is_word cd__law_is_word ct__law_is_word), sl__law_is_word⟩)
    (c__law_is_word : PySem.W.codeIn K cd__law_is_word "_law_is_word" = true) (k__law_is_word : PySem.W.keepIn K (.ref f__law_is_word) = true)
    (p__law_are_words : PySem.W.nsIn K mainGlobals "_law_are_words" = some (some (.ref f__law_are_words)))
    (l__law_are_words : K.lookup f__law_are_words = some ⟨oc__law_are_words, od__law_are_words, .func (PySem.W.fnOf "_law_are_words" "_law_are_words" (defArgs s__law_are_words) (defBody s__law_are_words) (defScope s__law_are_words) .none kV__law_are_words dc__law_are_words pm__law_are_words an__law_are_words cd__law_are_words ct__law_are_words), sl__law_are_words⟩)
    (c__law_are_words : PySem.W.codeIn K cd__law_are_words "_law_are_words" = true) (k__law_are_words : PySem.W.keepIn K (.ref f__law_are_words) = true)
    (p__law_right : PySem.W.nsIn K mainGlobals "_law_right" = some (some (.ref f__law_right)))
    (l__law_right : K.lookup f__law_right = some ⟨oc__law_right, od__law_right, .func (PySem.W.fnOf "_law_right" "_law_right" (defArgs s__law_right) (defBody s__law_right) (defScope s__law_right) .none kV__law_right dc__law_right pm__law_right an__law_right cd__law_right ct__law_right), sl__law_right⟩)
    (c__law_right : PySem.W.codeIn K cd__law_right "_law_right" = true) (k__law_right : PySem.W.keepIn K (.ref f__law_right) = true)
    (p_law : PySem.W.nsIn K mainGlobals "law" = some (some (.ref f_law)))
    (l_law : K.lookup f_law = some ⟨oc_law, od_law, .func (PySem.W.fnOf "law" "law" (defArgs s_law) (defBody s_law) (defScope s_law) .none kV_law dc_law pm_law an_law cd_law ct_law), sl_law⟩)
    (c_law : PySem.W.codeIn K cd_law "law" = true) (k_law : PySem.W.keepIn K (.ref f_law) = true)
    (z_abs : PySem.W.nsIn K mainGlobals "abs" = some none)
    (z_all : PySem.W.nsIn K mainGlobals "all" = some none)
    (z_bool : PySem.W.nsIn K mainGlobals "bool" = some none)
    (z_int : PySem.W.nsIn K mainGlobals "int" = some none)
    (z_isinstance : PySem.W.nsIn K mainGlobals "isinstance" = some none)
    (z_len : PySem.W.nsIn K mainGlobals "len" = some none)
    (z_max : PySem.W.nsIn K mainGlobals "max" = some none)
    (z_min : PySem.W.nsIn K mainGlobals "min" = some none)
    (z_range : PySem.W.nsIn K mainGlobals "range" = some none)
    (z_repr : PySem.W.nsIn K mainGlobals "repr" = some none)
    (z_sorted : PySem.W.nsIn K mainGlobals "sorted" = some none)
    (z_str : PySem.W.nsIn K mainGlobals "str" = some none)
    (z_sum : PySem.W.nsIn K mainGlobals "sum" = some none)
    (z_tuple : PySem.W.nsIn K mainGlobals "tuple" = some none)
    (z_zip : PySem.W.nsIn K mainGlobals "zip" = some none)
    (v_BEYOND : PySem.W.nsIn K mainGlobals "BEYOND" = some (some (.int m_BEYOND w_BEYOND))) (e_BEYOND : m_BEYOND = (BEY : Int))
    (v_LETTERS : PySem.W.nsIn K mainGlobals "LETTERS" = some (some (.str "abcdefghijklmnopqrstuvwxyz" w_LETTERS)))
    (v_MAX_DIGITS : PySem.W.nsIn K mainGlobals "MAX_DIGITS" = some (some (.int 2000 w_MAX_DIGITS)))
    (v_MAX_LETTERS : PySem.W.nsIn K mainGlobals "MAX_LETTERS" = some (some (.int 4 w_MAX_LETTERS)))
    : ∃ fd : FuncData, (∀ (s : Shared) (v : Value), BindsTo s fd ⟨[v], []⟩ [("_law_script", v)]) ∧ ∀ base : Heap, K.In base → base.Ns mainGlobals mg → FnG l.prog w K mg base CX0 6 fa fd ["_law_script"] (spLaw K) := by
  have e : fa = f_law := by
    have z := hfa.symm.trans (PySem.W.mg_of X G p_law)
    cases z
    rfl
  rw [e]
  let T : Tx K mg := {
    a_is_whole := f_is_whole, d_is_whole := (PySem.W.fnOf "is_whole" "is_whole" (defArgs s_is_whole) (defBody s_is_whole) (defScope s_is_whole) .none kV_is_whole dc_is_whole pm_is_whole an_is_whole cd_is_whole ct_is_whole), F_is_whole := fun_mk (st := s_is_whole) l_is_whole c_is_whole k_is_whole,
    b_is_whole := (fun_mk (st := s_is_whole) l_is_whole c_is_whole k_is_whole).binds (ps := ["value"]) fun _ _ _ _ _ _ us hl => match us, hl with | [_], _ => rfl,
    g_is_whole := PySem.W.mg_of X G p_is_whole,
    a_is_within := f_is_within, d_is_within := (PySem.W.fnOf "is_within" "is_within" (defArgs s_is_within) (defBody s_is_within) (defScope s_is_within) .none kV_is_within dc_is_within pm_is_within an_is_within cd_is_within ct_is_within), F_is_within := fun_mk (st := s_is_within) l_is_within c_is_within k_is_within,
    b_is_within := (fun_mk (st := s_is_within) l_is_within c_is_within k_is_within).binds (ps := ["value", "low", "high"]) fun _ _ _ _ _ _ us hl => match us, hl with | [_, _, _], _ => rfl,
    g_is_within := PySem.W.mg_of X G p_is_within,
    a_is_integer := f_is_integer, d_is_integer := (PySem.W.fnOf "is_integer" "is_integer" (defArgs s_is_integer) (defBody s_is_integer) (defScope s_is_integer) .none kV_is_integer dc_is_integer pm_is_integer an_is_integer cd_is_integer ct_is_integer), F_is_integer := fun_mk (st := s_is_integer) l_is_integer c_is_integer k_is_integer,
    b_is_integer := (fun_mk (st := s_is_integer) l_is_integer c_is_integer k_is_integer).binds (ps := ["value"]) fun _ _ _ _ _ _ us hl => match us, hl with | [_], _ => rfl,
    g_is_integer := PySem.W.mg_of X G p_is_integer,
    a_is_name := f_is_name, d_is_name := (PySem.W.fnOf "is_name" "is_name" (defArgs s_is_name) (defBody s_is_name) (defScope s_is_name) .none kV_is_name dc_is_name pm_is_name an_is_name cd_is_name ct_is_name), F_is_name := fun_mk (st := s_is_name) l_is_name c_is_name k_is_name,
    b_is_name := (fun_mk (st := s_is_name) l_is_name c_is_name k_is_name).binds (ps := ["value"]) fun _ _ _ _ _ _ us hl => match us, hl with | [_], _ => rfl,
    g_is_name := PySem.W.mg_of X G p_is_name,
    a_are_names := f_are_names, d_are_names := (PySem.W.fnOf "are_names" "are_names" (defArgs s_are_names) (defBody s_are_names) (defScope s_are_names) .none kV_are_names dc_are_names pm_are_names an_are_names cd_are_names ct_are_names), F_are_names := fun_mk (st := s_are_names) l_are_names c_are_names k_are_names,
    b_are_names := (fun_mk (st := s_are_names) l_are_names c_are_names k_are_names).binds (ps := ["value"]) fun _ _ _ _ _ _ us hl => match us, hl with | [_], _ => rfl,
    g_are_names := PySem.W.mg_of X G p_are_names,
    a_is_ascending := f_is_ascending, d_is_ascending := (PySem.W.fnOf "is_ascending" "is_ascending" (defArgs s_is_ascending) (defBody s_is_ascending) (defScope s_is_ascending) .none kV_is_ascending dc_is_ascending pm_is_ascending an_is_ascending cd_is_ascending ct_is_ascending), F_is_ascending := fun_mk (st := s_is_ascending) l_is_ascending c_is_ascending k_is_ascending,
    b_is_ascending := (fun_mk (st := s_is_ascending) l_is_ascending c_is_ascending k_is_ascending).binds (ps := ["items"]) fun _ _ _ _ _ _ us hl => match us, hl with | [_], _ => rfl,
    g_is_ascending := PySem.W.mg_of X G p_is_ascending,
    a_is_lot := f_is_lot, d_is_lot := (PySem.W.fnOf "is_lot" "is_lot" (defArgs s_is_lot) (defBody s_is_lot) (defScope s_is_lot) .none kV_is_lot dc_is_lot pm_is_lot an_is_lot cd_is_lot ct_is_lot), F_is_lot := fun_mk (st := s_is_lot) l_is_lot c_is_lot k_is_lot,
    b_is_lot := (fun_mk (st := s_is_lot) l_is_lot c_is_lot k_is_lot).binds (ps := ["value"]) fun _ _ _ _ _ _ us hl => match us, hl with | [_], _ => rfl,
    g_is_lot := PySem.W.mg_of X G p_is_lot,
    a_is_pair := f_is_pair, d_is_pair := (PySem.W.fnOf "is_pair" "is_pair" (defArgs s_is_pair) (defBody s_is_pair) (defScope s_is_pair) .none kV_is_pair dc_is_pair pm_is_pair an_is_pair cd_is_pair ct_is_pair), F_is_pair := fun_mk (st := s_is_pair) l_is_pair c_is_pair k_is_pair,
    b_is_pair := (fun_mk (st := s_is_pair) l_is_pair c_is_pair k_is_pair).binds (ps := ["value"]) fun _ _ _ _ _ _ us hl => match us, hl with | [_], _ => rfl,
    g_is_pair := PySem.W.mg_of X G p_is_pair,
    a_is_space := f_is_space, d_is_space := (PySem.W.fnOf "is_space" "is_space" (defArgs s_is_space) (defBody s_is_space) (defScope s_is_space) .none kV_is_space dc_is_space pm_is_space an_is_space cd_is_space ct_is_space), F_is_space := fun_mk (st := s_is_space) l_is_space c_is_space k_is_space,
    b_is_space := (fun_mk (st := s_is_space) l_is_space c_is_space k_is_space).binds (ps := ["value"]) fun _ _ _ _ _ _ us hl => match us, hl with | [_], _ => rfl,
    g_is_space := PySem.W.mg_of X G p_is_space,
    a__law_bag := f__law_bag, d__law_bag := (PySem.W.fnOf "_law_bag" "_law_bag" (defArgs s__law_bag) (defBody s__law_bag) (defScope s__law_bag) .none kV__law_bag dc__law_bag pm__law_bag an__law_bag cd__law_bag ct__law_bag), F__law_bag := fun_mk (st := s__law_bag) l__law_bag c__law_bag k__law_bag,
    b__law_bag := (fun_mk (st := s__law_bag) l__law_bag c__law_bag k__law_bag).binds (ps := ["_law_script", "_law_at"]) fun _ _ _ _ _ _ us hl => match us, hl with | [_, _], _ => rfl,
    g__law_bag := PySem.W.mg_of X G p__law_bag,
    a__law_draw := f__law_draw, d__law_draw := (PySem.W.fnOf "_law_draw" "_law_draw" (defArgs s__law_draw) (defBody s__law_draw) (defScope s__law_draw) .none kV__law_draw dc__law_draw pm__law_draw an__law_draw cd__law_draw ct__law_draw), F__law_draw := fun_mk (st := s__law_draw) l__law_draw c__law_draw k__law_draw,
    b__law_draw := (fun_mk (st := s__law_draw) l__law_draw c__law_draw k__law_draw).binds (ps := ["_law_bag_here", "_law_total"]) fun _ _ _ _ _ _ us hl => match us, hl with | [_, _], _ => rfl,
    g__law_draw := PySem.W.mg_of X G p__law_draw,
    a__law_one_of := f__law_one_of, d__law_one_of := (PySem.W.fnOf "_law_one_of" "_law_one_of" (defArgs s__law_one_of) (defBody s__law_one_of) (defScope s__law_one_of) .none kV__law_one_of dc__law_one_of pm__law_one_of an__law_one_of cd__law_one_of ct__law_one_of), F__law_one_of := fun_mk (st := s__law_one_of) l__law_one_of c__law_one_of k__law_one_of,
    b__law_one_of := (fun_mk (st := s__law_one_of) l__law_one_of c__law_one_of k__law_one_of).binds (ps := ["_law_bag_here", "_law_items"]) fun _ _ _ _ _ _ us hl => match us, hl with | [_, _], _ => rfl,
    g__law_one_of := PySem.W.mg_of X G p__law_one_of,
    a__law_power := f__law_power, d__law_power := (PySem.W.fnOf "_law_power" "_law_power" (defArgs s__law_power) (defBody s__law_power) (defScope s__law_power) .none kV__law_power dc__law_power pm__law_power an__law_power cd__law_power ct__law_power), F__law_power := fun_mk (st := s__law_power) l__law_power c__law_power k__law_power,
    b__law_power := (fun_mk (st := s__law_power) l__law_power c__law_power k__law_power).binds (ps := ["_law_many"]) fun _ _ _ _ _ _ us hl => match us, hl with | [_], _ => rfl,
    g__law_power := PySem.W.mg_of X G p__law_power,
    a__law_word := f__law_word, d__law_word := (PySem.W.fnOf "_law_word" "_law_word" (defArgs s__law_word) (defBody s__law_word) (defScope s__law_word) .none kV__law_word dc__law_word pm__law_word an__law_word cd__law_word ct__law_word), F__law_word := fun_mk (st := s__law_word) l__law_word c__law_word k__law_word,
    b__law_word := (fun_mk (st := s__law_word) l__law_word c__law_word k__law_word).binds (ps := ["_law_bag_here"]) fun _ _ _ _ _ _ us hl => match us, hl with | [_], _ => rfl,
    g__law_word := PySem.W.mg_of X G p__law_word,
    a__law_any := f__law_any, d__law_any := (PySem.W.fnOf "_law_any" "_law_any" (defArgs s__law_any) (defBody s__law_any) (defScope s__law_any) .none kV__law_any dc__law_any pm__law_any an__law_any cd__law_any ct__law_any), F__law_any := fun_mk (st := s__law_any) l__law_any c__law_any k__law_any,
    b__law_any := (fun_mk (st := s__law_any) l__law_any c__law_any k__law_any).binds (ps := ["_law_bag_here"]) fun _ _ _ _ _ _ us hl => match us, hl with | [_], _ => rfl,
    g__law_any := PySem.W.mg_of X G p__law_any,
    a__law_is_word := f__law_is_word, d__law_is_word := (PySem.W.fnOf "_law_is_word" "_law_is_word" (defArgs s__law_is_word) (defBody s__law_is_word) (defScope s__law_is_word) .none kV__law_is_word dc__law_is_word pm__law_is_word an__law_is_word cd__law_is_word ct__law_is_word), F__law_is_word := fun_mk (st := s__law_is_word) l__law_is_word c__law_is_word k__law_is_word,
    b__law_is_word := (fun_mk (st := s__law_is_word) l__law_is_word c__law_is_word k__law_is_word).binds (ps := ["_law_value"]) fun _ _ _ _ _ _ us hl => match us, hl with | [_], _ => rfl,
    g__law_is_word := PySem.W.mg_of X G p__law_is_word,
    a__law_are_words := f__law_are_words, d__law_are_words := (PySem.W.fnOf "_law_are_words" "_law_are_words" (defArgs s__law_are_words) (defBody s__law_are_words) (defScope s__law_are_words) .none kV__law_are_words dc__law_are_words pm__law_are_words an__law_are_words cd__law_are_words ct__law_are_words), F__law_are_words := fun_mk (st := s__law_are_words) l__law_are_words c__law_are_words k__law_are_words,
    b__law_are_words := (fun_mk (st := s__law_are_words) l__law_are_words c__law_are_words k__law_are_words).binds (ps := ["_law_value"]) fun _ _ _ _ _ _ us hl => match us, hl with | [_], _ => rfl,
    g__law_are_words := PySem.W.mg_of X G p__law_are_words,
    a__law_right := f__law_right, d__law_right := (PySem.W.fnOf "_law_right" "_law_right" (defArgs s__law_right) (defBody s__law_right) (defScope s__law_right) .none kV__law_right dc__law_right pm__law_right an__law_right cd__law_right ct__law_right), F__law_right := fun_mk (st := s__law_right) l__law_right c__law_right k__law_right,
    b__law_right := (fun_mk (st := s__law_right) l__law_right c__law_right k__law_right).binds (ps := ["_law_bag_here"]) fun _ _ _ _ _ _ us hl => match us, hl with | [_], _ => rfl,
    g__law_right := PySem.W.mg_of X G p__law_right,
    a_law := f_law, d_law := (PySem.W.fnOf "law" "law" (defArgs s_law) (defBody s_law) (defScope s_law) .none kV_law dc_law pm_law an_law cd_law ct_law), F_law := fun_mk (st := s_law) l_law c_law k_law,
    b_law := (fun_mk (st := s_law) l_law c_law k_law).binds (ps := ["_law_script"]) fun _ _ _ _ _ _ us hl => match us, hl with | [_], _ => rfl,
    g_law := PySem.W.mg_of X G p_law,
    n_abs := PySem.W.mg_none_of X G z_abs,
    n_all := PySem.W.mg_none_of X G z_all,
    n_bool := PySem.W.mg_none_of X G z_bool,
    n_int := PySem.W.mg_none_of X G z_int,
    n_isinstance := PySem.W.mg_none_of X G z_isinstance,
    n_len := PySem.W.mg_none_of X G z_len,
    n_max := PySem.W.mg_none_of X G z_max,
    n_min := PySem.W.mg_none_of X G z_min,
    n_range := PySem.W.mg_none_of X G z_range,
    n_repr := PySem.W.mg_none_of X G z_repr,
    n_sorted := PySem.W.mg_none_of X G z_sorted,
    n_str := PySem.W.mg_none_of X G z_str,
    n_sum := PySem.W.mg_none_of X G z_sum,
    n_tuple := PySem.W.mg_none_of X G z_tuple,
    n_zip := PySem.W.mg_none_of X G z_zip,
    t_BEYOND := w_BEYOND, c_BEYOND := by subst e_BEYOND; exact PySem.W.mg_of X G v_BEYOND,
    t_LETTERS := w_LETTERS, c_LETTERS := PySem.W.mg_of X G v_LETTERS,
    t_MAX_DIGITS := w_MAX_DIGITS, c_MAX_DIGITS := PySem.W.mg_of X G v_MAX_DIGITS,
    t_MAX_LETTERS := w_MAX_LETTERS, c_MAX_LETTERS := PySem.W.mg_of X G v_MAX_LETTERS }
  exact ⟨(PySem.W.fnOf "law" "law" (defArgs s_law) (defBody s_law) (defScope s_law) .none kV_law dc_law pm_law an_law cd_law ct_law), fun s v => .of_eq rfl, fun base _ _ => ok_law T⟩
end K01
open PySem PySem.W PyProof.Rows
set_option maxRecDepth 100000 in
set_option maxHeartbeats 0 in
theorem PySem.Challenge.cw_lengthstell_k01_words_and_lots_holds : PySem.Challenge.rw_lengthstell_k01_words_and_lots.Holds := by
  w_on; o_law; k_head; (case hw => w_witness2)
  k_fill
  refine DL.walkG (l := PySem.Challenge.rw_lengthstell_k01_words_and_lots) (n := 63) (k := 6) (x := "_law_script") (sp := fun w => DL.spLaw _) rfl (by decide) rfl ⟨rfl, by decide, by decide⟩ (fun w h Y => PySem.W.kIn_of Y) ?F (fun _ H a ns hl _ hS => ⟨H, a, ns, rfl, Evl.Ex.refl H, hS, hl, fun _ => rfl⟩)
  case F =>
    intro w mg fa h KX G hmg
    refine' K01.all_mk KX G hmg ?p_is_whole ?l_is_whole ?c_is_whole ?k_is_whole ?p_is_within ?l_is_within ?c_is_within ?k_is_within ?p_is_integer ?l_is_integer ?c_is_integer ?k_is_integer ?p_is_name ?l_is_name ?c_is_name ?k_is_name ?p_are_names ?l_are_names ?c_are_names ?k_are_names ?p_is_ascending ?l_is_ascending ?c_is_ascending ?k_is_ascending ?p_is_lot ?l_is_lot ?c_is_lot ?k_is_lot ?p_is_pair ?l_is_pair ?c_is_pair ?k_is_pair ?p_is_space ?l_is_space ?c_is_space ?k_is_space ?p__law_bag ?l__law_bag ?c__law_bag ?k__law_bag ?p__law_draw ?l__law_draw ?c__law_draw ?k__law_draw ?p__law_one_of ?l__law_one_of ?c__law_one_of ?k__law_one_of ?p__law_power ?l__law_power ?c__law_power ?k__law_power ?p__law_word ?l__law_word ?c__law_word ?k__law_word ?p__law_any ?l__law_any ?c__law_any ?k__law_any ?p__law_is_word ?l__law_is_word ?c__law_is_word ?k__law_is_word ?p__law_are_words ?l__law_are_words ?c__law_are_words ?k__law_are_words ?p__law_right ?l__law_right ?c__law_right ?k__law_right ?p_law ?l_law ?c_law ?k_law ?z_abs ?z_all ?z_bool ?z_int ?z_isinstance ?z_len ?z_max ?z_min ?z_range ?z_repr ?z_sorted ?z_str ?z_sum ?z_tuple ?z_zip ?v_BEYOND ?e_BEYOND ?v_LETTERS ?v_MAX_DIGITS ?v_MAX_LETTERS
    (case p_is_whole => k_is)
    (case l_is_whole => k_is)
    (case c_is_whole => k_is)
    (case k_is_whole => k_is)
    (case p_is_within => k_is)
    (case l_is_within => k_is)
    (case c_is_within => k_is)
    (case k_is_within => k_is)
    (case p_is_integer => k_is)
    (case l_is_integer => k_is)
    (case c_is_integer => k_is)
    (case k_is_integer => k_is)
    (case p_is_name => k_is)
    (case l_is_name => k_is)
    (case c_is_name => k_is)
    (case k_is_name => k_is)
    (case p_are_names => k_is)
    (case l_are_names => k_is)
    (case c_are_names => k_is)
    (case k_are_names => k_is)
    (case p_is_ascending => k_is)
    (case l_is_ascending => k_is)
    (case c_is_ascending => k_is)
    (case k_is_ascending => k_is)
    (case p_is_lot => k_is)
    (case l_is_lot => k_is)
    (case c_is_lot => k_is)
    (case k_is_lot => k_is)
    (case p_is_pair => k_is)
    (case l_is_pair => k_is)
    (case c_is_pair => k_is)
    (case k_is_pair => k_is)
    (case p_is_space => k_is)
    (case l_is_space => k_is)
    (case c_is_space => k_is)
    (case k_is_space => k_is)
    (case p__law_bag => k_is)
    (case l__law_bag => k_is)
    (case c__law_bag => k_is)
    (case k__law_bag => k_is)
    (case p__law_draw => k_is)
    (case l__law_draw => k_is)
    (case c__law_draw => k_is)
    (case k__law_draw => k_is)
    (case p__law_one_of => k_is)
    (case l__law_one_of => k_is)
    (case c__law_one_of => k_is)
    (case k__law_one_of => k_is)
    (case p__law_power => k_is)
    (case l__law_power => k_is)
    (case c__law_power => k_is)
    (case k__law_power => k_is)
    (case p__law_word => k_is)
    (case l__law_word => k_is)
    (case c__law_word => k_is)
    (case k__law_word => k_is)
    (case p__law_any => k_is)
    (case l__law_any => k_is)
    (case c__law_any => k_is)
    (case k__law_any => k_is)
    (case p__law_is_word => k_is)
    (case l__law_is_word => k_is)
    (case c__law_is_word => k_is)
    (case k__law_is_word => k_is)
    (case p__law_are_words => k_is)
    (case l__law_are_words => k_is)
    (case c__law_are_words => k_is)
    (case k__law_are_words => k_is)
    (case p__law_right => k_is)
    (case l__law_right => k_is)
    (case c__law_right => k_is)
    (case k__law_right => k_is)
    (case p_law => k_is)
    (case l_law => k_is)
    (case c_law => k_is)
    (case k_law => k_is)
    (case z_abs => k_is)
    (case z_all => k_is)
    (case z_bool => k_is)
    (case z_int => k_is)
    (case z_isinstance => k_is)
    (case z_len => k_is)
    (case z_max => k_is)
    (case z_min => k_is)
    (case z_range => k_is)
    (case z_repr => k_is)
    (case z_sorted => k_is)
    (case z_str => k_is)
    (case z_sum => k_is)
    (case z_tuple => k_is)
    (case z_zip => k_is)
    (case v_BEYOND => k_is)
    (case v_LETTERS => k_is)
    (case v_MAX_DIGITS => k_is)
    (case v_MAX_LETTERS => k_is)
    (case e_BEYOND => (unfold DL.BEY; decide +kernel))
