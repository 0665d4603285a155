import PyProof.Rows.All
import Wide.All
import OpenK.AllK
import Wide.FinOn
import HandS.ForMost
import HandS.Walk
import HandS.Evl
import HandS.IsInst
import HandS.Wide
import HandS.Steps
import HandS.TupAny
import HandS.Zip
import HandS.Slots
import HandS.SlotsOwn
import HandS.TupMul
import HandS.Deep
import HandS.Flow
import HandS.AnyAll
import HandS.Nested
import KE.KDictIter
import PyProof.GenCompT
import KE.KNestM
import KE.GoesMore
import HandS.Style
import HandS.WideBits
import HandS.Star
import PyProof.Rows.RegStrFacts
import PyProof.ReprBulk
import HandS.Exc
import HandS.ExcOwn
import HandS.ExcInit
import KE.KExcSuper
import KE.KExcInit
import HandS.TryMany
import HandS.ExcField
import HandS.Lambda
import HandS.WordsExc
import HandS.TupSets
import HandS.SetFor
import KE.KDictKeyed
import KE.SortData
import HandS.SortOrd
import PyProof.TupleOfSeq
import HandS.Dict
import HandS.DictComp
import HandS.ListItems
import HandS.More
import HandS.WordsDict
import KE.KDictCopyH
import KE.KDictList
import KE.KDictPairs
import HandS.DictEq
import KE.KEqDict
import PyProof.DictFindH
import HandS.GenList
import PyProof.GenComp
import PyProof.GenCompD
import HandS.Defaults
import HandS.MakeKwOnly
import KE.KEqNest
import PyProof.NeKinds
import HandS.HotCalls
import HandS.ExcIs
import HandS.RaiseMore
import PyProof.StrOps2
import KE.KExcLine
import KE.RegKSuper
import PySem.Challenge.RW_lengthstell_k00_whole_errors
set_option Elab.async false
set_option linter.all false
set_option maxRecDepth 100000
set_option maxHeartbeats 4000000
set_option exponentiation.threshold 20000
namespace DL
open PySem L2 Evl
def kD : Key → PyData
  | .inl i => .int i
  | .inr s => .str s
/-- the kinds that isinstance is asked for -/
def builtTs : List String := ["int", "bool", "str", "tuple", "list", "dict"]
/-- what the class at C must say -/
structure InC (K : PySem.W.Frag) (C : Addr) : Prop where
  sc : SlX.SCls K C
  si : SlX.SIsi K C
  kb : ∀ T ∈ builtTs, PySem.W.kitOne K (.ref C) (.type T) = some false
/-- where the classes of the program stand -/
class CTab where
  ct : Str → Option Addr
  inj : ∀ x y c, ct x = some c → ct y = some c → x = y
variable [CTab]
/-- a locked thing: it is read, and no more written -/
def Fz (H : Hp) (a : Addr) (u : HO) : Prop := ∃ o, H a = some (.frz o u)
/-- what has been made is locked -/
def tFrz (t : TE) : TE := fun σ H Q => t σ H fun v H' => ∃ p u, v = .ref p ∧ H' p = some u ∧ Mut (some u) ∧ ∀ od, Q v (upd H' p (.frz od u))
theorem pe_frz {X : Cx} {e : Expr} {t : TE} (h : PE X e t) : PE X e (tFrz t) := by
  refine ⟨fun pins s σ H Q I q => thn (h.run pins s σ H _ I q) fun v s1 ⟨x, H1, I1, r, p, u, ex, hp, mu, q1⟩ => ?_⟩
  obtain ⟨od, I2⟩ := I1.lock hp mu
  exact ⟨x, _, I2, r, q1 od⟩
/-- the slots that hold something, by their numbers -/
def setF : Nat → List (Option V) → List (PyData × V)
  | _, [] => []
  | i, some v :: vs => (.int (i : Nat), v) :: setF (i + 1) vs
  | i, none :: vs => setF (i + 1) vs
/-- a thing that is told as a dict: its keys and values. An instance of the class nm: (None, nm), (0, slot 0), .. -/
inductive DicH (K : PySem.W.Frag) (H : Hp) (a : Addr) : List (PyData × V) → Prop
  | k {kvs : List (Key × V)} : Fz H a (.dK kvs) → DicH K H a (kvs.map fun p => (kD p.1, p.2))
  | t {kvs : List (List Key × V)} : Fz H a (.dT kvs) → DicH K H a (kvs.map fun p => (.tuple (p.1.map kD), p.2))
  | o {nm : Str} {C dx : Addr} {vs : List (Option V)} : CTab.ct nm = some C → InC K C → H a = some (SlX.SlO a C dx vs) → H dx = some (.xd []) →
      DicH K H a ((.none, .str nm) :: setF 0 vs)
/-- a tuple that has been made (or any empty one) -/
def TpH (K : PySem.W.Frag) (H : Hp) (a : Addr) (xs : List V) : Prop := H a = some (.tup xs) ∨ (xs = [] ∧ SqT K H a [])
theorem TpH.sq {K : PySem.W.Frag} {H : Hp} {a : Addr} {xs : List V} (h : TpH K H a xs) : SqT K H a xs := by
  rcases h with h | ⟨rfl, h⟩
  · exact .inl (.inl h)
  · exact h
theorem TpH.mono {K : PySem.W.Frag} {H H' : Hp} {a : Addr} {xs : List V} (e : Ex H H') (h : TpH K H a xs) : TpH K H' a xs := h.imp (e _ _) fun z => ⟨z.1, ex_t e z.2⟩
theorem ex_tp {K : PySem.W.Frag} {H H' : Hp} {a : Addr} {xs : List V} (e : Ex H H') (h : TpH K H a xs) : SqT K H' a xs := (h.mono e).sq
mutual
inductive Rp (K : PySem.W.Frag) (H : Hp) : V → PyData → Prop
  | non : Rp K H .non .none
  | bl (b : Bool) : Rp K H (.bl b) (.bool b)
  | int (i : Int) : Rp K H (.int i) (.int i)
  | str (x : Str) : Rp K H (.str x) (.str x)
  | lst {a : Addr} {xs : List V} {ds : List PyData} : SqL K H a xs → RpAll K H xs ds → Rp K H (.ref a) (.list ds)
  | tup {a : Addr} {xs : List V} {ds : List PyData} : TpH K H a xs → RpAll K H xs ds → Rp K H (.ref a) (.tuple ds)
  | dic {a : Addr} {kvs : List (PyData × V)} {ds : List (PyData × PyData)} : DicH K H a kvs → RpKv K H kvs ds → Rp K H (.ref a) (.dict ds)
inductive RpAll (K : PySem.W.Frag) (H : Hp) : List V → List PyData → Prop
  | nil : RpAll K H [] []
  | cons {v : V} {vs : List V} {d : PyData} {ds : List PyData} : Rp K H v d → RpAll K H vs ds → RpAll K H (v :: vs) (d :: ds)
inductive RpKv (K : PySem.W.Frag) (H : Hp) : List (PyData × V) → List (PyData × PyData) → Prop
  | nil : RpKv K H [] []
  | cons {k : PyData} {v : V} {vs : List (PyData × V)} {d : PyData} {ds : List (PyData × PyData)} : Rp K H v d → RpKv K H vs ds → RpKv K H ((k, v) :: vs) ((k, d) :: ds)
end
theorem fzEx {H H' : Hp} {a : Addr} {u : HO} (e : Ex H H') : Fz H a u → Fz H' a u := fun ⟨o, h⟩ => ⟨o, e _ _ h⟩
theorem Fz.rd {H : Hp} {a : Addr} {u : HO} (h : Fz H a u) : Rd H a u := .inr h
theorem rdEx {H H' : Hp} {a : Addr} {u : HO} (e : Ex H H') : Rd H a u → Rd H' a u
  | .inl h => .inl (e _ _ h)
  | .inr ⟨o, h⟩ => .inr ⟨o, e _ _ h⟩
theorem DicH.mono {K : PySem.W.Frag} {H H' : Hp} {a : Addr} {kvs : List (PyData × V)} (e : Ex H H') : DicH K H a kvs → DicH K H' a kvs
  | .k h => .k (fzEx e h)
  | .t h => .t (fzEx e h)
  | .o h1 h2 h3 h4 => .o h1 h2 (e _ _ h3) (e _ _ h4)
variable {K : PySem.W.Frag} {H H' H1 H2 : Hp}
mutual
theorem Rp.mono (e : Ex H H') : ∀ {v : V} {d : PyData}, Rp K H v d → Rp K H' v d
  | _, _, .non => .non
  | _, _, .bl b => .bl b
  | _, _, .int i => .int i
  | _, _, .str x => .str x
  | _, _, .lst h r => .lst (ex_l e h) (RpAll.mono e r)
  | _, _, .tup h r => .tup (h.mono e) (RpAll.mono e r)
  | _, _, .dic h r => .dic (h.mono e) (RpKv.mono e r)
theorem RpAll.mono (e : Ex H H') : ∀ {vs : List V} {ds : List PyData}, RpAll K H vs ds → RpAll K H' vs ds
  | _, _, .nil => .nil
  | _, _, .cons h r => .cons (Rp.mono e h) (RpAll.mono e r)
theorem RpKv.mono (e : Ex H H') : ∀ {vs : List (PyData × V)} {ds : List (PyData × PyData)}, RpKv K H vs ds → RpKv K H' vs ds
  | _, _, .nil => .nil
  | _, _, .cons h r => .cons (Rp.mono e h) (RpKv.mono e r)
end
theorem RpAll.len : ∀ {vs : List V} {ds : List PyData}, RpAll K H vs ds → vs.length = ds.length
  | _, _, .nil => rfl
  | _, _, .cons _ r => congrArg (· + 1) (RpAll.len r)
theorem RpAll.get : ∀ {vs : List V} {ds : List PyData} {i : Nat} {v : V}, RpAll K H vs ds → vs[i]? = some v → ∃ d, ds[i]? = some d ∧ Rp K H v d
  | _, _, _, _, .nil, e => by simp at e
  | _, _, 0, _, .cons h _, e => ⟨_, rfl, by cases (Option.some.inj e); exact h⟩
  | _, _, i + 1, v, .cons _ r, e => by
    obtain ⟨d, h1, h2⟩ := RpAll.get (i := i) (v := v) r (by simpa using e)
    exact ⟨d, by simpa using h1, h2⟩
theorem RpAll.get' : ∀ {vs : List V} {ds : List PyData} {i : Nat} {d : PyData}, RpAll K H vs ds → ds[i]? = some d → ∃ v, vs[i]? = some v ∧ Rp K H v d
  | _, _, _, _, .nil, e => by simp at e
  | _, _, 0, _, .cons h _, e => ⟨_, rfl, by cases (Option.some.inj e); exact h⟩
  | _, _, i + 1, d, .cons _ r, e => by
    obtain ⟨v, h1, h2⟩ := RpAll.get' (i := i) (d := d) r (by simpa using e)
    exact ⟨v, by simpa using h1, h2⟩
theorem RpAll.append : ∀ {vs ws : List V} {ds es : List PyData}, RpAll K H vs ds → RpAll K H ws es → RpAll K H (vs ++ ws) (ds ++ es)
  | _, _, _, _, .nil, s => s
  | _, _, _, _, .cons h r, s => .cons h (RpAll.append r s)
theorem RpAll.take : ∀ {vs : List V} {ds : List PyData} (n : Nat), RpAll K H vs ds → RpAll K H (vs.take n) (ds.take n)
  | _, _, 0, _ => .nil
  | _, _, n + 1, .nil => .nil
  | _, _, n + 1, .cons h r => .cons h (RpAll.take n r)
theorem RpAll.drop : ∀ {vs : List V} {ds : List PyData} (n : Nat), RpAll K H vs ds → RpAll K H (vs.drop n) (ds.drop n)
  | _, _, 0, r => r
  | _, _, n + 1, .nil => .nil
  | _, _, n + 1, .cons h r => RpAll.drop n r
theorem RpAll.ints : ∀ {vs : List V} {ns : List Int}, RpAll K H vs (ns.map .int) → vs = ns.map .int
  | [], [], _ => rfl
  | _ :: _, _ :: _, .cons (.int _) r => congrArg _ (RpAll.ints r)
theorem RpAll.of_ints : ∀ {ns : List Int}, RpAll K H (ns.map .int) (ns.map .int)
  | [] => .nil
  | _ :: _ => .cons (.int _) RpAll.of_ints
mutual
theorem Rp.dp : ∀ {v : V} {d : PyData}, Rp K H v d → d.canLay0 = true → Dp K H v d
  | _, _, .non, _ => .non
  | _, _, .bl b, _ => .bl b
  | _, _, .int i, _ => .int i
  | _, _, .str x, _ => .str x
  | _, _, .lst h r, p => .lst h (RpAll.dp r (by simpa [PyData.canLay0] using p))
  | _, _, .tup h r, p => .tup h.sq (RpAll.dp r (by simpa [PyData.canLay0] using p))
  | _, _, .dic h r, p => by simp [PyData.canLay0] at p
theorem RpAll.dp : ∀ {vs : List V} {ds : List PyData}, RpAll K H vs ds → PyData.canLayAll0 ds = true → DpAll K H vs ds
  | _, _, .nil, _ => .nil
  | v :: vs, d :: ds, .cons h r, p => by
    have q : d.canLay0 = true ∧ PyData.canLayAll0 ds = true := by simpa [PyData.canLayAll0] using p
    exact .cons (Rp.dp h q.1) (RpAll.dp r q.2)
end
/-- no tuple (tuples may be told later than they were made) -/
def NT (o : HO) : Prop := ∀ xs, o ≠ .tup xs
theorem NT.of {o u : HO} (e : some u = some o) (t : NT o) : NT u := by cases e; exact t
theorem NT.lst {xs : List V} : NT (.lst xs) := fun _ z => nomatch z
structure Grow (H H1 Hk H2 : Hp) : Prop where
  known : Ex H Hk
  sub : Ex Hk H2
  all : Ex H1 H2
  fresh : ∀ p o, Hk p = some o → H p = none → NT o → H1 p = none
theorem ex_none {H H' : Hp} (e : Ex H H') {p : Addr} (h : H' p = none) : H p = none := fresh_back e h
theorem Grow.refl {H H1 : Hp} (e : Ex H H1) : Grow H H1 H H1 := ⟨Ex.refl H, e, Ex.refl H1, fun p o h n _ => by rw [h] at n; cases n⟩
theorem Grow.trans {H H1 Hk H2 Hm H3 : Hp} (a : Grow H H1 Hk H2) (b : Grow Hk H2 Hm H3) : Grow H H1 Hm H3 :=
  ⟨a.known.trans b.known, b.sub, a.all.trans b.all, fun p o h n t => by
    cases q : Hk p with
    | some u => exact a.fresh p u q n (NT.of ((b.known p u q).symm.trans h) t)
    | none => exact ex_none a.all (b.fresh p o h q t)⟩
theorem ex_upd {H H' : Hp} (e : Ex H H') (p : Addr) (o : HO) : Ex (upd H p o) (upd H' p o) := fun a u h => by
  by_cases ha : a = p
  · subst ha; rw [upd_same] at h ⊢; exact h
  · rw [upd_ne ha] at h ⊢; exact e a u h
theorem Grow.new {H H1 : Hp} {p : Addr} (e : Ex H H1) (hp : H1 p = none) (o : HO) : Grow H H1 (upd H p o) (upd H1 p o) :=
  ⟨Ex.new (ex_none e hp), ex_upd e p o, Ex.new hp, fun a u h n _ => by
    by_cases ha : a = p
    · subst ha; exact hp
    · rw [upd_ne ha] at h; rw [h] at n; cases n⟩
/-- a new thing that is not told -/
theorem Grow.hide {H H1 : Hp} {p : Addr} (e : Ex H H1) (hp : H1 p = none) (o : HO) : Grow H H1 H (upd H1 p o) :=
  ⟨Ex.refl H, e.trans (Ex.new hp), Ex.new hp, fun a u h n _ => by rw [h] at n; cases n⟩
/-- what is not known stays unknown -/
theorem Grow.unk {H H1 Hk H2 : Hp} (g : Grow H H1 Hk H2) {p : Addr} {o : HO} (h : H p = none) (h1 : H1 p = some o) (t : NT o) : Hk p = none := by
  cases q : Hk p with
  | none => rfl
  | some u => rw [g.fresh p u q h (NT.of ((g.sub p u q).symm.trans (g.all p o h1)) t)] at h1; cases h1
def both (A B : Hp) : Hp := fun p => match A p with | some o => some o | none => B p
theorem both_l {A B : Hp} : Ex A (both A B) := fun p o h => by unfold both; rw [h]
theorem both_r {A B C : Hp} (a : Ex A C) (b : Ex B C) : Ex B (both A B) := fun p o h => by
  unfold both
  cases q : A p with
  | none => exact h
  | some u => exact ((a p u q).symm.trans (b p o h))
theorem both_sub {A B C : Hp} (a : Ex A C) (b : Ex B C) : Ex (both A B) C := fun p o h => by
  unfold both at h
  cases q : A p with
  | none => rw [q] at h; exact b p o h
  | some u => rw [q] at h; exact a p o (q.trans h)
/-- more was known -/
theorem Grow.more {H Hm H1 Hk H2 : Hp} (a : Ex H Hm) (e : Ex Hm H1) (g : Grow H H1 Hk H2) : Grow Hm H1 (both Hm Hk) H2 :=
  ⟨both_l, both_sub (e.trans g.all) g.sub, g.all, fun p o h n t => by
    unfold both at h
    rw [n] at h
    exact g.fresh p o h (ex_none a n) t⟩
theorem Grow.moreR {H Hm H1 Hk H2 : Hp} (e : Ex Hm H1) (g : Grow H H1 Hk H2) : Ex Hk (both Hm Hk) := both_r (e.trans g.all) g.sub
/-- te gives some datum of P, and leaves what is known -/
def EvP (K : PySem.W.Frag) (te : TE) (σ : L2.St) (H : Hp) (P : PyData → Prop) : Prop :=
  ∀ H1, Ex H H1 → ∀ Q : VK, (∀ v d Hk H2, Grow H H1 Hk H2 → Rp K Hk v d → P d → Q v H2) → te σ H1 Q
abbrev EvD (K : PySem.W.Frag) (te : TE) (σ : L2.St) (H : Hp) (d : PyData) : Prop := EvP K te σ H (· = d)
def EvAs (K : PySem.W.Frag) (ta : TA) (σ : L2.St) (H : Hp) (P : List PyData → Prop) : Prop :=
  ∀ H1, Ex H H1 → ∀ Q : List V → Hp → Prop, (∀ vs ds Hk H2, Grow H H1 Hk H2 → RpAll K Hk vs ds → P ds → Q vs H2) → ta σ H1 Q
/-- a test -/
def EvTP (tt : TT) (σ : L2.St) (H : Hp) (P : Bool → Prop) : Prop :=
  ∀ H1, Ex H H1 → ∀ Q : Bool → Hp → Prop, (∀ b Hk H2, Grow H H1 Hk H2 → P b → Q b H2) → tt σ H1 Q
/-- an operation of two values, a call of values -/
def RD (K : PySem.W.Frag) (r : R2) (d1 d2 : PyData) (P : PyData → Prop) : Prop :=
  ∀ v1 v2 H H1, Ex H H1 → Rp K H v1 d1 → Rp K H v2 d2 → ∀ Q : VK, (∀ v d Hk H2, Grow H H1 Hk H2 → Rp K Hk v d → P d → Q v H2) → r v1 v2 H1 Q
def RCD (K : PySem.W.Frag) (r : List V → Hp → VK → Prop) (ds : List PyData) (P : PyData → Prop) : Prop :=
  ∀ vs H H1, Ex H H1 → RpAll K H vs ds → ∀ Q : VK, (∀ v d Hk H2, Grow H H1 Hk H2 → Rp K Hk v d → P d → Q v H2) → r vs H1 Q
section
variable {σ : L2.St} {ta tb tc te : TE} {tt tu : TT} {P P1 P2 : PyData → Prop} {d d1 d2 : PyData} {r r' : R2}
theorem EvP.mono (a : Ex H H') (h : EvP K te σ H P) : EvP K te σ H' P := fun H1 e Q q => h H1 (a.trans e) Q fun v d Hk H2 g r p => q v d _ H2 (g.more a e) (r.mono (g.moreR e)) p
theorem EvAs.mono {ta : TA} {P : List PyData → Prop} (a : Ex H H') (h : EvAs K ta σ H P) : EvAs K ta σ H' P := fun H1 e Q q => h H1 (a.trans e) Q fun v d Hk H2 g r p => q v d _ H2 (g.more a e) (r.mono (g.moreR e)) p
theorem EvTP.mono {P : Bool → Prop} (a : Ex H H') (h : EvTP tt σ H P) : EvTP tt σ H' P := fun H1 e Q q => h H1 (a.trans e) Q fun b Hk H2 g p => q b _ H2 (g.more a e) p
theorem EvP.weak (h : EvP K te σ H P1) (w : ∀ d, P1 d → P2 d) : EvP K te σ H P2 := fun H1 a Q q => h H1 a Q fun v d Hk H2 e r p => q v d Hk H2 e r (w d p)
theorem EvP.is (h : EvD K te σ H d1) (e : d1 = d2) : EvD K te σ H d2 := by subst e; exact h
theorem evp_var {i : Nat} {v : V} (h : σ[i]? = some (some v)) (r : Rp K H v d) : EvD K (tVar i) σ H d := fun H1 e Q q => ⟨v, h, q v d H H1 (Grow.refl e) r rfl⟩
theorem evp_c {v : V} (r : Rp K H v d) : EvD K (tC v) σ H d := fun H1 e _ q => q _ _ H H1 (Grow.refl e) r rfl
theorem evp_int {i : Int} : EvD K (tC (.int i)) σ H (.int i) := evp_c (.int i)
theorem evp_op (ha : EvP K ta σ H P1) (hb : EvP K tb σ H P2) (hr : ∀ d1 d2, P1 d1 → P2 d2 → RD K r d1 d2 P) : EvP K (tOp r ta tb) σ H P := fun H1 e Q q =>
  ha H1 e _ fun v1 d1 Hk2 H2 g2 r1 p1 => hb.mono g2.known H2 g2.sub _ fun v2 d2 Hk3 H3 g3 r2 p2 => hr d1 d2 p1 p2 v1 v2 Hk3 H3 g3.sub (r1.mono g3.known) r2 Q fun v d Hk4 H4 g4 r4 p4 => q v d Hk4 H4 ((g2.trans g3).trans g4) r4 p4
/-- both known -/
theorem evd_op (ha : EvD K ta σ H d1) (hb : EvD K tb σ H d2) (hr : RD K r d1 d2 P) : EvP K (tOp r ta tb) σ H P :=
  evp_op ha hb fun _ _ e1 e2 => by subst e1; subst e2; exact hr
theorem rd_I0 {g : Int → Int → Int} {i j : Int} : RD K (rI0 fun i j => .int (g i j)) (.int i) (.int j) (· = .int (g i j)) := fun _ _ H H1 e r1 r2 Q q => by
  cases r1; cases r2; exact ⟨i, j, rfl, rfl, q _ _ H H1 (Grow.refl e) (.int _) rfl⟩
theorem rd_I {C : Int → Int → Prop} {g : Int → Int → Int} {i j : Int} (c : C i j) : RD K (rI C fun i j => .int (g i j)) (.int i) (.int j) (· = .int (g i j)) := fun _ _ H H1 e r1 r2 Q q => by
  cases r1; cases r2; exact ⟨i, j, rfl, rfl, c, q _ _ H H1 (Grow.refl e) (.int _) rfl⟩
theorem rd_B0 {g : Int → Int → Bool} {i j : Int} : RD K (rI0 fun i j => .bl (g i j)) (.int i) (.int j) (· = .bool (g i j)) := fun _ _ H H1 e r1 r2 Q q => by
  cases r1; cases r2; exact ⟨i, j, rfl, rfl, q _ _ H H1 (Grow.refl e) (.bl _) rfl⟩
/-- arguments -/
theorem eas_nil : EvAs K tNil σ H (· = []) := fun H1 e _ q => q _ _ H H1 (Grow.refl e) .nil rfl
theorem eas_cons {tr : TA} {P1 : PyData → Prop} {P2 : List PyData → Prop} (h : EvP K ta σ H P1) (hr : EvAs K tr σ H P2) : EvAs K (tCons ta tr) σ H (fun ds => ∃ d es, ds = d :: es ∧ P1 d ∧ P2 es) := fun H1 e Q q =>
  h H1 e _ fun v d Hk2 H2 g2 r2 p2 => hr.mono g2.known H2 g2.sub _ fun vs ds Hk3 H3 g3 r3 p3 => q (v :: vs) (d :: ds) Hk3 H3 (g2.trans g3) (.cons (r2.mono g3.known) r3) ⟨d, ds, rfl, p2, p3⟩
abbrev EvA1 (K : PySem.W.Frag) (ta : TA) (σ : L2.St) (H : Hp) (ds : List PyData) : Prop := EvAs K ta σ H (· = ds)
theorem eas1 {tr : TA} {ds : List PyData} (h : EvD K ta σ H d) (hr : EvA1 K tr σ H ds) : EvA1 K (tCons ta tr) σ H (d :: ds) := fun H1 e Q q =>
  eas_cons h hr H1 e Q fun vs es Hk H2 g r p => q vs es Hk H2 g r (by obtain ⟨d', es', rfl, rfl, rfl⟩ := p; rfl)
theorem evp_cb {rr : List V → Hp → VK → Prop} {tr : TA} {P1 : List PyData → Prop} (h : EvAs K tr σ H P1) (hr : ∀ ds, P1 ds → RCD K rr ds P) : EvP K (tCB rr tr) σ H P := fun H1 e Q q =>
  h H1 e _ fun vs ds Hk2 H2 g2 r2 p2 => hr ds p2 vs Hk2 H2 g2.sub r2 Q fun v d Hk3 H3 g3 r3 p3 => q v d Hk3 H3 (g2.trans g3) r3 p3
theorem evd_cb {rr : List V → Hp → VK → Prop} {tr : TA} {ds : List PyData} (h : EvA1 K tr σ H ds) (hr : RCD K rr ds P) : EvP K (tCB rr tr) σ H P := evp_cb h fun _ e => by subst e; exact hr
abbrev EvT1 (tt : TT) (σ : L2.St) (H : Hp) (b : Bool) : Prop := EvTP tt σ H (· = b)
theorem etp_test {b : Bool} (h : EvD K te σ H (.bool b)) : EvT1 (tTest te) σ H b := fun H1 e Q q => h H1 e _ fun v d Hk H2 g2 r2 p2 => by
  subst p2; cases r2; exact ⟨b, rfl, q b Hk H2 g2 rfl⟩
theorem evp_if {b : Bool} (h : EvT1 tt σ H b) (h1 : b = true → EvP K ta σ H P) (h2 : b = false → EvP K tb σ H P) : EvP K (tIf tt ta tb) σ H P := fun H1 e Q q => h H1 e _ fun c Hk2 H2 g2 p2 => by
  subst p2
  cases c with
  | true => exact (h1 rfl).mono g2.known H2 g2.sub Q fun v d Hk3 H3 g3 r3 p3 => q v d Hk3 H3 (g2.trans g3) r3 p3
  | false => exact (h2 rfl).mono g2.known H2 g2.sub Q fun v d Hk3 H3 g3 r3 p3 => q v d Hk3 H3 (g2.trans g3) r3 p3
end
def tyOf : PyData → String
  | .none => "NoneType"
  | .bool _ => "bool"
  | .int _ => "int"
  | .str _ => "str"
  | .list _ => "list"
  | .tuple _ => "tuple"
  | .dict _ => "dict"
/-- an instance of a class of the program -/
def insB : List (PyData × PyData) → Bool
  | (.none, _) :: _ => true
  | _ => false
def insD : PyData → Bool
  | .dict kvs => insB kvs
  | _ => false
def isDic : PyData → Bool
  | .dict kvs => !insB kvs
  | _ => false
/-- a value's type, wider still: locked dicts with tuple keys, instances with slots -/
inductive TyY (K : PySem.W.Frag) (H : Hp) : V → Value → Prop where
  | x {v : V} {t : Value} (h : TyX K H v t) : TyY K H v t
  | fT {a : Addr} {o : Obj} {kvs : List (List Key × V)} (e : H a = some (.frz o (.dT kvs))) : TyY K H (.ref a) (.type "dict")
  | ins {a C dx : Addr} {vs : List (Option V)} (c : InC K C) (e : H a = some (SlX.SlO a C dx vs)) (e2 : H dx = some (.xd [])) : TyY K H (.ref a) (.ref C)
theorem Rp.ty {v : V} {d : PyData} (r : Rp K H v d) (hi : insD d = false) : TyY K H v (.type (tyOf d)) := by
  cases r with
  | non => exact .x (.base .non)
  | bl b => exact .x (.base (.bl b))
  | int i => exact .x (.base (.int i))
  | str x => exact .x (.base (.str x))
  | lst h _ =>
    rcases h with (h | ⟨o, h⟩) | ⟨o, its, n, h, c, _⟩
    · exact .x (.base (.lst h))
    · exact .x (.base (.frz h))
    · exact .x (.kList h c)
  | tup h _ =>
    rcases h.sq (K := K) with (h | ⟨o, h⟩) | ⟨o, its, n, h, c, _⟩
    · exact .x (.base (.tup h))
    · exact .x (.fTuple h)
    · exact .x (.kTuple h c)
  | dic h r =>
    cases h with
    | k h =>
      obtain ⟨o, h⟩ := h
      exact .x (.fDict h)
    | t h =>
      obtain ⟨o, h⟩ := h
      exact .fT h
    | o h1 h2 h3 h4 =>
      cases r
      cases hi
section
variable {σ : L2.St} {ta tb tc te : TE} {tt tu : TT} {P P1 P2 : PyData → Prop} {d d1 d2 : PyData} {r r' : R2}
def rLen (K : PySem.W.Frag) : List V → Hp → VK → Prop := fun xs H Q => ∃ x n, xs = [x] ∧ LenV K x H n ∧ Q (.int n) H
def lenD : PyData → Option Nat
  | .str s => if s.length ≤ 100000 then some s.length else none
  | .list ds => some ds.length
  | .tuple ds => some ds.length
  | _ => none
theorem rc_len {n : Nat} (h : lenD d = some n) : RCD K (rLen K) [d] (· = .int n) := by
  intro vs H H1 e r Q q
  cases r with
  | cons r rr =>
    cases rr
    refine ⟨_, n, rfl, ?_, q _ _ H H1 (Grow.refl e) (.int n) rfl⟩
    cases r with
    | non => cases h
    | bl b => cases h
    | int i => cases h
    | str x =>
      have h' : (if x.length ≤ 100000 then some x.length else none) = some n := h
      by_cases hx : x.length ≤ 100000
      · rw [if_pos hx] at h'
        cases h'
        exact ⟨sz_of hx, rfl⟩
      · rw [if_neg hx] at h'
        cases h'
    | lst h1 r1 =>
      cases h
      exact .inl ⟨_, ex_l e h1, r1.len.symm⟩
    | tup h1 r1 =>
      cases h
      exact .inr ⟨_, ex_tp e h1, r1.len.symm⟩
    | dic _ _ => cases h
theorem rc_sum {ns : List Int} : RCD K (rSum K) [.list (ns.map .int)] (· = .int ns.sum) := by
  intro vs H H1 e r Q q
  cases r with
  | cons r rr =>
    cases rr
    cases r with
    | lst h1 r1 =>
      rw [r1.ints] at h1
      exact ⟨_, ns, rfl, ex_l e h1, q _ _ H H1 (Grow.refl e) (.int _) rfl⟩
theorem RpAll.atI {vs : List V} {ds : List PyData} {i : Int} (r : RpAll K H vs ds) (h : L2.atI ds i = some d) : ∃ v, L2.atI vs i = some v ∧ Rp K H v d := by
  unfold L2.atI at h ⊢
  rw [r.len]
  cases e : ixN ds.length i with
  | none => rw [e] at h; cases h
  | some j =>
    rw [e] at h
    exact r.get' (i := j) h
theorem rd_ixL {ds : List PyData} {i : Int} (h : L2.atI ds i = some d) : RD K (rIxL K) (.list ds) (.int i) (· = d) := by
  intro _ _ H H1 e r1 r2 Q q
  cases r2
  cases r1 with
  | lst h1 r1 =>
    obtain ⟨v, ev, rv⟩ := r1.atI h
    exact ⟨_, _, i, v, rfl, rfl, ex_l e h1, ev, q _ _ H H1 (Grow.refl e) rv rfl⟩
theorem rd_ixT {ds : List PyData} {i : Int} (h : L2.atI ds i = some d) : RD K (rIxT K) (.tuple ds) (.int i) (· = d) := by
  intro _ _ H H1 e r1 r2 Q q
  cases r2
  cases r1 with
  | tup h1 r1 =>
    obtain ⟨v, ev, rv⟩ := r1.atI h
    exact ⟨_, _, i, v, rfl, rfl, ex_tp e h1, ev, q _ _ H H1 (Grow.refl e) rv rfl⟩
theorem rd_ix {ds : List PyData} {i : Int} (hd : d1 = .list ds ∨ d1 = .tuple ds) (h : L2.atI ds i = some d) : RD K (rIx K) d1 (.int i) (· = d) := by
  intro v1 v2 H H1 e r1 r2 Q q
  rcases hd with rfl | rfl
  · exact .inl (rd_ixL h v1 v2 H H1 e r1 r2 Q q)
  · exact .inr (.inl (rd_ixT h v1 v2 H H1 e r1 r2 Q q))
theorem rd_ixS {z : Str} {i : Int} {c : Nat} (hz : z.length ≤ 100000) (h : L2.atI z.cps.toList i = some c) : RD K (rIx K) (.str z) (.int i) (· = .str ⟨#[c]⟩) := by
  intro _ _ H H1 e r1 r2 Q q
  cases r1
  cases r2
  exact .inr (.inr ⟨z, i, c, rfl, rfl, sz_of hz, h, q _ _ H H1 (Grow.refl e) (.str _) rfl⟩)
def cutG {α : Type} (xs : List α) (lo hi : Option Int) : List α := (xs.drop (HT.sIx xs.length 0 lo)).take (HT.sIx xs.length xs.length hi - HT.sIx xs.length 0 lo)
theorem RpAll.cut {vs : List V} {ds : List PyData} (r : RpAll K H vs ds) (lo hi : Option Int) : RpAll K H (cutV vs lo hi) (cutG ds lo hi) := by
  unfold cutV cutG
  rw [r.len]
  exact (r.drop _).take _
theorem cutV_all (xs : List V) (lo hi : Option Int) (h : HT.sIx xs.length 0 lo = 0 ∧ HT.sIx xs.length xs.length hi = xs.length) : cutV xs lo hi = xs := by
  unfold cutV
  rw [h.1, h.2]
  simp
end
section
variable {σ : L2.St} {ta tb tc te : TE} {tt tu : TT} {P P1 P2 : PyData → Prop} {d d1 d2 : PyData} {r r' : R2}
theorem rd_eqD (h1 : SeqAt.shaped d1 = true) (h2 : SeqAt.shaped d2 = true) : RD K (rEqD K) d1 d2 (· = .bool (PyData.eqv d1 d2)) := fun v1 v2 H H1 e r1 r2 Q q =>
  ⟨d1, d2, (r1.mono e).dp (SeqAt.canLay_of_shaped h1), (r2.mono e).dp (SeqAt.canLay_of_shaped h2), h1, h2, q _ _ H H1 (Grow.refl e) (.bl _) rfl⟩
theorem rd_neD (h1 : SeqAt.shaped d1 = true) (h2 : SeqAt.shaped d2 = true) : RD K (rNeD K) d1 d2 (· = .bool (!PyData.eqv d1 d2)) := fun v1 v2 H H1 e r1 r2 Q q =>
  ⟨d1, d2, (r1.mono e).dp (SeqAt.canLay_of_shaped h1), (r2.mono e).dp (SeqAt.canLay_of_shaped h2), h1, h2, q _ _ H H1 (Grow.refl e) (.bl _) rfl⟩
def rLtS : R2 := fun x y H Q => ∃ i j, x = .str i ∧ y = .str j ∧ Q (.bl (decide (i.cps.toList < j.cps.toList))) H
theorem rd_ltS {i j : Str} : RD K rLtS (.str i) (.str j) (· = .bool (decide (i.cps.toList < j.cps.toList))) := fun v1 v2 H H1 e r1 r2 Q q => by
  cases r1; cases r2; exact ⟨i, j, rfl, rfl, q _ _ H H1 (Grow.refl e) (.bl _) rfl⟩
theorem rd_inS {c : Nat} {z : Str} : RD K rInS (.str ⟨#[c]⟩) (.str z) (· = .bool (decide (c ∈ z.cps.toList))) := fun v1 v2 H H1 e r1 r2 Q q => by
  cases r1; cases r2; exact ⟨c, z, rfl, rfl, q _ _ H H1 (Grow.refl e) (.bl _) rfl⟩
def isNon : PyData → Bool
  | .none => true
  | _ => false
theorem rd_isN : RD K rIsN d1 .none (· = .bool (isNon d1)) := fun v1 v2 H H1 e r1 r2 Q q => by
  cases r2
  refine ⟨rfl, ?_⟩
  cases r1 <;> exact q _ _ H H1 (Grow.refl e) (.bl _) rfl
end
section
variable {σ : L2.St} {te : TE}
def TAt (K : PySem.W.Frag) (ds : List PyData) (i : Nat) (x : V) (H : Hp) : Prop := ∃ d, ds[i]? = some d ∧ Rp K H x d
end
end DL
namespace DL
open PySem PySem.Spec PyProof.Rows L2 Evl
variable [CTab]
/-- as FnOk, where no guarded call is under way -/
structure FnG (P : Program) (w : World) (K : PySem.W.Frag) (mg : Str → Option Value) (base : Heap)
    (CX : CXT) (k : Nat) (f : Addr) (fd : FuncData) (ps : List Str) (sp : Sp) : Prop where
  many : ∀ vs H Q E, sp vs H Q E → vs.length = ps.length
  go : ∀ (A : Around) (outer : List Env) (s : Shared) (H : Hp) (args : Args) (us : List Value) (vs : List V) (Q : VK) (E : XK),
    A.guards = some [] → Room k A → Env0 P w K mg base A outer s H → BindsTo s fd args (ps.zip us) → Vals vs us → sp vs H Q E →
    codeAny (model P w) A (.call (.ref f) args) (CR CX outer P w H s Q E) s
section
variable {P : Program} {w : World} {K : PySem.W.Frag} {mg : Str → Option Value} {base : Heap} {CX : CXT}
theorem FnG.of {k : Nat} {f : Addr} {fd : FuncData} {ps : List Str} {sp : Sp} (F : FnOk P w K mg base CX k f fd ps sp) : FnG P w K mg base CX k f fd ps sp :=
  ⟨F.len, fun A outer s H args us vs Q E _ hr he hb hv hs => F.run A outer s H args us vs Q E hr he hb hv hs⟩
/-- a body whose frame knows that nothing guarded is under way -/
theorem fnG_body {k : Nat} {f : Addr} {nm ql : Str} {pm : Arguments} {bd : List Stmt} {sc : Scope} {dV kV doc pmv cdv ct oc : Value} {an od : Option Addr}
    {osl : Array (Option Value)} {N ps : List Str} {sp : Sp}
    (lk : K.lookup f = some ⟨oc, od, .func (PySem.W.fnOf nm ql pm bd sc dV kV doc pmv an cdv ct), osl⟩)
    (cdk : PySem.W.codeIn K cdv ql = true) (S : FnScope N ps sc)
    (many : ∀ vs H Q E, sp vs H Q E → vs.length = ps.length)
    (body : ∀ (A : Around) (outer : List Env) (s : Shared) (H : Hp) (vs : List V) (Q : VK) (E : XK),
      (A.deeper (envOfC ql sc s.heap.objs.size f cdv)).guards = some [] →
      Room k (A.deeper (envOfC ql sc s.heap.objs.size f cdv)) → sp vs H Q E →
      ∃ t, PSs (cxOf CX P w K mg base N ql sc f cdv A outer s H E) bd t ∧ t { nx := fun _ H' => Q .non H', rt := Q } (start N vs) H) :
    FnG P w K mg base CX (k + 1) f (PySem.W.fnOf nm ql pm bd sc dV kV doc pmv an cdv ct) ps sp := by
  refine ⟨many, fun A outer s H args us vs Q E hgd hr en hb rv hsp => ?_⟩
  have kin : K.In s.heap := en.mod.kin.keeps fun b o e => (en.bs b o e).1
  have nol : s.heap.NoLimit := en.mod.nolimit.keeps fun b o e => (en.bs b o e).1
  have kinds : ∀ y ∈ ps.zip us, sc.names.lookup y.1 = some .local ∨
      (sc.names.lookup y.1 = some .cell ∧ ((cellsFrom (s.heap.objs.size + 1) sc.names []).lookup y.1).isSome = true) := by
    rintro ⟨n, v⟩ hy
    cases S.par n (List.of_mem_zip hy).1 with
    | inl q => exact .inl q
    | inr q => exact .inr ⟨q, PySem.W.cellsFrom_some _ _ _ (.inl q)⟩
  refine codeAny_call_function hr.depth (kin _ _ lk) rfl S.co S.gen rfl (PySem.W.codeRec_of kin cdk) (hb _ _ _ _ ?_)
  refine wpAny_newFunctionEnv_cells S.kind kinds fun env he s1 x => ?_
  subst he
  refine ⟨nol.keeps x.toInCall.keep, codeAny_func ?_⟩
  obtain ⟨t, ht, hq⟩ := body A outer s H vs Q E hgd (hr.deeper _) hsp
  have J0 := inv_start (CX := CX) (E := E) (H := H) (mg := mg) (base := base) S hr.hd en (many _ _ _ _ hsp) rv x
  refine wpAny_mono (ht.run [] s1 (start N vs) H _ J0 hq) ?_ fun e s' hs => hs
  intro fl s' hs
  cases fl with
  | next =>
    obtain ⟨σ', H', J, q⟩ := hs
    exact ⟨V.non, H', J.os, J.bare, J.base, J.hok, rfl, q⟩
  | ret u =>
    obtain ⟨v, σ', H', J, r', q⟩ := hs
    exact ⟨v, H', J.os, J.bare, J.base, J.hok, r', q⟩
  | brk =>
    obtain ⟨_, _, _, q⟩ := hs
    exact q.elim
  | cont =>
    obtain ⟨_, _, _, q⟩ := hs
    exact q.elim
theorem Fun.okG {x qual : Str} {st : Stmt} {f : Addr} {fd : FuncData} {N ps : List Str} {k : Nat} {sp : Sp} (F : Fun K x qual st f fd) (S : FnScope N ps (defScope st))
    (many : ∀ vs H Q E, sp vs H Q E → vs.length = ps.length)
    (body : ∀ (cdv : Value) (A : Around) (outer : List Env) (s : Shared) (H : Hp) (vs : List V) (Q : VK) (E : XK),
      (A.deeper (envOfC qual (defScope st) s.heap.objs.size f cdv)).guards = some [] →
      Room k (A.deeper (envOfC qual (defScope st) s.heap.objs.size f cdv)) → sp vs H Q E →
      ∃ t, PSs (cxOf CX0 P w K mg base N qual (defScope st) f cdv A outer s H E).nox (defBody st) t ∧ t { nx := fun _ H' => Q .non H', rt := Q } (start N vs) H) :
    FnG P w K mg base CX0 (k + 1) f fd ps sp := by
  obtain ⟨oc, od, kV, doc, pm, an, cdv, ct, osl, rfl, lk, hcd⟩ := F.ex
  refine fnG_body lk hcd S many fun A outer s H vs Q E hgd hr hsp => ?_
  obtain ⟨t, h, q⟩ := body cdv A outer s H vs Q E hgd hr hsp
  exact ⟨t, h.nox, q⟩
end
theorem lawG_from {P : Program} {w : World} {K : PySem.W.Frag} {mg mb : Str → Option Value} {k : Nat} {fa a : Addr} {fd : FuncData} {x : Str} {sp : Sp} {s1 : Shared} {vs : List Value} {H : Hp}
    (KX : K.In s1.heap) (gl : s1.heap.Ns mainGlobals mg) (bl : s1.heap.Ns builtinsNs mb) (bb : ∀ x : Str, x ≠ "__name__" → mb x = bootBuiltins x) (nol : s1.heap.NoLimit) (ge : s1.gens = #[])
    (ha : s1.heap.get? a = some { cls := .type "list", data := .seq vs.toArray }) (hr : Room k callerA)
    (F : ∀ base : Heap, K.In base → base.Ns mainGlobals mg → FnG P w K mg base CX0 k fa fd [x] sp) (hb : ∀ (s : Shared) (u : Value), BindsTo s fd ⟨[u], []⟩ [(x, u)])
    (hO : Only H) (ok : HOk P w H s1.heap) (at1 : ∀ b, H b ≠ none → b = a) (at2 : H a ≠ none → K.lookup a = none)
    (hs : sp [.ref a] H (fun v _ => v = .bl true) fun _ _ _ => False) :
    codeAny (model P w) callerA (.call (.ref fa) ⟨[.ref a], []⟩) (fun r s' => r = .ok (.ret (.bool true)) ∧ OldK s1.heap s'.heap ∧ s'.os = s1.os ∧ AllBare s'.gens) s1 := by
  have no1 : ∀ {b : Addr} {u : HO}, H b = some u → b = a := fun {b u} q => at1 b (by rw [q]; exact fun z => nomatch z)
  have keepNs : ∀ {b : Addr} {m : Str → Option Value}, s1.heap.Ns b m → (hidT s1.heap H).Ns b m := by
    rintro b m ⟨o, es, ep, e, d, r⟩
    refine ⟨o, es, ep, hidT_get e ?_, d, r⟩
    cases q : H b with
    | none => rfl
    | some u =>
      obtain rfl := no1 q
      rw [ha] at e
      cases e
      exact nomatch (show Data.seq vs.toArray _ = Data.dict es ep from d)
  have keepK : K.In (hidT s1.heap H) := by
    intro b o e
    refine hidT_get (KX b o e) ?_
    cases q : H b with
    | none => rfl
    | some u =>
      obtain rfl := no1 q
      rw [at2 (by rw [q]; exact fun z => nomatch z)] at e
      cases e
  have md : Mod K mg (hidT s1.heap H) := by
    obtain ⟨mc, n1, n2⟩ := nol
    exact ⟨keepK, keepNs gl, ⟨mb, keepNs bl, bb⟩, ⟨mc, keepNs n1, n2⟩⟩
  have en : Env0 P w K mg (hidT s1.heap H) callerA [] s1 H :=
    ⟨rfl, md, fun b o e => of_hidT e, Nat.le_of_eq (hidT_size _ _), trivial, (fun b hb => absurd (show b ∈ ([] : List Addr) from hb) (List.not_mem_nil)), ok, AllBare.of_eq ge⟩
  refine codeAny_mono ((F _ keepK (keepNs gl)).go callerA [] s1 H ⟨[.ref a], []⟩ [.ref a] [.ref a] _ _ rfl hr en (hb s1 (.ref a)) (.cons rfl .nil) hs) ?_
  intro res s' h
  match res, h with
  | .error e, h => exact h.elim
  | .ok (.ret u), h =>
    obtain ⟨v, H', os, bare, un, ok', r', q⟩ := h
    obtain rfl : v = V.bl true := q
    obtain rfl : u = Value.bool true := r'
    refine ⟨rfl, OldK.of_keep ?_, os, bare⟩
    intro b o e
    cases q : H b with
    | none => exact un.keep b o e q (fun z => absurd (show b ∈ ([] : List Addr) from z) (List.not_mem_nil)) (List.not_mem_nil)
    | some u =>
      cases hO b with
      | inl z => rw [q] at z; cases z
      | inr z =>
        obtain ⟨ob, xs, z⟩ := z
        have e1 := (ok b _ z).1
        have e2 := (ok' b _ (un.frzs b ob _ z)).1
        rw [e] at e1
        cases e1
        exact e2
theorem lawG {P : Program} {w : World} {K : PySem.W.Frag} {mg mb : Str → Option Value} {k : Nat} {fa a : Addr} {fd : FuncData} {x : Str} {sp : Sp} {s1 : Shared} {vs : List Value} {ns : List Int}
    (KX : K.In s1.heap) (gl : s1.heap.Ns mainGlobals mg) (bl : s1.heap.Ns builtinsNs mb) (bb : ∀ x : Str, x ≠ "__name__" → mb x = bootBuiltins x) (nol : s1.heap.NoLimit) (ge : s1.gens = #[])
    (ha : s1.heap.get? a = some { cls := .type "list", data := .seq vs.toArray }) (hi : IntsAre vs ns) (hl : ns.length ≤ sizeLine) (hr : Room k callerA)
    (F : ∀ base : Heap, K.In base → base.Ns mainGlobals mg → FnG P w K mg base CX0 k fa fd [x] sp) (hb : ∀ (s : Shared) (u : Value), BindsTo s fd ⟨[u], []⟩ [(x, u)])
    (hs : ∀ H : Hp, Only H → SqL K H a (ns.map V.int) → sp [.ref a] H (fun v _ => v = .bl true) fun _ _ _ => False) :
    codeAny (model P w) callerA (.call (.ref fa) ⟨[.ref a], []⟩) (fun r s' => r = .ok (.ret (.bool true)) ∧ OldK s1.heap s'.heap ∧ s'.os = s1.os ∧ AllBare s'.gens) s1 := by
  cases hk : K.lookup a with
  | some o =>
    have e := KX a o hk
    rw [ha] at e
    cases e
    refine lawG_from (H := fun _ => none) KX gl bl bb nol ge ha hr F hb (fun _ => .inl rfl) (fun b u z => by cases (show (none : Option HO) = some u from z)) (fun b z => absurd rfl z) (fun z => absurd rfl z) (hs _ (fun _ => .inl rfl) ?_)
    exact .inr ⟨_, vs.toArray, _, hk, rfl, rfl, rfl, by rw [List.size_toArray, hi.length]; exact hl, by simpa using vals_ints hi⟩
  | none =>
    let scr : HO := .frz { cls := .type "list", data := .seq vs.toArray } (.lst (ns.map V.int))
    let H0 : Hp := fun b => if b = a then some scr else none
    have h1 : H0 a = some scr := if_pos rfl
    have h0 : ∀ b, b ≠ a → H0 b = none := fun b n => if_neg n
    have only : Only H0 := fun b => by
      by_cases q : b = a
      · exact .inr ⟨_, _, by rw [q]; exact h1⟩
      · exact .inl (h0 b q)
    refine lawG_from (H := H0) KX gl bl bb nol ge ha hr F hb only (fun b u z => ?_) (fun b z => ?_) (fun _ => hk) (hs _ only (.inl (.inr ⟨_, h1⟩)))
    · by_cases q : b = a
      · subst q
        rw [h1] at z
        cases z
        exact ⟨ha, by rw [List.length_map]; exact hl, vs, _, vals_ints hi, ha⟩
      · rw [h0 b q] at z
        cases z
    · by_cases q : b = a
      · exact q
      · exact absurd (h0 b q) z
theorem walkG {l : PySem.W.OpenLaw} {n k : Nat} {q : Program} {loose : List Str} {XP : (Str → Option Value) → Heap → Prop} {YP : World → Heap → Prop} {d : DefRec} {K : Params → PySem.W.Frag} {sp : World → Sp} {x : Str}
    (hn : l.most = some n) (hn2 : n ≤ sizeLine) (hdf : d.params.defaults = []) (hr : Room k callerA)
    (hY : ∀ (w : World) (h : Heap), YP w h → (K w.params).In h)
    (F : ∀ (w : World) (mg : Str → Option Value) (fa : Addr) (h : Heap), (K w.params).In h → h.Ns mainGlobals mg → mg d.name = some (.ref fa) →
      ∃ fd : FuncData, (∀ (s : Shared) (u : Value), BindsTo s fd ⟨[u], []⟩ [(x, u)]) ∧
        ∀ base : Heap, (K w.params).In base → base.Ns mainGlobals mg → FnG l.prog w (K w.params) mg base CX0 k fa fd [x] (sp w))
    (hs : ∀ (w : World) (H : Hp) (a : Addr) (ns : List Int), ns.length ≤ n → Only H → SqL (K w.params) H a (ns.map V.int) → sp w [.ref a] H (fun v _ => v = .bl true) fun _ _ _ => False) :
    PySem.W.WalkO q loose XP YP l.row.toRowW d [] (fun f vs => PySem.call f vs) := by
  refine Att.attach_call hn hdf fun w s0 s1 mg mb fa o pm cd doc a vs ns G Y ho hd hcd hmg hobj hints hlen hg => ?_
  obtain ⟨fd, hb, hF⟩ := F w mg fa _ (hY w _ Y) G.T.g hmg
  exact lawG (hY w _ Y) G.T.g G.T.b G.T.builtins G.T.nolimit hg hobj hints (Nat.le_trans hlen hn2) hr hF hb fun H hO hS => hs w H a ns hlen hO hS
section
variable {X : Cx}
/-- repr(x) of data; a text's and a number's length are bounded -/
def rRepr (K : PySem.W.Frag) : List V → Hp → VK → Prop := fun xs H Q => ∃ x d, xs = [x] ∧ Dp K H x d ∧ d.showable = true ∧ d.canLay0 = true ∧ d.depth ≤ 64 ∧ d.shown.length ≤ sizeLine ∧ Q (.str d.shown) H
theorem call_reprG (hgd : X.A.guards = some []) (hu : X.A.units + 65 < cLine) : CallR X (.builtin "repr") (rRepr X.K) := by
  intro pins s σ H xs us Q I rv h
  obtain ⟨x, d, rfl, hd, hs, hc, hp, hz, q⟩ := h
  obtain ⟨u, rfl, rx⟩ := vals1 rv
  obtain ⟨as, rr⟩ := Dp.reads I d x u hd rx
  have fin : ∀ (h' : Heap) (tk : Nat) (t : Tok), (∀ b o, s.heap.get? b = some o → h'.get? b = some o) → EP X pins σ Q (.str d.shown t) { s with heap := h', toks := tk } :=
    fun h' tk t hk => ⟨.str d.shown, H, I.kept hk, ⟨t, rfl⟩, q⟩
  cases hd with
  | non =>
    cases rx
    exact PySem.P.repr_of_none (fin s.heap _ _ fun _ _ e => e)
  | bl b =>
    cases rx
    exact PySem.P.repr_of_bool (fin s.heap _ _ fun _ _ e => e)
  | int i =>
    obtain ⟨t, rfl⟩ := rx
    refine PySem.P.repr_of_int (by simpa [PyData.showable] using hs) ?_
    rw [← PyData.shown_int]
    exact fin s.heap _ _ fun _ _ e => e
  | str z =>
    obtain ⟨t, rfl⟩ := rx
    refine PySem.P.repr_of_str ?_ (by rw [← PyData.shown_str]; exact hz)
    rw [← PyData.shown_str]
    exact fin s.heap _ _ fun _ _ e => e
  | lst h1 h2 =>
    cases rx
    exact repr_of_reads' rr hs (PyData.noDict_hsm (PyData.hasDict_of_canLay _ hc)) hgd (by omega) (fun _ _ e => e) (fun h' t tk hk => fin h' tk t hk) hz
  | tup h1 h2 =>
    cases rx
    exact repr_of_reads' rr hs (PyData.noDict_hsm (PyData.hasDict_of_canLay _ hc)) hgd (by omega) (fun _ _ e => e) (fun h' t tk hk => fin h' tk t hk) hz
end
end DL
namespace DL
open PySem PySem.Spec PyProof.Rows L2 Evl
variable [CTab]
theorem opOr {X : Cx} {f : Value → Value → Sem Value} {r r' : R2} (h : OpR X f r) (h' : OpR X f r') : OpR X f (fun x y H Q => r x y H Q ∨ r' x y H Q) := by
  intro pins s σ H x y v u Q I rx ry q
  cases q with
  | inl q => exact h pins s σ H x y v u Q I rx ry q
  | inr q => exact h' pins s σ H x y v u Q I rx ry q
def rAddS : R2 := fun x y H Q => ∃ i j, x = .str i ∧ y = .str j ∧ i.length + j.length ≤ sizeLine ∧ Q (.str (i ++ j)) H
def rAddU (K : PySem.W.Frag) : R2 := fun x y H Q => rI0 (fun i j => .int (i + j)) x y H Q ∨ rAddS x y H Q ∨ rCat x y H Q ∨ rCatA K x y H Q
theorem opAdd {X : Cx} : OpR X (binaryOp .Add) (rAddU X.K) := opOr op_add (opOr op_add_str (opOr op_cat op_catA))
def rMulI : R2 := rI IntMulOk fun i j => .int (i * j)
theorem op_mulA {X : Cx} : OpR X (binaryOp .Mult) rMulI := opI fun _ _ _ _ _ _ _ hc q => mul_int q hc
def rMulU (K : PySem.W.Frag) : R2 := fun x y H Q => rMulI x y H Q ∨ rRep x y H Q ∨ rRepT K x y H Q
theorem opMul {X : Cx} : OpR X (binaryOp .Mult) (rMulU X.K) := opOr op_mulA (opOr op_rep op_repT)
def CPowW (i j : Int) : Prop := 0 ≤ j ∧ (Builtin.Int.intBits i : Int) * j ≤ 2 ^ 27
def rPowW : R2 := rI CPowW fun i j => .int (i ^ j.toNat)
theorem op_powW {X : Cx} : OpR X (binaryOp .Pow) rPowW := opI fun _ _ _ _ _ _ _ hc q => pow_int hc.1 hc.2 q
def rLtU : R2 := fun x y H Q => rI0 (fun i j => .bl (decide (i < j))) x y H Q ∨ rLtS x y H Q
theorem opLt {X : Cx} : OpR X (compareOp .Lt) rLtU := opOr op_lt op_lt_str
def rGtS : R2 := fun x y H Q => ∃ i j, x = .str i ∧ y = .str j ∧ Q (.bl (decide (j.cps.toList < i.cps.toList))) H
def rGtU : R2 := fun x y H Q => rI0 (fun i j => .bl (decide (j < i))) x y H Q ∨ rGtS x y H Q
theorem opGt {X : Cx} : OpR X (compareOp .Gt) rGtU := opOr op_gt op_gt_str
def rInU (K : PySem.W.Frag) : R2 := fun x y H Q => rInS x y H Q ∨ rIn K false x y H Q ∨ rInD K x y H Q
theorem opIn {X : Cx} (hu : X.A.units + 65 < cLine) : OpR X (compareOp .In) (rInU X.K) := opOr op_inS (opOr op_in_seq (op_inD hu))
def rSlU (K : PySem.W.Frag) : V → Option Int → Option Int → Hp → VK → Prop := fun x lo hi H Q => rSlL K x lo hi H Q ∨ rSlA K x lo hi H Q ∨ rSlS x lo hi H Q
theorem slU {X : Cx} : L2.SlR X (rSlU X.K) := SlR.or sl_list (SlR.or sl_tupA sl_str)
section
variable {K : PySem.W.Frag} {d1 d2 : PyData} {P : PyData → Prop}
theorem RD.l {r r' : R2} (h : RD K r d1 d2 P) : RD K (fun x y H Q => r x y H Q ∨ r' x y H Q) d1 d2 P := fun v1 v2 H H1 e r1 r2 Q q => .inl (h v1 v2 H H1 e r1 r2 Q q)
theorem RD.r {r r' : R2} (h : RD K r' d1 d2 P) : RD K (fun x y H Q => r x y H Q ∨ r' x y H Q) d1 d2 P := fun v1 v2 H H1 e r1 r2 Q q => .inr (h v1 v2 H H1 e r1 r2 Q q)
theorem rd_add {i j : Int} : RD K (rAddU K) (.int i) (.int j) (· = .int (i + j)) := rd_I0.l
theorem rd_addS {i j : Str} (h : i.length + j.length ≤ 100000) : RD K (rAddU K) (.str i) (.str j) (· = .str (i ++ j)) := RD.r (RD.l fun v1 v2 H H1 e r1 r2 Q q => by
  cases r1; cases r2
  exact ⟨i, j, rfl, rfl, sz_of h, q _ _ H H1 (Grow.refl e) (.str _) rfl⟩)
theorem rd_addT {xs ys : List PyData} (h : xs.length + ys.length ≤ 100000) : RD K (rAddU K) (.tuple xs) (.tuple ys) (· = .tuple (xs ++ ys)) := RD.r (RD.r (RD.r fun v1 v2 H H1 e r1 r2 Q q => by
  cases r1 with
  | tup h1 r1 =>
    cases r2 with
    | tup h2 r2 =>
      refine ⟨_, _, _, _, rfl, rfl, ex_tp e h1, ex_tp e h2, ?_, ?_⟩
      · rw [r1.len, r2.len]; exact sz_of h
      · refine ⟨fun e1 => ?_, fun _ e1 => ?_, fun _ _ p hp => ?_⟩
        · subst e1
          have := r1.len
          have e0 : xs = [] := List.length_eq_zero_iff.mp this.symm
          subst e0
          exact q _ _ H H1 (Grow.refl e) (.tup h2 r2) rfl
        · subst e1
          have e0 : ys = [] := List.length_eq_zero_iff.mp r2.len.symm
          subst e0
          exact q _ _ H H1 (Grow.refl e) (.tup h1 r1) (by rw [List.append_nil])
        · exact q _ _ _ _ (Grow.new e hp _) (.tup (.inl upd_same) ((r1.append r2).mono (Grow.new e hp _).known)) rfl))
theorem rd_mul {i j : Int} (h : IntMulOk i j) : RD K (rMulU K) (.int i) (.int j) (· = .int (i * j)) := (rd_I h).l
theorem rd_pow {i j : Int} (h : CPowW i j) : RD K rPowW (.int i) (.int j) (· = .int (i ^ j.toNat)) := rd_I h
theorem rd_lt {i j : Int} : RD K rLtU (.int i) (.int j) (· = .bool (decide (i < j))) := rd_B0.l
theorem rd_gt {i j : Int} : RD K rGtU (.int i) (.int j) (· = .bool (decide (j < i))) := rd_B0.l
theorem rd_ltT {i j : Str} : RD K rLtU (.str i) (.str j) (· = .bool (decide (i.cps.toList < j.cps.toList))) := RD.r rd_ltS
theorem rd_gtT {i j : Str} : RD K rGtU (.str i) (.str j) (· = .bool (decide (j.cps.toList < i.cps.toList))) := RD.r fun v1 v2 H H1 e r1 r2 Q q => by
  cases r1; cases r2; exact ⟨i, j, rfl, rfl, q _ _ H H1 (Grow.refl e) (.bl _) rfl⟩
theorem rd_inSign {c : Nat} {z : Str} : RD K (rInU K) (.str ⟨#[c]⟩) (.str z) (· = .bool (decide (c ∈ z.cps.toList))) := rd_inS.l
def flatD : PyData → Bool
  | .none => true
  | .bool _ => true
  | .int _ => true
  | .str _ => true
  | _ => false
theorem flat_of {H : Hp} {v : V} {d : PyData} (r : Rp K H v d) (h : flatD d = true) : flatV v = true := by
  cases r <;> first | rfl | cases h
theorem eqV_of {H : Hp} {v w : V} {d e : PyData} (r : Rp K H v d) (q : Rp K H w e) (h : flatD d = true) (g : flatD e = true) : eqV v w = PyData.eqv d e := by
  cases r <;> cases q <;> first | rfl | cases h | cases g | (simp [eqV, PyData.eqv])
theorem flats_of {H : Hp} : ∀ {vs : List V} {ds : List PyData}, RpAll K H vs ds → ds.all flatD = true → vs.all flatV = true
  | _, _, .nil, _ => rfl
  | _, _, .cons h r, g => by
    simp only [List.all_cons, Bool.and_eq_true] at g ⊢
    exact ⟨flat_of h g.1, flats_of r g.2⟩
theorem inV_of {H : Hp} {v : V} {d : PyData} (q : Rp K H v d) (hd : flatD d = true) : ∀ {vs : List V} {ds : List PyData}, RpAll K H vs ds → ds.all flatD = true → inV v vs = ds.any fun y => PyData.eqv y d
  | _, _, .nil, _ => rfl
  | _, _, .cons h r, g => by
    simp only [List.all_cons, Bool.and_eq_true] at g
    have ih := inV_of q hd r g.2
    unfold inV at ih ⊢
    rw [List.any_cons, List.any_cons, ih, eqV_of h q g.1 hd]
theorem rd_inFlat {ds : List PyData} (hy : d2 = .list ds ∨ d2 = .tuple ds) (h : flatD d1 = true) (g : ds.all flatD = true) : RD K (rInU K) d1 d2 (· = .bool (ds.any fun y => PyData.eqv y d1)) := RD.r (RD.l fun v1 v2 H H1 e r1 r2 Q q => by
  rcases hy with rfl | rfl
  · cases r2 with
    | @lst a xs _ h2 r2 =>
      refine ⟨a, xs, rfl, .inl (ex_l e h2), flat_of r1 h, flats_of r2 g, ?_⟩
      exact q _ _ H H1 (Grow.refl e) (.bl _) (by rw [if_neg Bool.false_ne_true, inV_of r1 h r2 g])
  · cases r2 with
    | @tup a xs _ h2 r2 =>
      refine ⟨a, xs, rfl, .inr (ex_tp e h2), flat_of r1 h, flats_of r2 g, ?_⟩
      exact q _ _ H H1 (Grow.refl e) (.bl _) (by rw [if_neg Bool.false_ne_true, inV_of r1 h r2 g]))
end
section
variable {K : PySem.W.Frag} {σ : L2.St} {H : Hp} {te : TE}
theorem evd_sl {lo hi : TO} {l u : Option Int} {d : PyData} {f : PyData → PyData} {ds : List PyData} (h : EvD K te σ H d) (hd : (d = .list ds ∧ f = fun _ => .list (cutG ds l u)) ∨ (d = .tuple ds ∧ f = fun _ => .tuple (cutG ds l u))) (h1 : EvO lo σ H l) (h2 : EvO hi σ H u) :
    EvD K (tSl (rSlU K) te lo hi) σ H (f d) := by
  intro H1 e Q q
  refine h H1 e _ fun v _ Hk2 H2 g2 r2 p2 => ?_
  refine h1 H2 (e.trans g2.all) _ fun H3 e3 => ?_
  refine h2 H3 ((e.trans g2.all).trans e3) _ fun H4 e4 => ?_
  have g3 : Grow Hk2 H2 Hk2 H4 := ⟨Ex.refl _, g2.sub.trans (e3.trans e4), e3.trans e4, fun p o h n _ => by rw [h] at n; cases n⟩
  subst p2
  rcases hd with ⟨rfl, rfl⟩ | ⟨rfl, rfl⟩
  · cases r2 with
    | @lst a xs _ g r =>
      refine .inl ⟨_, _, rfl, ex_l g3.sub g, fun p hp => ?_⟩
      have g4 := Grow.new g3.sub hp (.lst (cutV xs l u))
      exact q _ _ _ _ ((g2.trans g3).trans g4) (.lst (sq_of upd_same) ((r.mono g4.known).cut l u)) rfl
  · cases r2 with
    | @tup a xs _ g r =>
      refine .inr (.inl ⟨_, _, rfl, ex_tp g3.sub g, fun hw => ?_, fun _ p hp => ?_⟩)
      · refine q _ _ _ _ (g2.trans g3) (.tup g ?_) rfl
        have c := r.cut l u
        rw [cutV_all _ l u hw] at c
        exact c
      · have g4 := Grow.new g3.sub hp (.tup (cutV xs l u))
        exact q _ _ _ _ ((g2.trans g3).trans g4) (.tup (.inl upd_same) ((r.mono g4.known).cut l u)) rfl
end
/-- a list of three numbers, whichever -/
def BagO (b : Addr) : HO := .ext fun h => ∃ (x y z : Int) (t u v : Tok) (n : Nat), h.get? b = some { cls := .type "list", data := .seq #[.int x t, .int y u, .int z v] n }
abbrev three (x y z : Int) : HO := .lst [.int x, .int y, .int z]
section
variable {X : Cx} {pins : List (Addr × Obj)} {σ : L2.St} {H : Hp} {s : Shared} {b : Addr}
theorem bag_open (I : Inv X pins σ H s) (hb : H b = some (BagO b)) : ∃ x y z, Inv X pins σ (upd H b (three x y z)) s := by
  obtain ⟨⟨x, y, z, t, u, v, n, e⟩, _⟩ := (show ObjOk X.prog X.w H s.heap b (BagO b) from I.hok b _ hb)
  refine ⟨x, y, z, ?_⟩
  have hm : Mut (H b) := by rw [hb]; trivial
  exact I.write (x := b) (e := b) (h' := s.heap) (t' := s.toks) hm (.inl rfl) (fun _ _ _ e => e) ⟨_, e⟩
    ⟨by show 3 ≤ sizeLine; decide, [.int x t, .int y u, .int z v], n, .cons ⟨t, rfl⟩ (.cons ⟨u, rfl⟩ (.cons ⟨v, rfl⟩ .nil)), e⟩
theorem bag_shut {x y z : Int} (I : Inv X pins σ H s) (hb : H b = some (three x y z)) : Inv X pins σ (upd H b (BagO b)) s := by
  obtain ⟨_, its, n, r, e⟩ := (show ObjOk X.prog X.w H s.heap b (three x y z) from I.hok b _ hb)
  have hm : Mut (H b) := by rw [hb]; trivial
  refine I.write (x := b) (e := b) (h' := s.heap) (t' := s.toks) hm (.inl rfl) (fun _ _ _ e => e) ⟨_, e⟩ ⟨?_, ⟨_, e⟩, ?_⟩
  · cases r with
    | cons r1 r =>
      cases r with
      | cons r2 r =>
        cases r with
        | cons r3 r =>
          cases r
          obtain ⟨t, rfl⟩ := r1
          obtain ⟨u, rfl⟩ := r2
          obtain ⟨v, rfl⟩ := r3
          exact ⟨x, y, z, t, u, v, n, e⟩
  · rintro h1 h2 ⟨x, y, z, t, u, v, n, e⟩ k
    exact ⟨x, y, z, t, u, v, n, k _ e⟩
end
def tBag (t : TS) : TS := fun D σ H => ∃ b, H b = some (BagO b) ∧ ∀ x y z, t ⟨
  fun σ' H' => ∃ x y z, H' b = some (three x y z) ∧ D.nx σ' (upd H' b (BagO b)), fun v H' => ∃ x y z, H' b = some (three x y z) ∧ D.rt v (upd H' b (BagO b)),
  fun σ' H' => ∃ x y z, H' b = some (three x y z) ∧ D.bk σ' (upd H' b (BagO b)), fun σ' H' => ∃ x y z, H' b = some (three x y z) ∧ D.ct σ' (upd H' b (BagO b))⟩ σ (upd H b (three x y z))
theorem pss_bag {X : Cx} {sts : List Stmt} {t : TS} (h : PSs X sts t) : PSs X sts (tBag t) := by
  constructor
  intro pins s σ H D I ht
  obtain ⟨b, hb, k⟩ := ht
  obtain ⟨x, y, z, I1⟩ := bag_open I hb
  refine thn (h.run pins s σ _ _ I1 (k x y z)) fun fl s1 q => ?_
  cases fl with
  | next =>
    obtain ⟨σ', H', J, x, y, z, e, q⟩ := q
    exact ⟨σ', _, bag_shut J e, q⟩
  | brk =>
    obtain ⟨σ', H', J, x, y, z, e, q⟩ := q
    exact ⟨σ', _, bag_shut J e, q⟩
  | cont =>
    obtain ⟨σ', H', J, x, y, z, e, q⟩ := q
    exact ⟨σ', _, bag_shut J e, q⟩
  | ret u =>
    obtain ⟨v, σ', H', J, r, x, y, z, e, q⟩ := q
    exact ⟨v, σ', _, bag_shut J e, r, q⟩
def tShut (t : TE) : TE := fun σ H Q => t σ H fun v H' => ∃ p x y z, v = .ref p ∧ H' p = some (three x y z) ∧ Q v (upd H' p (BagO p))
theorem pe_shut {X : Cx} {e : Expr} {t : TE} (h : PE X e t) : PE X e (tShut t) := by
  constructor
  intro pins s σ H Q I ht
  refine thn (h.run pins s σ H _ I ht) fun u s1 q => ?_
  obtain ⟨v, H', J, r, p, x, y, z, rfl, e, q⟩ := q
  exact ⟨_, _, bag_shut J e, r, q⟩
end DL
namespace DL
open PySem PySem.Spec PyProof.Rows L2 Evl
variable [CTab]
variable (K : PySem.W.Frag)
def spB1 (pre : PyData → Prop) (post : PyData → PyData → Prop) : Sp := fun vs H1 Q _ => ∃ H b v d, vs = [.ref b, v] ∧ Ex H H1 ∧ H b = some (BagO b) ∧ Rp K H v d ∧ pre d ∧ ∀ u z Hk H2, Grow H H1 Hk H2 → Rp K Hk u z → post d z → Q u H2
theorem hu65 {k : Nat} {A : Around} (hr : Room k A) : A.units + 65 < cLine := by
  have := hr.un
  omega
end DL
namespace DL
open PySem PySem.Spec PyProof.Rows L2 Evl
end DL
namespace DL
open PySem PySem.Spec PyProof.Rows L2 Evl
variable [CTab]
section
variable {K : PySem.W.Frag} {σ : L2.St} {H H1 : Hp} {te ta tb : TE} {tt : TT} {tu tw tz : TS} {P : PyData → Prop} {D : Ends} {i : Nat}
theorem st_set (h : EvP K te σ H P) (ex : Ex H H1) (k : ∀ v d Hk H2, Grow H H1 Hk H2 → Rp K Hk v d → P d → tz D (σ.set i (some v)) H2) : tSeq (tAsg te (gName i)) tz D σ H1 := h H1 ex _ k
theorem st_ret (h : EvP K te σ H P) (ex : Ex H H1) (k : ∀ v d Hk H2, Grow H H1 Hk H2 → Rp K Hk v d → P d → D.rt v H2) : tRet te D σ H1 := h H1 ex _ k
theorem st_if {b : Bool} (h : EvT1 tt σ H b) (ex : Ex H H1) (h1 : b = true → ∀ Hk H2, Grow H H1 Hk H2 → tu { D with nx := tz D } σ H2) (h2 : b = false → ∀ Hk H2, Grow H H1 Hk H2 → tw { D with nx := tz D } σ H2) : tSeq (tIfS tt tu tw) tz D σ H1 :=
  h H1 ex _ fun c Hk H2 g p => by
    subst p
    cases c with
    | true =>
      show tu { D with nx := tz D } σ H2
      exact h1 rfl Hk H2 g
    | false =>
      show tw { D with nx := tz D } σ H2
      exact h2 rfl Hk H2 g
/-- if .. : (leaves); what follows -/
theorem st_when {b : Bool} (h : EvT1 tt σ H b) (ex : Ex H H1) (h1 : b = true → ∀ Hk H2, Grow H H1 Hk H2 → tu { D with nx := tz D } σ H2) (h2 : b = false → ∀ Hk H2, Grow H H1 Hk H2 → tz D σ H2) : tSeq (tIfS tt tu tNext) tz D σ H1 :=
  st_if h ex h1 h2
end
section
variable {K : PySem.W.Frag} {σ : L2.St} {H : Hp} {te ta tb : TE}
def rAbs : List V → Hp → VK → Prop := fun xs H Q => ∃ i, xs = [.int i] ∧ Q (.int (if i < 0 then -i else i)) H
theorem rc_abs {i : Int} : RCD K rAbs [.int i] (· = .int i.natAbs) := by
  intro vs H H1 e r Q q
  cases r with
  | cons r rr =>
    cases rr
    cases r
    have ei : (if i < 0 then -i else i) = (i.natAbs : Int) := by split <;> omega
    refine ⟨i, rfl, ?_⟩
    rw [ei]
    exact q _ _ H H1 (Grow.refl e) (.int _) rfl
def rInt1 : List V → Hp → VK → Prop := fun xs H Q => (∃ i, xs = [.int i] ∧ Q (.int i) H) ∨ ∃ k, xs = [.bl k] ∧ Q (.int (if k then 1 else 0)) H
theorem rc_int {i : Int} : RCD K rInt1 [.int i] (· = .int i) := by
  intro vs H H1 e r Q q
  cases r with
  | cons r rr =>
    cases rr
    cases r
    exact .inl ⟨i, rfl, q _ _ H H1 (Grow.refl e) (.int _) rfl⟩
theorem rc_intB {b : Bool} : RCD K rInt1 [.bool b] (· = .int (if b then 1 else 0)) := by
  intro vs H H1 e r Q q
  cases r with
  | cons r rr =>
    cases rr
    cases r
    exact .inr ⟨b, rfl, q _ _ H H1 (Grow.refl e) (.int _) rfl⟩
def rMax2' : List V → Hp → VK → Prop := fun xs H Q => ∃ i j, xs = [.int i, .int j] ∧ Q (.int (if j > i then j else i)) H
theorem rc_max2 {i j : Int} : RCD K rMax2' [.int i, .int j] (· = .int (if j > i then j else i)) := by
  intro vs H H1 e r Q q
  cases r with
  | cons r rr =>
    cases rr with
    | cons r2 rr =>
      cases rr
      cases r
      cases r2
      exact ⟨i, j, rfl, q _ _ H H1 (Grow.refl e) (.int _) rfl⟩
def rMin2' : List V → Hp → VK → Prop := fun xs H Q => ∃ i j, xs = [.int i, .int j] ∧ Q (.int (if j < i then j else i)) H
theorem rc_min2 {i j : Int} : RCD K rMin2' [.int i, .int j] (· = .int (if j < i then j else i)) := by
  intro vs H H1 e r Q q
  cases r with
  | cons r rr =>
    cases rr with
    | cons r2 rr =>
      cases rr
      cases r
      cases r2
      exact ⟨i, j, rfl, q _ _ H H1 (Grow.refl e) (.int _) rfl⟩
theorem rc_repr {d : PyData} (h1 : d.showable = true) (h2 : d.canLay0 = true) (h3 : d.depth ≤ 64) (h4 : d.shown.length ≤ sizeLine) : RCD K (rRepr K) [d] (· = .str d.shown) := by
  intro vs H H1 e r Q q
  cases r with
  | cons r rr =>
    cases rr
    exact ⟨_, d, rfl, (r.mono e).dp h2, h1, h2, h3, h4, q _ _ H H1 (Grow.refl e) (.str _) rfl⟩
theorem cutG_to {α : Type} (xs : List α) (n : Nat) : cutG xs none (some (n : Int)) = xs.take n := by
  unfold cutG
  rw [show HT.sIx xs.length xs.length (some (n : Int)) = min n xs.length from HT.sIx_nat xs.length xs.length n, HT.sIx_none]
  show (xs.drop 0).take (min n xs.length - 0) = _
  rw [List.drop_zero, Nat.sub_zero]
  by_cases h : n ≤ xs.length
  · rw [Nat.min_eq_left h]
  · rw [Nat.min_eq_right (by omega), List.take_of_length_le (Nat.le_refl _), List.take_of_length_le (by omega)]
theorem eo_c {i : Int} : EvO (tPart (tC (.int i))) σ H (some i) := fun H1 e Q q => ⟨i, rfl, q H1 (Ex.refl H1)⟩
end
end DL
namespace DL
open PySem PySem.Spec PyProof.Rows L2 Evl
variable [CTab]
/-- a new bag for a place of the script -/
def spNewBag (K : PySem.W.Frag) : Sp := fun vs H1 Q _ => ∃ H a ns n, vs = [.ref a, .int n] ∧ Ex H H1 ∧ SqL K H a ((ns : List Int).map V.int) ∧ ns.length ≤ 63 ∧ 0 ≤ n ∧ n < 100 ∧
  ∀ p Hk H2, Grow H H1 Hk H2 → Hk p = some (BagO p) → Q (.ref p) H2
def drawPre (d : PyData) : Prop := ∃ n : Int, d = .int n ∧ 0 < n ∧ n.natAbs.log2 < 1000
def drawPost (d z : PyData) : Prop := ∃ i n : Int, z = .int i ∧ d = .int n ∧ 0 ≤ i ∧ i < n
theorem bag_grow {H H1 H3 : Hp} {b : Addr} {o : HO} (ex : Ex H H1) (hb : H1 b = some (BagO b)) (e : Ex (upd H1 b o) H3) : Grow H H1 H (upd H3 b (BagO b)) := by
  have all : Ex H1 (upd H3 b (BagO b)) := fun a u h => by
    by_cases ha : a = b
    · subst ha
      rw [hb] at h
      cases h
      exact upd_same
    · rw [upd_ne ha]
      exact e a u (by rw [upd_ne ha]; exact h)
  exact ⟨Ex.refl H, ex.trans all, all, fun p u h n => by rw [h] at n; cases n⟩
/-- return [x, y, z], a new bag -/
theorem st_retBag {K : PySem.W.Frag} {σ : L2.St} {H H1 : Hp} {ta : TA} {D : Ends} {x y z : Int} (h : EvA1 K ta σ H [.int x, .int y, .int z]) (ex : Ex H H1)
    (k : ∀ p Hk H2, Grow H H1 Hk H2 → Hk p = some (BagO p) → D.rt (.ref p) H2) : tRet (tShut (tLst ta)) D σ H1 := by
  refine h H1 ex _ fun vs ds Hk H2 g r p => ?_
  subst p
  cases r with
  | cons ra rr =>
    cases rr with
    | cons rb rr =>
      cases rr with
      | cons rc rr =>
        cases rr
        cases ra
        cases rb
        cases rc
        refine ⟨by show 3 ≤ sizeLine; decide, fun p hp => ⟨p, x, y, z, rfl, upd_same, ?_⟩⟩
        rw [upd_upd]
        exact k p _ _ (g.trans (Grow.new g.sub hp (BagO p))) upd_same
theorem ex_upd2 {H1 H3 : Hp} {b : Addr} {o : HO} (e : Ex (upd H1 b o) H3) (o' : HO) : Ex (upd H1 b o') (upd H3 b o') := fun a u h => by
  by_cases ha : a = b
  · subst ha
    rw [upd_same] at h ⊢
    exact h
  · rw [upd_ne ha] at h ⊢
    exact e a u (by rw [upd_ne ha]; exact h)
end DL
namespace DL
open PySem PySem.Spec PyProof.Rows L2 Evl
variable [CTab]
theorem gn {i : Nat} {x : V} {σ : L2.St} {H : Hp} {k : L2.St → Hp → Prop} (h : k (σ.set i (some x)) H) : gName i x σ H k := h
mutual
/-- short texts of real signs, short sequences; no dict -/
def tidy : PyData → Bool
  | .str s => decide (s.length ≤ 1000) && PyData.strOk s
  | .list ds => decide (ds.length ≤ 1000) && tidyAll ds
  | .tuple ds => decide (ds.length ≤ 1000) && tidyAll ds
  | .dict _ => false
  | _ => true
def tidyAll : List PyData → Bool
  | [] => true
  | d :: ds => tidy d && tidyAll ds
end
theorem tidyAll_mem : ∀ {ds : List PyData}, tidyAll ds = true → ∀ d ∈ ds, tidy d = true
  | d :: ds, h, x, hx => by
    have h' : tidy d = true ∧ tidyAll ds = true := by simpa [tidyAll] using h
    rcases List.mem_cons.mp hx with rfl | hx
    · exact h'.1
    · exact tidyAll_mem h'.2 x hx
mutual
theorem canLay_tidy : ∀ {d : PyData}, tidy d = true → d.canLay0 = true
  | .none, _ => rfl
  | .bool _, _ => rfl
  | .int _, _ => rfl
  | .str s, h => by
    have h' : s.length ≤ 1000 ∧ PyData.strOk s = true := by simpa [tidy] using h
    exact h'.2
  | .list ds, h => by
    have h' : ds.length ≤ 1000 ∧ tidyAll ds = true := by simpa [tidy] using h
    show PyData.canLayAll0 ds = true
    exact canLayAll_tidy h'.2
  | .tuple ds, h => by
    have h' : ds.length ≤ 1000 ∧ tidyAll ds = true := by simpa [tidy] using h
    show PyData.canLayAll0 ds = true
    exact canLayAll_tidy h'.2
  | .dict _, h => by simp [tidy] at h
theorem canLayAll_tidy : ∀ {ds : List PyData}, tidyAll ds = true → PyData.canLayAll0 ds = true
  | [], _ => rfl
  | d :: ds, h => by
    have h' : tidy d = true ∧ tidyAll ds = true := by simpa [tidyAll] using h
    simp only [PyData.canLayAll0, Bool.and_eq_true]
    exact ⟨canLay_tidy h'.1, canLayAll_tidy h'.2⟩
end
/-- tidy, or a dict -/
def Nice (d : PyData) : Prop := tidy d = true ∨ isDic d = true
theorem Nice.str {s : Str} (h : Nice (.str s)) : s.length ≤ 1000 ∧ PyData.strOk s = true := by
  rcases h with h | h
  · simpa [tidy] using h
  · cases h
theorem Nice.tup {ds : List PyData} (h : Nice (.tuple ds)) : ds.length ≤ 1000 ∧ ∀ d ∈ ds, Nice d := by
  rcases h with h | h
  · have h' : ds.length ≤ 1000 ∧ tidyAll ds = true := by simpa [tidy] using h
    exact ⟨h'.1, fun d hd => .inl (tidyAll_mem h'.2 d hd)⟩
  · cases h
def ltS (a b : Str) : Bool := decide (a.cps.toList < b.cps.toList)
end DL
namespace DL
open PySem PySem.Spec PyProof.Rows L2 Evl
variable [CTab]
section
variable {X : Cx} {K : PySem.W.Frag}
theorem kAdd (h : X.K = K) : OpR X (binaryOp .Add) (rAddU K) := h ▸ opAdd
theorem kMul (h : X.K = K) : OpR X (binaryOp .Mult) (rMulU K) := h ▸ opMul
theorem kIn (h : X.K = K) (hu : X.A.units + 65 < cLine) : OpR X (compareOp .In) (rInU K) := h ▸ opIn hu
theorem kEq (h : X.K = K) (hu : X.A.units + 64 < cLine) : OpR X (compareOp .Eq) (rEqD K) := h ▸ op_eqD hu
theorem kNe (h : X.K = K) (hu : X.A.units + 64 < cLine) : OpR X (compareOp .NotEq) (rNeD K) := h ▸ op_neD hu
theorem kIx (h : X.K = K) : IxR X (rIx K) := h ▸ ix_seq
theorem kSl (h : X.K = K) : L2.SlR X (rSlU K) := h ▸ slU
theorem kLen (h : X.K = K) : CallR X (.builtin "len") (rLen K) := h ▸ call_len
theorem kSum (h : X.K = K) (hc : X.calm = true) : CallR X (.builtin "sum") (rSum K) := h ▸ cr_sum hc
end
end DL
namespace DL
open PySem PySem.Spec PyProof.Rows L2 Evl
variable [CTab]
section
variable {K : PySem.W.Frag} {σ : L2.St} {H H1 : Hp} {te ta tb tv : TE} {tz : TS} {D : Ends} {P P1 P2 : PyData → Prop} {d1 d2 : PyData}
theorem RD.weak {r : R2} (h : RD K r d1 d2 P1) (w : ∀ z, P1 z → P2 z) : RD K r d1 d2 P2 := fun v1 v2 H H1 e r1 r2 Q q => h v1 v2 H H1 e r1 r2 Q fun v d Hk H2 g r p => q v d Hk H2 g r (w d p)
theorem RCD.weak {r : List V → Hp → VK → Prop} {ds : List PyData} (h : RCD K r ds P1) (w : ∀ z, P1 z → P2 z) : RCD K r ds P2 := fun vs H H1 e r1 Q q => h vs H H1 e r1 Q fun v d Hk H2 g r p => q v d Hk H2 g r (w d p)
/-- a list at p that was not told is told -/
theorem tell {Hk H2 : Hp} {p : Addr} {o : HO} (e : Ex Hk H2) (hk : Hk p = none) (hp : H2 p = some o) : Ex Hk (upd Hk p o) ∧ Ex (upd Hk p o) H2 :=
  ⟨Ex.new hk, fun a u h => by
    by_cases ha : a = p
    · subst ha
      rw [upd_same] at h
      cases h
      exact hp
    · rw [upd_ne ha] at h
      exact e a u h⟩
theorem told_list {Hk : Hp} {p : Addr} {vs : List V} {ds : List PyData} (r : RpAll K Hk vs ds) (hk : Hk p = none) : Rp K (upd Hk p (.lst vs)) (.ref p) (.list ds) := .lst (sq_of upd_same) (r.mono (Ex.new hk))
/-- laid new, then locked -/
theorem upd_upd {H : Hp} {p : Addr} {o o' : HO} : upd (upd H p o) p o' = upd H p o' := funext fun a => by
  by_cases h : a = p
  · subst h
    rw [upd_same, upd_same]
  · rw [upd_ne h, upd_ne h, upd_ne h]
end
/-- the law's own promise -/
def spLaw (K : PySem.W.Frag) : Sp := fun vs H1 Q _ => ∃ H a ns, vs = [.ref a] ∧ Ex H H1 ∧ SqL K H a ((ns : List Int).map V.int) ∧ ns.length ≤ 63 ∧ ∀ H2, Q (.bl true) H2
def Fine (d : PyData) : Prop := Nice d ∧ d.depth ≤ 10
def fineB (d : PyData) : Bool := (tidy d || isDic d) && decide (d.depth ≤ 10)
theorem Fine.of {d : PyData} (h : fineB d = true) : Fine d := by
  unfold fineB at h
  rw [Bool.and_eq_true, Bool.or_eq_true] at h
  exact ⟨h.1, of_decide_eq_true h.2⟩
theorem depth_mem : ∀ {ds : List PyData} {d : PyData}, d ∈ ds → d.depth ≤ PyData.depthAll ds
  | x :: ds, d, h => by
    show d.depth ≤ max x.depth (PyData.depthAll ds)
    rcases List.mem_cons.mp h with rfl | h
    · exact Nat.le_max_left _ _
    · exact Nat.le_trans (depth_mem h) (Nat.le_max_right _ _)
theorem Fine.tup {ds : List PyData} (h : Fine (.tuple ds)) : ∀ d ∈ ds, Fine d ∧ d.canLay0 = true := by
  intro d hd
  have hdep : d.depth ≤ 10 := Nat.le_trans (Nat.le_trans (depth_mem hd) (Nat.le_succ _)) h.2
  rcases h.1 with ht | ht
  · have h' : ds.length ≤ 1000 ∧ tidyAll ds = true := by simpa [tidy] using ht
    have := tidyAll_mem h'.2 d hd
    exact ⟨⟨.inl this, hdep⟩, canLay_tidy this⟩
  · cases ht
end DL
namespace DL
open PySem PySem.Spec PyProof.Rows L2 Evl
variable [CTab]
/-- the table of code objects at P, whatever it holds -/
def TabO (P : Addr) : HO := .ext fun h => ∃ qs : Array Value, h.get? P = some { cls := .none, data := .fields qs } ∧ TriplesOk qs.toList
end DL
namespace DL
open PySem PySem.Spec PyProof.Rows L2 Evl
end DL
namespace DL
open PySem PySem.Spec PyProof.Rows L2 Evl
variable [CTab]
def ledAt (rows : List (List Int)) (j : Nat) (i : Nat) : Bool := match rows[i]? with
  | some r => r.getD j 0 != 0
  | none => false
/-- the first row with a number other than 0 at j -/
def ledOf (rows : List (List Int)) (j : Nat) : Option Nat := ((List.range rows.length).filter (ledAt rows j)).head?
end DL
namespace DL
open PySem PySem.Spec PyProof.Rows L2 Evl
variable [CTab]
def ledD (rows : List (List Int)) (j : Nat) : PyData := match ledOf rows j with
  | some i => .int (i : Int)
  | none => .none
end DL
namespace DL
open PySem PySem.Spec PyProof.Rows L2 Evl
variable [CTab]
def Tabs (ts : List Addr) (H : Hp) : Prop := ∀ P ∈ ts, H P = some (TabO P)
theorem Tabs.mono {ts : List Addr} {H H' : Hp} (h : Tabs ts H) (e : Ex H H') : Tabs ts H' := fun P hP => e _ _ (h P hP)
end DL
namespace DL
open PySem PySem.Spec PyProof.Rows L2 Evl
open AutoSeq1 (wpAny_loadPart')
end DL
namespace DL
open PySem PySem.Spec PyProof.Rows L2 Evl
end DL
namespace DL
open PySem PySem.Spec PyProof.Rows L2 Evl
open AutoSeq1 (wpAny_loadPart')
variable [CTab]
section
variable {K : PySem.W.Frag} {σ : L2.St} {H H1 : Hp} {te ta tb tc : TE} {tt : TT} {tu tz : TS} {P P1 P2 P3 : PyData → Prop} {D : Ends} {i j l : Nat}
/-- a new list, not told -/
def EvN (K : PySem.W.Frag) (te : TE) (σ : L2.St) (H : Hp) (P : List PyData → Prop) : Prop :=
  ∀ H1, Ex H H1 → ∀ Q : VK, (∀ p vs ds Hk H2, Grow H H1 Hk H2 → RpAll K Hk vs ds → P ds → Hk p = none → H2 p = some (.lst vs) → H1 p = none → Q (.ref p) H2) → te σ H1 Q
end
end DL
namespace DL
open PySem PySem.Spec PyProof.Rows L2 Evl
end DL
namespace DL
open PySem PySem.Spec PyProof.Rows L2 Evl
end DL
namespace DL
open PySem PySem.Spec PyProof.Rows L2 Evl
variable [CTab]
def rCatS (K : PySem.W.Frag) : R2 := fun x y H Q => ∃ l b xs zs, x = .ref l ∧ y = .ref b ∧ SqL K H l xs ∧ SqL K H b zs ∧ xs.length + zs.length ≤ sizeLine ∧ ∀ p, H p = none → Q (.ref p) (upd H p (.lst (xs ++ zs)))
theorem op_catS {X : Cx} : OpR X (binaryOp .Add) (rCatS X.K) := by
  intro pins s σ H x y v u Q I rx ry h
  obtain ⟨l, b, xs, zs, rfl, rfl, hH, hB, hz, q⟩ := h
  obtain rfl : v = Value.ref l := rx
  obtain rfl : u = Value.ref b := ry
  obtain ⟨its, r, ⟨⟨c1, d1, t1, s1⟩, n, e, rfl, rfl, rfl⟩, hl⟩ := I.list hH
  obtain ⟨its2, r2, ⟨⟨c2, d2, t2, s2⟩, n2, e2, rfl, rfl, rfl⟩, hl2⟩ := I.list hB
  have e1 := r.length
  have e3 := r2.length
  have hsz : its.toArray.size + its2.toArray.size ≤ sizeLine := by
    rw [List.size_toArray, List.size_toArray]
    omega
  refine concat_meets ⟨_, e, rfl⟩ ⟨_, e2, rfl⟩ noFill_list_add seq_list_add PySem.F.slot_list_add PySem.F.entry_list_add (PySem.F.args_list_add_2 _ _) (list_addW l b its.toArray its2.toArray n n2 _ _ s1 s2 hsz) ⟨e, e2, ?_⟩
  have ea : its.toArray ++ its2.toArray = (its ++ its2).toArray := by simp
  rw [ea]
  exact ⟨.ref _, _, I.lnew (t' := s.toks) (r.append r2) (by rw [List.length_append]; omega), rfl, q _ I.fresh⟩
theorem kCatS {X : Cx} {K : PySem.W.Frag} (h : X.K = K) : OpR X (binaryOp .Add) (rCatS K) := h ▸ op_catS
theorem rd_catS {K : PySem.W.Frag} {ds es : List PyData} (h : ds.length + es.length ≤ 100000) : RD K (rCatS K) (.list ds) (.list es) (· = .list (ds ++ es)) := by
  intro v1 v2 H H1 e r1 r2 Q q
  cases r1 with
  | @lst a xs _ g r =>
    cases r2 with
    | @lst b ys _ g2 r2 =>
      refine ⟨a, b, xs, ys, rfl, rfl, ex_l e g, ex_l e g2, by rw [r.len, r2.len]; exact sz_of h, fun p hp => ?_⟩
      have g4 := Grow.new e hp (.lst (xs ++ ys))
      exact q _ _ _ _ g4 (.lst (sq_of upd_same) ((r.append r2).mono g4.known)) rfl
end DL
namespace Mx
abbrev R := List Int
abbrev at' (r : R) (c : Nat) : Int := r.getD c 0
def expand (g : List R → Int) (c : Nat) : List R → Int
  | [] => 0
  | r :: S => at' r c * g S - expand (fun T => g (r :: T)) c S
def det : List Nat → List R → Int
  | [], [] => 1
  | [], _ :: _ => 0
  | c :: Cs, rs => expand (det Cs) c rs
def Alt (g : List R → Int) : Prop := ∀ P a b S, g (P ++ a :: b :: S) = - g (P ++ b :: a :: S)
theorem expand_lin (x y : Int) (c : Nat) : ∀ (S : List R) (g h k : List R → Int), (∀ T, k T = x * g T + y * h T) → expand k c S = x * expand g c S + y * expand h c S
  | [], g, h, k, e => by simp [expand]
  | r :: S, g, h, k, e => by
    have ih := expand_lin x y c S (fun T => g (r :: T)) (fun T => h (r :: T)) (fun T => k (r :: T)) fun T => e (r :: T)
    have e0 := e S
    simp only [expand]
    grind
theorem expand_neg {g h : List R → Int} (e : ∀ T, g T = - h T) (c : Nat) (S : List R) : expand g c S = - expand h c S := by
  have := expand_lin (-1) 0 c S h h g fun T => by rw [e T]; omega
  omega
theorem alt_expand (c : Nat) : ∀ (P : List R) (g : List R → Int), Alt g → ∀ a b S, expand g c (P ++ a :: b :: S) = - expand g c (P ++ b :: a :: S)
  | [], g, hg, a, b, S => by
    have e := expand_neg (g := fun T => g (a :: b :: T)) (h := fun T => g (b :: a :: T)) (fun T => hg [] a b T) c S
    simp only [List.nil_append, expand]
    rw [e]
    omega
  | x :: P, g, hg, a, b, S => by
    have ih := alt_expand c P (fun T => g (x :: T)) (fun Q a b S => hg (x :: Q) a b S) a b S
    have e := hg P a b S
    simp only [List.cons_append, expand]
    rw [ih, e]
    grind
theorem alt_det : ∀ Cs, Alt (det Cs)
  | [] => fun P a b S => by cases P <;> simp [det]
  | c :: Cs => fun P a b S => alt_expand c P (det Cs) (alt_det Cs) a b S
theorem alt_zero : ∀ (P : List R) (g : List R → Int), Alt g → ∀ a S, g (a :: (P ++ a :: S)) = 0
  | [], g, hg, a, S => by
    have := hg [] a a S
    simp only [List.nil_append] at this ⊢
    omega
  | x :: P, g, hg, a, S => by
    have h1 := hg [] a x (P ++ a :: S)
    have h2 := alt_zero P (fun T => g (x :: T)) (fun Q a b S => hg (x :: Q) a b S) a S
    simp only [List.nil_append, List.cons_append] at h1 ⊢
    rw [h1, h2]
    rfl
theorem det_twice {Cs : List Nat} {r : R} {Ls : List R} (h : r ∈ Ls) : det Cs (r :: Ls) = 0 := by
  obtain ⟨P, S, rfl⟩ := List.append_of_mem h
  exact alt_zero P (det Cs) (alt_det Cs) r S
/-- a row's number as a sum of its numbers at the columns Cs -/
def Lin : List Nat → (R → Int) → Prop
  | [], f => ∀ r, f r = 0
  | c :: Cs, f => ∃ a k, Lin Cs k ∧ ∀ r, f r = a * at' r c + k r
theorem lin_congr : ∀ {Cs : List Nat} {f g : R → Int}, Lin Cs f → (∀ r, g r = f r) → Lin Cs g
  | [], f, g, h, e => fun r => by rw [e r]; exact h r
  | c :: Cs, f, g, ⟨a, k, hk, h⟩, e => ⟨a, k, hk, fun r => by rw [e r]; exact h r⟩
theorem lin_comb (x y : Int) : ∀ {Cs : List Nat} {f g : R → Int}, Lin Cs f → Lin Cs g → Lin Cs (fun r => x * f r + y * g r)
  | [], f, g, h, k => fun r => by
    show x * f r + y * g r = 0
    rw [h r, k r]
    simp
  | c :: Cs, f, g, ⟨a, p, hp, h⟩, ⟨b, q, hq, k⟩ => ⟨x * a + y * b, _, lin_comb x y hp hq, fun r => by
    show x * f r + y * g r = _
    rw [h r, k r]
    grind⟩
theorem lin_zero : ∀ {Cs : List Nat}, Lin Cs (fun _ => 0)
  | [] => fun _ => rfl
  | c :: Cs => ⟨0, _, lin_zero, fun r => by simp⟩
theorem lin_expand {Cs : List Nat} (c : Nat) : ∀ (S : List R) (G : R → List R → Int), (∀ T, Lin Cs (fun r => G r T)) → Lin Cs (fun r => expand (G r) c S)
  | [], G, h => lin_zero
  | s :: S, G, h => by
    have ih := lin_expand c S (fun r T => G r (s :: T)) fun T => h (s :: T)
    refine lin_congr (lin_comb (at' s c) (-1) (h S) ih) fun r => ?_
    simp only [expand]
    omega
theorem lin_det : ∀ (Cs : List Nat) (S : List R), Lin Cs (fun r => det Cs (r :: S))
  | [], S => fun r => rfl
  | c :: Cs, S => by
    have h := lin_expand c S (fun r T => det Cs (r :: T)) (fun T => lin_det Cs T)
    refine ⟨det Cs S, _, lin_comb (-1) 0 h lin_zero, fun r => ?_⟩
    simp only [det, expand]
    grind
theorem lin_det1 (c : Nat) (Cs : List Nat) (S : List R) : ∃ k, Lin Cs k ∧ ∀ r, det (c :: Cs) (r :: S) = det Cs S * at' r c + k r := by
  have h := lin_expand c S (fun r T => det Cs (r :: T)) (fun T => lin_det Cs T)
  refine ⟨_, lin_comb (-1) 0 h lin_zero, fun r => ?_⟩
  simp only [det, expand]
  grind
/-- all the leading determinants differ from 0 -/
def NZ : List Nat → List R → Prop
  | [], [] => True
  | c :: Cs, l :: Ls => det (c :: Cs) (l :: Ls) ≠ 0 ∧ NZ Cs Ls
  | [], _ :: _ => False
  | _ :: _, [] => False
theorem nz_det : ∀ {Cs : List Nat} {Ls : List R}, NZ Cs Ls → det Cs Ls ≠ 0
  | [], [], _ => by decide
  | _ :: _, _ :: _, h => h.1
theorem uniq : ∀ {Cs : List Nat} {Ls : List R} {f : R → Int}, NZ Cs Ls → Lin Cs f → (∀ l ∈ Ls, f l = 0) → ∀ r, f r = 0
  | [], [], f, _, h, _ => h
  | c :: Cs, l :: Ls, f, ⟨h1, h2⟩, ⟨a, k, hk, e⟩, z => by
    obtain ⟨k', hk', e'⟩ := lin_det1 c Cs Ls
    have hx : Lin Cs (fun r => det Cs Ls * f r + (-a) * det (c :: Cs) (r :: Ls)) := lin_congr (lin_comb (det Cs Ls) (-a) hk hk') fun r => by
      show det Cs Ls * f r + (-a) * det (c :: Cs) (r :: Ls) = det Cs Ls * k r + (-a) * k' r
      rw [e r, e' r]
      grind
    have hz : ∀ r, det Cs Ls * f r + (-a) * det (c :: Cs) (r :: Ls) = 0 := uniq h2 hx fun l' hl' => by
      show det Cs Ls * f l' + (-a) * det (c :: Cs) (l' :: Ls) = 0
      rw [z l' (List.mem_cons_of_mem _ hl'), det_twice hl']
      simp
    have ha : a = 0 := by
      have h := hz l
      rw [z l List.mem_cons_self, Int.mul_zero, Int.zero_add] at h
      rcases Int.mul_eq_zero.mp h with h | h
      · omega
      · exact absurd h h1
    intro r
    have h := hz r
    rw [ha, Int.neg_zero, Int.zero_mul, Int.add_zero] at h
    exact (Int.mul_eq_zero.mp h).resolve_left (nz_det h2)
end Mx
namespace Mx
abbrev F := Nat → Int
abbrev ix (L : List F) (i : Nat) : F := L.getD i fun _ => 0
/-- what sums of multiples of S reach, and parts of these -/
inductive Sp (S : F → Prop) : F → Prop
  | zero {t : F} : (∀ j, t j = 0) → Sp S t
  | mem {r : F} : S r → Sp S r
  | comb {r s t : F} (x y : Int) : Sp S r → Sp S s → (∀ j, t j = x * r j + y * s j) → Sp S t
  | div {r s : F} (d : Int) : d ≠ 0 → Sp S r → (∀ j, r j = d * s j) → Sp S s
theorem Sp.trans {S T : F → Prop} (h : ∀ r, S r → Sp T r) {r : F} (k : Sp S r) : Sp T r := by
  induction k with
  | zero e => exact .zero e
  | mem e => exact h _ e
  | comb x y _ _ e ih1 ih2 => exact .comb x y ih1 ih2 e
  | div d hd _ e ih => exact .div d hd ih e
end Mx
namespace Mx
inductive All2 {α β : Type} (p : α → β → Prop) : List α → List β → Prop
  | nil : All2 p [] []
  | cons {a : α} {b : β} {as : List α} {bs : List β} : p a b → All2 p as bs → All2 p (a :: as) (b :: bs)
theorem All2.map {α β γ : Type} {p : β → γ → Prop} {f : α → β} {g : α → γ} : ∀ {l : List α}, (∀ a ∈ l, p (f a) (g a)) → All2 p (l.map f) (l.map g)
  | [], _ => .nil
  | a :: l, h => .cons (h a List.mem_cons_self) (All2.map fun x hx => h x (List.mem_cons_of_mem _ hx))
end Mx
namespace Mx
open DL
end Mx
namespace DL
open PySem PySem.Spec PyProof.Rows L2 Evl Mx
variable [CTab]
/-- a number of less than 9000 bits -/
def Mid (n : Int) : Prop := n.natAbs < 2 ^ (9000 : Nat)
theorem Mid.getD {ns : List Int} {c : Nat} (h : ∀ n ∈ ns, Mid n) : Mid (ns.getD c 0) := by
  rw [List.getD_eq_getElem?_getD]
  by_cases hc : c < ns.length
  · rw [List.getElem?_eq_getElem hc]
    exact h _ (List.getElem_mem hc)
  · rw [List.getElem?_eq_none (by omega)]
    exact Nat.pow_pos (by decide)
end DL
namespace DL
open PySem PySem.Spec PyProof.Rows L2 Evl Mx
end DL
namespace DL
open PySem PySem.Spec PyProof.Rows L2 Evl
variable [CTab]
/-- what a slot holds: a datum; a list that nobody else holds; the bag of draws; just this place; a table of one's own (rows that nobody else holds) -/
inductive Sl where
  | dat (d : PyData)
  | own (ds : List PyData)
  | bag
  | pin (p : Addr)
  | tbl (rows : List (List PyData))
  | owd (t : Bool) (kvs : List (PyData × PyData))
abbrev WEnv := List (Option Sl)
abbrev WE := WEnv → (PyData → Prop) → Prop
abbrev WL := WEnv → (List PyData → Prop) → Prop
abbrev WA := WEnv → (List Sl → Prop) → Prop
abbrev WM := WEnv → (Sl → Prop) → Prop
abbrev WT := WEnv → (Bool → Prop) → Prop
abbrev WB := PyData → WEnv → (WEnv → Prop) → Prop
structure WD where
  nx : WEnv → Prop
  rt : PyData → Prop
  bk : WEnv → Prop
  ct : WEnv → Prop
abbrev WS := WD → WEnv → Prop
def SlP (K : PySem.W.Frag) (H : Hp) (v : Option (Option V)) : Option (Option Sl) → Prop
  | some (some (.dat d)) => ∃ x, v = some (some x) ∧ Rp K H x d
  | some (some .bag) => ∃ b, v = some (some (.ref b)) ∧ H b = some (BagO b)
  | some (some (.pin p)) => v = some (some (.ref p))
  | _ => True
structure FitP (K : PySem.W.Frag) (T : List Addr) (σ : L2.St) (ρ : WEnv) (H : Hp) : Prop where
  len : σ.length = ρ.length
  sl : ∀ i : Nat, SlP K H σ[i]? ρ[i]?
  tabs : Tabs T H
section
variable {K : PySem.W.Frag} {T : List Addr} {S : List Nat} {σ : L2.St} {ρ ρ1 ρk : WEnv} {H H' B B1 H1 Hk H2 : Hp}
theorem SlP.mono (e : Ex H H') {v : Option (Option V)} : ∀ {s : Option (Option Sl)}, SlP K H v s → SlP K H' v s
  | some (some (.dat d)), ⟨x, h, r⟩ => ⟨x, h, r.mono e⟩
  | some (some .bag), ⟨b, h, r⟩ => ⟨b, h, e _ _ r⟩
  | some (some (.own _)), _ => trivial
  | some (some (.tbl _)), _ => trivial
  | some (some (.owd _ _)), _ => trivial
  | some (some (.pin _)), h => h
  | some none, _ => trivial
  | none, _ => trivial
theorem FitP.mono (F : FitP K T σ ρ H) (e : Ex H H') : FitP K T σ ρ H' := ⟨F.len, fun i => (F.sl i).mono e, F.tabs.mono e⟩
theorem FitP.dat (F : FitP K T σ ρ H) {i : Nat} {d : PyData} (h : ρ[i]? = some (some (.dat d))) : ∃ v, σ[i]? = some (some v) ∧ Rp K H v d := by
  have := F.sl i
  rw [h] at this
  exact this
theorem FitP.bag (F : FitP K T σ ρ H) {i : Nat} (h : ρ[i]? = some (some .bag)) : ∃ b, σ[i]? = some (some (.ref b)) ∧ H b = some (BagO b) := by
  have := F.sl i
  rw [h] at this
  exact this
theorem get_set {α : Type} {l : List α} {i j : Nat} {a : α} : (l.set i a)[j]? = if i = j then (if i < l.length then some a else none) else l[j]? := by
  rw [List.getElem?_set]
theorem FitP.set (F : FitP K T σ ρ H) {i : Nat} {v : V} {d : PyData} (r : Rp K H v d) : FitP K T (σ.set i (some v)) (ρ.set i (some (.dat d))) H := by
  refine ⟨by rw [List.length_set, List.length_set, F.len], fun j => ?_, F.tabs⟩
  rw [get_set, get_set]
  by_cases h : i = j
  · rw [if_pos h, if_pos h, F.len]
    by_cases h2 : i < ρ.length
    · rw [if_pos h2, if_pos h2]
      exact ⟨v, rfl, r⟩
    · rw [if_neg h2, if_neg h2]
      trivial
  · rw [if_neg h, if_neg h]
    exact F.sl j
def wipeW (ρ : WEnv) : List Nat → WEnv
  | [] => ρ
  | v :: vs => (wipeW ρ vs).set v none
theorem FitP.none (F : FitP K T σ ρ H) (i : Nat) : FitP K T (σ.set i none) (ρ.set i none) H := by
  refine ⟨by rw [List.length_set, List.length_set, F.len], fun j => ?_, F.tabs⟩
  rw [get_set, get_set]
  by_cases h : i = j
  · rw [if_pos h, if_pos h, F.len]
    by_cases h2 : i < ρ.length
    · rw [if_pos h2, if_pos h2]
      trivial
    · rw [if_neg h2, if_neg h2]
      trivial
  · rw [if_neg h, if_neg h]
    exact F.sl j
theorem FitP.wipe (F : FitP K T σ ρ H) : ∀ vs : List Nat, FitP K T (wipe σ vs) (wipeW ρ vs) H
  | [] => F
  | v :: vs => (FitP.wipe F vs).none v
theorem wipe_get {σ : L2.St} {j : Nat} : ∀ {vs : List Nat}, (L2.wipe σ vs)[j]? = if j ∈ vs then (if j < σ.length then some none else none) else σ[j]?
  | [] => by simp [L2.wipe]
  | v :: vs => by
    show ((L2.wipe σ vs).set v none)[j]? = _
    rw [get_set, wipe_get (vs := vs), L2.wipe_length]
    by_cases h : v = j
    · subst h
      simp
    · rw [if_neg h]
      have : (j ∈ v :: vs) ↔ j ∈ vs := by
        rw [List.mem_cons]
        exact ⟨fun z => z.resolve_left fun e => h e.symm, .inr⟩
      by_cases h2 : j ∈ vs
      · rw [if_pos h2, if_pos (this.mpr h2)]
      · rw [if_neg h2, if_neg fun z => h2 (this.mp z)]
/-- what is wiped is wiped, whatever stood there -/
theorem wipe_eq {σ σ' : L2.St} {vs : List Nat} (hl : σ'.length = σ.length) (h : ∀ j, j ∉ vs → σ'[j]? = (L2.wipe σ vs)[j]?) : L2.wipe σ' vs = L2.wipe σ vs := by
  apply List.ext_getElem?
  intro j
  rw [wipe_get, wipe_get]
  by_cases hj : j ∈ vs
  · rw [if_pos hj, if_pos hj, hl]
  · rw [if_neg hj, if_neg hj, h j hj, wipe_get, if_neg hj]
/-- a thing of one's own: a list; a dict (t: with tuple keys), which stands locked between the stores -/
inductive Cont where
  | lst (ds : List PyData)
  | dic (t : Bool) (kvs : List (PyData × PyData))
def Sl.ownC : Sl → Option Cont
  | .own ds => some (.lst ds)
  | .owd t kvs => some (.dic t kvs)
  | _ => none
def Cont.dat : Cont → PyData
  | .lst ds => .list ds
  | .dic _ kvs => .dict kvs
def OwnAt (K : PySem.W.Frag) (H H1 : Hp) (p : Addr) : Cont → Prop
  | .lst ds => ∃ vs, H1 p = some (.lst vs) ∧ RpAll K H vs ds
  | .dic false kvs => ∃ o, ∃ ks : List (Key × V), H1 p = some (.frz o (.dK ks)) ∧ RpKv K H (ks.map fun p => (kD p.1, p.2)) kvs
  | .dic true kvs => ∃ o, ∃ ks : List (List Key × V), H1 p = some (.frz o (.dT ks)) ∧ RpKv K H (ks.map fun p => (.tuple (p.1.map kD), p.2)) kvs
theorem OwnAt.is {K : PySem.W.Frag} {H H1 : Hp} {p : Addr} : ∀ {c : Cont}, OwnAt K H H1 p c → ∃ o, H1 p = some o ∧ NT o
  | .lst _, ⟨vs, h, _⟩ => ⟨_, h, NT.lst⟩
  | .dic false _, ⟨_, _, h, _⟩ => ⟨_, h, fun _ z => nomatch z⟩
  | .dic true _, ⟨_, _, h, _⟩ => ⟨_, h, fun _ z => nomatch z⟩
theorem OwnAt.go {K : PySem.W.Frag} {H H' H1 H2 : Hp} {p : Addr} (e : Ex H H') (e1 : ∀ o, H1 p = some o → H2 p = some o) : ∀ {c : Cont}, OwnAt K H H1 p c → OwnAt K H' H2 p c
  | .lst _, ⟨vs, h, r⟩ => ⟨vs, e1 _ h, r.mono e⟩
  | .dic false _, ⟨o, ks, h, r⟩ => ⟨o, ks, e1 _ h, RpKv.mono e r⟩
  | .dic true _, ⟨o, ks, h, r⟩ => ⟨o, ks, e1 _ h, RpKv.mono e r⟩
theorem OwnAt.rp {K : PySem.W.Frag} {H H1 Ht : Hp} {p : Addr} (e : Ex H Ht) (e1 : ∀ o, H1 p = some o → Ht p = some o) : ∀ {c : Cont}, OwnAt K H H1 p c → Rp K Ht (.ref p) c.dat
  | .lst _, ⟨vs, h, r⟩ => .lst (sq_of (e1 _ h)) (r.mono e)
  | .dic false _, ⟨o, ks, h, r⟩ => .dic (.k ⟨o, e1 _ h⟩) (RpKv.mono e r)
  | .dic true _, ⟨o, ks, h, r⟩ => .dic (.t ⟨o, e1 _ h⟩) (RpKv.mono e r)
/-- the heap at the def's entry -/
class Base where
  h0 : Hp
structure FitO [Base] (K : PySem.W.Frag) (B1 : Hp) (σ : L2.St) (ρ : WEnv) (H H1 : Hp) : Prop where
  at1 : ∀ (i : Nat) s c, ρ[i]? = some (some s) → s.ownC = some c → ∃ p, σ[i]? = some (some (.ref p)) ∧ H p = none ∧ B1 p = none ∧ OwnAt K H H1 p c
  sep1 : ∀ (i j : Nat) p s c s' c', ρ[i]? = some (some s) → s.ownC = some c → ρ[j]? = some (some s') → s'.ownC = some c' → σ[i]? = some (some (.ref p)) → σ[j]? = some (some (.ref p)) → i = j
  b0 : ∀ a, B1 a = none → Base.h0 a = none
theorem FitO.own [Base] {K : PySem.W.Frag} {B1 : Hp} {σ : L2.St} {ρ : WEnv} {H H1 : Hp} (F : FitO K B1 σ ρ H H1) (i : Nat) (ds : List PyData) (h : ρ[i]? = some (some (.own ds))) : ∃ p vs, σ[i]? = some (some (.ref p)) ∧ H p = none ∧ B1 p = none ∧ H1 p = some (.lst vs) ∧ RpAll K H vs ds := by
  obtain ⟨p, a, b, c, vs, d, e⟩ := F.at1 i _ _ h rfl
  exact ⟨p, vs, a, b, c, d, e⟩
structure Fit [Base] (K : PySem.W.Frag) (T : List Addr) (B B1 : Hp) (σ : L2.St) (ρ : WEnv) (H H1 : Hp) : Prop where
  g : Grow B B1 H H1
  p : FitP K T σ ρ H
  o : FitO K B1 σ ρ H H1
def OwnA (S : List Nat) (σ : L2.St) (ρ : WEnv) (a : Addr) : Prop := ∃ (i : Nat) (s : Sl) (c : Cont), i ∈ S ∧ ρ[i]? = some (some s) ∧ s.ownC = some c ∧ σ[i]? = some (some (.ref a))
open Classical in
noncomputable def tellH (S : List Nat) (σ : L2.St) (ρ : WEnv) (H H1 : Hp) : Hp := fun a => if OwnA S σ ρ a then H1 a else H a
open Classical in
noncomputable def cutH (S : List Nat) (σ : L2.St) (ρ : WEnv) (H : Hp) : Hp := fun a => if OwnA S σ ρ a then none else H a
theorem tellH_own {a : Addr} (h : OwnA S σ ρ a) : tellH S σ ρ H H1 a = H1 a := if_pos h
theorem tellH_not {a : Addr} (h : ¬ OwnA S σ ρ a) : tellH S σ ρ H H1 a = H a := if_neg h
theorem cutH_own {a : Addr} (h : OwnA S σ ρ a) : cutH S σ ρ H a = none := if_pos h
theorem cutH_not {a : Addr} (h : ¬ OwnA S σ ρ a) : cutH S σ ρ H a = H a := if_neg h
theorem cutH_ex : Ex (cutH S σ ρ H) H := fun a o h => by
  by_cases c : OwnA S σ ρ a
  · rw [cutH_own c] at h
    cases h
  · rwa [cutH_not c] at h
theorem FitO.at [Base] (F : FitO K B1 σ ρ H H1) {a : Addr} (h : OwnA S σ ρ a) : ∃ (i : Nat) (s : Sl) (c : Cont), i ∈ S ∧ ρ[i]? = some (some s) ∧ s.ownC = some c ∧ σ[i]? = some (some (.ref a)) ∧ H a = none ∧ B1 a = none ∧ OwnAt K H H1 a c := by
  obtain ⟨i, s, c, h0, h1, h2, h3⟩ := h
  obtain ⟨p, e, a1, a2, a3⟩ := F.at1 i s c h1 h2
  rw [h3] at e
  cases e
  exact ⟨i, s, c, h0, h1, h2, h3, a1, a2, a3⟩
theorem FitO.no [Base] (F : FitO K B1 σ ρ H H1) {a : Addr} (h : OwnA S σ ρ a) : H a = none ∧ B1 a = none := by
  obtain ⟨_, _, _, _, _, _, _, n, n1, _⟩ := F.at h
  exact ⟨n, n1⟩
def Sl.tell : Sl → Sl
  | .own ds => .dat (.list ds)
  | .owd _ kvs => .dat (.dict kvs)
  | s => s
/-- one list of one's own is told -/
def tell1 (ρ : WEnv) (i : Nat) : WEnv := match ρ[i]? with
  | some (some (.own ds)) => ρ.set i (some (.dat (.list ds)))
  | some (some (.owd _ kvs)) => ρ.set i (some (.dat (.dict kvs)))
  | _ => ρ
def tells : List Nat → WEnv → WEnv
  | [], ρ => ρ
  | i :: S, ρ => tells S (tell1 ρ i)
theorem tell1_len {ρ : WEnv} {i : Nat} : (tell1 ρ i).length = ρ.length := by
  unfold tell1
  split
  · rw [List.length_set]
  · rw [List.length_set]
  · rfl
theorem tells_len : ∀ {S : List Nat} {ρ : WEnv}, (tells S ρ).length = ρ.length
  | [], _ => rfl
  | i :: S, ρ => (tells_len (S := S)).trans tell1_len
theorem tell1_get {ρ : WEnv} {i j : Nat} : (tell1 ρ i)[j]? = if i = j then (ρ[j]?).map (fun s => s.map Sl.tell) else ρ[j]? := by
  unfold tell1
  split
  · rename_i ds h
    rw [get_set]
    by_cases c : i = j
    · subst c
      rw [if_pos rfl, if_pos rfl, h, if_pos (List.getElem?_eq_some_iff.mp h).1]
      rfl
    · rw [if_neg c, if_neg c]
  · rename_i t kvs h
    rw [get_set]
    by_cases c : i = j
    · subst c
      rw [if_pos rfl, if_pos rfl, h, if_pos (List.getElem?_eq_some_iff.mp h).1]
      rfl
    · rw [if_neg c, if_neg c]
  · rename_i h h'
    by_cases c : i = j
    · subst c
      rw [if_pos rfl]
      cases e : ρ[i]? with
      | none => rfl
      | some s =>
        cases s with
        | none => rfl
        | some s =>
          cases s with
          | own ds => exact absurd e (h ds)
          | owd t kvs => exact absurd e (h' t kvs)
          | dat d => rfl
          | bag => rfl
          | pin _ => rfl
          | tbl _ => rfl
    · rw [if_neg c]
theorem tell_tell (s : Sl) : s.tell.tell = s.tell := by cases s <;> rfl
theorem tells_get : ∀ {S : List Nat} {ρ : WEnv} {j : Nat}, (tells S ρ)[j]? = if j ∈ S then (ρ[j]?).map (fun s => s.map Sl.tell) else ρ[j]?
  | [], ρ, j => by
    rw [if_neg (List.not_mem_nil)]
    rfl
  | i :: S, ρ, j => by
    show (tells S (tell1 ρ i))[j]? = _
    rw [tells_get (S := S), tell1_get]
    by_cases c : i = j
    · subst c
      rw [if_pos rfl, if_pos List.mem_cons_self]
      split
      · rw [Option.map_map]
        congr 1
        funext s
        cases s with
        | none => rfl
        | some s => exact congrArg some (tell_tell s)
      · rfl
    · rw [if_neg c]
      by_cases h : j ∈ S
      · rw [if_pos h, if_pos (List.mem_cons_of_mem _ h)]
      · rw [if_neg h, if_neg fun z => (List.mem_cons.mp z).elim (fun e => c e.symm) h]
theorem tell_ex [Base] (F : FitO K B1 σ ρ H H1) (e : Ex H H1) : Ex H (tellH S σ ρ H H1) ∧ Ex (tellH S σ ρ H H1) H1 := ⟨fun a o h => by
    by_cases c : OwnA S σ ρ a
    · rw [(F.no c).1] at h
      cases h
    · rw [tellH_not c]
      exact h, fun a o h => by
    by_cases c : OwnA S σ ρ a
    · rwa [tellH_own c] at h
    · rw [tellH_not c] at h
      exact e a o h⟩
theorem Fit.told [Base] (F : Fit K T B B1 σ ρ H H1) : FitP K T σ (tells S ρ) (tellH S σ ρ H H1) := by
  have e := tell_ex (S := S) F.o F.g.sub
  refine ⟨by rw [F.p.len, tells_len], fun i => ?_, F.p.tabs.mono e.1⟩
  have h := F.p.sl i
  rw [tells_get]
  by_cases c : i ∈ S
  · rw [if_pos c]
    cases q : ρ[i]? with
    | none => trivial
    | some s =>
      cases s with
      | none => trivial
      | some s =>
        rw [q] at h
        cases s with
        | dat d => exact h.mono e.1
        | bag => exact h.mono e.1
        | pin _ => exact h
        | tbl _ => trivial
        | own ds =>
          obtain ⟨p, e1, e2, e3, e4⟩ := F.o.at1 i _ _ q rfl
          exact ⟨_, e1, e4.rp e.1 fun o z => by rw [tellH_own ⟨i, _, _, c, q, rfl, e1⟩]; exact z⟩
        | owd t kvs =>
          obtain ⟨p, e1, e2, e3, e4⟩ := F.o.at1 i _ _ q rfl
          exact ⟨_, e1, e4.rp e.1 fun o z => by rw [tellH_own ⟨i, _, _, c, q, rfl, e1⟩]; exact z⟩
  · rw [if_neg c]
    exact h.mono e.1
theorem Fit.toldG [Base] (F : Fit K T B B1 σ ρ H H1) : Grow B B1 (tellH S σ ρ H H1) H1 := by
  have e := tell_ex (S := S) F.o F.g.sub
  refine ⟨F.g.known.trans e.1, e.2, F.g.all, fun a o h n t => ?_⟩
  by_cases c : OwnA S σ ρ a
  · exact (F.o.no c).2
  · rw [tellH_not c] at h
    exact F.g.fresh a o h n t
def Sub (ρk ρ : WEnv) : Prop := ρk.length = ρ.length ∧ ∀ (i : Nat) s, ρk[i]? = some (some s) → ρ[i]? = some (some s)
theorem Sub.refl (ρ : WEnv) : Sub ρ ρ := ⟨rfl, fun _ _ h => h⟩
theorem Sub.none {ρk ρ : WEnv} (h : Sub ρk ρ) (i : Nat) : Sub (ρk.set i none) ρ := ⟨by rw [List.length_set, h.1], fun j s e => by
  rw [get_set] at e
  by_cases c : i = j
  · rw [if_pos c] at e
    split at e <;> cases e
  · rw [if_neg c] at e
    exact h.2 j s e⟩
theorem OwnA.sub {a : Addr} (s : Sub ρk ρ) (h : OwnA S σ ρk a) : OwnA S σ ρ a := by
  obtain ⟨i, t, c, e0, e1, e2, e3⟩ := h
  exact ⟨i, t, c, e0, s.2 i _ e1, e2, e3⟩
theorem Fit.after [Base] (F : Fit K T B B1 σ ρ H H1) (s : Sub ρk ρ) (g : Grow (tellH S σ ρ H H1) H1 Hk H2) : Fit K T B B1 σ ρk (cutH S σ ρk Hk) H2 := by
  have e := tell_ex (S := S) F.o F.g.sub
  have eH : Ex H (cutH S σ ρk Hk) := fun a o h => by
    have c : ¬ OwnA S σ ρk a := fun c => by
      rw [(F.o.no (c.sub s)).1] at h
      cases h
    rw [cutH_not c]
    exact g.known a o (e.1 a o h)
  refine ⟨⟨F.g.known.trans eH, cutH_ex.trans g.sub, F.g.all.trans g.all, fun a o h n t => ?_⟩, ?_, ?_⟩
  · have h' := cutH_ex a o h
    by_cases c : OwnA S σ ρ a
    · exact (F.o.no c).2
    · cases q : tellH S σ ρ H H1 a with
      | none => exact ex_none F.g.all (g.fresh a o h' q t)
      | some u =>
        have t' := NT.of ((g.known a u q).symm.trans h') t
        rw [tellH_not c] at q
        exact F.g.fresh a u q n t'
  · refine ⟨by rw [F.p.len, s.1], fun i => ?_, F.p.tabs.mono eH⟩
    cases q : ρk[i]? with
    | none => trivial
    | some t =>
      cases t with
      | none => trivial
      | some t =>
        have h := F.p.sl i
        rw [s.2 i t q] at h
        cases t with
        | dat d => exact h.mono eH
        | bag => exact h.mono eH
        | pin _ => exact h
        | tbl _ => trivial
        | own ds => trivial
        | owd _ _ => trivial
  · refine ⟨fun i t ct q qc => ?_, fun i j p t ct t' ct' q1 qc q2 qc' => F.o.sep1 i j p t ct t' ct' (s.2 i _ q1) qc (s.2 j _ q2) qc', F.o.b0⟩
    obtain ⟨p, e1, e2, e3, e4⟩ := F.o.at1 i t ct (s.2 i _ q) qc
    refine ⟨p, e1, ?_, e3, e4.go eH (g.all p)⟩
    by_cases c : OwnA S σ ρ p
    · by_cases c2 : OwnA S σ ρk p
      · exact cutH_own c2
      · obtain ⟨j, t', ct', j1, j2, j3, j4⟩ := c
        have ej := F.o.sep1 i j p t ct t' ct' (s.2 i _ q) qc j2 j3 e1 j4
        subst ej
        exact absurd ⟨i, t, ct, j1, q, qc, e1⟩ c2
    · have c2 : ¬ OwnA S σ ρk p := fun z => c (z.sub s)
      rw [cutH_not c2]
      obtain ⟨o, ho, no⟩ := e4.is
      exact g.unk (by rw [tellH_not c]; exact e2) ho no
theorem Fit.grow [Base] (F : Fit K T B B1 σ ρ H H1) (g : Grow H H1 Hk H2) : Fit K T B B1 σ ρ Hk H2 :=
  ⟨F.g.trans g, F.p.mono g.known, fun i t ct q qc => by
    obtain ⟨p, e1, e2, e3, e4⟩ := F.o.at1 i t ct q qc
    obtain ⟨o, ho, no⟩ := e4.is
    exact ⟨p, e1, g.unk e2 ho no, e3, e4.go g.known (g.all p)⟩, F.o.sep1, F.o.b0⟩
end
def skl : PyData → PyData
  | .list _ => .dict []
  | .tuple _ => .dict []
  | .dict _ => .dict []
  | d => d
def sklV : V → Option PyData
  | .non => some .none
  | .bl b => some (.bool b)
  | .int i => some (.int i)
  | .str x => some (.str x)
  | .ref _ => some (.dict [])
  | _ => none
mutual
def fre (es : List PyData) : PyData → Prop
  | .list ds => ds.map skl ≠ es ∧ freAll es ds
  | .tuple ds => freAll es ds
  | .dict kvs => freKv es kvs
  | .none => True
  | .bool _ => True
  | .int _ => True
  | .str _ => True
def freAll (es : List PyData) : List PyData → Prop
  | [] => True
  | d :: ds => fre es d ∧ freAll es ds
def freKv (es : List PyData) : List (PyData × PyData) → Prop
  | [] => True
  | (_, d) :: ds => fre es d ∧ freKv es ds
end
mutual
def noDic : PyData → Bool
  | .list ds => noDicA ds
  | .tuple ds => noDicA ds
  | .dict _ => false
  | _ => true
def noDicA : List PyData → Bool
  | [] => true
  | d :: ds => noDic d && noDicA ds
end
def FreeE : List Nat → WEnv → PyData → Prop
  | [], _, _ => True
  | i :: S, ρ, d => (match ρ[i]? with
    | some (some (.own ds)) => fre (ds.map skl) d
    | some (some (.owd _ _)) => noDic d = true
    | _ => True) ∧ FreeE S ρ d
theorem FreeE.get : ∀ {S : List Nat} {ρ : WEnv} {d : PyData} {i : Nat} {ds : List PyData}, FreeE S ρ d → i ∈ S → ρ[i]? = some (some (.own ds)) → fre (ds.map skl) d
  | j :: S, ρ, d, i, ds, h, m, e => by
    by_cases c : i = j
    · subst c
      have := h.1
      rw [e] at this
      exact this
    · exact FreeE.get h.2 ((List.mem_cons.mp m).resolve_left c) e
theorem FreeE.getd : ∀ {S : List Nat} {ρ : WEnv} {d : PyData} {i : Nat} {t : Bool} {kvs : List (PyData × PyData)}, FreeE S ρ d → i ∈ S → ρ[i]? = some (some (.owd t kvs)) → noDic d = true
  | j :: S, ρ, d, i, t, kvs, h, m, e => by
    by_cases c : i = j
    · subst c
      have := h.1
      rw [e] at this
      exact this
    · exact FreeE.getd h.2 ((List.mem_cons.mp m).resolve_left c) e
section
variable {K : PySem.W.Frag} {T : List Addr} {S : List Nat} {σ : L2.St} {ρ ρ1 ρk : WEnv} {H H' B B1 H1 Hk H2 : Hp}
theorem skl_of {H : Hp} {v : V} {d : PyData} (r : Rp K H v d) : sklV v = some (skl d) := by cases r <;> rfl
theorem skl_all {H H' : Hp} : ∀ {vs : List V} {ds es : List PyData}, RpAll K H vs ds → RpAll K H' vs es → ds.map skl = es.map skl
  | _, _, _, .nil, .nil => rfl
  | _, _, _, .cons h r, .cons h' r' => by
    have e := (skl_of h).symm.trans (skl_of h')
    rw [List.map_cons, List.map_cons, skl_all r r', Option.some.inj e]
/-- the own things of ρk stand in Hk, told by σ -/
def OwnIn (K : PySem.W.Frag) (S : List Nat) (σ : L2.St) (ρk : WEnv) (Hk : Hp) : Prop := ∀ a, OwnA S σ ρk a → ∃ (i : Nat) (s : Sl) (c : Cont) (H : Hp), i ∈ S ∧ ρk[i]? = some (some s) ∧ s.ownC = some c ∧ OwnAt K H Hk a c
structure Fr (S : List Nat) (ρk : WEnv) (d : PyData) : Prop where
  l : ∀ (i : Nat) ds, i ∈ S → ρk[i]? = some (some (.own ds)) → fre (ds.map skl) d
  d : ∀ (i : Nat) t kvs, i ∈ S → ρk[i]? = some (some (.owd t kvs)) → noDic d = true
structure FrA (S : List Nat) (ρk : WEnv) (ds : List PyData) : Prop where
  l : ∀ (i : Nat) es, i ∈ S → ρk[i]? = some (some (.own es)) → freAll (es.map skl) ds
  d : ∀ (i : Nat) t kvs, i ∈ S → ρk[i]? = some (some (.owd t kvs)) → noDicA ds = true
structure FrKv (S : List Nat) (ρk : WEnv) (ds : List (PyData × PyData)) : Prop where
  l : ∀ (i : Nat) es, i ∈ S → ρk[i]? = some (some (.own es)) → freKv (es.map skl) ds
  d : ∀ (i : Nat) t kvs, i ∈ S → ρk[i]? = some (some (.owd t kvs)) → False
theorem FreeE.fr {d : PyData} (h : FreeE S ρk d) : Fr S ρk d := ⟨fun _ _ m e => h.get m e, fun _ _ _ m e => h.getd m e⟩
theorem Fr.list {ds : List PyData} (h : Fr S ρk (.list ds)) : (∀ (i : Nat) es, i ∈ S → ρk[i]? = some (some (.own es)) → ds.map skl ≠ es.map skl) ∧ FrA S ρk ds := ⟨fun i es m e => by
    have := h.l i es m e
    unfold fre at this
    exact this.1, fun i es m e => by
    have := h.l i es m e
    unfold fre at this
    exact this.2, fun i t kvs m e => by
    have := h.d i t kvs m e
    unfold noDic at this
    exact this⟩
theorem Fr.tup {ds : List PyData} (h : Fr S ρk (.tuple ds)) : FrA S ρk ds := ⟨fun i es m e => by
    have := h.l i es m e
    unfold fre at this
    exact this, fun i t kvs m e => by
    have := h.d i t kvs m e
    unfold noDic at this
    exact this⟩
theorem Fr.dic {ds : List (PyData × PyData)} (h : Fr S ρk (.dict ds)) : FrKv S ρk ds := ⟨fun i es m e => by
    have := h.l i es m e
    unfold fre at this
    exact this, fun i t kvs m e => by
    have := h.d i t kvs m e
    unfold noDic at this
    exact nomatch this⟩
theorem FrA.hd {d : PyData} {ds : List PyData} (h : FrA S ρk (d :: ds)) : Fr S ρk d ∧ FrA S ρk ds := ⟨⟨fun i es m e => by
    have := h.l i es m e
    unfold freAll at this
    exact this.1, fun i t kvs m e => by
    have := h.d i t kvs m e
    unfold noDicA at this
    exact (Bool.and_eq_true_iff.mp this).1⟩, fun i es m e => by
    have := h.l i es m e
    unfold freAll at this
    exact this.2, fun i t kvs m e => by
    have := h.d i t kvs m e
    unfold noDicA at this
    exact (Bool.and_eq_true_iff.mp this).2⟩
theorem FrKv.hd {d k : PyData} {ds : List (PyData × PyData)} (h : FrKv S ρk ((k, d) :: ds)) : Fr S ρk d ∧ FrKv S ρk ds := ⟨⟨fun i es m e => by
    have := h.l i es m e
    unfold freKv at this
    exact this.1, fun i t kvs m e => (h.d i t kvs m e).elim⟩, fun i es m e => by
    have := h.l i es m e
    unfold freKv at this
    exact this.2, h.d⟩
theorem OwnIn.not (O : OwnIn K S σ ρk Hk) {a : Addr} {u : HO} (h : Hk a = some u) (hu : ∀ vs, u ≠ .lst vs) (hd : (∀ o ks, u ≠ .frz o (.dK ks)) ∧ ∀ o ks, u ≠ .frz o (.dT ks)) : ¬ OwnA S σ ρk a := fun c => by
  obtain ⟨i, s, c, H, e0, e1, e2, e3⟩ := O a c
  cases c with
  | lst es =>
    obtain ⟨vs, e3, _⟩ := e3
    rw [e3] at h
    exact hu vs (Option.some.inj h).symm
  | dic t kvs =>
    cases t
    · obtain ⟨o, ks, e3, _⟩ := e3
      rw [e3] at h
      exact hd.1 o ks (Option.some.inj h).symm
    · obtain ⟨o, ks, e3, _⟩ := e3
      rw [e3] at h
      exact hd.2 o ks (Option.some.inj h).symm
theorem OwnIn.notd (O : OwnIn K S σ ρk Hk) {kvs : List (PyData × PyData)} (f : FrKv S ρk kvs) {a : Addr} {u : HO} (h : Hk a = some u) (hu : ∀ vs, u ≠ .lst vs) : ¬ OwnA S σ ρk a := fun c => by
  obtain ⟨i, s, c, H, e0, e1, e2, e3⟩ := O a c
  cases s with
  | own es =>
    cases e2
    obtain ⟨vs, e3, _⟩ := e3
    rw [e3] at h
    exact hu vs (Option.some.inj h).symm
  | owd t kvs => exact f.d i t kvs e0 e1
  | dat _ => cases e2
  | bag => cases e2
  | pin _ => cases e2
  | tbl _ => cases e2
theorem slO_ne {a C dx : Addr} {vs : List (Option V)} (xs : List V) : SlX.SlO a C dx vs ≠ .lst xs := fun z => by
  unfold SlX.SlO at z
  cases z
theorem DicH.cutO (O : OwnIn K S σ ρk Hk) {ds : List (PyData × PyData)} (f : FrKv S ρk ds) {a : Addr} {kvs : List (PyData × V)} : DicH K Hk a kvs → DicH K (cutH S σ ρk Hk) a kvs
  | .k ⟨ob, h⟩ => .k ⟨ob, by rw [cutH_not (O.notd f h fun vs z => nomatch z)]; exact h⟩
  | .t ⟨ob, h⟩ => .t ⟨ob, by rw [cutH_not (O.notd f h fun vs z => nomatch z)]; exact h⟩
  | .o h1 h2 h3 h4 => .o h1 h2 (by rw [cutH_not (O.notd f h3 slO_ne)]; exact h3) (by rw [cutH_not (O.notd f h4 fun vs z => nomatch z)]; exact h4)
mutual
theorem Rp.cutO (O : OwnIn K S σ ρk Hk) : ∀ {v : V} {d : PyData}, Rp K Hk v d → Fr S ρk d → Rp K (cutH S σ ρk Hk) v d
  | _, _, .non, _ => .non
  | _, _, .bl b, _ => .bl b
  | _, _, .int i, _ => .int i
  | _, _, .str x, _ => .str x
  | _, _, @Rp.lst _ _ _ a xs ds h r, f => by
    refine .lst ?_ (RpAll.cutO O r f.list.2)
    rcases h with h | h
    · refine .inl ?_
      have na : ¬ OwnA S σ ρk a := fun c => by
        obtain ⟨i, s, c, H, e0, e1, e2, e3⟩ := O a c
        cases s with
        | own es =>
          cases e2
          obtain ⟨vs, e2, e3⟩ := e3
          rcases h with h | ⟨o, h⟩
          · rw [e2] at h
            cases h
            exact f.list.1 i es e0 e1 (skl_all r e3)
          · rw [e2] at h
            cases h
        | owd t kvs =>
          cases e2
          cases t
          · obtain ⟨_, _, e2, _⟩ := e3
            rcases h with h | ⟨o, h⟩ <;> (rw [e2] at h; cases h)
          · obtain ⟨_, _, e2, _⟩ := e3
            rcases h with h | ⟨o, h⟩ <;> (rw [e2] at h; cases h)
        | dat _ => cases e2
        | bag => cases e2
        | pin _ => cases e2
        | tbl _ => cases e2
      rcases h with h | ⟨o, h⟩
      · exact .inl (by rw [cutH_not na]; exact h)
      · exact .inr ⟨o, by rw [cutH_not na]; exact h⟩
    · exact .inr h
  | _, _, @Rp.tup _ _ _ a xs ds h r, f => by
    refine .tup ?_ (RpAll.cutO O r f.tup)
    have cut : ∀ u : HO, Hk a = some u → (∀ vs, u ≠ .lst vs) → ((∀ o ks, u ≠ .frz o (.dK ks)) ∧ ∀ o ks, u ≠ .frz o (.dT ks)) → cutH S σ ρk Hk a = some u := fun u z n n2 => by
      rw [cutH_not (O.not z n n2)]
      exact z
    rcases h with h | ⟨e0, (h | ⟨ob, h⟩) | h⟩
    · exact .inl (cut _ h (fun vs z => nomatch z) ⟨(fun _ _ z => nomatch z), (fun _ _ z => nomatch z)⟩)
    · exact .inr ⟨e0, .inl (.inl (cut _ h (fun vs z => nomatch z) ⟨(fun _ _ z => nomatch z), (fun _ _ z => nomatch z)⟩))⟩
    · exact .inr ⟨e0, .inl (.inr ⟨ob, cut _ h (fun vs z => nomatch z) ⟨(fun _ _ z => nomatch z), (fun _ _ z => nomatch z)⟩⟩)⟩
    · exact .inr ⟨e0, .inr h⟩
  | _, _, .dic h r, f => .dic (h.cutO O f.dic) (RpKv.cutO O r f.dic)
theorem RpAll.cutO (O : OwnIn K S σ ρk Hk) : ∀ {vs : List V} {ds : List PyData}, RpAll K Hk vs ds → FrA S ρk ds → RpAll K (cutH S σ ρk Hk) vs ds
  | _, _, .nil, _ => .nil
  | _, _, .cons h r, f => .cons (Rp.cutO O h f.hd.1) (RpAll.cutO O r f.hd.2)
theorem RpKv.cutO (O : OwnIn K S σ ρk Hk) : ∀ {vs : List (PyData × V)} {ds : List (PyData × PyData)}, RpKv K Hk vs ds → FrKv S ρk ds → RpKv K (cutH S σ ρk Hk) vs ds
  | _, _, .nil, _ => .nil
  | _, _, .cons h r, f => .cons (Rp.cutO O h f.hd.1) (RpKv.cutO O r f.hd.2)
end
theorem freAll_of {es : List PyData} : ∀ {ds : List PyData}, (∀ d ∈ ds, fre es d) → freAll es ds
  | [], _ => by unfold freAll; trivial
  | d :: ds, h => by
    unfold freAll
    exact ⟨h d List.mem_cons_self, freAll_of fun e he => h e (List.mem_cons_of_mem _ he)⟩
theorem noDicA_of : ∀ {ds : List PyData}, (∀ d ∈ ds, noDic d = true) → noDicA ds = true
  | [], _ => by unfold noDicA; rfl
  | d :: ds, h => by
    unfold noDicA
    rw [h d List.mem_cons_self, noDicA_of fun e he => h e (List.mem_cons_of_mem _ he)]
    rfl
theorem Fit.ownIn [Base] (F : Fit K T B B1 σ ρ H H1) (s : Sub ρk ρ) (g : Grow (tellH S σ ρ H H1) H1 Hk H2) : OwnIn K S σ ρk Hk := fun a q => by
  obtain ⟨i, t, c, h0, h1, h2, h3⟩ := q
  obtain ⟨p, e1, e2, e3, e4⟩ := F.o.at1 i t c (s.2 i _ h1) h2
  rw [h3] at e1
  cases e1
  exact ⟨i, t, c, H, h0, h1, h2, e4.go (fun _ _ z => z) fun o z => g.known _ _ (by rw [tellH_own ⟨i, t, c, h0, s.2 i _ h1, h2, h3⟩]; exact z)⟩
def RpM (K : PySem.W.Frag) (H1 Hk H2 : Hp) (v : V) : Sl → Prop
  | .dat d => Rp K Hk v d
  | .bag => ∃ b, v = .ref b ∧ Hk b = some (BagO b)
  | .pin p => v = .ref p
  | .tbl _ => True
  | .own ds => ∃ p us, v = .ref p ∧ Hk p = none ∧ H1 p = none ∧ H2 p = some (.lst us) ∧ RpAll K Hk us ds
  | .owd t kvs => ∃ p, v = .ref p ∧ Hk p = none ∧ H1 p = none ∧ OwnAt K Hk H2 p (.dic t kvs)
theorem RpM.own {v : V} {s : Sl} {c : Cont} (h : RpM K H1 Hk H2 v s) (e : s.ownC = some c) : ∃ p, v = .ref p ∧ Hk p = none ∧ H1 p = none ∧ OwnAt K Hk H2 p c := by
  cases s with
  | own ds =>
    cases e
    obtain ⟨p, us, e1, e2, e3, e4, e5⟩ := h
    exact ⟨p, e1, e2, e3, us, e4, e5⟩
  | owd t kvs =>
    cases e
    exact h
  | dat _ => cases e
  | bag => cases e
  | pin _ => cases e
  | tbl _ => cases e
def FreeS (S : List Nat) (ρk : WEnv) : Sl → Prop
  | .dat d => FreeE S ρk d
  | .own ds => ∀ d ∈ ds, FreeE S ρk d
  | .owd _ kvs => ∀ d ∈ kvs, FreeE S ρk d.2
  | .bag => True
  | .pin _ => True
  | .tbl _ => True
theorem bag_cut [Base] (F : Fit K T B B1 σ ρ H H1) (s : Sub ρk ρ) (g : Grow (tellH S σ ρ H H1) H1 Hk H2) {b : Addr} (h : Hk b = some (BagO b)) : cutH S σ ρk Hk b = some (BagO b) := by
  rw [cutH_not ((F.ownIn s g).not h (fun _ z => nomatch z) ⟨(fun _ _ z => nomatch z), (fun _ _ z => nomatch z)⟩)]
  exact h
theorem RpKv.cutM (O : OwnIn K S σ ρk Hk) : ∀ {vs : List (PyData × V)} {ds : List (PyData × PyData)}, RpKv K Hk vs ds → (∀ d ∈ ds, FreeE S ρk d.2) → RpKv K (cutH S σ ρk Hk) vs ds
  | _, _, .nil, _ => .nil
  | _, _, .cons h r, f => .cons (Rp.cutO O h (f _ List.mem_cons_self).fr) (RpKv.cutM O r fun d hd => f d (List.mem_cons_of_mem _ hd))
theorem OwnAt.cutM (O : OwnIn K S σ ρk Hk) {p : Addr} {t : Bool} {kvs : List (PyData × PyData)} (f : ∀ d ∈ kvs, FreeE S ρk d.2) : OwnAt K Hk H2 p (.dic t kvs) → OwnAt K (cutH S σ ρk Hk) H2 p (.dic t kvs) := by
  cases t
  · rintro ⟨o, ks, h, r⟩
    exact ⟨o, ks, h, RpKv.cutM O r f⟩
  · rintro ⟨o, ks, h, r⟩
    exact ⟨o, ks, h, RpKv.cutM O r f⟩
theorem RpM.cut [Base] (F : Fit K T B B1 σ ρ H H1) (s : Sub ρk ρ) (g : Grow (tellH S σ ρ H H1) H1 Hk H2) {v : V} : ∀ {t : Sl}, RpM K H1 Hk H2 v t → FreeS S ρk t → RpM K H1 (cutH S σ ρk Hk) H2 v t
  | .dat d, r, f => Rp.cutO (F.ownIn s g) r f.fr
  | .bag, ⟨b, e, h⟩, _ => ⟨b, e, bag_cut F s g h⟩
  | .pin _, h, _ => h
  | .tbl _, _, _ => trivial
  | .own ds, ⟨p, us, e1, e2, e3, e4, e5⟩, f => ⟨p, us, e1, ex_none cutH_ex e2, e3, e4, RpAll.cutO (F.ownIn s g) e5 ⟨fun i es m e => freAll_of fun d hd => (f d hd).get m e, fun i t kvs m e => noDicA_of fun d hd => (f d hd).getd m e⟩⟩
  | .owd t kvs, ⟨p, e1, e2, e3, e4⟩, f => ⟨p, e1, ex_none cutH_ex e2, e3, e4.cutM (F.ownIn s g) f⟩
theorem RpM.grow {v : V} {Hk' H3 H0 : Hp} (g : Grow Hk H2 Hk' H3) (e : Ex H0 H1) : ∀ {t : Sl}, RpM K H1 Hk H2 v t → RpM K H0 Hk' H3 v t
  | .dat d, r => Rp.mono g.known r
  | .bag, ⟨b, e, h⟩ => ⟨b, e, g.known _ _ h⟩
  | .pin _, h => h
  | .tbl _, _ => trivial
  | .own ds, ⟨p, us, e1, e2, e3, e4, e5⟩ => ⟨p, us, e1, g.unk e2 e4 NT.lst, ex_none e e3, g.all _ _ e4, e5.mono g.known⟩
  | .owd t kvs, ⟨p, e1, e2, e3, e4⟩ => by
    obtain ⟨o, ho, no⟩ := e4.is
    exact ⟨p, e1, g.unk e2 ho no, ex_none e e3, e4.go g.known (g.all p)⟩
theorem Fit.put [Base] (F : Fit K T B B1 σ ρ H H1) {i : Nat} {v : V} {s : Sl} {H0 : Hp} (m : RpM K H0 H H1 v s) (e0 : Ex B1 H0) (sep : ∀ p c, v = .ref p → s.ownC = some c → ∀ (j : Nat) s' c', j ≠ i → ρ[j]? = some (some s') → s'.ownC = some c' → σ[j]? = some (some (.ref p)) → False) :
    Fit K T B B1 (σ.set i (some v)) (ρ.set i (some s)) H H1 := by
  refine ⟨F.g, ⟨by rw [List.length_set, List.length_set, F.p.len], fun j => ?_, F.p.tabs⟩, ⟨fun j t c q qc => ?_, fun j l p t c t' c' q1 qc q2 qc' z1 z2 => ?_, F.o.b0⟩⟩
  · rw [get_set, get_set]
    by_cases h : i = j
    · rw [if_pos h, if_pos h, F.p.len]
      by_cases h2 : i < ρ.length
      · rw [if_pos h2, if_pos h2]
        cases s with
        | dat d => exact ⟨v, rfl, m⟩
        | bag =>
          obtain ⟨b, rfl, hb⟩ := m
          exact ⟨b, rfl, hb⟩
        | pin p =>
          subst m
          rfl
        | tbl _ => trivial
        | own ds => trivial
        | owd t kvs => trivial
      · rw [if_neg h2, if_neg h2]
        trivial
    · rw [if_neg h, if_neg h]
      exact F.p.sl j
  · rw [get_set] at q ⊢
    by_cases h : i = j
    · rw [if_pos h] at q ⊢
      rw [F.p.len]
      by_cases h2 : i < ρ.length
      · rw [if_pos h2] at q ⊢
        cases Option.some.inj (Option.some.inj q)
        obtain ⟨p, e1, e2, e3, e4⟩ := m.own qc
        subst e1
        exact ⟨p, rfl, e2, ex_none e0 e3, e4⟩
      · rw [if_neg h2] at q
        cases q
    · rw [if_neg h] at q ⊢
      exact F.o.at1 j t c q qc
  · rw [get_set] at q1 q2 z1 z2
    by_cases h : i = j
    · rw [if_pos h] at q1 z1
      by_cases h' : i = l
      · exact h.symm.trans h'
      · rw [if_neg h'] at q2 z2
        rw [F.p.len] at z1
        by_cases h2 : i < ρ.length
        · rw [if_pos h2] at q1 z1
          cases Option.some.inj (Option.some.inj q1)
          cases Option.some.inj (Option.some.inj z1)
          exact (sep p c rfl qc l t' c' (fun z => h' z.symm) q2 qc' z2).elim
        · rw [if_neg h2] at q1
          cases q1
    · rw [if_neg h] at q1 z1
      by_cases h' : i = l
      · rw [if_pos h'] at q2 z2
        rw [F.p.len] at z2
        by_cases h2 : i < ρ.length
        · rw [if_pos h2] at q2 z2
          cases Option.some.inj (Option.some.inj q2)
          cases Option.some.inj (Option.some.inj z2)
          exact (sep p c' rfl qc' j t c (fun z => h z.symm) q1 qc z1).elim
        · rw [if_neg h2] at q2
          cases q2
      · rw [if_neg h'] at q2 z2
        exact F.o.sep1 j l p t c t' c' q1 qc q2 qc' z1 z2
/-- a new thing's place is no one's -/
theorem Fit.fresh_sep [Base] (F : Fit K T B B1 σ ρ H H1) {p : Addr} (n : H1 p = none) {j : Nat} {s : Sl} {c : Cont} (h : ρ[j]? = some (some s)) (hc : s.ownC = some c) (hs : σ[j]? = some (some (.ref p))) : False := by
  obtain ⟨p', e1, _, _, e4⟩ := F.o.at1 j s c h hc
  rw [hs] at e1
  cases e1
  obtain ⟨o, ho, _⟩ := e4.is
  rw [n] at ho
  cases ho
end
end DL
namespace DL
open PySem PySem.Spec PyProof.Rows L2 Evl
variable [CTab]
/-- the reading te gives what we wishes -/
def DE (K : PySem.W.Frag) (T : List Addr) (te : TE) (we : WE) : Prop := ∀ σ ρ H, FitP K T σ ρ H → ∀ P, we ρ P → EvP K te σ H P
def EvM (K : PySem.W.Frag) (te : TE) (σ : L2.St) (H : Hp) (P : Sl → Prop) : Prop :=
  ∀ H1, Ex H H1 → ∀ Q : VK, (∀ v s Hk H2, Grow H H1 Hk H2 → RpM K H1 Hk H2 v s → P s → Q v H2) → te σ H1 Q
def DM (K : PySem.W.Frag) (T : List Addr) (te : TE) (wm : WM) : Prop := ∀ σ ρ H, FitP K T σ ρ H → ∀ P, wm ρ P → EvM K te σ H P
/-- a new list -/
def DN (K : PySem.W.Frag) (T : List Addr) (te : TE) (wn : WL) : Prop := ∀ σ ρ H, FitP K T σ ρ H → ∀ P, wn ρ P → EvN K te σ H P
/-- arguments: data -/
def DL' (K : PySem.W.Frag) (T : List Addr) (ta : TA) (wl : WL) : Prop := ∀ σ ρ H, FitP K T σ ρ H → ∀ P, wl ρ P → EvAs K ta σ H P
def RpSl (K : PySem.W.Frag) (H : Hp) (v : V) : Sl → Prop
  | .dat d => Rp K H v d
  | .bag => ∃ b, v = .ref b ∧ H b = some (BagO b)
  | .own _ => False
  | .owd _ _ => False
  | .pin p => v = .ref p
  | .tbl _ => False
inductive RpSs (K : PySem.W.Frag) (H : Hp) : List V → List Sl → Prop
  | nil : RpSs K H [] []
  | cons {v : V} {vs : List V} {s : Sl} {ss : List Sl} : RpSl K H v s → RpSs K H vs ss → RpSs K H (v :: vs) (s :: ss)
def EvS (K : PySem.W.Frag) (ta : TA) (σ : L2.St) (H : Hp) (P : List Sl → Prop) : Prop :=
  ∀ H1, Ex H H1 → ∀ Q : List V → Hp → Prop, (∀ vs ss Hk H2, Grow H H1 Hk H2 → RpSs K Hk vs ss → P ss → Q vs H2) → ta σ H1 Q
/-- arguments: data or the bag -/
def DA (K : PySem.W.Frag) (T : List Addr) (ta : TA) (wa : WA) : Prop := ∀ σ ρ H, FitP K T σ ρ H → ∀ P, wa ρ P → EvS K ta σ H P
def DT (K : PySem.W.Frag) (T : List Addr) (tt : TT) (wt : WT) : Prop := ∀ σ ρ H, FitP K T σ ρ H → ∀ P, wt ρ P → EvTP tt σ H P
def varW (i : Nat) : WE := fun ρ Q => match ρ[i]? with
  | some (some (.dat d)) => Q d
  | _ => False
def cW (d : PyData) : WE := fun _ Q => Q d
def opW (w : PyData → PyData → (PyData → Prop) → Prop) (a b : WE) : WE := fun ρ Q => a ρ fun d => b ρ fun e => w d e Q
def unW (w : PyData → (PyData → Prop) → Prop) (a : WE) : WE := fun ρ Q => a ρ fun d => w d Q
def nilW : WL := fun _ Q => Q []
def consW (a : WE) (r : WL) : WL := fun ρ Q => a ρ fun d => r ρ fun ds => Q (d :: ds)
def tupW (a : WL) : WE := fun ρ Q => a ρ fun ds => ds.length ≤ 100000 ∧ Q (.tuple ds)
def lstN (a : WL) : WL := fun ρ Q => a ρ fun ds => ds.length ≤ 100000 ∧ Q ds
def newW (n : WL) : WE := fun ρ Q => n ρ fun ds => Q (.list ds)
def cbW (w : List PyData → (PyData → Prop) → Prop) (a : WL) : WE := fun ρ Q => a ρ fun ds => w ds Q
def anilW : WA := fun _ Q => Q []
def aconsW (a : WE) (r : WA) : WA := fun ρ Q => a ρ fun d => r ρ fun ss => Q (.dat d :: ss)
def avarW (i : Nat) (r : WA) : WA := fun ρ Q => match ρ[i]? with
  | some (some (.dat d)) => r ρ fun ss => Q (.dat d :: ss)
  | some (some .bag) => r ρ fun ss => Q (.bag :: ss)
  | _ => False
def callW (n : Nat) (w : List Sl → (PyData → Prop) → Prop) (a : WA) : WE := fun ρ Q => a ρ fun ss => ss.length = n ∧ w ss Q
def testW (a : WE) : WT := fun ρ Q => a ρ fun d => match d with
  | .bool b => Q b
  | _ => False
def notT (a : WT) : WT := fun ρ Q => a ρ fun b => Q (!b)
def andT (a b : WT) : WT := fun ρ Q => a ρ fun c => if c = true then b ρ Q else Q false
def orT (a b : WT) : WT := fun ρ Q => a ρ fun c => if c = true then Q true else b ρ Q
def yesT : WT := fun _ Q => Q true
def andV (a b : WE) : WE := fun ρ Q => a ρ fun d => match d with
  | .bool true => b ρ Q
  | .bool false => Q (.bool false)
  | _ => False
def orV (a b : WE) : WE := fun ρ Q => a ρ fun d => match d with
  | .bool true => Q (.bool true)
  | .bool false => b ρ Q
  | _ => False
def notV (a : WE) : WE := fun ρ Q => a ρ fun d => match d with
  | .bool b => Q (.bool !b)
  | _ => False
def ifV (c : WT) (a b : WE) : WE := fun ρ Q => c ρ fun k => if k = true then a ρ Q else b ρ Q
def chainW (w1 w2 : PyData → PyData → (PyData → Prop) → Prop) (a b c : WE) : WE := fun ρ Q => a ρ fun d => b ρ fun e => w1 d e fun z => match z with
  | .bool true => c ρ fun f => w2 e f Q
  | .bool false => Q (.bool false)
  | _ => False
def datM (a : WE) : WM := fun ρ Q => a ρ fun d => Q (.dat d)
def newM (n : WL) : WM := fun ρ Q => n ρ fun ds => Q (.own ds)
section
variable {K : PySem.W.Frag} {T : List Addr} {ta tb tc te : TE} {tt tu : TT} {tl : TA} {wa wb wc : WE} {wl : WL} {ws : WA} {r r' : R2} {ct cu : WT}
theorem de_var {i : Nat} : DE K T (tVar i) (varW i) := fun σ ρ H F P h => by
  unfold varW at h
  split at h
  · rename_i d e
    obtain ⟨v, h1, h2⟩ := F.dat e
    exact (evp_var h1 h2).weak fun _ z => by subst z; exact h
  · exact h.elim
theorem de_c {v : V} {d : PyData} (r : ∀ H, Rp K H v d) : DE K T (tC v) (cW d) := fun σ ρ H F P h => (evp_c (r H)).weak fun _ z => by subst z; exact h
theorem de_int {i : Int} : DE K T (tC (.int i)) (cW (.int i)) := de_c fun _ => .int i
theorem de_bl {i : Bool} : DE K T (tC (.bl i)) (cW (.bool i)) := de_c fun _ => .bl i
theorem de_str {i : Str} : DE K T (tC (.str i)) (cW (.str i)) := de_c fun _ => .str i
theorem de_non : DE K T (tC .non) (cW .none) := de_c fun _ => .non
/-- an operation told over data -/
def OpW (K : PySem.W.Frag) (r : R2) (w : PyData → PyData → (PyData → Prop) → Prop) : Prop := ∀ d e Q, w d e Q → RD K r d e Q
theorem de_op {w : PyData → PyData → (PyData → Prop) → Prop} (hr : OpW K r w) (ha : DE K T ta wa) (hb : DE K T tb wb) : DE K T (tOp r ta tb) (opW w wa wb) := fun σ ρ H F P h H1 e Q q =>
  ha σ ρ H F _ h H1 e _ fun v1 d1 Hk2 H2 g2 r1 p1 => hb σ ρ Hk2 (F.mono g2.known) _ p1 H2 g2.sub _ fun v2 d2 Hk3 H3 g3 r2 p2 => hr d1 d2 P p2 v1 v2 Hk3 H3 g3.sub (r1.mono g3.known) r2 Q fun v d Hk4 H4 g4 r4 p4 => q v d Hk4 H4 ((g2.trans g3).trans g4) r4 p4
theorem de_neg (ha : DE K T ta wa) : DE K T (tUn (rU fun i => .int (-i)) ta) (unW (fun d Q => match d with | .int i => Q (.int (-i)) | _ => False) wa) := fun σ ρ H F P h H1 e Q q =>
  ha σ ρ H F _ h H1 e _ fun v1 d1 Hk2 H2 g2 r1 p1 => by
    cases r1 with
    | int i => exact ⟨i, rfl, q _ _ Hk2 H2 g2 (.int _) p1⟩
    | non => exact p1.elim
    | bl _ => exact p1.elim
    | str _ => exact p1.elim
    | lst _ _ => exact p1.elim
    | tup _ _ => exact p1.elim
    | dic _ _ => exact p1.elim
theorem dl_nil : DL' K T tNil nilW := fun σ ρ H F P h H1 e Q q => q _ _ H H1 (Grow.refl e) .nil h
theorem dl_cons (ha : DE K T ta wa) (hr : DL' K T tl wl) : DL' K T (tCons ta tl) (consW wa wl) := fun σ ρ H F P h H1 e Q q =>
  ha σ ρ H F _ h H1 e _ fun v d Hk2 H2 g2 r2 p2 => hr σ ρ Hk2 (F.mono g2.known) _ p2 H2 g2.sub _ fun vs ds Hk3 H3 g3 r3 p3 => q (v :: vs) (d :: ds) Hk3 H3 (g2.trans g3) (.cons (r2.mono g3.known) r3) p3
theorem de_tup (h : DL' K T tl wl) : DE K T (tTup tl) (tupW wl) := fun σ ρ H F P h2 H1 e Q q =>
  h σ ρ H F _ h2 H1 e _ fun vs ds Hk2 H2 g2 r2 p2 => ⟨sz_of (by rw [r2.len]; exact p2.1), fun p hp =>
    have g3 := Grow.new g2.sub hp (.tup vs)
    q _ (.tuple ds) _ _ (g2.trans g3) (.tup (.inl upd_same) (r2.mono g3.known)) p2.2⟩
theorem dn_lst (h : DL' K T tl wl) : DN K T (tLst tl) (lstN wl) := fun σ ρ H F P h2 H1 e Q q =>
  h σ ρ H F _ h2 H1 e _ fun vs ds Hk2 H2 g2 r2 p2 => ⟨sz_of (by rw [r2.len]; exact p2.1), fun p hp =>
    q p vs ds Hk2 _ (g2.trans (Grow.hide g2.sub hp _)) r2 p2.2 (ex_none g2.sub hp) upd_same (ex_none g2.all hp)⟩
theorem de_new (h : DN K T te wl) : DE K T te (newW wl) := fun σ ρ H F P h2 H1 e Q q => h σ ρ H F _ h2 H1 e Q fun p vs ds Hk H2 g r p1 n1 n2 n3 => by
  have t := tell g.sub n1 n2
  refine q _ _ (upd Hk p (.lst vs)) H2 ⟨g.known.trans t.1, t.2, g.all, fun a o h n nt => ?_⟩ (told_list r n1) p1
  by_cases ha : a = p
  · subst ha
    exact n3
  · rw [upd_ne ha] at h
    exact g.fresh a o h n nt
theorem dm_dat (h : DE K T te wa) : DM K T te (datM wa) := fun σ ρ H F P h2 H1 e Q q => h σ ρ H F _ h2 H1 e Q fun v d Hk H2 g r p => q v (.dat d) Hk H2 g r p
def CbW (K : PySem.W.Frag) (rr : List V → Hp → VK → Prop) (w : List PyData → (PyData → Prop) → Prop) : Prop := ∀ ds Q, w ds Q → RCD K rr ds Q
theorem de_cb {rr : List V → Hp → VK → Prop} {w : List PyData → (PyData → Prop) → Prop} (hr : CbW K rr w) (h : DL' K T tl wl) : DE K T (tCB rr tl) (cbW w wl) := fun σ ρ H F P h2 H1 e Q q =>
  h σ ρ H F _ h2 H1 e _ fun vs ds Hk2 H2 g2 r2 p2 => hr ds P p2 vs Hk2 H2 g2.sub r2 Q fun v d Hk3 H3 g3 r3 p3 => q v d Hk3 H3 (g2.trans g3) r3 p3
theorem RpSl.mono {H H' : Hp} (e : Ex H H') {v : V} : ∀ {s : Sl}, RpSl K H v s → RpSl K H' v s
  | .dat _, h => Rp.mono e h
  | .bag, ⟨b, h, g⟩ => ⟨b, h, e _ _ g⟩
  | .own _, h => h.elim
  | .owd _ _, h => h.elim
  | .pin _, h => h
  | .tbl _, h => h.elim
theorem da_nil : DA K T tNil anilW := fun σ ρ H F P h H1 e Q q => q _ _ H H1 (Grow.refl e) .nil h
theorem da_cons (ha : DE K T ta wa) (hr : DA K T tl ws) : DA K T (tCons ta tl) (aconsW wa ws) := fun σ ρ H F P h H1 e Q q =>
  ha σ ρ H F _ h H1 e _ fun v d Hk2 H2 g2 r2 p2 => hr σ ρ Hk2 (F.mono g2.known) _ p2 H2 g2.sub _ fun vs ds Hk3 H3 g3 r3 p3 => q (v :: vs) (.dat d :: ds) Hk3 H3 (g2.trans g3) (.cons (r2.mono g3.known) r3) p3
theorem da_var {i : Nat} (hr : DA K T tl ws) : DA K T (tCons (tVar i) tl) (avarW i ws) := fun σ ρ H F P h H1 e Q q => by
  unfold avarW at h
  split at h
  · rename_i d ed
    obtain ⟨v, h1, h2⟩ := F.dat ed
    exact ⟨v, h1, hr σ ρ H F _ h H1 e _ fun vs ss Hk H2 g r p => q (v :: vs) (.dat d :: ss) Hk H2 g (.cons (h2.mono g.known) r) p⟩
  · rename_i ed
    obtain ⟨b, h1, h2⟩ := F.bag ed
    exact ⟨.ref b, h1, hr σ ρ H F _ h H1 e _ fun vs ss Hk H2 g r p => q (.ref b :: vs) (.bag :: ss) Hk H2 g (.cons ⟨b, rfl, g.known _ _ h2⟩ r) p⟩
  · exact h.elim
theorem RpSs.len {H : Hp} : ∀ {vs : List V} {ss : List Sl}, RpSs K H vs ss → vs.length = ss.length
  | _, _, .nil => rfl
  | _, _, .cons _ r => congrArg (· + 1) (RpSs.len r)
/-- a def's promise: all that its wishes tell -/
def spW (K : PySem.W.Frag) (T : List Addr) (n : Nat) (w : List Sl → (PyData → Prop) → Prop) : Sp := fun vs H1 Q _ => ∃ H ss, Ex H H1 ∧ Tabs T H ∧ RpSs K H vs ss ∧ ss.length = n ∧ ∃ P, w ss P ∧ ∀ u z Hk H2, Grow H H1 Hk H2 → Rp K Hk u z → P z → Q u H2
theorem de_call {n : Nat} {w : List Sl → (PyData → Prop) → Prop} {E : XK} (h : DA K T tl ws) : DE K T (tCall (spW K T n w) [] E tl) (callW n w ws) := fun σ ρ H F P h2 H1 e Q q =>
  h σ ρ H F _ h2 H1 e _ fun vs ss Hk H2 g r p => by
    show spW K T n w (vs ++ []) H2 Q E
    rw [List.append_nil]
    exact ⟨Hk, ss, g.sub, F.tabs.mono g.known, r, p.1, P, p.2, fun u z Hk3 H3 g3 r3 p3 => q u z Hk3 H3 (g.trans g3) r3 p3⟩
theorem dt_test (h : DE K T te wa) : DT K T (tTest te) (testW wa) := fun σ ρ H F P h2 H1 e Q q => h σ ρ H F _ h2 H1 e _ fun v d Hk H2 g2 r2 p2 => by
  cases r2 with
  | bl b => exact ⟨b, rfl, q b Hk H2 g2 p2⟩
  | non => exact p2.elim
  | int _ => exact p2.elim
  | str _ => exact p2.elim
  | lst _ _ => exact p2.elim
  | tup _ _ => exact p2.elim
  | dic _ _ => exact p2.elim
theorem dt_yes : DT K T tYes yesT := fun σ ρ H F P h H1 e Q q => q true H H1 (Grow.refl e) h
theorem dt_or (h1 : DT K T tt ct) (h2 : DT K T tu cu) : DT K T (tOr tt tu) (orT ct cu) := fun σ ρ H F P h H1 e Q q => h1 σ ρ H F _ h H1 e _ fun c Hk2 H2 g2 p2 => by
  cases c with
  | false => exact h2 σ ρ Hk2 (F.mono g2.known) P (by simpa using p2) H2 g2.sub Q fun d Hk3 H3 g3 p3 => q d Hk3 H3 (g2.trans g3) p3
  | true => exact q true Hk2 H2 g2 (by simpa using p2)
theorem de_if (h : DT K T tt ct) (h1 : DE K T ta wa) (h2 : DE K T tb wb) : DE K T (tIf tt ta tb) (ifV ct wa wb) := fun σ ρ H F P h0 H1 e Q q => h σ ρ H F _ h0 H1 e _ fun c Hk2 H2 g2 p2 => by
  cases c with
  | true => exact h1 σ ρ Hk2 (F.mono g2.known) P (by simpa using p2) H2 g2.sub Q fun v d Hk3 H3 g3 r3 p3 => q v d Hk3 H3 (g2.trans g3) r3 p3
  | false => exact h2 σ ρ Hk2 (F.mono g2.known) P (by simpa using p2) H2 g2.sub Q fun v d Hk3 H3 g3 r3 p3 => q v d Hk3 H3 (g2.trans g3) r3 p3
end
def DI (K : PySem.W.Frag) (T : List Addr) (wi : TI) (ww : WL) : Prop := ∀ σ ρ H, FitP K T σ ρ H → ∀ P, ww ρ P → ∀ H1, Ex H H1 → ∀ R : It → Hp → Prop,
  (∀ ds J G Y Hk H2, P ds → Grow H H1 Hk H2 → Walk J ds.length G Y → (∀ H3, Ex Hk H3 → G H3) →
    (∀ i x Hm H3 H4, i < ds.length → Ex Hk Hm → Ex Hm H3 → Y i H3 x H4 → ∃ Hm', Grow Hm H3 Hm' H4 ∧ TAt K ds i x Hm') → R J H2) → wi σ H1 R
/-- a walk that does not look at what is there -/
def DR (K : PySem.W.Frag) (T : List Addr) (wi : TI) (ww : WL) : Prop := ∀ σ ρ H, FitP K T σ ρ H → ∀ P, ww ρ P → ∀ H1, Ex H H1 → ∀ R : It → Hp → Prop,
  (∀ ds J Y Hk H2, P ds → Grow H H1 Hk H2 → Walk J ds.length (fun _ => True) Y →
    (∀ i x Hm H3 H4, i < ds.length → Ex Hm H3 → Y i H3 x H4 → ∃ Hm', Grow Hm H3 Hm' H4 ∧ TAt K ds i x Hm') → R J H2) → wi σ H1 R
theorem DR.di {K : PySem.W.Frag} {T : List Addr} {wi : TI} {ww : WL} (h : DR K T wi ww) : DI K T wi ww := fun σ ρ H F P p H1 e R k =>
  h σ ρ H F P p H1 e R fun ds J Y Hk H2 p2 g w y => k ds J _ Y Hk H2 p2 g w (fun _ _ => trivial) fun i x Hm H3 H4 hi _ e3 z => y i x Hm H3 H4 hi e3 z
/-- a target -/
def DB (K : PySem.W.Frag) (T : List Addr) (js : List Nat) (g : TG) (wb : WB) : Prop := ∀ σ ρ H v d, FitP K T σ ρ H → Rp K H v d → ∀ P, wb d ρ P → ∀ H1, Ex H H1 → ∀ R : L2.St → Hp → Prop,
  (∀ σ' ρ', FitP K T σ' ρ' H → (σ'.length = σ.length ∧ ∀ j, j ∉ js → σ'[j]? = σ[j]? ∧ ρ'[j]? = ρ[j]?) → (∀ (j : Nat) s, j ∈ js → ρ'[j]? = some (some s) → s.ownC = none) → P ρ' → R σ' H1) → g v σ H1 R
def bindW (i : Nat) : WB := fun d ρ P => P (ρ.set i (some (.dat d)))
def binds : List Nat → List PyData → WEnv → WEnv
  | i :: is, d :: ds, ρ => binds is ds (ρ.set i (some (.dat d)))
  | _, _, ρ => ρ
def bindsW (is : List Nat) : WB := fun d ρ P => match d with
  | .tuple ds => ds.length = is.length ∧ P (binds is ds ρ)
  | _ => False
section
variable {K : PySem.W.Frag} {T : List Addr} {ta tb tc te : TE} {tt tu : TT} {tl : TA} {wa wb wc : WE} {wl : WL} {ws : WA} {r r' : R2} {ct cu : WT}
theorem set_other {α : Type} {l : List α} {i j : Nat} {a : α} (h : j ∉ [i]) : (l.set i a)[j]? = l[j]? := by
  rw [get_set, if_neg fun z => h (by rw [z]; exact List.mem_singleton.mpr rfl)]
theorem set_notown {ρ : WEnv} {i j : Nat} {d : PyData} (h : j = i) (s : Sl) : (ρ.set i (some (.dat d)))[j]? = some (some s) → s.ownC = none := by
  subst h
  rw [get_set, if_pos rfl]
  split
  · intro z
    cases z
    rfl
  · intro z
    cases z
theorem db_name {i : Nat} : DB K T [i] (gName i) (bindW i) := fun σ ρ H v d F r P h H1 e R k =>
  k _ _ (F.set r) ⟨List.length_set, fun j hj => ⟨set_other hj, set_other hj⟩⟩ (fun j ds hj => set_notown (List.mem_singleton.mp hj) ds) h
def compW (b : WB) (t : WT) (e : WE) (ρ : WEnv) : List PyData → List PyData → (List PyData → Prop) → Prop
  | [], acc, Q => Q acc
  | d :: ds, acc, Q => b d ρ fun ρ1 => t ρ1 fun c => if c = true then e ρ1 fun z => compW b t e ρ ds (acc ++ [z]) Q else compW b t e ρ ds acc Q
def lcN (vs : List Nat) (ww : WL) (b : WB) (t : WT) (e : WE) : WL := fun ρ Q => ww ρ fun ds => ds.length ≤ 100000 ∧ compW b t e (wipeW ρ vs) ds [] Q
theorem dn_lc {wi : TI} {g : TG} {ww : WL} {b : WB} {vs js : List Nat} (hi : DI K T wi ww) (hg : DB K T js g b) (ht : DT K T tt ct) (he : DE K T te wa) (hj : ∀ j ∈ js, j ∈ vs) : DN K T (tLc wi g tt te vs) (lcN vs ww b ct wa) := by
  intro σ ρ H F P h H1 e Q q
  refine hi σ ρ H F _ h H1 e _ fun ds J G Y Hk H2 p2 g2 w g0 hy => ?_
  obtain ⟨hn, p2⟩ := p2
  intro D hD
  have hDk : Hk D = none := ex_none g2.sub hD
  have Fk := (F.mono g2.known).wipe vs
  refine lc_it w (fun i H' => ∃ Hm xs acc, Ex Hk Hm ∧ Ex Hm H' ∧ Ex H2 H' ∧ Hm D = none ∧ (∀ p o, Hm p = some o → Hk p = none → NT o → H2 p = none) ∧ H' D = some (.lst xs) ∧ RpAll K Hm xs acc ∧ acc.length ≤ i ∧ compW b ct wa (wipeW ρ vs) (ds.drop i) acc P) ?_ ?_ ?_ ?_
  · exact ⟨Hk, [], [], Ex.refl _, g2.sub.trans (Ex.new hD), Ex.new hD, hDk, (fun p o h n _ => by rw [h] at n; cases n), upd_same, .nil, Nat.zero_le _, p2⟩
  · rintro i H' _ ⟨Hm, xs, acc, e1, e2, _⟩
    exact g0 H' (e1.trans e2)
  · rintro i x H3 H4 hlt ⟨Hm, xs, acc, em, e3, e23, hm, hf, hx, r, hacc, hP⟩ y
    obtain ⟨Hm', g34, d, hd, rx⟩ := hy i x Hm H3 H4 hlt em e3 y
    rw [List.drop_eq_getElem_cons hlt] at hP
    have ed : ds[i] = d := by
      rw [List.getElem?_eq_getElem hlt] at hd
      exact Option.some.inj hd
    rw [ed] at hP
    refine hg _ _ _ x d (Fk.mono (em.trans g34.known)) rx _ hP H4 g34.sub _ fun σ' ρ' F' ho _ hc => ⟨?_, ?_⟩
    · refine wipe_eq (ho.1.trans (L2.wipe_length σ vs)) fun j hj' => (ho.2 j fun z => hj' (hj j z)).1
    refine ht σ' ρ' Hm' F' _ hc H4 g34.sub _ fun c Hm5 H5 g5 hc => ?_
    have g35 := g34.trans g5
    have hx5 : H5 D = some (.lst xs) := g35.all _ _ hx
    have hm5 : Hm5 D = none := g35.unk hm hx NT.lst
    have hf5 : ∀ p o, Hm5 p = some o → Hk p = none → NT o → H2 p = none := fun p o h n t => by
      cases z : Hm p with
      | some u => exact hf p u z n (NT.of ((g35.known p u z).symm.trans h) t)
      | none => exact ex_none e23 (g35.fresh p o h z t)
    cases c with
    | false =>
      rw [if_neg Bool.false_ne_true] at hc ⊢
      exact ⟨Hm5, xs, acc, em.trans g35.known, g35.sub, e23.trans g35.all, hm5, hf5, hx5, r.mono g35.known, by omega, hc⟩
    | true =>
      rw [if_pos rfl] at hc ⊢
      refine he σ' ρ' Hm5 (F'.mono g5.known) _ hc H5 g5.sub _ fun v z Hm7 H7 g7 r7 p7 => ?_
      have g37 := g35.trans g7
      have hx7 : H7 D = some (.lst xs) := g37.all _ _ hx
      have hm7 : Hm7 D = none := g37.unk hm hx NT.lst
      refine ⟨xs, hx7, ?_, ?_⟩
      · have hl : xs.length = acc.length := r.len
        exact sz_lt (by omega)
      · refine ⟨Hm7, xs ++ [v], acc ++ [z], em.trans g37.known, g37.sub.mut hm7, (e23.trans g37.all).mut hD, hm7, fun p o h n t => ?_, upd_same, (r.mono g37.known).append (.cons r7 .nil), by rw [List.length_append]; simp; omega, p7⟩
        cases z : Hm5 p with
        | some u => exact hf5 p u z n (NT.of ((g7.known p u z).symm.trans h) t)
        | none => exact ex_none (e23.trans g35.all) (g7.fresh p o h z t)
  · rintro H' ⟨Hm, xs, acc, em, e3, e23, hm, hf, hx, r, hacc, hP⟩
    have gk : Grow Hk H2 Hm H' := ⟨em, e3, e23, hf⟩
    rw [List.drop_length] at hP
    exact q D xs acc Hm H' (g2.trans gk) r hP hm hx (ex_none g2.all hD)
end
end DL
namespace DL
open PySem PySem.Spec PyProof.Rows L2 Evl
variable [CTab] [Base]
structure Mat (K : PySem.W.Frag) (T : List Addr) (B B1 : Hp) (W : WD) (D : Ends) : Prop where
  nx : ∀ σ ρ H H1, Fit K T B B1 σ ρ H H1 → W.nx ρ → D.nx σ H1
  rt : ∀ v d H H1, Grow B B1 H H1 → Rp K H v d → W.rt d → D.rt v H1
  bk : ∀ σ ρ H H1, Fit K T B B1 σ ρ H H1 → W.bk ρ → D.bk σ H1
  ct : ∀ σ ρ H H1, Fit K T B B1 σ ρ H H1 → W.ct ρ → D.ct σ H1
def DS (K : PySem.W.Frag) (T : List Addr) (ts : TS) (ws : WS) : Prop := ∀ B B1 σ ρ H H1, Fit K T B B1 σ ρ H H1 → ∀ W D, Mat K T B B1 W D → ws W ρ → ts D σ H1
def seqW (a b : WS) : WS := fun W ρ => a { W with nx := b W } ρ
def nextW : WS := fun W ρ => W.nx ρ
def setW (S : List Nat) (i : Nat) (a : WM) : WS := fun W ρ => a (tells S ρ) fun s => FreeS S (ρ.set i none) s ∧ W.nx (ρ.set i (some s))
def set2W (S : List Nat) (i j : Nat) (a b : WM) : WS := fun W ρ => a (tells S ρ) fun s => b (tells S ρ) fun t => FreeS S ((ρ.set i none).set j none) s ∧ FreeS S ((ρ.set i none).set j none) t ∧ W.nx ((ρ.set i (some s)).set j (some t))
def set3W (S : List Nat) (i j l : Nat) (a b c : WM) : WS := fun W ρ => a (tells S ρ) fun s => b (tells S ρ) fun t => c (tells S ρ) fun u =>
  FreeS S (((ρ.set i none).set j none).set l none) s ∧ FreeS S (((ρ.set i none).set j none).set l none) t ∧ FreeS S (((ρ.set i none).set j none).set l none) u ∧ W.nx (((ρ.set i (some s)).set j (some t)).set l (some u))
def wiped (ρ : WEnv) : List Nat → WEnv
  | [] => ρ
  | i :: is => wiped (ρ.set i none) is
def unpW (S : List Nat) (is : List Nat) (a : WE) : WS := fun W ρ => a (tells S ρ) fun d => FreeE S (wiped ρ is) d ∧ bindsW is d (wiped ρ is) W.nx
def ifW (S : List Nat) (c : WT) (a b : WS) : WS := fun W ρ => c (tells S ρ) fun k => if k = true then a W ρ else b W ρ
def dropW (S : List Nat) (a : WE) : WS := fun W ρ => a (tells S ρ) fun _ => W.nx ρ
def retW (S : List Nat) (a : WE) : WS := fun W ρ => a (tells S ρ) W.rt
def retNW : WS := fun W _ => W.rt .none
def breakW : WS := fun W ρ => W.bk ρ
def contW : WS := fun W ρ => W.ct ρ
def deadW : WS := fun _ _ => False
def appW (S : List Nat) (i : Nat) (a : WE) : WS := fun W ρ => match ρ[i]? with
  | some (some (.own ds)) => a (tells S ρ) fun d => FreeE S ρ d ∧ ds.length < 100000 ∧ W.nx (ρ.set i (some (.own (ds ++ [d]))))
  | _ => False
def popW (S : List Nat) (i l : Nat) (a : WE) : WS := fun W ρ => match ρ[i]? with
  | some (some (.own ds)) => a (tells S ρ) fun d => match d with
    | .int k => ds.length ≤ 100000 ∧ ∃ j : Nat, k = (j : Int) ∧ ∃ x, ds[j]? = some x ∧ W.nx ((ρ.set i (some (.own (ds.eraseIdx j)))).set l (some (.dat x)))
    | _ => False
  | _ => False
def storeW (S : List Nat) (i : Nat) (ix a : WE) : WS := fun W ρ => match ρ[i]? with
  | some (some (.own ds)) => a (tells S ρ) fun d => ix (tells S ρ) fun k => match k with
    | .int k => FreeE S ρ d ∧ ∃ j, ixN ds.length k = some j ∧ W.nx (ρ.set i (some (.own (ds.set j d))))
    | _ => False
  | _ => False
def loopW (wb : WB) (ws : WS) (W : WD) : List PyData → WEnv → Prop
  | [], ρ => W.nx ρ
  | d :: ds, ρ => wb d ρ fun ρ1 => ws { W with nx := loopW wb ws W ds, ct := loopW wb ws W ds, bk := W.nx } ρ1
def forW (ww : WL) (wb : WB) (ws : WS) : WS := fun W ρ => ww ρ fun ds => loopW wb ws W ds ρ
def forRW (S : List Nat) (ww : WL) (wb : WB) (ws : WS) : WS := fun W ρ => ww (tells S ρ) fun ds => loopW wb ws W ds ρ
section
variable {K : PySem.W.Frag} {T : List Addr} {S : List Nat} {ta tb tc te : TE} {tt tu : TT} {tl : TA} {wa wb wc : WE} {ma mb mc : WM} {wl : WL} {r r' : R2} {ct cu : WT} {t u : TS} {ws wu : WS} {i j l : Nat}
theorem ds_seq (h1 : DS K T t ws) (h2 : DS K T u wu) : DS K T (tSeq t u) (seqW ws wu) := fun B B1 σ ρ H H1 F W D M h =>
  h1 B B1 σ ρ H H1 F { W with nx := wu W } { D with nx := u D } ⟨fun σ ρ H H1 F z => h2 B B1 σ ρ H H1 F W D M z, M.rt, M.bk, M.ct⟩ h
theorem ds_next : DS K T tNext nextW := fun B B1 σ ρ H H1 F W D M h => M.nx σ ρ H H1 F h
theorem set_set_none {ρ : WEnv} {i : Nat} {s : Option Sl} : (ρ.set i none).set i s = ρ.set i s := List.set_set ..
theorem ds_set (ha : DM K T ta ma) : DS K T (tAsg ta (gName i)) (setW S i ma) := fun B B1 σ ρ H H1 F W D M h => by
  have e := tell_ex (S := S) F.o F.g.sub
  refine ha σ _ _ (F.told (S := S)) _ h H1 e.2 _ fun v s Hk H2 g m p => ?_
  have sb : Sub (ρ.set i none) ρ := (Sub.refl ρ).none i
  have F' := F.after sb g
  have m' := m.cut F sb g p.1
  have F2 := F'.put (i := i) m' F.g.all fun q c e1 e2 j es cs hj h1 hc h2 => by
    subst e1
    obtain ⟨q', ee, _, n3, _⟩ := m.own e2
    cases ee
    exact F.fresh_sep n3 (sb.2 j _ h1) hc h2
  rw [set_set_none] at F2
  exact M.nx _ _ _ _ F2 p.2
/-- what is bound, with lists of one's own beside -/
theorem Fit.bound {B B1 : Hp} {σ σ' : L2.St} {ρ ρ' : WEnv} {H H1 : Hp} {js : List Nat} (F : Fit K T B B1 σ ρ H H1) (F' : FitP K T σ' ρ' H) (h : ∀ j, j ∉ js → σ'[j]? = σ[j]? ∧ ρ'[j]? = ρ[j]?) (hn : ∀ (j : Nat) s, j ∈ js → ρ'[j]? = some (some s) → s.ownC = none) : Fit K T B B1 σ' ρ' H H1 := by
  have key : ∀ (j : Nat) s c, ρ'[j]? = some (some s) → s.ownC = some c → σ'[j]? = σ[j]? ∧ ρ[j]? = some (some s) := fun j s c e ec => by
    have hj : j ∉ js := fun z => by
      rw [hn j s z e] at ec
      cases ec
    exact ⟨(h j hj).1, (h j hj).2 ▸ e⟩
  refine ⟨F.g, F', ⟨fun j s c q qc => ?_, fun i j p s c s' c' q1 qc q2 qc' z1 z2 => ?_, F.o.b0⟩⟩
  · obtain ⟨k1, k2⟩ := key j s c q qc
    rw [k1]
    exact F.o.at1 j s c k2 qc
  · obtain ⟨k1, k2⟩ := key i s c q1 qc
    obtain ⟨l1, l2⟩ := key j s' c' q2 qc'
    rw [k1] at z1
    rw [l1] at z2
    exact F.o.sep1 i j p s c s' c' k2 qc l2 qc' z1 z2
theorem ds_if (h : DT K T tt ct) (h1 : DS K T t ws) (h2 : DS K T u wu) : DS K T (tIfS tt t u) (ifW S ct ws wu) := fun B B1 σ ρ H H1 F W D M h0 => by
  have e := tell_ex (S := S) F.o F.g.sub
  refine h σ _ _ (F.told (S := S)) _ h0 H1 e.2 _ fun b Hk H2 g p => ?_
  have F' := F.after (S := S) (Sub.refl ρ) g
  cases b with
  | true => exact h1 B B1 σ ρ _ H2 F' W D M (by simpa using p)
  | false => exact h2 B B1 σ ρ _ H2 F' W D M (by simpa using p)
theorem ds_ret (h : DE K T te wa) : DS K T (tRet te) (retW S wa) := fun B B1 σ ρ H H1 F W D M h0 => by
  have e := tell_ex (S := S) F.o F.g.sub
  exact h σ _ _ (F.told (S := S)) _ h0 H1 e.2 _ fun v d Hk H2 g r p => M.rt _ _ _ _ ((F.toldG (S := S)).trans g) r p
theorem ds_forR {wi : TI} {gg : TG} {ww : WL} {wb : WB} {js : List Nat} (hi : DR K T wi ww) (hg : DB K T js gg wb) (hb : DS K T t ws) : DS K T (tFor wi gg t) (forRW S ww wb ws) := fun B B1 σ ρ H H1 F W D M h0 => by
  have e := tell_ex (S := S) F.o F.g.sub
  refine hi σ _ _ (F.told (S := S)) _ h0 H1 e.2 _ fun ds J Y Hk H2 p2 g2 w hy => ?_
  refine for_it w (fun n σ2 H3 => ∃ ρ2 Hm, Fit K T B B1 σ2 ρ2 Hm H3 ∧ loopW wb ws W (ds.drop n) ρ2) ⟨ρ, _, F.after (S := S) (Sub.refl ρ) g2, p2⟩ (fun _ _ _ _ _ => trivial) ?_ ?_
  · rintro n x σ2 H3 H4 hlt ⟨ρ2, Hm, F2, hl⟩ y
    obtain ⟨Hm', g34, d, hd, rx⟩ := hy n x Hm H3 H4 hlt F2.g.sub y
    rw [List.drop_eq_getElem_cons hlt] at hl
    have ed : ds[n] = d := by
      rw [List.getElem?_eq_getElem hlt] at hd
      exact Option.some.inj hd
    rw [ed] at hl
    have F3 := F2.grow g34
    refine hg σ2 ρ2 Hm' x d F3.p rx _ hl H4 F3.g.sub _ fun σ' ρ' F' ho hn z => ?_
    have F4 := F3.bound F' ho.2 hn
    have nx : ∀ σ5 ρ5 H5 H6, Fit K T B B1 σ5 ρ5 H5 H6 → loopW wb ws W (ds.drop (n + 1)) ρ5 → ∃ ρ2 Hm, Fit K T B B1 σ5 ρ2 Hm H6 ∧ loopW wb ws W (ds.drop (n + 1)) ρ2 := fun σ5 ρ5 H5 H6 F5 h5 => ⟨ρ5, H5, F5, h5⟩
    exact hb B B1 σ' ρ' Hm' H4 F4 { W with nx := loopW wb ws W (ds.drop (n + 1)), ct := loopW wb ws W (ds.drop (n + 1)), bk := W.nx } _ ⟨nx, M.rt, fun σ5 ρ5 H5 H6 F5 h5 => M.nx _ _ _ _ F5 h5, nx⟩ z
  · rintro σ2 H3 ⟨ρ2, Hm, F2, hl⟩
    rw [List.drop_length] at hl
    exact M.nx _ _ _ _ F2 hl
def startW (N : Nat) (ss : List Sl) : WEnv := ss.map some ++ List.replicate (N - ss.length) none
def bodyW (ws : WS) (N : Nat) : List Sl → (PyData → Prop) → Prop := fun ss P => ws ⟨fun _ => P .none, P, fun _ => False, fun _ => False⟩ (startW N ss)
theorem spSs_get {H : Hp} : ∀ {vs : List V} {ss : List Sl} (i : Nat) (m : Nat), RpSs K H vs ss → SlP K H (vs.map some ++ List.replicate m none)[i]? (ss.map some ++ List.replicate m none)[i]?
  | [], [], i, m, .nil => by
    rw [List.map_nil, List.map_nil, List.nil_append, List.nil_append, List.getElem?_replicate, List.getElem?_replicate]
    split <;> trivial
  | v :: vs, s :: ss, 0, m, .cons h _ => by
    show SlP K H (some (some v)) (some (some s))
    cases s with
    | dat d => exact ⟨v, rfl, h⟩
    | bag =>
      obtain ⟨b, rfl, hb⟩ := h
      exact ⟨b, rfl, hb⟩
    | own _ => trivial
    | owd _ _ => trivial
    | pin _ => exact congrArg (fun x => some (some x)) h
    | tbl _ => trivial
  | v :: vs, s :: ss, i + 1, m, .cons _ r => spSs_get i m r
theorem own_none {H : Hp} : ∀ {vs : List V} {ss : List Sl} (i : Nat) (m : Nat) (t : Sl) (c : Cont), RpSs K H vs ss → (ss.map some ++ List.replicate m none)[i]? = some (some t) → t.ownC = some c → False
  | [], [], i, m, t, c, .nil => by
    rw [List.map_nil, List.nil_append, List.getElem?_replicate]
    split <;> exact fun z => nomatch z
  | v :: vs, s :: ss, 0, m, t, c, .cons h _ => by
    intro z hc
    cases Option.some.inj (Option.some.inj z)
    cases s with
    | own _ => exact h
    | owd _ _ => exact h
    | dat _ => cases hc
    | bag => cases hc
    | pin _ => cases hc
    | tbl _ => cases hc
  | v :: vs, s :: ss, i + 1, m, t, c, .cons _ r => own_none i m t c r
theorem ds_body {n N : Nat} {Nm : List Str} (hN : Nm.length = N) (h : DS K T t ws) {vs : List V} {H1 : Hp} (hB : Base.h0 = H1 := by rfl) {Q : VK} {E : XK} (hs : spW K T n (bodyW ws N) vs H1 Q E) : t { nx := fun _ H' => Q .non H', rt := Q } (L2.start Nm vs) H1 := by
  obtain ⟨H, ss, e, hT, r, _, P, p, k⟩ := hs
  have el := r.len
  subst hN
  refine h H H1 (L2.start Nm vs) (startW Nm.length ss) H H1 ⟨Grow.refl e, ⟨?_, fun i => ?_, hT⟩, ⟨fun i t c z zc => ?_, fun i j q t c t' c' z zc => ?_, fun a z => by rw [hB]; exact z⟩⟩ ⟨fun _ => P .none, P, fun _ => False, fun _ => False⟩ _ ⟨fun σ ρ Hk H2 F z => k .non .none Hk H2 F.g .non z, fun v d Hk H2 g r z => k v d Hk H2 g r z, fun _ _ _ _ _ z => z, fun _ _ _ _ _ z => z⟩ p
  · simp [L2.start, startW, el]
  · unfold L2.start startW
    rw [el]
    exact spSs_get i _ r
  · exact (own_none i _ t c r z zc).elim
  · exact (own_none i _ t c r z zc).elim
omit [Base] in
theorem spW_len {n : Nat} {w : List Sl → (PyData → Prop) → Prop} {vs : List V} {H : Hp} {Q : VK} {E : XK} (h : spW K T n w vs H Q E) : vs.length = n := by
  obtain ⟨_, _, _, _, r, e, _⟩ := h
  exact r.len.trans e
end
end DL
namespace DL
open PySem PySem.Spec PyProof.Rows L2 Evl
variable [CTab]
abbrev W1 := List PyData → (PyData → Prop) → Prop
abbrev W2 := PyData → PyData → (PyData → Prop) → Prop
def rAddA (K : PySem.W.Frag) : R2 := fun x y H Q => rAddU K x y H Q ∨ rCatS K x y H Q
theorem kAddA {X : Cx} {K : PySem.W.Frag} (h : X.K = K) : OpR X (binaryOp .Add) (rAddA K) := opOr (kAdd h) (kCatS h)
def addW : W2
  | .int a, .int b, Q => Q (.int (a + b))
  | .str a, .str b, Q => a.length + b.length ≤ 100000 ∧ Q (.str (a ++ b))
  | .tuple a, .tuple b, Q => a.length + b.length ≤ 100000 ∧ Q (.tuple (a ++ b))
  | .list a, .list b, Q => a.length + b.length ≤ 100000 ∧ Q (.list (a ++ b))
  | _, _, _ => False
def subW : W2
  | .int a, .int b, Q => Q (.int (a - b))
  | _, _, _ => False
def fdivW : W2
  | .int a, .int b, Q => b ≠ 0 ∧ b.natAbs.log2 < 9000 ∧ Q (.int (a.fdiv b))
  | _, _, _ => False
def modW : W2
  | .int a, .int b, Q => 0 < b ∧ Q (.int (a % b))
  | _, _, _ => False
def powW : W2
  | .int a, .int b, Q => CPowW a b ∧ Q (.int (a ^ b.toNat))
  | _, _, _ => False
def eqW : W2
  | .str x, .str y, Q => Q (.bool (decide (x = y)))
  | a, b, Q => SeqAt.shaped a = true ∧ SeqAt.shaped b = true ∧ Q (.bool (PyData.eqv a b))
def neW : W2
  | .str x, .str y, Q => Q (.bool (!decide (x = y)))
  | a, b, Q => SeqAt.shaped a = true ∧ SeqAt.shaped b = true ∧ Q (.bool (!PyData.eqv a b))
def ltW : W2
  | .int a, .int b, Q => Q (.bool (decide (a < b)))
  | .str a, .str b, Q => Q (.bool (ltS a b))
  | _, _, _ => False
def gtW : W2
  | .int a, .int b, Q => Q (.bool (decide (b < a)))
  | .str a, .str b, Q => Q (.bool (ltS b a))
  | _, _, _ => False
def leW : W2
  | .int a, .int b, Q => Q (.bool (decide (a ≤ b)))
  | .str a, .str b, Q => Q (.bool (!ltS b a))
  | _, _, _ => False
def geW : W2
  | .int a, .int b, Q => Q (.bool (decide (b ≤ a)))
  | .str a, .str b, Q => Q (.bool (!ltS a b))
  | _, _, _ => False
def inW : W2
  | .str c, .str z, Q => ∃ k, c = ⟨#[k]⟩ ∧ Q (.bool (decide (k ∈ z.cps.toList)))
  | d, .list ds, Q => flatD d = true ∧ ds.all flatD = true ∧ Q (.bool (ds.any fun y => PyData.eqv y d))
  | d, .tuple ds, Q => flatD d = true ∧ ds.all flatD = true ∧ Q (.bool (ds.any fun y => PyData.eqv y d))
  | _, _, _ => False
def niW : W2
  | d, .list ds, Q => flatD d = true ∧ ds.all flatD = true ∧ Q (.bool (!ds.any fun y => PyData.eqv y d))
  | d, .tuple ds, Q => flatD d = true ∧ ds.all flatD = true ∧ Q (.bool (!ds.any fun y => PyData.eqv y d))
  | _, _, _ => False
def isW : W2
  | d, .none, Q => Q (.bool (isNon d))
  | _, _, _ => False
def isnW : W2
  | d, .none, Q => Q (.bool (!isNon d))
  | _, _, _ => False
def ixW : W2
  | .list ds, .int i, Q => ∃ d, L2.atI ds i = some d ∧ Q d
  | .tuple ds, .int i, Q => ∃ d, L2.atI ds i = some d ∧ Q d
  | .str z, .int i, Q => z.length ≤ 100000 ∧ ∃ c, L2.atI z.cps.toList i = some c ∧ Q (.str ⟨#[c]⟩)
  | _, _, _ => False
theorem RD.post {K : PySem.W.Frag} {r : R2} {d e z : PyData} {Q : PyData → Prop} (h : RD K r d e (· = z)) (q : Q z) : RD K r d e Q := RD.weak h fun _ ee => by subst ee; exact q
theorem RCD.post {K : PySem.W.Frag} {rr : List V → Hp → VK → Prop} {ds : List PyData} {z : PyData} {Q : PyData → Prop} (h : RCD K rr ds (· = z)) (q : Q z) : RCD K rr ds Q := RCD.weak h fun _ ee => by subst ee; exact q
section
variable {K : PySem.W.Frag} {T : List Addr}
theorem ow_add : OpW K (rAddA K) addW := fun d e Q h => by
  unfold addW at h
  split at h
  · exact RD.l (RD.post rd_add h)
  · exact RD.l (RD.post (rd_addS h.1) h.2)
  · exact RD.l (RD.post (rd_addT h.1) h.2)
  · exact RD.r (RD.post (rd_catS h.1) h.2)
  · exact h.elim
theorem ow_sub : OpW K (rI0 fun i j => .int (i - j)) subW := fun d e Q h => by
  unfold subW at h
  split at h
  · exact RD.post rd_I0 h
  · exact h.elim
theorem ow_pow : OpW K rPowW powW := fun d e Q h => by
  unfold powW at h
  split at h
  · exact RD.post (rd_pow h.1) h.2
  · exact h.elim
def rEqA (K : PySem.W.Frag) : R2 := fun x y H Q => rEqD K x y H Q ∨ rEq x y H Q
def rNeA (K : PySem.W.Frag) : R2 := fun x y H Q => rNeD K x y H Q ∨ rNe x y H Q
theorem kEqA {X : Cx} {K : PySem.W.Frag} (h : X.K = K) (hu : X.A.units + 64 < cLine) : OpR X (compareOp .Eq) (rEqA K) := opOr (kEq h hu) op_eq
theorem kNeA {X : Cx} {K : PySem.W.Frag} (h : X.K = K) (hu : X.A.units + 64 < cLine) : OpR X (compareOp .NotEq) (rNeA K) := opOr (kNe h hu) op_ne
theorem ow_eq : OpW K (rEqA K) eqW := fun d e Q h => by
  unfold eqW at h
  split at h
  · refine RD.r fun v1 v2 H H1 ex r1 r2 Q' k => ?_
    cases r1
    cases r2
    rename_i _ x y
    refine ⟨rfl, k _ _ H H1 (Grow.refl ex) (.bl _) ?_⟩
    have e : decide (V.str x = V.str y) = decide (x = y) := by
      rw [Bool.eq_iff_iff]
      simp
    rw [e]
    exact h
  · exact RD.l (RD.post (rd_eqD h.1 h.2.1) h.2.2)
theorem ow_ne : OpW K (rNeA K) neW := fun d e Q h => by
  unfold neW at h
  split at h
  · refine RD.r fun v1 v2 H H1 ex r1 r2 Q' k => ?_
    cases r1
    cases r2
    rename_i _ x y
    refine ⟨rfl, k _ _ H H1 (Grow.refl ex) (.bl _) ?_⟩
    have e : decide (V.str x = V.str y) = decide (x = y) := by
      rw [Bool.eq_iff_iff]
      simp
    rw [e]
    exact h
  · exact RD.l (RD.post (rd_neD h.1 h.2.1) h.2.2)
theorem ow_lt : OpW K rLtU ltW := fun d e Q h => by
  unfold ltW at h
  split at h
  · exact RD.post rd_lt h
  · exact RD.post rd_ltT h
  · exact h.elim
theorem ow_gt : OpW K rGtU gtW := fun d e Q h => by
  unfold gtW at h
  split at h
  · exact RD.post rd_gt h
  · exact RD.post rd_gtT h
  · exact h.elim
theorem ow_in : OpW K (rInU K) inW := fun d e Q h => by
  unfold inW at h
  split at h
  · obtain ⟨k, rfl, q⟩ := h
    exact RD.post rd_inSign q
  · exact RD.post (rd_inFlat (.inl rfl) h.1 h.2.1) h.2.2
  · exact RD.post (rd_inFlat (.inr rfl) h.1 h.2.1) h.2.2
  · exact h.elim
theorem ow_is : OpW K rIsN isW := fun d e Q h => by
  unfold isW at h
  split at h
  · exact RD.post rd_isN h
  · exact h.elim
theorem ow_ix : OpW K (rIx K) ixW := fun d e Q h => by
  unfold ixW at h
  split at h
  · obtain ⟨d, e, q⟩ := h
    exact RD.post (rd_ix (.inl rfl) e) q
  · obtain ⟨d, e, q⟩ := h
    exact RD.post (rd_ix (.inr rfl) e) q
  · obtain ⟨hz, c, e, q⟩ := h
    exact RD.post (rd_ixS hz e) q
  · exact h.elim
end
def lenW : W1
  | [d], Q => ∃ n, lenD d = some n ∧ Q (.int (n : Nat))
  | _, _ => False
def max2W : W1
  | [.int i, .int j], Q => Q (.int (if j > i then j else i))
  | _, _ => False
def min2W : W1
  | [.int i, .int j], Q => Q (.int (if j < i then j else i))
  | _, _ => False
def absW : W1
  | [.int i], Q => Q (.int i.natAbs)
  | _, _ => False
def intW : W1
  | [.int i], Q => Q (.int i)
  | [.bool b], Q => Q (.int (if b then 1 else 0))
  | _, _ => False
def tupleW : W1
  | [.list ds], Q => Q (.tuple ds)
  | [.tuple ds], Q => Q (.tuple ds)
  | _, _ => False
def reprW : W1
  | [d], Q => d.showable = true ∧ d.canLay0 = true ∧ d.depth ≤ 64 ∧ d.shown.length ≤ sizeLine ∧ Q (.str d.shown)
  | _, _ => False
def isiW (p : PyData → Bool) (a : WE) : WE := fun ρ Q => a ρ fun d => Q (.bool (p d))
section
variable {K : PySem.W.Frag} {T : List Addr} {te ta tb : TE} {tl : TA} {we wa wb : WE} {wl : WL}
theorem cw_len : CbW K (rLen K) lenW := fun ds Q h => by
  unfold lenW at h
  split at h
  · obtain ⟨n, e, q⟩ := h
    exact RCD.post (rc_len e) q
  · exact h.elim
theorem cw_max2 : CbW K rMax2' max2W := fun ds Q h => by
  unfold max2W at h
  split at h
  · exact RCD.post rc_max2 h
  · exact h.elim
theorem cw_min2 : CbW K rMin2' min2W := fun ds Q h => by
  unfold min2W at h
  split at h
  · exact RCD.post rc_min2 h
  · exact h.elim
theorem cw_repr : CbW K (rRepr K) reprW := fun ds Q h => by
  unfold reprW at h
  split at h
  · exact RCD.post (rc_repr h.1 h.2.1 h.2.2.1 h.2.2.2.1) h.2.2.2.2
  · exact h.elim
def listN (a : WE) : WL := fun ρ Q => a ρ fun d => match d with
  | .list ds => Q ds
  | .tuple ds => Q ds
  | _ => False
def catN (a b : WE) : WL := fun ρ Q => a ρ fun d => b ρ fun e => match d, e with
  | .list ds, .list es => ds.length + es.length ≤ 100000 ∧ Q (ds ++ es)
  | _, _ => False
def repN (a b : WE) : WL := fun ρ Q => a ρ fun d => b ρ fun e => match d, e with
  | .int x, .int k => -100000 ≤ k ∧ k < 100000 ∧ Q (List.replicate k.toNat (.int x))
  | _, _ => False
end
end DL
namespace DL
open PySem PySem.Spec PyProof.Rows L2 Evl
open PySem.Sem (wp)
variable [CTab]
/-- an iterator over the list (c) or the tuple at l, at place i -/
def IterM (c : Bool) (h : Heap) (it l : Addr) (i : Nat) : Prop := bif c then h.IsListIter it l i else h.IsTupleIter it l i
def SeqM (c : Bool) (h : Heap) (l : Addr) (xs : Array Value) : Prop := bif c then h.IsList l xs else h.IsTuple l xs
section
variable {c : Bool} {h h' : Heap} {it l a : Addr} {i : Nat} {xs : Array Value}
theorem IterM.here (x : IterM c h it l i) (e : ∀ o, h.get? it = some o → h'.get? it = some o) : IterM c h' it l i := by
  cases c
  · exact Heap.IsTupleIter.at x e
  · exact Heap.IsListIter.at x e
theorem IterM.cell (x : IterM c h it l i) : ∃ o, h.get? it = some o ∧ ∀ v, o.data ≠ .cell v := by
  cases c
  all_goals
    obtain ⟨o, e, _, d⟩ := x
    exact ⟨o, e, fun v q => by rw [d] at q; cases q⟩
end
theorem SeqM.push {c : Bool} {h : Heap} {l : Addr} {xs : Array Value} (x : SeqM c h l xs) (o : Obj) : SeqM c (h.push o) l xs := by
  cases c
  · exact Heap.IsTuple.push x o
  · exact Heap.IsList.push x o
end DL
namespace DL
open PySem PySem.Spec PyProof.Rows L2 Evl
variable [CTab]
def itemsI (a : WE) : WL := fun ρ Q => a ρ fun d => match d with
  | .list ds => Q ds
  | _ => False
def itemsT (a : WE) : WL := fun ρ Q => a ρ fun d => match d with
  | .tuple ds => Q ds
  | _ => False
def signsI (a : WE) : WL := fun ρ Q => a ρ fun d => match d with
  | .str z => Q (z.cps.toList.map fun c => .str ⟨#[c]⟩)
  | _ => False
def rangeD (i j : Int) : List PyData := (List.range (j - i).toNat).map fun (k : Nat) => .int (i + k)
def range1I (a : WL) : WL := fun ρ Q => a ρ fun ds => match ds with
  | [.int j] => -(2 ^ 62) ≤ j ∧ j < 2 ^ 62 ∧ Q (rangeD 0 j)
  | _ => False
def range2I (a : WL) : WL := fun ρ Q => a ρ fun ds => match ds with
  | [.int i, .int j] => -(2 ^ 62) ≤ i ∧ i < 2 ^ 62 ∧ -(2 ^ 62) ≤ j ∧ j < 2 ^ 62 ∧ Q (rangeD i j)
  | _ => False
def zipD (ds es : List PyData) : List PyData := List.zipWith (fun d e => .tuple [d, e]) ds es
def zipI (a : WL) : WL := fun ρ Q => a ρ fun ds => match ds with
  | [.list ds, .list es] => Q (zipD ds es)
  | [.tuple ds, .tuple es] => Q (zipD ds es)
  | [.list ds, .tuple es] => Q (zipD ds es)
  | [.tuple ds, .list es] => Q (zipD ds es)
  | _ => False
def enumD (ds : List PyData) : List PyData := zipD ((List.range ds.length).map fun (k : Nat) => .int (k : Int)) ds
def enumI (a : WL) : WL := fun ρ Q => a ρ fun ds => match ds with
  | [.list ds] => Q (enumD ds)
  | [.tuple ds] => Q (enumD ds)
  | _ => False
section
variable {K : PySem.W.Frag} {T : List Addr} {te ta tb : TE} {tl : TA} {we wa wb : WE} {wl : WL} {ws : WA}
theorem rangeD_len {i j : Int} : (rangeD i j).length = (j - i).toNat := by unfold rangeD; rw [List.length_map, List.length_range]
theorem rangeD_get {i j : Int} {k : Nat} (h : k < (j - i).toNat) : (rangeD i j)[k]? = some (.int (i + k)) := by
  unfold rangeD
  rw [List.getElem?_map, List.getElem?_range h]
  rfl
theorem dr_range1 (h : DL' K T tl wl) : DR K T (iRng1 tl) (range1I wl) := fun σ ρ H F P p H1 e R k => by
  refine h σ ρ H F _ p H1 e _ fun vs ds Hk H2 g2 r2 p2 => ?_
  split at p2
  · rename_i j
    cases r2 with
    | cons r rr =>
      cases r
      cases rr
      refine ⟨j, rfl, p2.1, p2.2.1, ?_⟩
      have el : (rangeD 0 j).length = j.toNat := by rw [rangeD_len, Int.sub_zero]
      refine k _ _ _ Hk H2 p2.2.2 g2 (by rw [el]; exact walk_range) ?_
      rintro i x Hm H3 H4 hi e3 ⟨rfl, rfl⟩
      rw [rangeD_len] at hi
      exact ⟨Hm, Grow.refl e3, _, rangeD_get hi, .int _⟩
  · exact p2.elim
end
abbrev WO := WEnv → (Option Int → Prop) → Prop
def noO : WO := fun _ Q => Q none
def someO (a : WE) : WO := fun ρ Q => a ρ fun d => match d with
  | .int i => Q (some i)
  | _ => False
def slW (a : WE) (lo hi : WO) : WE := fun ρ Q => a ρ fun d => lo ρ fun l => hi ρ fun u => match d with
  | .list ds => Q (.list (cutG ds l u))
  | .tuple ds => Q (.tuple (cutG ds l u))
  | _ => False
def backW (a : WE) : WE := fun ρ Q => a ρ fun d => match d with
  | .list ds => Q (.list ds.reverse)
  | .tuple ds => Q (.tuple ds.reverse)
  | _ => False
section
variable {K : PySem.W.Frag} {T : List Addr} {te ta tb : TE} {tl : TA} {we wa wb : WE} {wl : WL} {ws : WA} {lo hi : TO} {wlo whi : WO}
def truW (a : WE) : WT := fun ρ Q => a ρ fun d => match d with
  | .bool b => Q b
  | .int i => Q (i != 0)
  | .none => Q false
  | .list ds => Q (!ds.isEmpty)
  | .tuple ds => Q (!ds.isEmpty)
  | _ => False
def newBagM (i j : Nat) : WM := fun ρ Q => match ρ[i]?, ρ[j]? with
  | some (some (.dat (.list ds))), some (some (.dat (.int n))) => (∃ ns : List Int, ds = ns.map .int ∧ ns.length ≤ 63) ∧ 0 ≤ n ∧ n < 100 ∧ Q .bag
  | _, _ => False
theorem dm_bag {i j : Nat} {E : XK} : DM K T (tCall (spNewBag K) [] E (tCons (tVar i) (tCons (tVar j) tNil))) (newBagM i j) := fun σ ρ H F P p H1 e Q q => by
  unfold newBagM at p
  split at p
  · rename_i ds n h1 h2
    obtain ⟨⟨ns, rfl, hl⟩, h3, h4, p⟩ := p
    obtain ⟨v, a1, r1⟩ := F.dat h1
    obtain ⟨w, a2, r2⟩ := F.dat h2
    cases r2
    cases r1 with
    | @lst a xs _ g r =>
      rw [r.ints] at g
      exact ⟨.ref a, a1, .int n, a2, H, a, ns, n, rfl, e, g, hl, h3, h4, fun b Hk H2 g hb => q _ .bag Hk H2 g ⟨b, rfl, hb⟩ p⟩
  · exact p.elim
/-- what a draw wishes -/
def drawW : List Sl → (PyData → Prop) → Prop
  | [.bag, .dat (.int n)], P => 0 < n ∧ n.natAbs.log2 < 1000 ∧ ∀ i, 0 ≤ i → i < n → P (.int i)
  | _, _ => False
theorem sp_draw {vs : List V} {H1 : Hp} {Q : VK} {E : XK} (h : spW K T 2 drawW vs H1 Q E) : spB1 K drawPre drawPost vs H1 Q E := by
  obtain ⟨H, ss, e, hT, r, _, P, p, k⟩ := h
  unfold drawW at p
  split at p
  · rename_i n P'
    cases r with
    | cons r1 r =>
      cases r with
      | cons r2 r =>
        cases r
        obtain ⟨b, rfl, hb⟩ := r1
        exact ⟨H, b, _, _, rfl, e, hb, r2, ⟨n, rfl, p.1, p.2.1⟩, fun u z Hk H2 g r' ⟨i, n', e1, e2, h0, h1⟩ => k u z Hk H2 g r' (by
          subst e1
          cases e2
          exact p.2.2 i h0 h1)⟩
  · exact p.elim
def ledW (ci : Nat) (a : WE) : WE := fun ρ Q => a ρ fun d => ∃ (rows : List (List Int)) (j : Nat), d = .list (rows.map fun r => .list (r.map .int)) ∧ ρ[ci]? = some (some (.dat (.int (j : Int)))) ∧ (j : Int) < 2 ^ 62 ∧ (∀ r ∈ rows, j < r.length) ∧ Q (ledD rows j)
end
end DL
namespace DL
open PySem PySem.Spec PyProof.Rows L2 Evl StX
variable [CTab]
def negW : PyData → (PyData → Prop) → Prop := fun d Q => match d with
  | .int i => Q (.int (-i))
  | _ => False
theorem FnG.imp {P : Program} {w : World} {K : PySem.W.Frag} {mg : Str → Option Value} {base : Heap} {CX : CXT} {k : Nat} {f : Addr} {fd : FuncData} {ps : List Str} {sp sp' : Sp} (F : FnG P w K mg base CX k f fd ps sp)
    (h : ∀ vs H Q E, sp' vs H Q E → sp vs H Q E) : FnG P w K mg base CX k f fd ps sp' :=
  ⟨fun vs H Q E q => F.many vs H Q E (h _ _ _ _ q), fun A outer s H args us vs Q E hg hr he hb hv hs => F.go A outer s H args us vs Q E hg hr he hb hv (h _ _ _ _ hs)⟩
/-- the law as wishes: True at every script -/
def LawHolds (w : List Sl → (PyData → Prop) → Prop) : Prop := ∀ ns : List Int, ns.length ≤ 63 → w [.dat (.list (ns.map .int))] (· = .bool true)
theorem lawW_0 {K : PySem.W.Frag} {w : List Sl → (PyData → Prop) → Prop} (hl : LawHolds w) {vs : List V} {H : Hp} {Q : VK} {E : XK} (h : spLaw K vs H Q E) : spW K [] 1 w vs H Q E := by
  obtain ⟨H0, a, ns, rfl, ex, hS, hn, q⟩ := h
  refine ⟨H0, _, ex, (fun _ h => nomatch h), .cons (s := .dat (.list (ns.map .int))) (.lst hS RpAll.of_ints) .nil, rfl, _, hl ns hn, fun u z Hk H2 g r e => ?_⟩
  subst e
  cases r
  exact q H2
def starW (a : WE) (r : WL) : WL := fun ρ Q => a ρ fun d => match d with
  | .list ds => r ρ fun es => Q (ds ++ es)
  | .tuple ds => r ρ fun es => Q (ds ++ es)
  | _ => False
abbrev WMs := WEnv → (List Sl → Prop) → Prop
def RpMs (K : PySem.W.Frag) (H1 Hk H2 : Hp) : List V → List Sl → Prop
  | [], [] => True
  | v :: vs, s :: ss => RpM K H1 Hk H2 v s ∧ (∀ p c, v = .ref p → s.ownC = some c → ∀ (j : Nat) t c', ss[j]? = some t → t.ownC = some c' → vs[j]? = some (.ref p) → False) ∧ RpMs K H1 Hk H2 vs ss
  | _, _ => False
def mnilW : WMs := fun _ Q => Q []
def mconsW (a : WM) (r : WMs) : WMs := fun ρ Q => a ρ fun s => r ρ fun ss => Q (s :: ss)
def sets {α : Type} : List Nat → List α → List (Option α) → List (Option α)
  | i :: is, d :: ds, ρ => sets is ds (ρ.set i (some d))
  | _, _, ρ => ρ
def setsW (S : List Nat) (is : List Nat) (a : WMs) : WS := fun W ρ => a (tells S ρ) fun ss => ss.length = is.length ∧ (∀ s ∈ ss, FreeS S (wiped ρ is) s) ∧ W.nx (sets is ss (wiped ρ is))
section
variable {K : PySem.W.Frag} {T : List Addr} {S : List Nat} {te ta : TE} {tl : TA} {ma : WM} {wl : WMs}
theorem RpMs.len {H1 Hk H2 : Hp} : ∀ {vs : List V} {ss : List Sl}, RpMs K H1 Hk H2 vs ss → vs.length = ss.length
  | [], [], _ => rfl
  | _ :: _, _ :: _, h => congrArg (· + 1) (RpMs.len h.2.2)
theorem RpMs.get {H1 Hk H2 : Hp} : ∀ {vs : List V} {ss : List Sl} {j : Nat} {v : V} {s : Sl}, RpMs K H1 Hk H2 vs ss → vs[j]? = some v → ss[j]? = some s → RpM K H1 Hk H2 v s
  | [], [], j, _, _, _, e, _ => by simp at e
  | v :: vs, s :: ss, 0, _, _, h, e, e2 => by
    cases Option.some.inj e
    cases Option.some.inj e2
    exact h.1
  | v :: vs, s :: ss, j + 1, _, _, h, e, e2 => RpMs.get (j := j) h.2.2 (by simpa using e) (by simpa using e2)
theorem RpMs.cut [Base] {B B1 : Hp} {σ : L2.St} {ρ ρk : WEnv} {H H1 Hk H2 : Hp} (F : Fit K T B B1 σ ρ H H1) (sb : Sub ρk ρ) (g : Grow (tellH S σ ρ H H1) H1 Hk H2) : ∀ {vs : List V} {ss : List Sl}, RpMs K H1 Hk H2 vs ss → (∀ s ∈ ss, FreeS S ρk s) → RpMs K H1 (cutH S σ ρk Hk) H2 vs ss
  | [], [], _, _ => trivial
  | _ :: _, _ :: _, h, f => ⟨h.1.cut F sb g (f _ List.mem_cons_self), h.2.1, RpMs.cut F sb g h.2.2 fun s hs => f s (List.mem_cons_of_mem _ hs)⟩
theorem RpMs.grow {Hk Hk' H1 H2 H3 H0 : Hp} (g : Grow Hk H2 Hk' H3) (e : Ex H0 H1) : ∀ {vs : List V} {ss : List Sl}, RpMs K H1 Hk H2 vs ss → RpMs K H0 Hk' H3 vs ss
  | [], [], _ => trivial
  | _ :: _, _ :: _, h => ⟨h.1.grow g e, h.2.1, RpMs.grow g e h.2.2⟩
end
def frz1W (i : Nat) (a : WS) : WS := fun W ρ => a W (tell1 ρ i)
def itemsS (a : WE) : WL := fun ρ Q => a ρ fun d => match d with
  | .list ds => Q ds
  | .tuple ds => Q ds
  | .str z => Q (z.cps.toList.map fun c => .str ⟨#[c]⟩)
  | _ => False
end DL
namespace DL
open PySem
variable [CTab]
structure Sh (k b : Nat) (d : PyData) : Prop where
  shw : d.showable = true
  lay : d.canLay0 = true
  lvs : d.leavesShort 1921 = true
  dep : d.depth ≤ k
  blk : d.bulk ≤ b
theorem sh_none : Sh 0 0 .none := ⟨by simp only [PyData.showable], by simp only [PyData.canLay0], by simp only [PyData.leavesShort], by simp only [PyData.depth]; exact Nat.le_refl 0, by simp only [PyData.bulk]; exact Nat.le_refl 0⟩
theorem Sh.repr {k b : Nat} {d : PyData} (h : Sh k b d) (hk : k ≤ 64) (hb : b ≤ 8000) {Q : PyData → Prop} (q : Q (.str d.shown)) : reprW [d] Q := by
  refine ⟨h.shw, h.lay, Nat.le_trans h.dep hk, ?_, q⟩
  have h1 := PyData.shown_le_bulk 1921 (by decide) d h.lvs
  have h2 := h.blk
  have h3 : sizeLine = 16777216 := by decide
  omega
theorem Sh.shaped {k b : Nat} {d : PyData} (h : Sh k b d) (hk : k ≤ 64) : SeqAt.shaped d = true := by
  unfold SeqAt.shaped
  rw [h.lay, decide_eq_true (Nat.le_trans h.dep hk)]
  rfl
end DL
namespace DL
open PySem PySem.Spec PyProof.Rows L2 Evl
variable [CTab]
section
variable {K : PySem.W.Frag} {T : List Addr} {ta te tx : TE} {tt tt1 : TT} {wa wx : WE} {ct ct1 : WT}
/-- what stands while a new list is filled -/
structure Fil (K : PySem.W.Frag) (Hk H2 : Hp) (D : Addr) (Hm : Hp) (acc : List PyData) (H' : Hp) (xs : List V) : Prop where
  e1 : Ex Hk Hm
  e2 : Ex Hm H'
  e3 : Ex H2 H'
  hm : Hm D = none
  fr : ∀ p o, Hm p = some o → Hk p = none → NT o → H2 p = none
  at' : H' D = some (.lst xs)
  al : RpAll K Hm xs acc
theorem Fil.grow {Hk H2 Hm H' Hm' H'' : Hp} {D : Addr} {acc : List PyData} {xs : List V} (f : Fil K Hk H2 D Hm acc H' xs) (g : Grow Hm H' Hm' H'') : Fil K Hk H2 D Hm' acc H'' xs :=
  ⟨f.e1.trans g.known, g.sub, f.e3.trans g.all, g.unk f.hm f.at' NT.lst, fun p o h n t => by
    cases z : Hm p with
    | some u => exact f.fr p u z n (NT.of ((g.known p u z).symm.trans h) t)
    | none => exact ex_none f.e3 (g.fresh p o h z t), g.all _ _ f.at', f.al.mono g.known⟩
end
end DL
namespace DL
open PySem PySem.Spec PyProof.Rows L2 Evl
variable [CTab] [Base]
section
variable {K : PySem.W.Frag} {T : List Addr} {S : List Nat} {ta tb tc te : TE} {tt : TT} {wa wb wc wx wy : WE} {ct : WT} {t u : TS} {ws wu : WS} {i : Nat}
theorem Rp.flat {H H' : Hp} {v : V} {d : PyData} (r : Rp K H v d) (h : flatD d = true) : Rp K H' v d := by
  cases r with
  | non => exact .non
  | bl b => exact .bl b
  | int i => exact .int i
  | str x => exact .str x
  | lst _ _ => cases h
  | tup _ _ => cases h
  | dic _ _ => cases h
theorem RpAll.flat {H H' : Hp} : ∀ {vs : List V} {ds : List PyData}, RpAll K H vs ds → (∀ d ∈ ds, flatD d = true) → RpAll K H' vs ds
  | _, _, .nil, _ => .nil
  | _, _, .cons h r, f => .cons (h.flat (f _ List.mem_cons_self)) (r.flat fun d hd => f d (List.mem_cons_of_mem _ hd))
def plus (B1 H1 : Hp) (fp : List Addr) : Hp := fun a => if a ∈ fp then H1 a else B1 a
theorem plus_in {B1 H1 : Hp} {fp : List Addr} {a : Addr} (h : a ∈ fp) : plus B1 H1 fp a = H1 a := if_pos h
theorem plus_out {B1 H1 : Hp} {fp : List Addr} {a : Addr} (h : a ∉ fp) : plus B1 H1 fp a = B1 a := if_neg h
structure Reg (K : PySem.W.Frag) (B1 H H1 : Hp) (p : Addr) (qs : List Addr) (rows : List (List PyData)) : Prop where
  nd : (p :: qs).Nodup
  hp : H1 p = some (.lst (qs.map V.ref))
  no : ∀ a ∈ p :: qs, H a = none ∧ B1 a = none
  len : qs.length = rows.length
  row : ∀ (k : Nat) q ds, qs[k]? = some q → rows[k]? = some ds → ∃ vs, H1 q = some (.lst vs) ∧ RpAll K H vs ds
  fl : ∀ ds ∈ rows, ∀ d ∈ ds, flatD d = true
theorem Reg.some {B1 H H1 : Hp} {p : Addr} {qs : List Addr} {rows : List (List PyData)} (R : Reg K B1 H H1 p qs rows) {a : Addr} (h : a ∈ p :: qs) : ∃ vs, H1 a = some (.lst vs) := by
  rcases List.mem_cons.mp h with rfl | h
  · exact ⟨_, R.hp⟩
  · obtain ⟨k, hk, rfl⟩ := List.getElem_of_mem h
    obtain ⟨vs, e, _⟩ := R.row k qs[k] (rows[k]'(by rw [← R.len]; exact hk)) (List.getElem?_eq_getElem hk) (List.getElem?_eq_getElem _)
    exact ⟨_, e⟩
/-- the region stays where nothing of it is known -/
theorem Reg.keep {B1 H H1 H' H1' : Hp} {p : Addr} {qs : List Addr} {rows : List (List PyData)} (R : Reg K B1 H H1 p qs rows) (e : ∀ a ∈ p :: qs, H1' a = H1 a) (n : ∀ a ∈ p :: qs, H' a = none) : Reg K B1 H' H1' p qs rows :=
  ⟨R.nd, by rw [e p List.mem_cons_self]; exact R.hp, fun a ha => ⟨n a ha, (R.no a ha).2⟩, R.len, fun k q ds h1 h2 => by
    obtain ⟨vs, e1, e2⟩ := R.row k q ds h1 h2
    exact ⟨vs, by rw [e q (List.mem_cons_of_mem _ (List.mem_of_getElem? h1))]; exact e1, e2.flat (R.fl ds (List.mem_of_getElem? h2))⟩, R.fl⟩
theorem plus_eq {B1 H1 H1' : Hp} {fp : List Addr} (e : ∀ a ∈ fp, H1' a = H1 a) : plus B1 H1' fp = plus B1 H1 fp := by
  funext a
  unfold plus
  split
  · rename_i h
    exact e a h
  · rfl
theorem Reg.out {B B1 H H1 Hk H2 : Hp} {p : Addr} {qs : List Addr} {rows : List (List PyData)} (R : Reg K B1 H H1 p qs rows) (g : Grow B (plus B1 H1 (p :: qs)) Hk H2) : Grow B B1 Hk H2 :=
  ⟨g.known, g.sub, fun a o h => by
    have na : a ∉ p :: qs := fun ha => by
      rw [(R.no a ha).2] at h
      cases h
    exact g.all a o (by rw [plus_out na]; exact h), fun a o h n nt => by
    by_cases ha : a ∈ p :: qs
    · exact (R.no a ha).2
    · have := g.fresh a o h n nt
      rwa [plus_out ha] at this⟩
/-- the env with a table of one's own at slot i -/
def Fit2 (K : PySem.W.Frag) (T : List Addr) (i : Nat) (B B1 : Hp) (σ : L2.St) (ρ : WEnv) (H H1 : Hp) : Prop := ∃ rows p qs, ρ[i]? = some (some (.tbl rows)) ∧ Reg K B1 H H1 p qs rows ∧ Fit K T B (plus B1 H1 (p :: qs)) σ (ρ.set i (some (.pin p))) H H1
def rowsD (rows : List (List PyData)) : PyData := .list (rows.map .list)
/-- the table is told -/
theorem Fit2.told {B B1 : Hp} {σ : L2.St} {ρ : WEnv} {H H1 : Hp} {rows : List (List PyData)} {p : Addr} {qs : List Addr} (R : Reg K B1 H H1 p qs rows) (F : Fit K T B (plus B1 H1 (p :: qs)) σ (ρ.set i (some (.pin p))) H H1) (hi : i < ρ.length) (hB : ∀ a, B1 a = none → Base.h0 a = none) :
    Fit K T B B1 σ (ρ.set i (some (.dat (rowsD rows)))) (plus H H1 (p :: qs)) H1 := by
  have eH : Ex H (plus H H1 (p :: qs)) := fun a o h => by
    have na : a ∉ p :: qs := fun ha => by
      rw [(R.no a ha).1] at h
      cases h
    rw [plus_out na]
    exact h
  have ownOut : ∀ (k : Nat) t ct, (ρ.set i (some (.dat (rowsD rows))))[k]? = some (some t) → t.ownC = some ct → k ≠ i ∧ (ρ.set i (some (.pin p)))[k]? = some (some t) := fun k t ct h hc => by
    rw [get_set] at h
    by_cases c : i = k
    · rw [if_pos c] at h
      split at h <;> cases h <;> cases hc
    · rw [if_neg c] at h
      exact ⟨fun z => c z.symm, by rw [get_set, if_neg c]; exact h⟩
  refine ⟨⟨F.g.known.trans eH, fun a o h => ?_, (R.out F.g).all, fun a o h n nt => ?_⟩, ⟨by rw [F.p.len, List.length_set, List.length_set], fun k => ?_, F.p.tabs.mono eH⟩, ⟨fun k t ct h hc => ?_, fun k l a t ct t' ct' h1 hc1 h2 hc2 z1 z2 => ?_, hB⟩⟩
  · by_cases ha : a ∈ p :: qs
    · rwa [plus_in ha] at h
    · rw [plus_out ha] at h
      exact F.g.sub a o h
  · by_cases ha : a ∈ p :: qs
    · exact (R.no a ha).2
    · rw [plus_out ha] at h
      exact (R.out F.g).fresh a o h n nt
  · have hk := F.p.sl k
    rw [get_set] at hk ⊢
    by_cases c : i = k
    · rw [if_pos c, if_pos hi] at hk ⊢
      refine ⟨.ref p, hk, .lst (sq_of (by rw [plus_in List.mem_cons_self]; exact R.hp)) ?_⟩
      have key : ∀ (qs' : List Addr) (rows' : List (List PyData)), qs'.length = rows'.length → (∀ (k : Nat) q ds, qs'[k]? = some q → rows'[k]? = some ds → Rp K (plus H H1 (p :: qs)) (.ref q) (.list ds)) → RpAll K (plus H H1 (p :: qs)) (qs'.map V.ref) (rows'.map .list) := by
        intro qs'
        induction qs' with
        | nil =>
          intro rows' hl _
          cases rows' with
          | nil => exact .nil
          | cons _ _ => cases hl
        | cons q qs' ih =>
          intro rows' hl h
          cases rows' with
          | nil => cases hl
          | cons r rows' => exact .cons (h 0 q r rfl rfl) (ih rows' (by simpa using hl) fun k q ds h1 h2 => h (k + 1) q ds (by simpa using h1) (by simpa using h2))
      refine key qs rows R.len fun k q ds h1 h2 => ?_
      obtain ⟨vs, e1, e2⟩ := R.row k q ds h1 h2
      exact .lst (sq_of (by rw [plus_in (List.mem_cons_of_mem _ (List.mem_of_getElem? h1))]; exact e1)) (e2.mono eH)
    · rw [if_neg c] at hk ⊢
      exact hk.mono eH
  · have hk := ownOut k t ct h hc
    obtain ⟨a, e1, e2, e3, e4⟩ := F.o.at1 k t ct hk.2 hc
    have na : a ∉ p :: qs := fun ha => by
      rw [plus_in ha] at e3
      obtain ⟨_, e4, _⟩ := e4.is
      rw [e3] at e4
      cases e4
    exact ⟨a, e1, by rw [plus_out na]; exact e2, by rw [plus_out na] at e3; exact e3, e4.go eH fun _ z => z⟩
  · exact F.o.sep1 k l a t ct t' ct' (ownOut k t ct h1 hc1).2 hc1 (ownOut l t' ct' h2 hc2).2 hc2 z1 z2
theorem Fit.keep {B B1 : Hp} {σ : L2.St} {ρ : WEnv} {H H1 H2 : Hp} (F : Fit K T B B1 σ ρ H H1) (e : Ex H1 H2) : Fit K T B B1 σ ρ H H2 :=
  ⟨⟨F.g.known, F.g.sub.trans e, F.g.all.trans e, F.g.fresh⟩, F.p, ⟨fun i t ct h hc => by
    obtain ⟨p, e1, e2, e3, e4⟩ := F.o.at1 i t ct h hc
    exact ⟨p, e1, e2, e3, e4.go (Ex.refl _) fun _ z => e _ _ z⟩, F.o.sep1, F.o.b0⟩⟩
theorem Reg.keepE {B1 H H1 H2 : Hp} {p : Addr} {qs : List Addr} {rows : List (List PyData)} (R : Reg K B1 H H1 p qs rows) (e : Ex H1 H2) : Reg K B1 H H2 p qs rows ∧ plus B1 H2 (p :: qs) = plus B1 H1 (p :: qs) := by
  have e : ∀ a ∈ p :: qs, H2 a = H1 a := fun a ha => by
    obtain ⟨o, ho⟩ := R.some ha
    rw [ho]
    exact e a _ ho
  exact ⟨R.keep e fun a ha => (R.no a ha).1, plus_eq e⟩
structure FilT (K : PySem.W.Frag) (Hk H2 : Hp) (D : Addr) (Hm : Hp) (rows : List (List PyData)) (H' : Hp) (qs : List Addr) : Prop where
  e1 : Ex Hk Hm
  e3 : Ex H2 H'
  e2 : Ex Hm H'
  fr : ∀ p o, Hm p = some o → Hk p = none → NT o → H2 p = none
  R : Reg K H2 Hm H' D qs rows
theorem FilT.grow {Hk H2 Hm H' Hm' H'' : Hp} {D : Addr} {rows : List (List PyData)} {qs : List Addr} (f : FilT K Hk H2 D Hm rows H' qs) (g : Grow Hm H' Hm' H'') : FilT K Hk H2 D Hm' rows H'' qs :=
  ⟨f.e1.trans g.known, f.e3.trans g.all, g.sub, fun p o h n t => by
    cases z : Hm p with
    | some u => exact f.fr p u z n (NT.of ((g.known p u z).symm.trans h) t)
    | none => exact ex_none f.e3 (g.fresh p o h z t), (f.R.keepE g.all).1.keep (fun _ _ => rfl) fun a ha => by
    obtain ⟨o, ho⟩ := f.R.some ha
    exact g.unk (f.R.no a ha).1 ho NT.lst⟩
end
end DL
namespace DL
open PySem PySem.Spec PyProof.Rows L2
/-- the two statements of such an __init__ -/
abbrev supBody (text : Str) (slf gv f : Str) (j : Nat) (p0 p1 p2 p3 p4 p5 p6 p7 p8 p9 : Pos) : List Stmt :=
  [.Expr (.Call (.Attribute (.Call (.Name "super" p0) [] [] p1) "__init__" p2) [.Constant (.str text) j p3] [] p4) p5,
   .Assign [.Attribute (.Name slf p6) f p7] (.Name gv p8) p9]
/-- what the text tells of the class at C and of its __init__ at fI -/
structure SupC (P : Program) (K : PySem.W.Frag) (B newId initId : String) (bmB : List Value) (C fI : Addr) (slf gv f : Str) where
  FB : ExcBaseFacts B newId initId bmB
  SF : StoreFacts B bmB "object.__setattr__" "object"
  KF : PySem.W.KxsFacts B initId
  ini : PySem.W.excInitIn K C bmB newId = true
  ovr : PySem.W.excOver K C bmB = true
  sa : PySem.W.findIn K (.ref C) "__setattr__" = some (some (.builtin "object.__setattr__"))
  tak : PySem.W.takerIn K C f = some none
  nw : PySem.W.findIn K (.ref C) "__init__" = some (some (.ref fI))
  sup : PySem.W.ks_superIn K C C "__init__" = some (some (.builtin initId))
  hasD : (PySem.W.clsIn K C).map (·.hasDict) = some true
  own : PySem.W.mroIn K C (.ref C) = some true
  isB : PySem.W.subIn K (.ref C) (.type B) = some true
  exC : PySem.W.subIn K (.ref C) (.type "BaseException") = some true
  tyC : PySem.W.typeIn K (.ref C) = some (.type "type")
  kC : PySem.W.keepIn K (.ref C) = true
  tp : PySem.W.nsIn K cStatics "thirdparty.any" = some none
  name : Str
  qual : Str
  params : Arguments
  text : Str
  j : Nat
  p : Fin 10 → Pos
  scope : Scope
  dV : Value
  kV : Value
  doc : Value
  pm : Value
  an : Option Addr
  cda : Addr
  ct : Value
  cc : Addr
  oc : Value
  od : Option Addr
  osl : Array (Option Value)
  fn : K.lookup fI = some ⟨oc, od, .func (PySem.W.ksFn name qual params (supBody text slf gv f j (p 0) (p 1) (p 2) (p 3) (p 4) (p 5) (p 6) (p 7) (p 8) (p 9)) scope dV kV doc pm an (.ref cda) ct cc), osl⟩
  fnT : PySem.W.typeIn K (.ref fI) = some (.type "function")
  cod : PySem.W.codeIn K (.ref cda) qual = true
  hd : ∃ ar, (params.posonlyargs ++ params.args).head? = some ar ∧ ar.arg = slf
  file : ∃ ccl cdd vs ccs fl tf, K.lookup cda = some ⟨ccl, cdd, .fields vs, ccs⟩ ∧ vs[2]? = some (.str fl tf) ∧ ((P.main.file : Str) == fl) = true
  cel : ∃ cl cld csl, K.lookup cc = some ⟨cl, cld, .cell (some (.ref C)), csl⟩
  bnd : ∀ (a u : Value), bindArgs (PySem.W.ksFn name qual params (supBody text slf gv f j (p 0) (p 1) (p 2) (p 3) (p 4) (p 5) (p 6) (p 7) (p 8) (p 9)) scope dV kV doc pm an (.ref cda) ct cc) ⟨[a, u], []⟩ = pure [(slf, a), (gv, u)]
  nSup : scope.names.lookup ("super" : Str) = some .globalImplicit
  nCls : scope.names.lookup ("__class__" : Str) = some .free
  nSlf : scope.names.lookup slf = some .local
  nGv : scope.names.lookup gv = some .local
  nGs : slf ≠ gv
  dSlf : (slf == ("__debug__" : Str)) = false
  dGv : (gv == ("__debug__" : Str)) = false
  noC : ∀ x ∈ scope.names, x.2 ≠ .cell
  kind : scope.kind = .function
  co : scope.isCoroutine = false
  gen : scope.isGenerator = false
  inter : ∀ L, interactive (PySem.W.ksEnv qual scope L fI (.ref cda) cc) = false
  sw1 : ∀ L, swapsWith (.Call (.Attribute (.Call (.Name "super" (p 0)) [] [] (p 1)) "__init__" (p 2)) [.Constant (.str text) j (p 3)] [] (p 4)) none (p 5).line (PySem.W.ksEnv qual scope L fI (.ref cda) cc) = pure false
  sw2 : ∀ L, swapsWith (.Name gv (p 8)) (some (.Attribute (.Name slf (p 6)) f (p 7))) (p 9).line (PySem.W.ksEnv qual scope L fI (.ref cda) cc) = pure false
  pl : Addr → Sem Bool
  evl : ∀ L, eval (.Call (.Attribute (.Call (.Name "super" (p 0)) [] [] (p 1)) "__init__" (p 2)) [.Constant (.str text) j (p 3)] [] (p 4)) (PySem.W.ksEnv qual scope L fI (.ref cda) cc) = (do
    let ov ← attributeBase (.Call (.Name "super" (p 0)) [] [] (p 1)) "__init__" (PySem.W.ksEnv qual scope L fI (.ref cda) cc) (eval (.Call (.Name "super" (p 0)) [] [] (p 1)) (PySem.W.ksEnv qual scope L fI (.ref cda) cc))
    standAt (p 2).atName
    let (f, first) ← holding [ov] (getMethod ov "__init__" (pl L))
    callWith (p 4) f first (backTo (p 4) (starEach [.Constant (.str text) j (p 3)] (PySem.W.ksEnv qual scope L fI (.ref cda) cc))) [])
  sta : ∀ L, starEach [.Constant (.str text) j (p 3)] (PySem.W.ksEnv qual scope L fI (.ref cda) cc) = [(false, eval (.Constant (.str text) j (p 3)) (PySem.W.ksEnv qual scope L fI (.ref cda) cc))]
  top : (P.main.scope.names.lookup ("super" : Str)).isSome = false
section
variable {P : Program} {w : World} {K : PySem.W.Frag} {B newId initId : String} {bmB : List Value} {C fI : Addr} {slf gv f : Str} {A : Around} {s : Shared} {a t0 : Addr} {u : Value} {R : Result → Shared → Prop} {mg mb : Str → Option Value}
theorem sup_init (T : SupC P K B newId initId bmB C fI slf gv f) (hroom : A.depth < recursionLimit) (X : K.In s.heap) (lim : s.heap.NoLimit) (hg : s.heap.Ns mainGlobals mg) (hmg : mg "super" = none) (hb : s.heap.Ns builtinsNs mb) (hmb : mb "super" = some (.type "super"))
    (he : s.heap.get? a = some (PySem.W.excObj C t0 none .none)) (hKa : K.lookup a = none)
    (hq : ∀ h' tk' dx t1, (∀ b o, b ≠ a → s.heap.get? b = some o → h'.get? b = some o) → s.heap.objs.size ≤ dx → h'.get? a = some (PySem.W.excObj C t1 (some dx) .none) → h'.Ns1 dx (fun y => if y = f then some u else none) → R (.ok (.ret .none)) ⟨h', s.gens, s.drawn, tk', s.os⟩) :
    codeAny (model P w) A (.call (.ref fI) ⟨[.ref a, u], []⟩) R s := by
  obtain ⟨ar, hp1, hp2⟩ := T.hd
  obtain ⟨ccl, cdd, vs, ccs, fl, tf, hcd1, hcd2, hcd3⟩ := T.file
  obtain ⟨cl, cld, csl, hcel⟩ := T.cel
  refine PySem.ks_codeAny_call_defAt (binds := [(slf, .ref a), (gv, u)]) hroom (X _ _ T.fn) rfl lim (PySem.W.codeRec_of X T.cod) rfl (BindsTo.of_eq (T.bnd (.ref a) u)) T.noC (fun x hx => ?_) (fun h₁ hns hk => ?_) T.co T.gen T.kind
  · rcases List.mem_cons.mp hx with rfl | hx
    · exact T.nSlf
    · obtain rfl := List.mem_singleton.mp hx
      exact T.nGv
  obtain ⟨hp, g, d, t, os⟩ := s
  have X1 : K.In h₁ := X.keeps hk
  have he1 := hk _ _ he
  have m1 : (List.lookup slf [(gv, u), (slf, Value.ref a)]) = some (.ref a) := by
    have : (slf == gv) = false := by simpa using T.nGs
    simp [List.lookup, this]
  have m2 : (List.lookup gv [(gv, u), (slf, Value.ref a)]) = some u := by simp [List.lookup]
  show PySem.wpAt (model P w) (A.deeper (PySem.W.ksEnv T.qual T.scope hp.objs.size fI (.ref T.cda) T.cc)) (.func _ (PySem.W.ksEnv T.qual T.scope hp.objs.size fI (.ref T.cda) T.cc)) (execs _ (PySem.W.ksEnv T.qual T.scope hp.objs.size fI (.ref T.cda) T.cc)) _ _ _
  generalize hL : hp.objs.size = L at hns ⊢
  refine PySem.ks_wpAt_execs_cons (PySem.ks_wpAt_Expr_any (PySem.ks_wpAt_MethodCall (pl := T.pl L) ?_ (T.evl L)) (T.inter L) (T.sw1 L))
  refine PySem.ks_wpAt_super_base (env := PySem.W.ksEnv T.qual T.scope L fI (.ref T.cda) T.cc) T.nSup T.nCls (by decide) rfl (X1 _ _ T.fn) rfl hp1 rfl (X1 _ _ hcd1) rfl hcd2 hcd3 T.top ?_
  obtain ⟨cdC, hCc⟩ : ∃ cd, PySem.W.clsIn K C = some cd := by
    have := T.sup
    unfold PySem.W.ks_superIn at this
    cases z : PySem.W.clsIn K C with
    | none => rw [z] at this; cases this
    | some cd => exact ⟨cd, rfl⟩
  obtain ⟨oD, hD1, hD2⟩ : ∃ oD, h₁.get? C = some oD ∧ oD.data = .cls cdC := by
    have hD := hCc
    unfold PySem.W.clsIn at hD
    split at hD
    · rename_i c d cd' sl ho
      cases hD
      exact ⟨_, X1 _ _ ho, rfl⟩
    · cases hD
  have hmr : ∀ {h : Heap}, K.In h → PySem.W.Looks (model P w) h (mroOf (.ref C)) cdC.mro := fun X => (PySem.W.looks_clsIn X hCc).andThen .now
  refine PySem.W.ks_loadName_global T.kind T.nSup (Calls.loadGlobal_builtin (hg.keeps hk) hmg (hb.keeps hk) hmb ⟨rfl, ?_⟩)
  refine wpAny_loadName_free T.kind T.nCls rfl ⟨_, X1 _ _ hcel, rfl⟩ ?_
  refine wpAny_loadName_local T.kind (by rw [hp2]; exact T.nSlf) hns (by rw [hp2]; exact m1) ?_
  refine PySem.ks_wpAny_isType_cls hD1 hD2 ⟨rfl, ?_⟩
  refine PySem.ks_wpAny_call_super hD1 hD2 he1 rfl (fun c e => nomatch e) (PySem.W.looks_mroIn X1 T.own) (fun h2 e2 k2 => ?_)
  have X2 : K.In h2 := X1.keeps k2
  have he2 := k2 _ _ he1
  have I2 : PySem.W.InstAt h2 a (PySem.W.excObj C t0 none .none) C none := ⟨he2, rfl, rfl, trivial⟩
  refine PySem.W.kxs_getMethod T.KF e2 (PySem.W.looks_opaque X2 T.tp) (hmr X2) rfl X2 (by have := T.sup; unfold PySem.W.ks_superIn at this; rw [hCc] at this; exact this) (I2.type.andThen (PySem.W.looks_subIn X2 T.isB)) (PySem.W.ks_ne X2 I2 hCc) (by decide) ?_
  have hu : (h2.push (PySem.W.kxs_mw initId a)).get? h2.objs.size = some (PySem.W.kxs_mw initId a) := Heap.get?_push_size _ rfl
  have he3 : (h2.push (PySem.W.kxs_mw initId a)).get? a = some (PySem.W.excObj C t0 none .none) := Heap.get?_push_of_some _ he2
  have k3 : ∀ b o, h₁.get? b = some o → (h2.push (PySem.W.kxs_mw initId a)).get? b = some o := fun b o e => Heap.get?_push_of_some _ (k2 b o e)
  have X3 := X1.keeps k3
  show wpAny _ _ (callWith (T.p 4) (.ref h2.objs.size) [] (backTo (T.p 4) (starEach _ _)) []) _ _ _
  rw [T.sta L]
  refine PySem.W.kxs_callWith (i := initId) (x := a) rfl (Calls.evalArgs_plain ?_)
  show wpAny _ _ (spliced ((false, eval (.Constant (.str T.text) T.j (T.p 3)) (PySem.W.ksEnv T.qual T.scope L fI (.ref T.cda) T.cc)) :: [])) _ _ _
  refine Calls.spliced_cons ?_
  refine Calls.Constant_str ?_
  refine Calls.spliced_nil ⟨hu, ?_⟩
  obtain ⟨nm, N, qn, bs, bm, hdct, sn, sub, ab, col, dd, k0, k1, kk2, kk3, k5, hC, hT⟩ := PySem.W.excInit_of X3 T.ini
  refine wpAny_call (codeAny_of_tree ?_)
  show wpAny _ _ (callAny (.ref h2.objs.size) _) _ _ _
  simp only [callAny]
  refine wpAny_bind (wpAny_load hu ?_)
  simp only [PySem.W.kxs_mw, show (Value.type "method-wrapper" == Value.type "method" || Value.type "method-wrapper" == Value.type "builtin_function_or_method" || Value.type "method-wrapper" == Value.type "method-wrapper") = true by decide, if_true]
  refine PySem.W.KFB.if_so (by decide) ?_
  refine wpAny_bind (PySem.W.check_bound_init T.FB.toExcCallFacts hC he3 rfl ?_)
  refine wpAny_bind (wpAny_pure (wpAny_pure ?_))
  refine ⟨plainId_quiet T.FB.init.plain _, codeAny_builtin T.FB.initEntry ?_⟩
  refine PySem.W.exc_init_tree (cls := .ref C) (t0 := t0) (dv := none) (c2 := .none) (c3 := .none) (b4 := .bool false) he3 (by show 1 ≤ sizeLine; decide) (fun h4 k4 e4 t4 => ?_)
  show PySem.wpAt (model P w) (A.deeper (PySem.W.ksEnv T.qual T.scope L fI (.ref T.cda) T.cc)) (.func _ (PySem.W.ksEnv T.qual T.scope L fI (.ref T.cda) T.cc)) (execs [_] (PySem.W.ksEnv T.qual T.scope L fI (.ref T.cda) T.cc)) _ _ _
  have aL : L ≠ a := fun z => by
    obtain ⟨oL, es, ep, hL', hL2, _⟩ := hns
    have hL' : h₁.get? L = some oL := hL'
    rw [z, he1] at hL'
    cases hL'
    have : (Data.fields #[.ref t0, .none, .none, .none, .bool false, .none]) = Data.dict es ep := hL2
    cases this
  have kA : ∀ b o, b ≠ a → h₁.get? b = some o → h4.get? b = some o := fun b o n e => k4 b o n (k3 b o e)
  have X4 : K.In h4 := fun b o e => kA b o (fun z => by rw [z, hKa] at e; cases e) (X1 b o e)
  have hns4 : h4.Ns L (fun y => List.lookup y [(gv, u), (slf, Value.ref a)]) := hns.at fun o e => kA L o aL e
  refine PySem.ks_wpAt_execs_cons (PySem.ks_wpAt_Assign_Attr ?_ (T.sw2 L))
  refine wpAt_of_wpAny (wpAny_Name (wpAny_loadName_local T.kind T.nGv hns4 m2 ?_) T.dGv)
  refine wpAny_Name (wpAny_loadName_local T.kind T.nSlf hns4 m1 ?_) T.dSlf
  have he4 : h4.get? a = some (PySem.W.excObj C (h2.push (PySem.W.kxs_mw initId a)).objs.size none .none) := e4
  have I4 : PySem.W.InstAt h4 a (PySem.W.excObj C (h2.push (PySem.W.kxs_mw initId a)).objs.size none .none) C none := ⟨he4, rfl, rfl, trivial⟩
  have hsz4 : hp.objs.size ≤ h4.objs.size := by
    have z1 : L < h₁.objs.size := by
      obtain ⟨oL, es, ep, hL', _⟩ := hns
      exact Heap.lt_size hL'
    have z2 := Heap.lt_size e2
    have z3 := Heap.lt_size hu
    have z4 := Heap.lt_size t4
    rw [hL]
    exact Nat.le_of_lt (Nat.lt_trans z1 (Nat.lt_trans z2 (Nat.lt_trans z3 z4)))
  refine PySem.W.set_plain X4 I4 T.sa (PySem.W.osa_openX T.SF X4 I4 T.ovr T.tak (fun b => ?_))
  show wpAny _ _ (Builtin.ObjectAttr.storeInOwnDict (.ref a) (.ref C) _ f u b) _ _ _
  have hcls : PySem.W.Looks (model P w) h4 (classData C) cdC := PySem.W.looks_clsIn X4 hCc
  have hhd : cdC.hasDict = true := by
    have := T.hasD
    rw [hCc] at this
    exact Option.some.inj this
  have hxs : a ≠ h4.objs.size := Nat.ne_of_lt (Heap.lt_size he4)
  obtain ⟨nm', bs', mro', ns', qn', hd', sn', sb', ab', col', del'⟩ := cdC
  dsimp only at hhd
  subst hhd
  unfold Builtin.ObjectAttr.storeInOwnDict Builtin.ObjectAttr.ownDictForStores
  repeat (first | with_reducible refine PySem.HandSPX.store_in_new ?_ ?_ | with_reducible refine wpAny_loadPart_at he4 ?_ | with_reducible refine hcls.at ?_ | wp_step)
  · exact ⟨_, #[], _, (Heap.get?_update_ne _ _ _ _ hxs.symm).trans (Heap.get?_push_at rfl rfl), rfl, fun e he => absurd he (by simp), fun _ => rfl⟩
  · intro h5 tk5 hn5 hs5
    refine wpAt_of_wpAny (wpAny_execs_nil ?_)
    have hx₁ : (h4.push { cls := .type "dict", data := .dict #[] }).get? a = some (PySem.W.excObj C (h2.push (PySem.W.kxs_mw initId a)).objs.size none .none) := Heap.get?_push_of_some _ he4
    refine hq h5 _ h4.objs.size (h2.push (PySem.W.kxs_mw initId a)).objs.size (fun b o hb ho => ?_) hsz4 ?_ hn5
    · have ho4 := kA b o hb (hk b o ho)
      exact (hs5.2 b (Nat.ne_of_lt (Heap.lt_size ho4))).trans ((Heap.get?_update_ne _ _ _ _ hb).trans (Heap.get?_push_of_some _ ho4))
    · exact (hs5.2 a hxs).trans (Heap.get?_update_self _ hx₁ rfl)
end
/-- C(e): the error keeps the value as f -/
def tMkS (C : Addr) (f : Str) (ta : TA) : L2.St → Hp → XK → Prop := fun σ H Q => ta σ H fun vs H1 => ∃ v, vs = [v] ∧ ∀ dx, H1 dx = none → Q (.ref C) (some dx) (upd H1 dx (.xd [(f, v)]))
section
variable {X : Cx} {e : Expr} {ta : TA} {p pos : Pos} {B newId initId : String} {bmB : List Value} {C fI : Addr} {slf gv f : Str} {k : Nat}
theorem pmk_sup {x : Str} (T : SupC X.prog X.K B newId initId bmB C fI slf gv f) (hr : Room (k + 1) X.A) (hsu : X.mg "super" = none) (hg : Gl X x) (hm : X.mg x = some (.ref C)) (ha : PA X [e] ta)
    (hdb : (x == ("__debug__" : Str)) = false := by decide) (he : starEach [e] X.env = (false, eval e X.env) :: starEach [] X.env := by rfl) (hpl : (backTo pos (starEach [] X.env)).any (·.1) = false := by rfl) :
    PMk X (.Call (.Name x p) [e] [] pos) (tMkS C f ta) := by
  intro pins s σ H Q I h
  refine wpAny_Call_Name_kw (ld_glob I hg hm ?_ hdb)
  refine PySem.W.callWith_K (h₀ := X.base) I.ok.mod.kin T.kC (thn (ha.run pos pins s σ H _ I h) fun us s1 ⟨vs, H1, I1, r1, v, ev, q1⟩ => ⟨I1.kIn, ?_⟩) he hpl
  subst ev
  obtain ⟨u, rfl, ru⟩ : ∃ u, us = [u] ∧ L2.RelV v u := by
    cases r1 with
    | cons r t =>
      cases t
      exact ⟨_, rfl, r⟩
  show wpAny _ _ (call (.ref C) [u]) _ _ _
  obtain ⟨nm, N, qn, bs, bm, hdct, sn, sub, ab, col, dd, k0, k1, k2, k3, k5, hC, hT⟩ := PySem.W.excInit_of I1.kIn T.ini
  obtain ⟨hp, g, dr, tk, os⟩ := s1
  have kk : ∀ b o, hp.get? b = some o → ((hp.push (PySem.W.kdv_tup [u])).push (PySem.HandSPX.excO C hp.objs.size)).get? b = some o := fun b o e => Heap.get?_push_of_some _ (Heap.get?_push_of_some _ e)
  have hget : ((hp.push (PySem.W.kdv_tup [u])).push (PySem.HandSPX.excO C hp.objs.size)).get? (hp.objs.size + 1) = some (PySem.HandSPX.excO C hp.objs.size) := by heap_get
  have hsz : ((hp.push (PySem.W.kdv_tup [u])).push (PySem.HandSPX.excO C hp.objs.size)).objs.size = hp.objs.size + 2 := by rw [Heap.size_push, Heap.size_push]
  obtain ⟨mb, hb1, hb2⟩ := I1.mod.blt
  have hK : X.K.lookup (hp.objs.size + 1) = none := by
    cases z : X.K.lookup (hp.objs.size + 1) with
    | none => rfl
    | some o =>
      have h9 := Heap.lt_size (show hp.get? (hp.objs.size + 1) = some o from I1.kIn _ _ z)
      exact absurd (Nat.lt_trans (Nat.lt_succ_self _) h9) (Nat.lt_irrefl _)
  refine wpAny_call (PySem.HandSPX.call_own T.FB hT hC (PySem.W.looks_findIn I1.kIn T.nw) (fun slf => PySem.W.bind_fn I1.kIn slf T.fnT) (by show 1 ≤ sizeLine; decide) ?_)
  have hr' : Room k (X.A.under (.builtin "type.__call__" ⟨.ref C :: [u], []⟩)) := hr.make C [u] []
  generalize hh2 : (hp.push (PySem.W.kdv_tup [u])).push (PySem.HandSPX.excO C hp.objs.size) = h2 at kk hget hsz
  have kb : ∀ b o, X.base.get? b = some o → h2.get? b = some o := fun b o z => kk b o (I1.bk b o z)
  show codeAny _ _ (.call (.ref fI) ⟨[.ref (hp.objs.size + 1), u], []⟩) _ ⟨h2, g, dr, tk, os⟩
  refine sup_init (s := ⟨h2, g, dr, tk, os⟩) T hr'.depth (I1.ok.mod.kin.keeps kb) (I1.ok.mod.nolimit.keeps kb) (I1.ok.mod.glob.keeps kb) hsu (hb1.keeps kb) ((hb2 "super" (by decide)).trans PyProof.Rows.Boot.«super») (t0 := hp.objs.size) hget hK (fun h' tk' dx t1 k' hdx ha' hn' => ?_)
  have hsz' : h2.objs.size = hp.objs.size + 2 := hsz
  have hda : dx ≠ hp.objs.size + 1 := fun z => by
    have h9 : h2.objs.size ≤ dx := hdx
    rw [hsz', z] at h9
    omega
  have na : ∀ {b : Addr} {o : Obj}, hp.get? b = some o → b ≠ hp.objs.size + 1 := fun z e => by
    have h9 := Heap.lt_size z
    rw [e] at h9
    exact absurd (Nat.lt_trans (Nat.lt_succ_self _) h9) (Nat.lt_irrefl _)
  obtain ⟨G, g1, g2⟩ := restrict h' fun b => decide (b ≠ hp.objs.size + 1)
  have gk : ∀ b, b ≠ hp.objs.size + 1 → G.get? b = h'.get? b := fun b hb => g1 b (decide_eq_true hb)
  have ge : G.get? (hp.objs.size + 1) = none := g2 _ (by simp)
  have kG : ∀ b o, hp.get? b = some o → G.get? b = some o := fun b o z => (gk b (na z)).trans (k' b o (na z) (kk b o z))
  have hdx1 : hp.objs.size ≤ dx := by
    have h9 : h2.objs.size ≤ dx := hdx
    rw [hsz'] at h9
    omega
  have J : Inv X pins σ (upd H1 dx (.xd [(f, v)])) ⟨G, g, dr, tk', os⟩ := by
    refine I1.laid (t' := tk') (a := dx) (o := .xd [(f, v)]) (h' := G) kG hdx1 ?_
    refine ⟨_, hn'.at fun o y => (gk dx hda).trans y, fun y => ?_⟩
    by_cases c : y = f
    · subst c
      rw [if_pos rfl, show List.lookup y [(y, v)] = some v by simp [List.lookup]]
      exact ru
    · have e : (y == f) = false := by simpa using c
      rw [if_neg c]
      simp [List.lookup, e]
      trivial
  refine ⟨rfl, hp.objs.size + 1, _, _, ⟨G, g, dr, tk', os⟩, upd H1 dx (.xd [(f, v)]), .ref C, some dx, rfl, J, fun b o z => ?_, ge, ha', ⟨rfl, rfl⟩, rfl, rfl, ?_, rfl, I1.bare, raises_own T.exC T.tyC, q1 dx (I1.hok.fresh hdx1)⟩
  · by_cases c : b = hp.objs.size + 1
    · rw [c] at z
      rw [show G.get? (hp.objs.size + 1) = none from ge] at z
      cases z
    · exact (gk b c).symm.trans z
  · rw [upd_ne (Ne.symm hda)]
    exact I1.hok.fresh (Nat.le_succ _)
end
end DL
namespace DL
open PySem PySem.Spec PyProof.Rows L2
/-- one clause: its class, its name's slot (if it has a name), its suite -/
structure Hd1 where
  c : Value
  i : Option Nat
  ts : Addr → Value → Option Addr → TS
def Hd1.ends (D : Ends) : Option Nat → Ends
  | none => D
  | some i => { nx := fun σ H => D.nx (σ.set i none) H, rt := D.rt, bk := fun σ H => D.bk (σ.set i none) H, ct := fun σ H => D.ct (σ.set i none) H }
def Hd1.slot (σ : L2.St) (a : Addr) : Option Nat → L2.St
  | none => σ
  | some i => σ.set i (some (.ref a))
def wHds (K : PySem.W.Frag) (Wout : WX) (D : Ends) : List Hd1 → WX
  | [] => Wout
  | h :: r => fun cls d σ H => ∃ b, PySem.W.exmOne K cls h.c = some b ∧ (b = true → ∀ a, H a = none → h.ts a cls d (Hd1.ends D h.i) (Hd1.slot σ a h.i) H) ∧ (b = false → wHds K Wout D r cls d σ H)
inductive HdsA (X : Cx) : List ExceptHandler → List Hd1 → Prop
  | nil : HdsA X [] []
  | plain {x : Str} {c : Value} {ts : Addr → Value → Option Addr → TS} {b₀ : Stmt} {suite : List Stmt} {np pos' : Pos} {hds : List ExceptHandler} {l : List Hd1} (hc : Names X x c)
      (hsu : ∀ (a : Addr) (oe : Obj) (cls : Value) (d : Option Addr) (pn : List (Addr × Obj)), Zc cls d oe → (∃ vs, oe.data = .fields vs) → PSs (X.suite a ((a, oe) :: pn)) (b₀ :: suite) (ts a cls d)) (r : HdsA X hds l) :
      HdsA X (.ExceptHandler (some (.Name x np)) none (b₀ :: suite) pos' :: hds) (⟨c, none, ts⟩ :: l)
  | named {x n : Str} {i : Nat} {c : Value} {ts : Addr → Value → Option Addr → TS} {b₀ : Stmt} {suite : List Stmt} {np pos' : Pos} {hds : List ExceptHandler} {l : List Hd1} (hc : Names X x c) (hi : X.N[i]? = some n) (hl : X.env.kindOf n = some .local)
      (hsu : ∀ (a : Addr) (oe : Obj) (cls : Value) (d : Option Addr) (pn : List (Addr × Obj)), Zc cls d oe → (∃ vs, oe.data = .fields vs) → PSs (X.suite a ((a, oe) :: pn)) (b₀ :: suite) (ts a cls d)) (r : HdsA X hds l) :
      HdsA X (.ExceptHandler (some (.Name x np)) (some n) (b₀ :: suite) pos' :: hds) (⟨c, some i, ts⟩ :: l)
section
variable {X : Cx} {body : List Stmt} {h₀ : ExceptHandler} {hds : List ExceptHandler} {l : List Hd1} {pos : Pos} {tb : WX → TS} {Wout : WX}
/-- the clauses, asked one by one for an exception that flies -/
theorem hands_go {pins : List (Addr × Obj)} {D : Ends} {sI s : Shared} {B : Heap} {a : Addr} {cls : Value} {d : Option Addr} {σ : L2.St} {H : Hp} (ok : X.Ok) (hN : X.N.Nodup) (hs : X.stack = X.env :: X.outer) (hf : X.env.frame = some X.env.locals) (tk : Takes X Wout)
    (J : Inv X pins σ H sI) (nb : ∀ b o, sI.heap.get? b = some o → b ∉ frs X.stack → B.get? b = some o) (up : sI.heap.UpToSlots s.heap) (fl : HandSPX.FlyingZ B (X.env :: X.outer) a (Zc cls d) s.heap) (na : H a = none) (os : s.os = sI.os) (ag : AllBare s.gens) :
    ∀ {hds : List ExceptHandler} {l : List Hd1}, HdsA X hds l → wHds X.K Wout D l cls d σ H → wpAny (model X.prog X.w) X.A (handleBy (.ref a) X.env hds) (SP X pins D) X.xe s := by
  have far : ∀ {h : Heap}, HandSPX.FlyingZ B (X.env :: X.outer) a (Zc cls d) h → a ≠ X.env.locals ∧ a ∉ X.fs := fun {h} f => by
    obtain ⟨oe, vs, e, _, dd⟩ := f.there
    have nfr : a ∉ frs (X.env :: X.outer) := fun hm => by
      obtain ⟨_, o', e', hnf⟩ := f.2.2.1.mem hm
      rw [e] at e'
      cases e'
      exact hnf _ dd
    refine ⟨fun z => nfr (List.mem_filterMap.mpr ⟨X.env, List.mem_cons_self, by rw [hf, z]⟩), fun hm => ?_⟩
    obtain ⟨e, he, q⟩ := List.mem_filterMap.mp hm
    exact nfr (List.mem_filterMap.mpr ⟨e, List.mem_cons_of_mem _ he, q⟩)
  obtain ⟨nL, nF⟩ := far fl
  obtain ⟨oe3, vs3, he3, hz3, hd3⟩ := fl.there
  have J3 : Inv X pins σ H s := J.landed nb fl.1 up os ag
  have S3 := J3.suite he3 hd3 na nL nF
  have LT : PySem.W.Looks (model X.prog X.w) s.heap (typeOf (.ref a)) cls := fun A Q E s' k q => wpAny_typeOf_ref (k _ _ he3) (by rw [hz3.1]; exact q)
  have test : ∀ {x : Str} {np : Pos} {c : Value} {Q : Value → Shared → Prop} {E : Value → Shared → Prop}, Names X x c → Q c s → wpAny (model X.prog X.w) (X.A.mark (some (.ref a))) (eval (.Name x np) X.env) Q E s := fun {x np c Q E} hc q => by
    obtain ⟨hg, hdbg, hm | ⟨hm, hv, hnn⟩⟩ := hc
    · exact ld_glob (X := X.suite a ((a, oe3) :: (X.pn ++ pins))) S3 hg hm q hdbg
    · exact ld_blt (X := X.suite a ((a, oe3) :: (X.pn ++ pins))) S3 hg hm hv q hnn hdbg
  intro hds l hk
  induction hk with
  | nil =>
    intro w
    refine wpAny_handleBy_nil ?_
    obtain ⟨k1, k2, k3, oe, vs, T, oT, ts', he, hz, hd, h1, hr⟩ := id fl
    unfold PySem.passOn
    refine wpAny_bind (wpAny_field he hd h1 ?_)
    rw [if_neg (show ¬ ((Value.ref T == Value.none) = true) from by simp)]
    have fin : wpAny (model X.prog X.w) X.A (setFlight (.ref a) X.env.frame) (fun _ s4 => wpAny (model X.prog X.w) X.A (throw (.ref a) : Sem Flow) (SP X pins D) X.xe s4) X.xe s := by
      rw [hf]
      refine HandSPX.setFlight_upZ fl fun h4 hh4 up4 => wpAny_throw (tk _ _ ?_)
      exact ⟨a, B, sI, pins, σ, H, cls, d, rfl, J, nb, up.trans up4, .inr (.inr (by rw [hs]; exact hh4)), na, os, ag, w⟩
    first
      | exact wpAny_bind (wpAny_pure (wpAny_bind fin))
      | exact wpAny_bind fin
  | plain hc hsu r ih =>
    intro w
    obtain ⟨b, hb1, hyes, hno⟩ := w
    refine wpAny_handleBy_cons (codeAny_handlers_test ?_) (by intro q; cases q)
    refine test hc ((PySem.W.exm_one (M := model X.prog X.w) J3.kIn LT hb1).here ?_)
    cases b with
    | false => exact ih (hno rfl)
    | true =>
      refine codeAny_handlers_suite ?_
      refine HandSPX.lands_againZ fl fun h4 fl4 up4 => ?_
      have J4 : Inv X pins σ H { s with heap := h4 } := J.landed nb fl4.1 (up.trans up4) os ag
      obtain ⟨oe4, vs4, he4, hz4, hd4⟩ := fl4.there
      refine wpAny_mono ((hsu a oe4 cls d (X.pn ++ pins) hz4 ⟨_, hd4⟩).run [] _ _ H _ (J4.suite he4 hd4 na nL nF) (hyes rfl a na)) (fun f s6 hsp => ?_) (fun _ _ z => False.elim z)
      cases f with
      | next =>
        obtain ⟨σ6, H6, S6, q6⟩ := hsp
        exact ⟨_, _, S6.unsuite ok, q6⟩
      | brk =>
        obtain ⟨σ6, H6, S6, q6⟩ := hsp
        exact ⟨_, _, S6.unsuite ok, q6⟩
      | cont =>
        obtain ⟨σ6, H6, S6, q6⟩ := hsp
        exact ⟨_, _, S6.unsuite ok, q6⟩
      | ret u =>
        obtain ⟨v6, σ6, H6, S6, r6, q6⟩ := hsp
        exact ⟨_, _, _, S6.unsuite ok, r6, q6⟩
  | @named x n i c ts b₀ suite np pos' hds2 l2 hc hi hln hsu r ih =>
    intro w
    obtain ⟨b, hb1, hyes, hno⟩ := w
    refine wpAny_handleBy_cons (codeAny_handlers_test ?_) (by intro q; cases q)
    refine test hc ((PySem.W.exm_one (M := model X.prog X.w) J3.kIn LT hb1).here ?_)
    cases b with
    | false => exact ih (hno rfl)
    | true =>
      refine codeAny_handlers_suite_as ?_
      refine HandSPX.lands_againZ fl fun h4 fl4 up4 => ?_
      have J4 : Inv X pins σ H { s with heap := h4 } := J.landed nb fl4.1 (up.trans up4) os ag
      obtain ⟨oe4, vs4, he4, hz4, hd4⟩ := fl4.there
      refine store_ok (X := X.suite a ((a, oe4) :: (X.pn ++ pins))) (v := .ref a) (J4.suite he4 hd4 na nL nF) hN hi (.inl hln) rfl (fun s5 S5 => ?_) (.inr hln)
      refine wpAny_mono ((hsu a oe4 cls d (X.pn ++ pins) hz4 ⟨_, hd4⟩).run [] s5 _ H _ S5 (hyes rfl a na)) (fun f s6 hsp => ?_) (fun _ _ z => False.elim z)
      have end_ : ∀ {σ6 : L2.St} {H6 : Hp} {Q : Shared → Prop}, Inv (X.suite a ((a, oe4) :: (X.pn ++ pins))) [] σ6 H6 s6 → (∀ s7, Inv X pins (σ6.set i none) H6 s7 → Q s7) →
          wpAny (model X.prog X.w) X.A (do bindName X.env n .none; unbindBehindTheSuite X.env n pos') (fun _ s7 => Q s7) X.xe s6 := fun {σ6 H6 Q} S6 hq => gone_ok (S6.unsuite ok) hN hi hln hq
      cases f with
      | next =>
        obtain ⟨σ6, H6, S6, q6⟩ := hsp
        exact end_ S6 fun s7 J7 => ⟨_, _, J7, q6⟩
      | brk =>
        obtain ⟨σ6, H6, S6, q6⟩ := hsp
        exact end_ S6 fun s7 J7 => ⟨_, _, J7, q6⟩
      | cont =>
        obtain ⟨σ6, H6, S6, q6⟩ := hsp
        exact end_ S6 fun s7 J7 => ⟨_, _, J7, q6⟩
      | ret u =>
        obtain ⟨v6, σ6, H6, S6, r6, q6⟩ := hsp
        exact end_ S6 fun s7 J7 => ⟨_, _, _, J7, r6, q6⟩
theorem ps_try_hands (hN : X.N.Nodup) (hs : X.stack = X.env :: X.outer) (hf : X.env.frame = some X.env.locals) (tk : Takes X Wout)
    (hb : ∀ (W : WX) (pn : List (Addr × Obj)) (xe : Value → Shared → Prop), Takes (X.tr pn xe) W → PassesOwn (model X.prog X.w) X.A X.env xe → PSs (X.tr pn xe) body (tb W))
    (hh : HdsA X (h₀ :: hds) l) : PS X (.Try body (h₀ :: hds) [] [] pos) (fun D σ H => tb (wHds X.K Wout D l) D σ H) := by
  refine ⟨fun pins s σ H D I h => ?_⟩
  have ok := I.ok
  have hfr : X.A.frames = some (X.env :: X.outer) := by rw [ok.frames, hs]
  refine wpAny_Try_except ?_
  refine wpAny_mono ((hb (wHds X.K Wout D l) (X.pn ++ pins) (fun e s₁ => wpAny (model X.prog X.w) X.A (noteFrame e X.env) (fun _ s₂ => wpAny (model X.prog X.w) X.A (setFlight e none) (fun _ s₃ =>
    wpAny (model X.prog X.w) X.A (handleBy e X.env (h₀ :: hds)) (SP X pins D) X.xe s₃) X.xe s₂) X.xe s₁) (fun u s' xx => ?_) PassesOwn.looking).run [] s σ H D (I.toTry _) h) (fun f s1 hsp => ?_) (fun e s1 he => he)
  · obtain ⟨a, B, sI, pins', σ', H', cls, d, rfl, J', nb, up, sky, na, os, ag, w⟩ := xx
    have sky' : Sky B (X.env :: X.outer) a (Zc cls d) X.env.locals s'.heap := by rw [← hs]; exact sky
    show wpAny (model X.prog X.w) X.A (noteFrame (.ref a) X.env) _ _ _
    exact Sky.land Zc.steady hfr hf sky' fun h3 fl3 up3 => hands_go (sI := sI) (s := { s' with heap := h3 }) ok hN hs hf tk (J'.ofTry ok) nb (up.trans up3) fl3 na os ag hh w
  · cases f with
    | next =>
      obtain ⟨σ', H', J', q⟩ := hsp
      exact wpAny_execs_nil ⟨σ', H', J'.ofTry ok, q⟩
    | brk =>
      obtain ⟨σ', H', J', q⟩ := hsp
      exact ⟨σ', H', J'.ofTry ok, q⟩
    | cont =>
      obtain ⟨σ', H', J', q⟩ := hsp
      exact ⟨σ', H', J'.ofTry ok, q⟩
    | ret u =>
      obtain ⟨v, σ', H', J', r, q⟩ := hsp
      exact ⟨v, σ', H', J'.ofTry ok, r, q⟩
end
end DL
namespace DL
open PySem PySem.Spec PyProof.Rows L2 Evl
variable [CTab] [Base]
abbrev XD := Str × Option (Str × PyData)
def XOk (K : PySem.W.Frag) (mg : Str → Option Value) (H : Hp) : XD → Value → Option Addr → Prop
  | (n, none), cls, _ => mg n = some cls
  | (n, some (f, z)), cls, d => mg n = some cls ∧ ∃ dx v, d = some dx ∧ H dx = some (.xd [(f, v)]) ∧ Rp K H v z
abbrev WXP := (XD → Prop)
abbrev WSX := WXP → WS
abbrev WEX := WEnv → (PyData → Prop) → WXP → Prop
def spX (K : PySem.W.Frag) (mg : Str → Option Value) (T : List Addr) (n : Nat) (w : List Sl → (PyData → Prop) → WXP → Prop) : Sp := fun vs H1 Q E => ∃ H ss, Ex H H1 ∧ Tabs T H ∧ RpSs K H vs ss ∧ ss.length = n ∧ ∃ P R, w ss P R ∧
  (∀ u z Hk H2, Grow H H1 Hk H2 → Rp K Hk u z → P z → Q u H2) ∧ ∀ x cls d Hk H2, Grow H H1 Hk H2 → XOk K mg Hk x cls d → R x → E cls d H2
/-- nothing is raised there -/
def calmW (w : List Sl → (PyData → Prop) → WXP → Prop) : List Sl → (PyData → Prop) → Prop := fun ss P => w ss P fun _ => False
def DSX (K : PySem.W.Frag) (mg : Str → Option Value) (T : List Addr) (E : XK) (ts : TS) (ws : WSX) : Prop := ∀ B B1 σ ρ H H1, Fit K T B B1 σ ρ H H1 → ∀ W D R, Mat K T B B1 W D →
  (∀ x cls d Hk H2, Grow B B1 Hk H2 → XOk K mg Hk x cls d → R x → E cls d H2) → ws R W ρ → ts D σ H1
def seqX (a b : WSX) : WSX := fun R W ρ => a R { W with nx := b R W } ρ
def ifX (S : List Nat) (c : WT) (a b : WSX) : WSX := fun R W ρ => c (tells S ρ) fun k => if k = true then a R W ρ else b R W ρ
def liftX (a : WS) : WSX := fun _ => a
def raiseW (S : List Nat) (n f : Str) (a : WE) : WSX := fun R _ ρ => a (tells S ρ) fun z => R (n, some (f, z))
def bodyX (ws : WSX) (N : Nat) : List Sl → (PyData → Prop) → WXP → Prop := fun ss P R => ws R ⟨fun _ => P .none, P, fun _ => False, fun _ => False⟩ (startW N ss)
section
variable {K : PySem.W.Frag} {mg : Str → Option Value} {T : List Addr} {S : List Nat} {E : XK} {te : TE} {ta : TA} {tt : TT} {t u : TS} {ws wu : WSX} {w0 : WS} {we : WEX} {wa : WE} {ct : WT} {wl : WA} {i n : Nat} {C : Addr} {nm f : Str}
theorem dsx_of (h : DS K T t w0) : DSX K mg T E t (liftX w0) := fun B B1 σ ρ H H1 F W D R M _ h0 => h B B1 σ ρ H H1 F W D M h0
theorem dsx_seq (h1 : DSX K mg T E t ws) (h2 : DSX K mg T E u wu) : DSX K mg T E (tSeq t u) (seqX ws wu) := fun B B1 σ ρ H H1 F W D R M x h =>
  h1 B B1 σ ρ H H1 F { W with nx := wu R W } { D with nx := u D } R ⟨fun σ ρ H H1 F z => h2 B B1 σ ρ H H1 F W D R M x z, M.rt, M.bk, M.ct⟩ x h
theorem dsx_if (h : DT K T tt ct) (h1 : DSX K mg T E t ws) (h2 : DSX K mg T E u wu) : DSX K mg T E (tIfS tt t u) (ifX S ct ws wu) := fun B B1 σ ρ H H1 F W D R M x h0 => by
  have e := tell_ex (S := S) F.o F.g.sub
  refine h σ _ _ (F.told (S := S)) _ h0 H1 e.2 _ fun b Hk H2 g p => ?_
  have F' := F.after (S := S) (Sub.refl ρ) g
  cases b with
  | true => exact h1 B B1 σ ρ _ H2 F' W D R M x (by simpa using p)
  | false => exact h2 B B1 σ ρ _ H2 F' W D R M x (by simpa using p)
theorem dsx_raise (hm : mg nm = some (.ref C)) (ha : DE K T te wa) : DSX K mg T E (fun _ σ H => tMkS C f (tCons te tNil) σ H fun cls d H' => E cls d H') (raiseW S nm f wa) := fun B B1 σ ρ H H1 F W D R M x h0 => by
  have e := tell_ex (S := S) F.o F.g.sub
  refine ha σ _ _ (F.told (S := S)) _ h0 H1 e.2 _ fun v d Hk H2 g r p => ?_
  refine ⟨v, rfl, fun dx hdx => ?_⟩
  have g2 := Grow.new g.sub hdx (.xd [(f, v)])
  exact x (nm, some (f, d)) _ _ _ _ (((F.toldG (S := S)).trans g).trans g2) ⟨hm, dx, v, rfl, upd_same, r.mono g2.known⟩ p
omit [Base] in
theorem spX_len {w : List Sl → (PyData → Prop) → WXP → Prop} {vs : List V} {H : Hp} {Q : VK} (h : spX K mg T n w vs H Q E) : vs.length = n := by
  obtain ⟨_, _, _, _, r, e, _⟩ := h
  rw [r.len, e]
theorem dsx_body {N : Nat} {Nm : List Str} (hN : Nm.length = N) (h : DSX K mg T E t ws) {vs : List V} {H1 : Hp} (hB : Base.h0 = H1 := by rfl) {Q : VK} (hs : spX K mg T n (bodyX ws N) vs H1 Q E) : t { nx := fun _ H' => Q .non H', rt := Q } (L2.start Nm vs) H1 := by
  obtain ⟨H, ss, e, hT, r, _, P, R, p, k, kx⟩ := hs
  have el := r.len
  subst hN
  refine h H H1 (L2.start Nm vs) (startW Nm.length ss) H H1 ⟨Grow.refl e, ⟨?_, fun i => ?_, hT⟩, ⟨fun i t c z zc => ?_, fun i j q t c t' c' z zc => ?_, fun a z => by rw [hB]; exact z⟩⟩ ⟨fun _ => P .none, P, fun _ => False, fun _ => False⟩ _ R ⟨fun σ ρ Hk H2 F z => k .non .none Hk H2 F.g .non z, fun v d Hk H2 g r z => k v d Hk H2 g r z, fun _ _ _ _ _ z => z.elim, fun _ _ _ _ _ z => z.elim⟩ kx p
  · simp [L2.start, startW, el]
  · unfold L2.start startW
    rw [el]
    exact spSs_get i _ r
  · exact (own_none i _ t c r z zc).elim
  · exact (own_none i _ t c r z zc).elim
end
end DL
namespace DL
open PySem PySem.Spec PyProof.Rows L2 Evl
end DL
namespace DL
open PySem PySem.Spec PyProof.Rows L2 Evl
variable [CTab] [Base]
section
variable {K : PySem.W.Frag} {mg : Str → Option Value} {T : List Addr} {Tn : List (Addr × Str)} {H H' H1 H2 : Hp}
theorem rdN {a : Addr} {u : HO} (hu : ∀ ps, u ≠ .tbl ps) (e : LamX.ExtN H H') (h : Rd H a u) : Rd H' a u := by
  rcases h with h | ⟨o, h⟩
  · exact .inl (e a u h hu)
  · exact .inr ⟨o, e a _ h fun ps z => nomatch z⟩
theorem sqL_N {a : Addr} {xs : List V} (e : LamX.ExtN H H') (h : SqL K H a xs) : SqL K H' a xs := h.imp (rdN (fun ps z => nomatch z) e) id
theorem sqT_N {a : Addr} {xs : List V} (e : LamX.ExtN H H') (h : SqT K H a xs) : SqT K H' a xs := h.imp (rdN (fun ps z => nomatch z) e) id
theorem DicH.monoN {a : Addr} {kvs : List (PyData × V)} (e : LamX.ExtN H H') : DicH K H a kvs → DicH K H' a kvs
  | .k ⟨ob, h⟩ => .k ⟨ob, e _ _ h fun ps z => nomatch z⟩
  | .t ⟨ob, h⟩ => .t ⟨ob, e _ _ h fun ps z => nomatch z⟩
  | .o h1 h2 h3 h4 => .o h1 h2 (e _ _ h3 fun ps z => by unfold SlX.SlO at z; cases z) (e _ _ h4 fun ps z => nomatch z)
theorem tpH_N {a : Addr} {xs : List V} (e : LamX.ExtN H H') (h : TpH K H a xs) : TpH K H' a xs := h.imp (fun z => e _ _ z fun ps z => nomatch z) fun z => ⟨z.1, sqT_N e z.2⟩
mutual
theorem Rp.monoN (e : LamX.ExtN H H') : ∀ {v : V} {d : PyData}, Rp K H v d → Rp K H' v d
  | _, _, .non => .non
  | _, _, .bl b => .bl b
  | _, _, .int i => .int i
  | _, _, .str x => .str x
  | _, _, .lst h r => .lst (sqL_N e h) (RpAll.monoN e r)
  | _, _, .tup h r => .tup (tpH_N e h) (RpAll.monoN e r)
  | _, _, .dic h r => .dic (h.monoN e) (RpKv.monoN e r)
theorem RpAll.monoN (e : LamX.ExtN H H') : ∀ {vs : List V} {ds : List PyData}, RpAll K H vs ds → RpAll K H' vs ds
  | _, _, .nil => .nil
  | _, _, .cons h r => .cons (Rp.monoN e h) (RpAll.monoN e r)
theorem RpKv.monoN (e : LamX.ExtN H H') : ∀ {vs : List (PyData × V)} {ds : List (PyData × PyData)}, RpKv K H vs ds → RpKv K H' vs ds
  | _, _, .nil => .nil
  | _, _, .cons h r => .cons (Rp.monoN e h) (RpKv.monoN e r)
end
theorem bagO_ne {b : Addr} (ps : Array Value) : BagO b ≠ .tbl ps := fun z => by
  unfold BagO at z
  cases z
theorem tabO_ne {b : Addr} (ps : Array Value) : TabO b ≠ .tbl ps := fun z => by
  unfold TabO at z
  cases z
theorem SlP.monoN (e : LamX.ExtN H H') {v : Option (Option V)} : ∀ {s : Option (Option Sl)}, SlP K H v s → SlP K H' v s
  | some (some (.dat d)), ⟨x, h, r⟩ => ⟨x, h, r.monoN e⟩
  | some (some .bag), ⟨b, h, r⟩ => ⟨b, h, e _ _ r bagO_ne⟩
  | some (some (.own _)), _ => trivial
  | some (some (.owd _ _)), _ => trivial
  | some (some (.tbl _)), _ => trivial
  | some (some (.pin _)), h => h
  | some none, _ => trivial
  | none, _ => trivial
structure FitN (K : PySem.W.Frag) (T : List Addr) (Tn : List (Addr × Str)) (σ : L2.St) (ρ : WEnv) (H : Hp) : Prop where
  p : FitP K T σ ρ H
  n : LamX.Tabs Tn H
theorem FitP.monoN {σ : L2.St} {ρ : WEnv} (F : FitP K T σ ρ H) (e : LamX.ExtN H H') : FitP K T σ ρ H' := ⟨F.len, fun i => (F.sl i).monoN e, fun P hP => e _ _ (F.tabs P hP) tabO_ne⟩
theorem FitN.go {σ : L2.St} {ρ : WEnv} (F : FitN K T Tn σ ρ H) (e : LamX.ExtN H H') (t : LamX.Tabs Tn H') : FitN K T Tn σ ρ H' := ⟨F.p.monoN e, t⟩
theorem XOk.mono {x : XD} {cls : Value} {d : Option Addr} (e : Ex H H') (h : XOk K mg H x cls d) : XOk K mg H' x cls d := by
  obtain ⟨n, z⟩ := x
  cases z with
  | none => exact h
  | some z =>
    obtain ⟨f, z⟩ := z
    obtain ⟨h1, dx, v, h2, h3, r⟩ := h
    exact ⟨h1, dx, v, h2, e _ _ h3, r.mono e⟩
end
structure MatN (K : PySem.W.Frag) (T : List Addr) (Tn : List (Addr × Str)) (H0 : Hp) (W : WD) (D : Ends) : Prop where
  nx : ∀ σ ρ H, LamX.ExtN H0 H → FitN K T Tn σ ρ H → W.nx ρ → D.nx σ H
  rt : ∀ v d H, LamX.ExtN H0 H → LamX.Tabs Tn H → Rp K H v d → W.rt d → D.rt v H
  bk : ∀ σ ρ H, LamX.ExtN H0 H → FitN K T Tn σ ρ H → W.bk ρ → D.bk σ H
  ct : ∀ σ ρ H, LamX.ExtN H0 H → FitN K T Tn σ ρ H → W.ct ρ → D.ct σ H
section
variable {K : PySem.W.Frag} {mg : Str → Option Value} {T : List Addr} {Tn : List (Addr × Str)} {te ta tb : TE} {tl : TA} {tt tu : TT} {t u : TS} {we wa wb : WE} {ct cu : WT} {ws wu : WS} {i n : Nat}
theorem MatN.ext {H0 H1 : Hp} {W : WD} {D : Ends} (M : MatN K T Tn H0 W D) (e : LamX.ExtN H0 H1) : MatN K T Tn H1 W D :=
  ⟨fun σ ρ H z => M.nx σ ρ H (e.trans z), fun v d H z => M.rt v d H (e.trans z), fun σ ρ H z => M.bk σ ρ H (e.trans z), fun σ ρ H z => M.ct σ ρ H (e.trans z)⟩
theorem FitN.set {σ : L2.St} {ρ : WEnv} {H : Hp} (F : FitN K T Tn σ ρ H) {v : V} {d : PyData} (r : Rp K H v d) : FitN K T Tn (σ.set i (some v)) (ρ.set i (some (.dat d))) H := ⟨F.p.set r, F.n⟩
theorem RpSs.mono' {H H' : Hp} (e : Ex H H') : ∀ {vs : List V} {ss : List Sl}, RpSs K H vs ss → RpSs K H' vs ss
  | _, _, .nil => .nil
  | _, _, .cons h r => .cons (h.mono e) (RpSs.mono' e r)
end
end DL
namespace DL
open PySem PySem.Spec PyProof.Rows L2 Evl
variable [CTab] [Base]
theorem takes_len {X : Cx} {W : WX} (tk : Takes X W) : Takes X (fun cls d σ H => σ.length = X.N.length → W cls d σ H) := fun u s' ⟨a, B, sI, pins, σ, H, cls, d, e, I, nb, up, sky, na, os, ag, w⟩ =>
  tk u s' ⟨a, B, sI, pins, σ, H, cls, d, e, I, nb, up, sky, na, os, ag, w I.len⟩
end DL
namespace DL
open PySem PySem.Spec PyProof.Rows L2 Evl
end DL
namespace DL
open PySem PySem.Spec PyProof.Rows L2 Evl
variable [CTab] [Base]
/-- a raising def where it raises nothing -/
theorem FnOk.calm {P : Program} {w : World} {K : PySem.W.Frag} {mg : Str → Option Value} {base : Heap} {CX : CXT} {k : Nat} {f : Addr} {fd : FuncData} {ps : List Str} {T : List Addr} {n : Nat} {wx : List Sl → (PyData → Prop) → WXP → Prop}
    (F : FnOk P w K mg base CX k f fd ps (spX K mg T n wx)) : FnOk P w K mg base CX k f fd ps (spW K T n (calmW wx)) := F.imp fun vs H Q E h => by
  obtain ⟨H0, ss, e, hT, r, hl, P, p, q⟩ := h
  exact ⟨H0, ss, e, hT, r, hl, P, _, p, q, fun _ _ _ _ _ _ _ z => z.elim⟩
/-- the facts of an own exception class, from what the end finds -/
def supC_mk {P : Program} {K : PySem.W.Frag} {B newId initId : String} {bmB : List Value} {C fI : Addr} {slf gv f : Str}
    {name qual : Str} {params : Arguments} {text : Str} {j : Nat} {p0 p1 p2 p3 p4 p5 p6 p7 p8 p9 : Pos} {scope : Scope} {dV kV doc pm : Value} {an : Option Addr} {cda : Addr} {ct : Value} {cc : Addr} {oc : Value} {od : Option Addr} {osl : Array (Option Value)} {pl : Addr → Sem Bool} {ccl : Value} {cdd : Option Addr} {vs : Array Value} {ccs : Array (Option Value)} {fl : Str} {tf : Tok} {cl : Value} {cld : Option Addr} {csl : Array (Option Value)}
    (FB : ExcBaseFacts B newId initId bmB) (SF : StoreFacts B bmB "object.__setattr__" "object") (KF : PySem.W.KxsFacts B initId)
    (ini : PySem.W.excInitIn K C bmB newId = true) (ovr : PySem.W.excOver K C bmB = true) (sa : PySem.W.findIn K (.ref C) "__setattr__" = some (some (.builtin "object.__setattr__")))
    (tak : PySem.W.takerIn K C f = some none) (nw : PySem.W.findIn K (.ref C) "__init__" = some (some (.ref fI))) (sup : PySem.W.ks_superIn K C C "__init__" = some (some (.builtin initId)))
    (hasD : (PySem.W.clsIn K C).map (·.hasDict) = some true) (own : PySem.W.mroIn K C (.ref C) = some true) (isB : PySem.W.subIn K (.ref C) (.type B) = some true) (exC : PySem.W.subIn K (.ref C) (.type "BaseException") = some true)
    (tyC : PySem.W.typeIn K (.ref C) = some (.type "type")) (kC : PySem.W.keepIn K (.ref C) = true) (tp : PySem.W.nsIn K cStatics "thirdparty.any" = some none)
    (fn : K.lookup fI = some ⟨oc, od, .func (PySem.W.ksFn name qual params (supBody text slf gv f j p0 p1 p2 p3 p4 p5 p6 p7 p8 p9) scope dV kV doc pm an (.ref cda) ct cc), osl⟩)
    (fnT : PySem.W.typeIn K (.ref fI) = some (.type "function")) (cod : PySem.W.codeIn K (.ref cda) qual = true)
    (hd : ∃ ar, (params.posonlyargs ++ params.args).head? = some ar ∧ ar.arg = slf)
    (fi1 : K.lookup cda = some ⟨ccl, cdd, .fields vs, ccs⟩) (fi2 : vs[2]? = some (.str fl tf)) (fi3 : ((P.main.file : Str) == fl) = true)
    (cel : K.lookup cc = some ⟨cl, cld, .cell (some (.ref C)), csl⟩)
    (bnd : ∀ (a u : Value), bindArgs (PySem.W.ksFn name qual params (supBody text slf gv f j p0 p1 p2 p3 p4 p5 p6 p7 p8 p9) scope dV kV doc pm an (.ref cda) ct cc) ⟨[a, u], []⟩ = pure [(slf, a), (gv, u)])
    (nSup : scope.names.lookup ("super" : Str) = some .globalImplicit) (nCls : scope.names.lookup ("__class__" : Str) = some .free) (nSlf : scope.names.lookup slf = some .local) (nGv : scope.names.lookup gv = some .local)
    (nGs : slf ≠ gv) (dSlf : (slf == ("__debug__" : Str)) = false) (dGv : (gv == ("__debug__" : Str)) = false) (noC : ∀ x ∈ scope.names, x.2 ≠ .cell)
    (kind : scope.kind = .function) (co : scope.isCoroutine = false) (gen : scope.isGenerator = false)
    (inter : ∀ L, interactive (PySem.W.ksEnv qual scope L fI (.ref cda) cc) = false)
    (sw1 : ∀ L, swapsWith (.Call (.Attribute (.Call (.Name "super" p0) [] [] p1) "__init__" p2) [.Constant (.str text) j p3] [] p4) none p5.line (PySem.W.ksEnv qual scope L fI (.ref cda) cc) = pure false)
    (sw2 : ∀ L, swapsWith (.Name gv p8) (some (.Attribute (.Name slf p6) f p7)) p9.line (PySem.W.ksEnv qual scope L fI (.ref cda) cc) = pure false)
    (evl : ∀ L, eval (.Call (.Attribute (.Call (.Name "super" p0) [] [] p1) "__init__" p2) [.Constant (.str text) j p3] [] p4) (PySem.W.ksEnv qual scope L fI (.ref cda) cc) = (do
      let ov ← attributeBase (.Call (.Name "super" p0) [] [] p1) "__init__" (PySem.W.ksEnv qual scope L fI (.ref cda) cc) (eval (.Call (.Name "super" p0) [] [] p1) (PySem.W.ksEnv qual scope L fI (.ref cda) cc))
      standAt p2.atName
      let (f, first) ← holding [ov] (getMethod ov "__init__" (pl L))
      callWith p4 f first (backTo p4 (starEach [.Constant (.str text) j p3] (PySem.W.ksEnv qual scope L fI (.ref cda) cc))) []))
    (sta : ∀ L, starEach [.Constant (.str text) j p3] (PySem.W.ksEnv qual scope L fI (.ref cda) cc) = [(false, eval (.Constant (.str text) j p3) (PySem.W.ksEnv qual scope L fI (.ref cda) cc))])
    (top : (P.main.scope.names.lookup ("super" : Str)).isSome = false) : SupC P K B newId initId bmB C fI slf gv f :=
  { FB, SF, KF, ini, ovr, sa, tak, nw, sup, hasD, own, isB, exC, tyC, kC, tp, name, qual, params, text, j, p := fun i => [p0, p1, p2, p3, p4, p5, p6, p7, p8, p9].getD i.val p0, scope, dV, kV, doc, pm, an, cda, ct, cc, oc, od, osl, fn, fnT, cod, hd, file := ⟨_, _, _, _, _, _, fi1, fi2, fi3⟩, cel := ⟨_, _, _, cel⟩, bnd, nSup, nCls, nSlf, nGv, nGs, dSlf, dGv, noC, kind, co, gen, inter, sw1, sw2, pl, evl, sta, top }
end DL
namespace DL
open PySem PySem.Spec PyProof.Rows L2 Evl
end DL
namespace DL
open PySem PySem.Spec PyProof.Rows L2 Evl
end DL
namespace DL
open PySem PySem.Spec PyProof.Rows L2 Evl
end DL
namespace DL
open PySem PySem.Spec PyProof.Rows L2 PySem.F
theorem store_KeyError : StoreFacts "KeyError" [.type "KeyError", .type "LookupError", .type "Exception", .type "BaseException", .type "object"] "object.__setattr__" "object" where
  mro := by kernel_rfl
  slot := .of (owner := "object") (n := "__setattr__") (by rw [typeLookup_type, builtinLookup_eq_fast]; kernel_rfl) (by decide +kernel) (by decide +kernel) (by decide +kernel)
    (by first | exact .inl (by decide +kernel) | exact .inr (by decide +kernel)) (by rw [isSubtype_type]; kernel_rfl)
  entry := entry_object_sa
  kind := by decide +kernel
  split := by decide +kernel
  hasOwner := by decide +kernel
  args := fun a b c => by unfold argsOk; kernel_rfl
  passes := fun self => by kernel_rfl
theorem kxs_KeyError : PySem.W.KxsFacts "KeyError" "KeyError.__init__" := ⟨by show builtinType _ = _; rw [builtinType_eq_fast]; kernel_rfl, by first | kernel_rfl | rfl⟩
/-- what is asked of the built-in __init__ of an own error's base -/
structure IniF (B initId : String) : Prop where
  init : Slot B "__init__" initId
  entry : entryFor table initId = some Builtin.«BaseException.__init__»
  kind : builtinKind initId = some .slot
  row : Manifest.signature? initId = some ⟨.positional, "*", B, .self, [⟨"args", .varPos, false⟩]⟩
  noStar : (B != "*") = true
theorem ini_KeyError : IniF "KeyError" "KeyError.__init__" where
  init := .of (owner := "KeyError") (n := "__init__") (by rw [typeLookup_type, builtinLookup_eq_fast]; kernel_rfl) (by decide +kernel) (by decide +kernel) (by decide +kernel)
    (by first | exact .inl (by decide +kernel) | exact .inr (by decide +kernel)) (by rw [isSubtype_type]; kernel_rfl)
  entry := entryFor_alias (id' := "BaseException.__init__") (by rw [fastTable_eq_tree]; kernel_rfl) (by first | rfl | decide +kernel) (by decide +kernel) (by rw [fastTable_eq_tree]; kernel_rfl)
  kind := by kernel_rfl
  row := by kernel_rfl
  noStar := by decide +kernel
abbrev KEYS : List Value := [.type "KeyError", .type "LookupError", .type "Exception", .type "BaseException", .type "object"]
section
variable {M : Model} {prog : Program} {w : World} {A : Around} {E : Value → Shared → Prop} {R : Result → Shared → Prop} {h : Heap} {g : Array GenState} {d : Drawn} {t : Nat} {os : OsState}
variable {nm q : Str} {C N : Addr} {bs bm : List Value} {hdct : Bool} {sn : List Str} {sub : List Value} {ab : Bool} {col : Option Bool} {dd : Option Addr} {k0 k1 k2 k3 k5 : Option Value}
theorem key_has (hT : ∀ X : String, bm.contains (.type X) = KEYS.contains (.type X)) (X : String) : (Value.ref C :: bm).contains (.type X) = KEYS.contains (.type X) := by
  rw [List.contains_cons, hT]
  rfl
theorem key_check (hT : ∀ X : String, bm.contains (.type X) = KEYS.contains (.type X)) {rest : List Value} {Q : Unit → Shared → Prop}
    (hC : h.get? C = some (excClassObj nm q C N bs bm hdct sn sub ab col dd k0 k1 k2 k3 k5 "LookupError.__new__")) (hq : Q () ⟨h, g, d, t, os⟩) : wpAny M A (checkBuiltinCall "LookupError.__new__" ⟨.ref C :: rest, []⟩) Q E ⟨h, g, d, t, os⟩ := by
  have F := excBase_LookupError
  have c1 : (Value.ref C :: bm).contains (.type "LookupError") = true := (key_has hT _).trans (by decide +kernel)
  have c2 := F.noStar
  simp only [checkBuiltinCall, F.newKind, F.newSplit, F.newRow]
  repeat (first | refine wpAny_loadPart_at hC ?_ | (refine wpAny_isSubtype_exc hC ?_; rw [c1]) | refine wpAny_staticBase_exc hC ?_ | refine wpAny_madeBy_exc hC ?_ | simp only [bne_self_eq_false, Bool.false_eq_true, if_false] | wp_step)
  exact hq
theorem key_new (hT : ∀ X : String, bm.contains (.type X) = KEYS.contains (.type X)) {rest : List Value}
    (hC : h.get? C = some (excClassObj nm q C N bs bm hdct sn sub ab col dd k0 k1 k2 k3 k5 "LookupError.__new__")) (hrest : rest.length ≤ sizeLine)
    (hq : R (.ok (.ret (.ref (h.objs.size + 1)))) ⟨(h.push (PySem.W.kdv_tup rest)).push (PySem.HandSPX.excO C h.objs.size), g, d, t, os⟩) :
    codeAny (model prog w) A (.builtin "LookupError.__new__" ⟨.ref C :: rest, []⟩) R ⟨h, g, d, t, os⟩ := by
  have F := excBase_LookupError
  have e0 := F.ends
  have c1 : (Value.ref C :: bm).contains (.type "LookupError") = true := (key_has hT _).trans (by decide +kernel)
  have c2 : (Value.ref C :: bm).contains (.type "AttributeError") = false := (key_has hT _).trans (by decide +kernel)
  have c3 : (Value.ref C :: bm).contains (.type "NameError") = false := (key_has hT _).trans (by decide +kernel)
  refine codeAny_builtinAt F.entry ?_
  unfold Builtin.«BaseException.__new__»
  refine PySem.wpAt_bind ?_
  show PySem.wpAt _ _ _ (stack >>= _) _ _ _
  refine PySem.wpAt_bind (PySem.wpAt_stack fun p below => PySem.wpAt_of_wpAny ?_)
  wp_walk
  refine PySem.wpAt_of_wpAny ?_
  rw [F.owner]
  repeat (first | with_reducible refine wpAny_madeHere_exc F.canon hC ?_ | with_reducible refine wpAny_loadPart_at hC ?_ | (with_reducible refine wpAny_isSubtype_exc hC ?_; first | rw [c1] | rw [c2] | rw [c3]) | wp_step)
  show R _ _
  rw [Heap.size_push]
  exact hq
theorem key_type_call (hT : ∀ X : String, bm.contains (.type X) = KEYS.contains (.type X)) {rest : List Value} {fI : Addr} {Q : Fin → Shared → Prop}
    (hC : h.get? C = some (excClassObj nm q C N bs bm hdct sn sub ab col dd k0 k1 k2 k3 k5 "LookupError.__new__"))
    (hi : PySem.W.Looks (model prog w) h (typeLookup (.ref C) "__init__") (some (.ref fI))) (hb : ∀ slf, PySem.W.Looks (model prog w) h (bindSpecial (.ref fI) slf) (.ref fI, [slf])) (hrest : rest.length ≤ sizeLine)
    (hq : codeAny (model prog w) A (.call (.ref fI) ⟨.ref (h.objs.size + 1) :: rest, []⟩)
      (fun r s' => match r with | .ok (.ret v) => v = .none ∧ Q (.done (.ret (.ref (h.objs.size + 1)))) s' | .ok _ => False | .error e => E e s')
      ⟨(h.push (PySem.W.kdv_tup rest)).push (PySem.HandSPX.excO C h.objs.size), g, d, t, os⟩) :
    wpAny (model prog w) A (Builtin.«type.__call__» ⟨.ref C :: rest, []⟩) Q E ⟨h, g, d, t, os⟩ := by
  repeat (first | with_reducible refine wpAny_loadPart_at hC ?_ | with_reducible refine wpAny_madeBy_exc hC ?_ | wp_step)
  refine codeAny_call_builtin_code (Code.quiet_builtin _ excBase_LookupError.quiet) (key_check hT hC ?_)
  refine key_new hT hC hrest ?_
  show wpAny _ _ _ _ _ _
  have k : ∀ b o, h.get? b = some o → ((h.push (PySem.W.kdv_tup rest)).push (PySem.HandSPX.excO C h.objs.size)).get? b = some o := fun b o e => Heap.get?_push_of_some _ (Heap.get?_push_of_some _ e)
  have c1 := k _ _ hC
  have c2 : ((h.push (PySem.W.kdv_tup rest)).push (PySem.HandSPX.excO C h.objs.size)).get? (h.objs.size + 1) = some (PySem.HandSPX.excO C h.objs.size) := by heap_get
  have c3 : (Value.ref C :: bm).contains (.ref C) = true := by simp
  have i1 := hi.keeps k
  have b1 := (hb (.ref (h.objs.size + 1))).keeps k
  unfold isInstance
  repeat (first | with_reducible refine wpAny_loadPart_at c2 ?_ | (with_reducible refine wpAny_isSubtype_exc c1 ?_; rw [c3]) | wp_step)
  show wpAny _ _ (typeLookup (.ref C) _) _ _ _
  refine i1.at ?_
  refine wpAny_holding (wpAny_bind (b1.at ?_))
  refine wpAny_bind (wpAny_call (codeAny_mono hq fun r s' z => ?_))
  rcases r with e | (v | _ | _ | _) <;> first | exact z | exact z.elim | skip
  obtain ⟨rfl, z⟩ := z
  first
    | exact wpAny_pure (wpAny_pure z)
    | (wp_walk; exact z)
theorem key_call (hT : ∀ X : String, bm.contains (.type X) = KEYS.contains (.type X)) {rest : List Value} {fI : Addr}
    (hC : h.get? C = some (excClassObj nm q C N bs bm hdct sn sub ab col dd k0 k1 k2 k3 k5 "LookupError.__new__"))
    (hi : PySem.W.Looks (model prog w) h (typeLookup (.ref C) "__init__") (some (.ref fI))) (hb : ∀ slf, PySem.W.Looks (model prog w) h (bindSpecial (.ref fI) slf) (.ref fI, [slf])) (hrest : rest.length ≤ sizeLine)
    (hq : codeAny (model prog w) (A.under (.builtin "type.__call__" ⟨.ref C :: rest, []⟩)) (.call (.ref fI) ⟨.ref (h.objs.size + 1) :: rest, []⟩) (PySem.W.InitBack (h.objs.size + 1) R)
      ⟨(h.push (PySem.W.kdv_tup rest)).push (PySem.HandSPX.excO C h.objs.size), g, d, t, os⟩) :
    codeAny (model prog w) A (.call (.ref C) ⟨rest, []⟩) R ⟨h, g, d, t, os⟩ := by
  have f1 := tc_lookup
  have f2 := tc_bind (.ref C)
  have hTy : (⟨h, g, d, t, os⟩ : Shared).TypeIs (.ref C) "type" := ⟨_, hC, rfl⟩
  refine codeAny_of_tree ?_
  show wpAny _ _ (callAny (.ref C) _) _ _ _
  repeat (any_goals (first | assumption | with_reducible refine wpAny_loadPart_at hC ?_ | wp_step))
  refine ⟨rfl, ?_⟩
  refine codeAny_call_builtin_at (Code.quiet_builtin _ (by decide +kernel)) entry_typeCall (wpAny_check_type_call_sub hC (key_type_call hT hC hi hb hrest ?_))
  refine codeAny_mono hq fun r s' z => ?_
  rcases r with e | (v | _ | _ | _) <;> exact z
theorem ini_check {B initId newId : String} (F : IniF B initId) {e : Addr} {oe : Obj} {rest : List Value} {Q : Unit → Shared → Prop}
    (hC : h.get? C = some (excClassObj nm q C N bs bm hdct sn sub ab col dd k0 k1 k2 k3 k5 newId)) (he : h.get? e = some oe) (hcls : oe.cls = .ref C) (hq : Q () ⟨h, g, d, t, os⟩) :
    wpAny M A (checkBoundCall initId ⟨.ref e :: rest, []⟩) Q E ⟨h, g, d, t, os⟩ := by
  have c1 := F.noStar
  simp only [checkBoundCall, F.kind, F.row]
  repeat (first | (with_reducible refine wpAny_loadPart_at he ?_; rw [hcls]) | with_reducible refine wpAny_loadPart_at hC ?_ | wp_step)
  refine wpAny_onRaise ?_
  rw [show ∀ (a b : String) (n : Nat), Bind.check ⟨.positional, "*", B, .self, [⟨"args", .varPos, false⟩]⟩ a b n (List.map (fun x => x.fst) ({ pos := Value.ref e :: rest } : Args).kw) = pure () from
    fun a b n => check_star_args _ _ _ _ _ _]
  exact wpAny_pure hq
end
end DL
namespace FSt
open PySem PySem.Spec PyProof.Rows L2
/-- what is asked of the kind, besides HeapKind -/
structure Kept {P : Program} {w : World} {κ : Type} [DecidableEq κ] (knd : HeapKind P w κ) : Prop where
  stays : ∀ {h h' : Heap} {k : κ} {a : Addr}, (∀ b o vs n, h.get? b = some o → o.data = .seq vs n → h'.get? b = some o) → knd.is h k a → knd.is h' k a
  cls : ∀ {A : Around} {E : Value → Shared → Prop} {s : Shared} {k : κ} {b : Addr} {Q : Bool → Shared → Prop}, knd.is s.heap k b → Q false s → wpAny (model P w) A (ofAClassStatement 8 (.ref b)) Q E s
  byv : ∀ {A : Around} {E : Value → Shared → Prop} {s : Shared} {k : κ} {b : Addr} {Q : Bool → Shared → Prop}, knd.is s.heap k b → (∀ v, Q v s) → wpAny (model P w) A (hashByValue 8 (.ref b)) Q E s
section
variable {P : Program} {w : World} {κ : Type} [DecidableEq κ] {knd : HeapKind P w κ} {A : Around} {E : Value → Shared → Prop} {s : Shared}
theorem Kept.all (T : Kept knd) {h h' : Heap} {k : κ} {b : Addr} (hk : ∀ c o, h.get? c = some o → h'.get? c = some o) (x : knd.is h k b) : knd.is h' k b := T.stays (fun c o _ _ e _ => hk c o e) x
/-- the entries of the members L -/
def ents (knd : HeapKind P w κ) (L : List (Addr × κ)) : List (Int × Value) := L.map fun p => (knd.hash p.2, Value.ref p.1)
def hashes (knd : HeapKind P w κ) (L : List (Addr × κ)) : List Int := L.map fun p => knd.hash p.2
theorem ents_len (L : List (Addr × κ)) : (ents knd L).length = L.length := List.length_map ..
theorem ents_get {L : List (Addr × κ)} {i : Nat} {p : Addr × κ} (h : L[i]? = some p) : (ents knd L)[i]? = some (knd.hash p.2, Value.ref p.1) := by
  unfold ents
  rw [List.getElem?_map, h]
  rfl
/-- the object of a set with the members L, in the order of its table -/
structure Obj1 (knd : HeapKind P w κ) (h : Heap) (a : Addr) (L : List (Addr × κ)) (o : Obj) (es : Array (Int × Value)) (ep : Nat) (t : SetTable) : Prop where
  get : h.get? a = some o
  ex : o.ExactSet
  dat : o.data = .set es ep t
  ent : es.toList = ents knd L
  tab : TabOk t (hashes knd L)
  nd : (L.map (·.2)).Nodup
  ld : w.params.followText "set-order" = true ∨ t.led = true
  room : L.length * 5 < t.mask * 3
  few : L.length < 64
variable {a : Addr} {L : List (Addr × κ)} {o : Obj} {es : Array (Int × Value)} {ep : Nat} {t : SetTable}
theorem Obj1.size {h : Heap} (R : Obj1 knd h a L o es ep t) : es.size = L.length := by
  rw [← Array.length_toList, R.ent, ents_len]
theorem Obj1.at {h : Heap} (R : Obj1 knd h a L o es ep t) {i : Nat} {p : Addr × κ} (hp : L[i]? = some p) : es[i]? = some (knd.hash p.2, Value.ref p.1) := by
  rw [← Array.getElem?_toList, R.ent]
  exact ents_get hp
/-- the c-th place of the way of k -/
abbrev pl (t : SetTable) (h : Int) (c : Nat) : SetTable.Probe := nth t.mask (runAt t.mask (SetTable.bits h % (t.mask + 1)) (SetTable.bits h)) c
end
end FSt
namespace FSt
open PySem PySem.Spec PyProof.Rows L2
end FSt
namespace FSt
open PySem PySem.Spec PyProof.Rows L2
end FSt
namespace FSt
open PySem PySem.Spec PyProof.Rows L2
end FSt
namespace FSt
open PySem PySem.Spec PyProof.Rows L2
mutual
/-- a datum as a key -/
def nkD : PyData → Option NestedKey
  | .none => some .none
  | .int i => some (.num i)
  | .str x => some (.text x)
  | .tuple ds => (nkAll ds).map .tup
  | _ => none
def nkAll : List PyData → Option (List NestedKey)
  | [] => some []
  | d :: ds => match nkD d, nkAll ds with
    | some k, some ks => some (k :: ks)
    | _, _ => none
end
/-- data that a set takes here: texts alone, or nested tuples alone -/
def setOk (ds : List PyData) : Prop := (∃ ss : List Str, ds = ss.map .str) ∨ ∀ d ∈ ds, ∃ k : List NestedKey, nkD d = some (.tup k) ∧ (NestedKey.tup k).depth ≤ 8
end FSt
namespace FSt
open PySem PySem.Spec PyProof.Rows L2
/-- the sorted list of data -/
def sortD (ds : List PyData) : List PyData := ds.mergeSort (PySem.W.dataLe false id)
def srtOk (ds : List PyData) : Prop := PySem.W.AllAlike ds ∧ (PySem.W.Sortable ds ∨ ds.length ≤ 1) ∧ ∀ d ∈ ds, d.depth ≤ 20 ∧ (nkD d).isSome = true
end FSt
namespace DL
open PySem PySem.Spec PyProof.Rows L2 Evl FSt
variable [CTab]
/-- the items of a list or a tuple -/
def seqD : PyData → Option (List PyData)
  | .list ds => some ds
  | .tuple ds => some ds
  | _ => none
section
variable {K : PySem.W.Frag} {T : List Addr} {w : World} {te : TE} {we : WE}
theorem Rp.seq {H : Hp} {v : V} {d : PyData} (r : Rp K H v d) {ds : List PyData} (h : seqD d = some ds) : ∃ a xs, v = .ref a ∧ (SqL K H a xs ∨ SqT K H a xs) ∧ RpAll K H xs ds := by
  cases r with
  | lst g r => cases h; exact ⟨_, _, rfl, .inl g, r⟩
  | tup g r => cases h; exact ⟨_, _, rfl, .inr g.sq, r⟩
  | non => cases h
  | bl _ => cases h
  | int _ => cases h
  | str _ => cases h
  | dic _ _ => cases h
/-- set(a), then what is asked of its members -/
def setOfW (a : WE) (k : List PyData → (PyData → Prop) → Prop) : WE := fun ρ Q => a ρ fun d => ∃ ds, seqD d = some ds ∧ setOk ds ∧ ds.length < 64 ∧ ∀ es : List PyData, es.Nodup → (∀ x, x ∈ es ↔ x ∈ ds) → k es Q
def lenSetW (a : WE) : WE := setOfW a fun es Q => Q (.int (es.length : Nat))
end
end DL
namespace FDc
open PySem PySem.Spec PyProof.Rows L2
/-- v[u] behind both, by what the kind's own method answers -/
theorem tail_of {prog : Program} {w : World} {A : Around} {E : Value → Shared → Prop} {s : Shared} {value slice : Expr} {v u : Value} {T id : String} {Q : Value → Shared → Prop} (hl : typeLookup (.type T) "__getitem__" = pure (some (.builtin id)))
    (hT : s.TypeIs v T) (hs : subscripted slice false v u = operate [v, u] (getItem v u)) (h : wpAny (model prog w) A (getItem v u) Q E s) : wpAny (model prog w) A (subscriptTail value slice v u) Q E s := by
  have fin : wpAny (model prog w) A (subscripted slice false v u) (fun r s' => wpAny (model prog w) A (letTemporaryGo value v r >>= fun _ => pure r) Q E s') E s :=
    hs ▸ wpAny_operating (thn h fun r s' q => wpAny_bind (wpAny_letTemporaryGo (wpAny_pure q)))
  unfold subscriptTail
  rw [getitemInPython_of_ne hT.not_modules]
  refine wpAny_bind (wpAny_bind (wpAny_specialOf hT hl ?_))
  first
    | exact wpAny_pure (wpAny_bind fin)
    | exact wpAny_bind (wpAny_pure (wpAny_bind fin))
    | exact wpAny_bind fin
section
variable {X : Cx}
def rDGet : R2 := fun x y H Q => ∃ a v, x = .ref a ∧ DGet H a y (some v) ∧ Q v H
def rDIn : R2 := fun y x H Q => ∃ a o, x = .ref a ∧ DGet H a y o ∧ Q (.bl o.isSome) H
theorem ix_dict (hu : X.A.units + 1 < cLine) : IxR X rDGet := by
  intro value slice pins s σ H x y v u Q I rx ry h hs
  obtain ⟨a, z, rfl, g, q⟩ := h
  cases rx
  exact tail_of PySem.F.slot_dict_getitem.lookup (dict_typeIs I g) hs (d_getItem hu I g ry fun w' s3 I3 rw' => ⟨z, H, I3, rw', q⟩)
theorem op_din (hu : X.A.units + 1 < cLine) : OpR X (compareOp .In) rDIn := by
  intro pins s σ H y x v u Q I ry rx h
  obtain ⟨a, o, rfl, g, q⟩ := h
  cases rx
  exact d_in hu I g ry fun s3 I3 => ⟨.bl o.isSome, H, I3, rfl, q⟩
/-- a dict's raw entries, locked -/
theorem raw_of {pins : List (Addr × Obj)} {σ : L2.St} {H : Hp} {s : Shared} {a : Addr} {n : Nat} (I : Inv X pins σ H s) (h : (∃ o, ∃ kvs : List (Key × V), H a = some (.frz o (.dK kvs)) ∧ kvs.length = n) ∨ ∃ o, ∃ kvs : List (List Key × V), H a = some (.frz o (.dT kvs)) ∧ kvs.length = n) :
    (a == sysModules) = false ∧ n ≤ sizeLine ∧ ∃ es ep, s.heap.DictRaw a es ep ∧ es.size = n := by
  rcases h with ⟨o, kvs, h, rfl⟩ | ⟨o, kvs, h, rfl⟩
  · obtain ⟨h1, h2, h3, es, ep, vs, h4, h5, _⟩ := I.frzK h
    exact ⟨h1, (dk_rd I.hok (.inr ⟨o, h⟩)).1, es, ep, ⟨o, h2, h3, h4⟩, h5⟩
  · obtain ⟨h1, h2, h3, es, ep, h4, h5, _⟩ := I.frzT h
    exact ⟨h1, (dt_rd I.hok (.inr ⟨o, h⟩)).1, es, ep, ⟨o, h2, h3, h4⟩, h5⟩
def rLenZ : List V → Hp → VK → Prop := fun xs H Q => ∃ a n, xs = [V.ref a] ∧ ((∃ o, ∃ kvs : List (Key × V), H a = some (.frz o (.dK kvs)) ∧ kvs.length = n) ∨ ∃ o, ∃ kvs : List (List Key × V), H a = some (.frz o (.dT kvs)) ∧ kvs.length = n) ∧ Q (.int (n : Nat)) H
theorem call_lenZ : CallR X (.builtin "len") rLenZ := by
  intro pins s σ H xs us Q I r h
  obtain ⟨a, n, rfl, ha, q⟩ := h
  rw [Vals.ref1 r]
  obtain ⟨h1, h2, es, ep, h3, h4⟩ := raw_of I ha
  have hz : n ≤ 16777216 := by rw [sizeLine_eq] at h2; exact h2
  refine call_len_slot (id := "dict.__len__") (n := (es.size : Nat)) h3.typeIs F.slot_dict_len (fun Q' q' => call_len_raw h1 h3 q') (by omega) (by omega) ⟨.int (n : Nat), H, (I.tok _).tok _, ⟨_, by rw [h4]⟩, q⟩
variable {e : Expr} {te : TE} {p apos cpos pos : Pos}
end
end FDc
namespace DL
open PySem PySem.Spec PyProof.Rows L2 Evl FDc
variable [CTab]
def keyF : PyData → Option Key
  | .int i => some (.inl i)
  | .str s => some (.inr s)
  | _ => none
def keyFs : List PyData → Option (List Key)
  | [] => some []
  | d :: ds => match keyF d, keyFs ds with
    | some k, some ks => some (k :: ks)
    | _, _ => none
inductive KeyX where
  | k (a : Key)
  | t (a : List Key)
def keyX : PyData → Option KeyX
  | .tuple [] => none
  | .tuple ds => (keyFs ds).map .t
  | d => (keyF d).map .k
theorem keyX_tup (d : PyData) (ds : List PyData) : keyX (.tuple (d :: ds)) = (keyFs (d :: ds)).map .t := rfl
theorem keyF_eq {d : PyData} {k : Key} (h : keyF d = some k) : d = kD k := by
  cases d <;> first | cases h | skip
  · rfl
  · rfl
theorem keyFs_eq : ∀ {ds : List PyData} {ks : List Key}, keyFs ds = some ks → ds = ks.map kD
  | [], ks, h => by cases h; rfl
  | d :: ds, ks, h => by
    unfold keyFs at h
    cases e1 : keyF d with
    | none => rw [e1] at h; cases h
    | some k =>
      cases e2 : keyFs ds with
      | none => rw [e1, e2] at h; cases h
      | some r =>
        rw [e1, e2] at h
        cases h
        rw [keyF_eq e1, keyFs_eq e2]
        rfl
theorem keyX_k {d : PyData} {k : Key} (h : keyX d = some (.k k)) : d = kD k := by
  cases d with
  | tuple ds =>
    cases ds with
    | nil => cases h
    | cons d ds =>
      rw [keyX_tup] at h
      cases e : keyFs (d :: ds) with
      | none => rw [e] at h; cases h
      | some r => rw [e] at h; cases h
  | int i => cases h; rfl
  | str i => cases h; rfl
  | _ => cases h
theorem keyX_t {d : PyData} {ks : List Key} (h : keyX d = some (.t ks)) : d = .tuple (ks.map kD) ∧ ks ≠ [] := by
  cases d with
  | tuple ds =>
    cases ds with
    | nil => cases h
    | cons d ds =>
      rw [keyX_tup] at h
      cases e : keyFs (d :: ds) with
      | none => rw [e] at h; cases h
      | some r =>
        rw [e] at h
        cases h
        have e2 := keyFs_eq e
        exact ⟨by rw [e2], fun z => by rw [z] at e2; cases e2⟩
  | int i => cases h
  | str i => cases h
  | _ => cases h
theorem eqv_kD (a b : Key) : PyData.eqv (kD a) (kD b) = decide (a = b) := by
  cases a <;> cases b <;> simp [kD, PyData.eqv] <;> rw [Bool.eq_iff_iff] <;> simp
theorem eqv_kDs : ∀ (a b : List Key), PyData.eqvAll (a.map kD) (b.map kD) = decide (a = b)
  | [], [] => by simp [PyData.eqvAll]
  | [], _ :: _ => by simp [PyData.eqvAll]
  | _ :: _, [] => by simp [PyData.eqvAll]
  | a :: as, b :: bs => by
    rw [List.map_cons, List.map_cons, PyData.eqvAll, eqv_kD, eqv_kDs as bs]
    rw [Bool.eq_iff_iff]
    simp
theorem eqv_kDt (a b : List Key) : PyData.eqv (.tuple (a.map kD)) (.tuple (b.map kD)) = decide (a = b) := by
  rw [PyData.eqv, eqv_kDs]
/-- the value at a key -/
def valD (kvs : List (PyData × PyData)) (k : PyData) : Option PyData := (kvs.find? fun p => PyData.eqv p.1 k).map (·.2)
def keysD (kvs : List (PyData × PyData)) : List PyData := kvs.map (·.1)
def samX : Option KeyX → Option KeyX → Bool
  | some (.k _), some (.k _) => true
  | some (.t _), some (.t _) => true
  | _, _ => false
def sameK : List (PyData × PyData) → PyData → Bool
  | (k, _) :: _, d => samX (keyX k) (keyX d)
  | [], _ => false
theorem sameK_cons (k v : PyData) (r : List (PyData × PyData)) (d : PyData) : sameK ((k, v) :: r) d = samX (keyX k) (keyX d) := rfl
section
variable {K : PySem.W.Frag} {H : Hp} {κ : Type} [DecidableEq κ] {kf : κ → PyData}
theorem rpkv_val (kf_eq : ∀ a b, PyData.eqv (kf a) (kf b) = decide (a = b)) : ∀ {kvs : List (κ × V)} {ds : List (PyData × PyData)}, RpKv K H (kvs.map fun p => (kf p.1, p.2)) ds → ∀ k, (valV kvs k = none ∧ valD ds (kf k) = none) ∨ ∃ v d, valV kvs k = some v ∧ valD ds (kf k) = some d ∧ Rp K H v d
  | [], _, .nil, k => .inl ⟨rfl, rfl⟩
  | p :: kvs, _, .cons r t, k => by
    unfold valV valD
    rw [List.find?_cons, List.find?_cons]
    rw [kf_eq]
    by_cases e : p.1 = k
    · rw [decide_eq_true e]
      exact .inr ⟨p.2, _, rfl, rfl, r⟩
    · rw [decide_eq_false e]
      exact rpkv_val kf_eq t k
theorem rpkv_keys : ∀ {kvs : List (PyData × V)} {ds : List (PyData × PyData)}, RpKv K H kvs ds → ds.map (·.1) = kvs.map (·.1)
  | _, _, .nil => rfl
  | _, _, .cons _ t => congrArg _ (rpkv_keys t)
theorem rpkv_len {kvs : List (PyData × V)} {ds : List (PyData × PyData)} (r : RpKv K H kvs ds) : kvs.length = ds.length := by
  have := congrArg List.length (rpkv_keys r)
  rw [List.length_map, List.length_map] at this
  exact this.symm
theorem rp_kD {v : V} {k : Key} (r : Rp K H v (kD k)) : v = kV k := by
  cases k with
  | inl i => cases r; rfl
  | inr s => cases r; rfl
theorem rp_kDs : ∀ {vs : List V} {ks : List Key}, RpAll K H vs (ks.map kD) → vs = ks.map kV
  | [], [], _ => rfl
  | _ :: _, _ :: _, .cons r t => by rw [rp_kD r, rp_kDs t]; rfl
/-- what stands for a dict that is no instance -/
theorem Rp.dict {v : V} {kvs : List (PyData × PyData)} (r : Rp K H v (.dict kvs)) (h : insB kvs = false) : ∃ a, v = .ref a ∧
    ((∃ ks : List (Key × V), Fz H a (.dK ks) ∧ RpKv K H (ks.map fun p => (kD p.1, p.2)) kvs) ∨ ∃ ks : List (List Key × V), Fz H a (.dT ks) ∧ RpKv K H (ks.map fun p => (.tuple (p.1.map kD), p.2)) kvs) := by
  cases r with
  | dic g r =>
    cases g with
    | k g => exact ⟨_, rfl, .inl ⟨_, g, r⟩⟩
    | t g => exact ⟨_, rfl, .inr ⟨_, g, r⟩⟩
    | o _ _ _ _ =>
      cases r
      cases h
theorem rp_key {v : V} {d : PyData} {ks : List Key} (r : Rp K H v d) (h : keyX d = some (.t ks)) : ∃ b, v = .ref b ∧ H b = some (.tup (ks.map kV)) := by
  obtain ⟨e, hn⟩ := keyX_t h
  rw [e] at r
  cases r with
  | tup g r =>
    rw [rp_kDs r] at g
    rcases g with g | ⟨g, _⟩
    · exact ⟨_, rfl, g⟩
    · exact absurd (List.map_eq_nil_iff.mp g) hn
theorem sameK_k {ks : List (Key × V)} {kvs : List (PyData × PyData)} (r : RpKv K H (ks.map fun p => (kD p.1, p.2)) kvs) {d : PyData} (h : sameK kvs d = true) : ∃ k, keyX d = some (.k k) := by
  cases ks with
  | nil => cases r; cases h
  | cons p ks =>
    cases r with
    | cons _ _ =>
      have e : keyX (kD p.1) = some (.k p.1) := by cases p.1 <;> rfl
      rw [sameK_cons, e] at h
      cases q : keyX d with
      | none => rw [q] at h; cases h
      | some x =>
        cases x with
        | k k => exact ⟨k, rfl⟩
        | t k => rw [q] at h; cases h
theorem keyX_kDt (ks : List Key) : keyX (.tuple (ks.map kD)) = none ∨ keyX (.tuple (ks.map kD)) = some (.t ks) := by
  have : keyFs (ks.map kD) = some ks := by
    induction ks with
    | nil => rfl
    | cons k ks ih =>
      rw [List.map_cons]
      unfold keyFs
      rw [ih]
      cases k <;> rfl
  cases ks with
  | nil => exact .inl rfl
  | cons k ks =>
    right
    rw [List.map_cons] at this ⊢
    rw [keyX_tup, this]
    rfl
theorem sameK_t {ks : List (List Key × V)} {kvs : List (PyData × PyData)} (r : RpKv K H (ks.map fun p => (.tuple (p.1.map kD), p.2)) kvs) {d : PyData} (h : sameK kvs d = true) : ∃ k, keyX d = some (.t k) := by
  cases ks with
  | nil => cases r; cases h
  | cons p ks =>
    cases r with
    | cons _ _ =>
      rw [sameK_cons] at h
      rcases keyX_kDt p.1 with e | e
      · rw [e] at h
        cases h
      rw [e] at h
      cases q : keyX d with
      | none => rw [q] at h; cases h
      | some x =>
        cases x with
        | t k => exact ⟨k, rfl⟩
        | k k => rw [q] at h; cases h
end
def dgetW : W2
  | .dict kvs, k, Q => insB kvs = false ∧ sameK kvs k = true ∧ ∃ d, valD kvs k = some d ∧ Q d
  | _, _, _ => False
def dinW : W2
  | k, .dict kvs, Q => insB kvs = false ∧ sameK kvs k = true ∧ Q (.bool (valD kvs k).isSome)
  | _, _, _ => False
def dniW : W2
  | k, .dict kvs, Q => insB kvs = false ∧ sameK kvs k = true ∧ Q (.bool (!(valD kvs k).isSome))
  | _, _, _ => False
section
variable {K : PySem.W.Frag} {T : List Addr}
/-- what a dict gives at a key of its kind -/
theorem dget_rp {H H1 : Hp} {v1 v2 : V} {kvs : List (PyData × PyData)} {k : PyData} (e : Ex H H1) (r1 : Rp K H v1 (.dict kvs)) (r2 : Rp K H v2 k) (hi : insB kvs = false) (hs : sameK kvs k = true) :
    ∃ a o, v1 = .ref a ∧ DGet H1 a v2 o ∧ ((o = none ∧ valD kvs k = none) ∨ ∃ v d, o = some v ∧ valD kvs k = some d ∧ Rp K H v d) := by
  obtain ⟨a, rfl, h⟩ := r1.dict hi
  rcases h with ⟨ks, f, r⟩ | ⟨ks, f, r⟩
  · obtain ⟨x, hx⟩ := sameK_k r hs
    have ek := keyX_k hx
    subst ek
    refine ⟨a, valV ks x, rfl, .inl ⟨ks, x, (fzEx e f).rd, rp_kD r2, rfl⟩, ?_⟩
    rcases rpkv_val eqv_kD r x with h | ⟨v, d, h1, h2, h3⟩
    · exact .inl h
    · exact .inr ⟨v, d, h1, h2, h3⟩
  · obtain ⟨x, hx⟩ := sameK_t r hs
    obtain ⟨b, rfl, hb⟩ := rp_key r2 hx
    have ek := (keyX_t hx).1
    subst ek
    refine ⟨a, valV ks x, rfl, .inr ⟨ks, x, b, (fzEx e f).rd, rfl, e _ _ hb, rfl⟩, ?_⟩
    rcases rpkv_val (kf := fun k : List Key => .tuple (k.map kD)) eqv_kDt r x with h | ⟨v, d, h1, h2, h3⟩
    · exact .inl h
    · exact .inr ⟨v, d, h1, h2, h3⟩
theorem ow_dget : OpW K rDGet dgetW := fun d e Q h => by
  unfold dgetW at h
  split at h
  · obtain ⟨hi, hs, d, hd, q⟩ := h
    intro v1 v2 H H1 ex r1 r2 Q' k
    obtain ⟨a, o, rfl, g, z⟩ := dget_rp ex r1 r2 hi hs
    rcases z with ⟨_, z⟩ | ⟨v, d', rfl, z, rv⟩
    · rw [hd] at z
      cases z
    · rw [hd] at z
      cases z
      exact ⟨a, v, rfl, g, k _ _ H H1 (Grow.refl ex) rv q⟩
  · exact h.elim
theorem isSome_of {H : Hp} {o : Option V} {x : Option PyData} (z : (o = none ∧ x = none) ∨ ∃ v d, o = some v ∧ x = some d ∧ Rp K H v d) : o.isSome = x.isSome := by
  rcases z with ⟨rfl, rfl⟩ | ⟨v, d, rfl, rfl, _⟩ <;> rfl
theorem ow_din : OpW K rDIn dinW := fun d e Q h => by
  unfold dinW at h
  split at h
  · obtain ⟨hi, hs, q⟩ := h
    intro v1 v2 H H1 ex r1 r2 Q' k
    obtain ⟨a, o, rfl, g, z⟩ := dget_rp ex r2 r1 hi hs
    exact ⟨a, o, rfl, g, k _ _ H H1 (Grow.refl ex) (.bl _) (by rw [isSome_of z]; exact q)⟩
  · exact h.elim
def rIxA (K : PySem.W.Frag) : R2 := fun x y H Q => rIx K x y H Q ∨ rDGet x y H Q
def rInA (K : PySem.W.Frag) : R2 := fun x y H Q => rInU K x y H Q ∨ rDIn x y H Q
def isDict : PyData → Bool
  | .dict _ => true
  | _ => false
def ixAW : W2 := fun d k Q => bif isDict d then dgetW d k Q else ixW d k Q
def inAW : W2 := fun k d Q => bif isDict d then dinW k d Q else inW k d Q
def niAW : W2 := fun k d Q => bif isDict d then dniW k d Q else niW k d Q
theorem kIxA {X : Cx} (h : X.K = K) (hu : X.A.units + 1 < cLine) : IxR X (rIxA K) := IxR.or (kIx h) (ix_dict hu)
theorem kInA {X : Cx} (h : X.K = K) (hu : X.A.units + 65 < cLine) : OpR X (compareOp .In) (rInA K) := opOr (kIn h hu) (op_din (by omega))
theorem ow_ixA : OpW K (rIxA K) ixAW := fun d e Q h => by
  unfold ixAW at h
  cases c : isDict d with
  | true => rw [c] at h; exact RD.r (ow_dget d e Q h)
  | false => rw [c] at h; exact RD.l (ow_ix d e Q h)
theorem ow_inA : OpW K (rInA K) inAW := fun d e Q h => by
  unfold inAW at h
  cases c : isDict e with
  | true => rw [c] at h; exact RD.r (ow_din d e Q h)
  | false => rw [c] at h; exact RD.l (ow_in d e Q h)
/-- len -/
theorem callOr {X : Cx} {f : Value} {r r' : List V → Hp → VK → Prop} (h : CallR X f r) (h' : CallR X f r') : CallR X f (fun xs H Q => r xs H Q ∨ r' xs H Q) := by
  intro pins s σ H xs us Q I rv q
  rcases q with q | q
  · exact h pins s σ H xs us Q I rv q
  · exact h' pins s σ H xs us Q I rv q
def rLenA (K : PySem.W.Frag) : List V → Hp → VK → Prop := fun xs H Q => rLen K xs H Q ∨ rLenZ xs H Q
theorem kLenA {X : Cx} (h : X.K = K) : CallR X (.builtin "len") (rLenA K) := callOr (kLen h) call_lenZ
def lenAW : W1
  | [.dict kvs], Q => insB kvs = false ∧ Q (.int (kvs.length : Nat))
  | ds, Q => lenW ds Q
theorem cw_lenA : CbW K (rLenA K) lenAW := fun ds Q h => by
  unfold lenAW at h
  split at h
  · obtain ⟨hi, q⟩ := h
    intro vs H H1 e r Q' k
    cases r with
    | cons r rr =>
      cases rr
      obtain ⟨a, rfl, g⟩ := r.dict hi
      refine .inr ⟨a, _, rfl, ?_, k _ _ H H1 (Grow.refl e) (.int _) q⟩
      rcases g with ⟨ks, ⟨o, f⟩, r⟩ | ⟨ks, ⟨o, f⟩, r⟩
      · exact .inl ⟨o, ks, e _ _ f, by rw [← rpkv_len r, List.length_map]⟩
      · exact .inr ⟨o, ks, e _ _ f, by rw [← rpkv_len r, List.length_map]⟩
  · intro vs H H1 e r Q' k
    exact .inl (cw_len _ Q h vs H H1 e r Q' k)
end
end DL
namespace FDc
open PySem PySem.Spec PyProof.Rows L2
section
variable {X : Cx}
theorem paired_at {α β : Type} {G : α → β → Prop} {l₁ : List α} {l₂ : List β} (h : Paired G l₁ l₂) : ∀ {i : Nat} {b : β}, l₂[i]? = some b → ∃ a, l₁[i]? = some a ∧ G a b := by
  induction h with
  | nil => intro i a e; simp at e
  | @cons a b l₁ l₂ r t ih =>
    intro i b' e
    cases i with
    | zero =>
      simp only [List.getElem?_cons_zero, Option.some.injEq] at e
      subst e
      exact ⟨a, rfl, r⟩
    | succ j =>
      simp only [List.getElem?_cons_succ] at e ⊢
      exact ih e
end
end FDc
namespace DL
open PySem PySem.Spec PyProof.Rows L2 Evl FDc
variable [CTab]
def putD (kvs : List (PyData × PyData)) (k v : PyData) : List (PyData × PyData) :=
  if (kvs.any fun p => PyData.eqv p.1 k) = true then kvs.map (fun p => if PyData.eqv p.1 k = true then (p.1, v) else p) else kvs ++ [(k, v)]
def mergeD (kvs more : List (PyData × PyData)) : List (PyData × PyData) := more.foldl (fun acc p => putD acc p.1 p.2) kvs
section
variable {K : PySem.W.Frag} {H : Hp} {κ : Type} [DecidableEq κ] {kf : κ → PyData}
theorem RpKv.append : ∀ {a b : List (PyData × V)} {c d : List (PyData × PyData)}, RpKv K H a c → RpKv K H b d → RpKv K H (a ++ b) (c ++ d)
  | _, _, _, _, .nil, s => s
  | _, _, _, _, .cons h r, s => .cons h (RpKv.append r s)
theorem rpkv_any (kf_eq : ∀ a b, PyData.eqv (kf a) (kf b) = decide (a = b)) : ∀ {kvs : List (κ × V)} {ds : List (PyData × PyData)}, RpKv K H (kvs.map fun p => (kf p.1, p.2)) ds → ∀ k, (ds.any fun p => PyData.eqv p.1 (kf k)) = kvs.any fun kv => decide (kv.1 = k)
  | [], _, .nil, k => rfl
  | p :: kvs, _, .cons r t, k => by
    rw [List.any_cons, List.any_cons, rpkv_any kf_eq t k, kf_eq]
theorem rpkv_repl (kf_eq : ∀ a b, PyData.eqv (kf a) (kf b) = decide (a = b)) {v : V} {d : PyData} (rv : Rp K H v d) : ∀ {kvs : List (κ × V)} {ds : List (PyData × PyData)}, RpKv K H (kvs.map fun p => (kf p.1, p.2)) ds → ∀ k,
    RpKv K H ((kvs.map fun kv => if kv.1 = k then (kv.1, v) else kv).map fun p => (kf p.1, p.2)) (ds.map fun p => if PyData.eqv p.1 (kf k) = true then (p.1, d) else p)
  | [], _, .nil, k => .nil
  | p :: kvs, _, .cons (d := d0) r t, k => by
    rw [List.map_cons, List.map_cons, List.map_cons]
    have e := kf_eq p.1 k
    by_cases c : p.1 = k
    · rw [if_pos c, if_pos (by rw [e]; exact decide_eq_true c)]
      exact .cons rv (rpkv_repl kf_eq rv t k)
    · rw [if_neg c, if_neg (by rw [e, decide_eq_false c]; exact Bool.false_ne_true)]
      exact .cons r (rpkv_repl kf_eq rv t k)
theorem rpkv_put (kf_eq : ∀ a b, PyData.eqv (kf a) (kf b) = decide (a = b)) {v : V} {d : PyData} (rv : Rp K H v d) {kvs : List (κ × V)} {ds : List (PyData × PyData)} (r : RpKv K H (kvs.map fun p => (kf p.1, p.2)) ds) (k : κ) :
    RpKv K H ((putK kvs k v).map fun p => (kf p.1, p.2)) (putD ds (kf k) d) := by
  unfold putK putD
  rw [rpkv_any kf_eq r k]
  by_cases c : (kvs.any fun kv => decide (kv.1 = k)) = true
  · rw [if_pos c, if_pos c]
    exact rpkv_repl kf_eq rv r k
  · rw [if_neg c, if_neg c, List.map_append]
    exact r.append (.cons rv .nil)
theorem rpkv_fold (kf_eq : ∀ a b, PyData.eqv (kf a) (kf b) = decide (a = b)) : ∀ {more : List (κ × V)} {ms : List (PyData × PyData)} {kvs : List (κ × V)} {ds : List (PyData × PyData)}, RpKv K H (more.map fun p => (kf p.1, p.2)) ms → RpKv K H (kvs.map fun p => (kf p.1, p.2)) ds →
    RpKv K H ((more.foldl (fun acc kv => putK acc kv.1 kv.2) kvs).map fun p => (kf p.1, p.2)) (mergeD ds ms)
  | [], _, _, _, .nil, r => r
  | p :: more, _, kvs, ds, .cons (d := d0) (ds := ms) rv t, r => by
    show RpKv K H _ (mergeD (putD ds (kf p.1) d0) ms)
    exact rpkv_fold kf_eq (kvs := putK kvs p.1 p.2) t (rpkv_put kf_eq rv r p.1)
theorem RpKv.mono' {H H' : Hp} (e : Ex H H') {a : List (PyData × V)} {b : List (PyData × PyData)} (r : RpKv K H a b) : RpKv K H' a b := RpKv.mono e r
end
def isKd (d : PyData) : Bool := match keyX d with
  | some (.k _) => true
  | _ => false
def isTd (d : PyData) : Bool := match keyX d with
  | some (.t _) => true
  | _ => false
theorem isKd_of {d : PyData} (h : isKd d = true) : ∃ k, keyX d = some (.k k) := by
  unfold isKd at h
  split at h
  · exact ⟨_, by assumption⟩
  · cases h
/-- pairs as data -/
def pairD : PyData → Option (PyData × PyData)
  | .tuple [k, v] => some (k, v)
  | _ => none
def prsD : List PyData → Option (List (PyData × PyData))
  | [] => some []
  | d :: ds => match pairD d, prsD ds with
    | some p, some r => some (p :: r)
    | _, _ => none
section
variable {K : PySem.W.Frag} {T : List Addr} {te : TE} {wl : WL} {we : WE}
def dictW (n : WL) : WE := fun ρ Q => n ρ fun ds => ∃ ps, prsD ds = some ps ∧ ((ps.all fun p => isKd p.1) = true ∨ (ps.all fun p => isTd p.1) = true) ∧ Q (.dict (mergeD [] ps))
def listAN (a : WE) : WL := fun ρ Q => a ρ fun d => match d with
  | .list ds => Q ds
  | .tuple ds => Q ds
  | .dict kvs => insB kvs = false ∧ Q (keysD kvs)
  | _ => False
def itemsN (a : WE) : WL := fun ρ Q => a ρ fun d => match d with
  | .dict (p :: kvs) => isKd p.1 = true ∧ Q ((p :: kvs).map fun p => .tuple [p.1, p.2])
  | _ => False
def valuesN (a : WE) : WL := fun ρ Q => a ρ fun d => match d with
  | .dict (p :: kvs) => isKd p.1 = true ∧ Q ((p :: kvs).map (·.2))
  | _ => False
end
end DL
namespace DL
open PySem PySem.Spec PyProof.Rows L2 Evl FDc FSt
variable [CTab]
def itemsA (a : WE) : WL := fun ρ Q => a ρ fun d => match d with
  | .list ds => Q ds
  | .tuple ds => Q ds
  | .str z => Q (z.cps.toList.map fun c => .str ⟨#[c]⟩)
  | .dict kvs => insB kvs = false ∧ Q (keysD kvs)
  | _ => False
section
variable {K : PySem.W.Frag} {T : List Addr} {te tk tv : TE} {tt : TT} {we wk wv : WE} {ct : WT}
/-- what stands while a new dict is filled -/
structure FilD {κ : Type} (mk : List (κ × V) → HO) (kf : κ → PyData) (K : PySem.W.Frag) (Hk H2 : Hp) (D : Addr) (Hm : Hp) (acc : List (PyData × PyData)) (H' : Hp) (xs : List (κ × V)) : Prop where
  e1 : Ex Hk Hm
  e2 : Ex Hm H'
  e3 : Ex H2 H'
  hm : Hm D = none
  fr : ∀ p o, Hm p = some o → Hk p = none → NT o → H2 p = none
  at' : H' D = some (mk xs)
  al : RpKv K Hm (xs.map fun p => (kf p.1, p.2)) acc
section
variable {κ : Type} [DecidableEq κ] {mk : List (κ × V) → HO} {kf : κ → PyData}
theorem FilD.grow (nt : ∀ xs, NT (mk xs)) {Hk H2 Hm H' Hm' H'' : Hp} {D : Addr} {acc : List (PyData × PyData)} {xs : List (κ × V)} (f : FilD mk kf K Hk H2 D Hm acc H' xs) (g : Grow Hm H' Hm' H'') : FilD mk kf K Hk H2 D Hm' acc H'' xs :=
  ⟨f.e1.trans g.known, g.sub, f.e3.trans g.all, g.unk f.hm f.at' (nt xs), fun p o h n t => by
    cases z : Hm p with
    | some u => exact f.fr p u z n (NT.of ((g.known p u z).symm.trans h) t)
    | none => exact ex_none f.e3 (g.fresh p o h z t), g.all _ _ f.at', f.al.mono' g.known⟩
end
end
end DL
namespace FSt
open PySem PySem.Spec PyProof.Rows L2
end FSt
namespace DL
open PySem PySem.Spec PyProof.Rows L2 Evl FDc FSt
variable [CTab]
abbrev WP2 := WEnv → (List (PyData × PyData) → Prop) → Prop
def pnilW : WP2 := fun _ Q => Q []
def pconsW (k v : WE) (r : WP2) : WP2 := fun ρ Q => k ρ fun a => v ρ fun b => r ρ fun ps => Q ((a, b) :: ps)
def dispW (w : WP2) : WE := fun ρ Q => w ρ fun ds => ds.length ≤ 15 ∧ (ds.all fun p => isKd p.1) = true ∧ Q (.dict (mergeD [] ds))
abbrev RpPs (K : PySem.W.Frag) (H : Hp) : List (V × V) → List (PyData × PyData) → Prop := Paired fun p d => Rp K H p.1 d.1 ∧ Rp K H p.2 d.2
def DPs (K : PySem.W.Frag) (T : List Addr) (trs : List (TE × TE)) (w : WP2) : Prop := ∀ σ ρ H, FitP K T σ ρ H → ∀ P, w ρ P → ∀ H1, Ex H H1 → ∀ Q : List (V × V) → Hp → Prop,
  (∀ ps ds Hk H2, Grow H H1 Hk H2 → RpPs K Hk ps ds → P ds → Q ps H2) → tPairs trs σ H1 Q
section
variable {K : PySem.W.Frag} {T : List Addr} {te tk tv : TE} {trs : List (TE × TE)} {we wk wv : WE} {wp : WP2}
theorem dps_nil : DPs K T [] pnilW := fun σ ρ H F P h H1 e Q q => q _ _ H H1 (Grow.refl e) .nil h
theorem dps_cons (hk : DE K T tk wk) (hv : DE K T tv wv) (hr : DPs K T trs wp) : DPs K T ((tk, tv) :: trs) (pconsW wk wv wp) := fun σ ρ H F P h H1 e Q q =>
  hk σ ρ H F _ h H1 e _ fun x a Hk H2 g r p => hv σ ρ Hk (F.mono g.known) _ p H2 g.sub _ fun y b Hk' H3 g' r' p' => hr σ ρ Hk' (F.mono (g.known.trans g'.known)) _ p' H3 g'.sub _ fun ps ds Hk'' H4 g'' r'' p'' =>
    q _ _ Hk'' H4 ((g.trans g').trans g'') (.cons ⟨r.mono (g'.known.trans g''.known), r'.mono g''.known⟩ r'') p''
theorem pps_K {H : Hp} : ∀ {ps : List (V × V)} {ds : List (PyData × PyData)}, RpPs K H ps ds → (ds.all fun p => isKd p.1) = true → ∃ kvs : List (Key × V), ps = kvs.map (fun kv => (kV kv.1, kv.2)) ∧ RpKv K H (kvs.map fun p => (kD p.1, p.2)) ds
  | _, _, .nil, _ => ⟨[], rfl, .nil⟩
  | _, _, .cons (a := p) (b := d) r t, ha => by
    rw [List.all_cons, Bool.and_eq_true] at ha
    obtain ⟨kvs, rfl, rk⟩ := pps_K t ha.2
    obtain ⟨k, hk⟩ := isKd_of ha.1
    have ek := keyX_k hk
    have r1 := r.1
    rw [ek] at r1
    have e1 := rp_kD r1
    refine ⟨(k, p.2) :: kvs, ?_, ?_⟩
    · rw [List.map_cons, ← e1]
    · have ed : d = (kD k, d.2) := Prod.ext ek rfl
      rw [ed]
      exact .cons r.2 rk
/-- a new dict laid ahead of other things, locked at the end -/
theorem grow_frz {H H1 Hk H2 : Hp} {p : Addr} {o u : HO} (e : Ex H H1) (hp : H1 p = none) (g : Grow H (upd H1 p o) Hk H2) (no : NT o) : Hk p = none ∧ H2 p = some o ∧ Grow H H1 (upd Hk p u) (upd H2 p u) := by
  have hk : Hk p = none := g.unk (ex_none e hp) upd_same no
  refine ⟨hk, g.all _ _ upd_same, ⟨g.known.trans (Ex.new hk), ex_upd g.sub p u, fun a o' z => ?_, fun a o' z n t => ?_⟩⟩
  · have ne : a ≠ p := fun q => by rw [q, hp] at z; cases z
    rw [upd_ne ne]
    exact g.all a o' (by rw [upd_ne ne]; exact z)
  · by_cases c : a = p
    · rw [c]
      exact hp
    · rw [upd_ne c] at z
      have := g.fresh a o' z n t
      rw [upd_ne c] at this
      exact this
theorem de_disp (h : DPs K T trs wp) : DE K T (tFrz (tDisp trs)) (dispW wp) := fun σ ρ H F P h2 H1 e Q q p hp => by
  refine h σ ρ H F _ h2 _ (e.trans (Ex.new hp)) _ fun ps ds Hk H2 g r ⟨hl, hk, p2⟩ => ?_
  obtain ⟨kvs, rfl, rk⟩ := pps_K r hk
  have no : NT (HO.dK []) := fun _ z => nomatch z
  obtain ⟨n1, n2, _⟩ := grow_frz (u := .dK []) e hp g no
  have hlen : kvs.length = ds.length := by
    have := rpkv_len rk
    rw [List.length_map] at this
    exact this
  refine ⟨n2, kvs, rfl, by omega, p, _, rfl, upd_same, trivial, fun od => ?_⟩
  rw [upd_upd]
  obtain ⟨_, _, gn⟩ := grow_frz (u := .frz od (.dK (mergeK [] kvs))) e hp g no
  exact q _ _ _ _ gn (.dic (.k ⟨od, upd_same⟩) ((rpkv_fold eqv_kD rk (kvs := []) .nil).mono' (Ex.new n1))) p2
def sortAN (a : WE) : WL := fun ρ Q => a ρ fun d => match d with
  | .list ds => srtOk ds ∧ ds.length ≤ 100000 ∧ Q (sortD ds)
  | .tuple ds => srtOk ds ∧ ds.length ≤ 100000 ∧ Q (sortD ds)
  | .dict (p :: kvs) => ∃ ks : List Str, keysD (p :: kvs) = ks.map .str ∧ ks.length < 64 ∧ Q (sortD (ks.map .str))
  | _ => False
end
end DL
namespace DL
open PySem PySem.Spec PyProof.Rows L2 Evl FDc FSt
variable [CTab]
/-- the slot i of an instance of the class nm -/
def fldD (nm : Str) (i : Nat) : PyData → Option PyData
  | .dict ((.none, .str n) :: kvs) => if n = nm then valD kvs (.int (i : Nat)) else none
  | _ => none
def attrW (nm : Str) (i : Nat) (a : WE) : WE := fun ρ Q => a ρ fun d => ∃ z, fldD nm i d = some z ∧ Q z
end DL
namespace DL
open PySem PySem.Spec PyProof.Rows L2 Evl FDc FSt
variable [CTab]
def makeW (nm : Str) (n : Nat) (w : List Sl → (List (PyData × PyData) → Prop) → Prop) (ws : WA) : WE := fun ρ Q => ws ρ fun ss => ss.length = n ∧ w ss fun ds => Q (.dict ((.none, .str nm) :: ds))
section
variable {K : PySem.W.Frag} {T : List Addr} {tl : TA} {ws : WA}
theorem RpSs.append {H : Hp} : ∀ {vs ws : List V} {ss ts : List Sl}, RpSs K H vs ss → RpSs K H ws ts → RpSs K H (vs ++ ws) (ss ++ ts)
  | _, _, _, _, .nil, s => s
  | _, _, _, _, .cons h r, s => .cons h (RpSs.append r s)
def withW (ds : List Sl) (ws : WA) : WA := fun ρ Q => ws ρ fun ss => Q (ss ++ ds)
end
end DL
namespace DL
open PySem PySem.Spec PyProof.Rows L2 Evl FDc FSt
variable [CTab] [Base]
def insF (i : Nat) (z : PyData) : List (PyData × PyData) → List (PyData × PyData)
  | [] => [(.int (i : Nat), z)]
  | (.int j, w) :: r => if j < (i : Nat) then (.int j, w) :: insF i z r else if j = (i : Nat) then (.int (i : Nat), z) :: r else (.int (i : Nat), z) :: (.int j, w) :: r
  | r => (.int (i : Nat), z) :: r
theorem setF_nones {n k : Nat} : setF n (List.replicate k none) = [] := by
  induction k generalizing n with
  | zero => rfl
  | succ k ih => exact ih
theorem setF_app : ∀ (vs ws : List (Option V)) (n : Nat), setF n (vs ++ ws) = setF n vs ++ setF (n + vs.length) ws
  | [], ws, n => rfl
  | some v :: vs, ws, n => by
    show (.int (n : Nat), v) :: setF (n + 1) (vs ++ ws) = _
    rw [setF_app vs ws (n + 1)]
    show _ = (.int (n : Nat), v) :: (setF (n + 1) vs ++ _)
    rw [List.length_cons, show n + 1 + vs.length = n + (vs.length + 1) by omega]
  | none :: vs, ws, n => by
    show setF (n + 1) (vs ++ ws) = _
    rw [setF_app vs ws (n + 1)]
    show _ = setF (n + 1) vs ++ _
    rw [List.length_cons, show n + 1 + vs.length = n + (vs.length + 1) by omega]
theorem setF_first {vs : List (Option V)} : ∀ {n : Nat}, ∀ p ∈ setF n vs, ∃ j : Nat, n ≤ j ∧ p.1 = .int (j : Nat) := by
  induction vs with
  | nil => intro n p h; cases h
  | cons o vs ih =>
    intro n p h
    cases o with
    | none =>
      obtain ⟨j, h1, h2⟩ := ih (n := n + 1) p h
      exact ⟨j, by omega, h2⟩
    | some v =>
      rcases List.mem_cons.mp h with rfl | h
      · exact ⟨n, Nat.le_refl _, rfl⟩
      · obtain ⟨j, h1, h2⟩ := ih (n := n + 1) p h
        exact ⟨j, by omega, h2⟩
section
variable {K : PySem.W.Frag} {H : Hp}
theorem insF_low {i : Nat} {z : PyData} {vs : List (Option V)} {n : Nat} {ds : List (PyData × PyData)} (h : i < n) (r : RpKv K H (setF n vs) ds) : insF i z ds = (.int (i : Nat), z) :: ds := by
  cases e : setF n vs with
  | nil =>
    rw [e] at r
    cases r
    rfl
  | cons p l =>
    obtain ⟨j, h1, h2⟩ := setF_first (vs := vs) (n := n) p (by rw [e]; exact List.mem_cons_self)
    rw [e] at r
    obtain ⟨k, v⟩ := p
    subst h2
    cases r with
    | cons r0 r =>
      have a1 : ¬ ((j : Nat) : Int) < (i : Nat) := by omega
      have a2 : ¬ ((j : Nat) : Int) = (i : Nat) := by omega
      unfold insF
      rw [if_neg a1, if_neg a2]
theorem setF_set : ∀ {vs : List (Option V)} {ds : List (PyData × PyData)} {n i : Nat} {v : V} {z : PyData}, RpKv K H (setF n vs) ds → Rp K H v z → i < vs.length → RpKv K H (setF n (vs.set i (some v))) (insF (n + i) z ds)
  | o :: vs, ds, n, 0, v, z, r, rv, h => by
    show RpKv K H ((.int (n : Nat), v) :: setF (n + 1) vs) _
    cases o with
    | none =>
      have r' : RpKv K H (setF (n + 1) vs) ds := r
      rw [insF_low (by omega) r']
      exact .cons rv r'
    | some w =>
      cases r with
      | cons r0 r =>
        unfold insF
        have a1 : ¬ ((n : Nat) : Int) < ((n + 0 : Nat) : Int) := by omega
        rw [if_neg a1, if_pos (by rfl)]
        exact .cons rv r
  | o :: vs, ds, n, i + 1, v, z, r, rv, h => by
    have ih := fun ds' (r' : RpKv K H (setF (n + 1) vs) ds') => setF_set (vs := vs) (ds := ds') (n := n + 1) (i := i) (v := v) (z := z) r' rv (by simpa using h)
    have e : n + 1 + i = n + (i + 1) := by omega
    rw [e] at ih
    cases o with
    | none => exact ih ds r
    | some w =>
      cases r with
      | cons r0 r =>
        unfold insF
        have a1 : ((n : Nat) : Int) < ((n + (i + 1) : Nat) : Int) := by omega
        rw [if_pos a1]
        exact .cons r0 (ih _ r)
theorem rpkv_putS {vs : List (Option V)} {ds : List (PyData × PyData)} {i : Nat} {v : V} {z : PyData} (r : RpKv K H (setF 0 vs) ds) (rv : Rp K H v z) : RpKv K H (setF 0 (SlX.putS i v vs)) (insF i z ds) := by
  unfold SlX.putS
  have r' : RpKv K H (setF 0 (vs ++ List.replicate (i + 1 - vs.length) none)) ds := by
    rw [setF_app, setF_nones, List.append_nil]
    exact r
  have := setF_set (n := 0) (i := i) r' rv (by rw [List.length_append, List.length_replicate]; omega)
  rwa [Nat.zero_add] at this
end
structure FitI (K : PySem.W.Frag) (T : List Addr) (C : Addr) (B B1 : Hp) (x dx : Addr) (σ : L2.St) (ρ : WEnv) (H H1 : Hp) (fs : List (Option V)) (ds : List (PyData × PyData)) : Prop where
  p : FitP K T σ ρ H
  self : σ[0]? = some (some (.ref x))
  known : Ex B H
  sub : Ex H H1
  nx : H x = none
  nd : H dx = none
  ne : dx ≠ x
  sl : SlX.Slt H1 x C dx fs
  hd : ∃ o, H1 dx = some o ∧ NT o
  all : ∀ a o, a ≠ x → a ≠ dx → B1 a = some o → H1 a = some o
  fresh : ∀ a o, H a = some o → B a = none → NT o → B1 a = none
  al : RpKv K H (setF 0 fs) ds
abbrev WN := WEnv → List (PyData × PyData) → Prop
abbrev WI := WN → WEnv → List (PyData × PyData) → Prop
section
variable {K : PySem.W.Frag} {T : List Addr} {C : Addr} {t u : TS} {tt : TT} {te : TE} {wa wb : WI} {ct : WT} {we : WE}
theorem slO_nt {a C dx : Addr} {vs : List (Option V)} : NT (SlX.SlO a C dx vs) := fun _ z => by
  unfold SlX.SlO at z
  cases z
theorem FitI.hx {B B1 : Hp} {x dx : Addr} {σ : L2.St} {ρ : WEnv} {H H1 : Hp} {fs : List (Option V)} {ds : List (PyData × PyData)} (F : FitI K T C B B1 x dx σ ρ H H1 fs ds) : ∃ o, H1 x = some o ∧ NT o := by
  rcases F.sl with ⟨h, _⟩ | ⟨h, _⟩
  · exact ⟨_, h, fun _ z => nomatch z⟩
  · exact ⟨_, h, slO_nt⟩
theorem FitI.grow {B B1 : Hp} {x dx : Addr} {σ : L2.St} {ρ : WEnv} {H H1 Hk H2 : Hp} {fs : List (Option V)} {ds : List (PyData × PyData)} (F : FitI K T C B B1 x dx σ ρ H H1 fs ds) (g : Grow H H1 Hk H2) : FitI K T C B B1 x dx σ ρ Hk H2 fs ds := by
  obtain ⟨ox, hx, tx⟩ := F.hx
  obtain ⟨od, hd, td⟩ := F.hd
  have nx : Hk x = none := g.unk F.nx hx tx
  have nd : Hk dx = none := g.unk F.nd hd td
  refine ⟨F.p.mono g.known, F.self, F.known.trans g.known, g.sub, nx, nd, F.ne, ?_, ⟨od, g.all _ _ hd, td⟩, fun a o h1 h2 z => g.all a o (F.all a o h1 h2 z), fun a o z n t => ?_, F.al.mono' g.known⟩
  · rcases F.sl with ⟨h, e⟩ | ⟨h, h2⟩
    · exact .inl ⟨g.all _ _ h, e⟩
    · exact .inr ⟨g.all _ _ h, g.all _ _ h2⟩
  · have c1 : a ≠ x := fun c => by rw [c, nx] at z; cases z
    have c2 : a ≠ dx := fun c => by rw [c, nd] at z; cases z
    cases q : H a with
    | some u => exact F.fresh a u q n (NT.of ((g.known a u q).symm.trans z) t)
    | none =>
      have := g.fresh a o z q t
      cases b : B1 a with
      | none => rfl
      | some o' => rw [F.all a o' c1 c2 b] at this; cases this
/-- a slot is put -/
theorem FitI.put {B B1 : Hp} {x dx : Addr} {σ : L2.St} {ρ : WEnv} {H H1 : Hp} {fs : List (Option V)} {ds : List (PyData × PyData)} (F : FitI K T C B B1 x dx σ ρ H H1 fs ds) {i : Nat} {v : V} {z : PyData} (r : Rp K H v z) :
    FitI K T C B B1 x dx σ ρ H (SlX.slH H1 x C dx (SlX.putS i v fs)) (SlX.putS i v fs) (insF i z ds) := by
  have ex : Ex H (SlX.slH H1 x C dx (SlX.putS i v fs)) := fun a o h => by
    have c1 : a ≠ x := fun c => by rw [c, F.nx] at h; cases h
    have c2 : a ≠ dx := fun c => by rw [c, F.nd] at h; cases h
    rw [SlX.slH_ne c1 c2]
    exact F.sub a o h
  refine ⟨F.p, F.self, F.known, ex, F.nx, F.nd, F.ne, SlX.slH_slt F.ne, ⟨.xd [], ?_, fun _ z => nomatch z⟩, fun a o h1 h2 z => ?_, F.fresh, rpkv_putS F.al r⟩
  · unfold SlX.slH
    rw [upd_ne F.ne, upd_same]
  · rw [SlX.slH_ne h1 h2]
    exact F.all a o h1 h2 z
end
end DL
namespace FDc
open PySem PySem.Spec PyProof.Rows L2
section
variable {P : Program} {w : World} {A : Around} {E : Value → Shared → Prop} {s : Shared} {a b : Addr} {es es' : Array DictEntry} {ep ep' : Nat}
/-- what the search for the i-th key of one dict in the other one finds, and how the values compare -/
def StepAt (P : Program) (w : World) (A : Around) (s : Shared) (b : Addr) (es es' : Array DictEntry) (i : Nat) (r : Bool) : Prop :=
  ∃ e o, es[i]? = some e ∧ (∀ (E : Value → Shared → Prop) (Q : Option Nat → Shared → Prop), Q o s → wpAny (model P w) A (dictFind b e.key e.hash) Q E s) ∧
    ((o = none ∧ r = false) ∨ ∃ j f, o = some j ∧ es'[j]? = some f ∧ SeqAt.EqAt A s e.val f.val r)
theorem same_raw {nm : String} {Q : Bool → Shared → Prop} (ha : (a == sysModules) = false) (hb : (b == sysModules) = false) (da : s.heap.DictRaw a es ep) (db : s.heap.DictRaw b es' ep') (res : Nat → Bool)
    (step : es.size = es'.size → ∀ i, i < es.size → StepAt P w A s b es es' i (res i)) (h : Q (es.size == es'.size && (List.range es.size).all res) s) : wpAny (model P w) A (Builtin.Dict.samePairs nm a b) Q E s := by
  obtain ⟨oa, hoa, _, hda⟩ := da
  obtain ⟨ob, hob, _, hdb⟩ := db
  unfold Builtin.Dict.samePairs Builtin.Dict.showsAll
  rw [if_neg (by rw [ha]; exact Bool.false_ne_true), if_neg (by rw [hb]; exact Bool.false_ne_true)]
  refine wpAny_bind (wpAny_pure (wpAny_bind (wpAny_pure (wpAny_bind (wpAny_dictEntries hoa hda ?_)))))
  dsimp only
  refine wpAny_bind (wpAny_dictEntries hob hdb ?_)
  by_cases hz : es.size = es'.size
  case neg =>
    have e : (es.size == es'.size) = false := beq_eq_false_iff_ne.mpr hz
    rw [e, Bool.false_and] at h
    rw [if_pos (by simpa using hz)]
    exact wpAny_bind (wpAny_rule (wpAny_pure h))
  have e : (es.size == es'.size) = true := beq_iff_eq.mpr hz
  rw [e, Bool.true_and] at h
  rw [if_neg (by simpa using hz)]
  refine wpAny_bind (wpAny_dictEpoch hoa hda (wpAny_bind ?_))
  rw [Std.Legacy.Range.forIn_eq_forIn_range']
  simp only [Std.Legacy.Range.size, Nat.sub_zero, Nat.add_sub_cancel, Nat.div_one]
  refine wpAny_forIn_list _ (fun rest q s' => s' = s ∧ q = (none, ()) ∧ ∃ i, i ≤ es.size ∧ rest = List.range' i (es.size - i) ∧ (List.range es.size).all res = rest.all res) _ ?_ ?_ _ _ ⟨rfl, rfl, 0, Nat.zero_le _, by simp, by rw [List.range_eq_range']⟩
  · rintro x rest q s' ⟨rfl, rfl, i, hi, hr, hall⟩
    have hlt : i < es.size := by
      by_cases c : i < es.size
      · exact c
      · rw [Nat.sub_eq_zero_of_le (by omega)] at hr
        cases hr
    rw [show es.size - i = (es.size - (i + 1)) + 1 by omega, List.range'_succ] at hr
    injection hr with h1 h2
    subst h1
    obtain ⟨en, o, he, hf, ho⟩ := step hz x hlt
    refine wpAny_bind (wpAny_dictEntries hoa hda ?_)
    rw [he]
    rw [List.all_cons] at hall
    have done : res x = false → Q false s' := fun z => by rw [hall, z, Bool.false_and] at h; exact h
    show wpAny _ _ (holding [en.key, en.val] _ >>= _) _ _ _
    refine wpAny_bind (wpAny_holding (wpAny_bind (hf _ _ ?_)))
    rcases ho with ⟨rfl, hr0⟩ | ⟨j, f, rfl, hj, eq⟩
    · refine wpAny_pure ?_
      show wpAny _ _ (if (!false) = true then _ else _) _ _ _
      rw [if_pos (by decide)]
      exact wpAny_pure (wpAny_pure (done hr0))
    · refine wpAny_bind (wpAny_dictEntries hob hdb ?_)
      rw [hj]
      refine wpAny_holding (eq _ _ _ _ ?_)
      cases hrx : res x with
      | false =>
        show wpAny _ _ (if (!false) = true then _ else _) _ _ _
        rw [if_pos (by decide)]
        exact wpAny_pure (wpAny_pure (done hrx))
      | true =>
        show wpAny _ _ (if (!true) = true then _ else _) _ _ _
        rw [if_neg (by decide)]
        refine wpAny_bind (wpAny_dictEpoch hoa hda ?_)
        rw [if_neg (by simp)]
        exact wpAny_pure ⟨rfl, rfl, x + 1, hlt, h2, by rw [hall, hrx, Bool.true_and]⟩
  · rintro q s' ⟨rfl, rfl, i, hi, hr, hall⟩
    rw [hall] at h
    exact wpAny_pure h
theorem eq_raw {Q : Value → Shared → Prop} (hu : A.units < cLine) (ha : (a == sysModules) = false) (hb : (b == sysModules) = false) (da : s.heap.DictRaw a es ep) (db : s.heap.DictRaw b es' ep') (res : Nat → Bool)
    (step : es.size = es'.size → ∀ i, i < es.size → StepAt P w A.in1 s b es es' i (res i)) (h : Q (.bool (es.size == es'.size && (List.range es.size).all res)) s) : wpAny (model P w) A (compareOp .Eq (.ref a) (.ref b)) Q E s := by
  refine wpAny_richCompare_same_room (op := .Eq) da.typeIs db.typeIs F.slot_dict_eq (wpAny_call_entry F.slot_dict_eq da.typeIs F.entry_dict_eq ?_ (F.args_dict_eq_2 _ _)) hu
  show wpAny _ _ (Builtin.Dict.dictSlotArgs "__eq__" ⟨[.ref a, .ref b], []⟩ >>= _) _ _ s
  unfold Builtin.Dict.dictSlotArgs
  refine wpAny_bind (wpAny_bind (wpAny_notOrdered_dict da.typeIs (wpAny_pure (wpAny_bind (wpAny_isInstance (T := "dict") db.typeIs F.sub_dict_dict ?_)))))
  simp only [Bool.not_true, Bool.false_eq_true, if_false]
  refine wpAny_bind (wpAny_pure (wpAny_bind (wpAny_pure (wpAny_bind (same_raw ha hb da db res step (wpAny_pure ⟨_, rfl, (fun z => nomatch z), ?_⟩))))))
  simpa using h
theorem ne_raw {Q : Value → Shared → Prop} (hu : A.units < cLine) (ha : (a == sysModules) = false) (hb : (b == sysModules) = false) (da : s.heap.DictRaw a es ep) (db : s.heap.DictRaw b es' ep') (res : Nat → Bool)
    (step : es.size = es'.size → ∀ i, i < es.size → StepAt P w A.in1 s b es es' i (res i)) (h : Q (.bool (!(es.size == es'.size && (List.range es.size).all res))) s) : wpAny (model P w) A (compareOp .NotEq (.ref a) (.ref b)) Q E s := by
  refine wpAny_richCompare_same_room (op := .NotEq) da.typeIs db.typeIs F.slot_dict_ne (wpAny_call_entry F.slot_dict_ne da.typeIs F.entry_dict_ne ?_ (F.args_dict_ne_2 _ _)) hu
  show wpAny _ _ (Builtin.Dict.dictSlotArgs "__ne__" ⟨[.ref a, .ref b], []⟩ >>= _) _ _ s
  unfold Builtin.Dict.dictSlotArgs
  refine wpAny_bind (wpAny_bind (wpAny_notOrdered_dict da.typeIs (wpAny_pure (wpAny_bind (wpAny_isInstance (T := "dict") db.typeIs F.sub_dict_dict ?_)))))
  simp only [Bool.not_true, Bool.false_eq_true, if_false]
  refine wpAny_bind (wpAny_pure (wpAny_bind (wpAny_pure (wpAny_bind (same_raw ha hb da db res step (wpAny_pure ⟨_, rfl, (fun z => nomatch z), ?_⟩))))))
  simpa using h
end
end FDc
namespace DL
open PySem PySem.Spec PyProof.Rows L2 Evl FDc
variable [CTab]
/-- dicts as Python compares them -/
def hitD (b : List (PyData × PyData)) (p : PyData × PyData) : Bool := match valD b p.1 with
  | some d => PyData.eqv p.2 d
  | none => false
def eqvK (a b : List (PyData × PyData)) : Bool := a.length == b.length && a.all (hitD b)
def sameKs : List (PyData × PyData) → List (PyData × PyData) → Bool
  | (k, _) :: _, b => b.isEmpty || sameK b k
  | [], _ => true
def shpK (a : List (PyData × PyData)) : Bool := a.all fun p => SeqAt.shaped p.2
section
variable {X : Cx} {pins : List (Addr × Obj)} {σ : L2.St} {H : Hp} {s : Shared} {a b : Addr}
theorem rp_reads (I : Inv X pins σ H s) {v : V} {d : PyData} (r : Rp X.K H v d) (hs : SeqAt.shaped d = true) {u : Value} (rv : RelV v u) : ∃ as, Reads s.heap u d as := Dp.reads I d v u (r.dp (SeqAt.canLay_of_shaped hs)) rv
theorem eq_at (I : Inv X pins σ H s) {v v' : V} {d d' : PyData} (r : Rp X.K H v d) (r' : Rp X.K H v' d') (h : SeqAt.shaped d = true) (h' : SeqAt.shaped d' = true) {u u' : Value} (rv : RelV v u) (rv' : RelV v' u') {A : Around} (hu : A.in1.units + 64 < cLine) : SeqAt.EqAt A.in1 s u u' (PyData.eqv d d') := by
  obtain ⟨as, h1⟩ := rp_reads I r h rv
  obtain ⟨bs, h2⟩ := rp_reads I r' h' rv'
  exact PySem.W.keq_at h1 h2 h h' hu
theorem rpkv_at {K : PySem.W.Frag} {κ : Type} {kf : κ → PyData} : ∀ {kvs : List (κ × V)} {ds : List (PyData × PyData)} {i : Nat} {p : PyData × PyData}, RpKv K H (kvs.map fun p => (kf p.1, p.2)) ds → ds[i]? = some p → ∃ k v, kvs[i]? = some (k, v) ∧ p.1 = kf k ∧ Rp K H v p.2
  | [], _, _, _, .nil, h => by simp at h
  | q :: kvs, _, 0, p, .cons r _, h => by
    cases Option.some.inj h
    exact ⟨q.1, q.2, rfl, rfl, r⟩
  | q :: kvs, _, i + 1, p, .cons _ r, h => by
    obtain ⟨k, v, h1, h2⟩ := rpkv_at (i := i) r (by simpa using h)
    exact ⟨k, v, by simpa using h1, h2⟩
theorem valD_mem : ∀ {ds : List (PyData × PyData)} {k d : PyData}, valD ds k = some d → ∃ p ∈ ds, p.2 = d
  | p :: ds, k, d, h => by
    unfold valD at h
    rw [List.find?_cons] at h
    split at h
    · exact ⟨p, .head _, Option.some.inj h⟩
    · obtain ⟨q, h1, h2⟩ := valD_mem (ds := ds) (k := k) h
      exact ⟨q, .tail _ h1, h2⟩
theorem paired_ix {α β : Type} {G : α → β → Prop} : ∀ {l₁ : List α} {l₂ : List β}, Paired G l₁ l₂ → ∀ {i : Nat} {x : α}, l₁[i]? = some x → ∃ y, l₂[i]? = some y ∧ G x y
  | _, _, .nil, i, x, h => by simp at h
  | _, _, .cons r _, 0, x, h => by
    cases Option.some.inj h
    exact ⟨_, rfl, r⟩
  | _, _, .cons _ t, i + 1, x, h => by
    obtain ⟨y, h1, h2⟩ := paired_ix t (i := i) (by simpa using h)
    exact ⟨y, by simpa using h1, h2⟩
theorem find_of_idx {α : Type} {p : α → Bool} : ∀ {l : List α} {j : Nat}, l.findIdx? p = some j → l.find? p = l[j]?
  | [], j, h => by simp at h
  | x :: l, j, h => by
    rw [List.findIdx?_cons] at h
    rw [List.find?_cons]
    cases q : p x with
    | true =>
      rw [q] at h
      cases Option.some.inj h
      rfl
    | false =>
      rw [q] at h
      have h : (l.findIdx? p).map (· + 1) = some j := by simpa using h
      cases e : l.findIdx? p with
      | none => rw [e] at h; cases h
      | some m =>
        rw [e] at h
        cases Option.some.inj h
        rw [find_of_idx e]
        rfl
theorem step_K (I : Inv X pins σ H s) {o o' : Obj} {ks ks' : List (Key × V)} {kvs kvs' : List (PyData × PyData)} (fa : H a = some (.frz o (.dK ks))) (fb : H b = some (.frz o' (.dK ks'))) (ra : RpKv X.K H (ks.map fun p => (kD p.1, p.2)) kvs) (rb : RpKv X.K H (ks'.map fun p => (kD p.1, p.2)) kvs')
    (sa : shpK kvs = true) (sb : shpK kvs' = true) {A : Around} (hu : A.in1.units + 64 < cLine) {es es' : Array DictEntry} {ep ep' : Nat} (da : s.heap.DictRaw a es ep) (db : s.heap.DictRaw b es' ep') : ∀ i, i < es.size → ∃ p, kvs[i]? = some p ∧ StepAt X.prog X.w A.in1 s b es es' i (hitD kvs' p) := by
  intro i hi
  obtain ⟨_, g1, _, ea, epa, vs, d1, z1, kv, oa, esa, h1, _, h2, hka, hpa, _⟩ := I.frzK fa
  obtain ⟨_, g2, _, eb, epb, vs', d2, z2, kv', ob, esb, h1', _, h2', hkb, hpb, _⟩ := I.frzK fb
  obtain ⟨oa2, x1, _, x2⟩ := da
  obtain ⟨ob2, y1, y3, y2⟩ := db
  rw [h1] at x1
  cases x1
  rw [h2] at x2
  cases x2
  rw [h1'] at y1
  cases y1
  rw [h2'] at y2
  cases y2
  have lz : es.size = kvs.length := by
    have := rpkv_len ra
    rw [List.length_map] at this
    have l1 := hpa.length
    rw [Array.length_toList] at l1
    have l2 : ks.length = vs.length := Paired.length kv
    omega
  obtain ⟨p, hp⟩ : ∃ p, kvs[i]? = some p := ⟨_, List.getElem?_eq_getElem (by omega)⟩
  refine ⟨p, hp, ?_⟩
  obtain ⟨k, v, hk, ek, rv⟩ := rpkv_at ra hp
  obtain ⟨u, hu', ru⟩ := kv_get kv hk
  have he : es[i]? = some es[i] := Array.getElem?_eq_getElem hi
  obtain ⟨hkey, hval⟩ := hpa.get? (i := i) (e := es[i]) (k := k) (v := u) (by rw [Array.getElem?_toList]; exact he) hu'
  obtain ⟨k', hk', hh⟩ := hka es[i] (Array.getElem_mem hi)
  have ekk : k' = k := (mixKind X.prog X.w).inj _ _ _ hk' hkey
  rw [ekk] at hh
  refine ⟨es[i], es'.findIdx? fun e => (mixKind X.prog X.w).is k e.key, he, fun E Q q => by rw [hh]; exact wpAny_dictFind_of hkey h1' h2' hkb q, ?_⟩
  have hsp : SeqAt.shaped p.2 = true := List.all_eq_true.mp sa p (List.mem_of_getElem? hp)
  have fnd : (es'.toList.findIdx? fun e => (mixKind X.prog X.w).is k e.key) = vs'.findIdx? fun kv => decide (kv.1 = k) := hpb.findIdx k
  have fe : (es'.findIdx? fun e => (mixKind X.prog X.w).is k e.key) = vs'.findIdx? fun kv => decide (kv.1 = k) := by
    rw [← fnd]
    obtain ⟨l⟩ := es'
    simp
  have rel := kv'.val k
  have dat := rpkv_val (K := X.K) (H := H) eqv_kD rb k
  rw [fe]
  unfold hitD
  rw [ek]
  cases hf : vs'.findIdx? fun kv => decide (kv.1 = k) with
  | none =>
    left
    refine ⟨rfl, ?_⟩
    have vn : valueAt vs' k = none := by
      unfold valueAt
      rw [List.find?_eq_none.mpr (fun x hx => by simpa using List.findIdx?_eq_none_iff.mp hf x hx)]
      rfl
    rw [vn] at rel
    have vv : valV ks' k = none := by
      cases q : valV ks' k with
      | none => rfl
      | some y => rw [q] at rel; exact rel.elim
    rcases dat with ⟨_, dn⟩ | ⟨v2, d2, e1, _⟩
    · rw [dn]
    · rw [vv] at e1
      cases e1
  | some j =>
    right
    obtain ⟨hj, hk1, _⟩ := List.findIdx?_eq_some_iff_getElem.mp hf
    have hkj : vs'[j].1 = k := by simpa using hk1
    have hfd : vs'.find? (fun kv => decide (kv.1 = k)) = some vs'[j] := by
      rw [find_of_idx hf]
      exact List.getElem?_eq_getElem hj
    have va : valueAt vs' k = some vs'[j].2 := by
      unfold valueAt
      rw [hfd]
      rfl
    rw [va] at rel
    obtain ⟨v2, hv2, rv2⟩ : ∃ v2, valV ks' k = some v2 ∧ RelV v2 vs'[j].2 := by
      cases q : valV ks' k with
      | none => rw [q] at rel; exact rel.elim
      | some y => rw [q] at rel; exact ⟨y, rfl, rel⟩
    rcases dat with ⟨vn, _⟩ | ⟨v3, d3, e1, e2, e3⟩
    · rw [vn] at hv2
      cases hv2
    · rw [hv2] at e1
      cases e1
      have hjz : j < es'.size := by
        have l1 := hpb.length
        rw [Array.length_toList] at l1
        omega
      obtain ⟨_, hval'⟩ := hpb.get? (i := j) (e := es'[j]) (k := vs'[j].1) (v := vs'[j].2) (by rw [Array.getElem?_toList]; exact Array.getElem?_eq_getElem hjz) (List.getElem?_eq_getElem hj)
      refine ⟨j, es'[j], rfl, Array.getElem?_eq_getElem hjz, ?_⟩
      rw [e2]
      obtain ⟨pq, hpq, epq⟩ := valD_mem e2
      have hsd : SeqAt.shaped d3 = true := by
        rw [← epq]
        exact List.all_eq_true.mp sb pq hpq
      rw [hval, hval']
      exact eq_at I rv e3 hsp hsd ru rv2 hu
theorem frzT_full {o : Obj} {kvs : List (List Key × V)} (I : Inv X pins σ H s) (h : H a = some (.frz o (.dT kvs))) : (a == sysModules) = false ∧ s.heap.get? a = some o ∧ ∃ (es : Array DictEntry) (ep : Nat) (xs : List (List Key × Addr × Value)), o.data = .dict es ep ∧
    Paired (fun (p : List Key × V) (q : List Key × Addr × Value) => p.1 = q.1 ∧ H q.2.1 = some (.tup (p.1.map kV)) ∧ RelV p.2 q.2.2) kvs xs ∧ es.toList = xs.map (entryOfKey (tupleKind (mixKind X.prog X.w))) ∧ (xs.map (·.1)).Nodup := by
  obtain ⟨hd, z, hs, xs, pr, o', es, ep, ho, hx, hdt, he, hn⟩ := I.hok a _ h
  rw [hd] at ho
  cases ho
  exact ⟨hs, hd, es, ep, xs, hdt, pr, he, hn⟩
theorem step_T (I : Inv X pins σ H s) {o o' : Obj} {ks ks' : List (List Key × V)} {kvs kvs' : List (PyData × PyData)} (fa : H a = some (.frz o (.dT ks))) (fb : H b = some (.frz o' (.dT ks'))) (ra : RpKv X.K H (ks.map fun p => (.tuple (p.1.map kD), p.2)) kvs) (rb : RpKv X.K H (ks'.map fun p => (.tuple (p.1.map kD), p.2)) kvs')
    (sa : shpK kvs = true) (sb : shpK kvs' = true) {A : Around} (hu : A.in1.units + 64 < cLine) {es es' : Array DictEntry} {ep ep' : Nat} (da : s.heap.DictRaw a es ep) (db : s.heap.DictRaw b es' ep') : ∀ i, i < es.size → ∃ p, kvs[i]? = some p ∧ StepAt X.prog X.w A.in1 s b es es' i (hitD kvs' p) := by
  intro i hi
  obtain ⟨_, g1, ea, epa, xs, d1, pra, hea, _⟩ := frzT_full I fa
  obtain ⟨_, g2, eb, epb, xs', d2, prb, heb, hnb⟩ := frzT_full I fb
  obtain ⟨oa2, x1, _, x2⟩ := da
  obtain ⟨ob2, y1, y3, y2⟩ := db
  rw [g1] at x1
  cases x1
  rw [d1] at x2
  cases x2
  rw [g2] at y1
  cases y1
  rw [d2] at y2
  cases y2
  have lz : es.size = kvs.length := by
    have := rpkv_len ra
    rw [List.length_map] at this
    have l1 : es.size = xs.length := size_of_entries hea
    have l2 : ks.length = xs.length := Paired.length pra
    omega
  obtain ⟨p, hp⟩ : ∃ p, kvs[i]? = some p := ⟨_, List.getElem?_eq_getElem (by omega)⟩
  refine ⟨p, hp, ?_⟩
  obtain ⟨k, v, hk, ek, rv⟩ := rpkv_at (kf := fun k : List Key => .tuple (k.map kD)) ra hp
  obtain ⟨q, hq, e1, e2, ru⟩ := paired_ix pra hk
  have he : es[i]? = some (entryOfKey (tupleKind (mixKind X.prog X.w)) q) := by
    rw [entry_at hea i, hq]
    rfl
  have e1 : k = q.1 := e1
  have hkey : (tupleKind (mixKind X.prog X.w)).is s.heap q.1 q.2.1 := key_of I.hok (by rw [← e1]; exact e2)
  have his : ∀ x ∈ xs', (tupleKind (mixKind X.prog X.w)).is s.heap x.1 x.2.1 := fun x hx => by
    obtain ⟨j, hj⟩ := List.mem_iff_getElem?.mp hx
    obtain ⟨y, _, z1, z2, _⟩ := paired_at prb hj
    exact key_of I.hok (by rw [← z1]; exact z2)
  have hroom : (tupleKind (mixKind X.prog X.w)).room A.in1 := by
    show A.in1.units < cLine
    omega
  have hsp : SeqAt.shaped p.2 = true := List.all_eq_true.mp sa p (List.mem_of_getElem? hp)
  have dat := rpkv_val (K := X.K) (H := H) (kf := fun k : List Key => .tuple (k.map kD)) eqv_kDt rb k
  unfold hitD
  rw [ek]
  cases hf : xs'.findIdx? fun x => decide (x.1 = k) with
  | none =>
    have no : ∀ (j : Nat) (z : Addr × Value), xs'[j]? ≠ some (q.1, z) := fun j z hz => by
      have := List.findIdx?_eq_none_iff.mp hf _ (List.mem_of_getElem? hz)
      rw [← e1] at this
      simp at this
    have vv : valV ks' k = none := by
      cases w : valV ks' k with
      | none => rfl
      | some y =>
        exfalso
        have w' := w
        unfold valV at w'
        obtain ⟨pr, h1, h2⟩ := Option.map_eq_some_iff.mp w'
        obtain ⟨j, hj⟩ := List.mem_iff_getElem?.mp (List.mem_of_find?_eq_some h1)
        obtain ⟨x, hx, z1, _⟩ := paired_ix prb hj
        have hk2 : pr.1 = k := by simpa using List.find?_some h1
        exact no j x.2 (by rw [hx]; exact congrArg some (Prod.ext (z1.symm.trans (hk2.trans e1)) rfl))
    refine ⟨_, none, he, fun E Q z => wpAny_dictFind_heap hroom hkey g2 d2 heb his hnb (fun _ => z) (fun j pz hz => absurd hz (no j pz)), .inl ⟨rfl, ?_⟩⟩
    rcases dat with ⟨_, dn⟩ | ⟨v2, d2, e3, _⟩
    · have dn : valD kvs' (.tuple (k.map kD)) = none := dn
      rw [dn]
    · rw [vv] at e3
      cases e3
  | some j =>
    obtain ⟨hj, hk1, hmin⟩ := List.findIdx?_eq_some_iff_getElem.mp hf
    have hkj : xs'[j].1 = k := by simpa using hk1
    have hxj : xs'[j]? = some xs'[j] := List.getElem?_eq_getElem hj
    obtain ⟨y, hy, z1, z2, z3⟩ := paired_at prb hxj
    have uniq : ∀ (j' : Nat) (pz : Addr × Value), xs'[j']? = some (q.1, pz) → j' = j := fun j' pz hz => by
      have h1 : (xs'.map (·.1))[j']? = some k := by rw [List.getElem?_map, hz, e1]; rfl
      have h2 : (xs'.map (·.1))[j]? = some k := by rw [List.getElem?_map, hxj, ← hkj]; rfl
      exact (List.getElem?_inj (List.getElem?_eq_some_iff.mp h1).1 hnb).mp (h1.trans h2.symm)
    refine ⟨_, some j, he, fun E Q z => wpAny_dictFind_heap hroom hkey g2 d2 heb his hnb (fun h => absurd (show xs'[j]? = some (q.1, xs'[j].2) by rw [hxj]; exact congrArg some (Prod.ext (hkj.trans e1) rfl)) (h j _)) (fun j' pz hz => by rw [uniq j' pz hz]; exact z), .inr ⟨j, entryOfKey (tupleKind (mixKind X.prog X.w)) xs'[j], rfl, by rw [entry_at heb j, hxj]; rfl, ?_⟩⟩
    -- the value there
    have vy : valV ks' k = some y.2 := by
      have nd : (ks'.map (·.1)).Nodup := by
        have : ks'.map (·.1) = xs'.map (·.1) := by
          clear hf hk1 hmin hkj hxj hy z1 z2 z3 uniq dat his heb hnb rb fb hj
          induction prb with
          | nil => rfl
          | cons r _ ih => rw [List.map_cons, List.map_cons, ih, r.1]
        rw [this]
        exact hnb
      have hyk : y.1 = k := z1.trans hkj
      have := val_nodup nd y (List.mem_of_getElem? hy)
      rw [hyk] at this
      exact this
    rcases dat with ⟨vn, _⟩ | ⟨v3, d3, w1, w2, w3⟩
    · rw [vn] at vy
      cases vy
    · rw [vy] at w1
      cases w1
      have w2 : valD kvs' (.tuple (k.map kD)) = some d3 := w2
      rw [w2]
      obtain ⟨pq, hpq, epq⟩ := valD_mem w2
      have hsd : SeqAt.shaped d3 = true := by
        rw [← epq]
        exact List.all_eq_true.mp sb pq hpq
      exact eq_at I rv w3 hsp hsd ru z3 hu
end
end DL
namespace DL
open PySem PySem.Spec PyProof.Rows L2 Evl FDc
variable [CTab]
/-- two told dicts of one kind -/
structure Two (K : PySem.W.Frag) (H : Hp) (x y : V) (kvs kvs' : List (PyData × PyData)) : Prop where
  r1 : Rp K H x (.dict kvs)
  r2 : Rp K H y (.dict kvs')
  i1 : insB kvs = false
  i2 : insB kvs' = false
  sk : sameKs kvs kvs' = true
  s1 : shpK kvs = true
  s2 : shpK kvs' = true
def rEqDD (K : PySem.W.Frag) : R2 := fun x y H Q => ∃ kvs kvs', Two K H x y kvs kvs' ∧ Q (.bl (eqvK kvs kvs')) H
def rNeDD (K : PySem.W.Frag) : R2 := fun x y H Q => ∃ kvs kvs', Two K H x y kvs kvs' ∧ Q (.bl (!eqvK kvs kvs')) H
section
variable {X : Cx}
theorem all_range {α : Type} (l : List α) (f : Nat → Bool) (g : α → Bool) (h : ∀ i (hi : i < l.length), f i = g l[i]) : (List.range l.length).all f = l.all g := by
  rw [Bool.eq_iff_iff, List.all_eq_true, List.all_eq_true]
  constructor
  · intro q x hx
    obtain ⟨i, hi, rfl⟩ := List.getElem_of_mem hx
    rw [← h i hi]
    exact q i (List.mem_range.mpr hi)
  · intro q i hi
    have hi := List.mem_range.mp hi
    rw [h i hi]
    exact q _ (List.getElem_mem hi)
/-- what the comparison finds -/
theorem two_steps {pins : List (Addr × Obj)} {σ : L2.St} {H : Hp} {s : Shared} {x y : V} {kvs kvs' : List (PyData × PyData)} (I : Inv X pins σ H s) (t : Two X.K H x y kvs kvs') (hu : X.A.units + 65 < cLine) :
    ∃ a b es ep es' ep' res, x = .ref a ∧ y = .ref b ∧ (a == sysModules) = false ∧ (b == sysModules) = false ∧ s.heap.DictRaw a es ep ∧ s.heap.DictRaw b es' ep' ∧ (es.size = es'.size → ∀ i, i < es.size → StepAt X.prog X.w X.A.in1 s b es es' i (res i)) ∧
      (es.size == es'.size && (List.range es.size).all res) = eqvK kvs kvs' := by
  obtain ⟨a, rfl, fa⟩ := t.r1.dict t.i1
  obtain ⟨b, rfl, fb⟩ := t.r2.dict t.i2
  have raw : ∀ {d : Addr} {kv : List (PyData × PyData)}, ((∃ ks : List (Key × V), Fz H d (.dK ks) ∧ RpKv X.K H (ks.map fun p => (kD p.1, p.2)) kv) ∨ ∃ ks : List (List Key × V), Fz H d (.dT ks) ∧ RpKv X.K H (ks.map fun p => (.tuple (p.1.map kD), p.2)) kv) →
      (d == sysModules) = false ∧ ∃ es ep, s.heap.DictRaw d es ep ∧ es.size = kv.length := fun {d kv} h => by
    rcases h with ⟨ks, ⟨o, f⟩, r⟩ | ⟨ks, ⟨o, f⟩, r⟩
    · obtain ⟨h1, _, es, ep, h3, h4⟩ := raw_of (n := kv.length) I (.inl ⟨o, ks, f, by rw [← rpkv_len r, List.length_map]⟩)
      exact ⟨h1, es, ep, h3, h4⟩
    · obtain ⟨h1, _, es, ep, h3, h4⟩ := raw_of (n := kv.length) I (.inr ⟨o, ks, f, by rw [← rpkv_len r, List.length_map]⟩)
      exact ⟨h1, es, ep, h3, h4⟩
  obtain ⟨ha, es, ep, da, za⟩ := raw fa
  obtain ⟨hb, es', ep', db, zb⟩ := raw fb
  have hu' : X.A.in1.units + 64 < cLine := by
    show X.A.units + 1 + 64 < cLine
    omega
  have e2 : (es.size == es'.size && (List.range es.size).all fun i => hitD kvs' (kvs.getD i (.none, .none))) = eqvK kvs kvs' := by
    unfold eqvK
    rw [za, zb, all_range kvs _ (hitD kvs') fun i hi => by rw [List.getD_eq_getElem?_getD, List.getElem?_eq_getElem hi]; rfl]
  refine ⟨a, b, es, ep, es', ep', fun i => hitD kvs' (kvs.getD i (.none, .none)), rfl, rfl, ha, hb, da, db, fun hz i hi => ?_, e2⟩
  have fin : (∃ p, kvs[i]? = some p ∧ StepAt X.prog X.w X.A.in1 s b es es' i (hitD kvs' p)) → StepAt X.prog X.w X.A.in1 s b es es' i (hitD kvs' (kvs.getD i (.none, .none))) := fun ⟨p, hp, st⟩ => by
    rw [List.getD_eq_getElem?_getD, hp]
    exact st
  have ne : kvs ≠ [] := fun z => by
    rw [z] at za
    rw [za] at hi
    exact absurd hi (Nat.not_lt_zero _)
  have ne' : kvs' ≠ [] := fun z => by
    rw [z] at zb
    rw [hz, zb] at hi
    exact absurd hi (Nat.not_lt_zero _)
  have sk : ∃ p r, kvs = p :: r ∧ sameK kvs' p.1 = true := by
    cases kvs with
    | nil => exact absurd rfl ne
    | cons p r =>
      refine ⟨p, r, rfl, ?_⟩
      have h : (kvs'.isEmpty || sameK kvs' p.1) = true := t.sk
      cases kvs' with
      | nil => exact absurd rfl ne'
      | cons q r' => simpa using h
  obtain ⟨p, r, ek, hsk⟩ := sk
  rcases fa with ⟨ks, ⟨o, f⟩, ra⟩ | ⟨ks, ⟨o, f⟩, ra⟩ <;> rcases fb with ⟨ks', ⟨o', f'⟩, rb⟩ | ⟨ks', ⟨o', f'⟩, rb⟩
  · exact fin (step_K I f f' ra rb t.s1 t.s2 hu' da db i hi)
  · exfalso
    subst ek
    obtain ⟨z, hz⟩ := sameK_t rb hsk
    cases ks with
    | nil => cases ra
    | cons q ks =>
      have := rpkv_keys ra
      injection this with h1 _
      have h1 : p.1 = kD q.1 := h1
      rw [h1] at hz
      cases e : q.1 <;> rw [e] at hz <;> cases hz
  · exfalso
    subst ek
    obtain ⟨z, hz⟩ := sameK_k rb hsk
    cases ks with
    | nil => cases ra
    | cons q ks =>
      have := rpkv_keys ra
      injection this with h1 _
      have h1 : p.1 = .tuple (q.1.map kD) := h1
      rw [h1] at hz
      rcases keyX_kDt q.1 with e | e
      · rw [e] at hz
        cases hz
      · rw [e] at hz
        cases hz
  · exact fin (step_T I f f' ra rb t.s1 t.s2 hu' da db i hi)
theorem op_eqDD (hu : X.A.units + 65 < cLine) : OpR X (compareOp .Eq) (rEqDD X.K) := by
  intro pins s σ H x y v u Q I rx ry h
  obtain ⟨kvs, kvs', t, q⟩ := h
  obtain ⟨a, b, es, ep, es', ep', res, rfl, rfl, ha, hb, da, db, st, e⟩ := two_steps I t hu
  cases rx
  cases ry
  exact eq_raw (by omega) ha hb da db res st ⟨.bl _, H, I, rfl, by rw [e]; exact q⟩
theorem op_neDD (hu : X.A.units + 65 < cLine) : OpR X (compareOp .NotEq) (rNeDD X.K) := by
  intro pins s σ H x y v u Q I rx ry h
  obtain ⟨kvs, kvs', t, q⟩ := h
  obtain ⟨a, b, es, ep, es', ep', res, rfl, rfl, ha, hb, da, db, st, e⟩ := two_steps I t hu
  cases rx
  cases ry
  exact ne_raw (by omega) ha hb da db res st ⟨.bl _, H, I, rfl, by rw [e]; exact q⟩
end
section
variable {K : PySem.W.Frag}
def rEqB (K : PySem.W.Frag) : R2 := fun x y H Q => rEqA K x y H Q ∨ rEqDD K x y H Q
def rNeB (K : PySem.W.Frag) : R2 := fun x y H Q => rNeA K x y H Q ∨ rNeDD K x y H Q
theorem kEqB {X : Cx} (h : X.K = K) (hu : X.A.units + 65 < cLine) : OpR X (compareOp .Eq) (rEqB K) := opOr (kEqA h (by omega)) (h ▸ op_eqDD hu)
theorem kNeB {X : Cx} (h : X.K = K) (hu : X.A.units + 65 < cLine) : OpR X (compareOp .NotEq) (rNeB K) := opOr (kNeA h (by omega)) (h ▸ op_neDD hu)
def eqBW : W2
  | .dict a, .dict b, Q => insB a = false ∧ insB b = false ∧ sameKs a b = true ∧ shpK a = true ∧ shpK b = true ∧ Q (.bool (eqvK a b))
  | d, e, Q => eqW d e Q
def neBW : W2
  | .dict a, .dict b, Q => insB a = false ∧ insB b = false ∧ sameKs a b = true ∧ shpK a = true ∧ shpK b = true ∧ Q (.bool (!eqvK a b))
  | d, e, Q => neW d e Q
theorem ow_eqB : OpW K (rEqB K) eqBW := fun d e Q h => by
  unfold eqBW at h
  split at h
  · obtain ⟨h1, h2, h3, h4, h5, q⟩ := h
    intro v1 v2 H H1 ex r1 r2 Q' k
    exact .inr ⟨_, _, ⟨r1.mono ex, r2.mono ex, h1, h2, h3, h4, h5⟩, k _ _ H H1 (Grow.refl ex) (.bl _) q⟩
  · exact RD.l (ow_eq _ _ Q h)
theorem ow_neB : OpW K (rNeB K) neBW := fun d e Q h => by
  unfold neBW at h
  split at h
  · obtain ⟨h1, h2, h3, h4, h5, q⟩ := h
    intro v1 v2 H H1 ex r1 r2 Q' k
    exact .inr ⟨_, _, ⟨r1.mono ex, r2.mono ex, h1, h2, h3, h4, h5⟩, k _ _ H H1 (Grow.refl ex) (.bl _) q⟩
  · exact RD.l (ow_ne _ _ Q h)
end
end DL
namespace FDc
open PySem PySem.Spec PyProof.Rows L2
end FDc
namespace DL
open PySem PySem.Spec PyProof.Rows L2 Evl FDc FSt
end DL
namespace GEx
open PySem PySem.Spec PyProof.Rows L2
/-- the context of a generator expression's frame that begins at s, its iterator's objects at fp -/
abbrev gcx (X : Cx) (s : Shared) (H : Hp) (A : Around) (cenv : Env) (fp : List Addr) : Cx := { X with A := A, s_0 := s, H_0 := H, env := cenv, outer := X.stack, stack := cenv :: X.stack, ex := fp, fn := fun x => cenv.scope.names.lookup x == some .cell, pn := [], xe := fun _ _ => False }
end GEx
namespace GEx
open PySem PySem.Spec PyProof.Rows L2
section
variable {X : Cx}
/-- what the frame of the expression leaves behind -/
structure Left (X : Cx) (fp : List Addr) (s4 : Shared) (H4 H' : Hp) (s : Shared) : Prop where
  os : s.os = s4.os
  bare : AllBare s.gens
  un : Un (frs X.stack) fp H4 H' s4.heap s.heap
  hok : HOk X.prog X.w H' s.heap
theorem Left.of {fp : List Addr} {s4 s : Shared} {H4 H' : Hp} {A : Around} {cenv : Env} {pins : List (Addr × Obj)} {σ : L2.St} (I : Inv (gcx X s4 H4 A cenv fp) pins σ H' s) : Left X fp s4 H4 H' s := ⟨I.os, I.bare, I.base, I.hok⟩
end
end GEx
namespace GEx
open PySem PySem.Spec PyProof.Rows L2 Evl DL
end GEx
namespace GEx
open PySem PySem.Spec PyProof.Rows L2 Evl DL
end GEx
namespace DL
open PySem PySem.Spec PyProof.Rows L2 Evl GEx
end DL
namespace DL
open PySem PySem.Spec PyProof.Rows L2 Evl FDc
variable [CTab]
theorem RpKv.len {K : PySem.W.Frag} {H : Hp} : ∀ {a : List (PyData × V)} {b : List (PyData × PyData)}, RpKv K H a b → a.length = b.length
  | _, _, .nil => rfl
  | _, _, .cons _ r => congrArg (· + 1) (RpKv.len r)
def owdNewW (t : Bool) : WM := fun ρ Q => Q (.owd t [])
end DL
namespace DL
open PySem PySem.Spec PyProof.Rows L2 Evl FDc FSt
variable [CTab]
theorem hu1 {k : Nat} {A : Around} (hr : Room k A) : A.units + 1 < cLine := by
  have := hu65 hr
  omega
def callNW (n m : Nat) (w : List Sl → (PyData → Prop) → Prop) (a z : WA) : WE := fun ρ Q => a ρ fun ss => z ρ fun ts => ss.length = n ∧ ts.length = m ∧ w (ss ++ ts) Q
section
variable {K : PySem.W.Frag} {T : List Addr} {te : TE} {we : WE} {tl tk : TA} {ws wz : WA} {E : XK}
theorem RpSs.mono {H H' : Hp} (e : Ex H H') : ∀ {vs : List V} {ss : List Sl}, RpSs K H vs ss → RpSs K H' vs ss
  | _, _, .nil => .nil
  | _, _, .cons h r => .cons (h.mono e) (RpSs.mono e r)
end
end DL
namespace DL
open PySem PySem.Spec PyProof.Rows L2 Evl
def ct1 (nm : Str) (C : Addr) : CTab := ⟨fun x => if x = nm then some C else none, fun x y c h1 h2 => by
  split at h1
  · split at h2
    · rename_i a b
      rw [a, b]
    · cases h2
  · cases h1⟩
variable [CTab]
end DL
namespace DL
open PySem
variable [CTab]
/-- each item gives the one datum g d -/
theorem cmp_map {b : WB} {e : WE} {ρ : WEnv} {ds acc : List PyData} {Q : List PyData → Prop} (g : PyData → PyData) (h : ∀ d ∈ ds, ∀ R : PyData → Prop, R (g d) → b d ρ fun ρ1 => e ρ1 R) (q : Q (acc ++ ds.map g)) : compW b yesT e ρ ds acc Q := by
  induction ds generalizing acc with
  | nil => simpa [compW] using q
  | cons d ds ih =>
    unfold compW
    have h1 := h d List.mem_cons_self (fun z => compW b yesT e ρ ds (acc ++ [z]) Q) (ih (fun d' hd' => h d' (List.mem_cons_of_mem _ hd')) (by simpa using q))
    simpa [yesT] using h1
end DL
namespace DL
open PySem L2
variable [CTab]
theorem shaped_int (i : Int) : SeqAt.shaped (.int i) = true := rfl
theorem shaped_bool (b : Bool) : SeqAt.shaped (.bool b) = true := rfl
theorem eqW_int {a b : Int} {Q : PyData → Prop} : eqW (.int a) (.int b) Q = Q (.bool (decide (a = b))) := by
  have e : PyData.eqv (.int a) (.int b) = decide (a = b) := by
    unfold PyData.eqv
    exact Bool.beq_eq_decide_eq a b
  show (_ ∧ _ ∧ _) = _
  simp only [shaped_int, e, true_and]
theorem neW_int {a b : Int} {Q : PyData → Prop} : neW (.int a) (.int b) Q = Q (.bool (!decide (a = b))) := by
  have e : PyData.eqv (.int a) (.int b) = decide (a = b) := by
    unfold PyData.eqv
    exact Bool.beq_eq_decide_eq a b
  show (_ ∧ _ ∧ _) = _
  simp only [shaped_int, e, true_and]
/-- x, y = y, x % y, till y is 0 -/
theorem loop_cons {wb : WB} {ws : WS} {W : WD} {d : PyData} {ds : List PyData} {ρ : WEnv} : loopW wb ws W (d :: ds) ρ = wb d ρ fun ρ1 => ws { W with nx := loopW wb ws W ds, ct := loopW wb ws W ds, bk := W.nx } ρ1 := rfl
theorem fre_int {es : List PyData} {i : Int} : fre es (.int i) = True := by unfold fre; rfl
theorem fre_bool {es : List PyData} {i : Bool} : fre es (.bool i) = True := by unfold fre; rfl
theorem fre_str {es : List PyData} {i : Str} : fre es (.str i) = True := by unfold fre; rfl
theorem fre_none {es : List PyData} : fre es .none = True := by unfold fre; rfl
theorem tell_opt {o : Option PyData} : (o.map Sl.dat).map Sl.tell = o.map Sl.dat := by cases o <;> rfl
theorem rangeD_nat (n : Nat) : rangeD 0 (n : Int) = (List.range' 0 n).map fun (j : Nat) => .int (j : Int) := by
  unfold rangeD
  rw [Int.sub_zero, Int.toNat_natCast, List.range_eq_range']
  exact List.map_congr_left fun k _ => by rw [Int.zero_add]
end DL
namespace DL
open PySem PySem.Spec PyProof.Rows L2 Evl FDc FSt
variable [CTab]
def walkQ (d : PyData) (Q : List PyData → Prop) : Prop := match d with
  | .list ds => Q ds
  | .tuple ds => Q ds
  | .str z => Q (z.cps.toList.map fun c => .str ⟨#[c]⟩)
  | .dict kvs => insB kvs = false ∧ Q (keysD kvs)
  | _ => False
def listQ (d : PyData) (Q : List PyData → Prop) : Prop := match d with
  | .list ds => Q ds
  | .tuple ds => Q ds
  | .dict kvs => insB kvs = false ∧ Q (keysD kvs)
  | _ => False
def itemsQ (d : PyData) (Q : List PyData → Prop) : Prop := match d with
  | .dict (p :: kvs) => isKd p.1 = true ∧ Q ((p :: kvs).map fun p => .tuple [p.1, p.2])
  | _ => False
def valuesQ (d : PyData) (Q : List PyData → Prop) : Prop := match d with
  | .dict (p :: kvs) => isKd p.1 = true ∧ Q ((p :: kvs).map (·.2))
  | _ => False
def sortQ (d : PyData) (Q : List PyData → Prop) : Prop := match d with
  | .list ds => srtOk ds ∧ ds.length ≤ 100000 ∧ Q (sortD ds)
  | .tuple ds => srtOk ds ∧ ds.length ≤ 100000 ∧ Q (sortD ds)
  | .dict (p :: kvs) => ∃ ks : List Str, keysD (p :: kvs) = ks.map .str ∧ ks.length < 64 ∧ Q (sortD (ks.map .str))
  | _ => False
def dictQ (ds : List PyData) (Q : PyData → Prop) : Prop := ∃ ps, prsD ds = some ps ∧ ((ps.all fun p => isKd p.1) = true ∨ (ps.all fun p => isTd p.1) = true) ∧ Q (.dict (mergeD [] ps))
def lenSetQ (d : PyData) (Q : PyData → Prop) : Prop := ∃ ds, seqD d = some ds ∧ setOk ds ∧ ds.length < 64 ∧ ∀ es : List PyData, es.Nodup → (∀ x, x ∈ es ↔ x ∈ ds) → Q (.int (es.length : Nat))
def attrQ (nm : Str) (i : Nat) (d : PyData) (Q : PyData → Prop) : Prop := ∃ z, fldD nm i d = some z ∧ Q z
def slQ (d : PyData) (l u : Option Int) (Q : PyData → Prop) : Prop := match d with
  | .list ds => Q (.list (cutG ds l u))
  | .tuple ds => Q (.tuple (cutG ds l u))
  | _ => False
theorem itemsA_q {a : WE} {ρ : WEnv} {Q : List PyData → Prop} : itemsA a ρ Q = a ρ fun d => walkQ d Q := rfl
theorem listAN_q {a : WE} {ρ : WEnv} {Q : List PyData → Prop} : listAN a ρ Q = a ρ fun d => listQ d Q := rfl
theorem itemsN_q {a : WE} {ρ : WEnv} {Q : List PyData → Prop} : itemsN a ρ Q = a ρ fun d => itemsQ d Q := rfl
theorem valuesN_q {a : WE} {ρ : WEnv} {Q : List PyData → Prop} : valuesN a ρ Q = a ρ fun d => valuesQ d Q := rfl
theorem sortAN_q {a : WE} {ρ : WEnv} {Q : List PyData → Prop} : sortAN a ρ Q = a ρ fun d => sortQ d Q := rfl
theorem dictW_q {n : WL} {ρ : WEnv} {Q : PyData → Prop} : dictW n ρ Q = n ρ fun ds => dictQ ds Q := rfl
theorem lenSetW_q {a : WE} {ρ : WEnv} {Q : PyData → Prop} : lenSetW a ρ Q = a ρ fun d => lenSetQ d Q := rfl
theorem attrW_q {nm : Str} {i : Nat} {a : WE} {ρ : WEnv} {Q : PyData → Prop} : attrW nm i a ρ Q = a ρ fun d => attrQ nm i d Q := rfl
theorem slW_q {a : WE} {lo hi : WO} {ρ : WEnv} {Q : PyData → Prop} : slW a lo hi ρ Q = a ρ fun d => lo ρ fun l => hi ρ fun u => slQ d l u Q := rfl
theorem walk_lst {ds : List PyData} {Q : List PyData → Prop} : walkQ (.list ds) Q = Q ds := rfl
theorem walk_tup {ds : List PyData} {Q : List PyData → Prop} : walkQ (.tuple ds) Q = Q ds := rfl
theorem walk_str {z : Str} {Q : List PyData → Prop} : walkQ (.str z) Q = Q (z.cps.toList.map fun c => .str ⟨#[c]⟩) := rfl
theorem list_lst {ds : List PyData} {Q : List PyData → Prop} : listQ (.list ds) Q = Q ds := rfl
theorem list_tup {ds : List PyData} {Q : List PyData → Prop} : listQ (.tuple ds) Q = Q ds := rfl
theorem sl_lst {ds : List PyData} {l u : Option Int} {Q : PyData → Prop} : slQ (.list ds) l u Q = Q (.list (cutG ds l u)) := rfl
theorem sl_tup {ds : List PyData} {l u : Option Int} {Q : PyData → Prop} : slQ (.tuple ds) l u Q = Q (.tuple (cutG ds l u)) := rfl
theorem ix_lst {ds : List PyData} {i : Int} {Q : PyData → Prop} : ixAW (.list ds) (.int i) Q = ∃ d, L2.atI ds i = some d ∧ Q d := rfl
theorem ix_tup {ds : List PyData} {i : Int} {Q : PyData → Prop} : ixAW (.tuple ds) (.int i) Q = ∃ d, L2.atI ds i = some d ∧ Q d := rfl
theorem in_tup {d : PyData} {ds : List PyData} {Q : PyData → Prop} : inAW d (.tuple ds) Q = inW d (.tuple ds) Q := rfl
theorem in_lst {d : PyData} {ds : List PyData} {Q : PyData → Prop} : inAW d (.list ds) Q = inW d (.list ds) Q := rfl
theorem ni_tup {d : PyData} {ds : List PyData} {Q : PyData → Prop} : niAW d (.tuple ds) Q = niW d (.tuple ds) Q := rfl
theorem ni_lst {d : PyData} {ds : List PyData} {Q : PyData → Prop} : niAW d (.list ds) Q = niW d (.list ds) Q := rfl
theorem len_lst {ds : List PyData} {Q : PyData → Prop} : lenAW [.list ds] Q = Q (.int (ds.length : Nat)) := by
  show (∃ n, _ ∧ _) = _
  simp [lenD]
theorem len_tup {ds : List PyData} {Q : PyData → Prop} : lenAW [.tuple ds] Q = Q (.int (ds.length : Nat)) := by
  show (∃ n, _ ∧ _) = _
  simp [lenD]
theorem eqB_int {a b : Int} {Q : PyData → Prop} : eqBW (.int a) (.int b) Q = Q (.bool (decide (a = b))) := eqW_int
theorem neB_int {a b : Int} {Q : PyData → Prop} : neBW (.int a) (.int b) Q = Q (.bool (!decide (a = b))) := neW_int
theorem eqB_bool {a b : Bool} {Q : PyData → Prop} : eqBW (.bool a) (.bool b) Q = Q (.bool (a == b)) := by
  have e : PyData.eqv (.bool a) (.bool b) = (a == b) := by
    cases a <;> cases b <;> simp [PyData.eqv]
  show (_ ∧ _ ∧ _) = _
  simp only [shaped_bool, e, true_and]
theorem neB_bool {a b : Bool} {Q : PyData → Prop} : neBW (.bool a) (.bool b) Q = Q (.bool (!(a == b))) := by
  have e : PyData.eqv (.bool a) (.bool b) = (a == b) := by
    cases a <;> cases b <;> simp [PyData.eqv]
  show (_ ∧ _ ∧ _) = _
  simp only [shaped_bool, e, true_and]
theorem eqB_str {a b : Str} {Q : PyData → Prop} : eqBW (.str a) (.str b) Q = Q (.bool (decide (a = b))) := rfl
theorem neB_str {a b : Str} {Q : PyData → Prop} : neBW (.str a) (.str b) Q = Q (.bool (!decide (a = b))) := rfl
def fdK (ps : List Str) (g : Str → PyData) : List (PyData × PyData) := ps.map fun k => (.str k, g k)
def fdD (ps : List Str) (g : Str → PyData) : PyData := .dict (fdK ps g)
theorem insB_fd (ps : List Str) (g : Str → PyData) : insB (fdK ps g) = false := by cases ps <;> rfl
theorem len_fd {ps : List Str} {g : Str → PyData} {Q : PyData → Prop} : lenAW [fdD ps g] Q = Q (.int (ps.length : Nat)) := by
  show (insB (fdK ps g) = false ∧ Q (.int ((fdK ps g).length : Nat))) = _
  rw [insB_fd, show (fdK ps g).length = ps.length from List.length_map ..]
  simp
theorem keys_fd (ps : List Str) (g : Str → PyData) : keysD (fdK ps g) = ps.map .str := by
  unfold keysD fdK
  rw [List.map_map]
  rfl
theorem walk_fd {ps : List Str} {g : Str → PyData} {Q : List PyData → Prop} : walkQ (fdD ps g) Q = Q (ps.map .str) := by
  show (insB (fdK ps g) = false ∧ Q (keysD (fdK ps g))) = _
  rw [insB_fd, keys_fd]
  simp
theorem list_fd {ps : List Str} {g : Str → PyData} {Q : List PyData → Prop} : listQ (fdD ps g) Q = Q (ps.map .str) := walk_fd
end DL
namespace DL
open PySem PySem.Spec PyProof.Rows L2 Evl FDc FSt
variable [CTab]
theorem at0 {α : Type} {a : α} {l : List α} : L2.atI (a :: l) 0 = some a := L2.atI_nat (j := 0) rfl
theorem at1 {α : Type} {a b : α} {l : List α} : L2.atI (a :: b :: l) 1 = some b := L2.atI_nat (j := 1) rfl
end DL
namespace DL
open PySem PySem.Spec PyProof.Rows L2 Evl FDc FSt
def wv1 := (And.intro (And.intro (And.intro (And.intro @seqW.eq_def (And.intro @nextW.eq_def @setW.eq_def)) (And.intro @set2W.eq_def (And.intro @set3W.eq_def @setsW.eq_def))) (And.intro (And.intro @mnilW.eq_def (And.intro @mconsW.eq_def @unpW.eq_def)) (And.intro @ifW.eq_def (And.intro @dropW.eq_def @retW.eq_def)))) (And.intro (And.intro (And.intro @retNW.eq_def (And.intro @breakW.eq_def @contW.eq_def)) (And.intro @deadW.eq_def (And.intro @appW.eq_def @popW.eq_def))) (And.intro (And.intro @storeW.eq_def (And.intro @forW.eq_def @forRW.eq_def)) (And.intro @frz1W.eq_def (And.intro @bodyW.eq_def @startW.eq_def)))))
def wv2 := (And.intro (And.intro (And.intro (And.intro @varW.eq_def (And.intro @cW.eq_def @opW.eq_def)) (And.intro @unW.eq_def (And.intro @nilW.eq_def @consW.eq_def))) (And.intro (And.intro @tupW.eq_def (And.intro @lstN.eq_def @newW.eq_def)) (And.intro @cbW.eq_def (And.intro @anilW.eq_def @aconsW.eq_def)))) (And.intro (And.intro (And.intro @avarW.eq_def (And.intro @callW.eq_def @testW.eq_def)) (And.intro @notT.eq_def (And.intro @andT.eq_def @orT.eq_def))) (And.intro (And.intro @yesT.eq_def (And.intro @andV.eq_def @orV.eq_def)) (And.intro @notV.eq_def (And.intro @ifV.eq_def @chainW.eq_def)))))
def wv3 := (And.intro (And.intro (And.intro (And.intro @datM.eq_def (And.intro @newM.eq_def @bindW.eq_def)) (And.intro @bindsW.eq_def (And.intro @binds.eq_1 @binds.eq_2))) (And.intro (And.intro @wipeW.eq_1 (And.intro @wipeW.eq_2 @wiped.eq_1)) (And.intro @wiped.eq_2 (And.intro @lcN.eq_def @itemsI.eq_def)))) (And.intro (And.intro (And.intro @itemsS.eq_def (And.intro @itemsT.eq_def @signsI.eq_def)) (And.intro @range1I.eq_def (And.intro @range2I.eq_def @zipI.eq_def))) (And.intro (And.intro @enumI.eq_def (And.intro @noO.eq_def @someO.eq_def)) (And.intro @backW.eq_def (And.intro @truW.eq_def @newBagM.eq_def)))))
def wv4 := (And.intro (And.intro (And.intro (And.intro @listN.eq_def (And.intro @catN.eq_def @repN.eq_def)) (And.intro @starW.eq_def (And.intro @isiW.eq_def @ledW.eq_def))) (And.intro (And.intro @sets.eq_1 (And.intro @sets.eq_2 @tells.eq_1)) (And.intro @tells.eq_2 (And.intro @tell1.eq_def @Sl.tell.eq_def)))) (And.intro (And.intro (And.intro @addW.eq_def (And.intro @subW.eq_def @fdivW.eq_def)) (And.intro @modW.eq_def (And.intro @ltW.eq_def @gtW.eq_def))) (And.intro (And.intro @leW.eq_def (And.intro @geW.eq_def @isW.eq_def)) (And.intro @isnW.eq_def (And.intro @ixW.eq_def @lenW.eq_def)))))
def wv5 := (And.intro (And.intro (And.intro (And.intro @absW.eq_def (And.intro @intW.eq_def @tupleW.eq_def)) (And.intro @max2W.eq_def (And.intro @min2W.eq_def @negW.eq_def))) (And.intro (And.intro @drawW.eq_def (And.intro @List.map_cons.{0,0} @List.map_nil.{0,0})) (And.intro @List.length_cons.{0} (And.intro @List.length_nil.{0} @List.replicate_succ.{0})))) (And.intro (And.intro (And.intro @List.replicate_zero.{0} (And.intro @List.append_nil.{0} @List.nil_append.{0})) (And.intro @List.cons_append.{0} (And.intro @List.singleton_append.{0} @List.set_cons_zero.{0}))) (And.intro (And.intro @List.set_cons_succ.{0} (And.intro @List.getElem?_cons_zero.{0} @List.getElem?_cons_succ.{0})) (And.intro @List.getElem?_nil.{0} (And.intro @Option.map_some.{0,0} @Option.map_none.{0,0})))))
def wv6 := (And.intro (And.intro (And.intro (And.intro @Nat.sub_self (And.intro @Nat.add_zero @Nat.zero_add)) (And.intro @FreeS.eq_def (And.intro @FreeE.eq_1 @FreeE.eq_2))) (And.intro (And.intro @and_true (And.intro @true_and @Bool.not_true)) (And.intro @Bool.not_false (And.intro @at0 @at1)))) (And.intro (And.intro (And.intro @Option.some.injEq.{0} (And.intro @exists_eq_left'.{1} @Bool.false_eq_true)) (And.intro @ite_true.{1} (And.intro @ite_false.{1} @fre_int))) (And.intro (And.intro @fre_bool (And.intro @fre_str @fre_none)) (And.intro @tell_opt (And.intro @imp_self @implies_true.{1})))))
def wv7 := (And.intro (And.intro (And.intro (And.intro @List.mem_cons.{0} (And.intro @forall_eq_or_imp.{1} @forall_eq.{1})) (And.intro @List.not_mem_nil.{0} (And.intro @false_implies @itemsA_q))) (And.intro (And.intro @listAN_q (And.intro @itemsN_q @valuesN_q)) (And.intro @sortAN_q (And.intro @dictW_q @lenSetW_q)))) (And.intro (And.intro (And.intro @attrW_q (And.intro @slW_q @walk_lst)) (And.intro @walk_tup (And.intro @walk_str @list_lst))) (And.intro (And.intro @list_tup (And.intro @sl_lst @sl_tup)) (And.intro @ix_lst (And.intro @ix_tup @in_tup)))))
def wv8 := (And.intro (And.intro (And.intro (And.intro @in_lst @ni_tup) (And.intro @ni_lst @len_lst)) (And.intro (And.intro @len_tup @len_fd) (And.intro @walk_fd (And.intro @list_fd @eqB_int)))) (And.intro (And.intro (And.intro @neB_int @eqB_bool) (And.intro @neB_bool @eqB_str)) (And.intro (And.intro @neB_str @callNW.eq_def) (And.intro @withW.eq_def (And.intro @makeW.eq_def @owdNewW.eq_def)))))
end DL
namespace DL
open PySem PySem.Spec PyProof.Rows L2 Evl FDc FSt
end DL
namespace DL
open PySem PySem.Spec PyProof.Rows L2 Evl FDc FSt
variable [CTab]
section
variable {K : PySem.W.Frag} {T : List Addr} {td ty tx : TE} {wd wk wx : WE}
theorem IsD.mono {H H' : Hp} {a : Addr} (e : Ex H H') (h : IsD H a) : IsD H' a := h.imp (fun ⟨k, r⟩ => ⟨k, rdEx e r⟩) fun ⟨k, r⟩ => ⟨k, rdEx e r⟩
end
end DL
namespace DL
open PySem PySem.Spec PyProof.Rows L2 Evl FDc FSt
end DL
namespace DL
open PySem PySem.Spec PyProof.Rows L2 Evl FDc FSt
variable [CTab]
section
variable {X : Cx} {K : PySem.W.Frag}
theorem hu70 {k : Nat} {A : Around} (hr : Room k A) : A.units + 70 < cLine := by
  have := hr.un
  omega
end
end DL
namespace DL
open PySem PySem.Spec PyProof.Rows L2 PySem.F
/-- what the text tells of the class at C and of its __init__ at fI -/
structure SupK (P : Program) (K : PySem.W.Frag) (C fI : Addr) (slf gv f : Str) where
  ini : PySem.W.excInitIn K C KEYS "LookupError.__new__" = true
  ovr : PySem.W.excOver K C KEYS = true
  sa : PySem.W.findIn K (.ref C) "__setattr__" = some (some (.builtin "object.__setattr__"))
  tak : PySem.W.takerIn K C f = some none
  nw : PySem.W.findIn K (.ref C) "__init__" = some (some (.ref fI))
  sup : PySem.W.ks_superIn K C C "__init__" = some (some (.builtin "KeyError.__init__"))
  hasD : (PySem.W.clsIn K C).map (·.hasDict) = some true
  own : PySem.W.mroIn K C (.ref C) = some true
  isB : PySem.W.subIn K (.ref C) (.type "KeyError") = some true
  exC : PySem.W.subIn K (.ref C) (.type "BaseException") = some true
  tyC : PySem.W.typeIn K (.ref C) = some (.type "type")
  kC : PySem.W.keepIn K (.ref C) = true
  tp : PySem.W.nsIn K cStatics "thirdparty.any" = some none
  name : Str
  qual : Str
  params : Arguments
  text : Str
  j : Nat
  p : Fin 10 → Pos
  scope : Scope
  dV : Value
  kV : Value
  doc : Value
  pm : Value
  an : Option Addr
  cda : Addr
  ct : Value
  cc : Addr
  oc : Value
  od : Option Addr
  osl : Array (Option Value)
  fn : K.lookup fI = some ⟨oc, od, .func (PySem.W.ksFn name qual params (supBody text slf gv f j (p 0) (p 1) (p 2) (p 3) (p 4) (p 5) (p 6) (p 7) (p 8) (p 9)) scope dV kV doc pm an (.ref cda) ct cc), osl⟩
  fnT : PySem.W.typeIn K (.ref fI) = some (.type "function")
  cod : PySem.W.codeIn K (.ref cda) qual = true
  hd : ∃ ar, (params.posonlyargs ++ params.args).head? = some ar ∧ ar.arg = slf
  file : ∃ ccl cdd vs ccs fl tf, K.lookup cda = some ⟨ccl, cdd, .fields vs, ccs⟩ ∧ vs[2]? = some (.str fl tf) ∧ ((P.main.file : Str) == fl) = true
  cel : ∃ cl cld csl, K.lookup cc = some ⟨cl, cld, .cell (some (.ref C)), csl⟩
  bnd : ∀ (a u : Value), bindArgs (PySem.W.ksFn name qual params (supBody text slf gv f j (p 0) (p 1) (p 2) (p 3) (p 4) (p 5) (p 6) (p 7) (p 8) (p 9)) scope dV kV doc pm an (.ref cda) ct cc) ⟨[a, u], []⟩ = pure [(slf, a), (gv, u)]
  nSup : scope.names.lookup ("super" : Str) = some .globalImplicit
  nCls : scope.names.lookup ("__class__" : Str) = some .free
  nSlf : scope.names.lookup slf = some .local
  nGv : scope.names.lookup gv = some .local
  nGs : slf ≠ gv
  dSlf : (slf == ("__debug__" : Str)) = false
  dGv : (gv == ("__debug__" : Str)) = false
  noC : ∀ x ∈ scope.names, x.2 ≠ .cell
  kind : scope.kind = .function
  co : scope.isCoroutine = false
  gen : scope.isGenerator = false
  inter : ∀ L, interactive (PySem.W.ksEnv qual scope L fI (.ref cda) cc) = false
  sw1 : ∀ L, swapsWith (.Call (.Attribute (.Call (.Name "super" (p 0)) [] [] (p 1)) "__init__" (p 2)) [.Constant (.str text) j (p 3)] [] (p 4)) none (p 5).line (PySem.W.ksEnv qual scope L fI (.ref cda) cc) = pure false
  sw2 : ∀ L, swapsWith (.Name gv (p 8)) (some (.Attribute (.Name slf (p 6)) f (p 7))) (p 9).line (PySem.W.ksEnv qual scope L fI (.ref cda) cc) = pure false
  pl : Addr → Sem Bool
  evl : ∀ L, eval (.Call (.Attribute (.Call (.Name "super" (p 0)) [] [] (p 1)) "__init__" (p 2)) [.Constant (.str text) j (p 3)] [] (p 4)) (PySem.W.ksEnv qual scope L fI (.ref cda) cc) = (do
    let ov ← attributeBase (.Call (.Name "super" (p 0)) [] [] (p 1)) "__init__" (PySem.W.ksEnv qual scope L fI (.ref cda) cc) (eval (.Call (.Name "super" (p 0)) [] [] (p 1)) (PySem.W.ksEnv qual scope L fI (.ref cda) cc))
    standAt (p 2).atName
    let (f, first) ← holding [ov] (getMethod ov "__init__" (pl L))
    callWith (p 4) f first (backTo (p 4) (starEach [.Constant (.str text) j (p 3)] (PySem.W.ksEnv qual scope L fI (.ref cda) cc))) [])
  sta : ∀ L, starEach [.Constant (.str text) j (p 3)] (PySem.W.ksEnv qual scope L fI (.ref cda) cc) = [(false, eval (.Constant (.str text) j (p 3)) (PySem.W.ksEnv qual scope L fI (.ref cda) cc))]
  top : (P.main.scope.names.lookup ("super" : Str)).isSome = false
section
variable {P : Program} {w : World} {K : PySem.W.Frag} {C fI : Addr} {slf gv f : Str} {A : Around} {s : Shared} {a t0 : Addr} {u : Value} {R : Result → Shared → Prop} {mg mb : Str → Option Value}
theorem supk_init (T : SupK P K C fI slf gv f) (hroom : A.depth < recursionLimit) (X : K.In s.heap) (lim : s.heap.NoLimit) (hg : s.heap.Ns mainGlobals mg) (hmg : mg "super" = none) (hb : s.heap.Ns builtinsNs mb) (hmb : mb "super" = some (.type "super"))
    (he : s.heap.get? a = some (PySem.W.excObj C t0 none .none)) (hKa : K.lookup a = none)
    (hq : ∀ h' tk' dx t1, (∀ b o, b ≠ a → s.heap.get? b = some o → h'.get? b = some o) → s.heap.objs.size ≤ dx → h'.get? a = some (PySem.W.excObj C t1 (some dx) .none) → h'.Ns1 dx (fun y => if y = f then some u else none) → R (.ok (.ret .none)) ⟨h', s.gens, s.drawn, tk', s.os⟩) :
    codeAny (model P w) A (.call (.ref fI) ⟨[.ref a, u], []⟩) R s := by
  obtain ⟨ar, hp1, hp2⟩ := T.hd
  obtain ⟨ccl, cdd, vs, ccs, fl, tf, hcd1, hcd2, hcd3⟩ := T.file
  obtain ⟨cl, cld, csl, hcel⟩ := T.cel
  refine PySem.ks_codeAny_call_defAt (binds := [(slf, .ref a), (gv, u)]) hroom (X _ _ T.fn) rfl lim (PySem.W.codeRec_of X T.cod) rfl (BindsTo.of_eq (T.bnd (.ref a) u)) T.noC (fun x hx => ?_) (fun h₁ hns hk => ?_) T.co T.gen T.kind
  · rcases List.mem_cons.mp hx with rfl | hx
    · exact T.nSlf
    · obtain rfl := List.mem_singleton.mp hx
      exact T.nGv
  obtain ⟨hp, g, d, t, os⟩ := s
  have X1 : K.In h₁ := X.keeps hk
  have he1 := hk _ _ he
  have m1 : (List.lookup slf [(gv, u), (slf, Value.ref a)]) = some (.ref a) := by
    have : (slf == gv) = false := by simpa using T.nGs
    simp [List.lookup, this]
  have m2 : (List.lookup gv [(gv, u), (slf, Value.ref a)]) = some u := by simp [List.lookup]
  show PySem.wpAt (model P w) (A.deeper (PySem.W.ksEnv T.qual T.scope hp.objs.size fI (.ref T.cda) T.cc)) (.func _ (PySem.W.ksEnv T.qual T.scope hp.objs.size fI (.ref T.cda) T.cc)) (execs _ (PySem.W.ksEnv T.qual T.scope hp.objs.size fI (.ref T.cda) T.cc)) _ _ _
  generalize hL : hp.objs.size = L at hns ⊢
  refine PySem.ks_wpAt_execs_cons (PySem.ks_wpAt_Expr_any (PySem.ks_wpAt_MethodCall (pl := T.pl L) ?_ (T.evl L)) (T.inter L) (T.sw1 L))
  refine PySem.ks_wpAt_super_base (env := PySem.W.ksEnv T.qual T.scope L fI (.ref T.cda) T.cc) T.nSup T.nCls (by decide) rfl (X1 _ _ T.fn) rfl hp1 rfl (X1 _ _ hcd1) rfl hcd2 hcd3 T.top ?_
  obtain ⟨cdC, hCc⟩ : ∃ cd, PySem.W.clsIn K C = some cd := by
    have := T.sup
    unfold PySem.W.ks_superIn at this
    cases z : PySem.W.clsIn K C with
    | none => rw [z] at this; cases this
    | some cd => exact ⟨cd, rfl⟩
  obtain ⟨oD, hD1, hD2⟩ : ∃ oD, h₁.get? C = some oD ∧ oD.data = .cls cdC := by
    have hD := hCc
    unfold PySem.W.clsIn at hD
    split at hD
    · rename_i c d cd' sl ho
      cases hD
      exact ⟨_, X1 _ _ ho, rfl⟩
    · cases hD
  have hmr : ∀ {h : Heap}, K.In h → PySem.W.Looks (model P w) h (mroOf (.ref C)) cdC.mro := fun X => (PySem.W.looks_clsIn X hCc).andThen .now
  refine PySem.W.ks_loadName_global T.kind T.nSup (Calls.loadGlobal_builtin (hg.keeps hk) hmg (hb.keeps hk) hmb ⟨rfl, ?_⟩)
  refine wpAny_loadName_free T.kind T.nCls rfl ⟨_, X1 _ _ hcel, rfl⟩ ?_
  refine wpAny_loadName_local T.kind (by rw [hp2]; exact T.nSlf) hns (by rw [hp2]; exact m1) ?_
  refine PySem.ks_wpAny_isType_cls hD1 hD2 ⟨rfl, ?_⟩
  refine PySem.ks_wpAny_call_super hD1 hD2 he1 rfl (fun c e => nomatch e) (PySem.W.looks_mroIn X1 T.own) (fun h2 e2 k2 => ?_)
  have X2 : K.In h2 := X1.keeps k2
  have he2 := k2 _ _ he1
  have I2 : PySem.W.InstAt h2 a (PySem.W.excObj C t0 none .none) C none := ⟨he2, rfl, rfl, trivial⟩
  refine PySem.W.kxs_getMethod kxs_KeyError e2 (PySem.W.looks_opaque X2 T.tp) (hmr X2) rfl X2 (by have := T.sup; unfold PySem.W.ks_superIn at this; rw [hCc] at this; exact this) (I2.type.andThen (PySem.W.looks_subIn X2 T.isB)) (PySem.W.ks_ne X2 I2 hCc) (by decide) ?_
  have hu : (h2.push (PySem.W.kxs_mw "KeyError.__init__" a)).get? h2.objs.size = some (PySem.W.kxs_mw "KeyError.__init__" a) := Heap.get?_push_size _ rfl
  have he3 : (h2.push (PySem.W.kxs_mw "KeyError.__init__" a)).get? a = some (PySem.W.excObj C t0 none .none) := Heap.get?_push_of_some _ he2
  have k3 : ∀ b o, h₁.get? b = some o → (h2.push (PySem.W.kxs_mw "KeyError.__init__" a)).get? b = some o := fun b o e => Heap.get?_push_of_some _ (k2 b o e)
  have X3 := X1.keeps k3
  show wpAny _ _ (callWith (T.p 4) (.ref h2.objs.size) [] (backTo (T.p 4) (starEach _ _)) []) _ _ _
  rw [T.sta L]
  refine PySem.W.kxs_callWith (i := "KeyError.__init__") (x := a) rfl (Calls.evalArgs_plain ?_)
  show wpAny _ _ (spliced ((false, eval (.Constant (.str T.text) T.j (T.p 3)) (PySem.W.ksEnv T.qual T.scope L fI (.ref T.cda) T.cc)) :: [])) _ _ _
  refine Calls.spliced_cons ?_
  refine Calls.Constant_str ?_
  refine Calls.spliced_nil ⟨hu, ?_⟩
  obtain ⟨nm, N, qn, bs, bm, hdct, sn, sub, ab, col, dd, k0, k1, kk2, kk3, k5, hC, hT⟩ := PySem.W.excInit_of X3 T.ini
  refine wpAny_call (codeAny_of_tree ?_)
  show wpAny _ _ (callAny (.ref h2.objs.size) _) _ _ _
  simp only [callAny]
  refine wpAny_bind (wpAny_load hu ?_)
  simp only [PySem.W.kxs_mw, show (Value.type "method-wrapper" == Value.type "method" || Value.type "method-wrapper" == Value.type "builtin_function_or_method" || Value.type "method-wrapper" == Value.type "method-wrapper") = true by decide, if_true]
  refine PySem.W.KFB.if_so (by decide) ?_
  refine wpAny_bind (DL.ini_check ini_KeyError hC he3 rfl ?_)
  refine wpAny_bind (wpAny_pure (wpAny_pure ?_))
  refine ⟨plainId_quiet ini_KeyError.init.plain _, codeAny_builtin ini_KeyError.entry ?_⟩
  refine PySem.W.exc_init_tree (cls := .ref C) (t0 := t0) (dv := none) (c2 := .none) (c3 := .none) (b4 := .bool false) he3 (by show 1 ≤ sizeLine; decide) (fun h4 k4 e4 t4 => ?_)
  show PySem.wpAt (model P w) (A.deeper (PySem.W.ksEnv T.qual T.scope L fI (.ref T.cda) T.cc)) (.func _ (PySem.W.ksEnv T.qual T.scope L fI (.ref T.cda) T.cc)) (execs [_] (PySem.W.ksEnv T.qual T.scope L fI (.ref T.cda) T.cc)) _ _ _
  have aL : L ≠ a := fun z => by
    obtain ⟨oL, es, ep, hL', hL2, _⟩ := hns
    have hL' : h₁.get? L = some oL := hL'
    rw [z, he1] at hL'
    cases hL'
    have : (Data.fields #[.ref t0, .none, .none, .none, .bool false, .none]) = Data.dict es ep := hL2
    cases this
  have kA : ∀ b o, b ≠ a → h₁.get? b = some o → h4.get? b = some o := fun b o n e => k4 b o n (k3 b o e)
  have X4 : K.In h4 := fun b o e => kA b o (fun z => by rw [z, hKa] at e; cases e) (X1 b o e)
  have hns4 : h4.Ns L (fun y => List.lookup y [(gv, u), (slf, Value.ref a)]) := hns.at fun o e => kA L o aL e
  refine PySem.ks_wpAt_execs_cons (PySem.ks_wpAt_Assign_Attr ?_ (T.sw2 L))
  refine wpAt_of_wpAny (wpAny_Name (wpAny_loadName_local T.kind T.nGv hns4 m2 ?_) T.dGv)
  refine wpAny_Name (wpAny_loadName_local T.kind T.nSlf hns4 m1 ?_) T.dSlf
  have he4 : h4.get? a = some (PySem.W.excObj C (h2.push (PySem.W.kxs_mw "KeyError.__init__" a)).objs.size none .none) := e4
  have I4 : PySem.W.InstAt h4 a (PySem.W.excObj C (h2.push (PySem.W.kxs_mw "KeyError.__init__" a)).objs.size none .none) C none := ⟨he4, rfl, rfl, trivial⟩
  have hsz4 : hp.objs.size ≤ h4.objs.size := by
    have z1 : L < h₁.objs.size := by
      obtain ⟨oL, es, ep, hL', _⟩ := hns
      exact Heap.lt_size hL'
    have z2 := Heap.lt_size e2
    have z3 := Heap.lt_size hu
    have z4 := Heap.lt_size t4
    rw [hL]
    exact Nat.le_of_lt (Nat.lt_trans z1 (Nat.lt_trans z2 (Nat.lt_trans z3 z4)))
  refine PySem.W.set_plain X4 I4 T.sa (PySem.W.osa_openX store_KeyError X4 I4 T.ovr T.tak (fun b => ?_))
  show wpAny _ _ (Builtin.ObjectAttr.storeInOwnDict (.ref a) (.ref C) _ f u b) _ _ _
  have hcls : PySem.W.Looks (model P w) h4 (classData C) cdC := PySem.W.looks_clsIn X4 hCc
  have hhd : cdC.hasDict = true := by
    have := T.hasD
    rw [hCc] at this
    exact Option.some.inj this
  have hxs : a ≠ h4.objs.size := Nat.ne_of_lt (Heap.lt_size he4)
  obtain ⟨nm', bs', mro', ns', qn', hd', sn', sb', ab', col', del'⟩ := cdC
  dsimp only at hhd
  subst hhd
  unfold Builtin.ObjectAttr.storeInOwnDict Builtin.ObjectAttr.ownDictForStores
  repeat (first | with_reducible refine PySem.HandSPX.store_in_new ?_ ?_ | with_reducible refine wpAny_loadPart_at he4 ?_ | with_reducible refine hcls.at ?_ | wp_step)
  · exact ⟨_, #[], _, (Heap.get?_update_ne _ _ _ _ hxs.symm).trans (Heap.get?_push_at rfl rfl), rfl, fun e he => absurd he (by simp), fun _ => rfl⟩
  · intro h5 tk5 hn5 hs5
    refine wpAt_of_wpAny (wpAny_execs_nil ?_)
    have hx₁ : (h4.push { cls := .type "dict", data := .dict #[] }).get? a = some (PySem.W.excObj C (h2.push (PySem.W.kxs_mw "KeyError.__init__" a)).objs.size none .none) := Heap.get?_push_of_some _ he4
    refine hq h5 _ h4.objs.size (h2.push (PySem.W.kxs_mw "KeyError.__init__" a)).objs.size (fun b o hb ho => ?_) hsz4 ?_ hn5
    · have ho4 := kA b o hb (hk b o ho)
      exact (hs5.2 b (Nat.ne_of_lt (Heap.lt_size ho4))).trans ((Heap.get?_update_ne _ _ _ _ hb).trans (Heap.get?_push_of_some _ ho4))
    · exact (hs5.2 a hxs).trans (Heap.get?_update_self _ hx₁ rfl)
end
section
variable {X : Cx} {e : Expr} {ta : TA} {p pos : Pos} {C fI : Addr} {slf gv f : Str} {k : Nat}
theorem pmk_supk {x : Str} (T : SupK X.prog X.K C fI slf gv f) (hr : Room (k + 1) X.A) (hsu : X.mg "super" = none) (hg : Gl X x) (hm : X.mg x = some (.ref C)) (ha : PA X [e] ta)
    (hdb : (x == ("__debug__" : Str)) = false := by decide) (he : starEach [e] X.env = (false, eval e X.env) :: starEach [] X.env := by rfl) (hpl : (backTo pos (starEach [] X.env)).any (·.1) = false := by rfl) :
    PMk X (.Call (.Name x p) [e] [] pos) (tMkS C f ta) := by
  intro pins s σ H Q I h
  refine wpAny_Call_Name_kw (ld_glob I hg hm ?_ hdb)
  refine PySem.W.callWith_K (h₀ := X.base) I.ok.mod.kin T.kC (thn (ha.run pos pins s σ H _ I h) fun us s1 ⟨vs, H1, I1, r1, v, ev, q1⟩ => ⟨I1.kIn, ?_⟩) he hpl
  subst ev
  obtain ⟨u, rfl, ru⟩ : ∃ u, us = [u] ∧ L2.RelV v u := by
    cases r1 with
    | cons r t =>
      cases t
      exact ⟨_, rfl, r⟩
  show wpAny _ _ (call (.ref C) [u]) _ _ _
  obtain ⟨nm, N, qn, bs, bm, hdct, sn, sub, ab, col, dd, k0, k1, k2, k3, k5, hC, hT⟩ := PySem.W.excInit_of I1.kIn T.ini
  obtain ⟨hp, g, dr, tk, os⟩ := s1
  have kk : ∀ b o, hp.get? b = some o → ((hp.push (PySem.W.kdv_tup [u])).push (PySem.HandSPX.excO C hp.objs.size)).get? b = some o := fun b o e => Heap.get?_push_of_some _ (Heap.get?_push_of_some _ e)
  have hget : ((hp.push (PySem.W.kdv_tup [u])).push (PySem.HandSPX.excO C hp.objs.size)).get? (hp.objs.size + 1) = some (PySem.HandSPX.excO C hp.objs.size) := by heap_get
  have hsz : ((hp.push (PySem.W.kdv_tup [u])).push (PySem.HandSPX.excO C hp.objs.size)).objs.size = hp.objs.size + 2 := by rw [Heap.size_push, Heap.size_push]
  obtain ⟨mb, hb1, hb2⟩ := I1.mod.blt
  have hK : X.K.lookup (hp.objs.size + 1) = none := by
    cases z : X.K.lookup (hp.objs.size + 1) with
    | none => rfl
    | some o =>
      have h9 := Heap.lt_size (show hp.get? (hp.objs.size + 1) = some o from I1.kIn _ _ z)
      exact absurd (Nat.lt_trans (Nat.lt_succ_self _) h9) (Nat.lt_irrefl _)
  refine wpAny_call (DL.key_call hT hC (PySem.W.looks_findIn I1.kIn T.nw) (fun slf => PySem.W.bind_fn I1.kIn slf T.fnT) (by show 1 ≤ sizeLine; decide) ?_)
  have hr' : Room k (X.A.under (.builtin "type.__call__" ⟨.ref C :: [u], []⟩)) := hr.make C [u] []
  generalize hh2 : (hp.push (PySem.W.kdv_tup [u])).push (PySem.HandSPX.excO C hp.objs.size) = h2 at kk hget hsz
  have kb : ∀ b o, X.base.get? b = some o → h2.get? b = some o := fun b o z => kk b o (I1.bk b o z)
  show codeAny _ _ (.call (.ref fI) ⟨[.ref (hp.objs.size + 1), u], []⟩) _ ⟨h2, g, dr, tk, os⟩
  refine supk_init (s := ⟨h2, g, dr, tk, os⟩) T hr'.depth (I1.ok.mod.kin.keeps kb) (I1.ok.mod.nolimit.keeps kb) (I1.ok.mod.glob.keeps kb) hsu (hb1.keeps kb) ((hb2 "super" (by decide)).trans PyProof.Rows.Boot.«super») (t0 := hp.objs.size) hget hK (fun h' tk' dx t1 k' hdx ha' hn' => ?_)
  have hsz' : h2.objs.size = hp.objs.size + 2 := hsz
  have hda : dx ≠ hp.objs.size + 1 := fun z => by
    have h9 : h2.objs.size ≤ dx := hdx
    rw [hsz', z] at h9
    omega
  have na : ∀ {b : Addr} {o : Obj}, hp.get? b = some o → b ≠ hp.objs.size + 1 := fun z e => by
    have h9 := Heap.lt_size z
    rw [e] at h9
    exact absurd (Nat.lt_trans (Nat.lt_succ_self _) h9) (Nat.lt_irrefl _)
  obtain ⟨G, g1, g2⟩ := restrict h' fun b => decide (b ≠ hp.objs.size + 1)
  have gk : ∀ b, b ≠ hp.objs.size + 1 → G.get? b = h'.get? b := fun b hb => g1 b (decide_eq_true hb)
  have ge : G.get? (hp.objs.size + 1) = none := g2 _ (by simp)
  have kG : ∀ b o, hp.get? b = some o → G.get? b = some o := fun b o z => (gk b (na z)).trans (k' b o (na z) (kk b o z))
  have hdx1 : hp.objs.size ≤ dx := by
    have h9 : h2.objs.size ≤ dx := hdx
    rw [hsz'] at h9
    omega
  have J : Inv X pins σ (upd H1 dx (.xd [(f, v)])) ⟨G, g, dr, tk', os⟩ := by
    refine I1.laid (t' := tk') (a := dx) (o := .xd [(f, v)]) (h' := G) kG hdx1 ?_
    refine ⟨_, hn'.at fun o y => (gk dx hda).trans y, fun y => ?_⟩
    by_cases c : y = f
    · subst c
      rw [if_pos rfl, show List.lookup y [(y, v)] = some v by simp [List.lookup]]
      exact ru
    · have e : (y == f) = false := by simpa using c
      rw [if_neg c]
      simp [List.lookup, e]
      trivial
  refine ⟨rfl, hp.objs.size + 1, _, _, ⟨G, g, dr, tk', os⟩, upd H1 dx (.xd [(f, v)]), .ref C, some dx, rfl, J, fun b o z => ?_, ge, ha', ⟨rfl, rfl⟩, rfl, rfl, ?_, rfl, I1.bare, raises_own T.exC T.tyC, q1 dx (I1.hok.fresh hdx1)⟩
  · by_cases c : b = hp.objs.size + 1
    · rw [c] at z
      rw [show G.get? (hp.objs.size + 1) = none from ge] at z
      cases z
    · exact (gk b c).symm.trans z
  · rw [upd_ne (Ne.symm hda)]
    exact I1.hok.fresh (Nat.le_succ _)
end
end DL
namespace PySem.W
open PySem PySem.Spec PySem.Calls PyProof.Rows Builtin Builtin.ObjectAttr Builtin.Getset_descriptor
section
variable {prog : Program} {w : World} {A : Around} {E : Value → Shared → Prop} {R : Result → Shared → Prop} {s : Shared} {K : Frag} {x D : Addr} {ox : Obj}
/-- an error's object: of its class, with or without a dict -/
def ErrAt (h : Heap) (x : Addr) (ox : Obj) (D : Addr) : Prop := h.get? x = some ox ∧ ox.cls = .ref D ∧ notCls ox = true
theorem ErrAt.type {M : Model} {h : Heap} (I : ErrAt h x ox D) : Looks M h (typeOf (.ref x)) (.ref D) := I.2.1 ▸ (Looks.ld I.1).andThen .now
theorem find_data {M : Model} {h : Heap} {a g : Value} {name : Str} (X : K.In h) (ha : findIn K (.ref D) name = some (some a)) (hn : specialIn K a "__get__" = some (some g)) (ht : takesIn K a = some true) : Looks M h (find (.ref x) (.ref D) name) (.bind g a) :=
  (looks_findIn X ha).andThen ((looks_specialIn X hn : Looks M h (getOf (some a)) (some g)).andThen ((show Looks M h (dataDescriptor? (some a) (some g)) (some (g, a)) from (looks_takesIn X ht).andThen .now).andThen (Looks.tag .now)))
theorem class_getE {tp : Value} (X : K.In s.heap) (I : ErrAt s.heap x ox D) (hm : mroIn K D (.type "object") = some true)
    (h : R (.ok (.ret (.ref D))) s) : codeAny (model prog w) A (.call (.builtin "getset_descriptor.__get__") ⟨[.builtin "object.__class__", .ref x, tp], []⟩) R s := by
  obtain ⟨hh, g, dr, t, os⟩ := s
  have L0 := I.type (M := model prog w)
  have L1 := looks_mroIn (M := model prog w) X hm
  refine codeAny_call_builtin KF.slot_gs.plain KF.entry_gs (KF.slot_gs.check _ _ _ _ _ _ _ _ KF.type_class (KF.args_gs _ _ _) ?_)
  unfold Builtin.«getset_descriptor.__get__» descrGet
  rw [dga_obj]
  refine wpAny_bind (wpAny_pure ?_)
  unfold descrGetter descrCheckInstance descrNameAndClass isInstance
  simp only [KF.owner_class]
  repeat lk
  refine ⟨Code.quiet_builtin _ (by decide +kernel), codeAny_builtin KF.entry_class ?_⟩
  unfold Builtin.«object.__class__» shownTypeOf
  repeat lk
  exact h
theorem kin_classE2 {Q : Option Value → Shared → Prop} (hga : findIn K (.ref D) "__getattribute__" = some (some (.builtin "BaseException.__getattribute__"))) (hgt : findIn K (.ref D) "__getattr__" = some none) (hsub : subIn K (.ref D) (.type "BaseException") = some true)
    (ha : findIn K (.ref D) "__class__" = some (some (.builtin "object.__class__")))
    (hn : specialIn K (.builtin "object.__class__") "__get__" = some (some (.builtin "getset_descriptor.__get__"))) (htk : takesIn K (.builtin "object.__class__") = some true) (hm : mroIn K D (.type "object") = some true)
    (X : K.In s.heap) (I : ErrAt s.heap x ox D) (h : Q (some (.ref D)) { s with toks := s.toks + 1 }) : wpAny (model prog w) A (getAttr? (.ref x) "__class__") Q E s := by
  obtain ⟨hp, g, d, t, os⟩ := s
  have L0 := I.type (M := model prog w)
  have L1 := looks_findIn (M := model prog w) X hga
  have L2 := looks_findIn (M := model prog w) X hgt
  have L3 : Looks (model prog w) hp (find (.ref x) (.ref D) "__class__") (.bind (.builtin "getset_descriptor.__get__") (.builtin "object.__class__")) := find_data X ha hn htk
  have sub : Looks (model prog w) hp (isInstance (.ref x) (.type "BaseException")) true := L0.andThen (looks_subIn X hsub)
  have hx0 : (false && onTheHeap (Value.builtin "BaseException.__getattribute__")) = false := rfl
  have hx2 : (Value.builtin "BaseException.__getattribute__" == Value.builtin "object.__getattribute__") = false := by decide +kernel
  have hx1 : (onTheHeap (Value.ref D) && Value.builtin "BaseException.__getattribute__" == Value.builtin "object.__getattribute__") = false := by rw [hx2]; rfl
  unfold getAttr? getAttrBy? getAttrBy
  refine wpAny_bind (wpAny_mkText (wpAny_bind (wpAny_attempt (wpAny_holding (wpAny_bind (L0.at (wpAny_bind (L1.at ?_))))))))
  show wpAny _ _ (if (onTheHeap (Value.ref D) && Value.builtin "BaseException.__getattribute__" == Value.builtin "object.__getattribute__") = true then _ else _) _ _ _
  rw [hx1, if_neg Bool.false_ne_true]
  unfold getAttrByItsOwn hookBefore
  refine wpAny_bind ?_
  rw [if_pos (show onTheHeap (Value.ref D) = true from rfl)]
  refine L2.at ?_
  refine wpAny_bind (wpAny_attempt (wpAny_holding ?_))
  unfold callGetattribute
  rw [hx0, if_neg Bool.false_ne_true]
  unfold boundAndCalled
  rw [PySem.F.excAttr_ValueError.ga.bind (.ref x)]
  refine wpAny_bind (wpAny_pure ?_)
  show wpAny _ _ (call (.builtin "BaseException.__getattribute__") [.ref x, .str "__class__" t]) _ _ _
  refine wpAny_call (codeAny_call_builtin PySem.F.excAttr_ValueError.ga.plain PySem.F.entry_bexc_ga ?_)
  refine @check_slot (model prog w) _ _ ⟨hp, g, d, t + 1, os⟩ "BaseException.__getattribute__" "BaseException" "__getattribute__" (.ref x) [.str "__class__" t] [] _ (by decide +kernel) (by decide +kernel) sub (PySem.F.args_bexc_ga (.ref x) (.str "__class__" t)) ?_
  unfold Builtin.«object.__getattribute__»
  refine wpAny_bind (wpAny_of_eq (a := ((Value.ref x : Value), [Value.str "__class__" t])) (by first | rfl | (simp only [slotArgs]; rfl)) ?_)
  refine wpAny_bind (wpAny_pure (wpAny_bind (L0.at (wpAny_bind (L3.at ?_)))))
  show wpAny _ _ (holding [Value.builtin "object.__class__"] (call (.builtin "getset_descriptor.__get__") [.builtin "object.__class__", .ref x, .ref D]) >>= ret) _ _ _
  refine wpAny_bind (wpAny_holding (wpAny_call (class_getE (s := ⟨hp, g, d, t + 1, os⟩) (ox := ox) X I hm ?_)))
  refine wpAny_pure ?_
  show wpAny _ _ (handedOut (.ref D)) _ _ _
  rw [handedOut_of (v := .ref D) rfl]
  first
    | exact wpAny_pure (wpAny_pure h)
    | exact wpAny_pure h
    | exact wpAny_pure (wpAny_bind (wpAny_pure (wpAny_pure h)))
theorem kitx_err (hga : findIn K (.ref D) "__getattribute__" = some (some (.builtin "BaseException.__getattribute__"))) (hgt : findIn K (.ref D) "__getattr__" = some none) (hsub : subIn K (.ref D) (.type "BaseException") = some true) (hdct : hasDictIn K D = true) (ha : findIn K (.ref D) "__class__" = some (some (.builtin "object.__class__")))
    (hn : specialIn K (.builtin "object.__class__") "__get__" = some (some (.builtin "getset_descriptor.__get__"))) (htk : takesIn K (.builtin "object.__class__") = some true) (hm : mroIn K D (.type "object") = some true) :
    KitX K (.ref x) (.ref D) (fun h => ErrAt h x ox D) where
  ty := fun _ _ _ I => I.type
  it := fun _ _ X _ => by
    obtain ⟨cdD, hcD, _⟩ := any_some hdct
    unfold clsIn at hcD
    split at hcD
    · rename_i c' d' cd' sl' ho
      intro A' Q' E' s' k q
      unfold isType loadHead
      exact wpAny_bind (wpAny_loadPart (k _ _ (X _ _ ho)) (wpAny_pure q))
    · cases hcD
  ne := fun h tp dd its n sl X htp => by
    obtain ⟨cdD, hcD, _⟩ := any_some hdct
    refine Bool.eq_false_iff.mpr fun q => ?_
    have e : D = tp := Value.ref.inj (beq_iff_eq.mp q)
    subst e
    unfold clsIn at hcD
    split at hcD
    · rename_i c' d' cd' sl' ho
      have z := (X _ _ ho).symm.trans htp
      cases z
    · cases hcD
  ca := fun X I k => kin_classE2 hga hgt hsub ha hn htk hm X I k
end
end PySem.W
namespace DL
open PySem PySem.Spec PyProof.Rows L2 Evl
/-- isinstance(e, c), e a pinned error -/
def rIsF (K : PySem.W.Frag) (D a : Addr) : List V → Hp → VK → Prop := fun xs H Q => ∃ (c : V) (cv : Value) (b : Bool), xs = [.ref a, c] ∧ (∀ u, RelV c u → u = cv) ∧ PySem.W.kitOne K (.ref D) cv = some b ∧ Q (.bl b) H
theorem call_isF {X : Cx} {D : Addr} {p : Addr × Obj} (hp : p ∈ X.pn) (C : ExcC X.K D) (hz : p.2.cls = .ref D) (hf : ∃ vs, p.2.data = .fields vs) : CallR X (.builtin "isinstance") (rIsF X.K D p.1) := by
  intro pins s σ H xs us Q I r h
  obtain ⟨c, cv, b, rfl, hcv, e, q⟩ := h
  cases r with
  | cons rx rr =>
    cases rr with
    | cons rt rr =>
      cases rr
      cases rx
      have ec := hcv _ rt
      subst ec
      obtain ⟨hget, _⟩ := I.pin p (List.mem_append_left _ hp)
      obtain ⟨vs, hv⟩ := hf
      have J : PySem.W.ErrAt s.heap p.1 p.2 D := ⟨hget, hz, by unfold PySem.W.notCls; rw [hv]⟩
      exact PySem.W.kia_one (PySem.W.kitx_err C.hg C.hk C.hs C.hd C.ha C.hn C.ht C.hm) I.kIn J e (fun z => nomatch z) fun tk => ⟨.bl b, H, I.kept (t' := tk) fun _ _ z => z, rfl, q⟩
open L2H
/-- what a def promises that is called within an except suite with the error (its address, its class) -/
structure FnHp (P : Program) (w : World) (K : PySem.W.Frag) (mg : Str → Option Value) (base : Heap) (k : Nat) (f : Addr) (fd : FuncData) (ps : List Str) (sp : Addr → Value → Sp) : Prop where
  len : ∀ a c vs H Q E, sp a c vs H Q E → vs.length = ps.length
  run : ∀ (A : Around) (outer : List Env) (s : Shared) (H : Hp) (args : Args) (us : List Value) (vs : List V) (Q : VK) (E : XK) (p : Addr × Obj), RoomH k A → (∃ vs, p.2.data = .fields vs) → PinOk outer H s p → Env0 P w K mg base A outer s H → BindsTo s fd args (ps.zip us) → Vals vs us → sp p.1 p.2.cls vs H Q E →
    codeAny (model P w) A (.call (.ref f) args) (CR CX0 outer P w H s Q E) s
theorem fn_ofHp {P : Program} {w : World} {K : PySem.W.Frag} {mg : Str → Option Value} {base : Heap} {k : Nat} {f : Addr} {name qual : Str} {params : Arguments} {body : List Stmt} {scope : Scope} {dV kV doc pm cdv ct oc : Value} {an od : Option Addr}
    {osl : Array (Option Value)} {N ps : List Str} {sp : Addr → Value → Sp} (lk : K.lookup f = some ⟨oc, od, .func (PySem.W.fnOf name qual params body scope dV kV doc pm an cdv ct), osl⟩) (hcd : PySem.W.codeIn K cdv qual = true) (S : FnScope N ps scope)
    (len : ∀ a c vs H Q E, sp a c vs H Q E → vs.length = ps.length)
    (hbody : ∀ (A : Around) (outer : List Env) (s : Shared) (H : Hp) (vs : List V) (Q : VK) (E : XK) (p : Addr × Obj), (∃ vs, p.2.data = .fields vs) → RoomH k (A.deeper (envOfC qual scope s.heap.objs.size f cdv)) → sp p.1 p.2.cls vs H Q E →
      ∃ t, PSs (cxH CX0 P w K mg base N qual scope f cdv A outer s H E p) body t ∧ t { nx := fun _ H' => Q .non H', rt := Q } (L2.start N vs) H) :
    FnHp P w K mg base (k + 1) f (PySem.W.fnOf name qual params body scope dV kV doc pm an cdv ct) ps sp := by
  refine ⟨len, fun A outer s H args us vs Q E p hr hf hpin e0 hb r hsp => ?_⟩
  have hl := len _ _ _ _ _ _ hsp
  have KX : K.In s.heap := e0.mod.kin.keeps fun b o e => (e0.bs b o e).1
  have lim : s.heap.NoLimit := e0.mod.nolimit.keeps fun b o e => (e0.bs b o e).1
  have hkind : ∀ y ∈ ps.zip us, scope.names.lookup y.1 = some .local ∨ (scope.names.lookup y.1 = some .cell ∧ ((cellsFrom (s.heap.objs.size + 1) scope.names []).lookup y.1).isSome = true) := fun ⟨n, v⟩ hy => by
    rcases S.par n (List.of_mem_zip hy).1 with q | q
    · exact .inl q
    · exact .inr ⟨q, PySem.W.cellsFrom_some _ _ _ (.inl q)⟩
  refine codeAny_call_function hr.depth (KX _ _ lk) rfl S.co S.gen rfl (PySem.W.codeRec_of KX hcd) (hb _ _ _ _ ?_)
  refine wpAny_newFunctionEnv_cells S.kind hkind fun env he s1 x => ?_
  subst he
  refine ⟨lim.keeps x.toInCall.keep, codeAny_func ?_⟩
  obtain ⟨t, ht, hq⟩ := hbody A outer s H vs Q E p hf (hr.deeper _) hsp
  have I : Inv (cxH CX0 P w K mg base N qual scope f cdv A outer s H E p) [] (L2.start N vs) H s1 := inv_startH S hpin e0 hl r x
  refine wpAny_mono (ht.run [] s1 (L2.start N vs) H _ I hq) (fun fl s' hs => ?_) fun e s' hs => hs
  have fin : ∀ {σ' : L2.St} {H' : Hp} {v : V} {u : Value}, Inv (cxH CX0 P w K mg base N qual scope f cdv A outer s H E p) [] σ' H' s' → RelV v u → Q v H' → CE outer P w H s Q u s' :=
    fun {σ' H' v u} J rv q => ⟨v, H', J.os, J.bare, J.base, J.hok, rv, q⟩
  cases fl with
  | ret u =>
    obtain ⟨v, σ', H', J, rv, q⟩ := hs
    exact fin J rv q
  | next =>
    obtain ⟨σ', H', J, q⟩ := hs
    exact fin (v := V.non) (u := Value.none) J rfl q
  | brk =>
    obtain ⟨_, _, _, q⟩ := hs
    exact False.elim q
  | cont =>
    obtain ⟨_, _, _, q⟩ := hs
    exact False.elim q
section
variable {X : Cx} {k : Nat} {f : Addr} {fd : FuncData} {ps : List Str} {sp : Addr → Value → Sp} {x : Str} {q pos : Pos} {e : Expr} {es : List Expr} {t : TA}
theorem run_fnHp {pins : List (Addr × Obj)} {σ : L2.St} {H : Hp} {s : Shared} {Q : VK} {us : List Value} {vs : List V} {p : Addr × Obj} (F : FnHp X.prog X.w X.K X.mg X.base k f fd ps sp) (hr : RoomH k X.A) (hp : p ∈ X.pn) (hf : ∃ vs, p.2.data = .fields vs) (hb : Binds X.K fd ps [])
    (I : Inv X pins σ H s) (r : Vals vs us) (h : sp p.1 p.2.cls vs H Q fun _ _ _ => False) : wpAny (model X.prog X.w) X.A (call (.ref f) us) (EP X pins σ Q) X.xe s := by
  have hl : us.length = ps.length := by rw [← r.length]; exact F.len _ _ _ _ _ _ h
  have b := hb s us I.kIn (by rw [List.append_nil]; exact hl)
  rw [List.append_nil] at b
  have P1 := I.pin p (List.mem_append_left _ hp)
  have hpin : PinOk X.stack H s p := ⟨P1.1, P1.2.1, fun hm => (List.mem_cons.mp (I.stkSub p.1 hm)).elim P1.2.2.1 P1.2.2.2.1, P1.2.2.2.2⟩
  refine wpAny_call (codeAny_mono (F.run X.A X.stack s H ⟨us, []⟩ us vs Q _ p hr hf hpin I.env0 b r h) fun r s' hq => ?_)
  cases r with
  | error e => exact hq.elim
  | ok fl =>
    cases fl with
    | ret u => exact I.after hq
    | next => exact False.elim hq
    | brk => exact False.elim hq
    | cont => exact False.elim hq
def tCallHp (sp : Addr → Value → Sp) (a : Addr) (c : Value) (t : TA) : TE := fun σ H Q => t σ H fun vs H1 => sp a c vs H1 Q fun _ _ _ => False
theorem pe_callHp {p : Addr × Obj} (F : FnHp X.prog X.w X.K X.mg X.base k f fd ps sp) (hr : RoomH k X.A) (hp : p ∈ X.pn) (hf : ∃ vs, p.2.data = .fields vs) (hg : Gl X x) (hm : X.mg x = some (.ref f)) (hk : PySem.W.keepIn X.K (.ref f) = true) (hb : Binds X.K fd ps [])
    (ha : PA X (e :: es) t) (hdb : (x == ("__debug__" : Str)) = false := by decide) (he : starEach (e :: es) X.env = (false, eval e X.env) :: starEach es X.env := by rfl) (hpl : (backTo pos (starEach es X.env)).any (·.1) = false := by rfl) :
    PE X (.Call (.Name x q) (e :: es) [] pos) (tCallHp sp p.1 p.2.cls t) := by
  refine ⟨fun pins s σ H Q I h => ?_⟩
  refine wpAny_Call_Name_kw (ld_glob I hg hm ?_ hdb)
  refine PySem.W.callWith_K (h₀ := X.base) I.ok.mod.kin hk (thn (ha.run pos pins s σ H _ I h) fun us s1 ⟨vs, H1, I1, r, q⟩ => ⟨I1.kIn, ?_⟩) he hpl
  exact run_fnHp F hr hp hf hb I1 r q
end
end DL
namespace DL
open PySem PySem.Spec PyProof.Rows L2 Evl L2H
variable [CTab] [Base]
def raise1W (S : List Nat) (n : Str) (a : WE) : WSX := fun R _ ρ => a (tells S ρ) fun _ => R (n, none)
section
variable {K : PySem.W.Frag} {mg : Str → Option Value} {T : List Addr} {S : List Nat} {E : XK} {te : TE} {wa : WE} {C : Addr} {nm : Str}
theorem dsx_raise1 (hm : mg nm = some (.ref C)) (ha : DE K T te wa) : DSX K mg T E (fun _ σ H => te σ H fun _ H1 => E (.ref C) none H1) (raise1W S nm wa) := fun B B1 σ ρ H H1 F W D R M x h0 => by
  have e := tell_ex (S := S) F.o F.g.sub
  refine ha σ _ _ (F.told (S := S)) _ h0 H1 e.2 _ fun v d Hk H2 g r p => ?_
  exact x (nm, none) _ _ _ _ ((F.toldG (S := S)).trans g) hm p
/-- isinstance(x, c), x the pinned error at a -/
def isEW (i : Nat) (a : Addr) (b : Bool) : WE := fun ρ Q => ρ[i]? = some (some (.pin a)) ∧ Q (.bool b)
theorem de_isF {i : Nat} {a D : Addr} {c : V} {cv : Value} {b : Bool} (hc : ∀ u, RelV c u → u = cv) (hk : PySem.W.kitOne K (.ref D) cv = some b) : DE K T (tCB (rIsF K D a) (tCons (tVar i) (tCons (tC c) tNil))) (isEW i a b) := fun σ ρ H F P h H1 e Q q => by
  obtain ⟨h1, h2⟩ := h
  have hs : σ[i]? = some (some (.ref a)) := by
    have := F.sl i
    rw [h1] at this
    exact this
  exact ⟨_, hs, c, cv, b, rfl, hc, hk, q (.bl b) (.bool b) H H1 (Grow.refl e) (.bl b) h2⟩
end
end DL
namespace DL
open PySem PySem.Spec PyProof.Rows L2 Evl L2H
variable [CTab]
theorem Fun.okHp {P : Program} {w : World} {K : PySem.W.Frag} {mg : Str → Option Value} {base : Heap} {x qual : Str} {st : Stmt} {f : Addr} {fd : FuncData} {N ps : List Str} {k : Nat} {sp : Addr → Value → Sp} (F : Fun K x qual st f fd) (S : FnScope N ps (defScope st))
    (many : ∀ a c vs H Q E, sp a c vs H Q E → vs.length = ps.length)
    (body : ∀ (cdv : Value) (A : Around) (outer : List Env) (s : Shared) (H : Hp) (vs : List V) (Q : VK) (E : XK) (p : Addr × Obj), (∃ vs, p.2.data = .fields vs) → RoomH k (A.deeper (envOfC qual (defScope st) s.heap.objs.size f cdv)) → sp p.1 p.2.cls vs H Q E →
      ∃ t, PSs (cxH CX0 P w K mg base N qual (defScope st) f cdv A outer s H E p) (defBody st) t ∧ t { nx := fun _ H' => Q .non H', rt := Q } (start N vs) H) :
    FnHp P w K mg base (k + 1) f fd ps sp := by
  obtain ⟨oc, od, kV, doc, pm, an, cdv, ct, osl, rfl, lk, hcd⟩ := F.ex
  exact fn_ofHp lk hcd S many fun A outer s H vs Q E p hf hr hsp => body cdv A outer s H vs Q E p hf hr hsp
theorem roomH_mark {k : Nat} {A : Around} {v : Option Value} (hr : Room k A) : RoomH k (A.mark v) := ⟨hr.dp, hr.un⟩
/-- the classes: their names, their fields, what is asked of each -/
structure Told where
  NS : Nat → Str
  FL : Nat → Str
  CA : Nat → Addr
  flag : Nat → Nat → Bool
  xm : Nat → Nat → Bool
def Told.fl (t : Told) (i : Nat) : List PyData := (List.range 23).map fun j => .bool (t.flag i j)
def Told.w (t : Told) (x : XD) (P : PyData → Prop) : Prop := ∃ i, i < 17 ∧ ((i < 11 ∧ x = (t.NS i, none) ∧ P (.tuple [.list (t.fl i), .none])) ∨ (11 ≤ i ∧ ∃ z, x = (t.NS i, some (t.FL i, z)) ∧ P (.tuple [.list (t.fl i), z])))
/-- what the def of the flags promises -/
def Told.sp (t : Told) (K : PySem.W.Frag) (T : List Addr) (wf : Addr → (Nat → Bool) → List Sl → (PyData → Prop) → Prop) : Addr → Value → Sp := fun a c vs H Q E => ∃ i, i < 17 ∧ c = .ref (t.CA i) ∧ spW K T 1 (wf a (t.flag i)) vs H Q E
def Told.kept (t : Told) (m j : Nat) (k : Bool) (a : Addr) (cls : Value) (d : Option Addr) : TE := bif k then tXf a cls d (t.CA j) (t.FL j) (tVar m) else tC .non
def Told.ts (t : Told) (K : PySem.W.Frag) (T : List Addr) (wf : Addr → (Nat → Bool) → List Sl → (PyData → Prop) → Prop) (m j : Nat) (k : Bool) : Addr → Value → Option Addr → TS := fun a cls d => tRet (tTup (tCons (tCallHp (t.sp K T wf) a cls (tCons (tVar m) tNil)) (tCons (t.kept m j k a cls d) tNil)))
def Told.hds (t : Told) (K : PySem.W.Frag) (T : List Addr) (wf : Addr → (Nat → Bool) → List Sl → (PyData → Prop) → Prop) (m : Nat) (hs : List (Nat × Bool)) : List Hd1 := hs.map fun p => ⟨.ref (t.CA p.1), some m, t.ts K T wf m p.1 p.2⟩
section
variable {t : Told} {K : PySem.W.Frag} {mg : Str → Option Value} {T : List Addr} {wf : Addr → (Nat → Bool) → List Sl → (PyData → Prop) → Prop} {m : Nat} {Wout : WX} {D : Ends} {d : Option Addr} {σ : L2.St} {H : Hp} {i : Nat}
theorem wHds_go {j : Nat} {k : Bool} : ∀ {hs : List (Nat × Bool)}, (∀ p ∈ hs, PySem.W.exmOne K (.ref (t.CA i)) (.ref (t.CA p.1)) = some (t.xm i p.1)) → hs.find? (fun p => t.xm i p.1) = some (j, k) →
    (∀ a, H a = none → t.ts K T wf m j k a (.ref (t.CA i)) d (Hd1.ends D (some m)) (Hd1.slot σ a (some m)) H) → wHds K Wout D (t.hds K T wf m hs) (.ref (t.CA i)) d σ H
  | [], _, hf, _ => by cases hf
  | p :: hs, hx, hf, ht => by
    refine ⟨t.xm i p.1, hx p (.head _), fun e a na => ?_, fun e => ?_⟩
    · rw [List.find?_cons, e] at hf
      cases hf
      exact ht a na
    · rw [List.find?_cons, e] at hf
      exact wHds_go (fun q m => hx q (.tail _ m)) hf ht
/-- the suite -/
theorem suite_ok (hw : ∀ (a : Addr) (fl : Nat → Bool) (P : PyData → Prop), P (.list ((List.range 23).map fun j => .bool (fl j))) → wf a fl [.pin a] P) {j : Nat} {k : Bool} {H0 H1 Hk : Hp} {z : PyData} {P : PyData → Prop} {Q : VK} {a : Addr} (g : Grow H0 H1 Hk H) (hT : Tabs T H0) (hi : i < 17) (hm : m < σ.length)
    (hz : (k = false ∧ z = .none) ∨ (k = true ∧ j = i ∧ ∃ dx v, d = some dx ∧ Hk dx = some (.xd [(t.FL i, v)]) ∧ Rp K Hk v z)) (p : P (.tuple [.list (t.fl i), z])) (hD : D.rt = Q)
    (hq : ∀ u z Hk2 H2, Grow H0 H1 Hk2 H2 → Rp K Hk2 u z → P z → Q u H2) : t.ts K T wf m j k a (.ref (t.CA i)) d (Hd1.ends D (some m)) (Hd1.slot σ a (some m)) H := by
  have hs : (σ.set m (some (V.ref a)))[m]? = some (some (V.ref a)) := by rw [List.getElem?_set_self hm]
  refine ⟨_, hs, i, hi, rfl, Hk, [.pin a], g.sub, ?_, .cons rfl .nil, rfl, fun z => z = .list (t.fl i), hw a _ _ rfl, fun u z2 Hk2 H2 g2 r2 e2 => ?_⟩
  · exact hT.mono g.known
  subst e2
  have fin : ∀ (v : V), Rp K Hk2 v z → ∀ ad, H2 ad = none → (Hd1.ends D (some m)).rt (.ref ad) (upd H2 ad (.tup [u, v])) := fun v rv ad hn => by
    have g3 := Grow.new g2.sub hn (.tup [u, v])
    show D.rt _ _
    rw [hD]
    exact hq _ _ _ _ ((g.trans g2).trans g3) (.tup (.inl upd_same) (.cons (r2.mono g3.known) (.cons (rv.mono g3.known) .nil))) p
  rcases hz with ⟨rfl, rfl⟩ | ⟨rfl, rfl, dx, v, rfl, hdx, rv⟩
  · exact ⟨by show 2 ≤ sizeLine; decide, fun ad hn => fin .non .non ad hn⟩
  · refine ⟨.ref a, hs, rfl, rfl, dx, [(t.FL j, v)], v, rfl, g2.sub _ _ (g2.known _ _ hdx), by simp [List.lookup], ?_⟩
    exact ⟨by show 2 ≤ sizeLine; decide, fun ad hn => fin v (rv.mono g2.known) ad hn⟩
end
end DL
namespace DL
open PySem PySem.Spec PyProof.Rows L2 Evl
variable [CTab]
section
variable {X : Cx}
def rReprD (K : PySem.W.Frag) : List V → Hp → VK → Prop := fun xs H Q => ∃ (a t : Addr) (o : Obj) (k : Str) (x y : Int), xs = [V.ref a] ∧ H a = some (.frz o (.dK [(.inr k, .ref t)])) ∧ H t = some (.tup [.int x, .int y]) ∧
  (PyData.dict [(.str k, .tuple [.int x, .int y])]).showable = true ∧ (PyData.dict [(.str k, .tuple [.int x, .int y])]).depth ≤ 64 ∧ (PyData.dict [(.str k, .tuple [.int x, .int y])]).shown.length ≤ sizeLine ∧ Q (.str (PyData.dict [(.str k, .tuple [.int x, .int y])]).shown) H
theorem call_reprD (hgd : X.A.guards = some []) (hu : X.A.units + 66 < cLine) : CallR X (.builtin "repr") (rReprD X.K) := by
  intro pins s σ H xs us Q I rv h
  obtain ⟨a, t, o, k, x, y, rfl, hd, ht, hs, hp, hz, q⟩ := h
  rw [Vals.ref1 rv]
  obtain ⟨h1, h2, h3, es, ep, vs, h4, h5, kv, h6⟩ := I.frzK hd
  obtain ⟨its, rt, ⟨ot, hot, hct, n, hdt⟩, _⟩ := I.tuple (.inl (.inl ht))
  have rr : Reads s.heap (.ref a) (.dict [(.str k, .tuple [.int x, .int y])]) [a] := by
    obtain ⟨o', es', e1, e2, e3, _, pr, _⟩ := h6
    rw [h2] at e1
    cases e1
    rw [h4] at e3
    cases e3
    cases kv with
    | @cons _ q0 _ _ hq0 tq =>
      cases tq
      obtain ⟨hk, hv⟩ := hq0
      cases rt with
      | cons r1 rt =>
        cases rt with
        | cons r2 rt =>
          cases rt
          obtain ⟨t1, rfl⟩ := r1
          obtain ⟨t2, rfl⟩ := r2
          have et : ∃ en, es.toList = [en] ∧ (mixKind X.prog X.w).is q0.1 en.key = true ∧ en.val = q0.2 := by
            generalize es.toList = el at pr
            cases pr with
            | cons c1 c2 c3 =>
              cases c3
              exact ⟨_, rfl, c1, c2⟩
          obtain ⟨en, ee, ek, ev⟩ := et
          have hk2 : keyIs (.inr k) en.key = true := by
            rw [show (Sum.inr k : Key) = q0.1 from hk]
            exact ek
          obtain ⟨tk, hkey⟩ : ∃ tk, en.key = .str k tk := relV_key hk2
          have hval : en.val = .ref t := by
            rw [ev]
            exact hv
          refine Reads.dict (as := []) (bs := []) h2 h3.1 h4 ?_ ?_
          · rw [ee]
            show ReadsAll s.heap [en.key] [.str k] []
            rw [hkey]
            exact .cons (.str k tk) .nil
          · rw [ee]
            show ReadsAll s.heap [en.val] [.tuple [.int x, .int y]] []
            rw [hval]
            exact .cons (.tuple (as := []) hot hct hdt (.cons (as := []) (bs := []) (.int x t1) (.cons (as := []) (bs := []) (.int y t2) .nil))) .nil
  have hne : sysModules ∉ [a] := fun z => by
    rw [List.mem_singleton.mp z] at h1
    simp at h1
  exact repr_of_reads' rr hs (fun _ => hne) hgd (by omega) (fun _ _ e => e) (fun h' u tk hk => ⟨.str _, H, I.kept hk, ⟨u, rfl⟩, q⟩) hz
def rReprX (K : PySem.W.Frag) : List V → Hp → VK → Prop := fun xs H Q => rRepr K xs H Q ∨ rReprD K xs H Q
theorem kReprX {K : PySem.W.Frag} (h : X.K = K) (hgd : X.A.guards = some []) (hu : X.A.units + 65 < cLine) (hu2 : X.A.units + 66 < cLine := by first | omega | assumption) : CallR X (.builtin "repr") (rReprX K) := h ▸ callOr (call_reprG hgd hu) (call_reprD hgd hu2)
def reprXW : W1
  | [.dict [(.str k, .tuple [.int x, .int y])]], Q => (PyData.dict [(.str k, .tuple [.int x, .int y])]).showable = true ∧ (PyData.dict [(.str k, .tuple [.int x, .int y])]).depth ≤ 64 ∧ (PyData.dict [(.str k, .tuple [.int x, .int y])]).shown.length ≤ sizeLine ∧ Q (.str (PyData.dict [(.str k, .tuple [.int x, .int y])]).shown)
  | ds, Q => reprW ds Q
def rptS (z : Str) (n : Nat) : Str := if n = 1 ∨ z.length = 0 then z else ⟨(List.replicate n z.cps).foldl (· ++ ·) #[]⟩
theorem fold_size' (c : Array Nat) : ∀ (n : Nat) (a : Array Nat), ((List.replicate n c).foldl (· ++ ·) a).size = a.size + n * c.size
  | 0, a => by simp
  | n + 1, a => by
    rw [List.replicate_succ, List.foldl_cons, fold_size' c n, Array.size_append, Nat.succ_mul]
    omega
theorem fold_size (c : Array Nat) (n : Nat) : ((List.replicate n c).foldl (· ++ ·) #[]).size = n * c.size := by rw [fold_size']; simp
/-- x * n -/
def rMulS : R2 := fun x y H Q => ∃ (z : Str) (n : Nat), x = .str z ∧ y = .int n ∧ 1 ≤ n ∧ n ≤ 1000 ∧ z.length ≤ 1000 ∧ Q (.str (rptS z n)) H
theorem op_mulS : OpR X (binaryOp .Mult) rMulS := by
  intro pins s σ H x y v u Q I rx ry h
  obtain ⟨z, n, rfl, rfl, h1, h2, h3, q⟩ := h
  obtain ⟨t, rfl⟩ := rx
  obtain ⟨t', rfl⟩ := ry
  have hq : (63 : Nat) = 63 := rfl
  refine PySem.P.mul_str (by
      have a1 : ¬ (n : Int) < -(2 ^ 63 : Int) := by omega
      have a2 : ¬ (n : Int) ≥ 2 ^ 63 := by omega
      rw [decide_eq_false a1, decide_eq_false a2]; rfl) (fun _ _ => ?_) (fun _ _ => ?_) ?_
  · have a3 : (2 ^ 63 - 1 : Int) / n ≥ 1000 := by
      rw [ge_iff_le, Int.le_ediv_iff_mul_le (by omega)]
      omega
    omega
  · have : z.length * (n : Int).toNat ≤ 1000 * 1000 := Nat.mul_le_mul h3 (by omega)
    have hs : sizeLine = 16777216 := by decide
    exact decide_eq_false (by omega)
  · rw [if_neg (by omega)]
    by_cases c : n = 1 ∨ z.length = 0
    · have e : ((n : Int) == 1 || z.length == 0) = true := by
        rcases c with c | c <;> simp [c]
      rw [if_pos e]
      have er : rptS z n = z := if_pos c
      rw [er] at q
      exact ⟨.str z, H, I, ⟨t, rfl⟩, q⟩
    · have e : ¬ ((n : Int) == 1 || z.length == 0) = true := by
        intro x
        rw [Bool.or_eq_true, beq_iff_eq, beq_iff_eq] at x
        exact c (x.imp (fun y => by omega) id)
      rw [if_neg e]
      have er : rptS z n = ⟨(List.replicate n z.cps).foldl (· ++ ·) #[]⟩ := if_neg c
      rw [er] at q
      rw [show (n : Int).toNat = n by omega]
      refine ⟨?_, ⟨.str _, H, I.tok _, ⟨_, rfl⟩, q⟩⟩
      have hs : sizeLine = 16777216 := by decide
      have hl : (Str.mk ((List.replicate n z.cps).foldl (· ++ ·) #[])).length = n * z.length := fold_size z.cps n
      have : n * z.length ≤ 1000 * 1000 := Nat.mul_le_mul h2 h3
      show (Str.mk ((List.replicate n z.cps).foldl (· ++ ·) #[])).length ≤ sizeLine
      omega
end
def mulSW : W2
  | .str z, .int k, Q => 1 ≤ k ∧ k ≤ 1000 ∧ z.length ≤ 1000 ∧ Q (.str (rptS z k.toNat))
  | _, _, _ => False
section
variable {K : PySem.W.Frag}
theorem ow_mulS : OpW K rMulS mulSW := fun d e Q h => by
  unfold mulSW at h
  split at h
  · rename_i z k
    obtain ⟨h1, h2, h3, q⟩ := h
    intro v1 v2 H H1 e r1 r2 Q' hq
    cases r1
    cases r2
    exact ⟨z, k.toNat, rfl, by rw [Int.toNat_of_nonneg (by omega)], by omega, by omega, h3, hq _ _ H H1 (Grow.refl e) (.str _) q⟩
  · exact h.elim
theorem cw_reprX : CbW K (rReprX K) reprXW := fun ds Q h => by
  unfold reprXW at h
  split at h
  · rename_i k x y
    obtain ⟨h1, h2, h3, q⟩ := h
    intro vs H H1 e r Q' hq
    cases r with
    | cons r0 r =>
      cases r
      obtain ⟨a, rfl, f⟩ := r0.dict (by rfl)
      rcases f with ⟨ks, ⟨o, f⟩, rk⟩ | ⟨ks, ⟨o, f⟩, rk⟩
      · cases ks with
        | nil => cases rk
        | cons kv ks =>
          rw [List.map_cons] at rk
          generalize ek : kD kv.1 = kd at rk
          cases rk with
          | cons rv rk =>
            cases ks with
            | cons _ _ => cases rk
            | nil =>
              obtain ⟨kk, vv⟩ := kv
              have hkk : kk = .inr k := by
                cases kk with
                | inl i => cases ek
                | inr z =>
                  cases ek
                  rfl
              subst hkk
              generalize hvv : (Sum.inr k, vv).2 = v2 at rv
              have hvv : vv = v2 := hvv
              subst hvv
              cases rv with
              | @tup t xs _ g rx =>
                cases rx with
                | cons ra rx =>
                  cases rx with
                  | cons rb rx =>
                    cases rx
                    cases ra
                    cases rb
                    have g := g.resolve_right fun z => nomatch z.1
                    exact .inr ⟨a, t, o, k, x, y, rfl, e _ _ f, e _ _ g, h1, h2, h3, hq _ _ H H1 (Grow.refl e) (.str _) q⟩
      · exfalso
        cases ks with
        | nil => cases rk
        | cons kv ks =>
          rw [List.map_cons] at rk
          generalize ek : PyData.tuple (kv.1.map kD) = kd at rk
          cases rk with
          | cons rv rk => cases ek
  · intro vs H H1 e r Q' hq
    exact .inl (cw_repr _ Q h vs H H1 e r Q' hq)
end
end DL
namespace DL
open PySem PySem.Spec PyProof.Rows L2
def supK_mk {P : Program} {K : PySem.W.Frag} {C fI : Addr} {slf gv f : Str}
    {name qual : Str} {params : Arguments} {text : Str} {j : Nat} {p0 p1 p2 p3 p4 p5 p6 p7 p8 p9 : Pos} {scope : Scope} {dV kV doc pm : Value} {an : Option Addr} {cda : Addr} {ct : Value} {cc : Addr} {oc : Value} {od : Option Addr} {osl : Array (Option Value)} {pl : Addr → Sem Bool} {ccl : Value} {cdd : Option Addr} {vs : Array Value} {ccs : Array (Option Value)} {fl : Str} {tf : Tok} {cl : Value} {cld : Option Addr} {csl : Array (Option Value)}
    (ini : PySem.W.excInitIn K C KEYS "LookupError.__new__" = true) (ovr : PySem.W.excOver K C KEYS = true) (sa : PySem.W.findIn K (.ref C) "__setattr__" = some (some (.builtin "object.__setattr__")))
    (tak : PySem.W.takerIn K C f = some none) (nw : PySem.W.findIn K (.ref C) "__init__" = some (some (.ref fI))) (sup : PySem.W.ks_superIn K C C "__init__" = some (some (.builtin "KeyError.__init__")))
    (hasD : (PySem.W.clsIn K C).map (·.hasDict) = some true) (own : PySem.W.mroIn K C (.ref C) = some true) (isB : PySem.W.subIn K (.ref C) (.type "KeyError") = some true) (exC : PySem.W.subIn K (.ref C) (.type "BaseException") = some true)
    (tyC : PySem.W.typeIn K (.ref C) = some (.type "type")) (kC : PySem.W.keepIn K (.ref C) = true) (tp : PySem.W.nsIn K cStatics "thirdparty.any" = some none)
    (fn : K.lookup fI = some ⟨oc, od, .func (PySem.W.ksFn name qual params (supBody text slf gv f j p0 p1 p2 p3 p4 p5 p6 p7 p8 p9) scope dV kV doc pm an (.ref cda) ct cc), osl⟩)
    (fnT : PySem.W.typeIn K (.ref fI) = some (.type "function")) (cod : PySem.W.codeIn K (.ref cda) qual = true)
    (hd : ∃ ar, (params.posonlyargs ++ params.args).head? = some ar ∧ ar.arg = slf)
    (fi1 : K.lookup cda = some ⟨ccl, cdd, .fields vs, ccs⟩) (fi2 : vs[2]? = some (.str fl tf)) (fi3 : ((P.main.file : Str) == fl) = true)
    (cel : K.lookup cc = some ⟨cl, cld, .cell (some (.ref C)), csl⟩)
    (bnd : ∀ (a u : Value), bindArgs (PySem.W.ksFn name qual params (supBody text slf gv f j p0 p1 p2 p3 p4 p5 p6 p7 p8 p9) scope dV kV doc pm an (.ref cda) ct cc) ⟨[a, u], []⟩ = pure [(slf, a), (gv, u)])
    (nSup : scope.names.lookup ("super" : Str) = some .globalImplicit) (nCls : scope.names.lookup ("__class__" : Str) = some .free) (nSlf : scope.names.lookup slf = some .local) (nGv : scope.names.lookup gv = some .local)
    (nGs : slf ≠ gv) (dSlf : (slf == ("__debug__" : Str)) = false) (dGv : (gv == ("__debug__" : Str)) = false) (noC : ∀ x ∈ scope.names, x.2 ≠ .cell)
    (kind : scope.kind = .function) (co : scope.isCoroutine = false) (gen : scope.isGenerator = false)
    (inter : ∀ L, interactive (PySem.W.ksEnv qual scope L fI (.ref cda) cc) = false)
    (sw1 : ∀ L, swapsWith (.Call (.Attribute (.Call (.Name "super" p0) [] [] p1) "__init__" p2) [.Constant (.str text) j p3] [] p4) none p5.line (PySem.W.ksEnv qual scope L fI (.ref cda) cc) = pure false)
    (sw2 : ∀ L, swapsWith (.Name gv p8) (some (.Attribute (.Name slf p6) f p7)) p9.line (PySem.W.ksEnv qual scope L fI (.ref cda) cc) = pure false)
    (evl : ∀ L, eval (.Call (.Attribute (.Call (.Name "super" p0) [] [] p1) "__init__" p2) [.Constant (.str text) j p3] [] p4) (PySem.W.ksEnv qual scope L fI (.ref cda) cc) = (do
      let ov ← attributeBase (.Call (.Name "super" p0) [] [] p1) "__init__" (PySem.W.ksEnv qual scope L fI (.ref cda) cc) (eval (.Call (.Name "super" p0) [] [] p1) (PySem.W.ksEnv qual scope L fI (.ref cda) cc))
      standAt p2.atName
      let (f, first) ← holding [ov] (getMethod ov "__init__" (pl L))
      callWith p4 f first (backTo p4 (starEach [.Constant (.str text) j p3] (PySem.W.ksEnv qual scope L fI (.ref cda) cc))) []))
    (sta : ∀ L, starEach [.Constant (.str text) j p3] (PySem.W.ksEnv qual scope L fI (.ref cda) cc) = [(false, eval (.Constant (.str text) j p3) (PySem.W.ksEnv qual scope L fI (.ref cda) cc))])
    (top : (P.main.scope.names.lookup ("super" : Str)).isSome = false) : SupK P K C fI slf gv f :=
  { ini, ovr, sa, tak, nw, sup, hasD, own, isB, exC, tyC, kC, tp, name, qual, params, text, j, p := fun i => [p0, p1, p2, p3, p4, p5, p6, p7, p8, p9].getD i.val p0, scope, dV, kV, doc, pm, an, cda, ct, cc, oc, od, osl, fn, fnT, cod, hd, file := ⟨_, _, _, _, _, _, fi1, fi2, fi3⟩, cel := ⟨_, _, _, cel⟩, bnd, nSup, nCls, nSlf, nGv, nGs, dSlf, dGv, noC, kind, co, gen, inter, sw1, sw2, pl, evl, sta, top }
/-- facts for all classes of a list, by one look -/
theorem all_lt {n : Nat} {p : Nat → Bool} (h : (List.range n).all p = true) : ∀ i < n, p i = true := fun i hi => List.all_eq_true.mp h i (List.mem_range.mpr hi)
def kitAll (K : PySem.W.Frag) (CA : Nat → Addr) (tg : List Value) (n m : Nat) (fl : Nat → Nat → Bool) : Bool := (List.range n).all fun i => (List.range m).all fun j => decide (PySem.W.kitOne K (.ref (CA i)) (tg.getD j .none) = some (fl i j))
theorem kit_all {K : PySem.W.Frag} {CA : Nat → Addr} {tg : List Value} {n m : Nat} {fl : Nat → Nat → Bool} (h : kitAll K CA tg n m fl = true) : ∀ i j, i < n → j < m → PySem.W.kitOne K (.ref (CA i)) (tg.getD j .none) = some (fl i j) := fun i j hi hj => of_decide_eq_true (all_lt (all_lt h i hi) j hj)
def exmAll (K : PySem.W.Frag) (CA : Nat → Addr) (n : Nat) (fl : Nat → Nat → Bool) : Bool := (List.range n).all fun i => (List.range n).all fun j => decide (PySem.W.exmOne K (.ref (CA i)) (.ref (CA j)) = some (fl i j))
theorem exm_all {K : PySem.W.Frag} {CA : Nat → Addr} {n : Nat} {fl : Nat → Nat → Bool} (h : exmAll K CA n fl = true) : ∀ i j, i < n → j < n → PySem.W.exmOne K (.ref (CA i)) (.ref (CA j)) = some (fl i j) := fun i j hi hj => of_decide_eq_true (all_lt (all_lt h i hi) j hj)
def excB (K : PySem.W.Frag) (D : Addr) : Bool := decide (PySem.W.findIn K (.ref D) "__getattribute__" = some (some (.builtin "BaseException.__getattribute__"))) && (decide (PySem.W.findIn K (.ref D) "__getattr__" = some none) && (decide (PySem.W.subIn K (.ref D) (.type "BaseException") = some true) && (PySem.W.hasDictIn K D &&
  (decide (PySem.W.findIn K (.ref D) "__class__" = some (some (.builtin "object.__class__"))) && (decide (PySem.W.specialIn K (.builtin "object.__class__") "__get__" = some (some (.builtin "getset_descriptor.__get__"))) && (decide (PySem.W.takesIn K (.builtin "object.__class__") = some true) && decide (PySem.W.mroIn K D (.type "object") = some true)))))))
theorem excB_ok {K : PySem.W.Frag} {D : Addr} (h : excB K D = true) : ExcC K D := by
  obtain ⟨h1, h⟩ := Bool.and_eq_true_iff.mp h
  obtain ⟨h2, h⟩ := Bool.and_eq_true_iff.mp h
  obtain ⟨h3, h⟩ := Bool.and_eq_true_iff.mp h
  obtain ⟨h4, h⟩ := Bool.and_eq_true_iff.mp h
  obtain ⟨h5, h⟩ := Bool.and_eq_true_iff.mp h
  obtain ⟨h6, h⟩ := Bool.and_eq_true_iff.mp h
  obtain ⟨h7, h8⟩ := Bool.and_eq_true_iff.mp h
  exact ⟨of_decide_eq_true h1, of_decide_eq_true h2, of_decide_eq_true h3, h4, of_decide_eq_true h5, of_decide_eq_true h6, of_decide_eq_true h7, of_decide_eq_true h8⟩
def exAll (K : PySem.W.Frag) (CA : Nat → Addr) (n : Nat) : Bool := (List.range n).all fun i => excB K (CA i)
theorem ex_all {K : PySem.W.Frag} {CA : Nat → Addr} {n : Nat} (h : exAll K CA n = true) : ∀ i < n, ExcC K (CA i) := fun i hi => excB_ok (all_lt h i hi)
end DL
namespace Lw
open PySem DL FSt
variable [CTab]
abbrev w__law_draw := drawW
def w__law_one_of : List Sl → (PyData → Prop) → Prop := bodyW
    (retW [] (opW ixAW (varW 1) (callW 2 w__law_draw (avarW 0 (aconsW (cbW lenAW (consW (varW 1) nilW)) anilW))))) 2
def w__law_raised : List Sl → (PyData → Prop) → WXP → Prop := bodyX
    (seqX (ifX [] (testW (opW eqBW (varW 0) (cW (.int 0))))
    (raise1W [] "FrameError" (varW 1))
    (liftX nextW))
    (seqX (ifX [] (testW (opW eqBW (varW 0) (cW (.int 1))))
    (raise1W [] "InvalidName" (varW 1))
    (liftX nextW))
    (seqX (ifX [] (testW (opW eqBW (varW 0) (cW (.int 2))))
    (raise1W [] "InvalidFrame" (varW 1))
    (liftX nextW))
    (seqX (ifX [] (testW (opW eqBW (varW 0) (cW (.int 3))))
    (raise1W [] "InvalidRod" (varW 1))
    (liftX nextW))
    (seqX (ifX [] (testW (opW eqBW (varW 0) (cW (.int 4))))
    (raise1W [] "InvalidPlacing" (varW 1))
    (liftX nextW))
    (seqX (ifX [] (testW (opW eqBW (varW 0) (cW (.int 5))))
    (raise1W [] "InvalidWeights" (varW 1))
    (liftX nextW))
    (seqX (ifX [] (testW (opW eqBW (varW 0) (cW (.int 6))))
    (raise1W [] "InvalidStep" (varW 1))
    (liftX nextW))
    (seqX (ifX [] (testW (opW eqBW (varW 0) (cW (.int 7))))
    (raise1W [] "InvalidStand" (varW 1))
    (liftX nextW))
    (seqX (ifX [] (testW (opW eqBW (varW 0) (cW (.int 8))))
    (raise1W [] "InvalidDirections" (varW 1))
    (liftX nextW))
    (seqX (ifX [] (testW (opW eqBW (varW 0) (cW (.int 9))))
    (raise1W [] "InvalidPromise" (varW 1))
    (liftX nextW))
    (seqX (ifX [] (testW (opW eqBW (varW 0) (cW (.int 10))))
    (raise1W [] "InvalidOperation" (varW 1))
    (liftX nextW))
    (seqX (ifX [] (testW (opW eqBW (varW 0) (cW (.int 11))))
    (raiseW [] "ParseError" "spot" (varW 2))
    (liftX nextW))
    (seqX (ifX [] (testW (opW eqBW (varW 0) (cW (.int 12))))
    (raiseW [] "InvalidNumber" "given" (varW 2))
    (liftX nextW))
    (seqX (ifX [] (testW (opW eqBW (varW 0) (cW (.int 13))))
    (raiseW [] "UnknownName" "wanted" (varW 2))
    (liftX nextW))
    (seqX (ifX [] (testW (opW eqBW (varW 0) (cW (.int 14))))
    (raiseW [] "TooMany" "most" (varW 2))
    (liftX nextW))
    (seqX (ifX [] (testW (opW eqBW (varW 0) (cW (.int 15))))
    (raiseW [] "Refused" "reason" (varW 2))
    (liftX nextW))
    (raiseW [] "NothingToUndo" "count" (varW 2)))))))))))))))))) 3
def w__law_flags (a : Addr) (fl : Nat → Bool) : List Sl → (PyData → Prop) → Prop := bodyW
    (seqW (setW [] 1 (datM (newW (lstN (consW (isEW 0 a (fl 0)) (consW (isEW 0 a (fl 1)) (consW (isEW 0 a (fl 2)) nilW)))))))
    (seqW (setW [] 1 (datM (opW addW (varW 1) (newW (lstN (consW (isEW 0 a (fl 3)) (consW (isEW 0 a (fl 4)) (consW (isEW 0 a (fl 5)) nilW))))))))
    (seqW (setW [] 1 (datM (opW addW (varW 1) (newW (lstN (consW (isEW 0 a (fl 6)) (consW (isEW 0 a (fl 7)) (consW (isEW 0 a (fl 8)) nilW))))))))
    (seqW (setW [] 1 (datM (opW addW (varW 1) (newW (lstN (consW (isEW 0 a (fl 9)) (consW (isEW 0 a (fl 10)) (consW (isEW 0 a (fl 11)) nilW))))))))
    (seqW (setW [] 1 (datM (opW addW (varW 1) (newW (lstN (consW (isEW 0 a (fl 12)) (consW (isEW 0 a (fl 13)) (consW (isEW 0 a (fl 14)) nilW))))))))
    (seqW (setW [] 1 (datM (opW addW (varW 1) (newW (lstN (consW (isEW 0 a (fl 15)) (consW (isEW 0 a (fl 16)) (consW (isEW 0 a (fl 17)) nilW))))))))
    (seqW (setW [] 1 (datM (opW addW (varW 1) (newW (lstN (consW (isEW 0 a (fl 18)) (consW (isEW 0 a (fl 19)) (consW (isEW 0 a (fl 20)) nilW))))))))
    (retW [] (opW addW (varW 1) (newW (lstN (consW (isEW 0 a (fl 21)) (consW (isEW 0 a (fl 22)) nilW))))))))))))) 2
omit [CTab] in
def flagB (i j : Nat) : Bool := if j < 17 then (j == i || (j == 0 && decide (i ≤ 11))) else match i with
  | 12 => j == 18 || j == 22
  | 13 => j == 19 || j == 22
  | 14 => j == 20 || j == 21
  | 15 => j == 21
  | 16 => j == 22
  | _ => j == 17
omit [CTab] in
def xmB (i j : Nat) : Bool := j == i || (j == 0 && decide (i ≤ 11))
def toldN : Told := ⟨fun i => (["FrameError", "InvalidName", "InvalidFrame", "InvalidRod", "InvalidPlacing", "InvalidWeights", "InvalidStep", "InvalidStand", "InvalidDirections", "InvalidPromise", "InvalidOperation", "ParseError", "InvalidNumber", "UnknownName", "TooMany", "Refused", "NothingToUndo"] : List Str).getD i "", fun i => (["", "", "", "", "", "", "", "", "", "", "", "spot", "given", "wanted", "most", "reason", "count"] : List Str).getD i "", fun _ => (0 : Nat), flagB, xmB⟩
def w__law_told : List Sl → (PyData → Prop) → Prop := fun ss P => w__law_raised ss (fun _ => False) fun x => toldN.w x P
def w__law_due : List Sl → (PyData → Prop) → Prop := bodyW
    (seqW (setW [] 1 (datM (newW (lstN (consW (cW (.int 0)) (consW (varW 0) (consW (cW (.int 17)) nilW)))))))
    (seqW (ifW [] (testW (opW gtW (varW 0) (cW (.int 11))))
    (setW [] 1 (datM (opW addW (newW (lstN (consW (varW 0) nilW))) (opW ixAW (newW (lstN (consW (newW (lstN (consW (cW (.int 18)) (consW (cW (.int 22)) nilW)))) (consW (newW (lstN (consW (cW (.int 19)) (consW (cW (.int 22)) nilW)))) (consW (newW (lstN (consW (cW (.int 20)) (consW (cW (.int 21)) nilW)))) (consW (newW (lstN (consW (cW (.int 21)) nilW))) (consW (newW (lstN (consW (cW (.int 22)) nilW))) nilW))))))) (opW subW (varW 0) (cW (.int 12)))))))
    nextW)
    (retW [] (newW (lcN [2] (range1I (consW (cW (.int 23)) nilW)) (bindW 2) yesT (opW inAW (varW 2) (varW 1))))))) 3
def b_law_1 : WS :=
    (seqW (setW [] 6 (datM (callW 2 w__law_one_of (avarW 2 (avarW 3 anilW)))))
    (seqW (setW [] 7 (datM (callW 3 w__law_told (avarW 5 (avarW 4 (avarW 6 anilW))))))
    (ifW [] (orT (testW (opW isW (varW 7) (cW .none))) (orT (testW (opW neBW (opW ixAW (varW 7) (cW (.int 0))) (callW 1 w__law_due (avarW 5 anilW)))) (testW (opW neBW (cbW reprXW (consW (opW ixAW (varW 7) (cW (.int 1))) nilW)) (cbW reprXW (consW (ifV (testW (opW ltW (varW 5) (cW (.int 11)))) (cW .none) (varW 6)) nilW))))))
    (retW [] (cW (.bool false)))
    nextW)))
def b_law_2 : WS :=
    (seqW (setW [] 2 (newBagM 0 1))
    (seqW (setW [] 3 (datM (newW (lstN (consW (cW (.int 0)) (consW (unW negW (cW (.int 7))) (consW (cW .none) (consW (cW (.bool true)) (consW (cW (.str "ab")) (consW (tupW (consW (cW (.str "loose")) (consW (cW (.int 3)) nilW))) (consW (tupW (consW (cW (.str "weight")) (consW (tupW (consW (cW (.str "a")) (consW (cW (.str "b")) nilW))) nilW))) (consW (newW (lstN (consW (cW (.int 1)) (consW (cW (.str "x")) nilW)))) (consW (dispW (pconsW (cW (.str "a")) (tupW (consW (cW (.int 1)) (consW (cW (.int 2)) nilW))) pnilW)) (consW (opW powW (cW (.int 10)) (cW (.int 60))) (consW (cW (.str "")) nilW)))))))))))))))
    (seqW (setW [] 4 (datM (callW 2 w__law_one_of (avarW 2 (aconsW (newW (lstN (consW (cW (.str "odd")) (consW (cW (.str "")) (consW (cW (.str "a frame is expected")) (consW (opW mulSW (cW (.str "x")) (opW addW (cW (.int 1)) (callW 2 w__law_draw (avarW 2 (aconsW (cW (.int 40)) anilW))))) nilW)))))) anilW)))))
    (forRW [] (range1I (consW (cW (.int 17)) nilW)) (bindW 5) b_law_1))))
def w_law : List Sl → (PyData → Prop) → Prop := bodyW
    (seqW (forRW [] (range1I (consW (cbW max2W (consW (cW (.int 1)) (consW (cbW min2W (consW (cW (.int 3)) (consW (cbW lenAW (consW (varW 0) nilW)) nilW))) nilW))) nilW)) (bindW 1) b_law_2)
    (retW [] (cW (.bool true)))) 8
end Lw
namespace Lw
open PySem DL FSt
variable [CTab]
theorem raised_0 {z v : PyData} {P : PyData → Prop} {R : WXP} (h : R ("FrameError", none)) : w__law_raised [.dat (.int 0), .dat z, .dat v] P R := by
  unfold w__law_raised
  try simp only [wv1, wv2, wv3, wv4, wv5, wv6, wv7, wv8, Nat.reduceSub, Nat.reduceAdd, reduceCtorEq, ↓reduceIte, Nat.reduceLeDiff, Nat.reduceLT, implies_true, bodyX, seqX, ifX, liftX, raise1W, raiseW]
  first | exact h | (simp; exact h)
theorem raised_1 {z v : PyData} {P : PyData → Prop} {R : WXP} (h : R ("InvalidName", none)) : w__law_raised [.dat (.int 1), .dat z, .dat v] P R := by
  unfold w__law_raised
  try simp only [wv1, wv2, wv3, wv4, wv5, wv6, wv7, wv8, Nat.reduceSub, Nat.reduceAdd, reduceCtorEq, ↓reduceIte, Nat.reduceLeDiff, Nat.reduceLT, implies_true, bodyX, seqX, ifX, liftX, raise1W, raiseW]
  first | exact h | (simp; exact h)
theorem raised_2 {z v : PyData} {P : PyData → Prop} {R : WXP} (h : R ("InvalidFrame", none)) : w__law_raised [.dat (.int 2), .dat z, .dat v] P R := by
  unfold w__law_raised
  try simp only [wv1, wv2, wv3, wv4, wv5, wv6, wv7, wv8, Nat.reduceSub, Nat.reduceAdd, reduceCtorEq, ↓reduceIte, Nat.reduceLeDiff, Nat.reduceLT, implies_true, bodyX, seqX, ifX, liftX, raise1W, raiseW]
  first | exact h | (simp; exact h)
theorem raised_3 {z v : PyData} {P : PyData → Prop} {R : WXP} (h : R ("InvalidRod", none)) : w__law_raised [.dat (.int 3), .dat z, .dat v] P R := by
  unfold w__law_raised
  try simp only [wv1, wv2, wv3, wv4, wv5, wv6, wv7, wv8, Nat.reduceSub, Nat.reduceAdd, reduceCtorEq, ↓reduceIte, Nat.reduceLeDiff, Nat.reduceLT, implies_true, bodyX, seqX, ifX, liftX, raise1W, raiseW]
  first | exact h | (simp; exact h)
theorem raised_4 {z v : PyData} {P : PyData → Prop} {R : WXP} (h : R ("InvalidPlacing", none)) : w__law_raised [.dat (.int 4), .dat z, .dat v] P R := by
  unfold w__law_raised
  try simp only [wv1, wv2, wv3, wv4, wv5, wv6, wv7, wv8, Nat.reduceSub, Nat.reduceAdd, reduceCtorEq, ↓reduceIte, Nat.reduceLeDiff, Nat.reduceLT, implies_true, bodyX, seqX, ifX, liftX, raise1W, raiseW]
  first | exact h | (simp; exact h)
theorem raised_5 {z v : PyData} {P : PyData → Prop} {R : WXP} (h : R ("InvalidWeights", none)) : w__law_raised [.dat (.int 5), .dat z, .dat v] P R := by
  unfold w__law_raised
  try simp only [wv1, wv2, wv3, wv4, wv5, wv6, wv7, wv8, Nat.reduceSub, Nat.reduceAdd, reduceCtorEq, ↓reduceIte, Nat.reduceLeDiff, Nat.reduceLT, implies_true, bodyX, seqX, ifX, liftX, raise1W, raiseW]
  first | exact h | (simp; exact h)
theorem raised_6 {z v : PyData} {P : PyData → Prop} {R : WXP} (h : R ("InvalidStep", none)) : w__law_raised [.dat (.int 6), .dat z, .dat v] P R := by
  unfold w__law_raised
  try simp only [wv1, wv2, wv3, wv4, wv5, wv6, wv7, wv8, Nat.reduceSub, Nat.reduceAdd, reduceCtorEq, ↓reduceIte, Nat.reduceLeDiff, Nat.reduceLT, implies_true, bodyX, seqX, ifX, liftX, raise1W, raiseW]
  first | exact h | (simp; exact h)
theorem raised_7 {z v : PyData} {P : PyData → Prop} {R : WXP} (h : R ("InvalidStand", none)) : w__law_raised [.dat (.int 7), .dat z, .dat v] P R := by
  unfold w__law_raised
  try simp only [wv1, wv2, wv3, wv4, wv5, wv6, wv7, wv8, Nat.reduceSub, Nat.reduceAdd, reduceCtorEq, ↓reduceIte, Nat.reduceLeDiff, Nat.reduceLT, implies_true, bodyX, seqX, ifX, liftX, raise1W, raiseW]
  first | exact h | (simp; exact h)
theorem raised_8 {z v : PyData} {P : PyData → Prop} {R : WXP} (h : R ("InvalidDirections", none)) : w__law_raised [.dat (.int 8), .dat z, .dat v] P R := by
  unfold w__law_raised
  try simp only [wv1, wv2, wv3, wv4, wv5, wv6, wv7, wv8, Nat.reduceSub, Nat.reduceAdd, reduceCtorEq, ↓reduceIte, Nat.reduceLeDiff, Nat.reduceLT, implies_true, bodyX, seqX, ifX, liftX, raise1W, raiseW]
  first | exact h | (simp; exact h)
theorem raised_9 {z v : PyData} {P : PyData → Prop} {R : WXP} (h : R ("InvalidPromise", none)) : w__law_raised [.dat (.int 9), .dat z, .dat v] P R := by
  unfold w__law_raised
  try simp only [wv1, wv2, wv3, wv4, wv5, wv6, wv7, wv8, Nat.reduceSub, Nat.reduceAdd, reduceCtorEq, ↓reduceIte, Nat.reduceLeDiff, Nat.reduceLT, implies_true, bodyX, seqX, ifX, liftX, raise1W, raiseW]
  first | exact h | (simp; exact h)
theorem raised_10 {z v : PyData} {P : PyData → Prop} {R : WXP} (h : R ("InvalidOperation", none)) : w__law_raised [.dat (.int 10), .dat z, .dat v] P R := by
  unfold w__law_raised
  try simp only [wv1, wv2, wv3, wv4, wv5, wv6, wv7, wv8, Nat.reduceSub, Nat.reduceAdd, reduceCtorEq, ↓reduceIte, Nat.reduceLeDiff, Nat.reduceLT, implies_true, bodyX, seqX, ifX, liftX, raise1W, raiseW]
  first | exact h | (simp; exact h)
theorem raised_11 {z v : PyData} {P : PyData → Prop} {R : WXP} (h : R ("ParseError", some ("spot", v))) : w__law_raised [.dat (.int 11), .dat z, .dat v] P R := by
  unfold w__law_raised
  try simp only [wv1, wv2, wv3, wv4, wv5, wv6, wv7, wv8, Nat.reduceSub, Nat.reduceAdd, reduceCtorEq, ↓reduceIte, Nat.reduceLeDiff, Nat.reduceLT, implies_true, bodyX, seqX, ifX, liftX, raise1W, raiseW]
  first | exact h | (simp; exact h)
theorem raised_12 {z v : PyData} {P : PyData → Prop} {R : WXP} (h : R ("InvalidNumber", some ("given", v))) : w__law_raised [.dat (.int 12), .dat z, .dat v] P R := by
  unfold w__law_raised
  try simp only [wv1, wv2, wv3, wv4, wv5, wv6, wv7, wv8, Nat.reduceSub, Nat.reduceAdd, reduceCtorEq, ↓reduceIte, Nat.reduceLeDiff, Nat.reduceLT, implies_true, bodyX, seqX, ifX, liftX, raise1W, raiseW]
  first | exact h | (simp; exact h)
theorem raised_13 {z v : PyData} {P : PyData → Prop} {R : WXP} (h : R ("UnknownName", some ("wanted", v))) : w__law_raised [.dat (.int 13), .dat z, .dat v] P R := by
  unfold w__law_raised
  try simp only [wv1, wv2, wv3, wv4, wv5, wv6, wv7, wv8, Nat.reduceSub, Nat.reduceAdd, reduceCtorEq, ↓reduceIte, Nat.reduceLeDiff, Nat.reduceLT, implies_true, bodyX, seqX, ifX, liftX, raise1W, raiseW]
  first | exact h | (simp; exact h)
theorem raised_14 {z v : PyData} {P : PyData → Prop} {R : WXP} (h : R ("TooMany", some ("most", v))) : w__law_raised [.dat (.int 14), .dat z, .dat v] P R := by
  unfold w__law_raised
  try simp only [wv1, wv2, wv3, wv4, wv5, wv6, wv7, wv8, Nat.reduceSub, Nat.reduceAdd, reduceCtorEq, ↓reduceIte, Nat.reduceLeDiff, Nat.reduceLT, implies_true, bodyX, seqX, ifX, liftX, raise1W, raiseW]
  first | exact h | (simp; exact h)
theorem raised_15 {z v : PyData} {P : PyData → Prop} {R : WXP} (h : R ("Refused", some ("reason", v))) : w__law_raised [.dat (.int 15), .dat z, .dat v] P R := by
  unfold w__law_raised
  try simp only [wv1, wv2, wv3, wv4, wv5, wv6, wv7, wv8, Nat.reduceSub, Nat.reduceAdd, reduceCtorEq, ↓reduceIte, Nat.reduceLeDiff, Nat.reduceLT, implies_true, bodyX, seqX, ifX, liftX, raise1W, raiseW]
  first | exact h | (simp; exact h)
theorem raised_16 {z v : PyData} {P : PyData → Prop} {R : WXP} (h : R ("NothingToUndo", some ("count", v))) : w__law_raised [.dat (.int 16), .dat z, .dat v] P R := by
  unfold w__law_raised
  try simp only [wv1, wv2, wv3, wv4, wv5, wv6, wv7, wv8, Nat.reduceSub, Nat.reduceAdd, reduceCtorEq, ↓reduceIte, Nat.reduceLeDiff, Nat.reduceLT, implies_true, bodyX, seqX, ifX, liftX, raise1W, raiseW]
  first | exact h | (simp; exact h)
theorem due_tail {ds : List PyData} {s0 : Option Sl} {P : PyData → Prop} {i : Nat} (hf : ds.all flatD = true) (e : ((List.range' 0 23).map fun (j : Nat) => PyData.bool (ds.any fun y => PyData.eqv y (.int (j : Int)))) = toldN.fl i) (h : P (.list (toldN.fl i))) :
    -2 ^ 62 ≤ (23 : Int) ∧ (23 : Int) < 2 ^ 62 ∧ (rangeD 0 23).length ≤ 100000 ∧ compW (bindW 2) yesT (opW inAW (varW 2) (varW 1)) [s0, some (.dat (.list ds)), none] (rangeD 0 23) [] fun ds => P (.list ds) := by
  have er : rangeD 0 23 = (List.range' 0 23).map fun (j : Nat) => .int (j : Int) := rangeD_nat 23
  refine ⟨by omega, by omega, by rw [er]; simp, ?_⟩
  rw [er]
  refine cmp_map (fun d => .bool (ds.any fun y => PyData.eqv y d)) (fun d hd R hR => ?_) ?_
  · obtain ⟨j, _, rfl⟩ := List.mem_map.mp hd
    try simp only [wv1, wv2, wv3, wv4, wv5, wv6, wv7, wv8, Nat.reduceSub, Nat.reduceAdd, reduceCtorEq, ↓reduceIte, Nat.reduceLeDiff, Nat.reduceLT, implies_true]
    exact ⟨rfl, hf, hR⟩
  · rw [List.nil_append, List.map_map]
    have e2 : ((fun d => PyData.bool (ds.any fun y => PyData.eqv y d)) ∘ fun (j : Nat) => PyData.int (j : Int)) = fun (j : Nat) => PyData.bool (ds.any fun y => PyData.eqv y (.int (j : Int))) := rfl
    rw [e2, e]
    exact h
theorem due_0 {P : PyData → Prop} (h : P (.list (toldN.fl 0))) : w__law_due [.dat (.int 0)] P := by
  unfold w__law_due
  try simp only [wv1, wv2, wv3, wv4, wv5, wv6, wv7, wv8, Nat.reduceSub, Nat.reduceAdd, reduceCtorEq, ↓reduceIte, Nat.reduceLeDiff, Nat.reduceLT, implies_true]
  rw [if_neg (by decide)]
  exact due_tail (i := 0) (by rfl) (by rfl) h
theorem due_1 {P : PyData → Prop} (h : P (.list (toldN.fl 1))) : w__law_due [.dat (.int 1)] P := by
  unfold w__law_due
  try simp only [wv1, wv2, wv3, wv4, wv5, wv6, wv7, wv8, Nat.reduceSub, Nat.reduceAdd, reduceCtorEq, ↓reduceIte, Nat.reduceLeDiff, Nat.reduceLT, implies_true]
  rw [if_neg (by decide)]
  exact due_tail (i := 1) (by rfl) (by rfl) h
theorem due_2 {P : PyData → Prop} (h : P (.list (toldN.fl 2))) : w__law_due [.dat (.int 2)] P := by
  unfold w__law_due
  try simp only [wv1, wv2, wv3, wv4, wv5, wv6, wv7, wv8, Nat.reduceSub, Nat.reduceAdd, reduceCtorEq, ↓reduceIte, Nat.reduceLeDiff, Nat.reduceLT, implies_true]
  rw [if_neg (by decide)]
  exact due_tail (i := 2) (by rfl) (by rfl) h
theorem due_3 {P : PyData → Prop} (h : P (.list (toldN.fl 3))) : w__law_due [.dat (.int 3)] P := by
  unfold w__law_due
  try simp only [wv1, wv2, wv3, wv4, wv5, wv6, wv7, wv8, Nat.reduceSub, Nat.reduceAdd, reduceCtorEq, ↓reduceIte, Nat.reduceLeDiff, Nat.reduceLT, implies_true]
  rw [if_neg (by decide)]
  exact due_tail (i := 3) (by rfl) (by rfl) h
theorem due_4 {P : PyData → Prop} (h : P (.list (toldN.fl 4))) : w__law_due [.dat (.int 4)] P := by
  unfold w__law_due
  try simp only [wv1, wv2, wv3, wv4, wv5, wv6, wv7, wv8, Nat.reduceSub, Nat.reduceAdd, reduceCtorEq, ↓reduceIte, Nat.reduceLeDiff, Nat.reduceLT, implies_true]
  rw [if_neg (by decide)]
  exact due_tail (i := 4) (by rfl) (by rfl) h
theorem due_5 {P : PyData → Prop} (h : P (.list (toldN.fl 5))) : w__law_due [.dat (.int 5)] P := by
  unfold w__law_due
  try simp only [wv1, wv2, wv3, wv4, wv5, wv6, wv7, wv8, Nat.reduceSub, Nat.reduceAdd, reduceCtorEq, ↓reduceIte, Nat.reduceLeDiff, Nat.reduceLT, implies_true]
  rw [if_neg (by decide)]
  exact due_tail (i := 5) (by rfl) (by rfl) h
theorem due_6 {P : PyData → Prop} (h : P (.list (toldN.fl 6))) : w__law_due [.dat (.int 6)] P := by
  unfold w__law_due
  try simp only [wv1, wv2, wv3, wv4, wv5, wv6, wv7, wv8, Nat.reduceSub, Nat.reduceAdd, reduceCtorEq, ↓reduceIte, Nat.reduceLeDiff, Nat.reduceLT, implies_true]
  rw [if_neg (by decide)]
  exact due_tail (i := 6) (by rfl) (by rfl) h
theorem due_7 {P : PyData → Prop} (h : P (.list (toldN.fl 7))) : w__law_due [.dat (.int 7)] P := by
  unfold w__law_due
  try simp only [wv1, wv2, wv3, wv4, wv5, wv6, wv7, wv8, Nat.reduceSub, Nat.reduceAdd, reduceCtorEq, ↓reduceIte, Nat.reduceLeDiff, Nat.reduceLT, implies_true]
  rw [if_neg (by decide)]
  exact due_tail (i := 7) (by rfl) (by rfl) h
theorem due_8 {P : PyData → Prop} (h : P (.list (toldN.fl 8))) : w__law_due [.dat (.int 8)] P := by
  unfold w__law_due
  try simp only [wv1, wv2, wv3, wv4, wv5, wv6, wv7, wv8, Nat.reduceSub, Nat.reduceAdd, reduceCtorEq, ↓reduceIte, Nat.reduceLeDiff, Nat.reduceLT, implies_true]
  rw [if_neg (by decide)]
  exact due_tail (i := 8) (by rfl) (by rfl) h
theorem due_9 {P : PyData → Prop} (h : P (.list (toldN.fl 9))) : w__law_due [.dat (.int 9)] P := by
  unfold w__law_due
  try simp only [wv1, wv2, wv3, wv4, wv5, wv6, wv7, wv8, Nat.reduceSub, Nat.reduceAdd, reduceCtorEq, ↓reduceIte, Nat.reduceLeDiff, Nat.reduceLT, implies_true]
  rw [if_neg (by decide)]
  exact due_tail (i := 9) (by rfl) (by rfl) h
theorem due_10 {P : PyData → Prop} (h : P (.list (toldN.fl 10))) : w__law_due [.dat (.int 10)] P := by
  unfold w__law_due
  try simp only [wv1, wv2, wv3, wv4, wv5, wv6, wv7, wv8, Nat.reduceSub, Nat.reduceAdd, reduceCtorEq, ↓reduceIte, Nat.reduceLeDiff, Nat.reduceLT, implies_true]
  rw [if_neg (by decide)]
  exact due_tail (i := 10) (by rfl) (by rfl) h
theorem due_11 {P : PyData → Prop} (h : P (.list (toldN.fl 11))) : w__law_due [.dat (.int 11)] P := by
  unfold w__law_due
  try simp only [wv1, wv2, wv3, wv4, wv5, wv6, wv7, wv8, Nat.reduceSub, Nat.reduceAdd, reduceCtorEq, ↓reduceIte, Nat.reduceLeDiff, Nat.reduceLT, implies_true]
  rw [if_neg (by decide)]
  exact due_tail (i := 11) (by rfl) (by rfl) h
theorem due_12 {P : PyData → Prop} (h : P (.list (toldN.fl 12))) : w__law_due [.dat (.int 12)] P := by
  unfold w__law_due
  try simp only [wv1, wv2, wv3, wv4, wv5, wv6, wv7, wv8, Nat.reduceSub, Nat.reduceAdd, reduceCtorEq, ↓reduceIte, Nat.reduceLeDiff, Nat.reduceLT, implies_true]
  rw [if_pos (by decide)]
  refine ⟨.list [.int 18, .int 22], by rfl, ?_⟩
  refine ⟨by simp, ?_⟩
  exact due_tail (ds := [.int 12, .int 18, .int 22]) (i := 12) (by rfl) (by rfl) h
theorem due_13 {P : PyData → Prop} (h : P (.list (toldN.fl 13))) : w__law_due [.dat (.int 13)] P := by
  unfold w__law_due
  try simp only [wv1, wv2, wv3, wv4, wv5, wv6, wv7, wv8, Nat.reduceSub, Nat.reduceAdd, reduceCtorEq, ↓reduceIte, Nat.reduceLeDiff, Nat.reduceLT, implies_true]
  rw [if_pos (by decide)]
  refine ⟨.list [.int 19, .int 22], by rfl, ?_⟩
  refine ⟨by simp, ?_⟩
  exact due_tail (ds := [.int 13, .int 19, .int 22]) (i := 13) (by rfl) (by rfl) h
theorem due_14 {P : PyData → Prop} (h : P (.list (toldN.fl 14))) : w__law_due [.dat (.int 14)] P := by
  unfold w__law_due
  try simp only [wv1, wv2, wv3, wv4, wv5, wv6, wv7, wv8, Nat.reduceSub, Nat.reduceAdd, reduceCtorEq, ↓reduceIte, Nat.reduceLeDiff, Nat.reduceLT, implies_true]
  rw [if_pos (by decide)]
  refine ⟨.list [.int 20, .int 21], by rfl, ?_⟩
  refine ⟨by simp, ?_⟩
  exact due_tail (ds := [.int 14, .int 20, .int 21]) (i := 14) (by rfl) (by rfl) h
theorem due_15 {P : PyData → Prop} (h : P (.list (toldN.fl 15))) : w__law_due [.dat (.int 15)] P := by
  unfold w__law_due
  try simp only [wv1, wv2, wv3, wv4, wv5, wv6, wv7, wv8, Nat.reduceSub, Nat.reduceAdd, reduceCtorEq, ↓reduceIte, Nat.reduceLeDiff, Nat.reduceLT, implies_true]
  rw [if_pos (by decide)]
  refine ⟨.list [.int 21], by rfl, ?_⟩
  refine ⟨by simp, ?_⟩
  exact due_tail (ds := [.int 15, .int 21]) (i := 15) (by rfl) (by rfl) h
theorem due_16 {P : PyData → Prop} (h : P (.list (toldN.fl 16))) : w__law_due [.dat (.int 16)] P := by
  unfold w__law_due
  try simp only [wv1, wv2, wv3, wv4, wv5, wv6, wv7, wv8, Nat.reduceSub, Nat.reduceAdd, reduceCtorEq, ↓reduceIte, Nat.reduceLeDiff, Nat.reduceLT, implies_true]
  rw [if_pos (by decide)]
  refine ⟨.list [.int 22], by rfl, ?_⟩
  refine ⟨by simp, ?_⟩
  exact due_tail (ds := [.int 16, .int 22]) (i := 16) (by rfl) (by rfl) h
end Lw
namespace Lw
open PySem DL FSt
variable [CTab]
theorem nat_log {n : Nat} (h : n ≤ 100000) : ((n : Int)).natAbs.log2 < 1000 := PySem.Flt.log2_lt_of (by decide) (by
  rw [Int.natAbs_natCast]
  have : 100000 < 2 ^ (1000 : Nat) := by decide
  omega)
theorem one_of_w {v : PyData} {ds : List PyData} {P : PyData → Prop} (hv : v = .list ds ∨ v = .tuple ds) (hne : ds ≠ []) (hl : ds.length ≤ 100000) (h : ∀ d ∈ ds, P d) : w__law_one_of [.bag, .dat v] P := by
  have hp : 0 < ds.length := List.length_pos_iff.mpr hne
  unfold w__law_one_of
  rcases hv with rfl | rfl
  · try simp only [wv1, wv2, wv3, wv4, wv5, wv6, wv7, wv8, Nat.reduceSub, Nat.reduceAdd, reduceCtorEq, ↓reduceIte, Nat.reduceLeDiff, Nat.reduceLT, implies_true]
    refine ⟨by omega, nat_log hl, fun i h0 h1 => ?_⟩
    obtain ⟨j, rfl⟩ := Int.eq_ofNat_of_zero_le h0
    have hj : j < ds.length := by omega
    exact ⟨ds[j], L2.atI_nat (List.getElem?_eq_getElem hj), h _ (List.getElem_mem hj)⟩
  · try simp only [wv1, wv2, wv3, wv4, wv5, wv6, wv7, wv8, Nat.reduceSub, Nat.reduceAdd, reduceCtorEq, ↓reduceIte, Nat.reduceLeDiff, Nat.reduceLT, implies_true]
    refine ⟨by omega, nat_log hl, fun i h0 h1 => ?_⟩
    obtain ⟨j, rfl⟩ := Int.eq_ofNat_of_zero_le h0
    have hj : j < ds.length := by omega
    exact ⟨ds[j], L2.atI_nat (List.getElem?_eq_getElem hj), h _ (List.getElem_mem hj)⟩
theorem told_0 {z v : PyData} {P : PyData → Prop} (h : P (.tuple [.list (toldN.fl 0), .none])) : w__law_told [.dat (.int 0), .dat z, .dat v] P :=
  raised_0 ⟨0, by decide, .inl ⟨by decide, rfl, h⟩⟩
theorem told_1 {z v : PyData} {P : PyData → Prop} (h : P (.tuple [.list (toldN.fl 1), .none])) : w__law_told [.dat (.int 1), .dat z, .dat v] P :=
  raised_1 ⟨1, by decide, .inl ⟨by decide, rfl, h⟩⟩
theorem told_2 {z v : PyData} {P : PyData → Prop} (h : P (.tuple [.list (toldN.fl 2), .none])) : w__law_told [.dat (.int 2), .dat z, .dat v] P :=
  raised_2 ⟨2, by decide, .inl ⟨by decide, rfl, h⟩⟩
theorem told_3 {z v : PyData} {P : PyData → Prop} (h : P (.tuple [.list (toldN.fl 3), .none])) : w__law_told [.dat (.int 3), .dat z, .dat v] P :=
  raised_3 ⟨3, by decide, .inl ⟨by decide, rfl, h⟩⟩
theorem told_4 {z v : PyData} {P : PyData → Prop} (h : P (.tuple [.list (toldN.fl 4), .none])) : w__law_told [.dat (.int 4), .dat z, .dat v] P :=
  raised_4 ⟨4, by decide, .inl ⟨by decide, rfl, h⟩⟩
theorem told_5 {z v : PyData} {P : PyData → Prop} (h : P (.tuple [.list (toldN.fl 5), .none])) : w__law_told [.dat (.int 5), .dat z, .dat v] P :=
  raised_5 ⟨5, by decide, .inl ⟨by decide, rfl, h⟩⟩
theorem told_6 {z v : PyData} {P : PyData → Prop} (h : P (.tuple [.list (toldN.fl 6), .none])) : w__law_told [.dat (.int 6), .dat z, .dat v] P :=
  raised_6 ⟨6, by decide, .inl ⟨by decide, rfl, h⟩⟩
theorem told_7 {z v : PyData} {P : PyData → Prop} (h : P (.tuple [.list (toldN.fl 7), .none])) : w__law_told [.dat (.int 7), .dat z, .dat v] P :=
  raised_7 ⟨7, by decide, .inl ⟨by decide, rfl, h⟩⟩
theorem told_8 {z v : PyData} {P : PyData → Prop} (h : P (.tuple [.list (toldN.fl 8), .none])) : w__law_told [.dat (.int 8), .dat z, .dat v] P :=
  raised_8 ⟨8, by decide, .inl ⟨by decide, rfl, h⟩⟩
theorem told_9 {z v : PyData} {P : PyData → Prop} (h : P (.tuple [.list (toldN.fl 9), .none])) : w__law_told [.dat (.int 9), .dat z, .dat v] P :=
  raised_9 ⟨9, by decide, .inl ⟨by decide, rfl, h⟩⟩
theorem told_10 {z v : PyData} {P : PyData → Prop} (h : P (.tuple [.list (toldN.fl 10), .none])) : w__law_told [.dat (.int 10), .dat z, .dat v] P :=
  raised_10 ⟨10, by decide, .inl ⟨by decide, rfl, h⟩⟩
theorem told_11 {z v : PyData} {P : PyData → Prop} (h : P (.tuple [.list (toldN.fl 11), v])) : w__law_told [.dat (.int 11), .dat z, .dat v] P :=
  raised_11 ⟨11, by decide, .inr ⟨by decide, _, rfl, h⟩⟩
theorem told_12 {z v : PyData} {P : PyData → Prop} (h : P (.tuple [.list (toldN.fl 12), v])) : w__law_told [.dat (.int 12), .dat z, .dat v] P :=
  raised_12 ⟨12, by decide, .inr ⟨by decide, _, rfl, h⟩⟩
theorem told_13 {z v : PyData} {P : PyData → Prop} (h : P (.tuple [.list (toldN.fl 13), v])) : w__law_told [.dat (.int 13), .dat z, .dat v] P :=
  raised_13 ⟨13, by decide, .inr ⟨by decide, _, rfl, h⟩⟩
theorem told_14 {z v : PyData} {P : PyData → Prop} (h : P (.tuple [.list (toldN.fl 14), v])) : w__law_told [.dat (.int 14), .dat z, .dat v] P :=
  raised_14 ⟨14, by decide, .inr ⟨by decide, _, rfl, h⟩⟩
theorem told_15 {z v : PyData} {P : PyData → Prop} (h : P (.tuple [.list (toldN.fl 15), v])) : w__law_told [.dat (.int 15), .dat z, .dat v] P :=
  raised_15 ⟨15, by decide, .inr ⟨by decide, _, rfl, h⟩⟩
theorem told_16 {z v : PyData} {P : PyData → Prop} (h : P (.tuple [.list (toldN.fl 16), v])) : w__law_told [.dat (.int 16), .dat z, .dat v] P :=
  raised_16 ⟨16, by decide, .inr ⟨by decide, _, rfl, h⟩⟩
theorem told_w {i : Nat} (hi : i < 17) {z v : PyData} {P : PyData → Prop} (h : P (.tuple [.list (toldN.fl i), if i < 11 then .none else v])) : w__law_told [.dat (.int (i : Int)), .dat z, .dat v] P := by
  match i, hi, h with
  | 0, _, h => exact told_0 h
  | 1, _, h => exact told_1 h
  | 2, _, h => exact told_2 h
  | 3, _, h => exact told_3 h
  | 4, _, h => exact told_4 h
  | 5, _, h => exact told_5 h
  | 6, _, h => exact told_6 h
  | 7, _, h => exact told_7 h
  | 8, _, h => exact told_8 h
  | 9, _, h => exact told_9 h
  | 10, _, h => exact told_10 h
  | 11, _, h => exact told_11 h
  | 12, _, h => exact told_12 h
  | 13, _, h => exact told_13 h
  | 14, _, h => exact told_14 h
  | 15, _, h => exact told_15 h
  | 16, _, h => exact told_16 h
  | n + 17, h, _ => exact absurd h (by omega)
theorem due_w {i : Nat} (hi : i < 17) {P : PyData → Prop} (h : P (.list (toldN.fl i))) : w__law_due [.dat (.int (i : Int))] P := by
  match i, hi, h with
  | 0, _, h => exact due_0 h
  | 1, _, h => exact due_1 h
  | 2, _, h => exact due_2 h
  | 3, _, h => exact due_3 h
  | 4, _, h => exact due_4 h
  | 5, _, h => exact due_5 h
  | 6, _, h => exact due_6 h
  | 7, _, h => exact due_7 h
  | 8, _, h => exact due_8 h
  | 9, _, h => exact due_9 h
  | 10, _, h => exact due_10 h
  | 11, _, h => exact due_11 h
  | 12, _, h => exact due_12 h
  | 13, _, h => exact due_13 h
  | 14, _, h => exact due_14 h
  | 15, _, h => exact due_15 h
  | 16, _, h => exact due_16 h
  | n + 17, h, _ => exact absurd h (by omega)
def VS : List PyData := [.int 0, .int (-7), .none, .bool true, .str "ab", .tuple [.str "loose", .int 3], .tuple [.str "weight", .tuple [.str "a", .str "b"]], .list [.int 1, .str "x"], .dict [(.str "a", .tuple [.int 1, .int 2])], .int (10 ^ 60), .str ""]
theorem reprX_none {Q : PyData → Prop} (q : Q (.str PyData.none.shown)) : reprXW [.none] Q := sh_none.repr (by decide) (by decide) q
theorem reprX_vs {v : PyData} (hv : v ∈ VS) {Q : PyData → Prop} (q : Q (.str v.shown)) : reprXW [v] Q := by
  simp only [VS, List.mem_cons, List.not_mem_nil, or_false] at hv
  rcases hv with rfl | rfl | rfl | rfl | rfl | rfl | rfl | rfl | rfl | rfl | rfl
  · exact ⟨by decide +kernel, by decide +kernel, by decide +kernel, by decide +kernel, q⟩
  · exact ⟨by decide +kernel, by decide +kernel, by decide +kernel, by decide +kernel, q⟩
  · exact ⟨by decide +kernel, by decide +kernel, by decide +kernel, by decide +kernel, q⟩
  · exact ⟨by decide +kernel, by decide +kernel, by decide +kernel, by decide +kernel, q⟩
  · exact ⟨by decide +kernel, by decide +kernel, by decide +kernel, by decide +kernel, q⟩
  · exact ⟨by decide +kernel, by decide +kernel, by decide +kernel, by decide +kernel, q⟩
  · exact ⟨by decide +kernel, by decide +kernel, by decide +kernel, by decide +kernel, q⟩
  · exact ⟨by decide +kernel, by decide +kernel, by decide +kernel, by decide +kernel, q⟩
  · exact ⟨by decide +kernel, by decide +kernel, by decide +kernel, q⟩
  · exact ⟨by decide +kernel, by decide +kernel, by decide +kernel, by decide +kernel, q⟩
  · exact ⟨by decide +kernel, by decide +kernel, by decide +kernel, by decide +kernel, q⟩
theorem fl_shaped {i : Nat} (hi : i < 17) : SeqAt.shaped (.list (toldN.fl i)) = true := by
  have : ((List.range 17).all fun i => SeqAt.shaped (.list (toldN.fl i))) = true := by decide +kernel
  exact List.all_eq_true.mp this i (List.mem_range.mpr hi)
theorem neB_same {ds : List PyData} {Q : PyData → Prop} (h : SeqAt.shaped (.list ds) = true) (q : Q (.bool false)) : neBW (.list ds) (.list ds) Q := ⟨h, h, by
  rw [SeqAt.eqv_refl _ (SeqAt.canLay_of_shaped h)]
  exact q⟩
theorem neB_str {x : Str} {Q : PyData → Prop} (q : Q (.bool false)) : neBW (.str x) (.str x) Q := by
  show Q (.bool (!decide (x = x)))
  rw [decide_eq_true rfl]
  exact q
theorem law_inner {t : PyData} {W : WD} {d0 d1 : Option Sl} (hW : ∀ s5 s6 s7 : Option Sl, W.nx [d0, d1, some .bag, some (.dat (.list VS)), some (.dat t), s5, s6, s7]) : ∀ (k x : Nat) (s5 s6 s7 : Option Sl), x + k ≤ 17 →
    loopW (bindW 5) b_law_1 W ((List.range' x k).map fun (j : Nat) => .int (j : Int)) [d0, d1, some .bag, some (.dat (.list VS)), some (.dat t), s5, s6, s7]
  | 0, x, s5, s6, s7, _ => hW s5 s6 s7
  | k + 1, x, s5, s6, s7, hx => by
    rw [List.range'_succ, List.map_cons, loop_cons]
    have ih := fun s5 s6 s7 => law_inner hW k (x + 1) s5 s6 s7 (by omega)
    generalize loopW (bindW 5) b_law_1 W ((List.range' (x + 1) k).map fun (j : Nat) => .int (j : Int)) = L0 at ih ⊢
    try simp only [wv1, wv2, wv3, wv4, wv5, wv6, wv7, wv8, Nat.reduceSub, Nat.reduceAdd, reduceCtorEq, ↓reduceIte, Nat.reduceLeDiff, Nat.reduceLT, implies_true, b_law_1]
    refine one_of_w (ds := VS) (.inl rfl) (by decide) (by decide) fun v hv => ?_
    try simp only [wv1, wv2, wv3, wv4, wv5, wv6, wv7, wv8, Nat.reduceSub, Nat.reduceAdd, reduceCtorEq, ↓reduceIte, Nat.reduceLeDiff, Nat.reduceLT, implies_true]
    refine told_w (by omega) ?_
    try simp only [wv1, wv2, wv3, wv4, wv5, wv6, wv7, wv8, Nat.reduceSub, Nat.reduceAdd, reduceCtorEq, ↓reduceIte, Nat.reduceLeDiff, Nat.reduceLT, implies_true]
    refine due_w (by omega) ?_
    refine neB_same (fl_shaped (by omega)) ?_
    try simp only [wv1, wv2, wv3, wv4, wv5, wv6, wv7, wv8, Nat.reduceSub, Nat.reduceAdd, reduceCtorEq, ↓reduceIte, Nat.reduceLeDiff, Nat.reduceLT, implies_true]
    by_cases hlt : x < 11
    · have e : decide ((x : Int) < 11) = true := decide_eq_true (by omega)
      simp only [e, if_pos hlt, if_true]
      refine reprX_none (reprX_none (neB_str ?_))
      exact ih _ _ _
    · have e : decide ((x : Int) < 11) = false := decide_eq_false (by omega)
      simp only [e, if_neg hlt]
      refine reprX_vs hv (reprX_vs hv (neB_str ?_))
      exact ih _ _ _
theorem law_turns {ns : List Int} {W : WD} (hns : ns.length ≤ 63) (hW : ∀ s1 s2 s3 s4 s5 s6 s7 : Option Sl, W.nx [some (.dat (.list (ns.map .int))), s1, s2, s3, s4, s5, s6, s7]) : ∀ (k x : Nat) (s1 s2 s3 s4 s5 s6 s7 : Option Sl), x + k ≤ 3 →
    loopW (bindW 1) b_law_2 W ((List.range' x k).map fun (j : Nat) => .int (j : Int)) [some (.dat (.list (ns.map .int))), s1, s2, s3, s4, s5, s6, s7]
  | 0, x, s1, s2, s3, s4, s5, s6, s7, _ => hW s1 s2 s3 s4 s5 s6 s7
  | k + 1, x, s1, s2, s3, s4, s5, s6, s7, hx => by
    rw [List.range'_succ, List.map_cons, loop_cons]
    have ih := fun s1 s2 s3 s4 s5 s6 s7 => law_turns hns hW k (x + 1) s1 s2 s3 s4 s5 s6 s7 (by omega)
    generalize loopW (bindW 1) b_law_2 W ((List.range' (x + 1) k).map fun (j : Nat) => .int (j : Int)) = L0 at ih ⊢
    unfold b_law_2
    try simp only [wv1, wv2, wv3, wv4, wv5, wv6, wv7, wv8, Nat.reduceSub, Nat.reduceAdd, reduceCtorEq, ↓reduceIte, Nat.reduceLeDiff, Nat.reduceLT, implies_true, dispW, pconsW, pnilW, mergeD, powW]
    refine ⟨⟨ns, rfl, hns⟩, by omega, by omega, by decide +kernel, ⟨by decide, by decide +kernel⟩, by omega, by decide +kernel, fun i h0 h1 => ⟨by omega, by omega, by decide +kernel, ?_⟩⟩
    refine one_of_w (.inl rfl) (by simp) (by simp) fun t _ => ?_
    refine ⟨by omega, by omega, ?_⟩
    rw [show rangeD 0 17 = (List.range' 0 17).map fun (j : Nat) => .int (j : Int) from rangeD_nat 17]
    exact law_inner (fun s5 s6 s7 => ih _ _ _ _ _ _ _) 17 0 _ _ _ (by omega)
theorem law_holds : LawHolds w_law := fun ns hns => by
  unfold w_law
  try simp only [wv1, wv2, wv3, wv4, wv5, wv6, wv7, wv8, Nat.reduceSub, Nat.reduceAdd, reduceCtorEq, ↓reduceIte, Nat.reduceLeDiff, Nat.reduceLT, implies_true]
  have hk : ∃ k : Nat, k ≤ 3 ∧ (if (if ((ns.map PyData.int).length : Int) < 3 then ((ns.map PyData.int).length : Int) else 3) > 1 then if ((ns.map PyData.int).length : Int) < 3 then ((ns.map PyData.int).length : Int) else 3 else 1) = (k : Int) := by
    refine ⟨max 1 (min 3 ns.length), by omega, ?_⟩
    rw [List.length_map]
    split <;> split <;> omega
  obtain ⟨k, hk3, hk⟩ := hk
  rw [hk, rangeD_nat]
  refine ⟨by omega, by omega, ?_⟩
  refine law_turns hns (fun _ _ _ _ _ _ _ => ?_) k 0 none none none none none none none (by omega)
  try simp only [wv1, wv2, wv3, wv4, wv5, wv6, wv7, wv8, Nat.reduceSub, Nat.reduceAdd, reduceCtorEq, ↓reduceIte, Nat.reduceLeDiff, Nat.reduceLT, implies_true]
  trace_state
end Lw
namespace Lw
open PySem PySem.Spec PyProof.Rows L2 Evl DL
variable [CTab]
def top (i : Nat) : Stmt := PySem.Challenge.pw_lengthstell_k00_whole_errors.main.body.getD i (.Pass ⟨0, 0, 0, 0⟩)
abbrev s__law_bag : Stmt := top 19
theorem sc__law_bag : FnScope ["_law_script", "_law_at", "_law_cell", "_law_great", "_law_mixed"] ["_law_script", "_law_at"] (defScope s__law_bag) := ⟨rfl, rfl, rfl, by decide +kernel, rfl, by decide +kernel, by decide +kernel⟩
abbrev s__law_draw : Stmt := top 20
theorem sc__law_draw : FnScope ["_law_bag_here", "_law_total", "_law_found", "_law_one", "_law_two"] ["_law_bag_here", "_law_total"] (defScope s__law_draw) := ⟨rfl, rfl, rfl, by decide +kernel, rfl, by decide +kernel, by decide +kernel⟩
abbrev s__law_one_of : Stmt := top 21
theorem sc__law_one_of : FnScope ["_law_bag_here", "_law_items"] ["_law_bag_here", "_law_items"] (defScope s__law_one_of) := ⟨rfl, rfl, rfl, by decide +kernel, rfl, by decide +kernel, by decide +kernel⟩
abbrev s__law_raised : Stmt := top 22
theorem sc__law_raised : FnScope ["_law_which", "_law_text", "_law_value"] ["_law_which", "_law_text", "_law_value"] (defScope s__law_raised) := ⟨rfl, rfl, rfl, by decide +kernel, rfl, by decide +kernel, by decide +kernel⟩
abbrev s__law_flags : Stmt := top 23
theorem sc__law_flags : FnScope ["_law_error", "_law_found"] ["_law_error"] (defScope s__law_flags) := ⟨rfl, rfl, rfl, by decide +kernel, rfl, by decide +kernel, by decide +kernel⟩
abbrev s__law_told : Stmt := top 24
theorem sc__law_told : FnScope ["_law_which", "_law_text", "_law_value", "e"] ["_law_which", "_law_text", "_law_value"] (defScope s__law_told) := ⟨rfl, rfl, rfl, by decide +kernel, rfl, by decide +kernel, by decide +kernel⟩
abbrev s__law_due : Stmt := top 25
theorem sc__law_due : FnScope ["_law_which", "_law_spots", "_law_at"] ["_law_which"] (defScope s__law_due) := ⟨rfl, rfl, rfl, by decide +kernel, rfl, by decide +kernel, by decide +kernel⟩
abbrev s_law : Stmt := top 26
theorem sc_law : FnScope ["_law_script", "_law_at", "_law_bag_here", "_law_values", "_law_text", "_law_which", "_law_value", "_law_told_here"] ["_law_script"] (defScope s_law) := ⟨rfl, rfl, rfl, by decide +kernel, rfl, by decide +kernel, by decide +kernel⟩
structure Tx (P : Program) (K : PySem.W.Frag) (mg : Str → Option Value) where
  a__law_bag : Addr
  d__law_bag : FuncData
  F__law_bag : Fun K "_law_bag" "_law_bag" s__law_bag a__law_bag d__law_bag
  b__law_bag : Binds K d__law_bag ["_law_script", "_law_at"] []
  g__law_bag : mg "_law_bag" = some (.ref a__law_bag)
  a__law_draw : Addr
  d__law_draw : FuncData
  F__law_draw : Fun K "_law_draw" "_law_draw" s__law_draw a__law_draw d__law_draw
  b__law_draw : Binds K d__law_draw ["_law_bag_here", "_law_total"] []
  g__law_draw : mg "_law_draw" = some (.ref a__law_draw)
  a__law_one_of : Addr
  d__law_one_of : FuncData
  F__law_one_of : Fun K "_law_one_of" "_law_one_of" s__law_one_of a__law_one_of d__law_one_of
  b__law_one_of : Binds K d__law_one_of ["_law_bag_here", "_law_items"] []
  g__law_one_of : mg "_law_one_of" = some (.ref a__law_one_of)
  a__law_raised : Addr
  d__law_raised : FuncData
  F__law_raised : Fun K "_law_raised" "_law_raised" s__law_raised a__law_raised d__law_raised
  b__law_raised : Binds K d__law_raised ["_law_which", "_law_text", "_law_value"] []
  g__law_raised : mg "_law_raised" = some (.ref a__law_raised)
  a__law_flags : Addr
  d__law_flags : FuncData
  F__law_flags : Fun K "_law_flags" "_law_flags" s__law_flags a__law_flags d__law_flags
  b__law_flags : Binds K d__law_flags ["_law_error"] []
  g__law_flags : mg "_law_flags" = some (.ref a__law_flags)
  a__law_told : Addr
  d__law_told : FuncData
  F__law_told : Fun K "_law_told" "_law_told" s__law_told a__law_told d__law_told
  b__law_told : Binds K d__law_told ["_law_which", "_law_text", "_law_value"] []
  g__law_told : mg "_law_told" = some (.ref a__law_told)
  a__law_due : Addr
  d__law_due : FuncData
  F__law_due : Fun K "_law_due" "_law_due" s__law_due a__law_due d__law_due
  b__law_due : Binds K d__law_due ["_law_which"] []
  g__law_due : mg "_law_due" = some (.ref a__law_due)
  a_law : Addr
  d_law : FuncData
  F_law : Fun K "law" "law" s_law a_law d_law
  b_law : Binds K d_law ["_law_script"] []
  g_law : mg "law" = some (.ref a_law)
  n_ArithmeticError : mg "ArithmeticError" = none
  n_IndexError : mg "IndexError" = none
  n_KeyError : mg "KeyError" = none
  n_LookupError : mg "LookupError" = none
  n_OverflowError : mg "OverflowError" = none
  n_ValueError : mg "ValueError" = none
  n_abs : mg "abs" = none
  n_int : mg "int" = none
  n_isinstance : mg "isinstance" = none
  n_len : mg "len" = none
  n_max : mg "max" = none
  n_min : mg "min" = none
  n_range : mg "range" = none
  n_repr : mg "repr" = none
  n_sum : mg "sum" = none
  n_super : mg "super" = none
  CA : Nat → Addr
  gA : ∀ i < 17, mg ((["FrameError", "InvalidName", "InvalidFrame", "InvalidRod", "InvalidPlacing", "InvalidWeights", "InvalidStep", "InvalidStand", "InvalidDirections", "InvalidPromise", "InvalidOperation", "ParseError", "InvalidNumber", "UnknownName", "TooMany", "Refused", "NothingToUndo"] : List Str).getD i "") = some (.ref (CA i))
  ex : ∀ i < 17, ExcC K (CA i)
  C_FrameError : Addr
  gP_FrameError : mg "FrameError" = some (.ref C_FrameError)
  eC_FrameError : CA 0 = C_FrameError
  C_InvalidName : Addr
  gP_InvalidName : mg "InvalidName" = some (.ref C_InvalidName)
  eC_InvalidName : CA 1 = C_InvalidName
  C_InvalidFrame : Addr
  gP_InvalidFrame : mg "InvalidFrame" = some (.ref C_InvalidFrame)
  eC_InvalidFrame : CA 2 = C_InvalidFrame
  C_InvalidRod : Addr
  gP_InvalidRod : mg "InvalidRod" = some (.ref C_InvalidRod)
  eC_InvalidRod : CA 3 = C_InvalidRod
  C_InvalidPlacing : Addr
  gP_InvalidPlacing : mg "InvalidPlacing" = some (.ref C_InvalidPlacing)
  eC_InvalidPlacing : CA 4 = C_InvalidPlacing
  C_InvalidWeights : Addr
  gP_InvalidWeights : mg "InvalidWeights" = some (.ref C_InvalidWeights)
  eC_InvalidWeights : CA 5 = C_InvalidWeights
  C_InvalidStep : Addr
  gP_InvalidStep : mg "InvalidStep" = some (.ref C_InvalidStep)
  eC_InvalidStep : CA 6 = C_InvalidStep
  C_InvalidStand : Addr
  gP_InvalidStand : mg "InvalidStand" = some (.ref C_InvalidStand)
  eC_InvalidStand : CA 7 = C_InvalidStand
  C_InvalidDirections : Addr
  gP_InvalidDirections : mg "InvalidDirections" = some (.ref C_InvalidDirections)
  eC_InvalidDirections : CA 8 = C_InvalidDirections
  C_InvalidPromise : Addr
  gP_InvalidPromise : mg "InvalidPromise" = some (.ref C_InvalidPromise)
  eC_InvalidPromise : CA 9 = C_InvalidPromise
  C_InvalidOperation : Addr
  gP_InvalidOperation : mg "InvalidOperation" = some (.ref C_InvalidOperation)
  eC_InvalidOperation : CA 10 = C_InvalidOperation
  C_ParseError : Addr
  gP_ParseError : mg "ParseError" = some (.ref C_ParseError)
  eC_ParseError : CA 11 = C_ParseError
  C_InvalidNumber : Addr
  gP_InvalidNumber : mg "InvalidNumber" = some (.ref C_InvalidNumber)
  eC_InvalidNumber : CA 12 = C_InvalidNumber
  C_UnknownName : Addr
  gP_UnknownName : mg "UnknownName" = some (.ref C_UnknownName)
  eC_UnknownName : CA 13 = C_UnknownName
  C_TooMany : Addr
  gP_TooMany : mg "TooMany" = some (.ref C_TooMany)
  eC_TooMany : CA 14 = C_TooMany
  C_Refused : Addr
  gP_Refused : mg "Refused" = some (.ref C_Refused)
  eC_Refused : CA 15 = C_Refused
  C_NothingToUndo : Addr
  gP_NothingToUndo : mg "NothingToUndo" = some (.ref C_NothingToUndo)
  eC_NothingToUndo : CA 16 = C_NothingToUndo
  kit : ∀ i j, i < 17 → j < 23 → PySem.W.kitOne K (.ref (CA i)) (([.ref C_FrameError, .ref C_InvalidName, .ref C_InvalidFrame, .ref C_InvalidRod, .ref C_InvalidPlacing, .ref C_InvalidWeights, .ref C_InvalidStep, .ref C_InvalidStand, .ref C_InvalidDirections, .ref C_InvalidPromise, .ref C_InvalidOperation, .ref C_ParseError, .ref C_InvalidNumber, .ref C_UnknownName, .ref C_TooMany, .ref C_Refused, .ref C_NothingToUndo, .type "ValueError", .type "IndexError", .type "KeyError", .type "OverflowError", .type "ArithmeticError", .type "LookupError"] : List Value).getD j .none) = some (flagB i j)
  xm : ∀ i j, i < 17 → j < 17 → PySem.W.exmOne K (.ref (CA i)) (.ref (CA j)) = some (xmB i j)
  xP_FrameError : PySem.W.excIn K C_FrameError [.type "ValueError", .type "Exception", .type "BaseException", .type "object"] "ValueError.__new__" = true
  kP_FrameError : PySem.W.keepIn K (.ref C_FrameError) = true
  bP_FrameError : PySem.W.subIn K (.ref C_FrameError) (.type "BaseException") = some true
  tP_FrameError : PySem.W.typeIn K (.ref C_FrameError) = some (.type "type")
  xP_InvalidName : PySem.W.excIn K C_InvalidName [.type "ValueError", .type "Exception", .type "BaseException", .type "object"] "ValueError.__new__" = true
  kP_InvalidName : PySem.W.keepIn K (.ref C_InvalidName) = true
  bP_InvalidName : PySem.W.subIn K (.ref C_InvalidName) (.type "BaseException") = some true
  tP_InvalidName : PySem.W.typeIn K (.ref C_InvalidName) = some (.type "type")
  xP_InvalidFrame : PySem.W.excIn K C_InvalidFrame [.type "ValueError", .type "Exception", .type "BaseException", .type "object"] "ValueError.__new__" = true
  kP_InvalidFrame : PySem.W.keepIn K (.ref C_InvalidFrame) = true
  bP_InvalidFrame : PySem.W.subIn K (.ref C_InvalidFrame) (.type "BaseException") = some true
  tP_InvalidFrame : PySem.W.typeIn K (.ref C_InvalidFrame) = some (.type "type")
  xP_InvalidRod : PySem.W.excIn K C_InvalidRod [.type "ValueError", .type "Exception", .type "BaseException", .type "object"] "ValueError.__new__" = true
  kP_InvalidRod : PySem.W.keepIn K (.ref C_InvalidRod) = true
  bP_InvalidRod : PySem.W.subIn K (.ref C_InvalidRod) (.type "BaseException") = some true
  tP_InvalidRod : PySem.W.typeIn K (.ref C_InvalidRod) = some (.type "type")
  xP_InvalidPlacing : PySem.W.excIn K C_InvalidPlacing [.type "ValueError", .type "Exception", .type "BaseException", .type "object"] "ValueError.__new__" = true
  kP_InvalidPlacing : PySem.W.keepIn K (.ref C_InvalidPlacing) = true
  bP_InvalidPlacing : PySem.W.subIn K (.ref C_InvalidPlacing) (.type "BaseException") = some true
  tP_InvalidPlacing : PySem.W.typeIn K (.ref C_InvalidPlacing) = some (.type "type")
  xP_InvalidWeights : PySem.W.excIn K C_InvalidWeights [.type "ValueError", .type "Exception", .type "BaseException", .type "object"] "ValueError.__new__" = true
  kP_InvalidWeights : PySem.W.keepIn K (.ref C_InvalidWeights) = true
  bP_InvalidWeights : PySem.W.subIn K (.ref C_InvalidWeights) (.type "BaseException") = some true
  tP_InvalidWeights : PySem.W.typeIn K (.ref C_InvalidWeights) = some (.type "type")
  xP_InvalidStep : PySem.W.excIn K C_InvalidStep [.type "ValueError", .type "Exception", .type "BaseException", .type "object"] "ValueError.__new__" = true
  kP_InvalidStep : PySem.W.keepIn K (.ref C_InvalidStep) = true
  bP_InvalidStep : PySem.W.subIn K (.ref C_InvalidStep) (.type "BaseException") = some true
  tP_InvalidStep : PySem.W.typeIn K (.ref C_InvalidStep) = some (.type "type")
  xP_InvalidStand : PySem.W.excIn K C_InvalidStand [.type "ValueError", .type "Exception", .type "BaseException", .type "object"] "ValueError.__new__" = true
  kP_InvalidStand : PySem.W.keepIn K (.ref C_InvalidStand) = true
  bP_InvalidStand : PySem.W.subIn K (.ref C_InvalidStand) (.type "BaseException") = some true
  tP_InvalidStand : PySem.W.typeIn K (.ref C_InvalidStand) = some (.type "type")
  xP_InvalidDirections : PySem.W.excIn K C_InvalidDirections [.type "ValueError", .type "Exception", .type "BaseException", .type "object"] "ValueError.__new__" = true
  kP_InvalidDirections : PySem.W.keepIn K (.ref C_InvalidDirections) = true
  bP_InvalidDirections : PySem.W.subIn K (.ref C_InvalidDirections) (.type "BaseException") = some true
  tP_InvalidDirections : PySem.W.typeIn K (.ref C_InvalidDirections) = some (.type "type")
  xP_InvalidPromise : PySem.W.excIn K C_InvalidPromise [.type "ValueError", .type "Exception", .type "BaseException", .type "object"] "ValueError.__new__" = true
  kP_InvalidPromise : PySem.W.keepIn K (.ref C_InvalidPromise) = true
  bP_InvalidPromise : PySem.W.subIn K (.ref C_InvalidPromise) (.type "BaseException") = some true
  tP_InvalidPromise : PySem.W.typeIn K (.ref C_InvalidPromise) = some (.type "type")
  xP_InvalidOperation : PySem.W.excIn K C_InvalidOperation [.type "ValueError", .type "Exception", .type "BaseException", .type "object"] "ValueError.__new__" = true
  kP_InvalidOperation : PySem.W.keepIn K (.ref C_InvalidOperation) = true
  bP_InvalidOperation : PySem.W.subIn K (.ref C_InvalidOperation) (.type "BaseException") = some true
  tP_InvalidOperation : PySem.W.typeIn K (.ref C_InvalidOperation) = some (.type "type")
  I_ParseError : Addr
  su_ParseError : DL.SupC P K "ValueError" "ValueError.__new__" "ValueError.__init__" [.type "ValueError", .type "Exception", .type "BaseException", .type "object"] C_ParseError I_ParseError "self" "spot" "spot"
  xf_ParseError : XfC K (CA 11)
  nf_ParseError : PySem.W.findIn K (.ref (CA 11)) "spot" = some none
  I_InvalidNumber : Addr
  su_InvalidNumber : DL.SupC P K "IndexError" "IndexError.__new__" "IndexError.__init__" [.type "IndexError", .type "LookupError", .type "Exception", .type "BaseException", .type "object"] C_InvalidNumber I_InvalidNumber "self" "given" "given"
  xf_InvalidNumber : XfC K (CA 12)
  nf_InvalidNumber : PySem.W.findIn K (.ref (CA 12)) "given" = some none
  I_UnknownName : Addr
  su_UnknownName : DL.SupK P K C_UnknownName I_UnknownName "self" "wanted" "wanted"
  xf_UnknownName : XfC K (CA 13)
  nf_UnknownName : PySem.W.findIn K (.ref (CA 13)) "wanted" = some none
  I_TooMany : Addr
  su_TooMany : DL.SupC P K "OverflowError" "OverflowError.__new__" "OverflowError.__init__" [.type "OverflowError", .type "ArithmeticError", .type "Exception", .type "BaseException", .type "object"] C_TooMany I_TooMany "self" "most" "most"
  xf_TooMany : XfC K (CA 14)
  nf_TooMany : PySem.W.findIn K (.ref (CA 14)) "most" = some none
  I_Refused : Addr
  su_Refused : DL.SupC P K "ArithmeticError" "ArithmeticError.__new__" "ArithmeticError.__init__" [.type "ArithmeticError", .type "Exception", .type "BaseException", .type "object"] C_Refused I_Refused "self" "reason" "reason"
  xf_Refused : XfC K (CA 15)
  nf_Refused : PySem.W.findIn K (.ref (CA 15)) "reason" = some none
  I_NothingToUndo : Addr
  su_NothingToUndo : DL.SupC P K "LookupError" "LookupError.__new__" "LookupError.__init__" [.type "LookupError", .type "Exception", .type "BaseException", .type "object"] C_NothingToUndo I_NothingToUndo "self" "count" "count"
  xf_NothingToUndo : XfC K (CA 16)
  nf_NothingToUndo : PySem.W.findIn K (.ref (CA 16)) "count" = some none
abbrev Ts {P : Program} {K : PySem.W.Frag} {mg : Str → Option Value} (T : Tx P K mg) : List Addr := []
section
variable {P : Program} {w : World} {K : PySem.W.Frag} {mg : Str → Option Value} {base : Heap}
theorem okh__law_bag (T : Tx P K mg) : FnOk P w K mg base CX0 1 T.a__law_bag T.d__law_bag ["_law_script", "_law_at"] (spNewBag K) := by
  refine T.F__law_bag.ok sc__law_bag (fun vs H1 Q E h => ?_) (fun cdv A outer s H1 vs Q E hr h => ?_)
  · obtain ⟨H, a, ns, n, rfl, _⟩ := h
    rfl
  · obtain ⟨H, a, ns, n, rfl, ex, hS, hl, h0, h1, q⟩ := h
    refine ⟨_, (pss_cons (ps_set (i := 2) sc__law_bag.nd rfl (by first | exact Or.inl rfl | exact Or.inr rfl) (pe_ifExp (pt_cmpR opLt (pv 1) (pe_callB (kLen (K := K) rfl) (by rfl) T.n_len (by decide +kernel) (pa_cons (pv 0) pa_nil)) (nomark _)) (pe_ix (kIx (K := K) rfl) (pv 0) (pv 1) (fun _ _ => rfl)) (pe_op (kAdd (K := K) rfl) (pe_op (kAdd (K := K) rfl) (pe_callB (kSum (K := K) rfl rfl) (by rfl) T.n_sum (by decide +kernel) (pa_cons (pe_slice (kSl (K := K) rfl) (pv 0) po_none (po_some pe_int)) pa_nil)) (pe_op (kMul (K := K) rfl) pe_int (pv 1))) pe_int)))
      (pss_cons (ps_set (i := 3) sc__law_bag.nd rfl (by first | exact Or.inl rfl | exact Or.inr rfl) (pe_op op_mod (pe_callTy call_int1 (by rfl) T.n_int (by decide +kernel) (pa_cons (pe_callB call_abs (by rfl) T.n_abs (by decide +kernel) (pa_cons (pv 2) pa_nil)) pa_nil)) (pe_op op_powW (pe_op op_powW pe_int pe_int) pe_int)))
      (pss_cons (ps_set (i := 4) sc__law_bag.nd rfl (by first | exact Or.inl rfl | exact Or.inr rfl) (pe_op (kAdd (K := K) rfl) (pe_op (kAdd (K := K) rfl) (pe_op (kAdd (K := K) rfl) (pe_op (kMul (K := K) rfl) (pe_op op_mod (pe_callTy call_int1 (by rfl) T.n_int (by decide +kernel) (pa_cons (pv 3) pa_nil)) pe_int) pe_int) (pe_op (kMul (K := K) rfl) pe_int (pv 1))) (pe_op (kMul (K := K) rfl) pe_int (pe_callTy call_int1 (by rfl) T.n_int (by decide +kernel) (pa_cons (pe_cmpR opLt (pv 2) pe_int (nomark _)) pa_nil)))) pe_int))
      (pss_one (ps_ret (pe_shut (pe_lst (pa_cons (pe_callB (call_max2 rfl) (by rfl) T.n_max (by decide +kernel) (pa_cons pe_int (pa_cons (pe_op op_sub (pv 3) (pe_op op_powW pe_int pe_int)) pa_nil))) (pa_cons (pe_op op_mod (pe_callTy call_int1 (by rfl) T.n_int (by decide +kernel) (pa_cons (pv 4) pa_nil)) pe_int) (pa_cons pe_int pa_nil)))))))))), ?_⟩
    try dsimp only [cxOf]
    have rs : Rp K H (.ref a) (.list (ns.map .int)) := .lst hS RpAll.of_ints
    have ri : Rp K H (.int n) (.int n) := .int n
    have lenE : ∀ {σ : L2.St} {i : Nat}, σ[i]? = some (some (.ref a)) → EvD K (tCB (DL.rLen K) (tCons (tVar i) tNil)) σ H (.int (ns.length : Int)) := fun {σ i} hi =>
      evd_cb (eas1 (evp_var hi rs) eas_nil) (rc_len (by show some (ns.map PyData.int).length = _; rw [List.length_map]))
    refine st_set (K := K) (P := fun d => ∃ i, d = .int i) (evp_if (etp_test (evd_op (evp_var rfl ri) (lenE rfl) rd_lt)) (fun hb => ?_) (fun hb => ?_)) ex fun v d Hk H2 g r p => ?_
    · have hb' := of_decide_eq_true hb
      refine EvP.weak (evd_op (evp_var rfl rs) (evp_var rfl ri) (rd_ix (d := .int (ns.getD n.toNat 0)) (.inl rfl) ?_)) fun d e => ⟨_, e⟩
      have e1 : n = ((n.toNat : Nat) : Int) := by omega
      rw [e1]
      refine atI_nat (j := n.toNat) ?_
      rw [List.getElem?_map, List.getD_eq_getElem?_getD]
      rw [show (((n.toNat : Nat) : Int)).toNat = n.toNat from rfl, List.getElem?_eq_getElem (show n.toNat < ns.length by omega)]
      rfl
    · refine EvP.weak (evd_op (evd_op (evd_cb (eas1 (EvP.is (evd_sl (l := none) (u := some 1) (ds := ns.map .int) (evp_var rfl rs) (.inl ⟨rfl, rfl⟩) eo_none eo_c) (d2 := .list ((ns.take 1).map .int)) ?_) eas_nil) rc_sum) (evd_op evp_int (evp_var rfl ri) (rd_mul (.of_left (by decide)))) rd_add) evp_int rd_add) fun d e => ⟨_, e⟩
      show PyData.list (cutG (ns.map .int) none (some ((1 : Nat) : Int))) = _
      rw [cutG_to, List.map_take]
    obtain ⟨c, rfl⟩ := p
    have ri2 := ri.mono g.known
    refine st_set (evd_op (evd_cb (eas1 (evd_cb (eas1 (evp_var rfl r) eas_nil) rc_abs) eas_nil) rc_int) (evd_op (evd_op evp_int evp_int (rd_pow ⟨by decide, by decide⟩)) evp_int (rd_pow ⟨by decide, by decide +kernel⟩)) (rd_I (by decide +kernel))) g.sub fun v2 d2 Hk2 H3 g2 r2 p2 => ?_
    subst p2
    have mk : ∀ m : Int, 0 ≤ m % 2305843009213693669 ∧ m % 2305843009213693669 < 2305843009213693669 := fun m => ⟨Int.emod_nonneg _ (by decide), Int.emod_lt_of_pos _ (by decide)⟩
    refine st_set (evd_op (evd_op (evd_op (evd_op (evd_op (evd_cb (eas1 (evp_var rfl r2) eas_nil) rc_int) evp_int (rd_I (by decide))) evp_int (rd_mul (.of_right (by decide)))) (evd_op evp_int (evp_var rfl (ri2.mono g2.known)) (rd_mul (.of_left (by decide)))) rd_add)
      (evd_op evp_int (evd_cb (eas1 (evd_op (evp_var rfl (r.mono g2.known)) evp_int rd_lt) eas_nil) rc_intB) (rd_mul (.of_left (by decide)))) rd_add) evp_int rd_add) g2.sub fun v3 d3 Hk3 H4 g3 r3 p3 => ?_
    subst p3
    exact st_retBag (eas1 (evd_cb (eas1 evp_int (eas1 (evd_op (evp_var rfl (r2.mono g3.known)) (evd_op evp_int evp_int (rd_pow ⟨by decide, by decide⟩)) rd_I0) eas_nil)) rc_max2)
      (eas1 (evd_op (evd_cb (eas1 (evp_var rfl r3) eas_nil) rc_int) evp_int (rd_I (by decide))) (eas1 evp_int eas_nil))) g3.sub fun p Hk4 H5 g4 hp =>
      q p _ _ ((g.trans (g2.trans g3)).trans g4) hp
theorem ok__law_bag (T : Tx P K mg) : FnOk P w K mg base CX0 1 T.a__law_bag T.d__law_bag ["_law_script", "_law_at"] (spNewBag K) := okh__law_bag T
theorem okh__law_draw (T : Tx P K mg) : FnOk P w K mg base CX0 1 T.a__law_draw T.d__law_draw ["_law_bag_here", "_law_total"] (spB1 K drawPre drawPost) := by
  refine T.F__law_draw.ok sc__law_draw (fun vs H1 Q E h => ?_) (fun cdv A outer s H1 vs Q E hr h => ?_)
  · obtain ⟨H, b, v, d, rfl, _⟩ := h
    rfl
  · obtain ⟨H, b, v, d, rfl, ex, hb, r, p, q⟩ := h
    refine ⟨_, (pss_bag (pss_cons (ps_if (pt_cmpR opGt (pe_ix (kIx (K := K) rfl) (pv 0) pe_int (fun _ _ => rfl)) pe_int (nomark _)) (pss_cons (ps_set (i := 2) sc__law_draw.nd rfl (by first | exact Or.inl rfl | exact Or.inr rfl) (pe_op op_mod (pe_callTy call_int1 (by rfl) T.n_int (by decide +kernel) (pa_cons (pe_ix (kIx (K := K) rfl) (pv 0) pe_int (fun _ _ => rfl)) pa_nil)) (pv 1)))
      (pss_cons (ps_asg (pe_op op_fdivW (pe_ix (kIx (K := K) rfl) (pv 0) pe_int (fun _ _ => rfl)) (pv 1)) (pg_sub (pv 0) pe_int set_list))
      (pss_one (ps_ret (pv 2))))) pss_nil)
      (pss_cons (ps_asg (pe_op (kAdd (K := K) rfl) (pe_ix (kIx (K := K) rfl) (pv 0) pe_int (fun _ _ => rfl)) pe_int) (pg_sub (pv 0) pe_int set_list))
      (pss_cons (ps_set (i := 3) sc__law_draw.nd rfl (by first | exact Or.inl rfl | exact Or.inr rfl) (pe_op op_mod (pe_callTy call_int1 (by rfl) T.n_int (by decide +kernel) (pa_cons (pe_op (kAdd (K := K) rfl) (pe_ix (kIx (K := K) rfl) (pv 0) pe_int (fun _ _ => rfl)) (pe_op (kMul (K := K) rfl) pe_int (pe_ix (kIx (K := K) rfl) (pv 0) pe_int (fun _ _ => rfl)))) pa_nil)) pe_int))
      (pss_cons (ps_set (i := 4) sc__law_draw.nd rfl (by first | exact Or.inl rfl | exact Or.inr rfl) (pe_op (kAdd (K := K) rfl) (pe_op (kMul (K := K) rfl) (pe_op op_mod (pe_callTy call_int1 (by rfl) T.n_int (by decide +kernel) (pa_cons (pe_op (kMul (K := K) rfl) (pv 3) (pv 3)) pa_nil)) pe_int) (pv 3)) (pe_op (kMul (K := K) rfl) pe_int (pe_ix (kIx (K := K) rfl) (pv 0) pe_int (fun _ _ => rfl)))))
      (pss_one (ps_ret (pe_op op_mod (pe_callTy call_int1 (by rfl) T.n_int (by decide +kernel) (pa_cons (pe_op op_fdivW (pe_op op_mod (pe_callTy call_int1 (by rfl) T.n_int (by decide +kernel) (pa_cons (pv 4) pa_nil)) pe_int) pe_int) pa_nil)) (pv 1))))))))), ?_⟩
    try dsimp only [cxOf]
    obtain ⟨n, rfl, hn, hn2⟩ := p
    have rn := r
    cases r
    refine ⟨b, ex _ _ hb, fun x y z => ?_⟩
    have e0 : Ex (upd H b (three x y z)) (upd H1 b (three x y z)) := ex_upd ex b _
    have rb : Rp K (upd H b (three x y z)) (.ref b) (.list [.int x, .int y, .int z]) := .lst (sq_of upd_same) (.cons (.int x) (.cons (.int y) (.cons (.int z) .nil)))
    have fin : ∀ (H3 : Hp), Ex (upd H1 b (three x y z)) H3 → Grow H H1 H (upd H3 b (BagO b)) := fun H3 e3 => bag_grow ex (ex _ _ hb) e3
    have fin2 : ∀ (H3 : Hp) (o : HO), Ex (upd H1 b (three x y z)) H3 → Grow H H1 H (upd (upd H3 b o) b (BagO b)) := fun H3 o e3 => by
      rw [DL.upd_upd]
      exact fin H3 e3
    have rem : ∀ m : Int, 0 ≤ m % n ∧ m % n < n := fun m => ⟨Int.emod_nonneg _ (by omega), Int.emod_lt_of_pos _ hn⟩
    have dv : CDivW x n := ⟨hn, Nat.lt_trans hn2 (by decide)⟩
    refine st_when (etp_test (evd_op (evd_op (evp_var rfl rb) evp_int (rd_ix (d := .int x) (.inl rfl) rfl)) evp_int rd_gt)) e0 (fun hx Hk H2 g => ?_) (fun hx Hk H2 g => ?_)
    · refine st_set (evd_op (evd_cb (eas1 (evd_op (evp_var rfl (rb.mono g.known)) evp_int (rd_ix (d := .int x) (.inl rfl) rfl)) eas_nil) rc_int) (evp_var rfl (.int n)) (rd_I hn)) g.sub fun v2 d2 Hk2 H3 g2 r2 p2 => ?_
      subst p2
      cases r2
      refine (evd_op (evd_op (evp_var rfl (rb.mono (g.trans g2).known)) evp_int (rd_ix (d := .int x) (.inl rfl) rfl)) (evp_var rfl (.int n)) (rd_I dv)) H3 g2.sub _ fun v3 d3 Hk3 H4 g3 r3 p3 => ?_
      subst p3
      cases r3
      have e4 : Ex (upd H1 b (three x y z)) H4 := ((g.trans g2).trans g3).all
      refine ⟨_, rfl, b, _, 0, 0, rfl, rfl, e4 _ _ upd_same, rfl, ?_⟩
      refine ⟨_, rfl, _, _, _, upd_same, ?_⟩
      exact q _ (.int (x % n)) _ _ (fin2 H4 _ e4) (.int _) ⟨_, n, rfl, rfl, rem x⟩
    · -- bag[2] = bag[2] + 1
      refine (evd_op (evd_op (evp_var rfl (rb.mono g.known)) evp_int (rd_ix (d := .int z) (.inl rfl) rfl)) evp_int rd_add) H2 g.sub _ fun v2 d2 Hk2 H3 g2 r2 p2 => ?_
      subst p2
      cases r2
      have e3 : Ex (upd H1 b (three x y z)) H3 := (g.trans g2).all
      refine ⟨_, rfl, b, _, 2, 2, rfl, rfl, e3 _ _ upd_same, rfl, ?_⟩
      have e4 : Ex (upd H b (three x y (z + 1))) (upd H3 b (.lst ([V.int x, V.int y, V.int z].set 2 (.int (z + 1))))) := fun a o h => by
        by_cases ha : a = b
        · subst ha
          rw [upd_same] at h ⊢
          exact h
        · rw [upd_ne ha] at h ⊢
          exact e3 a o (by rw [upd_ne ha]; exact ex a o h)
      have rb2 : Rp K (upd H b (three x y (z + 1))) (.ref b) (.list [.int x, .int y, .int (z + 1)]) := .lst (sq_of upd_same) (.cons (.int x) (.cons (.int y) (.cons (.int _) .nil)))
      refine st_set (evd_op (evd_cb (eas1 (evd_op (evd_op (evp_var rfl rb2) evp_int (rd_ix (d := .int y) (.inl rfl) rfl)) (evd_op evp_int (evd_op (evp_var rfl rb2) evp_int (rd_ix (d := .int (z + 1)) (.inl rfl) rfl)) (rd_mul (.of_left (by decide)))) rd_add) eas_nil) rc_int) evp_int (rd_I (by decide))) e4 fun v5 d5 Hk5 H5 g5 r5 p5 => ?_
      subst p5
      cases r5
      generalize e1 : (y + 1048613 * (z + 1)) % 2305843009213693951 = one
      have h1 : -(2 ^ 64) < one ∧ one < 2 ^ 64 := by
        have a := Int.emod_nonneg (y + 1048613 * (z + 1)) (show (2305843009213693951 : Int) ≠ 0 by decide)
        have c := Int.emod_lt_of_pos (y + 1048613 * (z + 1)) (show (0 : Int) < 2305843009213693951 by decide)
        constructor <;> omega
      have ok1 : ∀ i, IntMulOk one i := fun i => .of_left (PySem.intBits_le_64 h1.1 h1.2)
      have ok2 : ∀ i, IntMulOk i one := fun i => .of_right (PySem.intBits_le_64 h1.1 h1.2)
      refine st_set (evd_op (evd_op (evd_op (evd_cb (eas1 (evd_op (evp_var rfl (.int one)) (evp_var rfl (.int one)) (rd_mul (ok1 _))) eas_nil) rc_int) evp_int (rd_I (by decide))) (evp_var rfl (.int one)) (rd_mul (ok2 _)))
        (evd_op evp_int (evd_op (evp_var rfl (rb2.mono g5.known)) evp_int (rd_ix (d := .int (z + 1)) (.inl rfl) rfl)) (rd_mul (.of_left (by decide)))) rd_add) g5.sub fun v6 d6 Hk6 H6 g6 r6 p6 => ?_
      subst p6
      refine st_ret (evd_op (evd_cb (eas1 (evd_op (evd_op (evd_cb (eas1 (evp_var rfl r6) eas_nil) rc_int) evp_int (rd_I (by decide))) evp_int (rd_I ⟨by decide, by decide⟩)) eas_nil) rc_int) (evp_var rfl (.int n)) (rd_I hn)) g6.sub fun v7 d7 Hk7 H7 g7 r7 p7 => ?_
      subst p7
      cases r7
      have e7 := ((g5.trans g6).trans g7).all
      refine ⟨_, _, _, e7 _ _ upd_same, ?_⟩
      refine q _ _ H _ ?_ (.int _) ⟨_, n, rfl, rfl, rem _⟩
      exact bag_grow ex (ex _ _ hb) ((ex_upd2 e3 _).trans e7)
theorem ok__law_draw (T : Tx P K mg) : FnOk P w K mg base CX0 1 T.a__law_draw T.d__law_draw ["_law_bag_here", "_law_total"] (spW K (Ts T) 2 w__law_draw) := (okh__law_draw T).imp fun _ _ _ _ => sp_draw
theorem ok__law_one_of (T : Tx P K mg) : FnOk P w K mg base CX0 2 T.a__law_one_of T.d__law_one_of ["_law_bag_here", "_law_items"] (spW K (Ts T) 2 w__law_one_of) := by
  refine T.F__law_one_of.ok sc__law_one_of (fun vs H1 Q E h => spW_len h) (fun cdv A outer s H1 vs Q E hr h => ?_)
  letI : Base := ⟨H1⟩
  exact ⟨_, (pss_one (ps_ret (pe_ix (kIxA (K := K) rfl (hu1 hr)) (pv 1) (pe_call (ok__law_draw T) (hr.mono (by decide)) (by rfl) T.g__law_draw T.F__law_draw.kp T.b__law_draw .nil pass0 (pa_cons (pv 0) (pa_cons (pe_callB (kLenA (K := K) rfl) (by rfl) T.n_len (by decide +kernel) (pa_cons (pv 1) pa_nil)) pa_nil))) (fun _ _ => rfl)))),
    ds_body (N := 2) rfl (ds_ret (de_op ow_ixA de_var (de_call (da_var (da_cons (de_cb cw_lenA (dl_cons de_var dl_nil)) da_nil))))) (by rfl) h⟩
theorem okx__law_raised (T : Tx P K mg) : FnOk P w K mg base (L2.CX P w) 2 T.a__law_raised T.d__law_raised ["_law_which", "_law_text", "_law_value"] (spX K mg (Ts T) 3 w__law_raised) := by
  refine T.F__law_raised.okX sc__law_raised (fun vs H1 Q E h => spX_len h) (fun cdv A outer s H1 vs Q E hr h => ?_)
  letI : Base := ⟨H1⟩
  exact ⟨_, (pss_cons (ps_if (pt_cmpR (kEqB (K := K) rfl (hu65 hr)) (pv 0) pe_int (nomark _)) (pss_one (ps_raise rfl (takes_of rfl rfl rfl rfl) (SkE.pmk_own1 PySem.F.excBase_ValueError T.xP_FrameError T.gP_FrameError T.kP_FrameError (raises_own T.bP_FrameError T.tP_FrameError) (by exact rfl) (pv 1)))) pss_nil)
      (pss_cons (ps_if (pt_cmpR (kEqB (K := K) rfl (hu65 hr)) (pv 0) pe_int (nomark _)) (pss_one (ps_raise rfl (takes_of rfl rfl rfl rfl) (SkE.pmk_own1 PySem.F.excBase_ValueError T.xP_InvalidName T.gP_InvalidName T.kP_InvalidName (raises_own T.bP_InvalidName T.tP_InvalidName) (by exact rfl) (pv 1)))) pss_nil)
      (pss_cons (ps_if (pt_cmpR (kEqB (K := K) rfl (hu65 hr)) (pv 0) pe_int (nomark _)) (pss_one (ps_raise rfl (takes_of rfl rfl rfl rfl) (SkE.pmk_own1 PySem.F.excBase_ValueError T.xP_InvalidFrame T.gP_InvalidFrame T.kP_InvalidFrame (raises_own T.bP_InvalidFrame T.tP_InvalidFrame) (by exact rfl) (pv 1)))) pss_nil)
      (pss_cons (ps_if (pt_cmpR (kEqB (K := K) rfl (hu65 hr)) (pv 0) pe_int (nomark _)) (pss_one (ps_raise rfl (takes_of rfl rfl rfl rfl) (SkE.pmk_own1 PySem.F.excBase_ValueError T.xP_InvalidRod T.gP_InvalidRod T.kP_InvalidRod (raises_own T.bP_InvalidRod T.tP_InvalidRod) (by exact rfl) (pv 1)))) pss_nil)
      (pss_cons (ps_if (pt_cmpR (kEqB (K := K) rfl (hu65 hr)) (pv 0) pe_int (nomark _)) (pss_one (ps_raise rfl (takes_of rfl rfl rfl rfl) (SkE.pmk_own1 PySem.F.excBase_ValueError T.xP_InvalidPlacing T.gP_InvalidPlacing T.kP_InvalidPlacing (raises_own T.bP_InvalidPlacing T.tP_InvalidPlacing) (by exact rfl) (pv 1)))) pss_nil)
      (pss_cons (ps_if (pt_cmpR (kEqB (K := K) rfl (hu65 hr)) (pv 0) pe_int (nomark _)) (pss_one (ps_raise rfl (takes_of rfl rfl rfl rfl) (SkE.pmk_own1 PySem.F.excBase_ValueError T.xP_InvalidWeights T.gP_InvalidWeights T.kP_InvalidWeights (raises_own T.bP_InvalidWeights T.tP_InvalidWeights) (by exact rfl) (pv 1)))) pss_nil)
      (pss_cons (ps_if (pt_cmpR (kEqB (K := K) rfl (hu65 hr)) (pv 0) pe_int (nomark _)) (pss_one (ps_raise rfl (takes_of rfl rfl rfl rfl) (SkE.pmk_own1 PySem.F.excBase_ValueError T.xP_InvalidStep T.gP_InvalidStep T.kP_InvalidStep (raises_own T.bP_InvalidStep T.tP_InvalidStep) (by exact rfl) (pv 1)))) pss_nil)
      (pss_cons (ps_if (pt_cmpR (kEqB (K := K) rfl (hu65 hr)) (pv 0) pe_int (nomark _)) (pss_one (ps_raise rfl (takes_of rfl rfl rfl rfl) (SkE.pmk_own1 PySem.F.excBase_ValueError T.xP_InvalidStand T.gP_InvalidStand T.kP_InvalidStand (raises_own T.bP_InvalidStand T.tP_InvalidStand) (by exact rfl) (pv 1)))) pss_nil)
      (pss_cons (ps_if (pt_cmpR (kEqB (K := K) rfl (hu65 hr)) (pv 0) pe_int (nomark _)) (pss_one (ps_raise rfl (takes_of rfl rfl rfl rfl) (SkE.pmk_own1 PySem.F.excBase_ValueError T.xP_InvalidDirections T.gP_InvalidDirections T.kP_InvalidDirections (raises_own T.bP_InvalidDirections T.tP_InvalidDirections) (by exact rfl) (pv 1)))) pss_nil)
      (pss_cons (ps_if (pt_cmpR (kEqB (K := K) rfl (hu65 hr)) (pv 0) pe_int (nomark _)) (pss_one (ps_raise rfl (takes_of rfl rfl rfl rfl) (SkE.pmk_own1 PySem.F.excBase_ValueError T.xP_InvalidPromise T.gP_InvalidPromise T.kP_InvalidPromise (raises_own T.bP_InvalidPromise T.tP_InvalidPromise) (by exact rfl) (pv 1)))) pss_nil)
      (pss_cons (ps_if (pt_cmpR (kEqB (K := K) rfl (hu65 hr)) (pv 0) pe_int (nomark _)) (pss_one (ps_raise rfl (takes_of rfl rfl rfl rfl) (SkE.pmk_own1 PySem.F.excBase_ValueError T.xP_InvalidOperation T.gP_InvalidOperation T.kP_InvalidOperation (raises_own T.bP_InvalidOperation T.tP_InvalidOperation) (by exact rfl) (pv 1)))) pss_nil)
      (pss_cons (ps_if (pt_cmpR (kEqB (K := K) rfl (hu65 hr)) (pv 0) pe_int (nomark _)) (pss_one (ps_raise rfl (takes_of rfl rfl rfl rfl) (pmk_sup T.su_ParseError hr T.n_super rfl T.gP_ParseError (pa_cons (pv 2) pa_nil)))) pss_nil)
      (pss_cons (ps_if (pt_cmpR (kEqB (K := K) rfl (hu65 hr)) (pv 0) pe_int (nomark _)) (pss_one (ps_raise rfl (takes_of rfl rfl rfl rfl) (pmk_sup T.su_InvalidNumber hr T.n_super rfl T.gP_InvalidNumber (pa_cons (pv 2) pa_nil)))) pss_nil)
      (pss_cons (ps_if (pt_cmpR (kEqB (K := K) rfl (hu65 hr)) (pv 0) pe_int (nomark _)) (pss_one (ps_raise rfl (takes_of rfl rfl rfl rfl) (pmk_supk T.su_UnknownName hr T.n_super rfl T.gP_UnknownName (pa_cons (pv 2) pa_nil)))) pss_nil)
      (pss_cons (ps_if (pt_cmpR (kEqB (K := K) rfl (hu65 hr)) (pv 0) pe_int (nomark _)) (pss_one (ps_raise rfl (takes_of rfl rfl rfl rfl) (pmk_sup T.su_TooMany hr T.n_super rfl T.gP_TooMany (pa_cons (pv 2) pa_nil)))) pss_nil)
      (pss_cons (ps_if (pt_cmpR (kEqB (K := K) rfl (hu65 hr)) (pv 0) pe_int (nomark _)) (pss_one (ps_raise rfl (takes_of rfl rfl rfl rfl) (pmk_sup T.su_Refused hr T.n_super rfl T.gP_Refused (pa_cons (pv 2) pa_nil)))) pss_nil)
      (pss_one (ps_raise rfl (takes_of rfl rfl rfl rfl) (pmk_sup T.su_NothingToUndo hr T.n_super rfl T.gP_NothingToUndo (pa_cons (pv 2) pa_nil)))))))))))))))))))),
    dsx_body (N := 3) rfl (dsx_seq (dsx_if (dt_test (de_op ow_eqB de_var de_int)) (dsx_raise1 T.gP_FrameError de_var) (dsx_of ds_next))
      (dsx_seq (dsx_if (dt_test (de_op ow_eqB de_var de_int)) (dsx_raise1 T.gP_InvalidName de_var) (dsx_of ds_next))
      (dsx_seq (dsx_if (dt_test (de_op ow_eqB de_var de_int)) (dsx_raise1 T.gP_InvalidFrame de_var) (dsx_of ds_next))
      (dsx_seq (dsx_if (dt_test (de_op ow_eqB de_var de_int)) (dsx_raise1 T.gP_InvalidRod de_var) (dsx_of ds_next))
      (dsx_seq (dsx_if (dt_test (de_op ow_eqB de_var de_int)) (dsx_raise1 T.gP_InvalidPlacing de_var) (dsx_of ds_next))
      (dsx_seq (dsx_if (dt_test (de_op ow_eqB de_var de_int)) (dsx_raise1 T.gP_InvalidWeights de_var) (dsx_of ds_next))
      (dsx_seq (dsx_if (dt_test (de_op ow_eqB de_var de_int)) (dsx_raise1 T.gP_InvalidStep de_var) (dsx_of ds_next))
      (dsx_seq (dsx_if (dt_test (de_op ow_eqB de_var de_int)) (dsx_raise1 T.gP_InvalidStand de_var) (dsx_of ds_next))
      (dsx_seq (dsx_if (dt_test (de_op ow_eqB de_var de_int)) (dsx_raise1 T.gP_InvalidDirections de_var) (dsx_of ds_next))
      (dsx_seq (dsx_if (dt_test (de_op ow_eqB de_var de_int)) (dsx_raise1 T.gP_InvalidPromise de_var) (dsx_of ds_next))
      (dsx_seq (dsx_if (dt_test (de_op ow_eqB de_var de_int)) (dsx_raise1 T.gP_InvalidOperation de_var) (dsx_of ds_next))
      (dsx_seq (dsx_if (dt_test (de_op ow_eqB de_var de_int)) (dsx_raise T.gP_ParseError de_var) (dsx_of ds_next))
      (dsx_seq (dsx_if (dt_test (de_op ow_eqB de_var de_int)) (dsx_raise T.gP_InvalidNumber de_var) (dsx_of ds_next))
      (dsx_seq (dsx_if (dt_test (de_op ow_eqB de_var de_int)) (dsx_raise T.gP_UnknownName de_var) (dsx_of ds_next))
      (dsx_seq (dsx_if (dt_test (de_op ow_eqB de_var de_int)) (dsx_raise T.gP_TooMany de_var) (dsx_of ds_next))
      (dsx_seq (dsx_if (dt_test (de_op ow_eqB de_var de_int)) (dsx_raise T.gP_Refused de_var) (dsx_of ds_next))
      (dsx_raise T.gP_NothingToUndo de_var))))))))))))))))) (by rfl) h⟩
def toldT (T : Tx P K mg) : Told := ⟨fun i => (["FrameError", "InvalidName", "InvalidFrame", "InvalidRod", "InvalidPlacing", "InvalidWeights", "InvalidStep", "InvalidStand", "InvalidDirections", "InvalidPromise", "InvalidOperation", "ParseError", "InvalidNumber", "UnknownName", "TooMany", "Refused", "NothingToUndo"] : List Str).getD i "", fun i => (["", "", "", "", "", "", "", "", "", "", "", "spot", "given", "wanted", "most", "reason", "count"] : List Str).getD i "", T.CA, flagB, xmB⟩
theorem ok__law_flags (T : Tx P K mg) : FnHp P w K mg base 1 T.a__law_flags T.d__law_flags ["_law_error"] ((toldT T).sp K (Ts T) w__law_flags) := by
  refine DL.Fun.okHp T.F__law_flags sc__law_flags (fun a c vs H1 Q E h => (by obtain ⟨i, _, _, h⟩ := h; exact spW_len h)) (fun cdv A outer s H1 vs Q E p hf hr h => ?_)
  obtain ⟨i, hi, hz, h⟩ := h
  letI : Base := ⟨H1⟩
  let a := p.1
  let fl := flagB i
  exact ⟨_, (pss_cons (ps_set (i := 1) sc__law_flags.nd rfl (by first | exact Or.inl rfl | exact Or.inr rfl) (pe_lst (pa_cons (pe_callB (call_isF (List.Mem.head _) (T.ex i hi) hz hf) (by rfl) T.n_isinstance (by decide +kernel) (pa_cons (pv 0) (pa_cons (pe_glob (v := .ref T.C_FrameError) (by rfl) T.gP_FrameError rfl) pa_nil))) (pa_cons (pe_callB (call_isF (List.Mem.head _) (T.ex i hi) hz hf) (by rfl) T.n_isinstance (by decide +kernel) (pa_cons (pv 0) (pa_cons (pe_glob (v := .ref T.C_InvalidName) (by rfl) T.gP_InvalidName rfl) pa_nil))) (pa_cons (pe_callB (call_isF (List.Mem.head _) (T.ex i hi) hz hf) (by rfl) T.n_isinstance (by decide +kernel) (pa_cons (pv 0) (pa_cons (pe_glob (v := .ref T.C_InvalidFrame) (by rfl) T.gP_InvalidFrame rfl) pa_nil))) pa_nil)))))
      (pss_cons (ps_set (i := 1) sc__law_flags.nd rfl (by first | exact Or.inl rfl | exact Or.inr rfl) (pe_op (kAddA (K := K) rfl) (pv 1) (pe_lst (pa_cons (pe_callB (call_isF (List.Mem.head _) (T.ex i hi) hz hf) (by rfl) T.n_isinstance (by decide +kernel) (pa_cons (pv 0) (pa_cons (pe_glob (v := .ref T.C_InvalidRod) (by rfl) T.gP_InvalidRod rfl) pa_nil))) (pa_cons (pe_callB (call_isF (List.Mem.head _) (T.ex i hi) hz hf) (by rfl) T.n_isinstance (by decide +kernel) (pa_cons (pv 0) (pa_cons (pe_glob (v := .ref T.C_InvalidPlacing) (by rfl) T.gP_InvalidPlacing rfl) pa_nil))) (pa_cons (pe_callB (call_isF (List.Mem.head _) (T.ex i hi) hz hf) (by rfl) T.n_isinstance (by decide +kernel) (pa_cons (pv 0) (pa_cons (pe_glob (v := .ref T.C_InvalidWeights) (by rfl) T.gP_InvalidWeights rfl) pa_nil))) pa_nil))))))
      (pss_cons (ps_set (i := 1) sc__law_flags.nd rfl (by first | exact Or.inl rfl | exact Or.inr rfl) (pe_op (kAddA (K := K) rfl) (pv 1) (pe_lst (pa_cons (pe_callB (call_isF (List.Mem.head _) (T.ex i hi) hz hf) (by rfl) T.n_isinstance (by decide +kernel) (pa_cons (pv 0) (pa_cons (pe_glob (v := .ref T.C_InvalidStep) (by rfl) T.gP_InvalidStep rfl) pa_nil))) (pa_cons (pe_callB (call_isF (List.Mem.head _) (T.ex i hi) hz hf) (by rfl) T.n_isinstance (by decide +kernel) (pa_cons (pv 0) (pa_cons (pe_glob (v := .ref T.C_InvalidStand) (by rfl) T.gP_InvalidStand rfl) pa_nil))) (pa_cons (pe_callB (call_isF (List.Mem.head _) (T.ex i hi) hz hf) (by rfl) T.n_isinstance (by decide +kernel) (pa_cons (pv 0) (pa_cons (pe_glob (v := .ref T.C_InvalidDirections) (by rfl) T.gP_InvalidDirections rfl) pa_nil))) pa_nil))))))
      (pss_cons (ps_set (i := 1) sc__law_flags.nd rfl (by first | exact Or.inl rfl | exact Or.inr rfl) (pe_op (kAddA (K := K) rfl) (pv 1) (pe_lst (pa_cons (pe_callB (call_isF (List.Mem.head _) (T.ex i hi) hz hf) (by rfl) T.n_isinstance (by decide +kernel) (pa_cons (pv 0) (pa_cons (pe_glob (v := .ref T.C_InvalidPromise) (by rfl) T.gP_InvalidPromise rfl) pa_nil))) (pa_cons (pe_callB (call_isF (List.Mem.head _) (T.ex i hi) hz hf) (by rfl) T.n_isinstance (by decide +kernel) (pa_cons (pv 0) (pa_cons (pe_glob (v := .ref T.C_InvalidOperation) (by rfl) T.gP_InvalidOperation rfl) pa_nil))) (pa_cons (pe_callB (call_isF (List.Mem.head _) (T.ex i hi) hz hf) (by rfl) T.n_isinstance (by decide +kernel) (pa_cons (pv 0) (pa_cons (pe_glob (v := .ref T.C_ParseError) (by rfl) T.gP_ParseError rfl) pa_nil))) pa_nil))))))
      (pss_cons (ps_set (i := 1) sc__law_flags.nd rfl (by first | exact Or.inl rfl | exact Or.inr rfl) (pe_op (kAddA (K := K) rfl) (pv 1) (pe_lst (pa_cons (pe_callB (call_isF (List.Mem.head _) (T.ex i hi) hz hf) (by rfl) T.n_isinstance (by decide +kernel) (pa_cons (pv 0) (pa_cons (pe_glob (v := .ref T.C_InvalidNumber) (by rfl) T.gP_InvalidNumber rfl) pa_nil))) (pa_cons (pe_callB (call_isF (List.Mem.head _) (T.ex i hi) hz hf) (by rfl) T.n_isinstance (by decide +kernel) (pa_cons (pv 0) (pa_cons (pe_glob (v := .ref T.C_UnknownName) (by rfl) T.gP_UnknownName rfl) pa_nil))) (pa_cons (pe_callB (call_isF (List.Mem.head _) (T.ex i hi) hz hf) (by rfl) T.n_isinstance (by decide +kernel) (pa_cons (pv 0) (pa_cons (pe_glob (v := .ref T.C_TooMany) (by rfl) T.gP_TooMany rfl) pa_nil))) pa_nil))))))
      (pss_cons (ps_set (i := 1) sc__law_flags.nd rfl (by first | exact Or.inl rfl | exact Or.inr rfl) (pe_op (kAddA (K := K) rfl) (pv 1) (pe_lst (pa_cons (pe_callB (call_isF (List.Mem.head _) (T.ex i hi) hz hf) (by rfl) T.n_isinstance (by decide +kernel) (pa_cons (pv 0) (pa_cons (pe_glob (v := .ref T.C_Refused) (by rfl) T.gP_Refused rfl) pa_nil))) (pa_cons (pe_callB (call_isF (List.Mem.head _) (T.ex i hi) hz hf) (by rfl) T.n_isinstance (by decide +kernel) (pa_cons (pv 0) (pa_cons (pe_glob (v := .ref T.C_NothingToUndo) (by rfl) T.gP_NothingToUndo rfl) pa_nil))) (pa_cons (pe_callB (call_isF (List.Mem.head _) (T.ex i hi) hz hf) (by rfl) T.n_isinstance (by decide +kernel) (pa_cons (pv 0) (pa_cons (pe_bltn (v := .ty "ValueError") (by rfl) T.n_ValueError (by decide +kernel) rfl) pa_nil))) pa_nil))))))
      (pss_cons (ps_set (i := 1) sc__law_flags.nd rfl (by first | exact Or.inl rfl | exact Or.inr rfl) (pe_op (kAddA (K := K) rfl) (pv 1) (pe_lst (pa_cons (pe_callB (call_isF (List.Mem.head _) (T.ex i hi) hz hf) (by rfl) T.n_isinstance (by decide +kernel) (pa_cons (pv 0) (pa_cons (pe_bltn (v := .ty "IndexError") (by rfl) T.n_IndexError (by decide +kernel) rfl) pa_nil))) (pa_cons (pe_callB (call_isF (List.Mem.head _) (T.ex i hi) hz hf) (by rfl) T.n_isinstance (by decide +kernel) (pa_cons (pv 0) (pa_cons (pe_bltn (v := .ty "KeyError") (by rfl) T.n_KeyError (by decide +kernel) rfl) pa_nil))) (pa_cons (pe_callB (call_isF (List.Mem.head _) (T.ex i hi) hz hf) (by rfl) T.n_isinstance (by decide +kernel) (pa_cons (pv 0) (pa_cons (pe_bltn (v := .ty "OverflowError") (by rfl) T.n_OverflowError (by decide +kernel) rfl) pa_nil))) pa_nil))))))
      (pss_one (ps_ret (pe_op (kAddA (K := K) rfl) (pv 1) (pe_lst (pa_cons (pe_callB (call_isF (List.Mem.head _) (T.ex i hi) hz hf) (by rfl) T.n_isinstance (by decide +kernel) (pa_cons (pv 0) (pa_cons (pe_bltn (v := .ty "ArithmeticError") (by rfl) T.n_ArithmeticError (by decide +kernel) rfl) pa_nil))) (pa_cons (pe_callB (call_isF (List.Mem.head _) (T.ex i hi) hz hf) (by rfl) T.n_isinstance (by decide +kernel) (pa_cons (pv 0) (pa_cons (pe_bltn (v := .ty "LookupError") (by rfl) T.n_LookupError (by decide +kernel) rfl) pa_nil))) pa_nil))))))))))))),
    ds_body (N := 2) rfl (ds_seq (ds_set (dm_dat (de_new (dn_lst (dl_cons (de_isF (i := 0) (c := .ref T.C_FrameError) (cv := .ref T.C_FrameError) (fun u r => r) (T.kit i 0 hi (by decide))) (dl_cons (de_isF (i := 0) (c := .ref T.C_InvalidName) (cv := .ref T.C_InvalidName) (fun u r => r) (T.kit i 1 hi (by decide))) (dl_cons (de_isF (i := 0) (c := .ref T.C_InvalidFrame) (cv := .ref T.C_InvalidFrame) (fun u r => r) (T.kit i 2 hi (by decide))) dl_nil)))))))
      (ds_seq (ds_set (dm_dat (de_op ow_add de_var (de_new (dn_lst (dl_cons (de_isF (i := 0) (c := .ref T.C_InvalidRod) (cv := .ref T.C_InvalidRod) (fun u r => r) (T.kit i 3 hi (by decide))) (dl_cons (de_isF (i := 0) (c := .ref T.C_InvalidPlacing) (cv := .ref T.C_InvalidPlacing) (fun u r => r) (T.kit i 4 hi (by decide))) (dl_cons (de_isF (i := 0) (c := .ref T.C_InvalidWeights) (cv := .ref T.C_InvalidWeights) (fun u r => r) (T.kit i 5 hi (by decide))) dl_nil))))))))
      (ds_seq (ds_set (dm_dat (de_op ow_add de_var (de_new (dn_lst (dl_cons (de_isF (i := 0) (c := .ref T.C_InvalidStep) (cv := .ref T.C_InvalidStep) (fun u r => r) (T.kit i 6 hi (by decide))) (dl_cons (de_isF (i := 0) (c := .ref T.C_InvalidStand) (cv := .ref T.C_InvalidStand) (fun u r => r) (T.kit i 7 hi (by decide))) (dl_cons (de_isF (i := 0) (c := .ref T.C_InvalidDirections) (cv := .ref T.C_InvalidDirections) (fun u r => r) (T.kit i 8 hi (by decide))) dl_nil))))))))
      (ds_seq (ds_set (dm_dat (de_op ow_add de_var (de_new (dn_lst (dl_cons (de_isF (i := 0) (c := .ref T.C_InvalidPromise) (cv := .ref T.C_InvalidPromise) (fun u r => r) (T.kit i 9 hi (by decide))) (dl_cons (de_isF (i := 0) (c := .ref T.C_InvalidOperation) (cv := .ref T.C_InvalidOperation) (fun u r => r) (T.kit i 10 hi (by decide))) (dl_cons (de_isF (i := 0) (c := .ref T.C_ParseError) (cv := .ref T.C_ParseError) (fun u r => r) (T.kit i 11 hi (by decide))) dl_nil))))))))
      (ds_seq (ds_set (dm_dat (de_op ow_add de_var (de_new (dn_lst (dl_cons (de_isF (i := 0) (c := .ref T.C_InvalidNumber) (cv := .ref T.C_InvalidNumber) (fun u r => r) (T.kit i 12 hi (by decide))) (dl_cons (de_isF (i := 0) (c := .ref T.C_UnknownName) (cv := .ref T.C_UnknownName) (fun u r => r) (T.kit i 13 hi (by decide))) (dl_cons (de_isF (i := 0) (c := .ref T.C_TooMany) (cv := .ref T.C_TooMany) (fun u r => r) (T.kit i 14 hi (by decide))) dl_nil))))))))
      (ds_seq (ds_set (dm_dat (de_op ow_add de_var (de_new (dn_lst (dl_cons (de_isF (i := 0) (c := .ref T.C_Refused) (cv := .ref T.C_Refused) (fun u r => r) (T.kit i 15 hi (by decide))) (dl_cons (de_isF (i := 0) (c := .ref T.C_NothingToUndo) (cv := .ref T.C_NothingToUndo) (fun u r => r) (T.kit i 16 hi (by decide))) (dl_cons (de_isF (i := 0) (c := .ty "ValueError") (cv := .type "ValueError") (fun u r => r) (T.kit i 17 hi (by decide))) dl_nil))))))))
      (ds_seq (ds_set (dm_dat (de_op ow_add de_var (de_new (dn_lst (dl_cons (de_isF (i := 0) (c := .ty "IndexError") (cv := .type "IndexError") (fun u r => r) (T.kit i 18 hi (by decide))) (dl_cons (de_isF (i := 0) (c := .ty "KeyError") (cv := .type "KeyError") (fun u r => r) (T.kit i 19 hi (by decide))) (dl_cons (de_isF (i := 0) (c := .ty "OverflowError") (cv := .type "OverflowError") (fun u r => r) (T.kit i 20 hi (by decide))) dl_nil))))))))
      (ds_ret (de_op ow_add de_var (de_new (dn_lst (dl_cons (de_isF (i := 0) (c := .ty "ArithmeticError") (cv := .type "ArithmeticError") (fun u r => r) (T.kit i 21 hi (by decide))) (dl_cons (de_isF (i := 0) (c := .ty "LookupError") (cv := .type "LookupError") (fun u r => r) (T.kit i 22 hi (by decide))) dl_nil))))))))))))) (by rfl) h⟩
theorem flags_w (a : Addr) (fl : Nat → Bool) (P : PyData → Prop) (h : P (.list ((List.range 23).map fun j => .bool (fl j)))) : w__law_flags a fl [.pin a] P := by
  unfold w__law_flags
  simp only [wv1, wv2, wv3, wv4, wv5, wv6, wv7, wv8, Nat.reduceSub, Nat.reduceAdd, reduceCtorEq, ↓reduceIte, Nat.reduceLeDiff, Nat.reduceLT, implies_true, isEW.eq_def]
  exact h
theorem find_own : ∀ i < 11, ([(11, true), (0, false), (12, true), (13, true), (14, true), (15, true), (16, true)] : List (Nat × Bool)).find? (fun p => xmB i p.1) = some (0, false) := by decide
theorem find_sup : ∀ i < 17, 11 ≤ i → ([(11, true), (0, false), (12, true), (13, true), (14, true), (15, true), (16, true)] : List (Nat × Bool)).find? (fun p => xmB i p.1) = some (i, true) := by decide
abbrev hd__law_told : List ExceptHandler := match defBody s__law_told with | .Try _ h _ _ _ :: _ => h | _ => []
theorem hds__law_told (T : Tx P K mg) {k : Nat} {cdv : Value} {A : Around} {outer : List Env} {s : Shared} {H1 : Hp} {E : XK} (hr : Room (k + 1) (A.deeper (envOfC "_law_told" (defScope s__law_told) s.heap.objs.size T.a__law_told cdv))) :
    HdsA (cxOf CX0 P w K mg base ["_law_which", "_law_text", "_law_value", "e"] "_law_told" (defScope s__law_told) T.a__law_told cdv A outer s H1 E).nox hd__law_told ((toldT T).hds K (Ts T) w__law_flags 3 [(11, true), (0, false), (12, true), (13, true), (14, true), (15, true), (16, true)]) :=
  (HdsA.named ⟨rfl, by decide, .inl (show mg "ParseError" = some (.ref (T.CA 11)) from T.gA 11 (by decide))⟩ rfl rfl (fun a oe cls d pn hz hf => pss_one (ps_ret (pe_tup (pa_cons (by obtain ⟨hz1, hz2⟩ := hz; subst hz1; exact pe_callHp (p := (a, oe)) (ok__law_flags T) (roomH_mark (hr.mono (by omega))) (List.Mem.head _) hf (by rfl) T.g__law_flags T.F__law_flags.kp T.b__law_flags (pa_cons (pv 3) pa_nil)) (pa_cons (pe_xf (T.xf_ParseError) T.nf_ParseError hz hf (pv 3)) pa_nil))))) (HdsA.named ⟨rfl, by decide, .inl (show mg "FrameError" = some (.ref (T.CA 0)) from T.gA 0 (by decide))⟩ rfl rfl (fun a oe cls d pn hz hf => pss_one (ps_ret (pe_tup (pa_cons (by obtain ⟨hz1, hz2⟩ := hz; subst hz1; exact pe_callHp (p := (a, oe)) (ok__law_flags T) (roomH_mark (hr.mono (by omega))) (List.Mem.head _) hf (by rfl) T.g__law_flags T.F__law_flags.kp T.b__law_flags (pa_cons (pv 3) pa_nil)) (pa_cons pe_non pa_nil))))) (HdsA.named ⟨rfl, by decide, .inl (show mg "InvalidNumber" = some (.ref (T.CA 12)) from T.gA 12 (by decide))⟩ rfl rfl (fun a oe cls d pn hz hf => pss_one (ps_ret (pe_tup (pa_cons (by obtain ⟨hz1, hz2⟩ := hz; subst hz1; exact pe_callHp (p := (a, oe)) (ok__law_flags T) (roomH_mark (hr.mono (by omega))) (List.Mem.head _) hf (by rfl) T.g__law_flags T.F__law_flags.kp T.b__law_flags (pa_cons (pv 3) pa_nil)) (pa_cons (pe_xf (T.xf_InvalidNumber) T.nf_InvalidNumber hz hf (pv 3)) pa_nil))))) (HdsA.named ⟨rfl, by decide, .inl (show mg "UnknownName" = some (.ref (T.CA 13)) from T.gA 13 (by decide))⟩ rfl rfl (fun a oe cls d pn hz hf => pss_one (ps_ret (pe_tup (pa_cons (by obtain ⟨hz1, hz2⟩ := hz; subst hz1; exact pe_callHp (p := (a, oe)) (ok__law_flags T) (roomH_mark (hr.mono (by omega))) (List.Mem.head _) hf (by rfl) T.g__law_flags T.F__law_flags.kp T.b__law_flags (pa_cons (pv 3) pa_nil)) (pa_cons (pe_xf (T.xf_UnknownName) T.nf_UnknownName hz hf (pv 3)) pa_nil))))) (HdsA.named ⟨rfl, by decide, .inl (show mg "TooMany" = some (.ref (T.CA 14)) from T.gA 14 (by decide))⟩ rfl rfl (fun a oe cls d pn hz hf => pss_one (ps_ret (pe_tup (pa_cons (by obtain ⟨hz1, hz2⟩ := hz; subst hz1; exact pe_callHp (p := (a, oe)) (ok__law_flags T) (roomH_mark (hr.mono (by omega))) (List.Mem.head _) hf (by rfl) T.g__law_flags T.F__law_flags.kp T.b__law_flags (pa_cons (pv 3) pa_nil)) (pa_cons (pe_xf (T.xf_TooMany) T.nf_TooMany hz hf (pv 3)) pa_nil))))) (HdsA.named ⟨rfl, by decide, .inl (show mg "Refused" = some (.ref (T.CA 15)) from T.gA 15 (by decide))⟩ rfl rfl (fun a oe cls d pn hz hf => pss_one (ps_ret (pe_tup (pa_cons (by obtain ⟨hz1, hz2⟩ := hz; subst hz1; exact pe_callHp (p := (a, oe)) (ok__law_flags T) (roomH_mark (hr.mono (by omega))) (List.Mem.head _) hf (by rfl) T.g__law_flags T.F__law_flags.kp T.b__law_flags (pa_cons (pv 3) pa_nil)) (pa_cons (pe_xf (T.xf_Refused) T.nf_Refused hz hf (pv 3)) pa_nil))))) (HdsA.named ⟨rfl, by decide, .inl (show mg "NothingToUndo" = some (.ref (T.CA 16)) from T.gA 16 (by decide))⟩ rfl rfl (fun a oe cls d pn hz hf => pss_one (ps_ret (pe_tup (pa_cons (by obtain ⟨hz1, hz2⟩ := hz; subst hz1; exact pe_callHp (p := (a, oe)) (ok__law_flags T) (roomH_mark (hr.mono (by omega))) (List.Mem.head _) hf (by rfl) T.g__law_flags T.F__law_flags.kp T.b__law_flags (pa_cons (pv 3) pa_nil)) (pa_cons (pe_xf (T.xf_NothingToUndo) T.nf_NothingToUndo hz hf (pv 3)) pa_nil))))) .nil)))))))
theorem ok__law_told (T : Tx P K mg) : FnOk P w K mg base CX0 3 T.a__law_told T.d__law_told ["_law_which", "_law_text", "_law_value"] (spW K (Ts T) 3 w__law_told) := by
  refine T.F__law_told.ok sc__law_told (fun vs H1 Q E h => spW_len h) (fun cdv A outer s H1 vs Q E hr h => ?_)
  letI : Base := ⟨H1⟩
  obtain ⟨H, ss, e, hT, r, hl, P', p, k⟩ := h
  have lv : vs.length = 3 := by rw [r.len]; exact hl
  obtain ⟨v0, v1, v2, rfl⟩ : ∃ v0 v1 v2, vs = [v0, v1, v2] := by
    match vs, lv with
    | [a, b, c], _ => exact ⟨a, b, c, rfl⟩
  refine ⟨_, pss_cons (ps_try_hands (tb := fun W D σ H => ∃ Ech : XK, (∀ cls d σ' H', σ'.length = 4 → Ech cls d H' → W cls d σ' H') ∧ (tCons (tVar 0) (tCons (tVar 1) (tCons (tVar 2) tNil))) σ H fun vs H1 => spX K mg (Ts T) 3 w__law_raised vs H1 (fun _ H2 => D.nx σ H2) Ech)
    sc__law_told.nd rfl rfl LamX.takes0 (fun W pn xe tk _ => ⟨fun pins s' σ H' D I h' => ?_⟩) (hds__law_told T hr)) (pss_one (ps_ret pe_non)), ?_⟩
  · obtain ⟨Ech, hW, h3⟩ := h'
    exact (pss_one (ps_expr (pe_call (E := Ech) (okx__law_raised T) (hr.mono (by decide)) (by rfl) T.g__law_raised T.F__law_raised.kp T.b__law_raised .nil (passes_call (takes_len tk) (fun cls d σ H e hl => hW cls d σ H hl e)) (pa_cons (pv 0) (pa_cons (pv 1) (pa_cons (pv 2) pa_nil)))))).run pins s' σ H' D I h3
  · refine ⟨fun cls d H' => ∃ x Hk, Grow H H1 Hk H' ∧ XOk K mg Hk x cls d ∧ toldN.w x P', fun cls d σ' H' hl2 hx => ?_, ⟨_, rfl, _, rfl, _, rfl, H, ss, e, hT, r, hl, fun _ => False, fun x => toldN.w x P', p, fun _ _ _ _ _ _ z => z.elim, fun x cls d Hk H2 g hx hr => ⟨x, Hk, g, hx, hr⟩⟩⟩
    obtain ⟨x, Hk, g, hx, i, hi, hc⟩ := hx
    have xs : ∀ q ∈ ([(11, true), (0, false), (12, true), (13, true), (14, true), (15, true), (16, true)] : List (Nat × Bool)), PySem.W.exmOne K (.ref (T.CA i)) (.ref (T.CA q.1)) = some (xmB i q.1) := fun q hq => T.xm i q.1 hi (by revert q; decide)
    rcases hc with ⟨h11, rfl, pp⟩ | ⟨h11, z, rfl, pp⟩
    · have hx : mg ((["FrameError", "InvalidName", "InvalidFrame", "InvalidRod", "InvalidPlacing", "InvalidWeights", "InvalidStep", "InvalidStand", "InvalidDirections", "InvalidPromise", "InvalidOperation", "ParseError", "InvalidNumber", "UnknownName", "TooMany", "Refused", "NothingToUndo"] : List Str).getD i "") = some cls := hx
      rw [T.gA i hi] at hx
      cases hx
      exact wHds_go (t := toldT T) (j := 0) (k := false) xs (find_own i h11) fun a na => suite_ok flags_w g hT hi (by rw [hl2]; decide) (.inl ⟨rfl, rfl⟩) pp rfl k
    · obtain ⟨hx2, dx, v, rfl, hdx, rv⟩ := (show mg (toldN.NS i) = some cls ∧ ∃ dx v, d = some dx ∧ Hk dx = some (.xd [(toldN.FL i, v)]) ∧ Rp K Hk v z from hx)
      have hx3 : mg ((["FrameError", "InvalidName", "InvalidFrame", "InvalidRod", "InvalidPlacing", "InvalidWeights", "InvalidStep", "InvalidStand", "InvalidDirections", "InvalidPromise", "InvalidOperation", "ParseError", "InvalidNumber", "UnknownName", "TooMany", "Refused", "NothingToUndo"] : List Str).getD i "") = some cls := hx2
      rw [T.gA i hi] at hx3
      cases hx3
      exact wHds_go (t := toldT T) (j := i) (k := true) xs (find_sup i hi h11) fun a na => suite_ok flags_w g hT hi (by rw [hl2]; decide) (.inr ⟨rfl, rfl, dx, v, rfl, hdx, rv⟩) pp rfl k
theorem ok__law_due (T : Tx P K mg) : FnOk P w K mg base CX0 1 T.a__law_due T.d__law_due ["_law_which"] (spW K (Ts T) 1 w__law_due) := by
  refine T.F__law_due.ok sc__law_due (fun vs H1 Q E h => spW_len h) (fun cdv A outer s H1 vs Q E hr h => ?_)
  letI : Base := ⟨H1⟩
  exact ⟨_, (pss_cons (ps_set (i := 1) sc__law_due.nd rfl (by first | exact Or.inl rfl | exact Or.inr rfl) (pe_lst (pa_cons pe_int (pa_cons (pv 0) (pa_cons pe_int pa_nil)))))
      (pss_cons (ps_if (pt_cmpR opGt (pv 0) pe_int (nomark _)) (pss_one (ps_set (i := 1) sc__law_due.nd rfl (by first | exact Or.inl rfl | exact Or.inr rfl) (pe_op (kAddA (K := K) rfl) (pe_lst (pa_cons (pv 0) pa_nil)) (pe_ix (kIxA (K := K) rfl (hu1 hr)) (pe_lst (pa_cons (pe_lst (pa_cons pe_int (pa_cons pe_int pa_nil))) (pa_cons (pe_lst (pa_cons pe_int (pa_cons pe_int pa_nil))) (pa_cons (pe_lst (pa_cons pe_int (pa_cons pe_int pa_nil))) (pa_cons (pe_lst (pa_cons pe_int pa_nil)) (pa_cons (pe_lst (pa_cons pe_int pa_nil)) pa_nil)))))) (pe_op op_sub (pv 0) pe_int) (fun _ _ => rfl))))) pss_nil)
      (pss_one (ps_ret (pe_lc (own := [("_law_at", 2)]) (g := (gName 2)) rfl sc__law_due.nd (pi_range1 (by rfl) T.n_range (pa_cons pe_int pa_nil)) (blkOk_by (N := ["_law_which", "_law_spots", "_law_at"]) (sc := defScope s__law_due) (by decide +kernel)) (fun _ _ _ _ _ => (pg_name (i := 2) sc__law_due.nd rfl (by first | exact Or.inl rfl | exact Or.inr rfl))) (fun _ _ _ _ _ => pts_nil) (fun _ _ _ _ _ => (pe_cmpR (kInA (K := K) rfl (hu65 hr)) (pv 2) (pv 1) (by rfl)))))))),
    ds_body (N := 3) rfl (ds_seq (ds_set (dm_dat (de_new (dn_lst (dl_cons de_int (dl_cons de_var (dl_cons de_int dl_nil)))))))
      (ds_seq (ds_if (dt_test (de_op ow_gt de_var de_int)) (ds_set (dm_dat (de_op ow_add (de_new (dn_lst (dl_cons de_var dl_nil))) (de_op ow_ixA (de_new (dn_lst (dl_cons (de_new (dn_lst (dl_cons de_int (dl_cons de_int dl_nil)))) (dl_cons (de_new (dn_lst (dl_cons de_int (dl_cons de_int dl_nil)))) (dl_cons (de_new (dn_lst (dl_cons de_int (dl_cons de_int dl_nil)))) (dl_cons (de_new (dn_lst (dl_cons de_int dl_nil))) (dl_cons (de_new (dn_lst (dl_cons de_int dl_nil))) dl_nil))))))) (de_op ow_sub de_var de_int))))) ds_next)
      (ds_ret (de_new (dn_lc (dr_range1 (dl_cons de_int dl_nil)).di db_name dt_yes (de_op ow_inA de_var de_var) (by decide)))))) (by rfl) h⟩
theorem ok_law (T : Tx P K mg) : FnG P w K mg base CX0 4 T.a_law T.d_law ["_law_script"] (spW K (Ts T) 1 w_law) := by
  refine DL.Fun.okG T.F_law sc_law (fun vs H1 Q E h => spW_len h) (fun cdv A outer s H1 vs Q E hgd hr h => ?_)
  letI : Base := ⟨H1⟩
  exact ⟨_, (pss_cons (ps_for PassesOwn.never rfl (pi_range1 (by rfl) T.n_range (pa_cons (pe_callB (call_max2 rfl) (by rfl) T.n_max (by decide +kernel) (pa_cons pe_int (pa_cons (pe_callB (call_min2 rfl) (by rfl) T.n_min (by decide +kernel) (pa_cons pe_int (pa_cons (pe_callB (kLenA (K := K) rfl) (by rfl) T.n_len (by decide +kernel) (pa_cons (pv 0) pa_nil)) pa_nil))) pa_nil))) pa_nil)) (pg_name (i := 1) sc_law.nd rfl (by first | exact Or.inl rfl | exact Or.inr rfl)) (pss_cons (ps_set (i := 2) sc_law.nd rfl (by first | exact Or.inl rfl | exact Or.inr rfl) (pe_call (ok__law_bag T) (hr.mono (by decide)) (by rfl) T.g__law_bag T.F__law_bag.kp T.b__law_bag .nil pass0 (pa_cons (pv 0) (pa_cons (pv 1) pa_nil))))
      (pss_cons (ps_set (i := 3) sc_law.nd rfl (by first | exact Or.inl rfl | exact Or.inr rfl) (pe_lst (pa_cons pe_int (pa_cons (pe_un un_neg pe_int) (pa_cons pe_non (pa_cons pe_bl (pa_cons pe_str (pa_cons (pe_tup (pa_cons pe_str (pa_cons pe_int pa_nil))) (pa_cons (pe_tup (pa_cons pe_str (pa_cons (pe_tup (pa_cons pe_str (pa_cons pe_str pa_nil))) pa_nil))) (pa_cons (pe_lst (pa_cons pe_int (pa_cons pe_str pa_nil))) (pa_cons (pe_frz (pe_disp (pps_cons pe_str (pe_tup (pa_cons pe_int (pa_cons pe_int pa_nil))) pps_nil) (by rfl) (by rfl) (fun z => by cases z) (by decide))) (pa_cons (pe_op op_powW pe_int pe_int) (pa_cons pe_str pa_nil)))))))))))))
      (pss_cons (ps_set (i := 4) sc_law.nd rfl (by first | exact Or.inl rfl | exact Or.inr rfl) (pe_call (ok__law_one_of T) (hr.mono (by decide)) (by rfl) T.g__law_one_of T.F__law_one_of.kp T.b__law_one_of .nil pass0 (pa_cons (pv 2) (pa_cons (pe_lst (pa_cons pe_str (pa_cons pe_str (pa_cons pe_str (pa_cons (pe_op op_mulS pe_str (pe_op (kAddA (K := K) rfl) pe_int (pe_call (ok__law_draw T) (hr.mono (by decide)) (by rfl) T.g__law_draw T.F__law_draw.kp T.b__law_draw .nil pass0 (pa_cons (pv 2) (pa_cons pe_int pa_nil))))) pa_nil))))) pa_nil))))
      (pss_one (ps_for PassesOwn.never rfl (pi_range1 (by rfl) T.n_range (pa_cons pe_int pa_nil)) (pg_name (i := 5) sc_law.nd rfl (by first | exact Or.inl rfl | exact Or.inr rfl)) (pss_cons (ps_set (i := 6) sc_law.nd rfl (by first | exact Or.inl rfl | exact Or.inr rfl) (pe_call (ok__law_one_of T) (hr.mono (by decide)) (by rfl) T.g__law_one_of T.F__law_one_of.kp T.b__law_one_of .nil pass0 (pa_cons (pv 2) (pa_cons (pv 3) pa_nil))))
      (pss_cons (ps_set (i := 7) sc_law.nd rfl (by first | exact Or.inl rfl | exact Or.inr rfl) (pe_call (ok__law_told T) (hr.mono (by decide)) (by rfl) T.g__law_told T.F__law_told.kp T.b__law_told .nil pass0 (pa_cons (pv 5) (pa_cons (pv 4) (pa_cons (pv 6) pa_nil)))))
      (pss_one (ps_if (PW.pt (pw_or (pt_cmpR op_isN1 (pv 7) pe_non (nomark _)) (pw_or (pt_cmpR (kNeB (K := K) rfl (hu65 hr)) (pe_ix (kIxA (K := K) rfl (hu1 hr)) (pv 7) pe_int (fun _ _ => rfl)) (pe_call (ok__law_due T) (hr.mono (by decide)) (by rfl) T.g__law_due T.F__law_due.kp T.b__law_due .nil pass0 (pa_cons (pv 5) pa_nil)) (nomark _)) (pw_or1 (pt_cmpR (kNeB (K := K) rfl (hu65 hr)) (pe_callB (kReprX (K := K) rfl hgd (hu65 hr) (Nat.lt_of_le_of_lt (Nat.add_le_add_left (by decide) _) (hu70 hr))) (by rfl) T.n_repr (by decide +kernel) (pa_cons (pe_ix (kIxA (K := K) rfl (hu1 hr)) (pv 7) pe_int (fun _ _ => rfl)) pa_nil)) (pe_callB (kReprX (K := K) rfl hgd (hu65 hr) (Nat.lt_of_le_of_lt (Nat.add_le_add_left (by decide) _) (hu70 hr))) (by rfl) T.n_repr (by decide +kernel) (pa_cons (pe_ifExp (pt_cmpR opLt (pv 5) pe_int (nomark _)) pe_non (pv 6)) pa_nil)) (nomark _)))))) (pss_one (ps_ret pe_bl)) pss_nil))))))))))
      (pss_one (ps_ret pe_bl))),
    ds_body (N := 8) rfl (ds_seq (ds_forR (dr_range1 (dl_cons (de_cb cw_max2 (dl_cons de_int (dl_cons (de_cb cw_min2 (dl_cons de_int (dl_cons (de_cb cw_lenA (dl_cons de_var dl_nil)) dl_nil))) dl_nil))) dl_nil)) db_name (ds_seq (ds_set (dm_bag (i := 0) (j := 1)))
      (ds_seq (ds_set (dm_dat (de_new (dn_lst (dl_cons de_int (dl_cons (de_neg de_int) (dl_cons de_non (dl_cons de_bl (dl_cons de_str (dl_cons (de_tup (dl_cons de_str (dl_cons de_int dl_nil))) (dl_cons (de_tup (dl_cons de_str (dl_cons (de_tup (dl_cons de_str (dl_cons de_str dl_nil))) dl_nil))) (dl_cons (de_new (dn_lst (dl_cons de_int (dl_cons de_str dl_nil)))) (dl_cons (de_disp (dps_cons de_str (de_tup (dl_cons de_int (dl_cons de_int dl_nil))) dps_nil)) (dl_cons (de_op ow_pow de_int de_int) (dl_cons de_str dl_nil)))))))))))))))
      (ds_seq (ds_set (dm_dat (de_call (da_var (da_cons (de_new (dn_lst (dl_cons de_str (dl_cons de_str (dl_cons de_str (dl_cons (de_op ow_mulS de_str (de_op ow_add de_int (de_call (da_var (da_cons de_int da_nil))))) dl_nil)))))) da_nil)))))
      (ds_forR (dr_range1 (dl_cons de_int dl_nil)) db_name (ds_seq (ds_set (dm_dat (de_call (da_var (da_var da_nil)))))
      (ds_seq (ds_set (dm_dat (de_call (da_var (da_var (da_var da_nil))))))
      (ds_if (dt_or (dt_test (de_op ow_is de_var de_non)) (dt_or (dt_test (de_op ow_neB (de_op ow_ixA de_var de_int) (de_call (da_var da_nil)))) (dt_test (de_op ow_neB (de_cb cw_reprX (dl_cons (de_op ow_ixA de_var de_int) dl_nil)) (de_cb cw_reprX (dl_cons (de_if (dt_test (de_op ow_lt de_var de_int)) de_non de_var) dl_nil)))))) (ds_ret de_bl) ds_next))))))))
      (ds_ret de_bl)) (by rfl) h⟩
theorem okl_law (T : Tx P K mg) (hl : LawHolds w_law) : FnG P w K mg base CX0 4 T.a_law T.d_law ["_law_script"] (spLaw K) := (ok_law T).imp fun vs H Q E h => lawW_0 hl h
end
end Lw
namespace Lw
open PySem PySem.Spec PyProof.Rows L2 Evl DL
theorem all_mk {l : PySem.W.OpenLaw} {w : World} {K : PySem.W.Frag} {h : Heap} {mg : Str → Option Value} {fa : Addr} (X : K.In h) (G : h.Ns mainGlobals mg) (hfa : mg "law" = some (.ref fa))
    {f__law_bag : Addr} {od__law_bag an__law_bag : Option Addr} {sl__law_bag : Array (Option Value)} {oc__law_bag dc__law_bag pm__law_bag cd__law_bag ct__law_bag : Value}
    {kV__law_bag : Value}
    {f__law_draw : Addr} {od__law_draw an__law_draw : Option Addr} {sl__law_draw : Array (Option Value)} {oc__law_draw dc__law_draw pm__law_draw cd__law_draw ct__law_draw : Value}
    {kV__law_draw : Value}
    {f__law_one_of : Addr} {od__law_one_of an__law_one_of : Option Addr} {sl__law_one_of : Array (Option Value)} {oc__law_one_of dc__law_one_of pm__law_one_of cd__law_one_of ct__law_one_of : Value}
    {kV__law_one_of : Value}
    {f__law_raised : Addr} {od__law_raised an__law_raised : Option Addr} {sl__law_raised : Array (Option Value)} {oc__law_raised dc__law_raised pm__law_raised cd__law_raised ct__law_raised : Value}
    {kV__law_raised : Value}
    {f__law_flags : Addr} {od__law_flags an__law_flags : Option Addr} {sl__law_flags : Array (Option Value)} {oc__law_flags dc__law_flags pm__law_flags cd__law_flags ct__law_flags : Value}
    {kV__law_flags : Value}
    {f__law_told : Addr} {od__law_told an__law_told : Option Addr} {sl__law_told : Array (Option Value)} {oc__law_told dc__law_told pm__law_told cd__law_told ct__law_told : Value}
    {kV__law_told : Value}
    {f__law_due : Addr} {od__law_due an__law_due : Option Addr} {sl__law_due : Array (Option Value)} {oc__law_due dc__law_due pm__law_due cd__law_due ct__law_due : Value}
    {kV__law_due : Value}
    {f_law : Addr} {od_law an_law : Option Addr} {sl_law : Array (Option Value)} {oc_law dc_law pm_law cd_law ct_law : Value}
    {kV_law : Value}
    {C_FrameError : Addr}
    {C_InvalidName : Addr}
    {C_InvalidFrame : Addr}
    {C_InvalidRod : Addr}
    {C_InvalidPlacing : Addr}
    {C_InvalidWeights : Addr}
    {C_InvalidStep : Addr}
    {C_InvalidStand : Addr}
    {C_InvalidDirections : Addr}
    {C_InvalidPromise : Addr}
    {C_InvalidOperation : Addr}
    {C_ParseError : Addr}
    {C_InvalidNumber : Addr}
    {C_UnknownName : Addr}
    {C_TooMany : Addr}
    {C_Refused : Addr}
    {C_NothingToUndo : Addr}
    {I_ParseError : Addr}
    {I_InvalidNumber : Addr}
    {I_UnknownName : Addr}
    {I_TooMany : Addr}
    {I_Refused : Addr}
    {I_NothingToUndo : Addr}
    (p__law_bag : PySem.W.nsIn K mainGlobals "_law_bag" = some (some (.ref f__law_bag)))
    (l__law_bag : K.lookup f__law_bag = some ⟨oc__law_bag, od__law_bag, .func (PySem.W.fnOf "_law_bag" "_law_bag" (defArgs s__law_bag) (defBody s__law_bag) (defScope s__law_bag) .none kV__law_bag dc__law_bag pm__law_bag an__law_bag cd__law_bag ct__law_bag), sl__law_bag⟩)
    (c__law_bag : PySem.W.codeIn K cd__law_bag "_law_bag" = true)
    (k__law_bag : PySem.W.keepIn K (.ref f__law_bag) = true)
    (p__law_draw : PySem.W.nsIn K mainGlobals "_law_draw" = some (some (.ref f__law_draw)))
    (l__law_draw : K.lookup f__law_draw = some ⟨oc__law_draw, od__law_draw, .func (PySem.W.fnOf "_law_draw" "_law_draw" (defArgs s__law_draw) (defBody s__law_draw) (defScope s__law_draw) .none kV__law_draw dc__law_draw pm__law_draw an__law_draw cd__law_draw ct__law_draw), sl__law_draw⟩)
    (c__law_draw : PySem.W.codeIn K cd__law_draw "_law_draw" = true)
    (k__law_draw : PySem.W.keepIn K (.ref f__law_draw) = true)
    (p__law_one_of : PySem.W.nsIn K mainGlobals "_law_one_of" = some (some (.ref f__law_one_of)))
    (l__law_one_of : K.lookup f__law_one_of = some ⟨oc__law_one_of, od__law_one_of, .func (PySem.W.fnOf "_law_one_of" "_law_one_of" (defArgs s__law_one_of) (defBody s__law_one_of) (defScope s__law_one_of) .none kV__law_one_of dc__law_one_of pm__law_one_of an__law_one_of cd__law_one_of ct__law_one_of), sl__law_one_of⟩)
    (c__law_one_of : PySem.W.codeIn K cd__law_one_of "_law_one_of" = true)
    (k__law_one_of : PySem.W.keepIn K (.ref f__law_one_of) = true)
    (p__law_raised : PySem.W.nsIn K mainGlobals "_law_raised" = some (some (.ref f__law_raised)))
    (l__law_raised : K.lookup f__law_raised = some ⟨oc__law_raised, od__law_raised, .func (PySem.W.fnOf "_law_raised" "_law_raised" (defArgs s__law_raised) (defBody s__law_raised) (defScope s__law_raised) .none kV__law_raised dc__law_raised pm__law_raised an__law_raised cd__law_raised ct__law_raised), sl__law_raised⟩)
    (c__law_raised : PySem.W.codeIn K cd__law_raised "_law_raised" = true)
    (k__law_raised : PySem.W.keepIn K (.ref f__law_raised) = true)
    (p__law_flags : PySem.W.nsIn K mainGlobals "_law_flags" = some (some (.ref f__law_flags)))
    (l__law_flags : K.lookup f__law_flags = some ⟨oc__law_flags, od__law_flags, .func (PySem.W.fnOf "_law_flags" "_law_flags" (defArgs s__law_flags) (defBody s__law_flags) (defScope s__law_flags) .none kV__law_flags dc__law_flags pm__law_flags an__law_flags cd__law_flags ct__law_flags), sl__law_flags⟩)
    (c__law_flags : PySem.W.codeIn K cd__law_flags "_law_flags" = true)
    (k__law_flags : PySem.W.keepIn K (.ref f__law_flags) = true)
    (p__law_told : PySem.W.nsIn K mainGlobals "_law_told" = some (some (.ref f__law_told)))
    (l__law_told : K.lookup f__law_told = some ⟨oc__law_told, od__law_told, .func (PySem.W.fnOf "_law_told" "_law_told" (defArgs s__law_told) (defBody s__law_told) (defScope s__law_told) .none kV__law_told dc__law_told pm__law_told an__law_told cd__law_told ct__law_told), sl__law_told⟩)
    (c__law_told : PySem.W.codeIn K cd__law_told "_law_told" = true)
    (k__law_told : PySem.W.keepIn K (.ref f__law_told) = true)
    (p__law_due : PySem.W.nsIn K mainGlobals "_law_due" = some (some (.ref f__law_due)))
    (l__law_due : K.lookup f__law_due = some ⟨oc__law_due, od__law_due, .func (PySem.W.fnOf "_law_due" "_law_due" (defArgs s__law_due) (defBody s__law_due) (defScope s__law_due) .none kV__law_due dc__law_due pm__law_due an__law_due cd__law_due ct__law_due), sl__law_due⟩)
    (c__law_due : PySem.W.codeIn K cd__law_due "_law_due" = true)
    (k__law_due : PySem.W.keepIn K (.ref f__law_due) = true)
    (p_law : PySem.W.nsIn K mainGlobals "law" = some (some (.ref f_law)))
    (l_law : K.lookup f_law = some ⟨oc_law, od_law, .func (PySem.W.fnOf "law" "law" (defArgs s_law) (defBody s_law) (defScope s_law) .none kV_law dc_law pm_law an_law cd_law ct_law), sl_law⟩)
    (c_law : PySem.W.codeIn K cd_law "law" = true)
    (k_law : PySem.W.keepIn K (.ref f_law) = true)
    (z_ArithmeticError : PySem.W.nsIn K mainGlobals "ArithmeticError" = some none)
    (z_IndexError : PySem.W.nsIn K mainGlobals "IndexError" = some none)
    (z_KeyError : PySem.W.nsIn K mainGlobals "KeyError" = some none)
    (z_LookupError : PySem.W.nsIn K mainGlobals "LookupError" = some none)
    (z_OverflowError : PySem.W.nsIn K mainGlobals "OverflowError" = some none)
    (z_ValueError : PySem.W.nsIn K mainGlobals "ValueError" = some none)
    (z_abs : PySem.W.nsIn K mainGlobals "abs" = some none)
    (z_int : PySem.W.nsIn K mainGlobals "int" = some none)
    (z_isinstance : PySem.W.nsIn K mainGlobals "isinstance" = some none)
    (z_len : PySem.W.nsIn K mainGlobals "len" = some none)
    (z_max : PySem.W.nsIn K mainGlobals "max" = some none)
    (z_min : PySem.W.nsIn K mainGlobals "min" = some none)
    (z_range : PySem.W.nsIn K mainGlobals "range" = some none)
    (z_repr : PySem.W.nsIn K mainGlobals "repr" = some none)
    (z_sum : PySem.W.nsIn K mainGlobals "sum" = some none)
    (pC_FrameError : PySem.W.nsIn K mainGlobals "FrameError" = some (some (.ref C_FrameError)))
    (pC_InvalidName : PySem.W.nsIn K mainGlobals "InvalidName" = some (some (.ref C_InvalidName)))
    (pC_InvalidFrame : PySem.W.nsIn K mainGlobals "InvalidFrame" = some (some (.ref C_InvalidFrame)))
    (pC_InvalidRod : PySem.W.nsIn K mainGlobals "InvalidRod" = some (some (.ref C_InvalidRod)))
    (pC_InvalidPlacing : PySem.W.nsIn K mainGlobals "InvalidPlacing" = some (some (.ref C_InvalidPlacing)))
    (pC_InvalidWeights : PySem.W.nsIn K mainGlobals "InvalidWeights" = some (some (.ref C_InvalidWeights)))
    (pC_InvalidStep : PySem.W.nsIn K mainGlobals "InvalidStep" = some (some (.ref C_InvalidStep)))
    (pC_InvalidStand : PySem.W.nsIn K mainGlobals "InvalidStand" = some (some (.ref C_InvalidStand)))
    (pC_InvalidDirections : PySem.W.nsIn K mainGlobals "InvalidDirections" = some (some (.ref C_InvalidDirections)))
    (pC_InvalidPromise : PySem.W.nsIn K mainGlobals "InvalidPromise" = some (some (.ref C_InvalidPromise)))
    (pC_InvalidOperation : PySem.W.nsIn K mainGlobals "InvalidOperation" = some (some (.ref C_InvalidOperation)))
    (pC_ParseError : PySem.W.nsIn K mainGlobals "ParseError" = some (some (.ref C_ParseError)))
    (pC_InvalidNumber : PySem.W.nsIn K mainGlobals "InvalidNumber" = some (some (.ref C_InvalidNumber)))
    (pC_UnknownName : PySem.W.nsIn K mainGlobals "UnknownName" = some (some (.ref C_UnknownName)))
    (pC_TooMany : PySem.W.nsIn K mainGlobals "TooMany" = some (some (.ref C_TooMany)))
    (pC_Refused : PySem.W.nsIn K mainGlobals "Refused" = some (some (.ref C_Refused)))
    (pC_NothingToUndo : PySem.W.nsIn K mainGlobals "NothingToUndo" = some (some (.ref C_NothingToUndo)))
    (exA : DL.exAll K (fun i => ([C_FrameError, C_InvalidName, C_InvalidFrame, C_InvalidRod, C_InvalidPlacing, C_InvalidWeights, C_InvalidStep, C_InvalidStand, C_InvalidDirections, C_InvalidPromise, C_InvalidOperation, C_ParseError, C_InvalidNumber, C_UnknownName, C_TooMany, C_Refused, C_NothingToUndo] : List Addr).getD i 0) 17 = true)
    (kitA : DL.kitAll K (fun i => ([C_FrameError, C_InvalidName, C_InvalidFrame, C_InvalidRod, C_InvalidPlacing, C_InvalidWeights, C_InvalidStep, C_InvalidStand, C_InvalidDirections, C_InvalidPromise, C_InvalidOperation, C_ParseError, C_InvalidNumber, C_UnknownName, C_TooMany, C_Refused, C_NothingToUndo] : List Addr).getD i 0) [.ref C_FrameError, .ref C_InvalidName, .ref C_InvalidFrame, .ref C_InvalidRod, .ref C_InvalidPlacing, .ref C_InvalidWeights, .ref C_InvalidStep, .ref C_InvalidStand, .ref C_InvalidDirections, .ref C_InvalidPromise, .ref C_InvalidOperation, .ref C_ParseError, .ref C_InvalidNumber, .ref C_UnknownName, .ref C_TooMany, .ref C_Refused, .ref C_NothingToUndo, .type "ValueError", .type "IndexError", .type "KeyError", .type "OverflowError", .type "ArithmeticError", .type "LookupError"] 17 23 Lw.flagB = true)
    (exmA : DL.exmAll K (fun i => ([C_FrameError, C_InvalidName, C_InvalidFrame, C_InvalidRod, C_InvalidPlacing, C_InvalidWeights, C_InvalidStep, C_InvalidStand, C_InvalidDirections, C_InvalidPromise, C_InvalidOperation, C_ParseError, C_InvalidNumber, C_UnknownName, C_TooMany, C_Refused, C_NothingToUndo] : List Addr).getD i 0) 17 Lw.xmB = true)
    (xC_FrameError : PySem.W.excIn K C_FrameError [.type "ValueError", .type "Exception", .type "BaseException", .type "object"] "ValueError.__new__" = true)
    (kC_FrameError : PySem.W.keepIn K (.ref C_FrameError) = true)
    (bC_FrameError : PySem.W.subIn K (.ref C_FrameError) (.type "BaseException") = some true)
    (tC_FrameError : PySem.W.typeIn K (.ref C_FrameError) = some (.type "type"))
    (xC_InvalidName : PySem.W.excIn K C_InvalidName [.type "ValueError", .type "Exception", .type "BaseException", .type "object"] "ValueError.__new__" = true)
    (kC_InvalidName : PySem.W.keepIn K (.ref C_InvalidName) = true)
    (bC_InvalidName : PySem.W.subIn K (.ref C_InvalidName) (.type "BaseException") = some true)
    (tC_InvalidName : PySem.W.typeIn K (.ref C_InvalidName) = some (.type "type"))
    (xC_InvalidFrame : PySem.W.excIn K C_InvalidFrame [.type "ValueError", .type "Exception", .type "BaseException", .type "object"] "ValueError.__new__" = true)
    (kC_InvalidFrame : PySem.W.keepIn K (.ref C_InvalidFrame) = true)
    (bC_InvalidFrame : PySem.W.subIn K (.ref C_InvalidFrame) (.type "BaseException") = some true)
    (tC_InvalidFrame : PySem.W.typeIn K (.ref C_InvalidFrame) = some (.type "type"))
    (xC_InvalidRod : PySem.W.excIn K C_InvalidRod [.type "ValueError", .type "Exception", .type "BaseException", .type "object"] "ValueError.__new__" = true)
    (kC_InvalidRod : PySem.W.keepIn K (.ref C_InvalidRod) = true)
    (bC_InvalidRod : PySem.W.subIn K (.ref C_InvalidRod) (.type "BaseException") = some true)
    (tC_InvalidRod : PySem.W.typeIn K (.ref C_InvalidRod) = some (.type "type"))
    (xC_InvalidPlacing : PySem.W.excIn K C_InvalidPlacing [.type "ValueError", .type "Exception", .type "BaseException", .type "object"] "ValueError.__new__" = true)
    (kC_InvalidPlacing : PySem.W.keepIn K (.ref C_InvalidPlacing) = true)
    (bC_InvalidPlacing : PySem.W.subIn K (.ref C_InvalidPlacing) (.type "BaseException") = some true)
    (tC_InvalidPlacing : PySem.W.typeIn K (.ref C_InvalidPlacing) = some (.type "type"))
    (xC_InvalidWeights : PySem.W.excIn K C_InvalidWeights [.type "ValueError", .type "Exception", .type "BaseException", .type "object"] "ValueError.__new__" = true)
    (kC_InvalidWeights : PySem.W.keepIn K (.ref C_InvalidWeights) = true)
    (bC_InvalidWeights : PySem.W.subIn K (.ref C_InvalidWeights) (.type "BaseException") = some true)
    (tC_InvalidWeights : PySem.W.typeIn K (.ref C_InvalidWeights) = some (.type "type"))
    (xC_InvalidStep : PySem.W.excIn K C_InvalidStep [.type "ValueError", .type "Exception", .type "BaseException", .type "object"] "ValueError.__new__" = true)
    (kC_InvalidStep : PySem.W.keepIn K (.ref C_InvalidStep) = true)
    (bC_InvalidStep : PySem.W.subIn K (.ref C_InvalidStep) (.type "BaseException") = some true)
    (tC_InvalidStep : PySem.W.typeIn K (.ref C_InvalidStep) = some (.type "type"))
    (xC_InvalidStand : PySem.W.excIn K C_InvalidStand [.type "ValueError", .type "Exception", .type "BaseException", .type "object"] "ValueError.__new__" = true)
    (kC_InvalidStand : PySem.W.keepIn K (.ref C_InvalidStand) = true)
    (bC_InvalidStand : PySem.W.subIn K (.ref C_InvalidStand) (.type "BaseException") = some true)
    (tC_InvalidStand : PySem.W.typeIn K (.ref C_InvalidStand) = some (.type "type"))
    (xC_InvalidDirections : PySem.W.excIn K C_InvalidDirections [.type "ValueError", .type "Exception", .type "BaseException", .type "object"] "ValueError.__new__" = true)
    (kC_InvalidDirections : PySem.W.keepIn K (.ref C_InvalidDirections) = true)
    (bC_InvalidDirections : PySem.W.subIn K (.ref C_InvalidDirections) (.type "BaseException") = some true)
    (tC_InvalidDirections : PySem.W.typeIn K (.ref C_InvalidDirections) = some (.type "type"))
    (xC_InvalidPromise : PySem.W.excIn K C_InvalidPromise [.type "ValueError", .type "Exception", .type "BaseException", .type "object"] "ValueError.__new__" = true)
    (kC_InvalidPromise : PySem.W.keepIn K (.ref C_InvalidPromise) = true)
    (bC_InvalidPromise : PySem.W.subIn K (.ref C_InvalidPromise) (.type "BaseException") = some true)
    (tC_InvalidPromise : PySem.W.typeIn K (.ref C_InvalidPromise) = some (.type "type"))
    (xC_InvalidOperation : PySem.W.excIn K C_InvalidOperation [.type "ValueError", .type "Exception", .type "BaseException", .type "object"] "ValueError.__new__" = true)
    (kC_InvalidOperation : PySem.W.keepIn K (.ref C_InvalidOperation) = true)
    (bC_InvalidOperation : PySem.W.subIn K (.ref C_InvalidOperation) (.type "BaseException") = some true)
    (tC_InvalidOperation : PySem.W.typeIn K (.ref C_InvalidOperation) = some (.type "type"))
    (su_ParseError : DL.SupC l.prog K "ValueError" "ValueError.__new__" "ValueError.__init__" [.type "ValueError", .type "Exception", .type "BaseException", .type "object"] C_ParseError I_ParseError "self" "spot" "spot")
    (xb_ParseError : L2.xfB K C_ParseError = true)
    (nf_ParseError : PySem.W.findIn K (.ref C_ParseError) "spot" = some none)
    (su_InvalidNumber : DL.SupC l.prog K "IndexError" "IndexError.__new__" "IndexError.__init__" [.type "IndexError", .type "LookupError", .type "Exception", .type "BaseException", .type "object"] C_InvalidNumber I_InvalidNumber "self" "given" "given")
    (xb_InvalidNumber : L2.xfB K C_InvalidNumber = true)
    (nf_InvalidNumber : PySem.W.findIn K (.ref C_InvalidNumber) "given" = some none)
    (su_UnknownName : DL.SupK l.prog K C_UnknownName I_UnknownName "self" "wanted" "wanted")
    (xb_UnknownName : L2.xfB K C_UnknownName = true)
    (nf_UnknownName : PySem.W.findIn K (.ref C_UnknownName) "wanted" = some none)
    (su_TooMany : DL.SupC l.prog K "OverflowError" "OverflowError.__new__" "OverflowError.__init__" [.type "OverflowError", .type "ArithmeticError", .type "Exception", .type "BaseException", .type "object"] C_TooMany I_TooMany "self" "most" "most")
    (xb_TooMany : L2.xfB K C_TooMany = true)
    (nf_TooMany : PySem.W.findIn K (.ref C_TooMany) "most" = some none)
    (su_Refused : DL.SupC l.prog K "ArithmeticError" "ArithmeticError.__new__" "ArithmeticError.__init__" [.type "ArithmeticError", .type "Exception", .type "BaseException", .type "object"] C_Refused I_Refused "self" "reason" "reason")
    (xb_Refused : L2.xfB K C_Refused = true)
    (nf_Refused : PySem.W.findIn K (.ref C_Refused) "reason" = some none)
    (su_NothingToUndo : DL.SupC l.prog K "LookupError" "LookupError.__new__" "LookupError.__init__" [.type "LookupError", .type "Exception", .type "BaseException", .type "object"] C_NothingToUndo I_NothingToUndo "self" "count" "count")
    (xb_NothingToUndo : L2.xfB K C_NothingToUndo = true)
    (nf_NothingToUndo : PySem.W.findIn K (.ref C_NothingToUndo) "count" = some none)
    (z_super : PySem.W.nsIn K mainGlobals "super" = some none)
    : ∃ fd : FuncData, (∀ (s : Shared) (v : Value), BindsTo s fd ⟨[v], []⟩ [("_law_script", v)]) ∧ ∀ base : Heap, K.In base → base.Ns mainGlobals mg → FnG l.prog w K mg base CX0 4 fa fd ["_law_script"] (spLaw K) := by
  have e : fa = f_law := by
    have z := hfa.symm.trans (PySem.W.mg_of X G p_law)
    cases z
    rfl
  rw [e]
  letI : CTab := ct1 "" 0
  let T : Tx l.prog K mg := {
    a__law_bag := f__law_bag, d__law_bag := (PySem.W.fnOf "_law_bag" "_law_bag" (defArgs s__law_bag) (defBody s__law_bag) (defScope s__law_bag) .none kV__law_bag dc__law_bag pm__law_bag an__law_bag cd__law_bag ct__law_bag),
    F__law_bag := fun_mk (st := s__law_bag) l__law_bag c__law_bag k__law_bag,
    b__law_bag := (fun_mk (st := s__law_bag) l__law_bag c__law_bag k__law_bag).binds (ps := ["_law_script", "_law_at"]) fun _ _ _ _ _ _ us hl => match us, hl with | [_, _], _ => rfl,
    g__law_bag := PySem.W.mg_of X G p__law_bag,
    a__law_draw := f__law_draw, d__law_draw := (PySem.W.fnOf "_law_draw" "_law_draw" (defArgs s__law_draw) (defBody s__law_draw) (defScope s__law_draw) .none kV__law_draw dc__law_draw pm__law_draw an__law_draw cd__law_draw ct__law_draw),
    F__law_draw := fun_mk (st := s__law_draw) l__law_draw c__law_draw k__law_draw,
    b__law_draw := (fun_mk (st := s__law_draw) l__law_draw c__law_draw k__law_draw).binds (ps := ["_law_bag_here", "_law_total"]) fun _ _ _ _ _ _ us hl => match us, hl with | [_, _], _ => rfl,
    g__law_draw := PySem.W.mg_of X G p__law_draw,
    a__law_one_of := f__law_one_of, d__law_one_of := (PySem.W.fnOf "_law_one_of" "_law_one_of" (defArgs s__law_one_of) (defBody s__law_one_of) (defScope s__law_one_of) .none kV__law_one_of dc__law_one_of pm__law_one_of an__law_one_of cd__law_one_of ct__law_one_of),
    F__law_one_of := fun_mk (st := s__law_one_of) l__law_one_of c__law_one_of k__law_one_of,
    b__law_one_of := (fun_mk (st := s__law_one_of) l__law_one_of c__law_one_of k__law_one_of).binds (ps := ["_law_bag_here", "_law_items"]) fun _ _ _ _ _ _ us hl => match us, hl with | [_, _], _ => rfl,
    g__law_one_of := PySem.W.mg_of X G p__law_one_of,
    a__law_raised := f__law_raised, d__law_raised := (PySem.W.fnOf "_law_raised" "_law_raised" (defArgs s__law_raised) (defBody s__law_raised) (defScope s__law_raised) .none kV__law_raised dc__law_raised pm__law_raised an__law_raised cd__law_raised ct__law_raised),
    F__law_raised := fun_mk (st := s__law_raised) l__law_raised c__law_raised k__law_raised,
    b__law_raised := (fun_mk (st := s__law_raised) l__law_raised c__law_raised k__law_raised).binds (ps := ["_law_which", "_law_text", "_law_value"]) fun _ _ _ _ _ _ us hl => match us, hl with | [_, _, _], _ => rfl,
    g__law_raised := PySem.W.mg_of X G p__law_raised,
    a__law_flags := f__law_flags, d__law_flags := (PySem.W.fnOf "_law_flags" "_law_flags" (defArgs s__law_flags) (defBody s__law_flags) (defScope s__law_flags) .none kV__law_flags dc__law_flags pm__law_flags an__law_flags cd__law_flags ct__law_flags),
    F__law_flags := fun_mk (st := s__law_flags) l__law_flags c__law_flags k__law_flags,
    b__law_flags := (fun_mk (st := s__law_flags) l__law_flags c__law_flags k__law_flags).binds (ps := ["_law_error"]) fun _ _ _ _ _ _ us hl => match us, hl with | [_], _ => rfl,
    g__law_flags := PySem.W.mg_of X G p__law_flags,
    a__law_told := f__law_told, d__law_told := (PySem.W.fnOf "_law_told" "_law_told" (defArgs s__law_told) (defBody s__law_told) (defScope s__law_told) .none kV__law_told dc__law_told pm__law_told an__law_told cd__law_told ct__law_told),
    F__law_told := fun_mk (st := s__law_told) l__law_told c__law_told k__law_told,
    b__law_told := (fun_mk (st := s__law_told) l__law_told c__law_told k__law_told).binds (ps := ["_law_which", "_law_text", "_law_value"]) fun _ _ _ _ _ _ us hl => match us, hl with | [_, _, _], _ => rfl,
    g__law_told := PySem.W.mg_of X G p__law_told,
    a__law_due := f__law_due, d__law_due := (PySem.W.fnOf "_law_due" "_law_due" (defArgs s__law_due) (defBody s__law_due) (defScope s__law_due) .none kV__law_due dc__law_due pm__law_due an__law_due cd__law_due ct__law_due),
    F__law_due := fun_mk (st := s__law_due) l__law_due c__law_due k__law_due,
    b__law_due := (fun_mk (st := s__law_due) l__law_due c__law_due k__law_due).binds (ps := ["_law_which"]) fun _ _ _ _ _ _ us hl => match us, hl with | [_], _ => rfl,
    g__law_due := PySem.W.mg_of X G p__law_due,
    a_law := f_law, d_law := (PySem.W.fnOf "law" "law" (defArgs s_law) (defBody s_law) (defScope s_law) .none kV_law dc_law pm_law an_law cd_law ct_law),
    F_law := fun_mk (st := s_law) l_law c_law k_law,
    b_law := (fun_mk (st := s_law) l_law c_law k_law).binds (ps := ["_law_script"]) fun _ _ _ _ _ _ us hl => match us, hl with | [_], _ => rfl,
    g_law := PySem.W.mg_of X G p_law,
    n_ArithmeticError := PySem.W.mg_none_of X G z_ArithmeticError,
    n_IndexError := PySem.W.mg_none_of X G z_IndexError,
    n_KeyError := PySem.W.mg_none_of X G z_KeyError,
    n_LookupError := PySem.W.mg_none_of X G z_LookupError,
    n_OverflowError := PySem.W.mg_none_of X G z_OverflowError,
    n_ValueError := PySem.W.mg_none_of X G z_ValueError,
    n_abs := PySem.W.mg_none_of X G z_abs,
    n_int := PySem.W.mg_none_of X G z_int,
    n_isinstance := PySem.W.mg_none_of X G z_isinstance,
    n_len := PySem.W.mg_none_of X G z_len,
    n_max := PySem.W.mg_none_of X G z_max,
    n_min := PySem.W.mg_none_of X G z_min,
    n_range := PySem.W.mg_none_of X G z_range,
    n_repr := PySem.W.mg_none_of X G z_repr,
    n_sum := PySem.W.mg_none_of X G z_sum,
    C_FrameError := C_FrameError, gP_FrameError := PySem.W.mg_of X G pC_FrameError, eC_FrameError := rfl,
    C_InvalidName := C_InvalidName, gP_InvalidName := PySem.W.mg_of X G pC_InvalidName, eC_InvalidName := rfl,
    C_InvalidFrame := C_InvalidFrame, gP_InvalidFrame := PySem.W.mg_of X G pC_InvalidFrame, eC_InvalidFrame := rfl,
    C_InvalidRod := C_InvalidRod, gP_InvalidRod := PySem.W.mg_of X G pC_InvalidRod, eC_InvalidRod := rfl,
    C_InvalidPlacing := C_InvalidPlacing, gP_InvalidPlacing := PySem.W.mg_of X G pC_InvalidPlacing, eC_InvalidPlacing := rfl,
    C_InvalidWeights := C_InvalidWeights, gP_InvalidWeights := PySem.W.mg_of X G pC_InvalidWeights, eC_InvalidWeights := rfl,
    C_InvalidStep := C_InvalidStep, gP_InvalidStep := PySem.W.mg_of X G pC_InvalidStep, eC_InvalidStep := rfl,
    C_InvalidStand := C_InvalidStand, gP_InvalidStand := PySem.W.mg_of X G pC_InvalidStand, eC_InvalidStand := rfl,
    C_InvalidDirections := C_InvalidDirections, gP_InvalidDirections := PySem.W.mg_of X G pC_InvalidDirections, eC_InvalidDirections := rfl,
    C_InvalidPromise := C_InvalidPromise, gP_InvalidPromise := PySem.W.mg_of X G pC_InvalidPromise, eC_InvalidPromise := rfl,
    C_InvalidOperation := C_InvalidOperation, gP_InvalidOperation := PySem.W.mg_of X G pC_InvalidOperation, eC_InvalidOperation := rfl,
    C_ParseError := C_ParseError, gP_ParseError := PySem.W.mg_of X G pC_ParseError, eC_ParseError := rfl,
    C_InvalidNumber := C_InvalidNumber, gP_InvalidNumber := PySem.W.mg_of X G pC_InvalidNumber, eC_InvalidNumber := rfl,
    C_UnknownName := C_UnknownName, gP_UnknownName := PySem.W.mg_of X G pC_UnknownName, eC_UnknownName := rfl,
    C_TooMany := C_TooMany, gP_TooMany := PySem.W.mg_of X G pC_TooMany, eC_TooMany := rfl,
    C_Refused := C_Refused, gP_Refused := PySem.W.mg_of X G pC_Refused, eC_Refused := rfl,
    C_NothingToUndo := C_NothingToUndo, gP_NothingToUndo := PySem.W.mg_of X G pC_NothingToUndo, eC_NothingToUndo := rfl,
    CA := (fun i => ([C_FrameError, C_InvalidName, C_InvalidFrame, C_InvalidRod, C_InvalidPlacing, C_InvalidWeights, C_InvalidStep, C_InvalidStand, C_InvalidDirections, C_InvalidPromise, C_InvalidOperation, C_ParseError, C_InvalidNumber, C_UnknownName, C_TooMany, C_Refused, C_NothingToUndo] : List Addr).getD i 0),
    gA := fun i hi => match i, hi with | 0, _ => PySem.W.mg_of X G pC_FrameError | 1, _ => PySem.W.mg_of X G pC_InvalidName | 2, _ => PySem.W.mg_of X G pC_InvalidFrame | 3, _ => PySem.W.mg_of X G pC_InvalidRod | 4, _ => PySem.W.mg_of X G pC_InvalidPlacing | 5, _ => PySem.W.mg_of X G pC_InvalidWeights | 6, _ => PySem.W.mg_of X G pC_InvalidStep | 7, _ => PySem.W.mg_of X G pC_InvalidStand | 8, _ => PySem.W.mg_of X G pC_InvalidDirections | 9, _ => PySem.W.mg_of X G pC_InvalidPromise | 10, _ => PySem.W.mg_of X G pC_InvalidOperation | 11, _ => PySem.W.mg_of X G pC_ParseError | 12, _ => PySem.W.mg_of X G pC_InvalidNumber | 13, _ => PySem.W.mg_of X G pC_UnknownName | 14, _ => PySem.W.mg_of X G pC_TooMany | 15, _ => PySem.W.mg_of X G pC_Refused | 16, _ => PySem.W.mg_of X G pC_NothingToUndo | n + 17, h => absurd h (by omega),
    ex := DL.ex_all exA,
    kit := DL.kit_all kitA,
    xm := DL.exm_all exmA,
    xP_FrameError := xC_FrameError, kP_FrameError := kC_FrameError, bP_FrameError := bC_FrameError, tP_FrameError := tC_FrameError,
    xP_InvalidName := xC_InvalidName, kP_InvalidName := kC_InvalidName, bP_InvalidName := bC_InvalidName, tP_InvalidName := tC_InvalidName,
    xP_InvalidFrame := xC_InvalidFrame, kP_InvalidFrame := kC_InvalidFrame, bP_InvalidFrame := bC_InvalidFrame, tP_InvalidFrame := tC_InvalidFrame,
    xP_InvalidRod := xC_InvalidRod, kP_InvalidRod := kC_InvalidRod, bP_InvalidRod := bC_InvalidRod, tP_InvalidRod := tC_InvalidRod,
    xP_InvalidPlacing := xC_InvalidPlacing, kP_InvalidPlacing := kC_InvalidPlacing, bP_InvalidPlacing := bC_InvalidPlacing, tP_InvalidPlacing := tC_InvalidPlacing,
    xP_InvalidWeights := xC_InvalidWeights, kP_InvalidWeights := kC_InvalidWeights, bP_InvalidWeights := bC_InvalidWeights, tP_InvalidWeights := tC_InvalidWeights,
    xP_InvalidStep := xC_InvalidStep, kP_InvalidStep := kC_InvalidStep, bP_InvalidStep := bC_InvalidStep, tP_InvalidStep := tC_InvalidStep,
    xP_InvalidStand := xC_InvalidStand, kP_InvalidStand := kC_InvalidStand, bP_InvalidStand := bC_InvalidStand, tP_InvalidStand := tC_InvalidStand,
    xP_InvalidDirections := xC_InvalidDirections, kP_InvalidDirections := kC_InvalidDirections, bP_InvalidDirections := bC_InvalidDirections, tP_InvalidDirections := tC_InvalidDirections,
    xP_InvalidPromise := xC_InvalidPromise, kP_InvalidPromise := kC_InvalidPromise, bP_InvalidPromise := bC_InvalidPromise, tP_InvalidPromise := tC_InvalidPromise,
    xP_InvalidOperation := xC_InvalidOperation, kP_InvalidOperation := kC_InvalidOperation, bP_InvalidOperation := bC_InvalidOperation, tP_InvalidOperation := tC_InvalidOperation,
    I_ParseError := I_ParseError, su_ParseError := su_ParseError, xf_ParseError := L2.xfB_ok xb_ParseError, nf_ParseError := nf_ParseError,
    I_InvalidNumber := I_InvalidNumber, su_InvalidNumber := su_InvalidNumber, xf_InvalidNumber := L2.xfB_ok xb_InvalidNumber, nf_InvalidNumber := nf_InvalidNumber,
    I_UnknownName := I_UnknownName, su_UnknownName := su_UnknownName, xf_UnknownName := L2.xfB_ok xb_UnknownName, nf_UnknownName := nf_UnknownName,
    I_TooMany := I_TooMany, su_TooMany := su_TooMany, xf_TooMany := L2.xfB_ok xb_TooMany, nf_TooMany := nf_TooMany,
    I_Refused := I_Refused, su_Refused := su_Refused, xf_Refused := L2.xfB_ok xb_Refused, nf_Refused := nf_Refused,
    I_NothingToUndo := I_NothingToUndo, su_NothingToUndo := su_NothingToUndo, xf_NothingToUndo := L2.xfB_ok xb_NothingToUndo, nf_NothingToUndo := nf_NothingToUndo,
    n_super := PySem.W.mg_none_of X G z_super }
  exact ⟨(PySem.W.fnOf "law" "law" (defArgs s_law) (defBody s_law) (defScope s_law) .none kV_law dc_law pm_law an_law cd_law ct_law), fun s v => .of_eq rfl, fun base _ _ => okl_law T law_holds⟩
end Lw
open PySem PySem.W PyProof.Rows
set_option maxRecDepth 100000 in
set_option maxHeartbeats 0 in
theorem PySem.Challenge.cw_lengthstell_k00_whole_errors_holds : PySem.Challenge.rw_lengthstell_k00_whole_errors.Holds := by
  w_on; o_law; k_head; (case hw => w_witness2)
  k_fill
  haveI : DL.CTab := DL.ct1 "" 0
  refine DL.walkG (l := PySem.Challenge.rw_lengthstell_k00_whole_errors) (n := 63) (k := 4) (x := "_law_script") (sp := fun w => DL.spLaw _) rfl (by decide) rfl ⟨rfl, by decide, by decide⟩ (fun w h Y => PySem.W.kIn_of Y) ?F (fun _ H a ns hl _ hS => ⟨H, a, ns, rfl, Evl.Ex.refl H, hS, hl, fun _ => rfl⟩)
  case F =>
    intro w mg fa h KX G hmg
    refine' Lw.all_mk KX G hmg ?p__law_bag ?l__law_bag ?c__law_bag ?k__law_bag ?p__law_draw ?l__law_draw ?c__law_draw ?k__law_draw ?p__law_one_of ?l__law_one_of ?c__law_one_of ?k__law_one_of ?p__law_raised ?l__law_raised ?c__law_raised ?k__law_raised ?p__law_flags ?l__law_flags ?c__law_flags ?k__law_flags ?p__law_told ?l__law_told ?c__law_told ?k__law_told ?p__law_due ?l__law_due ?c__law_due ?k__law_due ?p_law ?l_law ?c_law ?k_law ?z_ArithmeticError ?z_IndexError ?z_KeyError ?z_LookupError ?z_OverflowError ?z_ValueError ?z_abs ?z_int ?z_isinstance ?z_len ?z_max ?z_min ?z_range ?z_repr ?z_sum ?pC_FrameError ?pC_InvalidName ?pC_InvalidFrame ?pC_InvalidRod ?pC_InvalidPlacing ?pC_InvalidWeights ?pC_InvalidStep ?pC_InvalidStand ?pC_InvalidDirections ?pC_InvalidPromise ?pC_InvalidOperation ?pC_ParseError ?pC_InvalidNumber ?pC_UnknownName ?pC_TooMany ?pC_Refused ?pC_NothingToUndo ?exA ?kitA ?exmA ?xC_FrameError ?kC_FrameError ?bC_FrameError ?tC_FrameError ?xC_InvalidName ?kC_InvalidName ?bC_InvalidName ?tC_InvalidName ?xC_InvalidFrame ?kC_InvalidFrame ?bC_InvalidFrame ?tC_InvalidFrame ?xC_InvalidRod ?kC_InvalidRod ?bC_InvalidRod ?tC_InvalidRod ?xC_InvalidPlacing ?kC_InvalidPlacing ?bC_InvalidPlacing ?tC_InvalidPlacing ?xC_InvalidWeights ?kC_InvalidWeights ?bC_InvalidWeights ?tC_InvalidWeights ?xC_InvalidStep ?kC_InvalidStep ?bC_InvalidStep ?tC_InvalidStep ?xC_InvalidStand ?kC_InvalidStand ?bC_InvalidStand ?tC_InvalidStand ?xC_InvalidDirections ?kC_InvalidDirections ?bC_InvalidDirections ?tC_InvalidDirections ?xC_InvalidPromise ?kC_InvalidPromise ?bC_InvalidPromise ?tC_InvalidPromise ?xC_InvalidOperation ?kC_InvalidOperation ?bC_InvalidOperation ?tC_InvalidOperation ?su_ParseError ?xb_ParseError ?nf_ParseError ?su_InvalidNumber ?xb_InvalidNumber ?nf_InvalidNumber ?su_UnknownName ?xb_UnknownName ?nf_UnknownName ?su_TooMany ?xb_TooMany ?nf_TooMany ?su_Refused ?xb_Refused ?nf_Refused ?su_NothingToUndo ?xb_NothingToUndo ?nf_NothingToUndo ?z_super
    (case p__law_bag => k_is)
    (case l__law_bag => k_is)
    (case c__law_bag => k_is)
    (case k__law_bag => k_is)
    (case p__law_draw => k_is)
    (case l__law_draw => k_is)
    (case c__law_draw => k_is)
    (case k__law_draw => k_is)
    (case p__law_one_of => k_is)
    (case l__law_one_of => k_is)
    (case c__law_one_of => k_is)
    (case k__law_one_of => k_is)
    (case p__law_raised => k_is)
    (case l__law_raised => k_is)
    (case c__law_raised => k_is)
    (case k__law_raised => k_is)
    (case p__law_flags => k_is)
    (case l__law_flags => k_is)
    (case c__law_flags => k_is)
    (case k__law_flags => k_is)
    (case p__law_told => k_is)
    (case l__law_told => k_is)
    (case c__law_told => k_is)
    (case k__law_told => k_is)
    (case p__law_due => k_is)
    (case l__law_due => k_is)
    (case c__law_due => k_is)
    (case k__law_due => k_is)
    (case p_law => k_is)
    (case l_law => k_is)
    (case c_law => k_is)
    (case k_law => k_is)
    (case z_ArithmeticError => k_is)
    (case z_IndexError => k_is)
    (case z_KeyError => k_is)
    (case z_LookupError => k_is)
    (case z_OverflowError => k_is)
    (case z_ValueError => k_is)
    (case z_abs => k_is)
    (case z_int => k_is)
    (case z_isinstance => k_is)
    (case z_len => k_is)
    (case z_max => k_is)
    (case z_min => k_is)
    (case z_range => k_is)
    (case z_repr => k_is)
    (case z_sum => k_is)
    (case pC_FrameError => k_is)
    (case pC_InvalidName => k_is)
    (case pC_InvalidFrame => k_is)
    (case pC_InvalidRod => k_is)
    (case pC_InvalidPlacing => k_is)
    (case pC_InvalidWeights => k_is)
    (case pC_InvalidStep => k_is)
    (case pC_InvalidStand => k_is)
    (case pC_InvalidDirections => k_is)
    (case pC_InvalidPromise => k_is)
    (case pC_InvalidOperation => k_is)
    (case pC_ParseError => k_is)
    (case pC_InvalidNumber => k_is)
    (case pC_UnknownName => k_is)
    (case pC_TooMany => k_is)
    (case pC_Refused => k_is)
    (case pC_NothingToUndo => k_is)
    (case exA => first | kernel_rfl | decide +kernel | rfl)
    (case kitA => first | kernel_rfl | decide +kernel | rfl)
    (case exmA => first | kernel_rfl | decide +kernel | rfl)
    (case xC_FrameError => k_exc)
    (case kC_FrameError => k_is)
    (case bC_FrameError => k_is)
    (case tC_FrameError => k_is)
    (case xC_InvalidName => k_exc)
    (case kC_InvalidName => k_is)
    (case bC_InvalidName => k_is)
    (case tC_InvalidName => k_is)
    (case xC_InvalidFrame => k_exc)
    (case kC_InvalidFrame => k_is)
    (case bC_InvalidFrame => k_is)
    (case tC_InvalidFrame => k_is)
    (case xC_InvalidRod => k_exc)
    (case kC_InvalidRod => k_is)
    (case bC_InvalidRod => k_is)
    (case tC_InvalidRod => k_is)
    (case xC_InvalidPlacing => k_exc)
    (case kC_InvalidPlacing => k_is)
    (case bC_InvalidPlacing => k_is)
    (case tC_InvalidPlacing => k_is)
    (case xC_InvalidWeights => k_exc)
    (case kC_InvalidWeights => k_is)
    (case bC_InvalidWeights => k_is)
    (case tC_InvalidWeights => k_is)
    (case xC_InvalidStep => k_exc)
    (case kC_InvalidStep => k_is)
    (case bC_InvalidStep => k_is)
    (case tC_InvalidStep => k_is)
    (case xC_InvalidStand => k_exc)
    (case kC_InvalidStand => k_is)
    (case bC_InvalidStand => k_is)
    (case tC_InvalidStand => k_is)
    (case xC_InvalidDirections => k_exc)
    (case kC_InvalidDirections => k_is)
    (case bC_InvalidDirections => k_is)
    (case tC_InvalidDirections => k_is)
    (case xC_InvalidPromise => k_exc)
    (case kC_InvalidPromise => k_is)
    (case bC_InvalidPromise => k_is)
    (case tC_InvalidPromise => k_is)
    (case xC_InvalidOperation => k_exc)
    (case kC_InvalidOperation => k_is)
    (case bC_InvalidOperation => k_is)
    (case tC_InvalidOperation => k_is)
    (case su_ParseError => (refine' DL.supC_mk PySem.F.excBase_ValueError PySem.F.store_ValueError PySem.W.kxs_ValueError ?ini ?ovr ?sa ?tak ?nw ?sup ?hasD ?own ?isB ?exC ?tyC ?kC ?tp ?fn ?fnT ?cod ?hd ?fi1 ?fi2 ?fi3 ?cel ?bnd ?nSup ?nCls ?nSlf ?nGv ?nGs ?dSlf ?dGv ?noC ?kind ?co ?gen ?inter ?sw1 ?sw2 ?evl ?sta ?top; (case ini => kx_is); (case ovr => kx_is); (case sa => k_is); (case tak => k_is); (case nw => k_is); (case sup => ks_is); (case hasD => first | rfl | k_is | kernel_rfl); (case own => k_is); (case isB => k_is); (case exC => k_is); (case tyC => k_is); (case kC => k_is); (case tp => k_is); (case fn => k_is); (case fnT => k_is); (case cod => k_is); (case hd => exact ⟨_, rfl, rfl⟩); (case fi1 => k_is); (case fi2 => rfl); (case fi3 => rfl); (case cel => k_is); (case bnd => intro a u; rfl); (case nSup => rfl); (case nCls => rfl); (case nSlf => rfl); (case nGv => rfl); (case nGs => decide); (case dSlf => decide); (case dGv => decide); (case noC => decide); (case kind => rfl); (case co => rfl); (case gen => rfl); (case inter => intro L; rfl); (case sw1 => intro L; rfl); (case sw2 => intro L; rfl); (case evl => intro L; rfl); (case sta => intro L; rfl); (case top => rfl)))
    (case xb_ParseError => first | kernel_rfl | decide +kernel | rfl)
    (case nf_ParseError => k_is)
    (case su_InvalidNumber => (refine' DL.supC_mk PySem.F.excBase_IndexError PySem.F.store_IndexError PySem.W.kxs_IndexError ?ini ?ovr ?sa ?tak ?nw ?sup ?hasD ?own ?isB ?exC ?tyC ?kC ?tp ?fn ?fnT ?cod ?hd ?fi1 ?fi2 ?fi3 ?cel ?bnd ?nSup ?nCls ?nSlf ?nGv ?nGs ?dSlf ?dGv ?noC ?kind ?co ?gen ?inter ?sw1 ?sw2 ?evl ?sta ?top; (case ini => kx_is); (case ovr => kx_is); (case sa => k_is); (case tak => k_is); (case nw => k_is); (case sup => ks_is); (case hasD => first | rfl | k_is | kernel_rfl); (case own => k_is); (case isB => k_is); (case exC => k_is); (case tyC => k_is); (case kC => k_is); (case tp => k_is); (case fn => k_is); (case fnT => k_is); (case cod => k_is); (case hd => exact ⟨_, rfl, rfl⟩); (case fi1 => k_is); (case fi2 => rfl); (case fi3 => rfl); (case cel => k_is); (case bnd => intro a u; rfl); (case nSup => rfl); (case nCls => rfl); (case nSlf => rfl); (case nGv => rfl); (case nGs => decide); (case dSlf => decide); (case dGv => decide); (case noC => decide); (case kind => rfl); (case co => rfl); (case gen => rfl); (case inter => intro L; rfl); (case sw1 => intro L; rfl); (case sw2 => intro L; rfl); (case evl => intro L; rfl); (case sta => intro L; rfl); (case top => rfl)))
    (case xb_InvalidNumber => first | kernel_rfl | decide +kernel | rfl)
    (case nf_InvalidNumber => k_is)
    (case su_UnknownName => (refine' DL.supK_mk ?ini ?ovr ?sa ?tak ?nw ?sup ?hasD ?own ?isB ?exC ?tyC ?kC ?tp ?fn ?fnT ?cod ?hd ?fi1 ?fi2 ?fi3 ?cel ?bnd ?nSup ?nCls ?nSlf ?nGv ?nGs ?dSlf ?dGv ?noC ?kind ?co ?gen ?inter ?sw1 ?sw2 ?evl ?sta ?top; (case ini => kx_is); (case ovr => kx_is); (case sa => k_is); (case tak => k_is); (case nw => k_is); (case sup => ks_is); (case hasD => first | rfl | k_is | kernel_rfl); (case own => k_is); (case isB => k_is); (case exC => k_is); (case tyC => k_is); (case kC => k_is); (case tp => k_is); (case fn => k_is); (case fnT => k_is); (case cod => k_is); (case hd => exact ⟨_, rfl, rfl⟩); (case fi1 => k_is); (case fi2 => rfl); (case fi3 => rfl); (case cel => k_is); (case bnd => intro a u; rfl); (case nSup => rfl); (case nCls => rfl); (case nSlf => rfl); (case nGv => rfl); (case nGs => decide); (case dSlf => decide); (case dGv => decide); (case noC => decide); (case kind => rfl); (case co => rfl); (case gen => rfl); (case inter => intro L; rfl); (case sw1 => intro L; rfl); (case sw2 => intro L; rfl); (case evl => intro L; rfl); (case sta => intro L; rfl); (case top => rfl)))
    (case xb_UnknownName => first | kernel_rfl | decide +kernel | rfl)
    (case nf_UnknownName => k_is)
    (case su_TooMany => (refine' DL.supC_mk PySem.F.excBase_OverflowError PySem.F.store_OverflowError PySem.W.kxs_OverflowError ?ini ?ovr ?sa ?tak ?nw ?sup ?hasD ?own ?isB ?exC ?tyC ?kC ?tp ?fn ?fnT ?cod ?hd ?fi1 ?fi2 ?fi3 ?cel ?bnd ?nSup ?nCls ?nSlf ?nGv ?nGs ?dSlf ?dGv ?noC ?kind ?co ?gen ?inter ?sw1 ?sw2 ?evl ?sta ?top; (case ini => kx_is); (case ovr => kx_is); (case sa => k_is); (case tak => k_is); (case nw => k_is); (case sup => ks_is); (case hasD => first | rfl | k_is | kernel_rfl); (case own => k_is); (case isB => k_is); (case exC => k_is); (case tyC => k_is); (case kC => k_is); (case tp => k_is); (case fn => k_is); (case fnT => k_is); (case cod => k_is); (case hd => exact ⟨_, rfl, rfl⟩); (case fi1 => k_is); (case fi2 => rfl); (case fi3 => rfl); (case cel => k_is); (case bnd => intro a u; rfl); (case nSup => rfl); (case nCls => rfl); (case nSlf => rfl); (case nGv => rfl); (case nGs => decide); (case dSlf => decide); (case dGv => decide); (case noC => decide); (case kind => rfl); (case co => rfl); (case gen => rfl); (case inter => intro L; rfl); (case sw1 => intro L; rfl); (case sw2 => intro L; rfl); (case evl => intro L; rfl); (case sta => intro L; rfl); (case top => rfl)))
    (case xb_TooMany => first | kernel_rfl | decide +kernel | rfl)
    (case nf_TooMany => k_is)
    (case su_Refused => (refine' DL.supC_mk PySem.F.excBase_ArithmeticError PySem.F.store_ArithmeticError PySem.W.kxs_ArithmeticError ?ini ?ovr ?sa ?tak ?nw ?sup ?hasD ?own ?isB ?exC ?tyC ?kC ?tp ?fn ?fnT ?cod ?hd ?fi1 ?fi2 ?fi3 ?cel ?bnd ?nSup ?nCls ?nSlf ?nGv ?nGs ?dSlf ?dGv ?noC ?kind ?co ?gen ?inter ?sw1 ?sw2 ?evl ?sta ?top; (case ini => kx_is); (case ovr => kx_is); (case sa => k_is); (case tak => k_is); (case nw => k_is); (case sup => ks_is); (case hasD => first | rfl | k_is | kernel_rfl); (case own => k_is); (case isB => k_is); (case exC => k_is); (case tyC => k_is); (case kC => k_is); (case tp => k_is); (case fn => k_is); (case fnT => k_is); (case cod => k_is); (case hd => exact ⟨_, rfl, rfl⟩); (case fi1 => k_is); (case fi2 => rfl); (case fi3 => rfl); (case cel => k_is); (case bnd => intro a u; rfl); (case nSup => rfl); (case nCls => rfl); (case nSlf => rfl); (case nGv => rfl); (case nGs => decide); (case dSlf => decide); (case dGv => decide); (case noC => decide); (case kind => rfl); (case co => rfl); (case gen => rfl); (case inter => intro L; rfl); (case sw1 => intro L; rfl); (case sw2 => intro L; rfl); (case evl => intro L; rfl); (case sta => intro L; rfl); (case top => rfl)))
    (case xb_Refused => first | kernel_rfl | decide +kernel | rfl)
    (case nf_Refused => k_is)
    (case su_NothingToUndo => (refine' DL.supC_mk PySem.F.excBase_LookupError PySem.F.store_LookupError PySem.W.kxs_LookupError ?ini ?ovr ?sa ?tak ?nw ?sup ?hasD ?own ?isB ?exC ?tyC ?kC ?tp ?fn ?fnT ?cod ?hd ?fi1 ?fi2 ?fi3 ?cel ?bnd ?nSup ?nCls ?nSlf ?nGv ?nGs ?dSlf ?dGv ?noC ?kind ?co ?gen ?inter ?sw1 ?sw2 ?evl ?sta ?top; (case ini => kx_is); (case ovr => kx_is); (case sa => k_is); (case tak => k_is); (case nw => k_is); (case sup => ks_is); (case hasD => first | rfl | k_is | kernel_rfl); (case own => k_is); (case isB => k_is); (case exC => k_is); (case tyC => k_is); (case kC => k_is); (case tp => k_is); (case fn => k_is); (case fnT => k_is); (case cod => k_is); (case hd => exact ⟨_, rfl, rfl⟩); (case fi1 => k_is); (case fi2 => rfl); (case fi3 => rfl); (case cel => k_is); (case bnd => intro a u; rfl); (case nSup => rfl); (case nCls => rfl); (case nSlf => rfl); (case nGv => rfl); (case nGs => decide); (case dSlf => decide); (case dGv => decide); (case noC => decide); (case kind => rfl); (case co => rfl); (case gen => rfl); (case inter => intro L; rfl); (case sw1 => intro L; rfl); (case sw2 => intro L; rfl); (case evl => intro L; rfl); (case sta => intro L; rfl); (case top => rfl)))
    (case xb_NothingToUndo => first | kernel_rfl | decide +kernel | rfl)
    (case nf_NothingToUndo => k_is)
    (case z_super => k_is)
