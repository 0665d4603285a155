import PyProof.Rows.All
import Wide.All
import OpenK.AllK
import Wide.FinOn
import HandS.ForMost
import HandS.Walk
import HandS.Evl
import HandS.IsInst
import HandS.Wide
import HandS.Steps
import HandS.TupAny
import HandS.Zip
import HandS.Slots
import HandS.SlotsOwn
import KE.KDictKeyed
import KE.KeyNested
import HandS.Dict
import HandS.DictComp
import HandS.TupMul
import HandS.Deep
import HandS.Flow
import HandS.AnyAll
import HandS.Nested
import KE.KDictIter
import PyProof.GenCompT
import KE.KNestM
import KE.GoesMore
import HandS.Style
import HandS.WideBits
import HandS.Star
import PyProof.Rows.RegStrFacts
import PyProof.ReprBulk
import HandS.Exc
import HandS.ExcOwn
import HandS.ExcInit
import KE.KExcSuper
import KE.KExcInit
import HandS.TryMany
import HandS.ExcField
import HandS.Lambda
import HandS.WordsExc
import HandS.TupSets
import HandS.SetFor
import KE.SortData
import HandS.SortOrd
import PyProof.TupleOfSeq
import HandS.ListItems
import HandS.More
import HandS.WordsDict
import KE.KDictCopyH
import KE.KDictList
import KE.KDictPairs
import HandS.DictEq
import KE.KEqDict
import PyProof.DictFindH
import HandS.GenList
import PyProof.GenComp
import PyProof.GenCompD
import HandS.Defaults
import HandS.MakeKwOnly
import KE.KEqNest
import PyProof.NeKinds
import HandS.ClsMeth
import HandS.IterVal
import HandS.SortKw
import KE.KSortKeySt
import Flt.Ops
import PyProof.P3In
import HandS.Conv
import KE.DataCmp
import KE.SortCalls
import PySem.Challenge.RW_lengthstell_k46_lots_that_meet_lots
set_option Elab.async false
set_option linter.all false
set_option maxRecDepth 100000
set_option maxHeartbeats 4000000
set_option exponentiation.threshold 20000
namespace DL
open PySem L2 Evl
def kD : Key → PyData
  | .inl i => .int i
  | .inr s => .str s
/-- the kinds that isinstance is asked for -/
def builtTs : List String := ["int", "bool", "str", "tuple", "list", "dict"]
/-- what the class at C must say -/
structure InC (K : PySem.W.Frag) (C : Addr) : Prop where
  sc : SlX.SCls K C
  si : SlX.SIsi K C
  kb : ∀ T ∈ builtTs, PySem.W.kitOne K (.ref C) (.type T) = some false
/-- where the classes of the program stand -/
class CTab where
  ct : Str → Option Addr
  inj : ∀ x y c, ct x = some c → ct y = some c → x = y
  w : World
variable [CTab]
/-- a locked thing: it is read, and no more written -/
def Fz (H : Hp) (a : Addr) (u : HO) : Prop := ∃ o, H a = some (.frz o u)
/-- what has been made is locked -/
def tFrz (t : TE) : TE := fun σ H Q => t σ H fun v H' => ∃ p u, v = .ref p ∧ H' p = some u ∧ Mut (some u) ∧ ∀ od, Q v (upd H' p (.frz od u))
theorem pe_frz {X : Cx} {e : Expr} {t : TE} (h : PE X e t) : PE X e (tFrz t) := by
  refine ⟨fun pins s σ H Q I q => thn (h.run pins s σ H _ I q) fun v s1 ⟨x, H1, I1, r, p, u, ex, hp, mu, q1⟩ => ?_⟩
  obtain ⟨od, I2⟩ := I1.lock hp mu
  exact ⟨x, _, I2, r, q1 od⟩
/-- the slots that hold something, by their numbers -/
def setF : Nat → List (Option V) → List (PyData × V)
  | _, [] => []
  | i, some v :: vs => (.int (i : Nat), v) :: setF (i + 1) vs
  | i, none :: vs => setF (i + 1) vs
/-- a tuple that has been made (or any empty one) -/
def TpH (K : PySem.W.Frag) (H : Hp) (a : Addr) (xs : List V) : Prop := H a = some (.tup xs) ∨ (xs = [] ∧ SqT K H a [])
theorem TpH.sq {K : PySem.W.Frag} {H : Hp} {a : Addr} {xs : List V} (h : TpH K H a xs) : SqT K H a xs := by
  rcases h with h | ⟨rfl, h⟩
  · exact .inl (.inl h)
  · exact h
theorem TpH.mono {K : PySem.W.Frag} {H H' : Hp} {a : Addr} {xs : List V} (e : Ex H H') (h : TpH K H a xs) : TpH K H' a xs := h.imp (e _ _) fun z => ⟨z.1, ex_t e z.2⟩
mutual
inductive KeyAt (K : PySem.W.Frag) (H : Hp) : NestedKey → V → Prop
  | non : KeyAt K H .none .non
  | int (i : Int) : KeyAt K H (.num i) (.int i)
  | str (x : Str) : KeyAt K H (.text x) (.str x)
  | tup {a : Addr} {xs : List V} {ks : List NestedKey} : TpH K H a xs → KeyAll K H ks xs → KeyAt K H (.tup ks) (.ref a)
inductive KeyAll (K : PySem.W.Frag) (H : Hp) : List NestedKey → List V → Prop
  | nil : KeyAll K H [] []
  | cons {k : NestedKey} {ks : List NestedKey} {v : V} {vs : List V} : KeyAt K H k v → KeyAll K H ks vs → KeyAll K H (k :: ks) (v :: vs)
end
abbrev Ent := NestedKey × Addr × V
def entN (w : World) (y : NestedKey × Addr × Value) : DictEntry := ⟨y.1.hash w, .ref y.2.1, y.2.2⟩
def RelE (x : Ent) (y : NestedKey × Addr × Value) : Prop := x.1 = y.1 ∧ x.2.1 = y.2.1 ∧ RelV x.2.2 y.2.2
structure DNo (w : World) (o : Obj) (xs : List Ent) : Prop where
  ex : o.ExactDict
  len : xs.length ≤ sizeLine
  dep : ∀ x ∈ xs, x.1.depth ≤ 8
  nd : (xs.map (·.1)).Nodup
  dat : ∃ es ep ys, o.data = .dict es ep ∧ es.toList = ys.map (entN w) ∧ Paired RelE xs ys
/-- the dict at D, with these entries: a thing that is told by what it is alone -/
abbrev dNX (w : World) (D : Addr) (xs : List Ent) : HO := .ext fun h => (D == sysModules) = false ∧ ∃ o, h.get? D = some o ∧ DNo w o xs
abbrev FzN (H : Hp) (a : Addr) (xs : List Ent) : Prop := Fz H a (dNX CTab.w a xs)
def KeysAt (K : PySem.W.Frag) (H : Hp) (xs : List Ent) : Prop := ∀ x ∈ xs, KeyAt K H x.1 (.ref x.2.1)
/-- the entries, told -/
def pn (xs : List Ent) : List (NestedKey × V) := xs.map fun x => (x.1, x.2.2)
def entD (xs : List Ent) : List (PyData × V) := (pn xs).map fun p => (p.1.data, p.2)
/-- a thing that is told as a dict: its keys and values. An instance of the class nm: (None, nm), (0, slot 0), .. -/
inductive DicH (K : PySem.W.Frag) (H : Hp) (a : Addr) : List (PyData × V) → Prop
  | k {kvs : List (Key × V)} : Fz H a (.dK kvs) → DicH K H a (kvs.map fun p => (kD p.1, p.2))
  | n {xs : List Ent} : FzN H a xs → KeysAt K H xs → DicH K H a (entD xs)
  | o {nm : Str} {C dx : Addr} {vs : List (Option V)} {kvs : List (PyData × V)} : CTab.ct nm = some C → InC K C → H a = some (SlX.SlO a C dx vs) → H dx = some (.xd []) → kvs.Sublist (setF 0 vs) →
      DicH K H a ((.none, .str nm) :: kvs)
theorem ex_tp {K : PySem.W.Frag} {H H' : Hp} {a : Addr} {xs : List V} (e : Ex H H') (h : TpH K H a xs) : SqT K H' a xs := (h.mono e).sq
mutual
inductive Rp (K : PySem.W.Frag) (H : Hp) : V → PyData → Prop
  | non : Rp K H .non .none
  | bl (b : Bool) : Rp K H (.bl b) (.bool b)
  | int (i : Int) : Rp K H (.int i) (.int i)
  | str (x : Str) : Rp K H (.str x) (.str x)
  | lst {a : Addr} {xs : List V} {ds : List PyData} : SqL K H a xs → RpAll K H xs ds → Rp K H (.ref a) (.list ds)
  | tup {a : Addr} {xs : List V} {ds : List PyData} : TpH K H a xs → RpAll K H xs ds → Rp K H (.ref a) (.tuple ds)
  | dic {a : Addr} {kvs : List (PyData × V)} {ds : List (PyData × PyData)} : DicH K H a kvs → RpKv K H kvs ds → Rp K H (.ref a) (.dict ds)
inductive RpAll (K : PySem.W.Frag) (H : Hp) : List V → List PyData → Prop
  | nil : RpAll K H [] []
  | cons {v : V} {vs : List V} {d : PyData} {ds : List PyData} : Rp K H v d → RpAll K H vs ds → RpAll K H (v :: vs) (d :: ds)
inductive RpKv (K : PySem.W.Frag) (H : Hp) : List (PyData × V) → List (PyData × PyData) → Prop
  | nil : RpKv K H [] []
  | cons {k : PyData} {v : V} {vs : List (PyData × V)} {d : PyData} {ds : List (PyData × PyData)} : Rp K H v d → RpKv K H vs ds → RpKv K H ((k, v) :: vs) ((k, d) :: ds)
end
theorem fzEx {H H' : Hp} {a : Addr} {u : HO} (e : Ex H H') : Fz H a u → Fz H' a u := fun ⟨o, h⟩ => ⟨o, e _ _ h⟩
theorem Fz.rd {H : Hp} {a : Addr} {u : HO} (h : Fz H a u) : Rd H a u := .inr h
mutual
theorem KeyAt.mono {K : PySem.W.Frag} {H H' : Hp} (e : Ex H H') : ∀ {k : NestedKey} {v : V}, KeyAt K H k v → KeyAt K H' k v
  | _, _, .non => .non
  | _, _, .int i => .int i
  | _, _, .str x => .str x
  | _, _, .tup h r => .tup (h.mono e) (KeyAll.mono e r)
theorem KeyAll.mono {K : PySem.W.Frag} {H H' : Hp} (e : Ex H H') : ∀ {ks : List NestedKey} {vs : List V}, KeyAll K H ks vs → KeyAll K H' ks vs
  | _, _, .nil => .nil
  | _, _, .cons h r => .cons (KeyAt.mono e h) (KeyAll.mono e r)
end
theorem KeysAt.mono {K : PySem.W.Frag} {H H' : Hp} {xs : List Ent} (e : Ex H H') (h : KeysAt K H xs) : KeysAt K H' xs := fun x hx => (h x hx).mono e
theorem DicH.mono {K : PySem.W.Frag} {H H' : Hp} {a : Addr} {kvs : List (PyData × V)} (e : Ex H H') : DicH K H a kvs → DicH K H' a kvs
  | .k h => .k (fzEx e h)
  | .n h hk => .n (fzEx e h) (hk.mono e)
  | .o h1 h2 h3 h4 hs => .o h1 h2 (e _ _ h3) (e _ _ h4) hs
variable {K : PySem.W.Frag} {H H' H1 H2 : Hp}
mutual
theorem Rp.mono (e : Ex H H') : ∀ {v : V} {d : PyData}, Rp K H v d → Rp K H' v d
  | _, _, .non => .non
  | _, _, .bl b => .bl b
  | _, _, .int i => .int i
  | _, _, .str x => .str x
  | _, _, .lst h r => .lst (ex_l e h) (RpAll.mono e r)
  | _, _, .tup h r => .tup (h.mono e) (RpAll.mono e r)
  | _, _, .dic h r => .dic (h.mono e) (RpKv.mono e r)
theorem RpAll.mono (e : Ex H H') : ∀ {vs : List V} {ds : List PyData}, RpAll K H vs ds → RpAll K H' vs ds
  | _, _, .nil => .nil
  | _, _, .cons h r => .cons (Rp.mono e h) (RpAll.mono e r)
theorem RpKv.mono (e : Ex H H') : ∀ {vs : List (PyData × V)} {ds : List (PyData × PyData)}, RpKv K H vs ds → RpKv K H' vs ds
  | _, _, .nil => .nil
  | _, _, .cons h r => .cons (Rp.mono e h) (RpKv.mono e r)
end
theorem RpAll.len : ∀ {vs : List V} {ds : List PyData}, RpAll K H vs ds → vs.length = ds.length
  | _, _, .nil => rfl
  | _, _, .cons _ r => congrArg (· + 1) (RpAll.len r)
theorem RpAll.get : ∀ {vs : List V} {ds : List PyData} {i : Nat} {v : V}, RpAll K H vs ds → vs[i]? = some v → ∃ d, ds[i]? = some d ∧ Rp K H v d
  | _, _, _, _, .nil, e => by simp at e
  | _, _, 0, _, .cons h _, e => ⟨_, rfl, by cases (Option.some.inj e); exact h⟩
  | _, _, i + 1, v, .cons _ r, e => by
    obtain ⟨d, h1, h2⟩ := RpAll.get (i := i) (v := v) r (by simpa using e)
    exact ⟨d, by simpa using h1, h2⟩
theorem RpAll.get' : ∀ {vs : List V} {ds : List PyData} {i : Nat} {d : PyData}, RpAll K H vs ds → ds[i]? = some d → ∃ v, vs[i]? = some v ∧ Rp K H v d
  | _, _, _, _, .nil, e => by simp at e
  | _, _, 0, _, .cons h _, e => ⟨_, rfl, by cases (Option.some.inj e); exact h⟩
  | _, _, i + 1, d, .cons _ r, e => by
    obtain ⟨v, h1, h2⟩ := RpAll.get' (i := i) (d := d) r (by simpa using e)
    exact ⟨v, by simpa using h1, h2⟩
theorem RpAll.append : ∀ {vs ws : List V} {ds es : List PyData}, RpAll K H vs ds → RpAll K H ws es → RpAll K H (vs ++ ws) (ds ++ es)
  | _, _, _, _, .nil, s => s
  | _, _, _, _, .cons h r, s => .cons h (RpAll.append r s)
theorem RpAll.take : ∀ {vs : List V} {ds : List PyData} (n : Nat), RpAll K H vs ds → RpAll K H (vs.take n) (ds.take n)
  | _, _, 0, _ => .nil
  | _, _, n + 1, .nil => .nil
  | _, _, n + 1, .cons h r => .cons h (RpAll.take n r)
theorem RpAll.drop : ∀ {vs : List V} {ds : List PyData} (n : Nat), RpAll K H vs ds → RpAll K H (vs.drop n) (ds.drop n)
  | _, _, 0, r => r
  | _, _, n + 1, .nil => .nil
  | _, _, n + 1, .cons h r => RpAll.drop n r
theorem RpAll.ints : ∀ {vs : List V} {ns : List Int}, RpAll K H vs (ns.map .int) → vs = ns.map .int
  | [], [], _ => rfl
  | _ :: _, _ :: _, .cons (.int _) r => congrArg _ (RpAll.ints r)
theorem RpAll.bools : ∀ {vs : List V} {ns : List Bool}, RpAll K H vs (ns.map .bool) → vs = ns.map .bl
  | [], [], _ => rfl
  | _ :: _, _ :: _, .cons (.bl _) r => congrArg _ (RpAll.bools r)
theorem RpAll.of_ints : ∀ {ns : List Int}, RpAll K H (ns.map .int) (ns.map .int)
  | [] => .nil
  | _ :: _ => .cons (.int _) RpAll.of_ints
theorem RpAll.of_strs : ∀ {ns : List Str}, RpAll K H (ns.map .str) (ns.map .str)
  | [] => .nil
  | _ :: _ => .cons (.str _) RpAll.of_strs
mutual
theorem Rp.dp : ∀ {v : V} {d : PyData}, Rp K H v d → d.canLay0 = true → Dp K H v d
  | _, _, .non, _ => .non
  | _, _, .bl b, _ => .bl b
  | _, _, .int i, _ => .int i
  | _, _, .str x, _ => .str x
  | _, _, .lst h r, p => .lst h (RpAll.dp r (by simpa [PyData.canLay0] using p))
  | _, _, .tup h r, p => .tup h.sq (RpAll.dp r (by simpa [PyData.canLay0] using p))
  | _, _, .dic h r, p => by simp [PyData.canLay0] at p
theorem RpAll.dp : ∀ {vs : List V} {ds : List PyData}, RpAll K H vs ds → PyData.canLayAll0 ds = true → DpAll K H vs ds
  | _, _, .nil, _ => .nil
  | v :: vs, d :: ds, .cons h r, p => by
    have q : d.canLay0 = true ∧ PyData.canLayAll0 ds = true := by simpa [PyData.canLayAll0] using p
    exact .cons (Rp.dp h q.1) (RpAll.dp r q.2)
end
/-- no tuple (tuples may be told later than they were made) -/
def NT (o : HO) : Prop := ∀ xs, o ≠ .tup xs
theorem NT.of {o u : HO} (e : some u = some o) (t : NT o) : NT u := by cases e; exact t
theorem NT.lst {xs : List V} : NT (.lst xs) := fun _ z => nomatch z
structure Grow (H H1 Hk H2 : Hp) : Prop where
  known : Ex H Hk
  sub : Ex Hk H2
  all : Ex H1 H2
  fresh : ∀ p o, Hk p = some o → H p = none → NT o → H1 p = none
theorem ex_none {H H' : Hp} (e : Ex H H') {p : Addr} (h : H' p = none) : H p = none := fresh_back e h
theorem Grow.refl {H H1 : Hp} (e : Ex H H1) : Grow H H1 H H1 := ⟨Ex.refl H, e, Ex.refl H1, fun p o h n _ => by rw [h] at n; cases n⟩
theorem Grow.trans {H H1 Hk H2 Hm H3 : Hp} (a : Grow H H1 Hk H2) (b : Grow Hk H2 Hm H3) : Grow H H1 Hm H3 :=
  ⟨a.known.trans b.known, b.sub, a.all.trans b.all, fun p o h n t => by
    cases q : Hk p with
    | some u => exact a.fresh p u q n (NT.of ((b.known p u q).symm.trans h) t)
    | none => exact ex_none a.all (b.fresh p o h q t)⟩
theorem ex_upd {H H' : Hp} (e : Ex H H') (p : Addr) (o : HO) : Ex (upd H p o) (upd H' p o) := fun a u h => by
  by_cases ha : a = p
  · subst ha; rw [upd_same] at h ⊢; exact h
  · rw [upd_ne ha] at h ⊢; exact e a u h
theorem Grow.new {H H1 : Hp} {p : Addr} (e : Ex H H1) (hp : H1 p = none) (o : HO) : Grow H H1 (upd H p o) (upd H1 p o) :=
  ⟨Ex.new (ex_none e hp), ex_upd e p o, Ex.new hp, fun a u h n _ => by
    by_cases ha : a = p
    · subst ha; exact hp
    · rw [upd_ne ha] at h; rw [h] at n; cases n⟩
/-- a new thing that is not told -/
theorem Grow.hide {H H1 : Hp} {p : Addr} (e : Ex H H1) (hp : H1 p = none) (o : HO) : Grow H H1 H (upd H1 p o) :=
  ⟨Ex.refl H, e.trans (Ex.new hp), Ex.new hp, fun a u h n _ => by rw [h] at n; cases n⟩
/-- what is not known stays unknown -/
theorem Grow.unk {H H1 Hk H2 : Hp} (g : Grow H H1 Hk H2) {p : Addr} {o : HO} (h : H p = none) (h1 : H1 p = some o) (t : NT o) : Hk p = none := by
  cases q : Hk p with
  | none => rfl
  | some u => rw [g.fresh p u q h (NT.of ((g.sub p u q).symm.trans (g.all p o h1)) t)] at h1; cases h1
def both (A B : Hp) : Hp := fun p => match A p with | some o => some o | none => B p
theorem both_l {A B : Hp} : Ex A (both A B) := fun p o h => by unfold both; rw [h]
theorem both_r {A B C : Hp} (a : Ex A C) (b : Ex B C) : Ex B (both A B) := fun p o h => by
  unfold both
  cases q : A p with
  | none => exact h
  | some u => exact ((a p u q).symm.trans (b p o h))
theorem both_sub {A B C : Hp} (a : Ex A C) (b : Ex B C) : Ex (both A B) C := fun p o h => by
  unfold both at h
  cases q : A p with
  | none => rw [q] at h; exact b p o h
  | some u => rw [q] at h; exact a p o (q.trans h)
/-- more was known -/
theorem Grow.more {H Hm H1 Hk H2 : Hp} (a : Ex H Hm) (e : Ex Hm H1) (g : Grow H H1 Hk H2) : Grow Hm H1 (both Hm Hk) H2 :=
  ⟨both_l, both_sub (e.trans g.all) g.sub, g.all, fun p o h n t => by
    unfold both at h
    rw [n] at h
    exact g.fresh p o h (ex_none a n) t⟩
theorem Grow.moreR {H Hm H1 Hk H2 : Hp} (e : Ex Hm H1) (g : Grow H H1 Hk H2) : Ex Hk (both Hm Hk) := both_r (e.trans g.all) g.sub
/-- te gives some datum of P, and leaves what is known -/
def EvP (K : PySem.W.Frag) (te : TE) (σ : L2.St) (H : Hp) (P : PyData → Prop) : Prop :=
  ∀ H1, Ex H H1 → ∀ Q : VK, (∀ v d Hk H2, Grow H H1 Hk H2 → Rp K Hk v d → P d → Q v H2) → te σ H1 Q
abbrev EvD (K : PySem.W.Frag) (te : TE) (σ : L2.St) (H : Hp) (d : PyData) : Prop := EvP K te σ H (· = d)
def EvAs (K : PySem.W.Frag) (ta : TA) (σ : L2.St) (H : Hp) (P : List PyData → Prop) : Prop :=
  ∀ H1, Ex H H1 → ∀ Q : List V → Hp → Prop, (∀ vs ds Hk H2, Grow H H1 Hk H2 → RpAll K Hk vs ds → P ds → Q vs H2) → ta σ H1 Q
/-- a test -/
def EvTP (tt : TT) (σ : L2.St) (H : Hp) (P : Bool → Prop) : Prop :=
  ∀ H1, Ex H H1 → ∀ Q : Bool → Hp → Prop, (∀ b Hk H2, Grow H H1 Hk H2 → P b → Q b H2) → tt σ H1 Q
/-- an operation of two values, a call of values -/
def RD (K : PySem.W.Frag) (r : R2) (d1 d2 : PyData) (P : PyData → Prop) : Prop :=
  ∀ v1 v2 H H1, Ex H H1 → Rp K H v1 d1 → Rp K H v2 d2 → ∀ Q : VK, (∀ v d Hk H2, Grow H H1 Hk H2 → Rp K Hk v d → P d → Q v H2) → r v1 v2 H1 Q
def RCD (K : PySem.W.Frag) (r : List V → Hp → VK → Prop) (ds : List PyData) (P : PyData → Prop) : Prop :=
  ∀ vs H H1, Ex H H1 → RpAll K H vs ds → ∀ Q : VK, (∀ v d Hk H2, Grow H H1 Hk H2 → Rp K Hk v d → P d → Q v H2) → r vs H1 Q
section
variable {σ : L2.St} {ta tb tc te : TE} {tt tu : TT} {P P1 P2 : PyData → Prop} {d d1 d2 : PyData} {r r' : R2}
theorem EvP.mono (a : Ex H H') (h : EvP K te σ H P) : EvP K te σ H' P := fun H1 e Q q => h H1 (a.trans e) Q fun v d Hk H2 g r p => q v d _ H2 (g.more a e) (r.mono (g.moreR e)) p
theorem EvAs.mono {ta : TA} {P : List PyData → Prop} (a : Ex H H') (h : EvAs K ta σ H P) : EvAs K ta σ H' P := fun H1 e Q q => h H1 (a.trans e) Q fun v d Hk H2 g r p => q v d _ H2 (g.more a e) (r.mono (g.moreR e)) p
theorem EvTP.mono {P : Bool → Prop} (a : Ex H H') (h : EvTP tt σ H P) : EvTP tt σ H' P := fun H1 e Q q => h H1 (a.trans e) Q fun b Hk H2 g p => q b _ H2 (g.more a e) p
theorem EvP.weak (h : EvP K te σ H P1) (w : ∀ d, P1 d → P2 d) : EvP K te σ H P2 := fun H1 a Q q => h H1 a Q fun v d Hk H2 e r p => q v d Hk H2 e r (w d p)
theorem EvP.is (h : EvD K te σ H d1) (e : d1 = d2) : EvD K te σ H d2 := by subst e; exact h
theorem evp_var {i : Nat} {v : V} (h : σ[i]? = some (some v)) (r : Rp K H v d) : EvD K (tVar i) σ H d := fun H1 e Q q => ⟨v, h, q v d H H1 (Grow.refl e) r rfl⟩
theorem evp_c {v : V} (r : Rp K H v d) : EvD K (tC v) σ H d := fun H1 e _ q => q _ _ H H1 (Grow.refl e) r rfl
theorem evp_int {i : Int} : EvD K (tC (.int i)) σ H (.int i) := evp_c (.int i)
theorem evp_op (ha : EvP K ta σ H P1) (hb : EvP K tb σ H P2) (hr : ∀ d1 d2, P1 d1 → P2 d2 → RD K r d1 d2 P) : EvP K (tOp r ta tb) σ H P := fun H1 e Q q =>
  ha H1 e _ fun v1 d1 Hk2 H2 g2 r1 p1 => hb.mono g2.known H2 g2.sub _ fun v2 d2 Hk3 H3 g3 r2 p2 => hr d1 d2 p1 p2 v1 v2 Hk3 H3 g3.sub (r1.mono g3.known) r2 Q fun v d Hk4 H4 g4 r4 p4 => q v d Hk4 H4 ((g2.trans g3).trans g4) r4 p4
/-- both known -/
theorem evd_op (ha : EvD K ta σ H d1) (hb : EvD K tb σ H d2) (hr : RD K r d1 d2 P) : EvP K (tOp r ta tb) σ H P :=
  evp_op ha hb fun _ _ e1 e2 => by subst e1; subst e2; exact hr
theorem rd_I0 {g : Int → Int → Int} {i j : Int} : RD K (rI0 fun i j => .int (g i j)) (.int i) (.int j) (· = .int (g i j)) := fun _ _ H H1 e r1 r2 Q q => by
  cases r1; cases r2; exact ⟨i, j, rfl, rfl, q _ _ H H1 (Grow.refl e) (.int _) rfl⟩
theorem rd_I {C : Int → Int → Prop} {g : Int → Int → Int} {i j : Int} (c : C i j) : RD K (rI C fun i j => .int (g i j)) (.int i) (.int j) (· = .int (g i j)) := fun _ _ H H1 e r1 r2 Q q => by
  cases r1; cases r2; exact ⟨i, j, rfl, rfl, c, q _ _ H H1 (Grow.refl e) (.int _) rfl⟩
theorem rd_B0 {g : Int → Int → Bool} {i j : Int} : RD K (rI0 fun i j => .bl (g i j)) (.int i) (.int j) (· = .bool (g i j)) := fun _ _ H H1 e r1 r2 Q q => by
  cases r1; cases r2; exact ⟨i, j, rfl, rfl, q _ _ H H1 (Grow.refl e) (.bl _) rfl⟩
/-- arguments -/
theorem eas_nil : EvAs K tNil σ H (· = []) := fun H1 e _ q => q _ _ H H1 (Grow.refl e) .nil rfl
theorem eas_cons {tr : TA} {P1 : PyData → Prop} {P2 : List PyData → Prop} (h : EvP K ta σ H P1) (hr : EvAs K tr σ H P2) : EvAs K (tCons ta tr) σ H (fun ds => ∃ d es, ds = d :: es ∧ P1 d ∧ P2 es) := fun H1 e Q q =>
  h H1 e _ fun v d Hk2 H2 g2 r2 p2 => hr.mono g2.known H2 g2.sub _ fun vs ds Hk3 H3 g3 r3 p3 => q (v :: vs) (d :: ds) Hk3 H3 (g2.trans g3) (.cons (r2.mono g3.known) r3) ⟨d, ds, rfl, p2, p3⟩
abbrev EvA1 (K : PySem.W.Frag) (ta : TA) (σ : L2.St) (H : Hp) (ds : List PyData) : Prop := EvAs K ta σ H (· = ds)
theorem eas1 {tr : TA} {ds : List PyData} (h : EvD K ta σ H d) (hr : EvA1 K tr σ H ds) : EvA1 K (tCons ta tr) σ H (d :: ds) := fun H1 e Q q =>
  eas_cons h hr H1 e Q fun vs es Hk H2 g r p => q vs es Hk H2 g r (by obtain ⟨d', es', rfl, rfl, rfl⟩ := p; rfl)
theorem evp_cb {rr : List V → Hp → VK → Prop} {tr : TA} {P1 : List PyData → Prop} (h : EvAs K tr σ H P1) (hr : ∀ ds, P1 ds → RCD K rr ds P) : EvP K (tCB rr tr) σ H P := fun H1 e Q q =>
  h H1 e _ fun vs ds Hk2 H2 g2 r2 p2 => hr ds p2 vs Hk2 H2 g2.sub r2 Q fun v d Hk3 H3 g3 r3 p3 => q v d Hk3 H3 (g2.trans g3) r3 p3
theorem evd_cb {rr : List V → Hp → VK → Prop} {tr : TA} {ds : List PyData} (h : EvA1 K tr σ H ds) (hr : RCD K rr ds P) : EvP K (tCB rr tr) σ H P := evp_cb h fun _ e => by subst e; exact hr
abbrev EvT1 (tt : TT) (σ : L2.St) (H : Hp) (b : Bool) : Prop := EvTP tt σ H (· = b)
theorem etp_test {b : Bool} (h : EvD K te σ H (.bool b)) : EvT1 (tTest te) σ H b := fun H1 e Q q => h H1 e _ fun v d Hk H2 g2 r2 p2 => by
  subst p2; cases r2; exact ⟨b, rfl, q b Hk H2 g2 rfl⟩
theorem evp_if {b : Bool} (h : EvT1 tt σ H b) (h1 : b = true → EvP K ta σ H P) (h2 : b = false → EvP K tb σ H P) : EvP K (tIf tt ta tb) σ H P := fun H1 e Q q => h H1 e _ fun c Hk2 H2 g2 p2 => by
  subst p2
  cases c with
  | true => exact (h1 rfl).mono g2.known H2 g2.sub Q fun v d Hk3 H3 g3 r3 p3 => q v d Hk3 H3 (g2.trans g3) r3 p3
  | false => exact (h2 rfl).mono g2.known H2 g2.sub Q fun v d Hk3 H3 g3 r3 p3 => q v d Hk3 H3 (g2.trans g3) r3 p3
end
def tyOf : PyData → String
  | .none => "NoneType"
  | .bool _ => "bool"
  | .int _ => "int"
  | .str _ => "str"
  | .list _ => "list"
  | .tuple _ => "tuple"
  | .dict _ => "dict"
def isStr : PyData → Bool
  | .str _ => true
  | _ => false
def isTup : PyData → Bool
  | .tuple _ => true
  | _ => false
/-- an instance of a class of the program -/
def insB : List (PyData × PyData) → Bool
  | (.none, _) :: _ => true
  | _ => false
def insD : PyData → Bool
  | .dict kvs => insB kvs
  | _ => false
def isDic : PyData → Bool
  | .dict kvs => !insB kvs
  | _ => false
theorem kit_str (d : PyData) : kitB (tyOf d) "str" = some (isStr d) := match d with
  | .none => (by decide +kernel : kitB "NoneType" "str" = some false)
  | .bool _ => (by decide +kernel : kitB "bool" "str" = some false)
  | .int _ => (by decide +kernel : kitB "int" "str" = some false)
  | .str _ => (by decide +kernel : kitB "str" "str" = some true)
  | .list _ => (by decide +kernel : kitB "list" "str" = some false)
  | .tuple _ => (by decide +kernel : kitB "tuple" "str" = some false)
  | .dict _ => (by decide +kernel : kitB "dict" "str" = some false)
theorem kit_tup (d : PyData) : kitB (tyOf d) "tuple" = some (isTup d) := match d with
  | .none => (by decide +kernel : kitB "NoneType" "tuple" = some false)
  | .bool _ => (by decide +kernel : kitB "bool" "tuple" = some false)
  | .int _ => (by decide +kernel : kitB "int" "tuple" = some false)
  | .str _ => (by decide +kernel : kitB "str" "tuple" = some false)
  | .list _ => (by decide +kernel : kitB "list" "tuple" = some false)
  | .tuple _ => (by decide +kernel : kitB "tuple" "tuple" = some true)
  | .dict _ => (by decide +kernel : kitB "dict" "tuple" = some false)
/-- a value's type, wider still: locked dicts with tuple keys, instances with slots -/
inductive TyY (K : PySem.W.Frag) (H : Hp) : V → Value → Prop where
  | x {v : V} {t : Value} (h : TyX K H v t) : TyY K H v t
  | fN {a : Addr} {xs : List Ent} (e : FzN H a xs) : TyY K H (.ref a) (.type "dict")
  | ins {a C dx : Addr} {vs : List (Option V)} (c : InC K C) (e : H a = some (SlX.SlO a C dx vs)) (e2 : H dx = some (.xd [])) : TyY K H (.ref a) (.ref C)
theorem Rp.ty {v : V} {d : PyData} (r : Rp K H v d) (hi : insD d = false) : TyY K H v (.type (tyOf d)) := by
  cases r with
  | non => exact .x (.base .non)
  | bl b => exact .x (.base (.bl b))
  | int i => exact .x (.base (.int i))
  | str x => exact .x (.base (.str x))
  | lst h _ =>
    rcases h with (h | ⟨o, h⟩) | ⟨o, its, n, h, c, _⟩
    · exact .x (.base (.lst h))
    · exact .x (.base (.frz h))
    · exact .x (.kList h c)
  | tup h _ =>
    rcases h.sq (K := K) with (h | ⟨o, h⟩) | ⟨o, its, n, h, c, _⟩
    · exact .x (.base (.tup h))
    · exact .x (.fTuple h)
    · exact .x (.kTuple h c)
  | dic h r =>
    cases h with
    | k h =>
      obtain ⟨o, h⟩ := h
      exact .x (.fDict h)
    | n h _ => exact .fN h
    | o h1 h2 h3 h4 hs =>
      cases r
      cases hi
/-- an instance: its class -/
theorem Rp.tyI {v : V} {d : PyData} (r : Rp K H v d) (hi : insD d = true) : ∃ (nm : Str) (C : Addr) (kvs : List (PyData × PyData)), d = .dict ((.none, .str nm) :: kvs) ∧ CTab.ct nm = some C ∧ InC K C ∧ TyY K H v (.ref C) := by
  cases r with
  | dic h r =>
    cases h with
    | @k kvs h =>
      cases kvs with
      | nil => cases r; cases hi
      | cons p kvs =>
        obtain ⟨k, v⟩ := p
        cases r
        cases k <;> cases hi
    | @n xs h hk =>
      cases xs with
      | nil => cases r; cases hi
      | cons x xs =>
        obtain ⟨k, p, v⟩ := x
        have hx := hk (k, p, v) List.mem_cons_self
        cases hx with
        | tup _ _ =>
          cases r
          cases hi
    | o h1 h2 h3 h4 hs =>
      cases r with
      | cons q r =>
        cases q
        exact ⟨_, _, _, rfl, h1, h2, .ins h2 h3 h4⟩
  | non => cases hi
  | bl b => cases hi
  | int i => cases hi
  | str x => cases hi
  | lst h _ => cases hi
  | tup h _ => cases hi
/-- isinstance(x, c) -/
def rIsiY (K : PySem.W.Frag) : List V → Hp → VK → Prop := fun xs H Q => ∃ (x c : V) (t u : Value) (b : Bool), xs = [x, c] ∧ ClsV c u ∧ TyY K H x t ∧ PySem.W.kitOne K t u = some b ∧ Q (.bl b) H
theorem call_isiY {X : Cx} : CallR X (.builtin "isinstance") (rIsiY X.K) := by
  intro pins s σ H xs us Q I r h
  obtain ⟨x, c, t, u, b, rfl, k, ty, e, q⟩ := h
  cases ty with
  | x ty => exact call_isi pins s σ H _ us Q I r ⟨x, c, t, u, b, rfl, k, ty, e, q⟩
  | @fN a xs ea =>
    obtain ⟨u1, u2, rfl, r1, r2⟩ := vals2 r
    have e2 := k.eq r2
    subst e2
    cases (show u1 = Value.ref a from r1)
    obtain ⟨⟨_, o, h1, hd⟩, _⟩ := ea.rd.ok I.hok
    exact PySem.W.kia_one PySem.W.kitx_dict I.kIn ⟨o, h1, hd.ex.1⟩ e (fun z => nomatch z) fun tk => ⟨.bl b, H, I.tok tk, rfl, q⟩
  | @ins a C dx vs c' ea e2 =>
    refine SlX.call_isiSl u pins s σ H _ us Q I r ⟨a, C, dx, vs, c, b, rfl, ?_, fun w hw => k.eq hw, .inr ⟨ea, e2⟩, c'.sc, c'.si, e, q⟩
    obtain ⟨u1, u2, rfl, r1, r2⟩ := vals2 r
    have e3 := k.eq r2
    subst e3
    exact r2
section
variable {σ : L2.St} {ta tb tc te : TE} {tt tu : TT} {P P1 P2 : PyData → Prop} {d d1 d2 : PyData} {r r' : R2}
def rLen (K : PySem.W.Frag) : List V → Hp → VK → Prop := fun xs H Q => ∃ x n, xs = [x] ∧ LenV K x H n ∧ Q (.int n) H
def lenD : PyData → Option Nat
  | .str s => if s.length ≤ 100000 then some s.length else none
  | .list ds => some ds.length
  | .tuple ds => some ds.length
  | _ => none
theorem rc_len {n : Nat} (h : lenD d = some n) : RCD K (rLen K) [d] (· = .int n) := by
  intro vs H H1 e r Q q
  cases r with
  | cons r rr =>
    cases rr
    refine ⟨_, n, rfl, ?_, q _ _ H H1 (Grow.refl e) (.int n) rfl⟩
    cases r with
    | non => cases h
    | bl b => cases h
    | int i => cases h
    | str x =>
      have h' : (if x.length ≤ 100000 then some x.length else none) = some n := h
      by_cases hx : x.length ≤ 100000
      · rw [if_pos hx] at h'
        cases h'
        exact ⟨sz_of hx, rfl⟩
      · rw [if_neg hx] at h'
        cases h'
    | lst h1 r1 =>
      cases h
      exact .inl ⟨_, ex_l e h1, r1.len.symm⟩
    | tup h1 r1 =>
      cases h
      exact .inr ⟨_, ex_tp e h1, r1.len.symm⟩
    | dic _ _ => cases h
theorem rc_all {bs : List Bool} : RCD K (rAll K) [.list (bs.map .bool)] (· = .bool (bs.all id)) := by
  intro vs H H1 e r Q q
  cases r with
  | cons r rr =>
    cases rr
    cases r with
    | lst h1 r1 =>
      rw [r1.bools] at h1
      exact ⟨_, bs, rfl, ex_l e h1, q _ _ H H1 (Grow.refl e) (.bl _) rfl⟩
theorem rc_any {bs : List Bool} : RCD K (rAny K) [.list (bs.map .bool)] (· = .bool (bs.any id)) := by
  intro vs H H1 e r Q q
  cases r with
  | cons r rr =>
    cases rr
    cases r with
    | lst h1 r1 =>
      rw [r1.bools] at h1
      exact ⟨_, bs, rfl, ex_l e h1, q _ _ H H1 (Grow.refl e) (.bl _) rfl⟩
theorem rc_sum {ns : List Int} : RCD K (rSum K) [.list (ns.map .int)] (· = .int ns.sum) := by
  intro vs H H1 e r Q q
  cases r with
  | cons r rr =>
    cases rr
    cases r with
    | lst h1 r1 =>
      rw [r1.ints] at h1
      exact ⟨_, ns, rfl, ex_l e h1, q _ _ H H1 (Grow.refl e) (.int _) rfl⟩
/-- tuple(list) -/
def rTupOf (K : PySem.W.Frag) : List V → Hp → VK → Prop := fun xs H Q => ∃ p ys, xs = [.ref p] ∧ ((SqL K H p ys ∧ ∀ l, H l = none → Q (.ref l) (upd H l (.tup ys))) ∨ (SqT K H p ys ∧ Q (.ref p) H))
theorem rc_tuple {ds : List PyData} (h : d = .list ds ∨ d = .tuple ds) : RCD K (rTupOf K) [d] (· = .tuple ds) := by
  intro vs H H1 e r Q q
  cases r with
  | cons r rr =>
    cases rr
    rcases h with rfl | rfl
    · cases r with
      | lst h1 r1 => exact ⟨_, _, rfl, .inl ⟨ex_l e h1, fun l hl => q _ _ _ _ (Grow.new e hl _) (.tup (.inl upd_same) (r1.mono (Grow.new e hl _).known)) rfl⟩⟩
    · cases r with
      | tup h1 r1 => exact ⟨_, _, rfl, .inr ⟨ex_tp e h1, q _ _ _ _ (Grow.refl e) (.tup h1 r1) rfl⟩⟩
/-- list(list), list(tuple) -/
def rLstOf (K : PySem.W.Frag) : List V → Hp → VK → Prop := fun xs H Q => ∃ p ys, xs = [.ref p] ∧ (SqL K H p ys ∨ SqT K H p ys) ∧ ∀ l, H l = none → Q (.ref l) (upd H l (.lst ys))
theorem RpAll.atI {vs : List V} {ds : List PyData} {i : Int} (r : RpAll K H vs ds) (h : L2.atI ds i = some d) : ∃ v, L2.atI vs i = some v ∧ Rp K H v d := by
  unfold L2.atI at h ⊢
  rw [r.len]
  cases e : ixN ds.length i with
  | none => rw [e] at h; cases h
  | some j =>
    rw [e] at h
    exact r.get' (i := j) h
theorem rd_ixL {ds : List PyData} {i : Int} (h : L2.atI ds i = some d) : RD K (rIxL K) (.list ds) (.int i) (· = d) := by
  intro _ _ H H1 e r1 r2 Q q
  cases r2
  cases r1 with
  | lst h1 r1 =>
    obtain ⟨v, ev, rv⟩ := r1.atI h
    exact ⟨_, _, i, v, rfl, rfl, ex_l e h1, ev, q _ _ H H1 (Grow.refl e) rv rfl⟩
theorem rd_ixT {ds : List PyData} {i : Int} (h : L2.atI ds i = some d) : RD K (rIxT K) (.tuple ds) (.int i) (· = d) := by
  intro _ _ H H1 e r1 r2 Q q
  cases r2
  cases r1 with
  | tup h1 r1 =>
    obtain ⟨v, ev, rv⟩ := r1.atI h
    exact ⟨_, _, i, v, rfl, rfl, ex_tp e h1, ev, q _ _ H H1 (Grow.refl e) rv rfl⟩
theorem rd_ix {ds : List PyData} {i : Int} (hd : d1 = .list ds ∨ d1 = .tuple ds) (h : L2.atI ds i = some d) : RD K (rIx K) d1 (.int i) (· = d) := by
  intro v1 v2 H H1 e r1 r2 Q q
  rcases hd with rfl | rfl
  · exact .inl (rd_ixL h v1 v2 H H1 e r1 r2 Q q)
  · exact .inr (.inl (rd_ixT h v1 v2 H H1 e r1 r2 Q q))
theorem rd_ixS {z : Str} {i : Int} {c : Nat} (hz : z.length ≤ 100000) (h : L2.atI z.cps.toList i = some c) : RD K (rIx K) (.str z) (.int i) (· = .str ⟨#[c]⟩) := by
  intro _ _ H H1 e r1 r2 Q q
  cases r1
  cases r2
  exact .inr (.inr ⟨z, i, c, rfl, rfl, sz_of hz, h, q _ _ H H1 (Grow.refl e) (.str _) rfl⟩)
def cutG {α : Type} (xs : List α) (lo hi : Option Int) : List α := (xs.drop (HT.sIx xs.length 0 lo)).take (HT.sIx xs.length xs.length hi - HT.sIx xs.length 0 lo)
theorem RpAll.cut {vs : List V} {ds : List PyData} (r : RpAll K H vs ds) (lo hi : Option Int) : RpAll K H (cutV vs lo hi) (cutG ds lo hi) := by
  unfold cutV cutG
  rw [r.len]
  exact (r.drop _).take _
theorem cutV_all (xs : List V) (lo hi : Option Int) (h : HT.sIx xs.length 0 lo = 0 ∧ HT.sIx xs.length xs.length hi = xs.length) : cutV xs lo hi = xs := by
  unfold cutV
  rw [h.1, h.2]
  simp
end
section
variable {σ : L2.St} {ta tb tc te : TE} {tt tu : TT} {P P1 P2 : PyData → Prop} {d d1 d2 : PyData} {r r' : R2}
theorem rd_eqD (h1 : SeqAt.shaped d1 = true) (h2 : SeqAt.shaped d2 = true) : RD K (rEqD K) d1 d2 (· = .bool (PyData.eqv d1 d2)) := fun v1 v2 H H1 e r1 r2 Q q =>
  ⟨d1, d2, (r1.mono e).dp (SeqAt.canLay_of_shaped h1), (r2.mono e).dp (SeqAt.canLay_of_shaped h2), h1, h2, q _ _ H H1 (Grow.refl e) (.bl _) rfl⟩
theorem rd_neD (h1 : SeqAt.shaped d1 = true) (h2 : SeqAt.shaped d2 = true) : RD K (rNeD K) d1 d2 (· = .bool (!PyData.eqv d1 d2)) := fun v1 v2 H H1 e r1 r2 Q q =>
  ⟨d1, d2, (r1.mono e).dp (SeqAt.canLay_of_shaped h1), (r2.mono e).dp (SeqAt.canLay_of_shaped h2), h1, h2, q _ _ H H1 (Grow.refl e) (.bl _) rfl⟩
def rLtS : R2 := fun x y H Q => ∃ i j, x = .str i ∧ y = .str j ∧ Q (.bl (decide (i.cps.toList < j.cps.toList))) H
theorem rd_ltS {i j : Str} : RD K rLtS (.str i) (.str j) (· = .bool (decide (i.cps.toList < j.cps.toList))) := fun v1 v2 H H1 e r1 r2 Q q => by
  cases r1; cases r2; exact ⟨i, j, rfl, rfl, q _ _ H H1 (Grow.refl e) (.bl _) rfl⟩
theorem rd_inS {c : Nat} {z : Str} : RD K rInS (.str ⟨#[c]⟩) (.str z) (· = .bool (decide (c ∈ z.cps.toList))) := fun v1 v2 H H1 e r1 r2 Q q => by
  cases r1; cases r2; exact ⟨c, z, rfl, rfl, q _ _ H H1 (Grow.refl e) (.bl _) rfl⟩
def isNon : PyData → Bool
  | .none => true
  | _ => false
end
section
variable {σ : L2.St} {te : TE}
def TAt (K : PySem.W.Frag) (ds : List PyData) (i : Nat) (x : V) (H : Hp) : Prop := ∃ d, ds[i]? = some d ∧ Rp K H x d
end
end DL
namespace DL
open PySem PySem.Spec PyProof.Rows L2 Evl
variable [CTab]
/-- in its place, or at the end -/
def putN (xs : List Ent) (k : NestedKey) (b : Addr) (v : V) : List Ent :=
  if ((pn xs).any fun kv => decide (kv.1 = k)) = true then xs.map (fun x => if x.1 = k then (x.1, x.2.1, v) else x) else xs ++ [(k, b, v)]
theorem pn_put (xs : List Ent) (k : NestedKey) (b : Addr) (v : V) : pn (putN xs k b v) = putK (pn xs) k v := by
  unfold putN putK
  by_cases c : ((pn xs).any fun kv => decide (kv.1 = k)) = true
  · rw [if_pos c, if_pos c]
    unfold pn
    rw [List.map_map, List.map_map]
    refine List.map_congr_left fun x _ => ?_
    by_cases e : x.1 = k <;> simp [e]
  · rw [if_neg c, if_neg c]
    unfold pn
    rw [List.map_append]
    rfl
theorem pn_len (xs : List Ent) : (pn xs).length = xs.length := by unfold pn; rw [List.length_map]
theorem putN_len (xs : List Ent) (k : NestedKey) (b : Addr) (v : V) : (putN xs k b v).length ≤ xs.length + 1 := by
  rw [← pn_len, pn_put, ← pn_len]
  exact length_putK _ _ _
theorem kv_pn {xs : List Ent} {ys : List (NestedKey × Addr × Value)} (r : Paired RelE xs ys) : KV (pn xs) (pairsH ys) := by
  unfold KV
  induction r with
  | nil => exact .nil
  | cons h _ ih => exact .cons ⟨h.1, h.2.2⟩ ih
theorem relE_put {xs : List Ent} {ys : List (NestedKey × Addr × Value)} (r : Paired RelE xs ys) (k : NestedKey) (b : Addr) {v : V} {u : Value} (rv : RelV v u) : Paired RelE (putN xs k b v) (storedH ys k b u) := by
  have e : ((pn xs).any fun kv => decide (kv.1 = k)) = (atKey ys k).isSome := by
    rw [(kv_pn r).any k, any_pairsH]
  unfold putN storedH
  rw [e]
  by_cases q : (atKey ys k).isSome = true
  · rw [if_pos q, if_pos q]
    clear e q
    induction r with
    | nil => exact .nil
    | @cons x y xs ys h _ ih =>
      rw [List.map_cons, List.map_cons]
      refine .cons ?_ ih
      unfold putAt
      by_cases e : x.1 = k
      · rw [if_pos e, if_pos (h.1.symm.trans e)]
        exact ⟨h.1, h.2.1, rv⟩
      · rw [if_neg e, if_neg fun z => e (h.1.trans z)]
        exact h
  · rw [if_neg q, if_neg q]
    exact Paired.snoc r ⟨rfl, rfl, rv⟩
theorem relE_get {xs : List Ent} {ys : List (NestedKey × Addr × Value)} (r : Paired RelE xs ys) : ∀ {i : Nat} {y : NestedKey × Addr × Value}, ys[i]? = some y → ∃ x, xs[i]? = some x ∧ RelE x y := by
  induction r with
  | nil => intro i y h; simp at h
  | @cons x0 y0 xs ys h _ ih =>
    intro i y e
    cases i with
    | zero => cases Option.some.inj e; exact ⟨_, rfl, h⟩
    | succ i =>
      obtain ⟨x, h1, h2⟩ := ih (i := i) (by simpa using e)
      exact ⟨x, by simpa using h1, h2⟩
theorem relE_get' {xs : List Ent} {ys : List (NestedKey × Addr × Value)} (r : Paired RelE xs ys) : ∀ {i : Nat} {x : Ent}, xs[i]? = some x → ∃ y, ys[i]? = some y ∧ RelE x y := by
  induction r with
  | nil => intro i y h; simp at h
  | @cons x0 y0 xs ys h _ ih =>
    intro i y e
    cases i with
    | zero => cases Option.some.inj e; exact ⟨_, rfl, h⟩
    | succ i =>
      obtain ⟨x, h1, h2⟩ := ih (i := i) (by simpa using e)
      exact ⟨x, by simpa using h1, h2⟩
theorem relE_keys {xs : List Ent} {ys : List (NestedKey × Addr × Value)} (r : Paired RelE xs ys) : xs.map (·.1) = ys.map (·.1) := by
  induction r with
  | nil => rfl
  | cons h _ ih => rw [List.map_cons, List.map_cons, h.1, ih]
theorem putN_mem {xs : List Ent} {k : NestedKey} {b : Addr} {v : V} {x : Ent} (h : x ∈ putN xs k b v) : (∃ y ∈ xs, x.1 = y.1 ∧ x.2.1 = y.2.1) ∨ (x.1 = k ∧ x.2.1 = b) := by
  unfold putN at h
  split at h
  · obtain ⟨y, hy, rfl⟩ := List.mem_map.mp h
    refine .inl ⟨y, hy, ?_⟩
    by_cases e : y.1 = k
    · rw [if_pos e]; exact ⟨rfl, rfl⟩
    · rw [if_neg e]; exact ⟨rfl, rfl⟩
  · rcases List.mem_append.mp h with h | h
    · exact .inl ⟨x, h, rfl, rfl⟩
    · rw [List.mem_singleton.mp h]
      exact .inr ⟨rfl, rfl⟩
theorem KeysAt.put {K : PySem.W.Frag} {H : Hp} {xs : List Ent} {k : NestedKey} {b : Addr} {v : V} (h : KeysAt K H xs) (hk : KeyAt K H k (.ref b)) : KeysAt K H (putN xs k b v) := fun x hx => by
  rcases putN_mem hx with ⟨y, hy, e1, e2⟩ | ⟨e1, e2⟩
  · rw [e1, e2]; exact h y hy
  · rw [e1, e2]; exact hk
theorem KeysAt.nil {K : PySem.W.Frag} {H : Hp} : KeysAt K H [] := fun _ h => nomatch h
section
variable {X : Cx} {pins : List (Addr × Obj)} {σ : L2.St} {H : Hp} {s : Shared} {a b : Addr} {xs : List Ent}
mutual
theorem KeyAt.is (I : Inv X pins σ H s) : ∀ {k : NestedKey} {v : V} {u : Value}, KeyAt X.K H k v → RelV v u → NestedIs s.heap k u
  | _, _, _, .non, r => by
    cases (show _ = Value.none from r)
    exact .none
  | _, _, _, .int i, r => by
    obtain ⟨t, rfl⟩ := (show ∃ t, _ = Value.int i t from r)
    exact .int i t
  | _, _, _, .str x, r => by
    obtain ⟨t, rfl⟩ := (show ∃ t, _ = Value.str x t from r)
    exact .text x t
  | _, _, _, .tup (a := a) h q, r => by
    cases (show _ = Value.ref a from r)
    obtain ⟨its, rv, ⟨o, ho, hc, n, hd⟩, _⟩ := I.tuple h.sq
    exact .tup ho hc hd (KeyAll.is I q rv)
theorem KeyAll.is (I : Inv X pins σ H s) : ∀ {ks : List NestedKey} {vs : List V} {us : List Value}, KeyAll X.K H ks vs → Vals vs us → NestedAll s.heap ks us
  | _, _, _, .nil, r => by cases r; exact .nil
  | _, _, _, .cons h q, r => by
    cases r with
    | cons r1 r => exact .cons (KeyAt.is I h r1) (KeyAll.is I q r)
end
theorem dno_dict {w : World} (I : Inv X pins σ H s) (hw : X.w = w) {o : Obj} (ho : s.heap.get? a = some o) (d : DNo w o xs) (hk : KeysAt X.K H xs) : ∃ ys, Paired RelE xs ys ∧ s.heap.DictOfH (nestedKind X.prog X.w) a ys := by
  subst hw
  obtain ⟨es, ep, ys, h1, h2, h3⟩ := d.dat
  refine ⟨ys, h3, o, es, ep, ho, d.ex, h1, h2, fun y hy => ?_, by rw [← relE_keys h3]; exact d.nd⟩
  obtain ⟨i, hi⟩ := List.mem_iff_getElem?.mp hy
  obtain ⟨x, hx, r⟩ := relE_get h3 hi
  have hm := List.mem_of_getElem? hx
  refine ⟨?_, by rw [← r.1]; exact d.dep x hm⟩
  rw [← r.1, ← r.2.1]
  exact KeyAt.is I (hk x hm) rfl
theorem dno_of {P : Program} {w : World} {h : Heap} {ys : List (NestedKey × Addr × Value)} (r : Paired RelE xs ys) (hz : xs.length ≤ sizeLine) (hd : ∀ x ∈ xs, x.1.depth ≤ 8) (d : h.DictOfH (nestedKind P w) a ys) : ∃ o, h.get? a = some o ∧ DNo w o xs := by
  obtain ⟨o, es, ep, h1, h2, h3, h4, _, h6⟩ := d
  exact ⟨o, h1, h2, hz, hd, by rw [relE_keys r]; exact h6, es, ep, ys, h3, h4, r⟩
theorem dnx_ok {P : Program} {w' w : World} {H : Hp} {h : Heap} (e : (a == sysModules) = false ∧ ∃ o, h.get? a = some o ∧ DNo w o xs) : ObjOk P w' H h a (dNX w a xs) :=
  ⟨e, let ⟨_, o, e, _⟩ := e; ⟨o, e⟩, fun _ _ ⟨n, o, e, d⟩ k => ⟨n, o, k o e, d⟩⟩
/-- what is there, read -/
theorem dn_at {w : World} (I : Inv X pins σ H s) (f : Rd H a (dNX w a xs)) : (a == sysModules) = false ∧ ∃ o, s.heap.get? a = some o ∧ DNo w o xs := by
  obtain ⟨h, _, _⟩ := f.ok I.hok
  exact h
theorem dn_raw {w : World} (I : Inv X pins σ H s) (f : Rd H a (dNX w a xs)) : (a == sysModules) = false ∧ xs.length ≤ sizeLine ∧ ∃ es ep ys, s.heap.DictRaw a es ep ∧ es.toList = ys.map (entN w) ∧ Paired RelE xs ys := by
  obtain ⟨h1, o, h2, d⟩ := dn_at I f
  obtain ⟨es, ep, ys, h3, h4, h5⟩ := d.dat
  exact ⟨h1, d.len, es, ep, ys, ⟨o, h2, d.ex, h3⟩, h4, h5⟩
theorem dn_dict {w : World} (hw : X.w = w) (I : Inv X pins σ H s) (f : Rd H a (dNX w a xs)) (hk : KeysAt X.K H xs) : (a == sysModules) = false ∧ xs.length ≤ sizeLine ∧ (∀ x ∈ xs, x.1.depth ≤ 8) ∧ ∃ ys, Paired RelE xs ys ∧ s.heap.DictOfH (nestedKind X.prog X.w) a ys := by
  obtain ⟨h1, o, h2, d⟩ := dn_at I f
  exact ⟨h1, d.len, d.dep, dno_dict I hw h2 d hk⟩
theorem putN_dep {xs : List Ent} {k : NestedKey} {b : Addr} {v : V} (h : ∀ x ∈ xs, x.1.depth ≤ 8) (hk : k.depth ≤ 8) : ∀ x ∈ putN xs k b v, x.1.depth ≤ 8 := fun x hx => by
  rcases putN_mem hx with ⟨y, hy, e1, _⟩ | ⟨e1, _⟩
  · rw [e1]; exact h y hy
  · rw [e1]; exact hk
end
mutual
def nkT : PyData → Option NestedKey
  | .none => some .none
  | .int i => some (.num i)
  | .str s => some (.text s)
  | .tuple ds => match nkTs ds with
    | some ks => some (.tup ks)
    | none => none
  | .bool _ => none
  | .list _ => none
  | .dict _ => none
def nkTs : List PyData → Option (List NestedKey)
  | [] => some []
  | d :: ds => match nkT d, nkTs ds with
    | some k, some ks => some (k :: ks)
    | _, _ => none
end
mutual
theorem nkT_eq : ∀ {d : PyData} {k : NestedKey}, nkT d = some k → d = k.data
  | .none, _, h => by cases h; rfl
  | .int i, _, h => by cases h; rfl
  | .str i, _, h => by cases h; rfl
  | .tuple ds, k, h => by
    unfold nkT at h
    cases e : nkTs ds with
    | none => rw [e] at h; cases h
    | some ks =>
      rw [e] at h
      cases h
      show PyData.tuple ds = .tuple (NestedKey.datas ks)
      rw [nkTs_eq e]
  | .bool _, _, h => by cases h
  | .list _, _, h => by cases h
  | .dict _, _, h => by cases h
theorem nkTs_eq : ∀ {ds : List PyData} {ks : List NestedKey}, nkTs ds = some ks → ds = NestedKey.datas ks
  | [], _, h => by cases h; rfl
  | d :: ds, _, h => by
    unfold nkTs at h
    cases e1 : nkT d with
    | none => rw [e1] at h; cases h
    | some k =>
      cases e2 : nkTs ds with
      | none => rw [e1, e2] at h; cases h
      | some r =>
        rw [e1, e2] at h
        cases h
        show d :: ds = k.data :: NestedKey.datas r
        rw [nkT_eq e1, nkTs_eq e2]
end
mutual
theorem nkT_data : ∀ k : NestedKey, nkT k.data = some k
  | .none => rfl
  | .num _ => rfl
  | .text _ => rfl
  | .tup ks => by
    show nkT (.tuple (NestedKey.datas ks)) = _
    unfold nkT
    rw [nkTs_data ks]
theorem nkTs_data : ∀ ks : List NestedKey, nkTs (NestedKey.datas ks) = some ks
  | [] => rfl
  | k :: ks => by
    show nkTs (k.data :: NestedKey.datas ks) = _
    unfold nkTs
    rw [nkT_data k, nkTs_data ks]
end
mutual
theorem eqv_nk : ∀ a b : NestedKey, PyData.eqv a.data b.data = NestedKey.beq a b
  | .none, .none => by simp [NestedKey.data, PyData.eqv, NestedKey.beq]
  | .none, .num _ => by simp [NestedKey.data, PyData.eqv, NestedKey.beq]
  | .none, .text _ => by simp [NestedKey.data, PyData.eqv, NestedKey.beq]
  | .none, .tup _ => by simp [NestedKey.data, PyData.eqv, NestedKey.beq]
  | .num _, .none => by simp [NestedKey.data, PyData.eqv, NestedKey.beq]
  | .num a, .num b => by
    simp [NestedKey.data, PyData.eqv, NestedKey.beq]
    rw [Bool.eq_iff_iff]
    simp
  | .num _, .text _ => by simp [NestedKey.data, PyData.eqv, NestedKey.beq]
  | .num _, .tup _ => by simp [NestedKey.data, PyData.eqv, NestedKey.beq]
  | .text _, .none => by simp [NestedKey.data, PyData.eqv, NestedKey.beq]
  | .text _, .num _ => by simp [NestedKey.data, PyData.eqv, NestedKey.beq]
  | .text a, .text b => by
    simp [NestedKey.data, PyData.eqv, NestedKey.beq]
    rw [Bool.eq_iff_iff]
    simp
  | .text _, .tup _ => by simp [NestedKey.data, PyData.eqv, NestedKey.beq]
  | .tup _, .none => by simp [NestedKey.data, PyData.eqv, NestedKey.beq]
  | .tup _, .num _ => by simp [NestedKey.data, PyData.eqv, NestedKey.beq]
  | .tup _, .text _ => by simp [NestedKey.data, PyData.eqv, NestedKey.beq]
  | .tup a, .tup b => by
    show PyData.eqv (.tuple (NestedKey.datas a)) (.tuple (NestedKey.datas b)) = _
    rw [PyData.eqv, NestedKey.beq, eqv_nks a b]
theorem eqv_nks : ∀ a b : List NestedKey, PyData.eqvAll (NestedKey.datas a) (NestedKey.datas b) = NestedKey.beqAll a b
  | [], [] => by simp [NestedKey.datas, PyData.eqvAll, NestedKey.beqAll]
  | [], _ :: _ => by simp [NestedKey.datas, PyData.eqvAll, NestedKey.beqAll]
  | _ :: _, [] => by simp [NestedKey.datas, PyData.eqvAll, NestedKey.beqAll]
  | a :: as, b :: bs => by
    show PyData.eqvAll (a.data :: NestedKey.datas as) (b.data :: NestedKey.datas bs) = _
    rw [PyData.eqvAll, NestedKey.beqAll, eqv_nk a b, eqv_nks as bs]
end
theorem eqv_nkd (a b : NestedKey) : PyData.eqv a.data b.data = decide (a = b) := by rw [eqv_nk, NestedKey.decide_eq]
section
variable {K : PySem.W.Frag} {H : Hp}
mutual
theorem rp_keyAt : ∀ {k : NestedKey} {v : V}, Rp K H v k.data → KeyAt K H k v
  | .none, _, r => by cases r; exact .non
  | .num _, _, r => by cases r; exact .int _
  | .text _, _, r => by cases r; exact .str _
  | .tup ks, _, r => by
    have r : Rp K H _ (.tuple (NestedKey.datas ks)) := r
    cases r with
    | tup g r => exact .tup g (rp_keyAll r)
theorem rp_keyAll : ∀ {ks : List NestedKey} {vs : List V}, RpAll K H vs (NestedKey.datas ks) → KeyAll K H ks vs
  | [], _, r => by
    have r : RpAll K H _ [] := r
    cases r
    exact .nil
  | k :: ks, _, r => by
    have r : RpAll K H _ (k.data :: NestedKey.datas ks) := r
    cases r with
    | cons r1 r => exact .cons (rp_keyAt r1) (rp_keyAll r)
end
mutual
theorem keyAt_rp : ∀ {k : NestedKey} {v : V}, KeyAt K H k v → Rp K H v k.data
  | _, _, .non => .non
  | _, _, .int i => .int i
  | _, _, .str x => .str x
  | _, _, .tup h q => .tup h (keyAll_rp q)
theorem keyAll_rp : ∀ {ks : List NestedKey} {vs : List V}, KeyAll K H ks vs → RpAll K H vs (NestedKey.datas ks)
  | _, _, .nil => .nil
  | _, _, .cons h q => .cons (keyAt_rp h) (keyAll_rp q)
end
end
end DL
namespace DL
open PySem PySem.Spec PyProof.Rows L2 Evl
variable [CTab]
/-- as FnOk, where no guarded call is under way -/
structure FnG (P : Program) (w : World) (K : PySem.W.Frag) (mg : Str → Option Value) (base : Heap)
    (CX : CXT) (k : Nat) (f : Addr) (fd : FuncData) (ps : List Str) (sp : Sp) : Prop where
  many : ∀ vs H Q E, sp vs H Q E → vs.length = ps.length
  go : ∀ (A : Around) (outer : List Env) (s : Shared) (H : Hp) (args : Args) (us : List Value) (vs : List V) (Q : VK) (E : XK),
    A.guards = some [] → Room k A → Env0 P w K mg base A outer s H → BindsTo s fd args (ps.zip us) → Vals vs us → sp vs H Q E →
    codeAny (model P w) A (.call (.ref f) args) (CR CX outer P w H s Q E) s
section
variable {P : Program} {w : World} {K : PySem.W.Frag} {mg : Str → Option Value} {base : Heap} {CX : CXT}
theorem FnG.of {k : Nat} {f : Addr} {fd : FuncData} {ps : List Str} {sp : Sp} (F : FnOk P w K mg base CX k f fd ps sp) : FnG P w K mg base CX k f fd ps sp :=
  ⟨F.len, fun A outer s H args us vs Q E _ hr he hb hv hs => F.run A outer s H args us vs Q E hr he hb hv hs⟩
end
theorem lawG_from {P : Program} {w : World} {K : PySem.W.Frag} {mg mb : Str → Option Value} {k : Nat} {fa a : Addr} {fd : FuncData} {x : Str} {sp : Sp} {s1 : Shared} {vs : List Value} {H : Hp}
    (KX : K.In s1.heap) (gl : s1.heap.Ns mainGlobals mg) (bl : s1.heap.Ns builtinsNs mb) (bb : ∀ x : Str, x ≠ "__name__" → mb x = bootBuiltins x) (nol : s1.heap.NoLimit) (ge : s1.gens = #[])
    (ha : s1.heap.get? a = some { cls := .type "list", data := .seq vs.toArray }) (hr : Room k callerA)
    (F : ∀ base : Heap, K.In base → base.Ns mainGlobals mg → FnG P w K mg base CX0 k fa fd [x] sp) (hb : ∀ (s : Shared) (u : Value), BindsTo s fd ⟨[u], []⟩ [(x, u)])
    (hO : Only H) (ok : HOk P w H s1.heap) (at1 : ∀ b, H b ≠ none → b = a) (at2 : H a ≠ none → K.lookup a = none)
    (hs : sp [.ref a] H (fun v _ => v = .bl true) fun _ _ _ => False) :
    codeAny (model P w) callerA (.call (.ref fa) ⟨[.ref a], []⟩) (fun r s' => r = .ok (.ret (.bool true)) ∧ OldK s1.heap s'.heap ∧ s'.os = s1.os ∧ AllBare s'.gens) s1 := by
  have no1 : ∀ {b : Addr} {u : HO}, H b = some u → b = a := fun {b u} q => at1 b (by rw [q]; exact fun z => nomatch z)
  have keepNs : ∀ {b : Addr} {m : Str → Option Value}, s1.heap.Ns b m → (hidT s1.heap H).Ns b m := by
    rintro b m ⟨o, es, ep, e, d, r⟩
    refine ⟨o, es, ep, hidT_get e ?_, d, r⟩
    cases q : H b with
    | none => rfl
    | some u =>
      obtain rfl := no1 q
      rw [ha] at e
      cases e
      exact nomatch (show Data.seq vs.toArray _ = Data.dict es ep from d)
  have keepK : K.In (hidT s1.heap H) := by
    intro b o e
    refine hidT_get (KX b o e) ?_
    cases q : H b with
    | none => rfl
    | some u =>
      obtain rfl := no1 q
      rw [at2 (by rw [q]; exact fun z => nomatch z)] at e
      cases e
  have md : Mod K mg (hidT s1.heap H) := by
    obtain ⟨mc, n1, n2⟩ := nol
    exact ⟨keepK, keepNs gl, ⟨mb, keepNs bl, bb⟩, ⟨mc, keepNs n1, n2⟩⟩
  have en : Env0 P w K mg (hidT s1.heap H) callerA [] s1 H :=
    ⟨rfl, md, fun b o e => of_hidT e, Nat.le_of_eq (hidT_size _ _), trivial, (fun b hb => absurd (show b ∈ ([] : List Addr) from hb) (List.not_mem_nil)), ok, AllBare.of_eq ge⟩
  refine codeAny_mono ((F _ keepK (keepNs gl)).go callerA [] s1 H ⟨[.ref a], []⟩ [.ref a] [.ref a] _ _ rfl hr en (hb s1 (.ref a)) (.cons rfl .nil) hs) ?_
  intro res s' h
  match res, h with
  | .error e, h => exact h.elim
  | .ok (.ret u), h =>
    obtain ⟨v, H', os, bare, un, ok', r', q⟩ := h
    obtain rfl : v = V.bl true := q
    obtain rfl : u = Value.bool true := r'
    refine ⟨rfl, OldK.of_keep ?_, os, bare⟩
    intro b o e
    cases q : H b with
    | none => exact un.keep b o e q (fun z => absurd (show b ∈ ([] : List Addr) from z) (List.not_mem_nil)) (List.not_mem_nil)
    | some u =>
      cases hO b with
      | inl z => rw [q] at z; cases z
      | inr z =>
        obtain ⟨ob, xs, z⟩ := z
        have e1 := (ok b _ z).1
        have e2 := (ok' b _ (un.frzs b ob _ z)).1
        rw [e] at e1
        cases e1
        exact e2
theorem lawG {P : Program} {w : World} {K : PySem.W.Frag} {mg mb : Str → Option Value} {k : Nat} {fa a : Addr} {fd : FuncData} {x : Str} {sp : Sp} {s1 : Shared} {vs : List Value} {ns : List Int}
    (KX : K.In s1.heap) (gl : s1.heap.Ns mainGlobals mg) (bl : s1.heap.Ns builtinsNs mb) (bb : ∀ x : Str, x ≠ "__name__" → mb x = bootBuiltins x) (nol : s1.heap.NoLimit) (ge : s1.gens = #[])
    (ha : s1.heap.get? a = some { cls := .type "list", data := .seq vs.toArray }) (hi : IntsAre vs ns) (hl : ns.length ≤ sizeLine) (hr : Room k callerA)
    (F : ∀ base : Heap, K.In base → base.Ns mainGlobals mg → FnG P w K mg base CX0 k fa fd [x] sp) (hb : ∀ (s : Shared) (u : Value), BindsTo s fd ⟨[u], []⟩ [(x, u)])
    (hs : ∀ H : Hp, Only H → SqL K H a (ns.map V.int) → sp [.ref a] H (fun v _ => v = .bl true) fun _ _ _ => False) :
    codeAny (model P w) callerA (.call (.ref fa) ⟨[.ref a], []⟩) (fun r s' => r = .ok (.ret (.bool true)) ∧ OldK s1.heap s'.heap ∧ s'.os = s1.os ∧ AllBare s'.gens) s1 := by
  cases hk : K.lookup a with
  | some o =>
    have e := KX a o hk
    rw [ha] at e
    cases e
    refine lawG_from (H := fun _ => none) KX gl bl bb nol ge ha hr F hb (fun _ => .inl rfl) (fun b u z => by cases (show (none : Option HO) = some u from z)) (fun b z => absurd rfl z) (fun z => absurd rfl z) (hs _ (fun _ => .inl rfl) ?_)
    exact .inr ⟨_, vs.toArray, _, hk, rfl, rfl, rfl, by rw [List.size_toArray, hi.length]; exact hl, by simpa using vals_ints hi⟩
  | none =>
    let scr : HO := .frz { cls := .type "list", data := .seq vs.toArray } (.lst (ns.map V.int))
    let H0 : Hp := fun b => if b = a then some scr else none
    have h1 : H0 a = some scr := if_pos rfl
    have h0 : ∀ b, b ≠ a → H0 b = none := fun b n => if_neg n
    have only : Only H0 := fun b => by
      by_cases q : b = a
      · exact .inr ⟨_, _, by rw [q]; exact h1⟩
      · exact .inl (h0 b q)
    refine lawG_from (H := H0) KX gl bl bb nol ge ha hr F hb only (fun b u z => ?_) (fun b z => ?_) (fun _ => hk) (hs _ only (.inl (.inr ⟨_, h1⟩)))
    · by_cases q : b = a
      · subst q
        rw [h1] at z
        cases z
        exact ⟨ha, by rw [List.length_map]; exact hl, vs, _, vals_ints hi, ha⟩
      · rw [h0 b q] at z
        cases z
    · by_cases q : b = a
      · exact q
      · exact absurd (h0 b q) z
theorem walkG {l : PySem.W.OpenLaw} {n k : Nat} {q : Program} {loose : List Str} {XP : (Str → Option Value) → Heap → Prop} {YP : World → Heap → Prop} {d : DefRec} {K : Params → PySem.W.Frag} {sp : World → Sp} {x : Str}
    (hn : l.most = some n) (hn2 : n ≤ sizeLine) (hdf : d.params.defaults = []) (hr : Room k callerA)
    (hY : ∀ (w : World) (h : Heap), YP w h → (K w.params).In h)
    (F : ∀ (w : World) (mg : Str → Option Value) (fa : Addr) (h : Heap), (K w.params).In h → h.Ns mainGlobals mg → mg d.name = some (.ref fa) →
      ∃ fd : FuncData, (∀ (s : Shared) (u : Value), BindsTo s fd ⟨[u], []⟩ [(x, u)]) ∧
        ∀ base : Heap, (K w.params).In base → base.Ns mainGlobals mg → FnG l.prog w (K w.params) mg base CX0 k fa fd [x] (sp w))
    (hs : ∀ (w : World) (H : Hp) (a : Addr) (ns : List Int), ns.length ≤ n → Only H → SqL (K w.params) H a (ns.map V.int) → sp w [.ref a] H (fun v _ => v = .bl true) fun _ _ _ => False) :
    PySem.W.WalkO q loose XP YP l.row.toRowW d [] (fun f vs => PySem.call f vs) := by
  refine Att.attach_call hn hdf fun w s0 s1 mg mb fa o pm cd doc a vs ns G Y ho hd hcd hmg hobj hints hlen hg => ?_
  obtain ⟨fd, hb, hF⟩ := F w mg fa _ (hY w _ Y) G.T.g hmg
  exact lawG (hY w _ Y) G.T.g G.T.b G.T.builtins G.T.nolimit hg hobj hints (Nat.le_trans hlen hn2) hr hF hb fun H hO hS => hs w H a ns hlen hO hS
end DL
namespace DL
open PySem PySem.Spec PyProof.Rows L2 Evl
variable [CTab]
theorem opOr {X : Cx} {f : Value → Value → Sem Value} {r r' : R2} (h : OpR X f r) (h' : OpR X f r') : OpR X f (fun x y H Q => r x y H Q ∨ r' x y H Q) := by
  intro pins s σ H x y v u Q I rx ry q
  cases q with
  | inl q => exact h pins s σ H x y v u Q I rx ry q
  | inr q => exact h' pins s σ H x y v u Q I rx ry q
def rAddS : R2 := fun x y H Q => ∃ i j, x = .str i ∧ y = .str j ∧ i.length + j.length ≤ sizeLine ∧ Q (.str (i ++ j)) H
def rAddU (K : PySem.W.Frag) : R2 := fun x y H Q => rI0 (fun i j => .int (i + j)) x y H Q ∨ rAddS x y H Q ∨ rCat x y H Q ∨ rCatA K x y H Q
theorem opAdd {X : Cx} : OpR X (binaryOp .Add) (rAddU X.K) := opOr op_add (opOr op_add_str (opOr op_cat op_catA))
def rMulI : R2 := rI IntMulOk fun i j => .int (i * j)
theorem op_mulA {X : Cx} : OpR X (binaryOp .Mult) rMulI := opI fun _ _ _ _ _ _ _ hc q => mul_int q hc
def rMulU (K : PySem.W.Frag) : R2 := fun x y H Q => rMulI x y H Q ∨ rRep x y H Q ∨ rRepT K x y H Q
theorem opMul {X : Cx} : OpR X (binaryOp .Mult) (rMulU X.K) := opOr op_mulA (opOr op_rep op_repT)
def CPowW (i j : Int) : Prop := 0 ≤ j ∧ (Builtin.Int.intBits i : Int) * j ≤ 2 ^ 27
def rPowW : R2 := rI CPowW fun i j => .int (i ^ j.toNat)
theorem op_powW {X : Cx} : OpR X (binaryOp .Pow) rPowW := opI fun _ _ _ _ _ _ _ hc q => pow_int hc.1 hc.2 q
def rLtU : R2 := fun x y H Q => rI0 (fun i j => .bl (decide (i < j))) x y H Q ∨ rLtS x y H Q
theorem opLt {X : Cx} : OpR X (compareOp .Lt) rLtU := opOr op_lt op_lt_str
def rGtS : R2 := fun x y H Q => ∃ i j, x = .str i ∧ y = .str j ∧ Q (.bl (decide (j.cps.toList < i.cps.toList))) H
def rGtU : R2 := fun x y H Q => rI0 (fun i j => .bl (decide (j < i))) x y H Q ∨ rGtS x y H Q
theorem opGt {X : Cx} : OpR X (compareOp .Gt) rGtU := opOr op_gt op_gt_str
def rLeS : R2 := fun x y H Q => ∃ i j, x = .str i ∧ y = .str j ∧ Q (.bl (!decide (j.cps.toList < i.cps.toList))) H
def rLeU : R2 := fun x y H Q => rI0 (fun i j => .bl (decide (i ≤ j))) x y H Q ∨ rLeS x y H Q
theorem opLe {X : Cx} : OpR X (compareOp .LtE) rLeU := opOr op_le op_le_str
def rInU (K : PySem.W.Frag) : R2 := fun x y H Q => rInS x y H Q ∨ rIn K false x y H Q ∨ rInD K x y H Q
theorem opIn {X : Cx} (hu : X.A.units + 65 < cLine) : OpR X (compareOp .In) (rInU X.K) := opOr op_inS (opOr op_in_seq (op_inD hu))
def rSlU (K : PySem.W.Frag) : V → Option Int → Option Int → Hp → VK → Prop := fun x lo hi H Q => rSlL K x lo hi H Q ∨ rSlA K x lo hi H Q ∨ rSlS x lo hi H Q
theorem slU {X : Cx} : L2.SlR X (rSlU X.K) := SlR.or sl_list (SlR.or sl_tupA sl_str)
section
variable {K : PySem.W.Frag} {d1 d2 : PyData} {P : PyData → Prop}
theorem RD.l {r r' : R2} (h : RD K r d1 d2 P) : RD K (fun x y H Q => r x y H Q ∨ r' x y H Q) d1 d2 P := fun v1 v2 H H1 e r1 r2 Q q => .inl (h v1 v2 H H1 e r1 r2 Q q)
theorem RD.r {r r' : R2} (h : RD K r' d1 d2 P) : RD K (fun x y H Q => r x y H Q ∨ r' x y H Q) d1 d2 P := fun v1 v2 H H1 e r1 r2 Q q => .inr (h v1 v2 H H1 e r1 r2 Q q)
theorem rd_add {i j : Int} : RD K (rAddU K) (.int i) (.int j) (· = .int (i + j)) := rd_I0.l
theorem rd_addS {i j : Str} (h : i.length + j.length ≤ 100000) : RD K (rAddU K) (.str i) (.str j) (· = .str (i ++ j)) := RD.r (RD.l fun v1 v2 H H1 e r1 r2 Q q => by
  cases r1; cases r2
  exact ⟨i, j, rfl, rfl, sz_of h, q _ _ H H1 (Grow.refl e) (.str _) rfl⟩)
theorem rd_addT {xs ys : List PyData} (h : xs.length + ys.length ≤ 100000) : RD K (rAddU K) (.tuple xs) (.tuple ys) (· = .tuple (xs ++ ys)) := RD.r (RD.r (RD.r fun v1 v2 H H1 e r1 r2 Q q => by
  cases r1 with
  | tup h1 r1 =>
    cases r2 with
    | tup h2 r2 =>
      refine ⟨_, _, _, _, rfl, rfl, ex_tp e h1, ex_tp e h2, ?_, ?_⟩
      · rw [r1.len, r2.len]; exact sz_of h
      · refine ⟨fun e1 => ?_, fun _ e1 => ?_, fun _ _ p hp => ?_⟩
        · subst e1
          have := r1.len
          have e0 : xs = [] := List.length_eq_zero_iff.mp this.symm
          subst e0
          exact q _ _ H H1 (Grow.refl e) (.tup h2 r2) rfl
        · subst e1
          have e0 : ys = [] := List.length_eq_zero_iff.mp r2.len.symm
          subst e0
          exact q _ _ H H1 (Grow.refl e) (.tup h1 r1) (by rw [List.append_nil])
        · exact q _ _ _ _ (Grow.new e hp _) (.tup (.inl upd_same) ((r1.append r2).mono (Grow.new e hp _).known)) rfl))
theorem rd_mul {i j : Int} (h : IntMulOk i j) : RD K (rMulU K) (.int i) (.int j) (· = .int (i * j)) := (rd_I h).l
theorem rd_pow {i j : Int} (h : CPowW i j) : RD K rPowW (.int i) (.int j) (· = .int (i ^ j.toNat)) := rd_I h
theorem rd_lt {i j : Int} : RD K rLtU (.int i) (.int j) (· = .bool (decide (i < j))) := rd_B0.l
theorem rd_gt {i j : Int} : RD K rGtU (.int i) (.int j) (· = .bool (decide (j < i))) := rd_B0.l
theorem rd_le {i j : Int} : RD K rLeU (.int i) (.int j) (· = .bool (decide (i ≤ j))) := rd_B0.l
theorem rd_ltT {i j : Str} : RD K rLtU (.str i) (.str j) (· = .bool (decide (i.cps.toList < j.cps.toList))) := RD.r rd_ltS
theorem rd_gtT {i j : Str} : RD K rGtU (.str i) (.str j) (· = .bool (decide (j.cps.toList < i.cps.toList))) := RD.r fun v1 v2 H H1 e r1 r2 Q q => by
  cases r1; cases r2; exact ⟨i, j, rfl, rfl, q _ _ H H1 (Grow.refl e) (.bl _) rfl⟩
theorem rd_leT {i j : Str} : RD K rLeU (.str i) (.str j) (· = .bool (!decide (j.cps.toList < i.cps.toList))) := RD.r fun v1 v2 H H1 e r1 r2 Q q => by
  cases r1; cases r2; exact ⟨i, j, rfl, rfl, q _ _ H H1 (Grow.refl e) (.bl _) rfl⟩
theorem rd_inSign {c : Nat} {z : Str} : RD K (rInU K) (.str ⟨#[c]⟩) (.str z) (· = .bool (decide (c ∈ z.cps.toList))) := rd_inS.l
def flatD : PyData → Bool
  | .none => true
  | .bool _ => true
  | .int _ => true
  | .str _ => true
  | _ => false
theorem flat_of {H : Hp} {v : V} {d : PyData} (r : Rp K H v d) (h : flatD d = true) : flatV v = true := by
  cases r <;> first | rfl | cases h
theorem eqV_of {H : Hp} {v w : V} {d e : PyData} (r : Rp K H v d) (q : Rp K H w e) (h : flatD d = true) (g : flatD e = true) : eqV v w = PyData.eqv d e := by
  cases r <;> cases q <;> first | rfl | cases h | cases g | (simp [eqV, PyData.eqv])
theorem flats_of {H : Hp} : ∀ {vs : List V} {ds : List PyData}, RpAll K H vs ds → ds.all flatD = true → vs.all flatV = true
  | _, _, .nil, _ => rfl
  | _, _, .cons h r, g => by
    simp only [List.all_cons, Bool.and_eq_true] at g ⊢
    exact ⟨flat_of h g.1, flats_of r g.2⟩
theorem inV_of {H : Hp} {v : V} {d : PyData} (q : Rp K H v d) (hd : flatD d = true) : ∀ {vs : List V} {ds : List PyData}, RpAll K H vs ds → ds.all flatD = true → inV v vs = ds.any fun y => PyData.eqv y d
  | _, _, .nil, _ => rfl
  | _, _, .cons h r, g => by
    simp only [List.all_cons, Bool.and_eq_true] at g
    have ih := inV_of q hd r g.2
    unfold inV at ih ⊢
    rw [List.any_cons, List.any_cons, ih, eqV_of h q g.1 hd]
theorem rd_inFlat {ds : List PyData} (hy : d2 = .list ds ∨ d2 = .tuple ds) (h : flatD d1 = true) (g : ds.all flatD = true) : RD K (rInU K) d1 d2 (· = .bool (ds.any fun y => PyData.eqv y d1)) := RD.r (RD.l fun v1 v2 H H1 e r1 r2 Q q => by
  rcases hy with rfl | rfl
  · cases r2 with
    | @lst a xs _ h2 r2 =>
      refine ⟨a, xs, rfl, .inl (ex_l e h2), flat_of r1 h, flats_of r2 g, ?_⟩
      exact q _ _ H H1 (Grow.refl e) (.bl _) (by rw [if_neg Bool.false_ne_true, inV_of r1 h r2 g])
  · cases r2 with
    | @tup a xs _ h2 r2 =>
      refine ⟨a, xs, rfl, .inr (ex_tp e h2), flat_of r1 h, flats_of r2 g, ?_⟩
      exact q _ _ H H1 (Grow.refl e) (.bl _) (by rw [if_neg Bool.false_ne_true, inV_of r1 h r2 g]))
end
section
variable {K : PySem.W.Frag} {σ : L2.St} {H : Hp} {te : TE}
theorem evd_sl {lo hi : TO} {l u : Option Int} {d : PyData} {f : PyData → PyData} {ds : List PyData} (h : EvD K te σ H d) (hd : (d = .list ds ∧ f = fun _ => .list (cutG ds l u)) ∨ (d = .tuple ds ∧ f = fun _ => .tuple (cutG ds l u))) (h1 : EvO lo σ H l) (h2 : EvO hi σ H u) :
    EvD K (tSl (rSlU K) te lo hi) σ H (f d) := by
  intro H1 e Q q
  refine h H1 e _ fun v _ Hk2 H2 g2 r2 p2 => ?_
  refine h1 H2 (e.trans g2.all) _ fun H3 e3 => ?_
  refine h2 H3 ((e.trans g2.all).trans e3) _ fun H4 e4 => ?_
  have g3 : Grow Hk2 H2 Hk2 H4 := ⟨Ex.refl _, g2.sub.trans (e3.trans e4), e3.trans e4, fun p o h n _ => by rw [h] at n; cases n⟩
  subst p2
  rcases hd with ⟨rfl, rfl⟩ | ⟨rfl, rfl⟩
  · cases r2 with
    | @lst a xs _ g r =>
      refine .inl ⟨_, _, rfl, ex_l g3.sub g, fun p hp => ?_⟩
      have g4 := Grow.new g3.sub hp (.lst (cutV xs l u))
      exact q _ _ _ _ ((g2.trans g3).trans g4) (.lst (sq_of upd_same) ((r.mono g4.known).cut l u)) rfl
  · cases r2 with
    | @tup a xs _ g r =>
      refine .inr (.inl ⟨_, _, rfl, ex_tp g3.sub g, fun hw => ?_, fun _ p hp => ?_⟩)
      · refine q _ _ _ _ (g2.trans g3) (.tup g ?_) rfl
        have c := r.cut l u
        rw [cutV_all _ l u hw] at c
        exact c
      · have g4 := Grow.new g3.sub hp (.tup (cutV xs l u))
        exact q _ _ _ _ ((g2.trans g3).trans g4) (.tup (.inl upd_same) ((r.mono g4.known).cut l u)) rfl
end
/-- a list of three numbers, whichever -/
def BagO (b : Addr) : HO := .ext fun h => ∃ (x y z : Int) (t u v : Tok) (n : Nat), h.get? b = some { cls := .type "list", data := .seq #[.int x t, .int y u, .int z v] n }
abbrev three (x y z : Int) : HO := .lst [.int x, .int y, .int z]
section
variable {X : Cx} {pins : List (Addr × Obj)} {σ : L2.St} {H : Hp} {s : Shared} {b : Addr}
theorem bag_open (I : Inv X pins σ H s) (hb : H b = some (BagO b)) : ∃ x y z, Inv X pins σ (upd H b (three x y z)) s := by
  obtain ⟨⟨x, y, z, t, u, v, n, e⟩, _⟩ := (show ObjOk X.prog X.w H s.heap b (BagO b) from I.hok b _ hb)
  refine ⟨x, y, z, ?_⟩
  have hm : Mut (H b) := by rw [hb]; trivial
  exact I.write (x := b) (e := b) (h' := s.heap) (t' := s.toks) hm (.inl rfl) (fun _ _ _ e => e) ⟨_, e⟩
    ⟨by show 3 ≤ sizeLine; decide, [.int x t, .int y u, .int z v], n, .cons ⟨t, rfl⟩ (.cons ⟨u, rfl⟩ (.cons ⟨v, rfl⟩ .nil)), e⟩
theorem bag_shut {x y z : Int} (I : Inv X pins σ H s) (hb : H b = some (three x y z)) : Inv X pins σ (upd H b (BagO b)) s := by
  obtain ⟨_, its, n, r, e⟩ := (show ObjOk X.prog X.w H s.heap b (three x y z) from I.hok b _ hb)
  have hm : Mut (H b) := by rw [hb]; trivial
  refine I.write (x := b) (e := b) (h' := s.heap) (t' := s.toks) hm (.inl rfl) (fun _ _ _ e => e) ⟨_, e⟩ ⟨?_, ⟨_, e⟩, ?_⟩
  · cases r with
    | cons r1 r =>
      cases r with
      | cons r2 r =>
        cases r with
        | cons r3 r =>
          cases r
          obtain ⟨t, rfl⟩ := r1
          obtain ⟨u, rfl⟩ := r2
          obtain ⟨v, rfl⟩ := r3
          exact ⟨x, y, z, t, u, v, n, e⟩
  · rintro h1 h2 ⟨x, y, z, t, u, v, n, e⟩ k
    exact ⟨x, y, z, t, u, v, n, k _ e⟩
end
def tBag (t : TS) : TS := fun D σ H => ∃ b, H b = some (BagO b) ∧ ∀ x y z, t ⟨
  fun σ' H' => ∃ x y z, H' b = some (three x y z) ∧ D.nx σ' (upd H' b (BagO b)), fun v H' => ∃ x y z, H' b = some (three x y z) ∧ D.rt v (upd H' b (BagO b)),
  fun σ' H' => ∃ x y z, H' b = some (three x y z) ∧ D.bk σ' (upd H' b (BagO b)), fun σ' H' => ∃ x y z, H' b = some (three x y z) ∧ D.ct σ' (upd H' b (BagO b))⟩ σ (upd H b (three x y z))
theorem pss_bag {X : Cx} {sts : List Stmt} {t : TS} (h : PSs X sts t) : PSs X sts (tBag t) := by
  constructor
  intro pins s σ H D I ht
  obtain ⟨b, hb, k⟩ := ht
  obtain ⟨x, y, z, I1⟩ := bag_open I hb
  refine thn (h.run pins s σ _ _ I1 (k x y z)) fun fl s1 q => ?_
  cases fl with
  | next =>
    obtain ⟨σ', H', J, x, y, z, e, q⟩ := q
    exact ⟨σ', _, bag_shut J e, q⟩
  | brk =>
    obtain ⟨σ', H', J, x, y, z, e, q⟩ := q
    exact ⟨σ', _, bag_shut J e, q⟩
  | cont =>
    obtain ⟨σ', H', J, x, y, z, e, q⟩ := q
    exact ⟨σ', _, bag_shut J e, q⟩
  | ret u =>
    obtain ⟨v, σ', H', J, r, x, y, z, e, q⟩ := q
    exact ⟨v, σ', _, bag_shut J e, r, q⟩
def tShut (t : TE) : TE := fun σ H Q => t σ H fun v H' => ∃ p x y z, v = .ref p ∧ H' p = some (three x y z) ∧ Q v (upd H' p (BagO p))
theorem pe_shut {X : Cx} {e : Expr} {t : TE} (h : PE X e t) : PE X e (tShut t) := by
  constructor
  intro pins s σ H Q I ht
  refine thn (h.run pins s σ H _ I ht) fun u s1 q => ?_
  obtain ⟨v, H', J, r, p, x, y, z, rfl, e, q⟩ := q
  exact ⟨_, _, bag_shut J e, r, q⟩
end DL
namespace DL
open PySem PySem.Spec PyProof.Rows L2 Evl
variable [CTab]
variable (K : PySem.W.Frag)
def spB1 (pre : PyData → Prop) (post : PyData → PyData → Prop) : Sp := fun vs H1 Q _ => ∃ H b v d, vs = [.ref b, v] ∧ Ex H H1 ∧ H b = some (BagO b) ∧ Rp K H v d ∧ pre d ∧ ∀ u z Hk H2, Grow H H1 Hk H2 → Rp K Hk u z → post d z → Q u H2
theorem hu65 {k : Nat} {A : Around} (hr : Room k A) : A.units + 65 < cLine := by
  have := hr.un
  omega
theorem hu64 {k : Nat} {A : Around} (hr : Room k A) : A.units + 64 < cLine := by
  have := hr.un
  omega
end DL
namespace DL
open PySem PySem.Spec PyProof.Rows L2 Evl
end DL
namespace DL
open PySem PySem.Spec PyProof.Rows L2 Evl
variable [CTab]
section
variable {K : PySem.W.Frag} {σ : L2.St} {H H1 : Hp} {te ta tb : TE} {tt : TT} {tu tw tz : TS} {P : PyData → Prop} {D : Ends} {i : Nat}
theorem st_set (h : EvP K te σ H P) (ex : Ex H H1) (k : ∀ v d Hk H2, Grow H H1 Hk H2 → Rp K Hk v d → P d → tz D (σ.set i (some v)) H2) : tSeq (tAsg te (gName i)) tz D σ H1 := h H1 ex _ k
theorem st_ret (h : EvP K te σ H P) (ex : Ex H H1) (k : ∀ v d Hk H2, Grow H H1 Hk H2 → Rp K Hk v d → P d → D.rt v H2) : tRet te D σ H1 := h H1 ex _ k
theorem st_if {b : Bool} (h : EvT1 tt σ H b) (ex : Ex H H1) (h1 : b = true → ∀ Hk H2, Grow H H1 Hk H2 → tu { D with nx := tz D } σ H2) (h2 : b = false → ∀ Hk H2, Grow H H1 Hk H2 → tw { D with nx := tz D } σ H2) : tSeq (tIfS tt tu tw) tz D σ H1 :=
  h H1 ex _ fun c Hk H2 g p => by
    subst p
    cases c with
    | true =>
      show tu { D with nx := tz D } σ H2
      exact h1 rfl Hk H2 g
    | false =>
      show tw { D with nx := tz D } σ H2
      exact h2 rfl Hk H2 g
/-- if .. : (leaves); what follows -/
theorem st_when {b : Bool} (h : EvT1 tt σ H b) (ex : Ex H H1) (h1 : b = true → ∀ Hk H2, Grow H H1 Hk H2 → tu { D with nx := tz D } σ H2) (h2 : b = false → ∀ Hk H2, Grow H H1 Hk H2 → tz D σ H2) : tSeq (tIfS tt tu tNext) tz D σ H1 :=
  st_if h ex h1 h2
end
section
variable {K : PySem.W.Frag} {σ : L2.St} {H : Hp} {te ta tb : TE}
def rAbs : List V → Hp → VK → Prop := fun xs H Q => ∃ i, xs = [.int i] ∧ Q (.int (if i < 0 then -i else i)) H
theorem rc_abs {i : Int} : RCD K rAbs [.int i] (· = .int i.natAbs) := by
  intro vs H H1 e r Q q
  cases r with
  | cons r rr =>
    cases rr
    cases r
    have ei : (if i < 0 then -i else i) = (i.natAbs : Int) := by split <;> omega
    refine ⟨i, rfl, ?_⟩
    rw [ei]
    exact q _ _ H H1 (Grow.refl e) (.int _) rfl
def rInt1 : List V → Hp → VK → Prop := fun xs H Q => (∃ i, xs = [.int i] ∧ Q (.int i) H) ∨ ∃ k, xs = [.bl k] ∧ Q (.int (if k then 1 else 0)) H
theorem rc_int {i : Int} : RCD K rInt1 [.int i] (· = .int i) := by
  intro vs H H1 e r Q q
  cases r with
  | cons r rr =>
    cases rr
    cases r
    exact .inl ⟨i, rfl, q _ _ H H1 (Grow.refl e) (.int _) rfl⟩
theorem rc_intB {b : Bool} : RCD K rInt1 [.bool b] (· = .int (if b then 1 else 0)) := by
  intro vs H H1 e r Q q
  cases r with
  | cons r rr =>
    cases rr
    cases r
    exact .inr ⟨b, rfl, q _ _ H H1 (Grow.refl e) (.int _) rfl⟩
def rMax2' : List V → Hp → VK → Prop := fun xs H Q => ∃ i j, xs = [.int i, .int j] ∧ Q (.int (if j > i then j else i)) H
theorem rc_max2 {i j : Int} : RCD K rMax2' [.int i, .int j] (· = .int (if j > i then j else i)) := by
  intro vs H H1 e r Q q
  cases r with
  | cons r rr =>
    cases rr with
    | cons r2 rr =>
      cases rr
      cases r
      cases r2
      exact ⟨i, j, rfl, q _ _ H H1 (Grow.refl e) (.int _) rfl⟩
def rMin2' : List V → Hp → VK → Prop := fun xs H Q => ∃ i j, xs = [.int i, .int j] ∧ Q (.int (if j < i then j else i)) H
theorem rc_min2 {i j : Int} : RCD K rMin2' [.int i, .int j] (· = .int (if j < i then j else i)) := by
  intro vs H H1 e r Q q
  cases r with
  | cons r rr =>
    cases rr with
    | cons r2 rr =>
      cases rr
      cases r
      cases r2
      exact ⟨i, j, rfl, q _ _ H H1 (Grow.refl e) (.int _) rfl⟩
theorem cutG_from {α : Type} (xs : List α) (n : Nat) : cutG xs (some (n : Int)) none = xs.drop n := by
  unfold cutG
  rw [show HT.sIx xs.length 0 (some (n : Int)) = min n xs.length from HT.sIx_nat xs.length 0 n, HT.sIx_none]
  by_cases h : n ≤ xs.length
  · rw [Nat.min_eq_left h]
    exact List.take_of_length_le (by rw [List.length_drop]; exact Nat.le_refl _)
  · have h' : xs.length ≤ n := by omega
    rw [Nat.min_eq_right h', List.drop_eq_nil_of_le h', List.drop_eq_nil_of_le (Nat.le_refl _)]
    exact List.take_nil
theorem cutG_to {α : Type} (xs : List α) (n : Nat) : cutG xs none (some (n : Int)) = xs.take n := by
  unfold cutG
  rw [show HT.sIx xs.length xs.length (some (n : Int)) = min n xs.length from HT.sIx_nat xs.length xs.length n, HT.sIx_none]
  show (xs.drop 0).take (min n xs.length - 0) = _
  rw [List.drop_zero, Nat.sub_zero]
  by_cases h : n ≤ xs.length
  · rw [Nat.min_eq_left h]
  · rw [Nat.min_eq_right (by omega), List.take_of_length_le (Nat.le_refl _), List.take_of_length_le (by omega)]
theorem eo_c {i : Int} : EvO (tPart (tC (.int i))) σ H (some i) := fun H1 e Q q => ⟨i, rfl, q H1 (Ex.refl H1)⟩
end
end DL
namespace DL
open PySem PySem.Spec PyProof.Rows L2 Evl
variable [CTab]
/-- a new bag for a place of the script -/
def spNewBag (K : PySem.W.Frag) : Sp := fun vs H1 Q _ => ∃ H a ns n, vs = [.ref a, .int n] ∧ Ex H H1 ∧ SqL K H a ((ns : List Int).map V.int) ∧ ns.length ≤ 63 ∧ 0 ≤ n ∧ n < 100 ∧
  ∀ p Hk H2, Grow H H1 Hk H2 → Hk p = some (BagO p) → Q (.ref p) H2
def drawPre (d : PyData) : Prop := ∃ n : Int, d = .int n ∧ 0 < n ∧ n.natAbs.log2 < 1000
def drawPost (d z : PyData) : Prop := ∃ i n : Int, z = .int i ∧ d = .int n ∧ 0 ≤ i ∧ i < n
def items : PyData → List PyData
  | .list ds => ds
  | .tuple ds => ds
  | .str s => s.cps.toList.map fun c => .str ⟨#[c]⟩
  | _ => []
theorem bag_grow {H H1 H3 : Hp} {b : Addr} {o : HO} (ex : Ex H H1) (hb : H1 b = some (BagO b)) (e : Ex (upd H1 b o) H3) : Grow H H1 H (upd H3 b (BagO b)) := by
  have all : Ex H1 (upd H3 b (BagO b)) := fun a u h => by
    by_cases ha : a = b
    · subst ha
      rw [hb] at h
      cases h
      exact upd_same
    · rw [upd_ne ha]
      exact e a u (by rw [upd_ne ha]; exact h)
  exact ⟨Ex.refl H, ex.trans all, all, fun p u h n => by rw [h] at n; cases n⟩
/-- return [x, y, z], a new bag -/
theorem st_retBag {K : PySem.W.Frag} {σ : L2.St} {H H1 : Hp} {ta : TA} {D : Ends} {x y z : Int} (h : EvA1 K ta σ H [.int x, .int y, .int z]) (ex : Ex H H1)
    (k : ∀ p Hk H2, Grow H H1 Hk H2 → Hk p = some (BagO p) → D.rt (.ref p) H2) : tRet (tShut (tLst ta)) D σ H1 := by
  refine h H1 ex _ fun vs ds Hk H2 g r p => ?_
  subst p
  cases r with
  | cons ra rr =>
    cases rr with
    | cons rb rr =>
      cases rr with
      | cons rc rr =>
        cases rr
        cases ra
        cases rb
        cases rc
        refine ⟨by show 3 ≤ sizeLine; decide, fun p hp => ⟨p, x, y, z, rfl, upd_same, ?_⟩⟩
        rw [upd_upd]
        exact k p _ _ (g.trans (Grow.new g.sub hp (BagO p))) upd_same
theorem ex_upd2 {H1 H3 : Hp} {b : Addr} {o : HO} (e : Ex (upd H1 b o) H3) (o' : HO) : Ex (upd H1 b o') (upd H3 b o') := fun a u h => by
  by_cases ha : a = b
  · subst ha
    rw [upd_same] at h ⊢
    exact h
  · rw [upd_ne ha] at h ⊢
    exact e a u (by rw [upd_ne ha]; exact h)
end DL
namespace DL
open PySem PySem.Spec PyProof.Rows L2 Evl
variable [CTab]
theorem gn {i : Nat} {x : V} {σ : L2.St} {H : Hp} {k : L2.St → Hp → Prop} (h : k (σ.set i (some x)) H) : gName i x σ H k := h
mutual
/-- short texts of real signs, short sequences; no dict -/
def tidy : PyData → Bool
  | .str s => decide (s.length ≤ 1000) && PyData.strOk s
  | .list ds => decide (ds.length ≤ 1000) && tidyAll ds
  | .tuple ds => decide (ds.length ≤ 1000) && tidyAll ds
  | .dict _ => false
  | _ => true
def tidyAll : List PyData → Bool
  | [] => true
  | d :: ds => tidy d && tidyAll ds
end
theorem tidyAll_mem : ∀ {ds : List PyData}, tidyAll ds = true → ∀ d ∈ ds, tidy d = true
  | d :: ds, h, x, hx => by
    have h' : tidy d = true ∧ tidyAll ds = true := by simpa [tidyAll] using h
    rcases List.mem_cons.mp hx with rfl | hx
    · exact h'.1
    · exact tidyAll_mem h'.2 x hx
mutual
theorem canLay_tidy : ∀ {d : PyData}, tidy d = true → d.canLay0 = true
  | .none, _ => rfl
  | .bool _, _ => rfl
  | .int _, _ => rfl
  | .str s, h => by
    have h' : s.length ≤ 1000 ∧ PyData.strOk s = true := by simpa [tidy] using h
    exact h'.2
  | .list ds, h => by
    have h' : ds.length ≤ 1000 ∧ tidyAll ds = true := by simpa [tidy] using h
    show PyData.canLayAll0 ds = true
    exact canLayAll_tidy h'.2
  | .tuple ds, h => by
    have h' : ds.length ≤ 1000 ∧ tidyAll ds = true := by simpa [tidy] using h
    show PyData.canLayAll0 ds = true
    exact canLayAll_tidy h'.2
  | .dict _, h => by simp [tidy] at h
theorem canLayAll_tidy : ∀ {ds : List PyData}, tidyAll ds = true → PyData.canLayAll0 ds = true
  | [], _ => rfl
  | d :: ds, h => by
    have h' : tidy d = true ∧ tidyAll ds = true := by simpa [tidyAll] using h
    simp only [PyData.canLayAll0, Bool.and_eq_true]
    exact ⟨canLay_tidy h'.1, canLayAll_tidy h'.2⟩
end
/-- tidy, or a dict -/
def Nice (d : PyData) : Prop := tidy d = true ∨ isDic d = true
theorem Nice.str {s : Str} (h : Nice (.str s)) : s.length ≤ 1000 ∧ PyData.strOk s = true := by
  rcases h with h | h
  · simpa [tidy] using h
  · cases h
theorem Nice.tup {ds : List PyData} (h : Nice (.tuple ds)) : ds.length ≤ 1000 ∧ ∀ d ∈ ds, Nice d := by
  rcases h with h | h
  · have h' : ds.length ≤ 1000 ∧ tidyAll ds = true := by simpa [tidy] using h
    exact ⟨h'.1, fun d hd => .inl (tidyAll_mem h'.2 d hd)⟩
  · cases h
def LETT : Str := "abcdefghijklmnopqrstuvwxyz"
def isLett (c : Nat) : Bool := decide (c ∈ LETT.cps.toList)
def okName (d : PyData) : Bool := match d with
  | .str s => (decide (1 ≤ (s.length : Int)) && decide ((s.length : Int) ≤ 4)) && s.cps.toList.all isLett
  | _ => false
def ltS (a b : Str) : Bool := decide (a.cps.toList < b.cps.toList)
def ascS (ss : List Str) : Bool := (ss.zip (ss.drop 1)).all fun p => ltS p.1 p.2
def strOf : PyData → Str
  | .str s => s
  | _ => Str.empty
theorem strs_map (ss : List Str) : (ss.map PyData.str).map strOf = ss := by
  rw [List.map_map]
  exact List.map_id'' (fun _ => rfl) ss
end DL
namespace DL
open PySem PySem.Spec PyProof.Rows L2 Evl
variable [CTab]
section
variable {X : Cx} {K : PySem.W.Frag}
theorem kAdd (h : X.K = K) : OpR X (binaryOp .Add) (rAddU K) := h ▸ opAdd
theorem kMul (h : X.K = K) : OpR X (binaryOp .Mult) (rMulU K) := h ▸ opMul
theorem kIn (h : X.K = K) (hu : X.A.units + 65 < cLine) : OpR X (compareOp .In) (rInU K) := h ▸ opIn hu
theorem kEq (h : X.K = K) (hu : X.A.units + 64 < cLine) : OpR X (compareOp .Eq) (rEqD K) := h ▸ op_eqD hu
theorem kNe (h : X.K = K) (hu : X.A.units + 64 < cLine) : OpR X (compareOp .NotEq) (rNeD K) := h ▸ op_neD hu
theorem kIx (h : X.K = K) : IxR X (rIx K) := h ▸ ix_seq
theorem kSl (h : X.K = K) : L2.SlR X (rSlU K) := h ▸ slU
theorem kLen (h : X.K = K) : CallR X (.builtin "len") (rLen K) := h ▸ call_len
theorem kAll (h : X.K = K) (hc : X.calm = true) : CallR X (.builtin "all") (rAll K) := h ▸ cr_all hc
theorem kAny (h : X.K = K) (hc : X.calm = true) : CallR X (.builtin "any") (rAny K) := h ▸ cr_any hc
theorem kSum (h : X.K = K) (hc : X.calm = true) : CallR X (.builtin "sum") (rSum K) := h ▸ cr_sum hc
theorem kTup (h : X.K = K) : CallR X (.type "tuple") (rTupOf K) := h ▸ call_tuple_of
theorem kLst (h : X.K = K) : CallR X (.type "list") (rLstOf K) := h ▸ call_list_of
theorem kgTup {es : List Expr} {k : Nat} {pos : Pos} {t : TGs} {n : Nat} (h : X.K = K) (hc : X.calm = true) (hp : PGs X es t) (hn : (assignEach es X.env).length = n := by rfl)
    (hst : (assignEach es X.env).findIdx? (·.1) = none := by rfl) : PG X (.Tuple es k pos) (gTup K n t) := h ▸ pg_tup hc hp hn hst
end
end DL
namespace DL
open PySem PySem.Spec PyProof.Rows L2 Evl
variable [CTab]
section
variable {K : PySem.W.Frag} {σ : L2.St} {H H1 : Hp} {te ta tb tv : TE} {tz : TS} {D : Ends} {P P1 P2 : PyData → Prop} {d1 d2 : PyData}
theorem RD.weak {r : R2} (h : RD K r d1 d2 P1) (w : ∀ z, P1 z → P2 z) : RD K r d1 d2 P2 := fun v1 v2 H H1 e r1 r2 Q q => h v1 v2 H H1 e r1 r2 Q fun v d Hk H2 g r p => q v d Hk H2 g r (w d p)
theorem RCD.weak {r : List V → Hp → VK → Prop} {ds : List PyData} (h : RCD K r ds P1) (w : ∀ z, P1 z → P2 z) : RCD K r ds P2 := fun vs H H1 e r1 Q q => h vs H H1 e r1 Q fun v d Hk H2 g r p => q v d Hk H2 g r (w d p)
/-- a list at p that was not told is told -/
theorem tell {Hk H2 : Hp} {p : Addr} {o : HO} (e : Ex Hk H2) (hk : Hk p = none) (hp : H2 p = some o) : Ex Hk (upd Hk p o) ∧ Ex (upd Hk p o) H2 :=
  ⟨Ex.new hk, fun a u h => by
    by_cases ha : a = p
    · subst ha
      rw [upd_same] at h
      cases h
      exact hp
    · rw [upd_ne ha] at h
      exact e a u h⟩
theorem told_list {Hk : Hp} {p : Addr} {vs : List V} {ds : List PyData} (r : RpAll K Hk vs ds) (hk : Hk p = none) : Rp K (upd Hk p (.lst vs)) (.ref p) (.list ds) := .lst (sq_of upd_same) (r.mono (Ex.new hk))
theorem RpAll.snoc {Hk : Hp} {vs : List V} {ds : List PyData} {v : V} {d : PyData} (r : RpAll K Hk vs ds) (q : Rp K Hk v d) : RpAll K Hk (vs ++ [v]) (ds ++ [d]) := r.append (.cons q .nil)
/-- laid new, then locked -/
theorem upd_upd {H : Hp} {p : Addr} {o o' : HO} : upd (upd H p o) p o' = upd H p o' := funext fun a => by
  by_cases h : a = p
  · subst h
    rw [upd_same, upd_same]
  · rw [upd_ne h, upd_ne h, upd_ne h]
end
/-- the law's own promise -/
def spLaw (K : PySem.W.Frag) : Sp := fun vs H1 Q _ => ∃ H a ns, vs = [.ref a] ∧ Ex H H1 ∧ SqL K H a ((ns : List Int).map V.int) ∧ ns.length ≤ 63 ∧ ∀ H2, Q (.bl true) H2
def Fine (d : PyData) : Prop := Nice d ∧ d.depth ≤ 10
theorem depthAll_le : ∀ {ds : List PyData} {n : Nat}, (∀ d ∈ ds, d.depth ≤ n) → PyData.depthAll ds ≤ n
  | [], n, _ => Nat.zero_le n
  | d :: ds, n, h => by
    show max d.depth (PyData.depthAll ds) ≤ n
    exact Nat.max_le.mpr ⟨h d List.mem_cons_self, depthAll_le fun x hx => h x (List.mem_cons_of_mem _ hx)⟩
theorem depth_mem : ∀ {ds : List PyData} {d : PyData}, d ∈ ds → d.depth ≤ PyData.depthAll ds
  | x :: ds, d, h => by
    show d.depth ≤ max x.depth (PyData.depthAll ds)
    rcases List.mem_cons.mp h with rfl | h
    · exact Nat.le_max_left _ _
    · exact Nat.le_trans (depth_mem h) (Nat.le_max_right _ _)
theorem canLayAll_of : ∀ {ds : List PyData}, (∀ d ∈ ds, d.canLay0 = true) → PyData.canLayAll0 ds = true
  | [], _ => rfl
  | d :: ds, h => by
    simp only [PyData.canLayAll0, Bool.and_eq_true]
    exact ⟨h d List.mem_cons_self, canLayAll_of fun x hx => h x (List.mem_cons_of_mem _ hx)⟩
/-- a list of data that may be compared -/
theorem shaped_list {ds : List PyData} (h : ∀ d ∈ ds, d.canLay0 = true ∧ d.depth ≤ 60) : SeqAt.shaped (.list ds) = true := by
  unfold SeqAt.shaped
  rw [Bool.and_eq_true]
  refine ⟨canLayAll_of fun d hd => (h d hd).1, decide_eq_true ?_⟩
  show PyData.depthAll ds + 1 ≤ 64
  have := depthAll_le (n := 60) fun d hd => (h d hd).2
  omega
theorem shaped_tuple {ds : List PyData} (h : ∀ d ∈ ds, d.canLay0 = true ∧ d.depth ≤ 60) : SeqAt.shaped (.tuple ds) = true := by
  unfold SeqAt.shaped
  rw [Bool.and_eq_true]
  refine ⟨canLayAll_of fun d hd => (h d hd).1, decide_eq_true ?_⟩
  show PyData.depthAll ds + 1 ≤ 64
  have := depthAll_le (n := 60) fun d hd => (h d hd).2
  omega
theorem Fine.tup {ds : List PyData} (h : Fine (.tuple ds)) : ∀ d ∈ ds, Fine d ∧ d.canLay0 = true := by
  intro d hd
  have hdep : d.depth ≤ 10 := Nat.le_trans (Nat.le_trans (depth_mem hd) (Nat.le_succ _)) h.2
  rcases h.1 with ht | ht
  · have h' : ds.length ≤ 1000 ∧ tidyAll ds = true := by simpa [tidy] using ht
    have := tidyAll_mem h'.2 d hd
    exact ⟨⟨.inl this, hdep⟩, canLay_tidy this⟩
  · cases ht
theorem strOk_iff {s : Str} : PyData.strOk s = true ↔ ∀ c ∈ s.cps.toList, c < 0x110000 := by
  unfold PyData.strOk
  rw [Array.all_eq_true_iff_forall_mem]
  constructor
  · intro h c hc
    exact of_decide_eq_true (h c (by simpa using hc))
  · intro h c hc
    exact decide_eq_true (h c (by simpa using hc))
end DL
namespace DL
open PySem PySem.Spec PyProof.Rows L2 Evl
variable [CTab]
/-- the table of code objects at P, whatever it holds -/
def TabO (P : Addr) : HO := .ext fun h => ∃ qs : Array Value, h.get? P = some { cls := .none, data := .fields qs } ∧ TriplesOk qs.toList
end DL
namespace DL
open PySem PySem.Spec PyProof.Rows L2 Evl
end DL
namespace DL
open PySem PySem.Spec PyProof.Rows L2 Evl
variable [CTab]
def ledAt (rows : List (List Int)) (j : Nat) (i : Nat) : Bool := match rows[i]? with
  | some r => r.getD j 0 != 0
  | none => false
/-- the first row with a number other than 0 at j -/
def ledOf (rows : List (List Int)) (j : Nat) : Option Nat := ((List.range rows.length).filter (ledAt rows j)).head?
end DL
namespace DL
open PySem PySem.Spec PyProof.Rows L2 Evl
variable [CTab]
def ledD (rows : List (List Int)) (j : Nat) : PyData := match ledOf rows j with
  | some i => .int (i : Int)
  | none => .none
end DL
namespace DL
open PySem PySem.Spec PyProof.Rows L2 Evl
variable [CTab]
def Tabs (ts : List Addr) (H : Hp) : Prop := ∀ P ∈ ts, H P = some (TabO P)
theorem Tabs.mono {ts : List Addr} {H H' : Hp} (h : Tabs ts H) (e : Ex H H') : Tabs ts H' := fun P hP => e _ _ (h P hP)
end DL
namespace DL
open PySem PySem.Spec PyProof.Rows L2 Evl
open AutoSeq1 (wpAny_loadPart')
variable [CTab]
abbrev titO (l : Addr) : Obj := { cls := .type "tuple_iterator", data := .fields #[.ref l, .int 0 0] }
abbrev enO (it : Addr) : Obj := { cls := .type "enumerate", data := .fields #[.none, .bool false, .ref it, rawInt 0, .none, .none] }
theorem meets_enT (l : Addr) (items : Array Value) (n : Nat) (dct : Option Addr) (sl : Array (Option Value)) :
    Meets (Builtin.«enumerate.__new__» ⟨[.type "enumerate", .ref l], []⟩) (fun _ R s => s.heap.get? l = some { cls := .type "tuple", dict := dct, data := .seq items n, slots := sl } ∧
      R (.ok (.ret (.ref (s.heap.push (titO l)).objs.size))) { s with heap := (s.heap.push (titO l)).push (enO s.heap.objs.size) }) := by
  refine .of_wp ?_
  rintro prog w A R ⟨hp, g, d, tk, os⟩ ⟨hl, h⟩
  have hsub := sub_enumerate
  have hL : Heap.IsTuple (Shared.heap ⟨hp, g, d, tk, os⟩) l items := ⟨_, hl, rfl, n, rfl⟩
  wp_walk using wpAny_loadPart' hl
  refine wpAny_stack_any fun st => wpAny_pure ?_
  split
  · rename_i c _ _ _ _ _
    by_cases hc : (c == Value.type "enumerate") = true <;> simp only [hc] <;> (wp_walk using wpAny_loadPart' hl, wpAny_pyIter_tuple hL) <;> exact ⟨_, rfl, h⟩
  · wp_walk using wpAny_loadPart' hl, wpAny_pyIter_tuple hL
    exact ⟨_, rfl, h⟩
section
variable {prog : Program} {w : World} {A : Around} {E : Value → Shared → Prop} {s : Shared}
theorem call_enT {l : Addr} {items : Array Value} {Q : Value → Shared → Prop} (hL : s.heap.IsTuple l items)
    (h : ∀ h', IsEnum h' (s.heap.objs.size + 1) s.heap.objs.size 0 .none → h'.IsTupleIter s.heap.objs.size l 0 → (∀ b o, s.heap.get? b = some o → h'.get? b = some o) → Q (.ref (s.heap.objs.size + 1)) { s with heap := h' }) :
    wpAny (model prog w) A (call (.type "enumerate") [.ref l]) Q E s := by
  obtain ⟨⟨c, dct, dt, sl⟩, hl, hc, n, hd⟩ := hL
  obtain rfl : c = .type "tuple" := hc
  obtain rfl : dt = .seq items n := hd
  refine callType_new F.called_enumerate (by decide) (F.typeCall_enumerate_1 _) (F.newCall_enumerate_1 _) (fun obj => F.args_object_init_2 obj _) F.entry_enumerate_new (meets_enT l items n dct sl) ⟨hl, ?_⟩
  have hz : (s.heap.push (titO l)).objs.size = s.heap.objs.size + 1 := Heap.size_push ..
  show _ ∧ _
  rw [hz]
  have he : IsEnum ((s.heap.push (titO l)).push (enO s.heap.objs.size)) (s.heap.objs.size + 1) s.heap.objs.size 0 .none := by
    have e := Heap.get?_push_size (s.heap.push (titO l)) (o := enO s.heap.objs.size) rfl
    rw [hz] at e
    exact e
  exact ⟨⟨_, he, rfl⟩, h _ he ⟨_, Heap.get?_push_of_some _ (Heap.get?_push_size _ rfl), rfl, rfl⟩ fun b o x => Heap.get?_push_of_some _ (Heap.get?_push_of_some _ x)⟩
end
/-- the tuple at a, each item in a new pair -/
def IteT (K : PySem.W.Frag) (a : Addr) : It :=
  ⟨fun i H => ∃ (xs : List V) (x : V), SqT K H a xs ∧ xs[i]? = some x, fun i H v H' => ∃ T x, v = .ref T ∧ H T = none ∧ H' = upd H T (.tup [.int (i : Nat), x]) ∧ ∀ xs, SqT K H a xs → xs[i]? = some x,
    fun i H => ∃ xs : List V, SqT K H a xs ∧ xs.length ≤ i⟩
theorem turn_enT {P : Program} {w : World} {K : PySem.W.Frag} {elts : List Expr} {kk : Nat} {tpos : Pos} (a e it : Addr) :
    Turn P w K (.Tuple elts kk tpos) (IteT K a) [e, it] e (fun i h => (∃ old, IsEnum h e it ((i : Nat) : Int) old) ∧ h.IsTupleIter it a i ∧ e ≠ it) where
  mem := List.mem_cons_self
  obj := fun i h st b hb => by
    obtain ⟨⟨old, he⟩, ⟨o, ho, hc, hd⟩, _⟩ := st
    have e' : b = e ∨ b = it := by simpa using hb
    rcases e' with rfl | rfl
    · exact ⟨_, he, fun v q => nomatch q⟩
    · exact ⟨o, ho, fun v q => by rw [hd] at q; cases q⟩
  keep := fun i h h' st k => let ⟨⟨old, he⟩, hi, hne⟩ := st; ⟨⟨old, k e List.mem_cons_self _ he⟩, hi.at fun o q => k it (List.mem_cons_of_mem _ List.mem_cons_self) o q, hne⟩
  item := by
    intro X hP hw hK hc i pins s σ H E I hf st hg
    subst hP hw hK
    obtain ⟨⟨old, he⟩, hit, hne⟩ := st
    obtain ⟨xs, x, hq, hx⟩ := hg
    obtain ⟨its, rv, p, hz⟩ := I.tuple hq
    obtain ⟨u, hu, ru⟩ := rv.get hx
    have hel : e < s.heap.objs.size := Heap.lt_size he
    have hil : it < s.heap.objs.size := by obtain ⟨_, q, _⟩ := hit; exact Heap.lt_size q
    have ha : a ≠ it := by
      rintro rfl
      obtain ⟨o, e1, e2, _⟩ := p
      obtain ⟨o', f1, f2, _⟩ := hit
      rw [e1] at f1
      cases f1
      rw [e2] at f2
      simp at f2
    have hae : e ∉ [it, a] := by
      intro hm
      have : e = it ∨ e = a := by simpa using hm
      rcases this with z | z
      · exact hne z
      · obtain ⟨o, e1, e2, _⟩ := p
        rw [← z, he] at e1
        cases e1
        simp at e2
    have hlt : i < its.toArray.size := by
      rw [List.size_toArray]
      exact (List.getElem?_eq_some_iff.mp hu).1
    refine wpAny_pyNext_enum_itemD (Draws.tuple (prog := X.prog) (w := X.w) (A := X.A.in1) (I.ok.hd hc) it a ha its.toArray) he ⟨hit, p⟩ hlt hne hae fun y h' tk hy ho hst hT hsz hk => ?_
    obtain rfl : y = u := by
      have : its[i]? = some y := by rw [← List.getElem?_toArray]; exact hy
      rw [hu] at this
      exact (Option.some.inj this).symm
    refine ⟨_, rfl, wpAny_letOwnedTupleGo_enum (s := { s with heap := h', toks := tk + 1 }) ho fun h'' he' sb => ?_⟩
    have hT2 : h''.get? s.heap.objs.size = some { cls := .type "tuple", data := .seq #[.int i tk, y] } := (sb.2 _ (Nat.ne_of_gt hel)).trans hT
    have new : ObjOk X.prog X.w (upd H s.heap.objs.size (.tup [.int (i : Nat), x])) h'' s.heap.objs.size (.tup [.int (i : Nat), x]) :=
      ⟨by show 2 ≤ sizeLine; decide, [.int i tk, y], .cons ⟨_, rfl⟩ (.cons ru .nil), ⟨_, hT2, rfl, _, rfl⟩⟩
    have I1 : Inv X pins σ (upd H s.heap.objs.size (.tup [.int (i : Nat), x])) { s with heap := h'', toks := tk + 1 } :=
      I.turnedNew (ch := [e, it]) (fun b ob hb q => (sb.2 b (fun z => hb (by simp [z]))).trans (hk b ob (fun z => hb (by simp [z])) (fun z => hb (by simp [z])) q)) hf (Nat.le_refl _) new
    refine ⟨.ref s.heap.objs.size, _, I1, rfl, ⟨_, x, rfl, I.hok.fresh (Nat.le_refl _), rfl, fun ys hy => by rw [I.tuple_inj hy hq]; exact hx⟩, ⟨⟨y, ?_⟩, hst.1.at fun o q => (sb.2 it (Ne.symm hne)).trans q, hne⟩, fun b hb => ?_⟩
    · have e1 : ((i + 1 : Nat) : Int) = (i : Int) + 1 := Int.natCast_succ i
      rw [e1]
      exact he'
    · have e' : b = e ∨ b = it := by simpa using hb
      have hb' : b < s.heap.objs.size := by
        rcases e' with rfl | rfl
        · exact hel
        · exact hil
      rw [upd_ne (Nat.ne_of_lt hb')]
      exact (hf b hb).1
  done := by
    intro X hP hw hK hc i pins s σ H E I hf st hg
    subst hP hw hK
    obtain ⟨⟨old, he⟩, hit, hne⟩ := st
    obtain ⟨xs, hq, hx⟩ := hg
    obtain ⟨its, rv, p, hz⟩ := I.tuple hq
    obtain ⟨f0, f1, f2, f3, f4, f5⟩ := hf it (List.mem_cons_of_mem _ List.mem_cons_self)
    have hl := rv.length
    have ha : a ≠ it := by
      rintro rfl
      obtain ⟨o, e1, e2, _⟩ := p
      obtain ⟨o', g1, g2, _⟩ := hit
      rw [e1] at g1
      cases g1
      rw [e2] at g2
      simp at g2
    have hT : s.TypeIs (.ref e) "enumerate" := ⟨_, he, rfl⟩
    unfold pyNext
    refine wpAny_bind (wpAny_attempt (wpAny_callSpecial?_slot (name := Str.ofString "__next__") hT F.slot_enumerate_next (wpAny_call_entry F.slot_enumerate_next hT F.entry_enumerate_next ?_ (F.args_enumerate_next_1 _))))
    show wpAny _ _ (field (.ref e) 2 >>= _) _ _ _
    refine wpAny_bind (wpAny_field he rfl (x := .ref it) rfl ?_)
    refine wpAny_bind (wpAny_nextOf_tuple_end (A := X.A.in1) (I.ok.hd hc) hit p (by simp; omega) fun h' x he' hx' => ?_)
    obtain ⟨o, ho, hcl⟩ := hx'
    refine wpAny_bind (wpAny_isInstance (T := "StopIteration") (b := true) ⟨o, ho, hcl⟩ isSubtype_stop ?_)
    exact wpAny_pure ⟨rfl, I.turned (t' := s.toks) (fun b o hb q => he' b o hb q) f0 f1 f3 f4 f5⟩
  self := fun A i s Q E st h => let ⟨⟨_, he⟩, _⟩ := st; wpAny_pyIter_enum he h
/-- enumerate(e), e a list or a tuple -/
def iEnA (K : PySem.W.Frag) (ta : TA) : TI := fun σ H R => ta σ H fun vs H1 => ∃ a xs, vs = [.ref a] ∧ ((SqL K H1 a xs ∧ R (Ite K a) H1) ∨ (SqT K H1 a xs ∧ R (IteT K a) H1))
theorem pi_enA {X : Cx} {e : Expr} {ta : TA} {p pos tpos : Pos} {elts : List Expr} {kk : Nat} {K : PySem.W.Frag} (hK : X.K = K) (hg : Gl X "enumerate") (hm : X.mg "enumerate" = none) (ha : PA X [e] ta) (hs : starEach [e] X.env = [(false, eval e X.env)] := by rfl) :
    PI X (.Tuple elts kk tpos) (.Call (.Name "enumerate" p) [e] [] pos) (iEnA K ta) := by
  subst hK
  refine ⟨fun pins s σ H R I h => ?_⟩
  refine Call_ (ld_blt I hg hm boot_enumerate (PyProof.Rows.callWith_type1 (thn (ha.run pos pins s σ H _ I h) fun us s1 ⟨vs, H1, I1, r1, a, xs, ev, q1⟩ => ?_) hs rfl))
  subst ev
  obtain ⟨u0, rfl, ru⟩ := vals1 r1
  obtain rfl : u0 = Value.ref a := ru
  have ok : ∀ b, b ∈ [s1.heap.objs.size + 1, s1.heap.objs.size] → FpOk X pins H1 b := fun b hb => by
    have e' : b = s1.heap.objs.size + 1 ∨ b = s1.heap.objs.size := by simpa using hb
    have hle : s1.heap.objs.size ≤ b := by
      rcases e' with rfl | rfl
      · exact Nat.le_succ _
      · exact Nat.le_refl _
    exact I1.fpOk hle (I1.hok.fresh hle)
  rcases q1 with ⟨hq, q⟩ | ⟨hq, q⟩
  · obtain ⟨its, rv, pl, hz⟩ := I1.list hq
    refine call_enumerate_list pl.isList fun h' hen hit hsz hk => wpAny_pyIter_enum hen ?_
    exact ⟨_, [s1.heap.objs.size + 1, s1.heap.objs.size], _, _, H1, rfl, I1.kept (t' := s1.toks) hk, turn_enum a (s1.heap.objs.size + 1) s1.heap.objs.size, ⟨⟨.none, hen⟩, hit, Nat.succ_ne_self _⟩, ok, q⟩
  · obtain ⟨its, rv, pl, hz⟩ := I1.tuple hq
    refine call_enT pl fun h' hen hit hk => wpAny_pyIter_enum hen ?_
    exact ⟨_, [s1.heap.objs.size + 1, s1.heap.objs.size], _, _, H1, rfl, I1.kept (t' := s1.toks) hk, turn_enT a (s1.heap.objs.size + 1) s1.heap.objs.size, ⟨⟨.none, hen⟩, hit, Nat.succ_ne_self _⟩, ok, q⟩
theorem walk_enT {K : PySem.W.Frag} {a : Addr} {xs : List V} : Walk (IteT K a) xs.length (fun H => SqT K H a xs) (YPair (fun i => some (.int (i : Nat))) (fun i => xs[i]?)) := by
  refine ⟨fun i _ hi q => ⟨xs, xs[i], q, List.getElem?_eq_getElem hi⟩, fun _ q => ⟨xs, q, Nat.le_refl _⟩, ?_⟩
  rintro i H v H' _ q ⟨T, x, h1, h2, h3, h4⟩
  exact ⟨T, .int (i : Nat), x, h1, h2, h3, rfl, h4 xs q⟩
theorem ps_dead {X : Cx} {st : Stmt} : PS X st (fun _ _ _ => False) := ⟨fun _ _ _ _ _ _ h => h.elim⟩
end DL
namespace DL
open PySem PySem.Spec PyProof.Rows L2 Evl
end DL
namespace DL
open PySem PySem.Spec PyProof.Rows L2 Evl
open AutoSeq1 (wpAny_loadPart')
variable [CTab]
section
variable {K : PySem.W.Frag} {σ : L2.St} {H H1 : Hp} {te ta tb tc : TE} {tt : TT} {tu tz : TS} {P P1 P2 P3 : PyData → Prop} {D : Ends} {i j l : Nat}
/-- a new list, not told -/
def EvN (K : PySem.W.Frag) (te : TE) (σ : L2.St) (H : Hp) (P : List PyData → Prop) : Prop :=
  ∀ H1, Ex H H1 → ∀ Q : VK, (∀ p vs ds Hk H2, Grow H H1 Hk H2 → RpAll K Hk vs ds → P ds → Hk p = none → H2 p = some (.lst vs) → H1 p = none → Q (.ref p) H2) → te σ H1 Q
end
end DL
namespace DL
open PySem PySem.Spec PyProof.Rows L2 Evl
end DL
namespace DL
open PySem PySem.Spec PyProof.Rows L2 Evl
end DL
namespace DL
open PySem PySem.Spec PyProof.Rows L2 Evl
variable [CTab]
def rCatS (K : PySem.W.Frag) : R2 := fun x y H Q => ∃ l b xs zs, x = .ref l ∧ y = .ref b ∧ SqL K H l xs ∧ SqL K H b zs ∧ xs.length + zs.length ≤ sizeLine ∧ ∀ p, H p = none → Q (.ref p) (upd H p (.lst (xs ++ zs)))
theorem op_catS {X : Cx} : OpR X (binaryOp .Add) (rCatS X.K) := by
  intro pins s σ H x y v u Q I rx ry h
  obtain ⟨l, b, xs, zs, rfl, rfl, hH, hB, hz, q⟩ := h
  obtain rfl : v = Value.ref l := rx
  obtain rfl : u = Value.ref b := ry
  obtain ⟨its, r, ⟨⟨c1, d1, t1, s1⟩, n, e, rfl, rfl, rfl⟩, hl⟩ := I.list hH
  obtain ⟨its2, r2, ⟨⟨c2, d2, t2, s2⟩, n2, e2, rfl, rfl, rfl⟩, hl2⟩ := I.list hB
  have e1 := r.length
  have e3 := r2.length
  have hsz : its.toArray.size + its2.toArray.size ≤ sizeLine := by
    rw [List.size_toArray, List.size_toArray]
    omega
  refine concat_meets ⟨_, e, rfl⟩ ⟨_, e2, rfl⟩ noFill_list_add seq_list_add PySem.F.slot_list_add PySem.F.entry_list_add (PySem.F.args_list_add_2 _ _) (list_addW l b its.toArray its2.toArray n n2 _ _ s1 s2 hsz) ⟨e, e2, ?_⟩
  have ea : its.toArray ++ its2.toArray = (its ++ its2).toArray := by simp
  rw [ea]
  exact ⟨.ref _, _, I.lnew (t' := s.toks) (r.append r2) (by rw [List.length_append]; omega), rfl, q _ I.fresh⟩
theorem kCatS {X : Cx} {K : PySem.W.Frag} (h : X.K = K) : OpR X (binaryOp .Add) (rCatS K) := h ▸ op_catS
theorem rd_catS {K : PySem.W.Frag} {ds es : List PyData} (h : ds.length + es.length ≤ 100000) : RD K (rCatS K) (.list ds) (.list es) (· = .list (ds ++ es)) := by
  intro v1 v2 H H1 e r1 r2 Q q
  cases r1 with
  | @lst a xs _ g r =>
    cases r2 with
    | @lst b ys _ g2 r2 =>
      refine ⟨a, b, xs, ys, rfl, rfl, ex_l e g, ex_l e g2, by rw [r.len, r2.len]; exact sz_of h, fun p hp => ?_⟩
      have g4 := Grow.new e hp (.lst (xs ++ ys))
      exact q _ _ _ _ g4 (.lst (sq_of upd_same) ((r.append r2).mono g4.known)) rfl
end DL
namespace Mx
abbrev R := List Int
abbrev at' (r : R) (c : Nat) : Int := r.getD c 0
def expand (g : List R → Int) (c : Nat) : List R → Int
  | [] => 0
  | r :: S => at' r c * g S - expand (fun T => g (r :: T)) c S
def det : List Nat → List R → Int
  | [], [] => 1
  | [], _ :: _ => 0
  | c :: Cs, rs => expand (det Cs) c rs
def Alt (g : List R → Int) : Prop := ∀ P a b S, g (P ++ a :: b :: S) = - g (P ++ b :: a :: S)
theorem expand_lin (x y : Int) (c : Nat) : ∀ (S : List R) (g h k : List R → Int), (∀ T, k T = x * g T + y * h T) → expand k c S = x * expand g c S + y * expand h c S
  | [], g, h, k, e => by simp [expand]
  | r :: S, g, h, k, e => by
    have ih := expand_lin x y c S (fun T => g (r :: T)) (fun T => h (r :: T)) (fun T => k (r :: T)) fun T => e (r :: T)
    have e0 := e S
    simp only [expand]
    grind
theorem expand_neg {g h : List R → Int} (e : ∀ T, g T = - h T) (c : Nat) (S : List R) : expand g c S = - expand h c S := by
  have := expand_lin (-1) 0 c S h h g fun T => by rw [e T]; omega
  omega
theorem alt_expand (c : Nat) : ∀ (P : List R) (g : List R → Int), Alt g → ∀ a b S, expand g c (P ++ a :: b :: S) = - expand g c (P ++ b :: a :: S)
  | [], g, hg, a, b, S => by
    have e := expand_neg (g := fun T => g (a :: b :: T)) (h := fun T => g (b :: a :: T)) (fun T => hg [] a b T) c S
    simp only [List.nil_append, expand]
    rw [e]
    omega
  | x :: P, g, hg, a, b, S => by
    have ih := alt_expand c P (fun T => g (x :: T)) (fun Q a b S => hg (x :: Q) a b S) a b S
    have e := hg P a b S
    simp only [List.cons_append, expand]
    rw [ih, e]
    grind
theorem alt_det : ∀ Cs, Alt (det Cs)
  | [] => fun P a b S => by cases P <;> simp [det]
  | c :: Cs => fun P a b S => alt_expand c P (det Cs) (alt_det Cs) a b S
theorem alt_zero : ∀ (P : List R) (g : List R → Int), Alt g → ∀ a S, g (a :: (P ++ a :: S)) = 0
  | [], g, hg, a, S => by
    have := hg [] a a S
    simp only [List.nil_append] at this ⊢
    omega
  | x :: P, g, hg, a, S => by
    have h1 := hg [] a x (P ++ a :: S)
    have h2 := alt_zero P (fun T => g (x :: T)) (fun Q a b S => hg (x :: Q) a b S) a S
    simp only [List.nil_append, List.cons_append] at h1 ⊢
    rw [h1, h2]
    rfl
theorem det_twice {Cs : List Nat} {r : R} {Ls : List R} (h : r ∈ Ls) : det Cs (r :: Ls) = 0 := by
  obtain ⟨P, S, rfl⟩ := List.append_of_mem h
  exact alt_zero P (det Cs) (alt_det Cs) r S
/-- a row's number as a sum of its numbers at the columns Cs -/
def Lin : List Nat → (R → Int) → Prop
  | [], f => ∀ r, f r = 0
  | c :: Cs, f => ∃ a k, Lin Cs k ∧ ∀ r, f r = a * at' r c + k r
theorem lin_congr : ∀ {Cs : List Nat} {f g : R → Int}, Lin Cs f → (∀ r, g r = f r) → Lin Cs g
  | [], f, g, h, e => fun r => by rw [e r]; exact h r
  | c :: Cs, f, g, ⟨a, k, hk, h⟩, e => ⟨a, k, hk, fun r => by rw [e r]; exact h r⟩
theorem lin_comb (x y : Int) : ∀ {Cs : List Nat} {f g : R → Int}, Lin Cs f → Lin Cs g → Lin Cs (fun r => x * f r + y * g r)
  | [], f, g, h, k => fun r => by
    show x * f r + y * g r = 0
    rw [h r, k r]
    simp
  | c :: Cs, f, g, ⟨a, p, hp, h⟩, ⟨b, q, hq, k⟩ => ⟨x * a + y * b, _, lin_comb x y hp hq, fun r => by
    show x * f r + y * g r = _
    rw [h r, k r]
    grind⟩
theorem lin_zero : ∀ {Cs : List Nat}, Lin Cs (fun _ => 0)
  | [] => fun _ => rfl
  | c :: Cs => ⟨0, _, lin_zero, fun r => by simp⟩
theorem lin_expand {Cs : List Nat} (c : Nat) : ∀ (S : List R) (G : R → List R → Int), (∀ T, Lin Cs (fun r => G r T)) → Lin Cs (fun r => expand (G r) c S)
  | [], G, h => lin_zero
  | s :: S, G, h => by
    have ih := lin_expand c S (fun r T => G r (s :: T)) fun T => h (s :: T)
    refine lin_congr (lin_comb (at' s c) (-1) (h S) ih) fun r => ?_
    simp only [expand]
    omega
theorem lin_det : ∀ (Cs : List Nat) (S : List R), Lin Cs (fun r => det Cs (r :: S))
  | [], S => fun r => rfl
  | c :: Cs, S => by
    have h := lin_expand c S (fun r T => det Cs (r :: T)) (fun T => lin_det Cs T)
    refine ⟨det Cs S, _, lin_comb (-1) 0 h lin_zero, fun r => ?_⟩
    simp only [det, expand]
    grind
theorem lin_det1 (c : Nat) (Cs : List Nat) (S : List R) : ∃ k, Lin Cs k ∧ ∀ r, det (c :: Cs) (r :: S) = det Cs S * at' r c + k r := by
  have h := lin_expand c S (fun r T => det Cs (r :: T)) (fun T => lin_det Cs T)
  refine ⟨_, lin_comb (-1) 0 h lin_zero, fun r => ?_⟩
  simp only [det, expand]
  grind
/-- all the leading determinants differ from 0 -/
def NZ : List Nat → List R → Prop
  | [], [] => True
  | c :: Cs, l :: Ls => det (c :: Cs) (l :: Ls) ≠ 0 ∧ NZ Cs Ls
  | [], _ :: _ => False
  | _ :: _, [] => False
theorem nz_det : ∀ {Cs : List Nat} {Ls : List R}, NZ Cs Ls → det Cs Ls ≠ 0
  | [], [], _ => by decide
  | _ :: _, _ :: _, h => h.1
theorem uniq : ∀ {Cs : List Nat} {Ls : List R} {f : R → Int}, NZ Cs Ls → Lin Cs f → (∀ l ∈ Ls, f l = 0) → ∀ r, f r = 0
  | [], [], f, _, h, _ => h
  | c :: Cs, l :: Ls, f, ⟨h1, h2⟩, ⟨a, k, hk, e⟩, z => by
    obtain ⟨k', hk', e'⟩ := lin_det1 c Cs Ls
    have hx : Lin Cs (fun r => det Cs Ls * f r + (-a) * det (c :: Cs) (r :: Ls)) := lin_congr (lin_comb (det Cs Ls) (-a) hk hk') fun r => by
      show det Cs Ls * f r + (-a) * det (c :: Cs) (r :: Ls) = det Cs Ls * k r + (-a) * k' r
      rw [e r, e' r]
      grind
    have hz : ∀ r, det Cs Ls * f r + (-a) * det (c :: Cs) (r :: Ls) = 0 := uniq h2 hx fun l' hl' => by
      show det Cs Ls * f l' + (-a) * det (c :: Cs) (l' :: Ls) = 0
      rw [z l' (List.mem_cons_of_mem _ hl'), det_twice hl']
      simp
    have ha : a = 0 := by
      have h := hz l
      rw [z l List.mem_cons_self, Int.mul_zero, Int.zero_add] at h
      rcases Int.mul_eq_zero.mp h with h | h
      · omega
      · exact absurd h h1
    intro r
    have h := hz r
    rw [ha, Int.neg_zero, Int.zero_mul, Int.add_zero] at h
    exact (Int.mul_eq_zero.mp h).resolve_left (nz_det h2)
end Mx
namespace Mx
abbrev F := Nat → Int
def sumN : Nat → (Nat → Int) → Int
  | 0, _ => 0
  | n + 1, f => f 0 + sumN n fun i => f (i + 1)
abbrev ix (L : List F) (i : Nat) : F := L.getD i fun _ => 0
/-- what sums of multiples of S reach, and parts of these -/
inductive Sp (S : F → Prop) : F → Prop
  | zero {t : F} : (∀ j, t j = 0) → Sp S t
  | mem {r : F} : S r → Sp S r
  | comb {r s t : F} (x y : Int) : Sp S r → Sp S s → (∀ j, t j = x * r j + y * s j) → Sp S t
  | div {r s : F} (d : Int) : d ≠ 0 → Sp S r → (∀ j, r j = d * s j) → Sp S s
theorem Sp.trans {S T : F → Prop} (h : ∀ r, S r → Sp T r) {r : F} (k : Sp S r) : Sp T r := by
  induction k with
  | zero e => exact .zero e
  | mem e => exact h _ e
  | comb x y _ _ e ih1 ih2 => exact .comb x y ih1 ih2 e
  | div d hd _ e ih => exact .div d hd ih e
end Mx
namespace Mx
inductive All2 {α β : Type} (p : α → β → Prop) : List α → List β → Prop
  | nil : All2 p [] []
  | cons {a : α} {b : β} {as : List α} {bs : List β} : p a b → All2 p as bs → All2 p (a :: as) (b :: bs)
theorem All2.left {α β : Type} {p : α → β → Prop} {as : List α} {bs : List β} (h : All2 p as bs) : ∀ a ∈ as, ∃ b ∈ bs, p a b := by
  induction h with
  | nil => exact fun b hb => nomatch hb
  | cons hp _ ih =>
    intro b hb
    rcases List.mem_cons.mp hb with rfl | hb
    · exact ⟨_, List.mem_cons_self, hp⟩
    · obtain ⟨a, ha, h⟩ := ih b hb
      exact ⟨a, List.mem_cons_of_mem _ ha, h⟩
theorem All2.map {α β γ : Type} {p : β → γ → Prop} {f : α → β} {g : α → γ} : ∀ {l : List α}, (∀ a ∈ l, p (f a) (g a)) → All2 p (l.map f) (l.map g)
  | [], _ => .nil
  | a :: l, h => .cons (h a List.mem_cons_self) (All2.map fun x hx => h x (List.mem_cons_of_mem _ hx))
end Mx
namespace Mx
open DL
theorem erase_map {α β : Type} (f : α → β) : ∀ (l : List α) (i : Nat), (l.map f).eraseIdx i = (l.eraseIdx i).map f
  | [], _ => rfl
  | _ :: _, 0 => rfl
  | a :: l, i + 1 => congrArg (f a :: ·) (erase_map f l i)
end Mx
namespace DL
open PySem PySem.Spec PyProof.Rows L2 Evl Mx
variable [CTab]
/-- a number of less than 9000 bits -/
def Mid (n : Int) : Prop := n.natAbs < 2 ^ (9000 : Nat)
theorem Mid.getD {ns : List Int} {c : Nat} (h : ∀ n ∈ ns, Mid n) : Mid (ns.getD c 0) := by
  rw [List.getD_eq_getElem?_getD]
  by_cases hc : c < ns.length
  · rw [List.getElem?_eq_getElem hc]
    exact h _ (List.getElem_mem hc)
  · rw [List.getElem?_eq_none (by omega)]
    exact Nat.pow_pos (by decide)
end DL
namespace DL
open PySem PySem.Spec PyProof.Rows L2 Evl Mx
variable [CTab]
section
variable {K : PySem.W.Frag} {σ : L2.St} {H H1 Hm H5 Hk6 H6 : Hp} {ta tb tc td : TE} {P1 P2 : PyData → Prop} {E : XK} {D : Ends} {i j : Nat} {p : Addr} {o : HO}
theorem RpAll.erase : ∀ {vs : List V} {ds : List PyData} (i : Nat), RpAll K H vs ds → RpAll K H (vs.eraseIdx i) (ds.eraseIdx i)
  | _, _, _, .nil => .nil
  | _, _, 0, .cons _ r => r
  | _, _, i + 1, .cons h r => .cons h (RpAll.erase i r)
end
end DL
namespace DL
open PySem PySem.Spec PyProof.Rows L2 Evl
variable [CTab]
/-- what a slot holds: a datum; a list that nobody else holds; the bag of draws; just this place; a table of one's own (rows that nobody else holds) -/
inductive Sl where
  | dat (d : PyData)
  | own (ds : List PyData)
  | bag
  | pin (p : Addr)
  | tbl (rows : List (List PyData))
  | owd (t : Bool) (kvs : List (PyData × PyData))
  | ho (f : Addr → HO)
abbrev WEnv := List (Option Sl)
abbrev WE := WEnv → (PyData → Prop) → Prop
abbrev WL := WEnv → (List PyData → Prop) → Prop
abbrev WA := WEnv → (List Sl → Prop) → Prop
abbrev WM := WEnv → (Sl → Prop) → Prop
abbrev WT := WEnv → (Bool → Prop) → Prop
abbrev WB := PyData → WEnv → (WEnv → Prop) → Prop
structure WD where
  nx : WEnv → Prop
  rt : PyData → Prop
  bk : WEnv → Prop
  ct : WEnv → Prop
abbrev WS := WD → WEnv → Prop
/-- things that no store changes -/
def Tame : HO → Prop
  | .rng _ _ => True
  | .ext _ => True
  | _ => False
def HoAt (H : Hp) (v : V) (f : Addr → HO) : Prop := ∃ b, v = .ref b ∧ H b = some (f b) ∧ Tame (f b)
def SlP (K : PySem.W.Frag) (H : Hp) (v : Option (Option V)) : Option (Option Sl) → Prop
  | some (some (.dat d)) => ∃ x, v = some (some x) ∧ Rp K H x d
  | some (some .bag) => ∃ b, v = some (some (.ref b)) ∧ H b = some (BagO b)
  | some (some (.pin p)) => v = some (some (.ref p))
  | some (some (.ho f)) => ∃ x, v = some (some x) ∧ HoAt H x f
  | _ => True
structure FitP (K : PySem.W.Frag) (T : List Addr) (σ : L2.St) (ρ : WEnv) (H : Hp) : Prop where
  len : σ.length = ρ.length
  sl : ∀ i : Nat, SlP K H σ[i]? ρ[i]?
  tabs : Tabs T H
section
variable {K : PySem.W.Frag} {T : List Addr} {S : List Nat} {σ : L2.St} {ρ ρ1 ρk : WEnv} {H H' B B1 H1 Hk H2 : Hp}
theorem HoAt.mono (e : Ex H H') {v : V} {f : Addr → HO} (h : HoAt H v f) : HoAt H' v f := by
  obtain ⟨b, h1, h2, h3⟩ := h
  exact ⟨b, h1, e _ _ h2, h3⟩
theorem Tame.lst {o : HO} (h : Tame o) (vs : List V) : o ≠ .lst vs := fun z => by
  rw [z] at h
  exact h
theorem Tame.frz {o : HO} (h : Tame o) (ob : Obj) (u : HO) : o ≠ .frz ob u := fun z => by
  rw [z] at h
  exact h
theorem Tame.tbl {o : HO} (h : Tame o) (ps : Array Value) : o ≠ .tbl ps := fun z => by
  rw [z] at h
  exact h
theorem SlP.mono (e : Ex H H') {v : Option (Option V)} : ∀ {s : Option (Option Sl)}, SlP K H v s → SlP K H' v s
  | some (some (.dat d)), ⟨x, h, r⟩ => ⟨x, h, r.mono e⟩
  | some (some .bag), ⟨b, h, r⟩ => ⟨b, h, e _ _ r⟩
  | some (some (.own _)), _ => trivial
  | some (some (.tbl _)), _ => trivial
  | some (some (.owd _ _)), _ => trivial
  | some (some (.pin _)), h => h
  | some (some (.ho _)), ⟨x, h, r⟩ => ⟨x, h, r.mono e⟩
  | some none, _ => trivial
  | none, _ => trivial
theorem FitP.mono (F : FitP K T σ ρ H) (e : Ex H H') : FitP K T σ ρ H' := ⟨F.len, fun i => (F.sl i).mono e, F.tabs.mono e⟩
theorem FitP.dat (F : FitP K T σ ρ H) {i : Nat} {d : PyData} (h : ρ[i]? = some (some (.dat d))) : ∃ v, σ[i]? = some (some v) ∧ Rp K H v d := by
  have := F.sl i
  rw [h] at this
  exact this
theorem FitP.bag (F : FitP K T σ ρ H) {i : Nat} (h : ρ[i]? = some (some .bag)) : ∃ b, σ[i]? = some (some (.ref b)) ∧ H b = some (BagO b) := by
  have := F.sl i
  rw [h] at this
  exact this
theorem get_set {α : Type} {l : List α} {i j : Nat} {a : α} : (l.set i a)[j]? = if i = j then (if i < l.length then some a else none) else l[j]? := by
  rw [List.getElem?_set]
theorem FitP.set (F : FitP K T σ ρ H) {i : Nat} {v : V} {d : PyData} (r : Rp K H v d) : FitP K T (σ.set i (some v)) (ρ.set i (some (.dat d))) H := by
  refine ⟨by rw [List.length_set, List.length_set, F.len], fun j => ?_, F.tabs⟩
  rw [get_set, get_set]
  by_cases h : i = j
  · rw [if_pos h, if_pos h, F.len]
    by_cases h2 : i < ρ.length
    · rw [if_pos h2, if_pos h2]
      exact ⟨v, rfl, r⟩
    · rw [if_neg h2, if_neg h2]
      trivial
  · rw [if_neg h, if_neg h]
    exact F.sl j
def wipeW (ρ : WEnv) : List Nat → WEnv
  | [] => ρ
  | v :: vs => (wipeW ρ vs).set v none
theorem FitP.none (F : FitP K T σ ρ H) (i : Nat) : FitP K T (σ.set i none) (ρ.set i none) H := by
  refine ⟨by rw [List.length_set, List.length_set, F.len], fun j => ?_, F.tabs⟩
  rw [get_set, get_set]
  by_cases h : i = j
  · rw [if_pos h, if_pos h, F.len]
    by_cases h2 : i < ρ.length
    · rw [if_pos h2, if_pos h2]
      trivial
    · rw [if_neg h2, if_neg h2]
      trivial
  · rw [if_neg h, if_neg h]
    exact F.sl j
theorem FitP.wipe (F : FitP K T σ ρ H) : ∀ vs : List Nat, FitP K T (wipe σ vs) (wipeW ρ vs) H
  | [] => F
  | v :: vs => (FitP.wipe F vs).none v
theorem wipe_get {σ : L2.St} {j : Nat} : ∀ {vs : List Nat}, (L2.wipe σ vs)[j]? = if j ∈ vs then (if j < σ.length then some none else none) else σ[j]?
  | [] => by simp [L2.wipe]
  | v :: vs => by
    show ((L2.wipe σ vs).set v none)[j]? = _
    rw [get_set, wipe_get (vs := vs), L2.wipe_length]
    by_cases h : v = j
    · subst h
      simp
    · rw [if_neg h]
      have : (j ∈ v :: vs) ↔ j ∈ vs := by
        rw [List.mem_cons]
        exact ⟨fun z => z.resolve_left fun e => h e.symm, .inr⟩
      by_cases h2 : j ∈ vs
      · rw [if_pos h2, if_pos (this.mpr h2)]
      · rw [if_neg h2, if_neg fun z => h2 (this.mp z)]
/-- what is wiped is wiped, whatever stood there -/
theorem wipe_eq {σ σ' : L2.St} {vs : List Nat} (hl : σ'.length = σ.length) (h : ∀ j, j ∉ vs → σ'[j]? = (L2.wipe σ vs)[j]?) : L2.wipe σ' vs = L2.wipe σ vs := by
  apply List.ext_getElem?
  intro j
  rw [wipe_get, wipe_get]
  by_cases hj : j ∈ vs
  · rw [if_pos hj, if_pos hj, hl]
  · rw [if_neg hj, if_neg hj, h j hj, wipe_get, if_neg hj]
/-- a thing of one's own: a list; a dict (t: with tuple keys), which stands locked between the stores -/
inductive Cont where
  | lst (ds : List PyData)
  | dic (t : Bool) (kvs : List (PyData × PyData))
def Sl.ownC : Sl → Option Cont
  | .own ds => some (.lst ds)
  | .owd t kvs => some (.dic t kvs)
  | _ => none
def Cont.dat : Cont → PyData
  | .lst ds => .list ds
  | .dic _ kvs => .dict kvs
def OwnAt (K : PySem.W.Frag) (H H1 : Hp) (p : Addr) : Cont → Prop
  | .lst ds => ∃ vs, H1 p = some (.lst vs) ∧ RpAll K H vs ds
  | .dic false kvs => ∃ o, ∃ ks : List (Key × V), H1 p = some (.frz o (.dK ks)) ∧ RpKv K H (ks.map fun p => (kD p.1, p.2)) kvs
  | .dic true kvs => ∃ xs : List Ent, FzN H1 p xs ∧ KeysAt K H xs ∧ RpKv K H (entD xs) kvs
theorem OwnAt.is {K : PySem.W.Frag} {H H1 : Hp} {p : Addr} : ∀ {c : Cont}, OwnAt K H H1 p c → ∃ o, H1 p = some o ∧ NT o
  | .lst _, ⟨vs, h, _⟩ => ⟨_, h, NT.lst⟩
  | .dic false _, ⟨_, _, h, _⟩ => ⟨_, h, fun _ z => nomatch z⟩
  | .dic true _, ⟨_, ⟨o, h⟩, _⟩ => ⟨_, h, fun _ z => nomatch z⟩
theorem OwnAt.go {K : PySem.W.Frag} {H H' H1 H2 : Hp} {p : Addr} (e : Ex H H') (e1 : ∀ o, H1 p = some o → H2 p = some o) : ∀ {c : Cont}, OwnAt K H H1 p c → OwnAt K H' H2 p c
  | .lst _, ⟨vs, h, r⟩ => ⟨vs, e1 _ h, r.mono e⟩
  | .dic false _, ⟨o, ks, h, r⟩ => ⟨o, ks, e1 _ h, RpKv.mono e r⟩
  | .dic true _, ⟨xs, ⟨o, h⟩, hk, r⟩ => ⟨xs, ⟨o, e1 _ h⟩, hk.mono e, RpKv.mono e r⟩
theorem OwnAt.rp {K : PySem.W.Frag} {H H1 Ht : Hp} {p : Addr} (e : Ex H Ht) (e1 : ∀ o, H1 p = some o → Ht p = some o) : ∀ {c : Cont}, OwnAt K H H1 p c → Rp K Ht (.ref p) c.dat
  | .lst _, ⟨vs, h, r⟩ => .lst (sq_of (e1 _ h)) (r.mono e)
  | .dic false _, ⟨o, ks, h, r⟩ => .dic (.k ⟨o, e1 _ h⟩) (RpKv.mono e r)
  | .dic true _, ⟨xs, ⟨o, h⟩, hk, r⟩ => .dic (.n ⟨o, e1 _ h⟩ (hk.mono e)) (RpKv.mono e r)
/-- the heap at the def's entry -/
class Base where
  h0 : Hp
structure FitO [Base] (K : PySem.W.Frag) (B1 : Hp) (σ : L2.St) (ρ : WEnv) (H H1 : Hp) : Prop where
  at1 : ∀ (i : Nat) s c, ρ[i]? = some (some s) → s.ownC = some c → ∃ p, σ[i]? = some (some (.ref p)) ∧ H p = none ∧ B1 p = none ∧ OwnAt K H H1 p c
  sep1 : ∀ (i j : Nat) p s c s' c', ρ[i]? = some (some s) → s.ownC = some c → ρ[j]? = some (some s') → s'.ownC = some c' → σ[i]? = some (some (.ref p)) → σ[j]? = some (some (.ref p)) → i = j
  b0 : ∀ a, B1 a = none → Base.h0 a = none
theorem FitO.own [Base] {K : PySem.W.Frag} {B1 : Hp} {σ : L2.St} {ρ : WEnv} {H H1 : Hp} (F : FitO K B1 σ ρ H H1) (i : Nat) (ds : List PyData) (h : ρ[i]? = some (some (.own ds))) : ∃ p vs, σ[i]? = some (some (.ref p)) ∧ H p = none ∧ B1 p = none ∧ H1 p = some (.lst vs) ∧ RpAll K H vs ds := by
  obtain ⟨p, a, b, c, vs, d, e⟩ := F.at1 i _ _ h rfl
  exact ⟨p, vs, a, b, c, d, e⟩
structure Fit [Base] (K : PySem.W.Frag) (T : List Addr) (B B1 : Hp) (σ : L2.St) (ρ : WEnv) (H H1 : Hp) : Prop where
  g : Grow B B1 H H1
  p : FitP K T σ ρ H
  o : FitO K B1 σ ρ H H1
def OwnA (S : List Nat) (σ : L2.St) (ρ : WEnv) (a : Addr) : Prop := ∃ (i : Nat) (s : Sl) (c : Cont), i ∈ S ∧ ρ[i]? = some (some s) ∧ s.ownC = some c ∧ σ[i]? = some (some (.ref a))
open Classical in
noncomputable def tellH (S : List Nat) (σ : L2.St) (ρ : WEnv) (H H1 : Hp) : Hp := fun a => if OwnA S σ ρ a then H1 a else H a
open Classical in
noncomputable def cutH (S : List Nat) (σ : L2.St) (ρ : WEnv) (H : Hp) : Hp := fun a => if OwnA S σ ρ a then none else H a
theorem tellH_own {a : Addr} (h : OwnA S σ ρ a) : tellH S σ ρ H H1 a = H1 a := if_pos h
theorem tellH_not {a : Addr} (h : ¬ OwnA S σ ρ a) : tellH S σ ρ H H1 a = H a := if_neg h
theorem cutH_own {a : Addr} (h : OwnA S σ ρ a) : cutH S σ ρ H a = none := if_pos h
theorem cutH_not {a : Addr} (h : ¬ OwnA S σ ρ a) : cutH S σ ρ H a = H a := if_neg h
theorem cutH_ex : Ex (cutH S σ ρ H) H := fun a o h => by
  by_cases c : OwnA S σ ρ a
  · rw [cutH_own c] at h
    cases h
  · rwa [cutH_not c] at h
theorem FitO.at [Base] (F : FitO K B1 σ ρ H H1) {a : Addr} (h : OwnA S σ ρ a) : ∃ (i : Nat) (s : Sl) (c : Cont), i ∈ S ∧ ρ[i]? = some (some s) ∧ s.ownC = some c ∧ σ[i]? = some (some (.ref a)) ∧ H a = none ∧ B1 a = none ∧ OwnAt K H H1 a c := by
  obtain ⟨i, s, c, h0, h1, h2, h3⟩ := h
  obtain ⟨p, e, a1, a2, a3⟩ := F.at1 i s c h1 h2
  rw [h3] at e
  cases e
  exact ⟨i, s, c, h0, h1, h2, h3, a1, a2, a3⟩
theorem FitO.no [Base] (F : FitO K B1 σ ρ H H1) {a : Addr} (h : OwnA S σ ρ a) : H a = none ∧ B1 a = none := by
  obtain ⟨_, _, _, _, _, _, _, n, n1, _⟩ := F.at h
  exact ⟨n, n1⟩
def Sl.tell : Sl → Sl
  | .own ds => .dat (.list ds)
  | .owd _ kvs => .dat (.dict kvs)
  | s => s
/-- one list of one's own is told -/
def tell1 (ρ : WEnv) (i : Nat) : WEnv := match ρ[i]? with
  | some (some (.own ds)) => ρ.set i (some (.dat (.list ds)))
  | some (some (.owd _ kvs)) => ρ.set i (some (.dat (.dict kvs)))
  | _ => ρ
def tells : List Nat → WEnv → WEnv
  | [], ρ => ρ
  | i :: S, ρ => tells S (tell1 ρ i)
theorem tell1_len {ρ : WEnv} {i : Nat} : (tell1 ρ i).length = ρ.length := by
  unfold tell1
  split
  · rw [List.length_set]
  · rw [List.length_set]
  · rfl
theorem tells_len : ∀ {S : List Nat} {ρ : WEnv}, (tells S ρ).length = ρ.length
  | [], _ => rfl
  | i :: S, ρ => (tells_len (S := S)).trans tell1_len
theorem tell1_get {ρ : WEnv} {i j : Nat} : (tell1 ρ i)[j]? = if i = j then (ρ[j]?).map (fun s => s.map Sl.tell) else ρ[j]? := by
  unfold tell1
  split
  · rename_i ds h
    rw [get_set]
    by_cases c : i = j
    · subst c
      rw [if_pos rfl, if_pos rfl, h, if_pos (List.getElem?_eq_some_iff.mp h).1]
      rfl
    · rw [if_neg c, if_neg c]
  · rename_i t kvs h
    rw [get_set]
    by_cases c : i = j
    · subst c
      rw [if_pos rfl, if_pos rfl, h, if_pos (List.getElem?_eq_some_iff.mp h).1]
      rfl
    · rw [if_neg c, if_neg c]
  · rename_i h h'
    by_cases c : i = j
    · subst c
      rw [if_pos rfl]
      cases e : ρ[i]? with
      | none => rfl
      | some s =>
        cases s with
        | none => rfl
        | some s =>
          cases s with
          | own ds => exact absurd e (h ds)
          | owd t kvs => exact absurd e (h' t kvs)
          | dat d => rfl
          | bag => rfl
          | pin _ => rfl
          | tbl _ => rfl
          | ho _ => rfl
    · rw [if_neg c]
theorem tell_tell (s : Sl) : s.tell.tell = s.tell := by cases s <;> rfl
theorem tells_get : ∀ {S : List Nat} {ρ : WEnv} {j : Nat}, (tells S ρ)[j]? = if j ∈ S then (ρ[j]?).map (fun s => s.map Sl.tell) else ρ[j]?
  | [], ρ, j => by
    rw [if_neg (List.not_mem_nil)]
    rfl
  | i :: S, ρ, j => by
    show (tells S (tell1 ρ i))[j]? = _
    rw [tells_get (S := S), tell1_get]
    by_cases c : i = j
    · subst c
      rw [if_pos rfl, if_pos List.mem_cons_self]
      split
      · rw [Option.map_map]
        congr 1
        funext s
        cases s with
        | none => rfl
        | some s => exact congrArg some (tell_tell s)
      · rfl
    · rw [if_neg c]
      by_cases h : j ∈ S
      · rw [if_pos h, if_pos (List.mem_cons_of_mem _ h)]
      · rw [if_neg h, if_neg fun z => (List.mem_cons.mp z).elim (fun e => c e.symm) h]
theorem tell_ex [Base] (F : FitO K B1 σ ρ H H1) (e : Ex H H1) : Ex H (tellH S σ ρ H H1) ∧ Ex (tellH S σ ρ H H1) H1 := ⟨fun a o h => by
    by_cases c : OwnA S σ ρ a
    · rw [(F.no c).1] at h
      cases h
    · rw [tellH_not c]
      exact h, fun a o h => by
    by_cases c : OwnA S σ ρ a
    · rwa [tellH_own c] at h
    · rw [tellH_not c] at h
      exact e a o h⟩
theorem Fit.told [Base] (F : Fit K T B B1 σ ρ H H1) : FitP K T σ (tells S ρ) (tellH S σ ρ H H1) := by
  have e := tell_ex (S := S) F.o F.g.sub
  refine ⟨by rw [F.p.len, tells_len], fun i => ?_, F.p.tabs.mono e.1⟩
  have h := F.p.sl i
  rw [tells_get]
  by_cases c : i ∈ S
  · rw [if_pos c]
    cases q : ρ[i]? with
    | none => trivial
    | some s =>
      cases s with
      | none => trivial
      | some s =>
        rw [q] at h
        cases s with
        | dat d => exact h.mono e.1
        | bag => exact h.mono e.1
        | ho _ => exact h.mono e.1
        | pin _ => exact h
        | tbl _ => trivial
        | own ds =>
          obtain ⟨p, e1, e2, e3, e4⟩ := F.o.at1 i _ _ q rfl
          exact ⟨_, e1, e4.rp e.1 fun o z => by rw [tellH_own ⟨i, _, _, c, q, rfl, e1⟩]; exact z⟩
        | owd t kvs =>
          obtain ⟨p, e1, e2, e3, e4⟩ := F.o.at1 i _ _ q rfl
          exact ⟨_, e1, e4.rp e.1 fun o z => by rw [tellH_own ⟨i, _, _, c, q, rfl, e1⟩]; exact z⟩
  · rw [if_neg c]
    exact h.mono e.1
theorem Fit.toldG [Base] (F : Fit K T B B1 σ ρ H H1) : Grow B B1 (tellH S σ ρ H H1) H1 := by
  have e := tell_ex (S := S) F.o F.g.sub
  refine ⟨F.g.known.trans e.1, e.2, F.g.all, fun a o h n t => ?_⟩
  by_cases c : OwnA S σ ρ a
  · exact (F.o.no c).2
  · rw [tellH_not c] at h
    exact F.g.fresh a o h n t
def Sub (ρk ρ : WEnv) : Prop := ρk.length = ρ.length ∧ ∀ (i : Nat) s, ρk[i]? = some (some s) → ρ[i]? = some (some s)
theorem Sub.refl (ρ : WEnv) : Sub ρ ρ := ⟨rfl, fun _ _ h => h⟩
theorem Sub.none {ρk ρ : WEnv} (h : Sub ρk ρ) (i : Nat) : Sub (ρk.set i none) ρ := ⟨by rw [List.length_set, h.1], fun j s e => by
  rw [get_set] at e
  by_cases c : i = j
  · rw [if_pos c] at e
    split at e <;> cases e
  · rw [if_neg c] at e
    exact h.2 j s e⟩
theorem OwnA.sub {a : Addr} (s : Sub ρk ρ) (h : OwnA S σ ρk a) : OwnA S σ ρ a := by
  obtain ⟨i, t, c, e0, e1, e2, e3⟩ := h
  exact ⟨i, t, c, e0, s.2 i _ e1, e2, e3⟩
theorem Fit.after [Base] (F : Fit K T B B1 σ ρ H H1) (s : Sub ρk ρ) (g : Grow (tellH S σ ρ H H1) H1 Hk H2) : Fit K T B B1 σ ρk (cutH S σ ρk Hk) H2 := by
  have e := tell_ex (S := S) F.o F.g.sub
  have eH : Ex H (cutH S σ ρk Hk) := fun a o h => by
    have c : ¬ OwnA S σ ρk a := fun c => by
      rw [(F.o.no (c.sub s)).1] at h
      cases h
    rw [cutH_not c]
    exact g.known a o (e.1 a o h)
  refine ⟨⟨F.g.known.trans eH, cutH_ex.trans g.sub, F.g.all.trans g.all, fun a o h n t => ?_⟩, ?_, ?_⟩
  · have h' := cutH_ex a o h
    by_cases c : OwnA S σ ρ a
    · exact (F.o.no c).2
    · cases q : tellH S σ ρ H H1 a with
      | none => exact ex_none F.g.all (g.fresh a o h' q t)
      | some u =>
        have t' := NT.of ((g.known a u q).symm.trans h') t
        rw [tellH_not c] at q
        exact F.g.fresh a u q n t'
  · refine ⟨by rw [F.p.len, s.1], fun i => ?_, F.p.tabs.mono eH⟩
    cases q : ρk[i]? with
    | none => trivial
    | some t =>
      cases t with
      | none => trivial
      | some t =>
        have h := F.p.sl i
        rw [s.2 i t q] at h
        cases t with
        | dat d => exact h.mono eH
        | bag => exact h.mono eH
        | ho _ => exact h.mono eH
        | pin _ => exact h
        | tbl _ => trivial
        | own ds => trivial
        | owd _ _ => trivial
  · refine ⟨fun i t ct q qc => ?_, fun i j p t ct t' ct' q1 qc q2 qc' => F.o.sep1 i j p t ct t' ct' (s.2 i _ q1) qc (s.2 j _ q2) qc', F.o.b0⟩
    obtain ⟨p, e1, e2, e3, e4⟩ := F.o.at1 i t ct (s.2 i _ q) qc
    refine ⟨p, e1, ?_, e3, e4.go eH (g.all p)⟩
    by_cases c : OwnA S σ ρ p
    · by_cases c2 : OwnA S σ ρk p
      · exact cutH_own c2
      · obtain ⟨j, t', ct', j1, j2, j3, j4⟩ := c
        have ej := F.o.sep1 i j p t ct t' ct' (s.2 i _ q) qc j2 j3 e1 j4
        subst ej
        exact absurd ⟨i, t, ct, j1, q, qc, e1⟩ c2
    · have c2 : ¬ OwnA S σ ρk p := fun z => c (z.sub s)
      rw [cutH_not c2]
      obtain ⟨o, ho, no⟩ := e4.is
      exact g.unk (by rw [tellH_not c]; exact e2) ho no
theorem Fit.grow [Base] (F : Fit K T B B1 σ ρ H H1) (g : Grow H H1 Hk H2) : Fit K T B B1 σ ρ Hk H2 :=
  ⟨F.g.trans g, F.p.mono g.known, fun i t ct q qc => by
    obtain ⟨p, e1, e2, e3, e4⟩ := F.o.at1 i t ct q qc
    obtain ⟨o, ho, no⟩ := e4.is
    exact ⟨p, e1, g.unk e2 ho no, e3, e4.go g.known (g.all p)⟩, F.o.sep1, F.o.b0⟩
end
def skl : PyData → PyData
  | .list _ => .dict []
  | .tuple _ => .dict []
  | .dict _ => .dict []
  | d => d
def sklV : V → Option PyData
  | .non => some .none
  | .bl b => some (.bool b)
  | .int i => some (.int i)
  | .str x => some (.str x)
  | .ref _ => some (.dict [])
  | _ => none
mutual
def fre (es : List PyData) : PyData → Prop
  | .list ds => ds.map skl ≠ es ∧ freAll es ds
  | .tuple ds => freAll es ds
  | .dict kvs => freKv es kvs
  | .none => True
  | .bool _ => True
  | .int _ => True
  | .str _ => True
def freAll (es : List PyData) : List PyData → Prop
  | [] => True
  | d :: ds => fre es d ∧ freAll es ds
def freKv (es : List PyData) : List (PyData × PyData) → Prop
  | [] => True
  | (_, d) :: ds => fre es d ∧ freKv es ds
end
mutual
def noDic : PyData → Bool
  | .list ds => noDicA ds
  | .tuple ds => noDicA ds
  | .dict _ => false
  | _ => true
def noDicA : List PyData → Bool
  | [] => true
  | d :: ds => noDic d && noDicA ds
end
def FreeE : List Nat → WEnv → PyData → Prop
  | [], _, _ => True
  | i :: S, ρ, d => (match ρ[i]? with
    | some (some (.own ds)) => fre (ds.map skl) d
    | some (some (.owd _ _)) => noDic d = true
    | _ => True) ∧ FreeE S ρ d
theorem FreeE.get : ∀ {S : List Nat} {ρ : WEnv} {d : PyData} {i : Nat} {ds : List PyData}, FreeE S ρ d → i ∈ S → ρ[i]? = some (some (.own ds)) → fre (ds.map skl) d
  | j :: S, ρ, d, i, ds, h, m, e => by
    by_cases c : i = j
    · subst c
      have := h.1
      rw [e] at this
      exact this
    · exact FreeE.get h.2 ((List.mem_cons.mp m).resolve_left c) e
theorem FreeE.getd : ∀ {S : List Nat} {ρ : WEnv} {d : PyData} {i : Nat} {t : Bool} {kvs : List (PyData × PyData)}, FreeE S ρ d → i ∈ S → ρ[i]? = some (some (.owd t kvs)) → noDic d = true
  | j :: S, ρ, d, i, t, kvs, h, m, e => by
    by_cases c : i = j
    · subst c
      have := h.1
      rw [e] at this
      exact this
    · exact FreeE.getd h.2 ((List.mem_cons.mp m).resolve_left c) e
section
variable {K : PySem.W.Frag} {T : List Addr} {S : List Nat} {σ : L2.St} {ρ ρ1 ρk : WEnv} {H H' B B1 H1 Hk H2 : Hp}
theorem skl_of {H : Hp} {v : V} {d : PyData} (r : Rp K H v d) : sklV v = some (skl d) := by cases r <;> rfl
theorem skl_all {H H' : Hp} : ∀ {vs : List V} {ds es : List PyData}, RpAll K H vs ds → RpAll K H' vs es → ds.map skl = es.map skl
  | _, _, _, .nil, .nil => rfl
  | _, _, _, .cons h r, .cons h' r' => by
    have e := (skl_of h).symm.trans (skl_of h')
    rw [List.map_cons, List.map_cons, skl_all r r', Option.some.inj e]
/-- the own things of ρk stand in Hk, told by σ -/
def OwnIn (K : PySem.W.Frag) (S : List Nat) (σ : L2.St) (ρk : WEnv) (Hk : Hp) : Prop := ∀ a, OwnA S σ ρk a → ∃ (i : Nat) (s : Sl) (c : Cont) (H : Hp), i ∈ S ∧ ρk[i]? = some (some s) ∧ s.ownC = some c ∧ OwnAt K H Hk a c
structure Fr (S : List Nat) (ρk : WEnv) (d : PyData) : Prop where
  l : ∀ (i : Nat) ds, i ∈ S → ρk[i]? = some (some (.own ds)) → fre (ds.map skl) d
  d : ∀ (i : Nat) t kvs, i ∈ S → ρk[i]? = some (some (.owd t kvs)) → noDic d = true
structure FrA (S : List Nat) (ρk : WEnv) (ds : List PyData) : Prop where
  l : ∀ (i : Nat) es, i ∈ S → ρk[i]? = some (some (.own es)) → freAll (es.map skl) ds
  d : ∀ (i : Nat) t kvs, i ∈ S → ρk[i]? = some (some (.owd t kvs)) → noDicA ds = true
structure FrKv (S : List Nat) (ρk : WEnv) (ds : List (PyData × PyData)) : Prop where
  l : ∀ (i : Nat) es, i ∈ S → ρk[i]? = some (some (.own es)) → freKv (es.map skl) ds
  d : ∀ (i : Nat) t kvs, i ∈ S → ρk[i]? = some (some (.owd t kvs)) → False
theorem FreeE.fr {d : PyData} (h : FreeE S ρk d) : Fr S ρk d := ⟨fun _ _ m e => h.get m e, fun _ _ _ m e => h.getd m e⟩
theorem Fr.list {ds : List PyData} (h : Fr S ρk (.list ds)) : (∀ (i : Nat) es, i ∈ S → ρk[i]? = some (some (.own es)) → ds.map skl ≠ es.map skl) ∧ FrA S ρk ds := ⟨fun i es m e => by
    have := h.l i es m e
    unfold fre at this
    exact this.1, fun i es m e => by
    have := h.l i es m e
    unfold fre at this
    exact this.2, fun i t kvs m e => by
    have := h.d i t kvs m e
    unfold noDic at this
    exact this⟩
theorem Fr.tup {ds : List PyData} (h : Fr S ρk (.tuple ds)) : FrA S ρk ds := ⟨fun i es m e => by
    have := h.l i es m e
    unfold fre at this
    exact this, fun i t kvs m e => by
    have := h.d i t kvs m e
    unfold noDic at this
    exact this⟩
theorem Fr.dic {ds : List (PyData × PyData)} (h : Fr S ρk (.dict ds)) : FrKv S ρk ds := ⟨fun i es m e => by
    have := h.l i es m e
    unfold fre at this
    exact this, fun i t kvs m e => by
    have := h.d i t kvs m e
    unfold noDic at this
    exact nomatch this⟩
theorem FrA.hd {d : PyData} {ds : List PyData} (h : FrA S ρk (d :: ds)) : Fr S ρk d ∧ FrA S ρk ds := ⟨⟨fun i es m e => by
    have := h.l i es m e
    unfold freAll at this
    exact this.1, fun i t kvs m e => by
    have := h.d i t kvs m e
    unfold noDicA at this
    exact (Bool.and_eq_true_iff.mp this).1⟩, fun i es m e => by
    have := h.l i es m e
    unfold freAll at this
    exact this.2, fun i t kvs m e => by
    have := h.d i t kvs m e
    unfold noDicA at this
    exact (Bool.and_eq_true_iff.mp this).2⟩
theorem FrKv.hd {d k : PyData} {ds : List (PyData × PyData)} (h : FrKv S ρk ((k, d) :: ds)) : Fr S ρk d ∧ FrKv S ρk ds := ⟨⟨fun i es m e => by
    have := h.l i es m e
    unfold freKv at this
    exact this.1, fun i t kvs m e => (h.d i t kvs m e).elim⟩, fun i es m e => by
    have := h.l i es m e
    unfold freKv at this
    exact this.2, h.d⟩
theorem OwnIn.not (O : OwnIn K S σ ρk Hk) {a : Addr} {u : HO} (h : Hk a = some u) (hu : ∀ vs, u ≠ .lst vs) (hd : (∀ o ks, u ≠ .frz o (.dK ks)) ∧ ∀ o xs, u ≠ .frz o (dNX CTab.w a xs)) : ¬ OwnA S σ ρk a := fun c => by
  obtain ⟨i, s, c, H, e0, e1, e2, e3⟩ := O a c
  cases c with
  | lst es =>
    obtain ⟨vs, e3, _⟩ := e3
    rw [e3] at h
    exact hu vs (Option.some.inj h).symm
  | dic t kvs =>
    cases t
    · obtain ⟨o, ks, e3, _⟩ := e3
      rw [e3] at h
      exact hd.1 o ks (Option.some.inj h).symm
    · obtain ⟨xs, ⟨o, e3⟩, _⟩ := e3
      rw [e3] at h
      exact hd.2 o xs (Option.some.inj h).symm
theorem OwnIn.notd (O : OwnIn K S σ ρk Hk) {kvs : List (PyData × PyData)} (f : FrKv S ρk kvs) {a : Addr} {u : HO} (h : Hk a = some u) (hu : ∀ vs, u ≠ .lst vs) : ¬ OwnA S σ ρk a := fun c => by
  obtain ⟨i, s, c, H, e0, e1, e2, e3⟩ := O a c
  cases s with
  | own es =>
    cases e2
    obtain ⟨vs, e3, _⟩ := e3
    rw [e3] at h
    exact hu vs (Option.some.inj h).symm
  | owd t kvs => exact f.d i t kvs e0 e1
  | dat _ => cases e2
  | bag => cases e2
  | pin _ => cases e2
  | tbl _ => cases e2
  | ho _ => cases e2
theorem slO_ne {a C dx : Addr} {vs : List (Option V)} (xs : List V) : SlX.SlO a C dx vs ≠ .lst xs := fun z => by
  unfold SlX.SlO at z
  cases z
theorem TpH.cutO (O : OwnIn K S σ ρk Hk) {a : Addr} {xs : List V} (h : TpH K Hk a xs) : TpH K (cutH S σ ρk Hk) a xs := by
  have cut : ∀ u : HO, Hk a = some u → (∀ vs, u ≠ .lst vs) → ((∀ o ks, u ≠ .frz o (.dK ks)) ∧ ∀ o xs, u ≠ .frz o (dNX CTab.w a xs)) → cutH S σ ρk Hk a = some u := fun u z n n2 => by
    rw [cutH_not (O.not z n n2)]
    exact z
  rcases h with h | ⟨e0, (h | ⟨ob, h⟩) | h⟩
  · exact .inl (cut _ h (fun vs z => nomatch z) ⟨(fun _ _ z => nomatch z), (fun _ _ z => nomatch z)⟩)
  · exact .inr ⟨e0, .inl (.inl (cut _ h (fun vs z => nomatch z) ⟨(fun _ _ z => nomatch z), (fun _ _ z => nomatch z)⟩))⟩
  · exact .inr ⟨e0, .inl (.inr ⟨ob, cut _ h (fun vs z => nomatch z) ⟨(fun _ _ z => nomatch z), (fun _ _ z => nomatch z)⟩⟩)⟩
  · exact .inr ⟨e0, .inr h⟩
mutual
theorem KeyAt.cutO (O : OwnIn K S σ ρk Hk) : ∀ {k : NestedKey} {v : V}, KeyAt K Hk k v → KeyAt K (cutH S σ ρk Hk) k v
  | _, _, .non => .non
  | _, _, .int i => .int i
  | _, _, .str x => .str x
  | _, _, .tup h q => .tup (h.cutO O) (KeyAll.cutO O q)
theorem KeyAll.cutO (O : OwnIn K S σ ρk Hk) : ∀ {ks : List NestedKey} {vs : List V}, KeyAll K Hk ks vs → KeyAll K (cutH S σ ρk Hk) ks vs
  | _, _, .nil => .nil
  | _, _, .cons h q => .cons (KeyAt.cutO O h) (KeyAll.cutO O q)
end
theorem KeysAt.cutO (O : OwnIn K S σ ρk Hk) {xs : List Ent} (h : KeysAt K Hk xs) : KeysAt K (cutH S σ ρk Hk) xs := fun x hx => (h x hx).cutO O
theorem DicH.cutO (O : OwnIn K S σ ρk Hk) {ds : List (PyData × PyData)} (f : FrKv S ρk ds) {a : Addr} {kvs : List (PyData × V)} : DicH K Hk a kvs → DicH K (cutH S σ ρk Hk) a kvs
  | .k ⟨ob, h⟩ => .k ⟨ob, by rw [cutH_not (O.notd f h fun vs z => nomatch z)]; exact h⟩
  | .n ⟨ob, h⟩ hk => .n ⟨ob, by rw [cutH_not (O.notd f h fun vs z => nomatch z)]; exact h⟩ (hk.cutO O)
  | .o h1 h2 h3 h4 hs => .o h1 h2 (by rw [cutH_not (O.notd f h3 slO_ne)]; exact h3) (by rw [cutH_not (O.notd f h4 fun vs z => nomatch z)]; exact h4) hs
mutual
theorem Rp.cutO (O : OwnIn K S σ ρk Hk) : ∀ {v : V} {d : PyData}, Rp K Hk v d → Fr S ρk d → Rp K (cutH S σ ρk Hk) v d
  | _, _, .non, _ => .non
  | _, _, .bl b, _ => .bl b
  | _, _, .int i, _ => .int i
  | _, _, .str x, _ => .str x
  | _, _, @Rp.lst _ _ _ a xs ds h r, f => by
    refine .lst ?_ (RpAll.cutO O r f.list.2)
    rcases h with h | h
    · refine .inl ?_
      have na : ¬ OwnA S σ ρk a := fun c => by
        obtain ⟨i, s, c, H, e0, e1, e2, e3⟩ := O a c
        cases s with
        | own es =>
          cases e2
          obtain ⟨vs, e2, e3⟩ := e3
          rcases h with h | ⟨o, h⟩
          · rw [e2] at h
            cases h
            exact f.list.1 i es e0 e1 (skl_all r e3)
          · rw [e2] at h
            cases h
        | owd t kvs =>
          cases e2
          cases t
          · obtain ⟨_, _, e2, _⟩ := e3
            rcases h with h | ⟨o, h⟩ <;> (rw [e2] at h; cases h)
          · obtain ⟨_, ⟨_, e2⟩, _⟩ := e3
            rcases h with h | ⟨o, h⟩ <;> (rw [e2] at h; cases h)
        | dat _ => cases e2
        | bag => cases e2
        | pin _ => cases e2
        | tbl _ => cases e2
        | ho _ => cases e2
      rcases h with h | ⟨o, h⟩
      · exact .inl (by rw [cutH_not na]; exact h)
      · exact .inr ⟨o, by rw [cutH_not na]; exact h⟩
    · exact .inr h
  | _, _, @Rp.tup _ _ _ a xs ds h r, f => by
    exact .tup (h.cutO O) (RpAll.cutO O r f.tup)
  | _, _, .dic h r, f => .dic (h.cutO O f.dic) (RpKv.cutO O r f.dic)
theorem RpAll.cutO (O : OwnIn K S σ ρk Hk) : ∀ {vs : List V} {ds : List PyData}, RpAll K Hk vs ds → FrA S ρk ds → RpAll K (cutH S σ ρk Hk) vs ds
  | _, _, .nil, _ => .nil
  | _, _, .cons h r, f => .cons (Rp.cutO O h f.hd.1) (RpAll.cutO O r f.hd.2)
theorem RpKv.cutO (O : OwnIn K S σ ρk Hk) : ∀ {vs : List (PyData × V)} {ds : List (PyData × PyData)}, RpKv K Hk vs ds → FrKv S ρk ds → RpKv K (cutH S σ ρk Hk) vs ds
  | _, _, .nil, _ => .nil
  | _, _, .cons h r, f => .cons (Rp.cutO O h f.hd.1) (RpKv.cutO O r f.hd.2)
end
theorem freAll_of {es : List PyData} : ∀ {ds : List PyData}, (∀ d ∈ ds, fre es d) → freAll es ds
  | [], _ => by unfold freAll; trivial
  | d :: ds, h => by
    unfold freAll
    exact ⟨h d List.mem_cons_self, freAll_of fun e he => h e (List.mem_cons_of_mem _ he)⟩
theorem noDicA_of : ∀ {ds : List PyData}, (∀ d ∈ ds, noDic d = true) → noDicA ds = true
  | [], _ => by unfold noDicA; rfl
  | d :: ds, h => by
    unfold noDicA
    rw [h d List.mem_cons_self, noDicA_of fun e he => h e (List.mem_cons_of_mem _ he)]
    rfl
theorem Fit.ownIn [Base] (F : Fit K T B B1 σ ρ H H1) (s : Sub ρk ρ) (g : Grow (tellH S σ ρ H H1) H1 Hk H2) : OwnIn K S σ ρk Hk := fun a q => by
  obtain ⟨i, t, c, h0, h1, h2, h3⟩ := q
  obtain ⟨p, e1, e2, e3, e4⟩ := F.o.at1 i t c (s.2 i _ h1) h2
  rw [h3] at e1
  cases e1
  exact ⟨i, t, c, H, h0, h1, h2, e4.go (fun _ _ z => z) fun o z => g.known _ _ (by rw [tellH_own ⟨i, t, c, h0, s.2 i _ h1, h2, h3⟩]; exact z)⟩
def RpM (K : PySem.W.Frag) (H1 Hk H2 : Hp) (v : V) : Sl → Prop
  | .dat d => Rp K Hk v d
  | .bag => ∃ b, v = .ref b ∧ Hk b = some (BagO b)
  | .pin p => v = .ref p
  | .tbl _ => True
  | .ho f => HoAt Hk v f
  | .own ds => ∃ p us, v = .ref p ∧ Hk p = none ∧ H1 p = none ∧ H2 p = some (.lst us) ∧ RpAll K Hk us ds
  | .owd t kvs => ∃ p, v = .ref p ∧ Hk p = none ∧ H1 p = none ∧ OwnAt K Hk H2 p (.dic t kvs)
theorem RpM.own {v : V} {s : Sl} {c : Cont} (h : RpM K H1 Hk H2 v s) (e : s.ownC = some c) : ∃ p, v = .ref p ∧ Hk p = none ∧ H1 p = none ∧ OwnAt K Hk H2 p c := by
  cases s with
  | own ds =>
    cases e
    obtain ⟨p, us, e1, e2, e3, e4, e5⟩ := h
    exact ⟨p, e1, e2, e3, us, e4, e5⟩
  | owd t kvs =>
    cases e
    exact h
  | dat _ => cases e
  | bag => cases e
  | pin _ => cases e
  | tbl _ => cases e
  | ho _ => cases e
def FreeS (S : List Nat) (ρk : WEnv) : Sl → Prop
  | .dat d => FreeE S ρk d
  | .own ds => ∀ d ∈ ds, FreeE S ρk d
  | .owd _ kvs => ∀ d ∈ kvs, FreeE S ρk d.2
  | .bag => True
  | .pin _ => True
  | .tbl _ => True
  | .ho _ => True
theorem bag_cut [Base] (F : Fit K T B B1 σ ρ H H1) (s : Sub ρk ρ) (g : Grow (tellH S σ ρ H H1) H1 Hk H2) {b : Addr} (h : Hk b = some (BagO b)) : cutH S σ ρk Hk b = some (BagO b) := by
  rw [cutH_not ((F.ownIn s g).not h (fun _ z => nomatch z) ⟨(fun _ _ z => nomatch z), (fun _ _ z => nomatch z)⟩)]
  exact h
theorem RpKv.cutM (O : OwnIn K S σ ρk Hk) : ∀ {vs : List (PyData × V)} {ds : List (PyData × PyData)}, RpKv K Hk vs ds → (∀ d ∈ ds, FreeE S ρk d.2) → RpKv K (cutH S σ ρk Hk) vs ds
  | _, _, .nil, _ => .nil
  | _, _, .cons h r, f => .cons (Rp.cutO O h (f _ List.mem_cons_self).fr) (RpKv.cutM O r fun d hd => f d (List.mem_cons_of_mem _ hd))
theorem OwnAt.cutM (O : OwnIn K S σ ρk Hk) {p : Addr} {t : Bool} {kvs : List (PyData × PyData)} (f : ∀ d ∈ kvs, FreeE S ρk d.2) : OwnAt K Hk H2 p (.dic t kvs) → OwnAt K (cutH S σ ρk Hk) H2 p (.dic t kvs) := by
  cases t
  · rintro ⟨o, ks, h, r⟩
    exact ⟨o, ks, h, RpKv.cutM O r f⟩
  · rintro ⟨xs, h, hk, r⟩
    exact ⟨xs, h, hk.cutO O, RpKv.cutM O r f⟩
theorem RpM.cut [Base] (F : Fit K T B B1 σ ρ H H1) (s : Sub ρk ρ) (g : Grow (tellH S σ ρ H H1) H1 Hk H2) {v : V} : ∀ {t : Sl}, RpM K H1 Hk H2 v t → FreeS S ρk t → RpM K H1 (cutH S σ ρk Hk) H2 v t
  | .dat d, r, f => Rp.cutO (F.ownIn s g) r f.fr
  | .bag, ⟨b, e, h⟩, _ => ⟨b, e, bag_cut F s g h⟩
  | .pin _, h, _ => h
  | .tbl _, _, _ => trivial
  | .ho f, ⟨b, e, h, t⟩, _ => ⟨b, e, by rw [cutH_not ((F.ownIn s g).not h t.lst ⟨fun ob ks => t.frz ob _, fun ob ks => t.frz ob _⟩)]; exact h, t⟩
  | .own ds, ⟨p, us, e1, e2, e3, e4, e5⟩, f => ⟨p, us, e1, ex_none cutH_ex e2, e3, e4, RpAll.cutO (F.ownIn s g) e5 ⟨fun i es m e => freAll_of fun d hd => (f d hd).get m e, fun i t kvs m e => noDicA_of fun d hd => (f d hd).getd m e⟩⟩
  | .owd t kvs, ⟨p, e1, e2, e3, e4⟩, f => ⟨p, e1, ex_none cutH_ex e2, e3, e4.cutM (F.ownIn s g) f⟩
theorem RpM.grow {v : V} {Hk' H3 H0 : Hp} (g : Grow Hk H2 Hk' H3) (e : Ex H0 H1) : ∀ {t : Sl}, RpM K H1 Hk H2 v t → RpM K H0 Hk' H3 v t
  | .dat d, r => Rp.mono g.known r
  | .bag, ⟨b, e, h⟩ => ⟨b, e, g.known _ _ h⟩
  | .pin _, h => h
  | .tbl _, _ => trivial
  | .ho f, h => HoAt.mono g.known h
  | .own ds, ⟨p, us, e1, e2, e3, e4, e5⟩ => ⟨p, us, e1, g.unk e2 e4 NT.lst, ex_none e e3, g.all _ _ e4, e5.mono g.known⟩
  | .owd t kvs, ⟨p, e1, e2, e3, e4⟩ => by
    obtain ⟨o, ho, no⟩ := e4.is
    exact ⟨p, e1, g.unk e2 ho no, ex_none e e3, e4.go g.known (g.all p)⟩
theorem Fit.put [Base] (F : Fit K T B B1 σ ρ H H1) {i : Nat} {v : V} {s : Sl} {H0 : Hp} (m : RpM K H0 H H1 v s) (e0 : Ex B1 H0) (sep : ∀ p c, v = .ref p → s.ownC = some c → ∀ (j : Nat) s' c', j ≠ i → ρ[j]? = some (some s') → s'.ownC = some c' → σ[j]? = some (some (.ref p)) → False) :
    Fit K T B B1 (σ.set i (some v)) (ρ.set i (some s)) H H1 := by
  refine ⟨F.g, ⟨by rw [List.length_set, List.length_set, F.p.len], fun j => ?_, F.p.tabs⟩, ⟨fun j t c q qc => ?_, fun j l p t c t' c' q1 qc q2 qc' z1 z2 => ?_, F.o.b0⟩⟩
  · rw [get_set, get_set]
    by_cases h : i = j
    · rw [if_pos h, if_pos h, F.p.len]
      by_cases h2 : i < ρ.length
      · rw [if_pos h2, if_pos h2]
        cases s with
        | dat d => exact ⟨v, rfl, m⟩
        | bag =>
          obtain ⟨b, rfl, hb⟩ := m
          exact ⟨b, rfl, hb⟩
        | pin p =>
          subst m
          rfl
        | tbl _ => trivial
        | ho _ => exact ⟨v, rfl, m⟩
        | own ds => trivial
        | owd t kvs => trivial
      · rw [if_neg h2, if_neg h2]
        trivial
    · rw [if_neg h, if_neg h]
      exact F.p.sl j
  · rw [get_set] at q ⊢
    by_cases h : i = j
    · rw [if_pos h] at q ⊢
      rw [F.p.len]
      by_cases h2 : i < ρ.length
      · rw [if_pos h2] at q ⊢
        cases Option.some.inj (Option.some.inj q)
        obtain ⟨p, e1, e2, e3, e4⟩ := m.own qc
        subst e1
        exact ⟨p, rfl, e2, ex_none e0 e3, e4⟩
      · rw [if_neg h2] at q
        cases q
    · rw [if_neg h] at q ⊢
      exact F.o.at1 j t c q qc
  · rw [get_set] at q1 q2 z1 z2
    by_cases h : i = j
    · rw [if_pos h] at q1 z1
      by_cases h' : i = l
      · exact h.symm.trans h'
      · rw [if_neg h'] at q2 z2
        rw [F.p.len] at z1
        by_cases h2 : i < ρ.length
        · rw [if_pos h2] at q1 z1
          cases Option.some.inj (Option.some.inj q1)
          cases Option.some.inj (Option.some.inj z1)
          exact (sep p c rfl qc l t' c' (fun z => h' z.symm) q2 qc' z2).elim
        · rw [if_neg h2] at q1
          cases q1
    · rw [if_neg h] at q1 z1
      by_cases h' : i = l
      · rw [if_pos h'] at q2 z2
        rw [F.p.len] at z2
        by_cases h2 : i < ρ.length
        · rw [if_pos h2] at q2 z2
          cases Option.some.inj (Option.some.inj q2)
          cases Option.some.inj (Option.some.inj z2)
          exact (sep p c' rfl qc' j t c (fun z => h z.symm) q1 qc z1).elim
        · rw [if_neg h2] at q2
          cases q2
      · rw [if_neg h'] at q2 z2
        exact F.o.sep1 j l p t c t' c' q1 qc q2 qc' z1 z2
/-- a new thing's place is no one's -/
theorem Fit.fresh_sep [Base] (F : Fit K T B B1 σ ρ H H1) {p : Addr} (n : H1 p = none) {j : Nat} {s : Sl} {c : Cont} (h : ρ[j]? = some (some s)) (hc : s.ownC = some c) (hs : σ[j]? = some (some (.ref p))) : False := by
  obtain ⟨p', e1, _, _, e4⟩ := F.o.at1 j s c h hc
  rw [hs] at e1
  cases e1
  obtain ⟨o, ho, _⟩ := e4.is
  rw [n] at ho
  cases ho
end
end DL
namespace DL
open PySem PySem.Spec PyProof.Rows L2 Evl
variable [CTab]
/-- the reading te gives what we wishes -/
def DE (K : PySem.W.Frag) (T : List Addr) (te : TE) (we : WE) : Prop := ∀ σ ρ H, FitP K T σ ρ H → ∀ P, we ρ P → EvP K te σ H P
def EvM (K : PySem.W.Frag) (te : TE) (σ : L2.St) (H : Hp) (P : Sl → Prop) : Prop :=
  ∀ H1, Ex H H1 → ∀ Q : VK, (∀ v s Hk H2, Grow H H1 Hk H2 → RpM K H1 Hk H2 v s → P s → Q v H2) → te σ H1 Q
def DM (K : PySem.W.Frag) (T : List Addr) (te : TE) (wm : WM) : Prop := ∀ σ ρ H, FitP K T σ ρ H → ∀ P, wm ρ P → EvM K te σ H P
/-- a new list -/
def DN (K : PySem.W.Frag) (T : List Addr) (te : TE) (wn : WL) : Prop := ∀ σ ρ H, FitP K T σ ρ H → ∀ P, wn ρ P → EvN K te σ H P
/-- arguments: data -/
def DL' (K : PySem.W.Frag) (T : List Addr) (ta : TA) (wl : WL) : Prop := ∀ σ ρ H, FitP K T σ ρ H → ∀ P, wl ρ P → EvAs K ta σ H P
def RpSl (K : PySem.W.Frag) (H : Hp) (v : V) : Sl → Prop
  | .dat d => Rp K H v d
  | .bag => ∃ b, v = .ref b ∧ H b = some (BagO b)
  | .own _ => False
  | .owd _ _ => False
  | .pin p => v = .ref p
  | .tbl _ => False
  | .ho f => HoAt H v f
inductive RpSs (K : PySem.W.Frag) (H : Hp) : List V → List Sl → Prop
  | nil : RpSs K H [] []
  | cons {v : V} {vs : List V} {s : Sl} {ss : List Sl} : RpSl K H v s → RpSs K H vs ss → RpSs K H (v :: vs) (s :: ss)
def EvS (K : PySem.W.Frag) (ta : TA) (σ : L2.St) (H : Hp) (P : List Sl → Prop) : Prop :=
  ∀ H1, Ex H H1 → ∀ Q : List V → Hp → Prop, (∀ vs ss Hk H2, Grow H H1 Hk H2 → RpSs K Hk vs ss → P ss → Q vs H2) → ta σ H1 Q
/-- arguments: data or the bag -/
def DA (K : PySem.W.Frag) (T : List Addr) (ta : TA) (wa : WA) : Prop := ∀ σ ρ H, FitP K T σ ρ H → ∀ P, wa ρ P → EvS K ta σ H P
def DT (K : PySem.W.Frag) (T : List Addr) (tt : TT) (wt : WT) : Prop := ∀ σ ρ H, FitP K T σ ρ H → ∀ P, wt ρ P → EvTP tt σ H P
def varW (i : Nat) : WE := fun ρ Q => match ρ[i]? with
  | some (some (.dat d)) => Q d
  | _ => False
def cW (d : PyData) : WE := fun _ Q => Q d
def opW (w : PyData → PyData → (PyData → Prop) → Prop) (a b : WE) : WE := fun ρ Q => a ρ fun d => b ρ fun e => w d e Q
def unW (w : PyData → (PyData → Prop) → Prop) (a : WE) : WE := fun ρ Q => a ρ fun d => w d Q
def nilW : WL := fun _ Q => Q []
def consW (a : WE) (r : WL) : WL := fun ρ Q => a ρ fun d => r ρ fun ds => Q (d :: ds)
def tupW (a : WL) : WE := fun ρ Q => a ρ fun ds => ds.length ≤ 100000 ∧ Q (.tuple ds)
def lstN (a : WL) : WL := fun ρ Q => a ρ fun ds => ds.length ≤ 100000 ∧ Q ds
def newW (n : WL) : WE := fun ρ Q => n ρ fun ds => Q (.list ds)
def cbW (w : List PyData → (PyData → Prop) → Prop) (a : WL) : WE := fun ρ Q => a ρ fun ds => w ds Q
def anilW : WA := fun _ Q => Q []
def aconsW (a : WE) (r : WA) : WA := fun ρ Q => a ρ fun d => r ρ fun ss => Q (.dat d :: ss)
def avarW (i : Nat) (r : WA) : WA := fun ρ Q => match ρ[i]? with
  | some (some (.dat d)) => r ρ fun ss => Q (.dat d :: ss)
  | some (some .bag) => r ρ fun ss => Q (.bag :: ss)
  | _ => False
def callW (n : Nat) (w : List Sl → (PyData → Prop) → Prop) (a : WA) : WE := fun ρ Q => a ρ fun ss => ss.length = n ∧ w ss Q
def testW (a : WE) : WT := fun ρ Q => a ρ fun d => match d with
  | .bool b => Q b
  | _ => False
def notT (a : WT) : WT := fun ρ Q => a ρ fun b => Q (!b)
def andT (a b : WT) : WT := fun ρ Q => a ρ fun c => if c = true then b ρ Q else Q false
def orT (a b : WT) : WT := fun ρ Q => a ρ fun c => if c = true then Q true else b ρ Q
def yesT : WT := fun _ Q => Q true
def andV (a b : WE) : WE := fun ρ Q => a ρ fun d => match d with
  | .bool true => b ρ Q
  | .bool false => Q (.bool false)
  | _ => False
def orV (a b : WE) : WE := fun ρ Q => a ρ fun d => match d with
  | .bool true => Q (.bool true)
  | .bool false => b ρ Q
  | _ => False
def notV (a : WE) : WE := fun ρ Q => a ρ fun d => match d with
  | .bool b => Q (.bool !b)
  | _ => False
def ifV (c : WT) (a b : WE) : WE := fun ρ Q => c ρ fun k => if k = true then a ρ Q else b ρ Q
def chainW (w1 w2 : PyData → PyData → (PyData → Prop) → Prop) (a b c : WE) : WE := fun ρ Q => a ρ fun d => b ρ fun e => w1 d e fun z => match z with
  | .bool true => c ρ fun f => w2 e f Q
  | .bool false => Q (.bool false)
  | _ => False
def datM (a : WE) : WM := fun ρ Q => a ρ fun d => Q (.dat d)
def newM (n : WL) : WM := fun ρ Q => n ρ fun ds => Q (.own ds)
section
variable {K : PySem.W.Frag} {T : List Addr} {ta tb tc te : TE} {tt tu : TT} {tl : TA} {wa wb wc : WE} {wl : WL} {ws : WA} {r r' : R2} {ct cu : WT}
theorem de_var {i : Nat} : DE K T (tVar i) (varW i) := fun σ ρ H F P h => by
  unfold varW at h
  split at h
  · rename_i d e
    obtain ⟨v, h1, h2⟩ := F.dat e
    exact (evp_var h1 h2).weak fun _ z => by subst z; exact h
  · exact h.elim
theorem de_c {v : V} {d : PyData} (r : ∀ H, Rp K H v d) : DE K T (tC v) (cW d) := fun σ ρ H F P h => (evp_c (r H)).weak fun _ z => by subst z; exact h
theorem de_int {i : Int} : DE K T (tC (.int i)) (cW (.int i)) := de_c fun _ => .int i
theorem de_bl {i : Bool} : DE K T (tC (.bl i)) (cW (.bool i)) := de_c fun _ => .bl i
theorem de_str {i : Str} : DE K T (tC (.str i)) (cW (.str i)) := de_c fun _ => .str i
/-- an operation told over data -/
def OpW (K : PySem.W.Frag) (r : R2) (w : PyData → PyData → (PyData → Prop) → Prop) : Prop := ∀ d e Q, w d e Q → RD K r d e Q
theorem de_op {w : PyData → PyData → (PyData → Prop) → Prop} (hr : OpW K r w) (ha : DE K T ta wa) (hb : DE K T tb wb) : DE K T (tOp r ta tb) (opW w wa wb) := fun σ ρ H F P h H1 e Q q =>
  ha σ ρ H F _ h H1 e _ fun v1 d1 Hk2 H2 g2 r1 p1 => hb σ ρ Hk2 (F.mono g2.known) _ p1 H2 g2.sub _ fun v2 d2 Hk3 H3 g3 r2 p2 => hr d1 d2 P p2 v1 v2 Hk3 H3 g3.sub (r1.mono g3.known) r2 Q fun v d Hk4 H4 g4 r4 p4 => q v d Hk4 H4 ((g2.trans g3).trans g4) r4 p4
theorem de_neg (ha : DE K T ta wa) : DE K T (tUn (rU fun i => .int (-i)) ta) (unW (fun d Q => match d with | .int i => Q (.int (-i)) | _ => False) wa) := fun σ ρ H F P h H1 e Q q =>
  ha σ ρ H F _ h H1 e _ fun v1 d1 Hk2 H2 g2 r1 p1 => by
    cases r1 with
    | int i => exact ⟨i, rfl, q _ _ Hk2 H2 g2 (.int _) p1⟩
    | non => exact p1.elim
    | bl _ => exact p1.elim
    | str _ => exact p1.elim
    | lst _ _ => exact p1.elim
    | tup _ _ => exact p1.elim
    | dic _ _ => exact p1.elim
theorem dl_nil : DL' K T tNil nilW := fun σ ρ H F P h H1 e Q q => q _ _ H H1 (Grow.refl e) .nil h
theorem dl_cons (ha : DE K T ta wa) (hr : DL' K T tl wl) : DL' K T (tCons ta tl) (consW wa wl) := fun σ ρ H F P h H1 e Q q =>
  ha σ ρ H F _ h H1 e _ fun v d Hk2 H2 g2 r2 p2 => hr σ ρ Hk2 (F.mono g2.known) _ p2 H2 g2.sub _ fun vs ds Hk3 H3 g3 r3 p3 => q (v :: vs) (d :: ds) Hk3 H3 (g2.trans g3) (.cons (r2.mono g3.known) r3) p3
theorem de_tup (h : DL' K T tl wl) : DE K T (tTup tl) (tupW wl) := fun σ ρ H F P h2 H1 e Q q =>
  h σ ρ H F _ h2 H1 e _ fun vs ds Hk2 H2 g2 r2 p2 => ⟨sz_of (by rw [r2.len]; exact p2.1), fun p hp =>
    have g3 := Grow.new g2.sub hp (.tup vs)
    q _ (.tuple ds) _ _ (g2.trans g3) (.tup (.inl upd_same) (r2.mono g3.known)) p2.2⟩
theorem dn_lst (h : DL' K T tl wl) : DN K T (tLst tl) (lstN wl) := fun σ ρ H F P h2 H1 e Q q =>
  h σ ρ H F _ h2 H1 e _ fun vs ds Hk2 H2 g2 r2 p2 => ⟨sz_of (by rw [r2.len]; exact p2.1), fun p hp =>
    q p vs ds Hk2 _ (g2.trans (Grow.hide g2.sub hp _)) r2 p2.2 (ex_none g2.sub hp) upd_same (ex_none g2.all hp)⟩
theorem de_new (h : DN K T te wl) : DE K T te (newW wl) := fun σ ρ H F P h2 H1 e Q q => h σ ρ H F _ h2 H1 e Q fun p vs ds Hk H2 g r p1 n1 n2 n3 => by
  have t := tell g.sub n1 n2
  refine q _ _ (upd Hk p (.lst vs)) H2 ⟨g.known.trans t.1, t.2, g.all, fun a o h n nt => ?_⟩ (told_list r n1) p1
  by_cases ha : a = p
  · subst ha
    exact n3
  · rw [upd_ne ha] at h
    exact g.fresh a o h n nt
theorem dm_dat (h : DE K T te wa) : DM K T te (datM wa) := fun σ ρ H F P h2 H1 e Q q => h σ ρ H F _ h2 H1 e Q fun v d Hk H2 g r p => q v (.dat d) Hk H2 g r p
theorem dm_new (h : DN K T te wl) : DM K T te (newM wl) := fun σ ρ H F P h2 H1 e Q q => h σ ρ H F _ h2 H1 e Q fun p vs ds Hk H2 g r p1 n1 n2 n3 => q _ (.own ds) Hk H2 g ⟨p, vs, rfl, n1, n3, n2, r⟩ p1
def CbW (K : PySem.W.Frag) (rr : List V → Hp → VK → Prop) (w : List PyData → (PyData → Prop) → Prop) : Prop := ∀ ds Q, w ds Q → RCD K rr ds Q
theorem de_cb {rr : List V → Hp → VK → Prop} {w : List PyData → (PyData → Prop) → Prop} (hr : CbW K rr w) (h : DL' K T tl wl) : DE K T (tCB rr tl) (cbW w wl) := fun σ ρ H F P h2 H1 e Q q =>
  h σ ρ H F _ h2 H1 e _ fun vs ds Hk2 H2 g2 r2 p2 => hr ds P p2 vs Hk2 H2 g2.sub r2 Q fun v d Hk3 H3 g3 r3 p3 => q v d Hk3 H3 (g2.trans g3) r3 p3
theorem RpSl.mono {H H' : Hp} (e : Ex H H') {v : V} : ∀ {s : Sl}, RpSl K H v s → RpSl K H' v s
  | .dat _, h => Rp.mono e h
  | .bag, ⟨b, h, g⟩ => ⟨b, h, e _ _ g⟩
  | .own _, h => h.elim
  | .owd _ _, h => h.elim
  | .pin _, h => h
  | .tbl _, h => h.elim
  | .ho _, h => HoAt.mono e h
theorem da_nil : DA K T tNil anilW := fun σ ρ H F P h H1 e Q q => q _ _ H H1 (Grow.refl e) .nil h
theorem da_cons (ha : DE K T ta wa) (hr : DA K T tl ws) : DA K T (tCons ta tl) (aconsW wa ws) := fun σ ρ H F P h H1 e Q q =>
  ha σ ρ H F _ h H1 e _ fun v d Hk2 H2 g2 r2 p2 => hr σ ρ Hk2 (F.mono g2.known) _ p2 H2 g2.sub _ fun vs ds Hk3 H3 g3 r3 p3 => q (v :: vs) (.dat d :: ds) Hk3 H3 (g2.trans g3) (.cons (r2.mono g3.known) r3) p3
theorem da_var {i : Nat} (hr : DA K T tl ws) : DA K T (tCons (tVar i) tl) (avarW i ws) := fun σ ρ H F P h H1 e Q q => by
  unfold avarW at h
  split at h
  · rename_i d ed
    obtain ⟨v, h1, h2⟩ := F.dat ed
    exact ⟨v, h1, hr σ ρ H F _ h H1 e _ fun vs ss Hk H2 g r p => q (v :: vs) (.dat d :: ss) Hk H2 g (.cons (h2.mono g.known) r) p⟩
  · rename_i ed
    obtain ⟨b, h1, h2⟩ := F.bag ed
    exact ⟨.ref b, h1, hr σ ρ H F _ h H1 e _ fun vs ss Hk H2 g r p => q (.ref b :: vs) (.bag :: ss) Hk H2 g (.cons ⟨b, rfl, g.known _ _ h2⟩ r) p⟩
  · exact h.elim
theorem RpSs.len {H : Hp} : ∀ {vs : List V} {ss : List Sl}, RpSs K H vs ss → vs.length = ss.length
  | _, _, .nil => rfl
  | _, _, .cons _ r => congrArg (· + 1) (RpSs.len r)
/-- a def's promise: all that its wishes tell -/
def spW (K : PySem.W.Frag) (T : List Addr) (n : Nat) (w : List Sl → (PyData → Prop) → Prop) : Sp := fun vs H1 Q _ => ∃ H ss, Ex H H1 ∧ Tabs T H ∧ RpSs K H vs ss ∧ ss.length = n ∧ ∃ P, w ss P ∧ ∀ u z Hk H2, Grow H H1 Hk H2 → Rp K Hk u z → P z → Q u H2
theorem de_call {n : Nat} {w : List Sl → (PyData → Prop) → Prop} {E : XK} (h : DA K T tl ws) : DE K T (tCall (spW K T n w) [] E tl) (callW n w ws) := fun σ ρ H F P h2 H1 e Q q =>
  h σ ρ H F _ h2 H1 e _ fun vs ss Hk H2 g r p => by
    show spW K T n w (vs ++ []) H2 Q E
    rw [List.append_nil]
    exact ⟨Hk, ss, g.sub, F.tabs.mono g.known, r, p.1, P, p.2, fun u z Hk3 H3 g3 r3 p3 => q u z Hk3 H3 (g.trans g3) r3 p3⟩
theorem dt_test (h : DE K T te wa) : DT K T (tTest te) (testW wa) := fun σ ρ H F P h2 H1 e Q q => h σ ρ H F _ h2 H1 e _ fun v d Hk H2 g2 r2 p2 => by
  cases r2 with
  | bl b => exact ⟨b, rfl, q b Hk H2 g2 p2⟩
  | non => exact p2.elim
  | int _ => exact p2.elim
  | str _ => exact p2.elim
  | lst _ _ => exact p2.elim
  | tup _ _ => exact p2.elim
  | dic _ _ => exact p2.elim
theorem dt_B (h : DE K T te wa) : DT K T (tB te) (testW wa) := dt_test h
theorem dt_not (h : DT K T tt ct) : DT K T (tNot tt) (notT ct) := fun σ ρ H F P h2 H1 e Q q => h σ ρ H F _ h2 H1 e _ fun b Hk H2 g p => q _ Hk H2 g p
theorem dt_yes : DT K T tYes yesT := fun σ ρ H F P h H1 e Q q => q true H H1 (Grow.refl e) h
theorem dt_and (h1 : DT K T tt ct) (h2 : DT K T tu cu) : DT K T (tAnd tt tu) (andT ct cu) := fun σ ρ H F P h H1 e Q q => h1 σ ρ H F _ h H1 e _ fun c Hk2 H2 g2 p2 => by
  cases c with
  | true => exact h2 σ ρ Hk2 (F.mono g2.known) P (by simpa using p2) H2 g2.sub Q fun d Hk3 H3 g3 p3 => q d Hk3 H3 (g2.trans g3) p3
  | false => exact q false Hk2 H2 g2 (by simpa using p2)
theorem dt_or (h1 : DT K T tt ct) (h2 : DT K T tu cu) : DT K T (tOr tt tu) (orT ct cu) := fun σ ρ H F P h H1 e Q q => h1 σ ρ H F _ h H1 e _ fun c Hk2 H2 g2 p2 => by
  cases c with
  | false => exact h2 σ ρ Hk2 (F.mono g2.known) P (by simpa using p2) H2 g2.sub Q fun d Hk3 H3 g3 p3 => q d Hk3 H3 (g2.trans g3) p3
  | true => exact q true Hk2 H2 g2 (by simpa using p2)
theorem de_and (h1 : DE K T ta wa) (h2 : DE K T tb wb) : DE K T (tAndV ta tb) (andV wa wb) := fun σ ρ H F P h H1 e Q q => h1 σ ρ H F _ h H1 e _ fun v d Hk2 H2 g2 r2 p2 => by
  cases r2 with
  | bl b =>
    refine ⟨b, rfl, ?_⟩
    cases b with
    | true => exact h2 σ ρ Hk2 (F.mono g2.known) P p2 H2 g2.sub Q fun v d Hk3 H3 g3 r3 p3 => q v d Hk3 H3 (g2.trans g3) r3 p3
    | false => exact q _ _ Hk2 H2 g2 (.bl false) p2
  | non => exact p2.elim
  | int _ => exact p2.elim
  | str _ => exact p2.elim
  | lst _ _ => exact p2.elim
  | tup _ _ => exact p2.elim
  | dic _ _ => exact p2.elim
theorem de_chain {w1 w2 : PyData → PyData → (PyData → Prop) → Prop} (h1 : OpW K r w1) (h2 : OpW K r' w2) (ha : DE K T ta wa) (hb : DE K T tb wb) (hc : DE K T tc wc) : DE K T (tChain r r' ta tb tc) (chainW w1 w2 wa wb wc) := by
  intro σ ρ H F P h H1 e Q q
  refine ha σ ρ H F _ h H1 e _ fun v1 d1 Hk2 H2 g2 r1 p1 => ?_
  refine hb σ ρ Hk2 (F.mono g2.known) _ p1 H2 g2.sub _ fun v2 d2 Hk3 H3 g3 r2 p2 => ?_
  refine h1 d1 d2 _ p2 v1 v2 Hk3 H3 g3.sub (r1.mono g3.known) r2 _ fun v d Hk4 H4 g4 r4 p4 => ?_
  cases r4 with
  | bl b =>
    refine ⟨b, rfl, ?_⟩
    cases b with
    | false => exact q _ _ _ H4 ((g2.trans g3).trans g4) (.bl false) p4
    | true =>
      refine hc σ ρ Hk4 (F.mono ((g2.trans g3).trans g4).known) _ p4 H4 g4.sub _ fun v3 d3 Hk5 H5 g5 r5 p5 => ?_
      exact h2 d2 d3 P p5 v2 v3 Hk5 H5 g5.sub (r2.mono (g4.trans g5).known) r5 Q fun v d Hk6 H6 g6 r6 p6 => q v d Hk6 H6 ((((g2.trans g3).trans g4).trans g5).trans g6) r6 p6
  | non => exact p4.elim
  | int _ => exact p4.elim
  | str _ => exact p4.elim
  | lst _ _ => exact p4.elim
  | tup _ _ => exact p4.elim
  | dic _ _ => exact p4.elim
end
def DI (K : PySem.W.Frag) (T : List Addr) (wi : TI) (ww : WL) : Prop := ∀ σ ρ H, FitP K T σ ρ H → ∀ P, ww ρ P → ∀ H1, Ex H H1 → ∀ R : It → Hp → Prop,
  (∀ ds J G Y Hk H2, P ds → Grow H H1 Hk H2 → Walk J ds.length G Y → (∀ H3, Ex Hk H3 → G H3) →
    (∀ i x Hm H3 H4, i < ds.length → Ex Hk Hm → Ex Hm H3 → Y i H3 x H4 → ∃ Hm', Grow Hm H3 Hm' H4 ∧ TAt K ds i x Hm') → R J H2) → wi σ H1 R
/-- a walk that does not look at what is there -/
def DR (K : PySem.W.Frag) (T : List Addr) (wi : TI) (ww : WL) : Prop := ∀ σ ρ H, FitP K T σ ρ H → ∀ P, ww ρ P → ∀ H1, Ex H H1 → ∀ R : It → Hp → Prop,
  (∀ ds J Y Hk H2, P ds → Grow H H1 Hk H2 → Walk J ds.length (fun _ => True) Y →
    (∀ i x Hm H3 H4, i < ds.length → Ex Hm H3 → Y i H3 x H4 → ∃ Hm', Grow Hm H3 Hm' H4 ∧ TAt K ds i x Hm') → R J H2) → wi σ H1 R
theorem DR.di {K : PySem.W.Frag} {T : List Addr} {wi : TI} {ww : WL} (h : DR K T wi ww) : DI K T wi ww := fun σ ρ H F P p H1 e R k =>
  h σ ρ H F P p H1 e R fun ds J Y Hk H2 p2 g w y => k ds J _ Y Hk H2 p2 g w (fun _ _ => trivial) fun i x Hm H3 H4 hi _ e3 z => y i x Hm H3 H4 hi e3 z
/-- a target -/
def DB (K : PySem.W.Frag) (T : List Addr) (js : List Nat) (g : TG) (wb : WB) : Prop := ∀ σ ρ H v d, FitP K T σ ρ H → Rp K H v d → ∀ P, wb d ρ P → ∀ H1, Ex H H1 → ∀ R : L2.St → Hp → Prop,
  (∀ σ' ρ', FitP K T σ' ρ' H → (σ'.length = σ.length ∧ ∀ j, j ∉ js → σ'[j]? = σ[j]? ∧ ρ'[j]? = ρ[j]?) → (∀ (j : Nat) s, j ∈ js → ρ'[j]? = some (some s) → s.ownC = none) → P ρ' → R σ' H1) → g v σ H1 R
def bindW (i : Nat) : WB := fun d ρ P => P (ρ.set i (some (.dat d)))
def binds : List Nat → List PyData → WEnv → WEnv
  | i :: is, d :: ds, ρ => binds is ds (ρ.set i (some (.dat d)))
  | _, _, ρ => ρ
def bindsW (is : List Nat) : WB := fun d ρ P => match d with
  | .tuple ds => ds.length = is.length ∧ P (binds is ds ρ)
  | _ => False
def gN : List Nat → TGs
  | [] => gNil
  | i :: is => gCons (gName i) (gN is)
section
variable {K : PySem.W.Frag} {T : List Addr} {ta tb tc te : TE} {tt tu : TT} {tl : TA} {wa wb wc : WE} {wl : WL} {ws : WA} {r r' : R2} {ct cu : WT}
theorem set_other {α : Type} {l : List α} {i j : Nat} {a : α} (h : j ∉ [i]) : (l.set i a)[j]? = l[j]? := by
  rw [get_set, if_neg fun z => h (by rw [z]; exact List.mem_singleton.mpr rfl)]
theorem set_notown {ρ : WEnv} {i j : Nat} {d : PyData} (h : j = i) (s : Sl) : (ρ.set i (some (.dat d)))[j]? = some (some s) → s.ownC = none := by
  subst h
  rw [get_set, if_pos rfl]
  split
  · intro z
    cases z
    rfl
  · intro z
    cases z
theorem db_name {i : Nat} : DB K T [i] (gName i) (bindW i) := fun σ ρ H v d F r P h H1 e R k =>
  k _ _ (F.set r) ⟨List.length_set, fun j hj => ⟨set_other hj, set_other hj⟩⟩ (fun j ds hj => set_notown (List.mem_singleton.mp hj) ds) h
theorem gN_run {H : Hp} : ∀ {is : List Nat} {σ : L2.St} {ρ : WEnv} {vs : List V} {ds : List PyData}, FitP K T σ ρ H → RpAll K H vs ds → ds.length = is.length → ∀ {H1 : Hp} {R : L2.St → Hp → Prop},
    (∀ σ' , FitP K T σ' (binds is ds ρ) H → (σ'.length = σ.length ∧ ∀ j, j ∉ is → σ'[j]? = σ[j]? ∧ (binds is ds ρ)[j]? = ρ[j]?) → (∀ (j : Nat) s, j ∈ is → (binds is ds ρ)[j]? = some (some s) → s.ownC = none) → R σ' H1) → gN is vs σ H1 R
  | [], σ, ρ, vs, ds, F, r, hl, H1, R, k => by
    obtain rfl : ds = [] := List.length_eq_zero_iff.mp hl
    cases r
    exact ⟨rfl, k σ F ⟨rfl, fun j _ => ⟨rfl, rfl⟩⟩ (fun j es hj => nomatch hj)⟩
  | i :: is, σ, ρ, vs, ds, F, r, hl, H1, R, k => by
    cases r with
    | nil => cases hl
    | @cons v vs d ds r0 r =>
      refine ⟨v, vs, rfl, ?_⟩
      refine gN_run (is := is) (F.set r0) r (by simpa using hl) fun σ' F' ho hn => k σ' F' ⟨ho.1.trans List.length_set, fun j hj => ?_⟩ fun j es hj => ?_
      · obtain ⟨h1, h2⟩ := ho.2 j fun z => hj (List.mem_cons_of_mem _ z)
        have hji : j ∉ [i] := fun z => hj (List.mem_cons.mpr (.inl (List.mem_singleton.mp z)))
        exact ⟨h1.trans (set_other hji), h2.trans (set_other hji)⟩
      · by_cases c : j ∈ is
        · exact hn j es c
        · have e : j = i := (List.mem_cons.mp hj).resolve_right c
          show (binds is ds (ρ.set i (some (.dat d))))[j]? = _ → _
          rw [(ho.2 j c).2]
          exact set_notown e es
theorem db_tup {is : List Nat} {n : Nat} (hn : n = is.length) : DB K T is (gTup K n (gN is)) (bindsW is) := fun σ ρ H v d F r P h H1 e R k => by
  subst hn
  unfold bindsW at h
  cases r with
  | @tup a xs ds g r =>
    refine ⟨a, xs, rfl, ex_tp e g, by rw [r.len]; exact h.1, ?_⟩
    exact gN_run F r h.1 fun σ' F' ho hw => k σ' _ F' ho hw h.2
  | bl b => exact h.elim
  | non => exact h.elim
  | int _ => exact h.elim
  | str _ => exact h.elim
  | lst _ _ => exact h.elim
  | dic _ _ => exact h.elim
def compW (b : WB) (t : WT) (e : WE) (ρ : WEnv) : List PyData → List PyData → (List PyData → Prop) → Prop
  | [], acc, Q => Q acc
  | d :: ds, acc, Q => b d ρ fun ρ1 => t ρ1 fun c => if c = true then e ρ1 fun z => compW b t e ρ ds (acc ++ [z]) Q else compW b t e ρ ds acc Q
def lcN (vs : List Nat) (ww : WL) (b : WB) (t : WT) (e : WE) : WL := fun ρ Q => ww ρ fun ds => ds.length ≤ 100000 ∧ compW b t e (wipeW ρ vs) ds [] Q
theorem dn_lc {wi : TI} {g : TG} {ww : WL} {b : WB} {vs js : List Nat} (hi : DI K T wi ww) (hg : DB K T js g b) (ht : DT K T tt ct) (he : DE K T te wa) (hj : ∀ j ∈ js, j ∈ vs) : DN K T (tLc wi g tt te vs) (lcN vs ww b ct wa) := by
  intro σ ρ H F P h H1 e Q q
  refine hi σ ρ H F _ h H1 e _ fun ds J G Y Hk H2 p2 g2 w g0 hy => ?_
  obtain ⟨hn, p2⟩ := p2
  intro D hD
  have hDk : Hk D = none := ex_none g2.sub hD
  have Fk := (F.mono g2.known).wipe vs
  refine lc_it w (fun i H' => ∃ Hm xs acc, Ex Hk Hm ∧ Ex Hm H' ∧ Ex H2 H' ∧ Hm D = none ∧ (∀ p o, Hm p = some o → Hk p = none → NT o → H2 p = none) ∧ H' D = some (.lst xs) ∧ RpAll K Hm xs acc ∧ acc.length ≤ i ∧ compW b ct wa (wipeW ρ vs) (ds.drop i) acc P) ?_ ?_ ?_ ?_
  · exact ⟨Hk, [], [], Ex.refl _, g2.sub.trans (Ex.new hD), Ex.new hD, hDk, (fun p o h n _ => by rw [h] at n; cases n), upd_same, .nil, Nat.zero_le _, p2⟩
  · rintro i H' _ ⟨Hm, xs, acc, e1, e2, _⟩
    exact g0 H' (e1.trans e2)
  · rintro i x H3 H4 hlt ⟨Hm, xs, acc, em, e3, e23, hm, hf, hx, r, hacc, hP⟩ y
    obtain ⟨Hm', g34, d, hd, rx⟩ := hy i x Hm H3 H4 hlt em e3 y
    rw [List.drop_eq_getElem_cons hlt] at hP
    have ed : ds[i] = d := by
      rw [List.getElem?_eq_getElem hlt] at hd
      exact Option.some.inj hd
    rw [ed] at hP
    refine hg _ _ _ x d (Fk.mono (em.trans g34.known)) rx _ hP H4 g34.sub _ fun σ' ρ' F' ho _ hc => ⟨?_, ?_⟩
    · refine wipe_eq (ho.1.trans (L2.wipe_length σ vs)) fun j hj' => (ho.2 j fun z => hj' (hj j z)).1
    refine ht σ' ρ' Hm' F' _ hc H4 g34.sub _ fun c Hm5 H5 g5 hc => ?_
    have g35 := g34.trans g5
    have hx5 : H5 D = some (.lst xs) := g35.all _ _ hx
    have hm5 : Hm5 D = none := g35.unk hm hx NT.lst
    have hf5 : ∀ p o, Hm5 p = some o → Hk p = none → NT o → H2 p = none := fun p o h n t => by
      cases z : Hm p with
      | some u => exact hf p u z n (NT.of ((g35.known p u z).symm.trans h) t)
      | none => exact ex_none e23 (g35.fresh p o h z t)
    cases c with
    | false =>
      rw [if_neg Bool.false_ne_true] at hc ⊢
      exact ⟨Hm5, xs, acc, em.trans g35.known, g35.sub, e23.trans g35.all, hm5, hf5, hx5, r.mono g35.known, by omega, hc⟩
    | true =>
      rw [if_pos rfl] at hc ⊢
      refine he σ' ρ' Hm5 (F'.mono g5.known) _ hc H5 g5.sub _ fun v z Hm7 H7 g7 r7 p7 => ?_
      have g37 := g35.trans g7
      have hx7 : H7 D = some (.lst xs) := g37.all _ _ hx
      have hm7 : Hm7 D = none := g37.unk hm hx NT.lst
      refine ⟨xs, hx7, ?_, ?_⟩
      · have hl : xs.length = acc.length := r.len
        exact sz_lt (by omega)
      · refine ⟨Hm7, xs ++ [v], acc ++ [z], em.trans g37.known, g37.sub.mut hm7, (e23.trans g37.all).mut hD, hm7, fun p o h n t => ?_, upd_same, (r.mono g37.known).append (.cons r7 .nil), by rw [List.length_append]; simp; omega, p7⟩
        cases z : Hm5 p with
        | some u => exact hf5 p u z n (NT.of ((g7.known p u z).symm.trans h) t)
        | none => exact ex_none (e23.trans g35.all) (g7.fresh p o h z t)
  · rintro H' ⟨Hm, xs, acc, em, e3, e23, hm, hf, hx, r, hacc, hP⟩
    have gk : Grow Hk H2 Hm H' := ⟨em, e3, e23, hf⟩
    rw [List.drop_length] at hP
    exact q D xs acc Hm H' (g2.trans gk) r hP hm hx (ex_none g2.all hD)
end
end DL
namespace DL
open PySem PySem.Spec PyProof.Rows L2 Evl
variable [CTab] [Base]
structure Mat (K : PySem.W.Frag) (T : List Addr) (B B1 : Hp) (W : WD) (D : Ends) : Prop where
  nx : ∀ σ ρ H H1, Fit K T B B1 σ ρ H H1 → W.nx ρ → D.nx σ H1
  rt : ∀ v d H H1, Grow B B1 H H1 → Rp K H v d → W.rt d → D.rt v H1
  bk : ∀ σ ρ H H1, Fit K T B B1 σ ρ H H1 → W.bk ρ → D.bk σ H1
  ct : ∀ σ ρ H H1, Fit K T B B1 σ ρ H H1 → W.ct ρ → D.ct σ H1
def DS (K : PySem.W.Frag) (T : List Addr) (ts : TS) (ws : WS) : Prop := ∀ B B1 σ ρ H H1, Fit K T B B1 σ ρ H H1 → ∀ W D, Mat K T B B1 W D → ws W ρ → ts D σ H1
def seqW (a b : WS) : WS := fun W ρ => a { W with nx := b W } ρ
def nextW : WS := fun W ρ => W.nx ρ
def setW (S : List Nat) (i : Nat) (a : WM) : WS := fun W ρ => a (tells S ρ) fun s => FreeS S (ρ.set i none) s ∧ W.nx (ρ.set i (some s))
def set2W (S : List Nat) (i j : Nat) (a b : WM) : WS := fun W ρ => a (tells S ρ) fun s => b (tells S ρ) fun t => FreeS S ((ρ.set i none).set j none) s ∧ FreeS S ((ρ.set i none).set j none) t ∧ W.nx ((ρ.set i (some s)).set j (some t))
def set3W (S : List Nat) (i j l : Nat) (a b c : WM) : WS := fun W ρ => a (tells S ρ) fun s => b (tells S ρ) fun t => c (tells S ρ) fun u =>
  FreeS S (((ρ.set i none).set j none).set l none) s ∧ FreeS S (((ρ.set i none).set j none).set l none) t ∧ FreeS S (((ρ.set i none).set j none).set l none) u ∧ W.nx (((ρ.set i (some s)).set j (some t)).set l (some u))
def wiped (ρ : WEnv) : List Nat → WEnv
  | [] => ρ
  | i :: is => wiped (ρ.set i none) is
def unpW (S : List Nat) (is : List Nat) (a : WE) : WS := fun W ρ => a (tells S ρ) fun d => FreeE S (wiped ρ is) d ∧ bindsW is d (wiped ρ is) W.nx
def ifW (S : List Nat) (c : WT) (a b : WS) : WS := fun W ρ => c (tells S ρ) fun k => if k = true then a W ρ else b W ρ
def dropW (S : List Nat) (a : WE) : WS := fun W ρ => a (tells S ρ) fun _ => W.nx ρ
def retW (S : List Nat) (a : WE) : WS := fun W ρ => a (tells S ρ) W.rt
def retNW : WS := fun W _ => W.rt .none
def breakW : WS := fun W ρ => W.bk ρ
def contW : WS := fun W ρ => W.ct ρ
def deadW : WS := fun _ _ => False
def appW (S : List Nat) (i : Nat) (a : WE) : WS := fun W ρ => match ρ[i]? with
  | some (some (.own ds)) => a (tells S ρ) fun d => FreeE S ρ d ∧ ds.length < 100000 ∧ W.nx (ρ.set i (some (.own (ds ++ [d]))))
  | _ => False
def popW (S : List Nat) (i l : Nat) (a : WE) : WS := fun W ρ => match ρ[i]? with
  | some (some (.own ds)) => a (tells S ρ) fun d => match d with
    | .int k => ds.length ≤ 100000 ∧ ∃ j : Nat, k = (j : Int) ∧ ∃ x, ds[j]? = some x ∧ W.nx ((ρ.set i (some (.own (ds.eraseIdx j)))).set l (some (.dat x)))
    | _ => False
  | _ => False
def storeW (S : List Nat) (i : Nat) (ix a : WE) : WS := fun W ρ => match ρ[i]? with
  | some (some (.own ds)) => a (tells S ρ) fun d => ix (tells S ρ) fun k => match k with
    | .int k => FreeE S ρ d ∧ ∃ j, ixN ds.length k = some j ∧ W.nx (ρ.set i (some (.own (ds.set j d))))
    | _ => False
  | _ => False
def loopW (wb : WB) (ws : WS) (W : WD) : List PyData → WEnv → Prop
  | [], ρ => W.nx ρ
  | d :: ds, ρ => wb d ρ fun ρ1 => ws { W with nx := loopW wb ws W ds, ct := loopW wb ws W ds, bk := W.nx } ρ1
def forW (ww : WL) (wb : WB) (ws : WS) : WS := fun W ρ => ww ρ fun ds => loopW wb ws W ds ρ
def forRW (S : List Nat) (ww : WL) (wb : WB) (ws : WS) : WS := fun W ρ => ww (tells S ρ) fun ds => loopW wb ws W ds ρ
section
variable {K : PySem.W.Frag} {T : List Addr} {S : List Nat} {ta tb tc te : TE} {tt tu : TT} {tl : TA} {wa wb wc : WE} {ma mb mc : WM} {wl : WL} {r r' : R2} {ct cu : WT} {t u : TS} {ws wu : WS} {i j l : Nat}
theorem ds_seq (h1 : DS K T t ws) (h2 : DS K T u wu) : DS K T (tSeq t u) (seqW ws wu) := fun B B1 σ ρ H H1 F W D M h =>
  h1 B B1 σ ρ H H1 F { W with nx := wu W } { D with nx := u D } ⟨fun σ ρ H H1 F z => h2 B B1 σ ρ H H1 F W D M z, M.rt, M.bk, M.ct⟩ h
theorem ds_next : DS K T tNext nextW := fun B B1 σ ρ H H1 F W D M h => M.nx σ ρ H H1 F h
theorem ds_dead : DS K T (fun _ _ _ => False) deadW := fun B B1 σ ρ H H1 F W D M h => h
theorem set_set_none {ρ : WEnv} {i : Nat} {s : Option Sl} : (ρ.set i none).set i s = ρ.set i s := List.set_set ..
theorem ds_set (ha : DM K T ta ma) : DS K T (tAsg ta (gName i)) (setW S i ma) := fun B B1 σ ρ H H1 F W D M h => by
  have e := tell_ex (S := S) F.o F.g.sub
  refine ha σ _ _ (F.told (S := S)) _ h H1 e.2 _ fun v s Hk H2 g m p => ?_
  have sb : Sub (ρ.set i none) ρ := (Sub.refl ρ).none i
  have F' := F.after sb g
  have m' := m.cut F sb g p.1
  have F2 := F'.put (i := i) m' F.g.all fun q c e1 e2 j es cs hj h1 hc h2 => by
    subst e1
    obtain ⟨q', ee, _, n3, _⟩ := m.own e2
    cases ee
    exact F.fresh_sep n3 (sb.2 j _ h1) hc h2
  rw [set_set_none] at F2
  exact M.nx _ _ _ _ F2 p.2
/-- two values put into two slots -/
theorem Fit.put2 {B B1 : Hp} {σ : L2.St} {ρ ρk : WEnv} {H H1 Hk H2 : Hp} (F : Fit K T B B1 σ ρ H H1) (sb : Sub ρk ρ) (g : Grow (tellH S σ ρ H H1) H1 Hk H2) {v w : V} {s s2 : Sl} {Hm : Hp} (m1 : RpM K H1 Hk H2 v s) (m2 : RpM K Hm Hk H2 w s2) (e : Ex H1 Hm)
    (hd : ∀ p us, v = .ref p → (∃ c, s.ownC = some c) → H2 p = some us → Hm p = some us) (f1 : FreeS S ρk s) (f2 : FreeS S ρk s2) : Fit K T B B1 ((σ.set i (some v)).set j (some w)) ((ρk.set i (some s)).set j (some s2)) (cutH S σ ρk Hk) H2 := by
  have F' := F.after sb g
  have n1 := m1.cut F sb g f1
  have n2 : RpM K H1 (cutH S σ ρk Hk) H2 w s2 := RpM.cut F sb g (m2.grow (Grow.refl g.sub) e) f2
  have F2 := F'.put (i := i) n1 F.g.all fun q ds e1 e2 l es cs hl h1 hc h2 => by
    subst e1
    obtain ⟨q', ee, _, n3, _⟩ := m1.own e2
    cases ee
    exact F.fresh_sep n3 (sb.2 l _ h1) hc h2
  refine F2.put (i := j) n2 F.g.all fun q ds e1 e2 l es cs hl h1 hc h2 => ?_
  subst e1
  obtain ⟨q', ee, _, n3, n4⟩ := m2.own e2
  obtain ⟨_, n4, _⟩ := n4.is
  cases ee
  rw [get_set] at h1 h2
  by_cases c : i = l
  · rw [if_pos c] at h1 h2
    split at h1
    · rw [if_pos (by rw [F.p.len, ← sb.1]; assumption)] at h2
      cases Option.some.inj (Option.some.inj h1)
      cases Option.some.inj (Option.some.inj h2)
      have := hd q _ rfl ⟨_, hc⟩ n4
      rw [n3] at this
      cases this
    · cases h1
  · rw [if_neg c] at h1 h2
    exact F.fresh_sep (ex_none e n3) (sb.2 l _ h1) hc h2
theorem set2_none {ρ : WEnv} {a b : Option Sl} : ((((ρ.set i none).set j none).set i a).set j b) = (ρ.set i a).set j b := by
  apply List.ext_getElem?
  intro k
  simp only [get_set, List.length_set]
  by_cases h1 : i = k <;> by_cases h2 : j = k <;> simp [h1, h2]
theorem set3_none {ρ : WEnv} {a b c : Option Sl} : ((((((ρ.set i none).set j none).set l none).set i a).set j b).set l c) = ((ρ.set i a).set j b).set l c := by
  apply List.ext_getElem?
  intro k
  simp only [get_set, List.length_set]
  by_cases h1 : i = k <;> by_cases h2 : j = k <;> by_cases h3 : l = k <;> simp [h1, h2, h3]
theorem grow_mut' {B B1 H H1 : Hp} {p : Addr} {o : HO} (g : Grow B B1 H H1) (hm : H p = none) (h1 : B1 p = none) : Grow B B1 H (upd H1 p o) := ⟨g.known, g.sub.mut hm, g.all.mut h1, g.fresh⟩
theorem RpAll.eraseIdx' {H : Hp} : ∀ {vs : List V} {ds : List PyData} (i : Nat), RpAll K H vs ds → RpAll K H (vs.eraseIdx i) (ds.eraseIdx i)
  | _, _, _, .nil => .nil
  | _, _, 0, .cons _ r => r
  | _, _, i + 1, .cons h r => .cons h (RpAll.eraseIdx' i r)
theorem ds_par2 (ha : DM K T ta ma) (hb : DM K T tb mb) : DS K T (tPar i j (tCons ta (tCons tb tNil))) (set2W S i j ma mb) := fun B B1 σ ρ H H1 F W D M h => by
  have e := tell_ex (S := S) F.o F.g.sub
  refine ha σ _ _ (F.told (S := S)) _ h H1 e.2 _ fun v s Hk H2 g m p => ?_
  refine hb σ _ _ ((F.told (S := S)).mono g.known) _ p H2 g.sub _ fun w s2 Hk' H3 g' m' p' => ?_
  have sb : Sub ((ρ.set i none).set j none) ρ := ((Sub.refl ρ).none i).none j
  have m1 := m.grow g' (Ex.refl H1)
  have F2 := F.put2 (i := i) (j := j) sb (g.trans g') m1 m' g.all (fun p us e1 e2 e3 => by
    obtain ⟨c, e2⟩ := e2
    obtain ⟨q, ee, _, _, n4⟩ := m.own e2
    obtain ⟨_, n4, _⟩ := n4.is
    subst e1
    cases ee
    rw [g'.all _ _ n4] at e3
    rw [n4]
    exact e3) p'.1 p'.2.1
  exact ⟨v, w, rfl, M.nx _ _ _ _ F2 (by rw [set2_none]; exact p'.2.2)⟩
/-- through a tuple that nobody keeps -/
theorem ds_asg2 (ha : DM K T ta ma) (hb : DM K T tb mb) : DS K T (tAsg (tTup (tCons ta (tCons tb tNil))) (gTup K 2 (gCons (gName i) (gCons (gName j) gNil)))) (set2W S i j ma mb) := fun B B1 σ ρ H H1 F W D M h => by
  have e := tell_ex (S := S) F.o F.g.sub
  refine ha σ _ _ (F.told (S := S)) _ h H1 e.2 _ fun v s Hk H2 g m p => ?_
  refine hb σ _ _ ((F.told (S := S)).mono g.known) _ p H2 g.sub _ fun w s2 Hk' H3 g' m' p' => ?_
  refine ⟨by show 2 ≤ sizeLine; decide, fun a ha => ⟨a, [v, w], rfl, st_of upd_same, rfl, v, [w], rfl, w, [], rfl, rfl, ?_⟩⟩
  have gh := Grow.hide g'.sub ha (.tup [v, w])
  have sb : Sub ((ρ.set i none).set j none) ρ := ((Sub.refl ρ).none i).none j
  have m1 := m.grow (g'.trans gh) (Ex.refl H1)
  have m2 := m'.grow gh (Ex.refl H2)
  have F2 := F.put2 (i := i) (j := j) sb ((g.trans g').trans gh) m1 m2 g.all (fun p us e1 e2 e3 => by
    obtain ⟨c, e2⟩ := e2
    obtain ⟨q, ee, _, _, n4⟩ := m.own e2
    obtain ⟨_, n4, _⟩ := n4.is
    subst e1
    cases ee
    rw [(g'.trans gh).all _ _ n4] at e3
    rw [n4]
    exact e3) p'.1 p'.2.1
  exact M.nx _ _ _ _ F2 (by rw [set2_none]; exact p'.2.2)
theorem Fit.put3 {B B1 : Hp} {σ : L2.St} {ρ ρk : WEnv} {H H1 Hk H2 : Hp} (F : Fit K T B B1 σ ρ H H1) (sb : Sub ρk ρ) (g : Grow (tellH S σ ρ H H1) H1 Hk H2) {v w x : V} {s s2 s3 : Sl} {Hm Hn : Hp} (m1 : RpM K H1 Hk H2 v s) (m2 : RpM K Hm Hk H2 w s2) (m3 : RpM K Hn Hk H2 x s3) (e : Ex H1 Hm) (e2 : Ex H1 Hn)
    (hd : ∀ p us, v = .ref p → (∃ c, s.ownC = some c) → H2 p = some us → Hm p = some us) (hd2 : ∀ p us, v = .ref p → (∃ c, s.ownC = some c) → H2 p = some us → Hn p = some us) (hd3 : ∀ p us, w = .ref p → (∃ c, s2.ownC = some c) → H2 p = some us → Hn p = some us)
    (f1 : FreeS S ρk s) (f2 : FreeS S ρk s2) (f3 : FreeS S ρk s3) : Fit K T B B1 (((σ.set i (some v)).set j (some w)).set l (some x)) (((ρk.set i (some s)).set j (some s2)).set l (some s3)) (cutH S σ ρk Hk) H2 := by
  have F2 := F.put2 (i := i) (j := j) sb g m1 m2 e hd f1 f2
  have n3 : RpM K H1 (cutH S σ ρk Hk) H2 x s3 := RpM.cut F sb g (m3.grow (Grow.refl g.sub) e2) f3
  refine F2.put (i := l) n3 F.g.all fun q ds e1 e3 k es cs hl h1 hc h2 => ?_
  subst e1
  obtain ⟨q', ee, _, z3, z4⟩ := m3.own e3
  obtain ⟨_, z4, _⟩ := z4.is
  cases ee
  rw [get_set] at h1 h2
  by_cases c : j = k
  · rw [if_pos c] at h1 h2
    split at h1
    · rw [if_pos (by rw [List.length_set, F.p.len, ← sb.1]; rename_i z; rw [List.length_set] at z; exact z)] at h2
      cases Option.some.inj (Option.some.inj h1)
      cases Option.some.inj (Option.some.inj h2)
      have := hd3 q _ rfl ⟨_, hc⟩ z4
      rw [z3] at this
      cases this
    · cases h1
  · rw [if_neg c, get_set] at h1 h2
    by_cases c : i = k
    · rw [if_pos c] at h1 h2
      split at h1
      · rw [if_pos (by rw [F.p.len, ← sb.1]; assumption)] at h2
        cases Option.some.inj (Option.some.inj h1)
        cases Option.some.inj (Option.some.inj h2)
        have := hd2 q _ rfl ⟨_, hc⟩ z4
        rw [z3] at this
        cases this
      · cases h1
    · rw [if_neg c] at h1 h2
      exact F.fresh_sep (ex_none e2 z3) (sb.2 k _ h1) hc h2
theorem keep_own {Hk Hk' H2 H3 : Hp} {H0 : Hp} {v : V} {s : Sl} (m : RpM K H0 Hk H2 v s) (g' : Grow Hk H2 Hk' H3) {Hz : Hp} (gz : Ex H3 Hz) : ∀ p us, v = .ref p → (∃ c, s.ownC = some c) → Hz p = some us → H3 p = some us := fun p us e1 e2 e3 => by
  obtain ⟨c, e2⟩ := e2
  obtain ⟨q, ee, _, _, n4⟩ := m.own e2
  obtain ⟨_, n4, _⟩ := n4.is
  subst e1
  cases ee
  have n5 := g'.all _ _ n4
  rw [gz _ _ n5] at e3
  rw [n5]
  exact e3
theorem ds_asg3 (ha : DM K T ta ma) (hb : DM K T tb mb) (hc : DM K T tc mc) : DS K T (tAsg (tTup (tCons ta (tCons tb (tCons tc tNil)))) (gTup K 3 (gCons (gName i) (gCons (gName j) (gCons (gName l) gNil))))) (set3W S i j l ma mb mc) := fun B B1 σ ρ H H1 F W D M h => by
  have e := tell_ex (S := S) F.o F.g.sub
  refine ha σ _ _ (F.told (S := S)) _ h H1 e.2 _ fun v s Hk H2 g m p => ?_
  refine hb σ _ _ ((F.told (S := S)).mono g.known) _ p H2 g.sub _ fun w s2 Hk' H3 g' m' p' => ?_
  refine hc σ _ _ ((F.told (S := S)).mono (g.trans g').known) _ p' H3 g'.sub _ fun x s3 Hk'' H4 g'' m'' p'' => ?_
  refine ⟨by show 3 ≤ sizeLine; decide, fun a ha => ⟨a, [v, w, x], rfl, st_of upd_same, rfl, v, [w, x], rfl, w, [x], rfl, x, [], rfl, rfl, ?_⟩⟩
  have gh := Grow.hide g''.sub ha (.tup [v, w, x])
  have sb : Sub (((ρ.set i none).set j none).set l none) ρ := (((Sub.refl ρ).none i).none j).none l
  have F2 := F.put3 (i := i) (j := j) (l := l) sb (((g.trans g').trans g'').trans gh) (m.grow ((g'.trans g'').trans gh) (Ex.refl H1)) (m'.grow (g''.trans gh) (Ex.refl H2)) (m''.grow gh (Ex.refl H3)) g.all (g.trans g').all
    (keep_own m (Grow.refl g.sub) ((g'.trans g'').trans gh).all) (keep_own m g' (g''.trans gh).all) (keep_own m' (Grow.refl g'.sub) (g''.trans gh).all) p''.1 p''.2.1 p''.2.2.1
  exact M.nx _ _ _ _ F2 (by rw [set3_none]; exact p''.2.2.2)
/-- what is bound, with lists of one's own beside -/
theorem Fit.bound {B B1 : Hp} {σ σ' : L2.St} {ρ ρ' : WEnv} {H H1 : Hp} {js : List Nat} (F : Fit K T B B1 σ ρ H H1) (F' : FitP K T σ' ρ' H) (h : ∀ j, j ∉ js → σ'[j]? = σ[j]? ∧ ρ'[j]? = ρ[j]?) (hn : ∀ (j : Nat) s, j ∈ js → ρ'[j]? = some (some s) → s.ownC = none) : Fit K T B B1 σ' ρ' H H1 := by
  have key : ∀ (j : Nat) s c, ρ'[j]? = some (some s) → s.ownC = some c → σ'[j]? = σ[j]? ∧ ρ[j]? = some (some s) := fun j s c e ec => by
    have hj : j ∉ js := fun z => by
      rw [hn j s z e] at ec
      cases ec
    exact ⟨(h j hj).1, (h j hj).2 ▸ e⟩
  refine ⟨F.g, F', ⟨fun j s c q qc => ?_, fun i j p s c s' c' q1 qc q2 qc' z1 z2 => ?_, F.o.b0⟩⟩
  · obtain ⟨k1, k2⟩ := key j s c q qc
    rw [k1]
    exact F.o.at1 j s c k2 qc
  · obtain ⟨k1, k2⟩ := key i s c q1 qc
    obtain ⟨l1, l2⟩ := key j s' c' q2 qc'
    rw [k1] at z1
    rw [l1] at z2
    exact F.o.sep1 i j p s c s' c' k2 qc l2 qc' z1 z2
theorem ds_if (h : DT K T tt ct) (h1 : DS K T t ws) (h2 : DS K T u wu) : DS K T (tIfS tt t u) (ifW S ct ws wu) := fun B B1 σ ρ H H1 F W D M h0 => by
  have e := tell_ex (S := S) F.o F.g.sub
  refine h σ _ _ (F.told (S := S)) _ h0 H1 e.2 _ fun b Hk H2 g p => ?_
  have F' := F.after (S := S) (Sub.refl ρ) g
  cases b with
  | true => exact h1 B B1 σ ρ _ H2 F' W D M (by simpa using p)
  | false => exact h2 B B1 σ ρ _ H2 F' W D M (by simpa using p)
theorem ds_ret (h : DE K T te wa) : DS K T (tRet te) (retW S wa) := fun B B1 σ ρ H H1 F W D M h0 => by
  have e := tell_ex (S := S) F.o F.g.sub
  exact h σ _ _ (F.told (S := S)) _ h0 H1 e.2 _ fun v d Hk H2 g r p => M.rt _ _ _ _ ((F.toldG (S := S)).trans g) r p
/-- a thing of one's own is changed -/
theorem Fit.changeC {B B1 : Hp} {σ : L2.St} {ρ : WEnv} {H H1 : Hp} (F : Fit K T B B1 σ ρ H H1) {i : Nat} {p : Addr} {s s' : Sl} {c c' : Cont} {o : HO} (hi : ρ[i]? = some (some s)) (hc : s.ownC = some c) (hs : σ[i]? = some (some (.ref p))) (hc' : s'.ownC = some c') (r : OwnAt K H (upd H1 p o) p c') :
    Fit K T B B1 σ (ρ.set i (some s')) H (upd H1 p o) := by
  obtain ⟨q, e1, e2, e3, e4⟩ := F.o.at1 i s c hi hc
  rw [hs] at e1
  cases e1
  refine ⟨grow_mut' F.g e2 e3, ⟨by rw [List.length_set, F.p.len], fun k => ?_, F.p.tabs⟩, ⟨fun k t ct z zc => ?_, fun k l a t ct t' ct' z1 zc z2 zc' y1 y2 => ?_, F.o.b0⟩⟩
  · rw [get_set]
    by_cases c : i = k
    · rw [if_pos c]
      split
      · cases s' with
        | own _ => trivial
        | owd _ _ => trivial
        | dat _ => cases hc'
        | bag => cases hc'
        | pin _ => cases hc'
        | tbl _ => cases hc'
        | ho _ => cases hc'
      · trivial
    · rw [if_neg c]
      exact F.p.sl k
  · rw [get_set] at z
    by_cases c : i = k
    · rw [if_pos c] at z
      split at z
      · cases Option.some.inj (Option.some.inj z)
        subst c
        rw [hc'] at zc
        cases zc
        exact ⟨p, hs, e2, e3, r⟩
      · cases z
    · rw [if_neg c] at z
      obtain ⟨q, a1, a2, a3, a4⟩ := F.o.at1 k t ct z zc
      have hq : q ≠ p := fun ee => by
        subst ee
        exact c (F.o.sep1 i k q _ _ _ _ hi hc z zc hs a1)
      have : ∀ o', H1 q = some o' → upd H1 p o q = some o' := fun o' z => by
        rw [upd_ne hq]
        exact z
      exact ⟨q, a1, a2, a3, a4.go (Ex.refl _) this⟩
  · have back : ∀ (k : Nat) t ct, (ρ.set i (some s'))[k]? = some (some t) → t.ownC = some ct → ∃ t' ct', ρ[k]? = some (some t') ∧ t'.ownC = some ct' := fun k t ct z zc => by
      rw [get_set] at z
      by_cases c : i = k
      · subst c
        exact ⟨s, _, hi, hc⟩
      · rw [if_neg c] at z
        exact ⟨t, ct, z, zc⟩
    obtain ⟨f1, g1, z1', w1⟩ := back k t ct z1 zc
    obtain ⟨f2, g2, z2', w2⟩ := back l t' ct' z2 zc'
    exact F.o.sep1 k l a f1 g1 f2 g2 z1' w1 z2' w2 y1 y2
theorem Fit.change {B B1 : Hp} {σ : L2.St} {ρ : WEnv} {H H1 : Hp} (F : Fit K T B B1 σ ρ H H1) {i : Nat} {p : Addr} {ds es : List PyData} {us : List V} (hi : ρ[i]? = some (some (.own ds))) (hs : σ[i]? = some (some (.ref p))) (r : RpAll K H us es) :
    Fit K T B B1 σ (ρ.set i (some (.own es))) H (upd H1 p (.lst us)) := F.changeC (s' := .own es) hi rfl hs rfl ⟨us, upd_same, r⟩
theorem ds_app (h : DE K T te wa) : DS K T (tDrop (tBM K "list" rAppend (tVar i) (tCons te tNil))) (appW S i wa) := fun B B1 σ ρ H H1 F W D M h0 => by
  have e := tell_ex (S := S) F.o F.g.sub
  unfold appW at h0
  split at h0
  · rename_i ds hi
    obtain ⟨p, vs, e1, e2, e3, e4, e5⟩ := F.o.own i ds hi
    refine ⟨.ref p, e1, .inl ⟨rfl, vs, .inl (.inl e4)⟩, ?_⟩
    refine h σ _ _ (F.told (S := S)) _ h0 H1 e.2 _ fun v d Hk H2 g r q => ?_
    have F' := F.after (S := S) (Sub.refl ρ) g
    have r' := Rp.cutO (F.ownIn (Sub.refl ρ) g) r q.1.fr
    obtain ⟨p', vs', b1, b2, b3, b4, b5⟩ := F'.o.own i ds hi
    rw [e1] at b1
    cases b1
    have ev : vs' = vs := by
      rw [g.all _ _ e4] at b4
      cases b4
      rfl
    subst ev
    exact ⟨p, vs', v, rfl, rfl, b4, sz_lt (by rw [e5.len]; exact q.2.1), M.nx _ _ _ _ (F'.change hi e1 (b5.append (.cons r' .nil))) q.2.2⟩
  · exact h0.elim
theorem Fit.rebase {B B1 : Hp} {σ : L2.St} {ρ : WEnv} {H H1 : Hp} (F : Fit K T B B1 σ ρ H H1) : Fit K T H B1 σ ρ H H1 := ⟨⟨Ex.refl _, F.g.sub, F.g.all, fun p o h n _ => by rw [h] at n; cases n⟩, F.p, F.o⟩
theorem Grow.unbase {B B1 H H1 Hk H2 : Hp} (g : Grow B B1 H H1) (g2 : Grow H B1 Hk H2) : Grow B B1 Hk H2 := ⟨g.known.trans g2.known, g2.sub, g2.all, fun p o h n t => by
  cases q : H p with
  | some u => exact g.fresh p u q n (NT.of ((g2.known p u q).symm.trans h) t)
  | none => exact g2.fresh p o h q t⟩
theorem Fit.unbase {B B1 : Hp} {σ : L2.St} {ρ : WEnv} {H H1 Hk H2 : Hp} (g : Grow B B1 H H1) (F : Fit K T H B1 σ ρ Hk H2) : Fit K T B B1 σ ρ Hk H2 := ⟨g.unbase F.g, F.p, F.o⟩
theorem ds_for {wi : TI} {gg : TG} {ww : WL} {wb : WB} {js : List Nat} (hi : DI K T wi ww) (hg : DB K T js gg wb) (hb : DS K T t ws) : DS K T (tFor wi gg t) (forW ww wb ws) := fun B B1 σ ρ H H1 F W D M h0 => by
  refine hi σ ρ H F.p _ h0 H1 F.g.sub _ fun ds J G Y Hk H2 p2 g2 w g0 hy => ?_
  refine for_it w (fun n σ2 H3 => ∃ ρ2 Hm, Ex Hk Hm ∧ Fit K T B B1 σ2 ρ2 Hm H3 ∧ loopW wb ws W (ds.drop n) ρ2) ⟨ρ, Hk, Ex.refl _, F.grow g2, p2⟩ ?_ ?_ ?_
  · rintro n σ2 H3 _ ⟨ρ2, Hm, em, F2, _⟩
    exact g0 H3 (em.trans F2.g.sub)
  · rintro n x σ2 H3 H4 hlt ⟨ρ2, Hm, em, F2, hl⟩ y
    obtain ⟨Hm', g34, d, hd, rx⟩ := hy n x Hm H3 H4 hlt em F2.g.sub y
    rw [List.drop_eq_getElem_cons hlt] at hl
    have ed : ds[n] = d := by
      rw [List.getElem?_eq_getElem hlt] at hd
      exact Option.some.inj hd
    rw [ed] at hl
    have F3 := F2.grow g34
    refine hg σ2 ρ2 Hm' x d F3.p rx _ hl H4 F3.g.sub _ fun σ' ρ' F' ho hn z => ?_
    have F4 := F3.bound F' ho.2 hn
    have em4 := em.trans g34.known
    have nx : ∀ σ5 ρ5 H5 H6, Fit K T Hm' B1 σ5 ρ5 H5 H6 → loopW wb ws W (ds.drop (n + 1)) ρ5 → ∃ ρ2 Hm, Ex Hk Hm ∧ Fit K T B B1 σ5 ρ2 Hm H6 ∧ loopW wb ws W (ds.drop (n + 1)) ρ2 := fun σ5 ρ5 H5 H6 F5 h5 => ⟨ρ5, H5, em4.trans F5.g.known, F5.unbase F3.g, h5⟩
    exact hb Hm' B1 σ' ρ' Hm' H4 F4.rebase { W with nx := loopW wb ws W (ds.drop (n + 1)), ct := loopW wb ws W (ds.drop (n + 1)), bk := W.nx } _ ⟨nx, fun v d H5 H6 g5 r5 p5 => M.rt _ _ _ _ (F3.g.unbase g5) r5 p5, fun σ5 ρ5 H5 H6 F5 h5 => M.nx _ _ _ _ (F5.unbase F3.g) h5, nx⟩ z
  · rintro σ2 H3 ⟨ρ2, Hm, em, F2, hl⟩
    rw [List.drop_length] at hl
    exact M.nx _ _ _ _ F2 hl
theorem ds_forR {wi : TI} {gg : TG} {ww : WL} {wb : WB} {js : List Nat} (hi : DR K T wi ww) (hg : DB K T js gg wb) (hb : DS K T t ws) : DS K T (tFor wi gg t) (forRW S ww wb ws) := fun B B1 σ ρ H H1 F W D M h0 => by
  have e := tell_ex (S := S) F.o F.g.sub
  refine hi σ _ _ (F.told (S := S)) _ h0 H1 e.2 _ fun ds J Y Hk H2 p2 g2 w hy => ?_
  refine for_it w (fun n σ2 H3 => ∃ ρ2 Hm, Fit K T B B1 σ2 ρ2 Hm H3 ∧ loopW wb ws W (ds.drop n) ρ2) ⟨ρ, _, F.after (S := S) (Sub.refl ρ) g2, p2⟩ (fun _ _ _ _ _ => trivial) ?_ ?_
  · rintro n x σ2 H3 H4 hlt ⟨ρ2, Hm, F2, hl⟩ y
    obtain ⟨Hm', g34, d, hd, rx⟩ := hy n x Hm H3 H4 hlt F2.g.sub y
    rw [List.drop_eq_getElem_cons hlt] at hl
    have ed : ds[n] = d := by
      rw [List.getElem?_eq_getElem hlt] at hd
      exact Option.some.inj hd
    rw [ed] at hl
    have F3 := F2.grow g34
    refine hg σ2 ρ2 Hm' x d F3.p rx _ hl H4 F3.g.sub _ fun σ' ρ' F' ho hn z => ?_
    have F4 := F3.bound F' ho.2 hn
    have nx : ∀ σ5 ρ5 H5 H6, Fit K T B B1 σ5 ρ5 H5 H6 → loopW wb ws W (ds.drop (n + 1)) ρ5 → ∃ ρ2 Hm, Fit K T B B1 σ5 ρ2 Hm H6 ∧ loopW wb ws W (ds.drop (n + 1)) ρ2 := fun σ5 ρ5 H5 H6 F5 h5 => ⟨ρ5, H5, F5, h5⟩
    exact hb B B1 σ' ρ' Hm' H4 F4 { W with nx := loopW wb ws W (ds.drop (n + 1)), ct := loopW wb ws W (ds.drop (n + 1)), bk := W.nx } _ ⟨nx, M.rt, fun σ5 ρ5 H5 H6 F5 h5 => M.nx _ _ _ _ F5 h5, nx⟩ z
  · rintro σ2 H3 ⟨ρ2, Hm, F2, hl⟩
    rw [List.drop_length] at hl
    exact M.nx _ _ _ _ F2 hl
def startW (N : Nat) (ss : List Sl) : WEnv := ss.map some ++ List.replicate (N - ss.length) none
def bodyW (ws : WS) (N : Nat) : List Sl → (PyData → Prop) → Prop := fun ss P => ws ⟨fun _ => P .none, P, fun _ => False, fun _ => False⟩ (startW N ss)
theorem spSs_get {H : Hp} : ∀ {vs : List V} {ss : List Sl} (i : Nat) (m : Nat), RpSs K H vs ss → SlP K H (vs.map some ++ List.replicate m none)[i]? (ss.map some ++ List.replicate m none)[i]?
  | [], [], i, m, .nil => by
    rw [List.map_nil, List.map_nil, List.nil_append, List.nil_append, List.getElem?_replicate, List.getElem?_replicate]
    split <;> trivial
  | v :: vs, s :: ss, 0, m, .cons h _ => by
    show SlP K H (some (some v)) (some (some s))
    cases s with
    | dat d => exact ⟨v, rfl, h⟩
    | bag =>
      obtain ⟨b, rfl, hb⟩ := h
      exact ⟨b, rfl, hb⟩
    | own _ => trivial
    | owd _ _ => trivial
    | pin _ => exact congrArg (fun x => some (some x)) h
    | tbl _ => trivial
    | ho _ => exact ⟨v, rfl, h⟩
  | v :: vs, s :: ss, i + 1, m, .cons _ r => spSs_get i m r
theorem own_none {H : Hp} : ∀ {vs : List V} {ss : List Sl} (i : Nat) (m : Nat) (t : Sl) (c : Cont), RpSs K H vs ss → (ss.map some ++ List.replicate m none)[i]? = some (some t) → t.ownC = some c → False
  | [], [], i, m, t, c, .nil => by
    rw [List.map_nil, List.nil_append, List.getElem?_replicate]
    split <;> exact fun z => nomatch z
  | v :: vs, s :: ss, 0, m, t, c, .cons h _ => by
    intro z hc
    cases Option.some.inj (Option.some.inj z)
    cases s with
    | own _ => exact h
    | owd _ _ => exact h
    | dat _ => cases hc
    | bag => cases hc
    | pin _ => cases hc
    | tbl _ => cases hc
    | ho _ => cases hc
  | v :: vs, s :: ss, i + 1, m, t, c, .cons _ r => own_none i m t c r
theorem ds_body {n N : Nat} {Nm : List Str} (hN : Nm.length = N) (h : DS K T t ws) {vs : List V} {H1 : Hp} (hB : Base.h0 = H1 := by rfl) {Q : VK} {E : XK} (hs : spW K T n (bodyW ws N) vs H1 Q E) : t { nx := fun _ H' => Q .non H', rt := Q } (L2.start Nm vs) H1 := by
  obtain ⟨H, ss, e, hT, r, _, P, p, k⟩ := hs
  have el := r.len
  subst hN
  refine h H H1 (L2.start Nm vs) (startW Nm.length ss) H H1 ⟨Grow.refl e, ⟨?_, fun i => ?_, hT⟩, ⟨fun i t c z zc => ?_, fun i j q t c t' c' z zc => ?_, fun a z => by rw [hB]; exact z⟩⟩ ⟨fun _ => P .none, P, fun _ => False, fun _ => False⟩ _ ⟨fun σ ρ Hk H2 F z => k .non .none Hk H2 F.g .non z, fun v d Hk H2 g r z => k v d Hk H2 g r z, fun _ _ _ _ _ z => z, fun _ _ _ _ _ z => z⟩ p
  · simp [L2.start, startW, el]
  · unfold L2.start startW
    rw [el]
    exact spSs_get i _ r
  · exact (own_none i _ t c r z zc).elim
  · exact (own_none i _ t c r z zc).elim
omit [Base] in
theorem spW_len {n : Nat} {w : List Sl → (PyData → Prop) → Prop} {vs : List V} {H : Hp} {Q : VK} {E : XK} (h : spW K T n w vs H Q E) : vs.length = n := by
  obtain ⟨_, _, _, _, r, e, _⟩ := h
  exact r.len.trans e
end
end DL
namespace DL
open PySem PySem.Spec PyProof.Rows L2 Evl
variable [CTab]
abbrev W1 := List PyData → (PyData → Prop) → Prop
abbrev W2 := PyData → PyData → (PyData → Prop) → Prop
def rAddA (K : PySem.W.Frag) : R2 := fun x y H Q => rAddU K x y H Q ∨ rCatS K x y H Q
theorem kAddA {X : Cx} {K : PySem.W.Frag} (h : X.K = K) : OpR X (binaryOp .Add) (rAddA K) := opOr (kAdd h) (kCatS h)
def addW : W2
  | .int a, .int b, Q => Q (.int (a + b))
  | .str a, .str b, Q => a.length + b.length ≤ 100000 ∧ Q (.str (a ++ b))
  | .tuple a, .tuple b, Q => a.length + b.length ≤ 100000 ∧ Q (.tuple (a ++ b))
  | .list a, .list b, Q => a.length + b.length ≤ 100000 ∧ Q (.list (a ++ b))
  | _, _, _ => False
def subW : W2
  | .int a, .int b, Q => Q (.int (a - b))
  | _, _, _ => False
def fdivW : W2
  | .int a, .int b, Q => b ≠ 0 ∧ b.natAbs.log2 < 9000 ∧ Q (.int (a.fdiv b))
  | _, _, _ => False
def modW : W2
  | .int a, .int b, Q => 0 < b ∧ Q (.int (a % b))
  | _, _, _ => False
def eqW : W2
  | .str x, .str y, Q => Q (.bool (decide (x = y)))
  | a, b, Q => SeqAt.shaped a = true ∧ SeqAt.shaped b = true ∧ Q (.bool (PyData.eqv a b))
def neW : W2
  | .str x, .str y, Q => Q (.bool (!decide (x = y)))
  | a, b, Q => SeqAt.shaped a = true ∧ SeqAt.shaped b = true ∧ Q (.bool (!PyData.eqv a b))
def ltW : W2
  | .int a, .int b, Q => Q (.bool (decide (a < b)))
  | .str a, .str b, Q => Q (.bool (ltS a b))
  | _, _, _ => False
def gtW : W2
  | .int a, .int b, Q => Q (.bool (decide (b < a)))
  | .str a, .str b, Q => Q (.bool (ltS b a))
  | _, _, _ => False
def leW : W2
  | .int a, .int b, Q => Q (.bool (decide (a ≤ b)))
  | .str a, .str b, Q => Q (.bool (!ltS b a))
  | _, _, _ => False
def geW : W2
  | .int a, .int b, Q => Q (.bool (decide (b ≤ a)))
  | .str a, .str b, Q => Q (.bool (!ltS a b))
  | _, _, _ => False
def inW : W2
  | .str c, .str z, Q => ∃ k, c = ⟨#[k]⟩ ∧ Q (.bool (decide (k ∈ z.cps.toList)))
  | d, .list ds, Q => flatD d = true ∧ ds.all flatD = true ∧ Q (.bool (ds.any fun y => PyData.eqv y d))
  | d, .tuple ds, Q => flatD d = true ∧ ds.all flatD = true ∧ Q (.bool (ds.any fun y => PyData.eqv y d))
  | _, _, _ => False
def niW : W2
  | d, .list ds, Q => flatD d = true ∧ ds.all flatD = true ∧ Q (.bool (!ds.any fun y => PyData.eqv y d))
  | d, .tuple ds, Q => flatD d = true ∧ ds.all flatD = true ∧ Q (.bool (!ds.any fun y => PyData.eqv y d))
  | _, _, _ => False
def isW : W2
  | d, .none, Q => Q (.bool (isNon d))
  | _, _, _ => False
def isnW : W2
  | d, .none, Q => Q (.bool (!isNon d))
  | _, _, _ => False
def ixW : W2
  | .list ds, .int i, Q => ∃ d, L2.atI ds i = some d ∧ Q d
  | .tuple ds, .int i, Q => ∃ d, L2.atI ds i = some d ∧ Q d
  | .str z, .int i, Q => z.length ≤ 100000 ∧ ∃ c, L2.atI z.cps.toList i = some c ∧ Q (.str ⟨#[c]⟩)
  | _, _, _ => False
theorem RD.post {K : PySem.W.Frag} {r : R2} {d e z : PyData} {Q : PyData → Prop} (h : RD K r d e (· = z)) (q : Q z) : RD K r d e Q := RD.weak h fun _ ee => by subst ee; exact q
theorem RCD.post {K : PySem.W.Frag} {rr : List V → Hp → VK → Prop} {ds : List PyData} {z : PyData} {Q : PyData → Prop} (h : RCD K rr ds (· = z)) (q : Q z) : RCD K rr ds Q := RCD.weak h fun _ ee => by subst ee; exact q
section
variable {K : PySem.W.Frag} {T : List Addr}
theorem ow_add : OpW K (rAddA K) addW := fun d e Q h => by
  unfold addW at h
  split at h
  · exact RD.l (RD.post rd_add h)
  · exact RD.l (RD.post (rd_addS h.1) h.2)
  · exact RD.l (RD.post (rd_addT h.1) h.2)
  · exact RD.r (RD.post (rd_catS h.1) h.2)
  · exact h.elim
def rEqA (K : PySem.W.Frag) : R2 := fun x y H Q => rEqD K x y H Q ∨ rEq x y H Q
def rNeA (K : PySem.W.Frag) : R2 := fun x y H Q => rNeD K x y H Q ∨ rNe x y H Q
theorem kEqA {X : Cx} {K : PySem.W.Frag} (h : X.K = K) (hu : X.A.units + 64 < cLine) : OpR X (compareOp .Eq) (rEqA K) := opOr (kEq h hu) op_eq
theorem kNeA {X : Cx} {K : PySem.W.Frag} (h : X.K = K) (hu : X.A.units + 64 < cLine) : OpR X (compareOp .NotEq) (rNeA K) := opOr (kNe h hu) op_ne
theorem ow_eq : OpW K (rEqA K) eqW := fun d e Q h => by
  unfold eqW at h
  split at h
  · refine RD.r fun v1 v2 H H1 ex r1 r2 Q' k => ?_
    cases r1
    cases r2
    rename_i _ x y
    refine ⟨rfl, k _ _ H H1 (Grow.refl ex) (.bl _) ?_⟩
    have e : decide (V.str x = V.str y) = decide (x = y) := by
      rw [Bool.eq_iff_iff]
      simp
    rw [e]
    exact h
  · exact RD.l (RD.post (rd_eqD h.1 h.2.1) h.2.2)
theorem ow_ne : OpW K (rNeA K) neW := fun d e Q h => by
  unfold neW at h
  split at h
  · refine RD.r fun v1 v2 H H1 ex r1 r2 Q' k => ?_
    cases r1
    cases r2
    rename_i _ x y
    refine ⟨rfl, k _ _ H H1 (Grow.refl ex) (.bl _) ?_⟩
    have e : decide (V.str x = V.str y) = decide (x = y) := by
      rw [Bool.eq_iff_iff]
      simp
    rw [e]
    exact h
  · exact RD.l (RD.post (rd_neD h.1 h.2.1) h.2.2)
theorem ow_lt : OpW K rLtU ltW := fun d e Q h => by
  unfold ltW at h
  split at h
  · exact RD.post rd_lt h
  · exact RD.post rd_ltT h
  · exact h.elim
theorem ow_gt : OpW K rGtU gtW := fun d e Q h => by
  unfold gtW at h
  split at h
  · exact RD.post rd_gt h
  · exact RD.post rd_gtT h
  · exact h.elim
theorem ow_le : OpW K rLeU leW := fun d e Q h => by
  unfold leW at h
  split at h
  · exact RD.post rd_le h
  · exact RD.post rd_leT h
  · exact h.elim
theorem ow_in : OpW K (rInU K) inW := fun d e Q h => by
  unfold inW at h
  split at h
  · obtain ⟨k, rfl, q⟩ := h
    exact RD.post rd_inSign q
  · exact RD.post (rd_inFlat (.inl rfl) h.1 h.2.1) h.2.2
  · exact RD.post (rd_inFlat (.inr rfl) h.1 h.2.1) h.2.2
  · exact h.elim
theorem ow_ix : OpW K (rIx K) ixW := fun d e Q h => by
  unfold ixW at h
  split at h
  · obtain ⟨d, e, q⟩ := h
    exact RD.post (rd_ix (.inl rfl) e) q
  · obtain ⟨d, e, q⟩ := h
    exact RD.post (rd_ix (.inr rfl) e) q
  · obtain ⟨hz, c, e, q⟩ := h
    exact RD.post (rd_ixS hz e) q
  · exact h.elim
end
def lenW : W1
  | [d], Q => ∃ n, lenD d = some n ∧ Q (.int (n : Nat))
  | _, _ => False
def allW : W1
  | [.list ds], Q => ∃ bs : List Bool, ds = bs.map .bool ∧ Q (.bool (bs.all id))
  | _, _ => False
def anyW : W1
  | [.list ds], Q => ∃ bs : List Bool, ds = bs.map .bool ∧ Q (.bool (bs.any id))
  | _, _ => False
def max2W : W1
  | [.int i, .int j], Q => Q (.int (if j > i then j else i))
  | _, _ => False
def min2W : W1
  | [.int i, .int j], Q => Q (.int (if j < i then j else i))
  | _, _ => False
def absW : W1
  | [.int i], Q => Q (.int i.natAbs)
  | _, _ => False
def intW : W1
  | [.int i], Q => Q (.int i)
  | [.bool b], Q => Q (.int (if b then 1 else 0))
  | _, _ => False
def tupleW : W1
  | [.list ds], Q => Q (.tuple ds)
  | [.tuple ds], Q => Q (.tuple ds)
  | _, _ => False
def isiW (p : PyData → Bool) (a : WE) : WE := fun ρ Q => a ρ fun d => Q (.bool (p d))
section
variable {K : PySem.W.Frag} {T : List Addr} {te ta tb : TE} {tl : TA} {we wa wb : WE} {wl : WL}
theorem cw_len : CbW K (rLen K) lenW := fun ds Q h => by
  unfold lenW at h
  split at h
  · obtain ⟨n, e, q⟩ := h
    exact RCD.post (rc_len e) q
  · exact h.elim
theorem cw_all : CbW K (rAll K) allW := fun ds Q h => by
  unfold allW at h
  split at h
  · obtain ⟨bs, rfl, q⟩ := h
    exact RCD.post rc_all q
  · exact h.elim
theorem cw_any : CbW K (rAny K) anyW := fun ds Q h => by
  unfold anyW at h
  split at h
  · obtain ⟨bs, rfl, q⟩ := h
    exact RCD.post rc_any q
  · exact h.elim
theorem cw_max2 : CbW K rMax2' max2W := fun ds Q h => by
  unfold max2W at h
  split at h
  · exact RCD.post rc_max2 h
  · exact h.elim
theorem cw_min2 : CbW K rMin2' min2W := fun ds Q h => by
  unfold min2W at h
  split at h
  · exact RCD.post rc_min2 h
  · exact h.elim
theorem cw_tuple : CbW K (rTupOf K) tupleW := fun ds Q h => by
  unfold tupleW at h
  split at h
  · exact RCD.post (rc_tuple (.inl rfl)) h
  · exact RCD.post (rc_tuple (.inr rfl)) h
  · exact h.elim
theorem kitI {d : PyData} {S : String} {p : PyData → Bool} (hk : ∀ d, insD d = false → kitB (tyOf d) S = some (p d)) (hp : ∀ d, insD d = true → p d = false) (hS : S ∈ builtTs) {H : Hp} {v : V} (r : Rp K H v d) : ∃ t, TyY K H v t ∧ PySem.W.kitOne K t (.type S) = some (p d) := by
  cases hi : insD d with
  | false => exact ⟨_, r.ty hi, kit_ty (hk d hi)⟩
  | true =>
    obtain ⟨nm, C, kvs, rfl, h1, h2, h3⟩ := r.tyI hi
    exact ⟨_, h3, by rw [hp _ hi]; exact h2.kb S hS⟩
theorem de_isi {S : String} {p : PyData → Bool} (hk : ∀ d, insD d = false → kitB (tyOf d) S = some (p d)) (hp : ∀ d, insD d = true → p d = false) (hS : S ∈ builtTs) (h : DE K T te we) : DE K T (tCB (rIsiY K) (tCons te (tCons (tC (.ty S)) tNil))) (isiW p we) := by
  intro σ ρ H F P q H1 e Q k
  refine h σ ρ H F _ q H1 e _ fun v d Hk H2 g2 r2 p2 => ?_
  obtain ⟨t, ht, hb⟩ := kitI (S := S) hk hp hS (r2.mono g2.sub)
  exact ⟨v, .ty S, _, _, _, rfl, .ty S, ht, hb, k _ _ Hk H2 g2 (.bl _) p2⟩
theorem insNot {p : PyData → Bool} (h : ∀ kvs, insB kvs = true → p (.dict kvs) = false) : ∀ d, insD d = true → p d = false
  | .dict kvs, e => h kvs e
  | .none, e => by cases e
  | .bool _, e => by cases e
  | .int _, e => by cases e
  | .str _, e => by cases e
  | .list _, e => by cases e
  | .tuple _, e => by cases e
theorem de_isStr (h : DE K T te we) : DE K T (tCB (rIsiY K) (tCons te (tCons (tC (.ty "str")) tNil))) (isiW isStr we) := de_isi (fun d _ => kit_str d) (insNot fun _ _ => rfl) (by decide) h
theorem de_isTup (h : DE K T te we) : DE K T (tCB (rIsiY K) (tCons te (tCons (tC (.ty "tuple")) tNil))) (isiW isTup we) := de_isi (fun d _ => kit_tup d) (insNot fun _ _ => rfl) (by decide) h
def listN (a : WE) : WL := fun ρ Q => a ρ fun d => match d with
  | .list ds => Q ds
  | .tuple ds => Q ds
  | _ => False
def catN (a b : WE) : WL := fun ρ Q => a ρ fun d => b ρ fun e => match d, e with
  | .list ds, .list es => ds.length + es.length ≤ 100000 ∧ Q (ds ++ es)
  | _, _ => False
def repN (a b : WE) : WL := fun ρ Q => a ρ fun d => b ρ fun e => match d, e with
  | .int x, .int k => -100000 ≤ k ∧ k < 100000 ∧ Q (List.replicate k.toNat (.int x))
  | _, _ => False
end
end DL
namespace DL
open PySem PySem.Spec PyProof.Rows L2 Evl
open PySem.Sem (wp)
variable [CTab]
/-- an iterator over the list (c) or the tuple at l, at place i -/
def IterM (c : Bool) (h : Heap) (it l : Addr) (i : Nat) : Prop := bif c then h.IsListIter it l i else h.IsTupleIter it l i
def SeqM (c : Bool) (h : Heap) (l : Addr) (xs : Array Value) : Prop := bif c then h.IsList l xs else h.IsTuple l xs
section
variable {c : Bool} {h h' : Heap} {it l a : Addr} {i : Nat} {xs : Array Value}
theorem IterM.off (x : IterM c h it l i) (hs : Heap.ExtBut a h h') (n : it ≠ a) : IterM c h' it l i := by
  cases c
  · exact Heap.IsTupleIter.extBut x hs n
  · exact Heap.IsListIter.extBut x hs n
theorem SeqM.off (x : SeqM c h l xs) (hs : Heap.ExtBut a h h') (n : l ≠ a) : SeqM c h' l xs := by
  cases c
  · exact Heap.IsTuple.extBut x hs n
  · exact Heap.IsList.extBut x hs n
theorem IterM.here (x : IterM c h it l i) (e : ∀ o, h.get? it = some o → h'.get? it = some o) : IterM c h' it l i := by
  cases c
  · exact Heap.IsTupleIter.at x e
  · exact Heap.IsListIter.at x e
theorem IterM.cell (x : IterM c h it l i) : ∃ o, h.get? it = some o ∧ ∀ v, o.data ≠ .cell v := by
  cases c
  all_goals
    obtain ⟨o, e, _, d⟩ := x
    exact ⟨o, e, fun v q => by rw [d] at q; cases q⟩
theorem IterM.cell1 (x : IterM c h it l i) {o : Obj} (e : h.get? it = some o) : ∀ v, o.data ≠ .cell v := by
  obtain ⟨o', e', d⟩ := x.cell
  rw [e] at e'
  cases e'
  exact d
theorem IterM.lt (x : IterM c h it l i) : it < h.objs.size := by
  obtain ⟨o, e, _⟩ := x.cell
  exact Heap.lt_size e
theorem SeqM.lt (x : SeqM c h l xs) : l < h.objs.size := by
  cases c
  all_goals
    obtain ⟨o, e, _⟩ := x
    exact Heap.lt_size e
end
section
variable {prog : Program} {w : World} {A : Around} {E : Value → Shared → Prop} {s : Shared} {c c2 : Bool}
theorem nextM_item {it l : Addr} {i : Nat} {xs : Array Value} {x : Value} {Q : Value → Shared → Prop} (hi : IterM c s.heap it l i) (hl : SeqM c s.heap l xs) (hx : xs[i]? = some x)
    (hQ : ∀ h', IterM c h' it l (i + 1) → Heap.SameBut it s.heap h' → Q x { s with heap := h' }) : wpAny (model prog w) A (Builtin.SmallTypes.nextOf (.ref it)) Q E s := by
  cases c
  · exact RZ.nextOf_tuple_item hi hl hx hQ
  · exact wpAny_nextOf_list_item hi hl hx hQ
theorem nextM_end {it l : Addr} {i : Nat} {xs : Array Value} {Q : Value → Shared → Prop} (hh : A.handled = none) (hi : IterM c s.heap it l i) (hl : SeqM c s.heap l xs) (hx : xs[i]? = none)
    (hE : ∀ h' e, Heap.ExtBut it s.heap h' → (∃ o, h'.get? e = some o ∧ o.cls = .type "StopIteration") → E (.ref e) { s with heap := h' }) : wpAny (model prog w) A (Builtin.SmallTypes.nextOf (.ref it)) Q E s := by
  cases c
  · exact RZ.nextOf_tuple_end hh hi hl hx hE
  · exact wpAny_nextOf_list_end hh hi hl hx hE
abbrev OffZ (z TO i1 i2 : Addr) (h h' : Heap) : Prop := ∀ a o, a ≠ z → a ≠ TO → a ≠ i1 → a ≠ i2 → h.get? a = some o → h'.get? a = some o
/-- one turn: a new pair of the two items, or the end -/
theorem pyNext_zipM {z TI TO i1 i2 l1 l2 : Addr} {k1 k2 : Nat} {xs ys : Array Value} {a b : Value} {Q : Option Value → Shared → Prop} (hh : A.handled = none) (D : ZipApart z TI TO i1 i2 l1 l2)
    (hz : IsZip s.heap z TI TO .none) (hTI : IsPair s.heap TI (.ref i1) (.ref i2)) (hTO : IsPair s.heap TO a b)
    (h1 : IterM c s.heap i1 l1 k1) (h2 : IterM c2 s.heap i2 l2 k2) (g1 : SeqM c s.heap l1 xs) (g2 : SeqM c2 s.heap l2 ys)
    (hq : ∀ x y, xs[k1]? = some x → ys[k2]? = some y → ∀ h', IsZip h' z TI TO (rawInt s.heap.objs.size) → IsPair h' TO x y → IterM c h' i1 l1 (k1 + 1) → IterM c2 h' i2 l2 (k2 + 1) → IsPair h' s.heap.objs.size x y →
      OffZ z TO i1 i2 s.heap h' → Q (some (.ref s.heap.objs.size)) { s with heap := h' })
    (he : xs[k1]? = none ∨ ys[k2]? = none → ∀ h', OffZ z TO i1 i2 s.heap h' → Q none { s with heap := h' }) : wpAny (model prog w) A (pyNext (.ref z)) Q E s := by
  have ty : s.TypeIs (.ref z) "zip" := ⟨_, hz, rfl⟩
  unfold pyNext
  refine wpAny_bind (wpAny_attempt (wpAny_callSpecial?_slot (name := Str.ofString "__next__") ty F.slot_zip_next (wpAny_call_entry F.slot_zip_next ty F.entry_zip_next ?_ (F.args_zip_next_1 _))))
  show wpAny _ _ (field (.ref z) 2 >>= _) _ _ _
  refine wpAny_bind (wpAny_field hz rfl (x := .bool false) rfl ?_)
  show wpAny _ _ (field (.ref z) 3 >>= _) _ _ _
  refine wpAny_bind (wpAny_field hz rfl (x := .ref TI) rfl (wpAny_bind (wpAny_seqItems hTI rfl ?_)))
  show wpAny _ _ (Builtin.SmallTypes.ownedTupleIsFree (.ref z) >>= _) _ _ _
  refine wpAny_bind ?_
  unfold Builtin.SmallTypes.ownedTupleIsFree
  refine wpAny_bind (wpAny_field hz rfl (x := .none) rfl (wpAny_pure ?_))
  simp only [if_true]
  refine wpAny_bind (wpAny_rule (wpAny_bind (wpAny_field hz rfl (x := .ref TO) rfl (wpAny_bind (wpAny_setField_rec hz (by simp) fun ha za ea => ?_)))))
  replace za : IsZip ha z TI TO .ellipsis := za
  refine wpAny_bind ?_
  simp only [List.zipIdx_cons, List.zipIdx_nil, List.forIn_cons, List.forIn_nil]
  refine wpAny_bind (wpAny_bind (wpAny_onRaise ?_))
  show wpAny _ _ (Builtin.SmallTypes.nextOf (.ref i1) >>= _) _ _ _
  have a1 := h1.off ea.extBut D.i1z
  have a2 := h2.off ea.extBut D.i2z
  have q1 := g1.off ea.extBut D.l1z
  have q2 := g2.off ea.extBut D.l2z
  have to1 : IsPair ha TO a b := ea.extBut _ _ D.TOz hTO
  cases hx : xs[k1]? with
  | none =>
    refine wpAny_bind (nextM_end hh a1 q1 hx fun hb e eb ex => ?_)
    obtain ⟨oe, hoe, hce⟩ := ex
    have zb : IsZip hb z TI TO .ellipsis := eb _ _ D.i1z.symm za
    have ne : e ≠ z := fun q => by subst q; rw [zb] at hoe; cases hoe; simp at hce
    refine wpAny_setField_rec zb (by simp) fun hd _ ed => ?_
    obtain ⟨o, ho, hc⟩ : ∃ o, hd.get? e = some o ∧ o.cls = .type "StopIteration" := ⟨oe, ed.extBut _ _ ne hoe, hce⟩
    refine wpAny_bind (wpAny_isInstance (T := "StopIteration") (b := true) ⟨o, ho, hc⟩ isSubtype_stop (wpAny_pure ?_))
    exact he (.inl hx) hd fun a o n1 _ n3 _ q => ed.extBut _ _ n1 (eb _ _ n3 (ea.extBut _ _ n1 q))
  | some x =>
    refine wpAny_bind (nextM_item a1 q1 hx fun hb b1 eb => wpAny_pure ?_)
    have to2 : IsPair hb TO a b := eb.extBut _ _ D.TOi1 to1
    refine wpAny_bind (wpAny_seqItems to2 rfl (wpAny_bind (wpAny_updateSeq_pair to2 fun hd to3 ed => ?_)))
    replace to3 : IsPair hd TO x b := to3
    refine wpAny_bind (wpAny_letGo (wpAny_pure ?_))
    refine wpAny_bind (wpAny_bind (wpAny_onRaise ?_))
    show wpAny _ _ (Builtin.SmallTypes.nextOf (.ref i2) >>= _) _ _ _
    have d2 := (a2.off eb.extBut D.i12.symm).off ed.extBut D.TOi2.symm
    have p2 := (q2.off eb.extBut D.l2i1).off ed.extBut D.l2TO
    have zd : IsZip hd z TI TO .ellipsis := ed.extBut _ _ D.TOz.symm (eb.extBut _ _ D.i1z.symm za)
    cases hy : ys[k2]? with
    | none =>
      refine wpAny_bind (nextM_end hh d2 p2 hy fun hf e ef ex => ?_)
      obtain ⟨oe, hoe, hce⟩ := ex
      have zf : IsZip hf z TI TO .ellipsis := ef _ _ D.i2z.symm zd
      have ne : e ≠ z := fun q => by subst q; rw [zf] at hoe; cases hoe; simp at hce
      refine wpAny_setField_rec zf (by simp) fun hg _ eg => ?_
      obtain ⟨o, ho, hc⟩ : ∃ o, hg.get? e = some o ∧ o.cls = .type "StopIteration" := ⟨oe, eg.extBut _ _ ne hoe, hce⟩
      refine wpAny_bind (wpAny_isInstance (T := "StopIteration") (b := true) ⟨o, ho, hc⟩ isSubtype_stop (wpAny_pure ?_))
      exact he (.inr hy) hg fun a o n1 n2 n3 n4 q => eg.extBut _ _ n1 (ef _ _ n4 (ed.extBut _ _ n2 (eb.extBut _ _ n3 (ea.extBut _ _ n1 q))))
    | some y =>
      refine wpAny_bind (nextM_item d2 p2 hy fun hf f2 ef => wpAny_pure ?_)
      have to4 : IsPair hf TO x b := ef.extBut _ _ D.TOi2 to3
      refine wpAny_bind (wpAny_seqItems to4 rfl (wpAny_bind (wpAny_updateSeq_pair to4 fun hg to5 eg => ?_)))
      replace to5 : IsPair hg TO x y := to5
      refine wpAny_bind (wpAny_letGo (wpAny_pure (wpAny_pure ?_)))
      refine wpAny_bind (wpAny_seqItems to5 rfl (wpAny_bind (wpAny_newTuple ?_)))
      have sz : hg.objs.size = s.heap.objs.size := by rw [eg.1, ef.1, ed.1, eb.1, ea.1]
      have zg : IsZip hg z TI TO .ellipsis := eg.extBut _ _ D.TOz.symm (ef.extBut _ _ D.i2z.symm zd)
      have off : OffZ z TO i1 i2 s.heap hg := fun a o n1 n2 n3 n4 q => eg.extBut _ _ n2 (ef.extBut _ _ n4 (ed.extBut _ _ n2 (eb.extBut _ _ n3 (ea.extBut _ _ n1 q))))
      have j1 := ((b1.off ed.extBut D.TOi1.symm).off ef.extBut D.i12).off eg.extBut D.TOi1.symm
      have j2 := f2.off eg.extBut D.TOi2.symm
      show wpAny _ _ (Builtin.SmallTypes.ownedTupleHandOut (.ref z) (.ref hg.objs.size) >>= _) _ _ _
      refine wpAny_bind ?_
      unfold Builtin.SmallTypes.ownedTupleHandOut
      have zi : IsZip (hg.push { cls := .type "tuple", data := .seq #[x, y] }) z TI TO .ellipsis := Heap.get?_push_of_some _ zg
      refine wpAny_bind (wpAny_setField_rec zi (by simp) fun hj zj ej => ?_)
      replace zj : IsZip hj z TI TO (rawInt hg.objs.size) := zj
      refine wpAny_setField_rec zj (by simp) fun hk zk ek => ?_
      replace zk : IsZip hk z TI TO (rawInt hg.objs.size) := zk
      have up : ∀ a o, a ≠ z → hg.get? a = some o → hk.get? a = some o := fun a o n q => ek.extBut _ _ n (ej.extBut _ _ n (Heap.get?_push_of_some _ q))
      have nz : hg.objs.size ≠ z := Nat.ne_of_gt (Heap.lt_size zg)
      have tk : IsPair hk hg.objs.size x y := ek.extBut _ _ nz (ej.extBut _ _ nz (Heap.get?_push_size _ rfl))
      rw [sz] at zk tk
      refine wpAny_pure ⟨_, rfl, ?_⟩
      refine wpAny_pure ?_
      show Q (some (.ref hg.objs.size)) _
      rw [sz]
      exact hq x y hx hy hk zk (up _ _ D.TOz to5) (j1.here fun o q => up _ o D.i1z q) (j2.here fun o q => up _ o D.i2z q) tk fun a o n1 n2 n3 n4 q => up a o n1 (off a o n1 n2 n3 n4 q)
end
def iterN (c : Bool) : String := bif c then "list_iterator" else "tuple_iterator"
def iterO (c : Bool) (l : Addr) : Obj := { cls := .type (iterN c), data := .fields #[.ref l, .int 0 0] }
section
variable {prog : Program} {w : World} {A : Around} {E : Value → Shared → Prop} {s : Shared} {c c2 : Bool}
theorem pyIterM {l : Addr} {xs : Array Value} {Q : Value → Shared → Prop} (h : SeqM c s.heap l xs) (q : Q (.ref s.heap.objs.size) { s with heap := s.heap.push (iterO c l) }) : wpAny (model prog w) A (pyIter (.ref l)) Q E s := by
  cases c
  · exact wpAny_pyIter_tuple h q
  · exact wpAny_pyIter_list h q
theorem iterM_at {l a : Addr} {h : Heap} (e : h.get? a = some (iterO c l)) : IterM c h a l 0 := by
  cases c
  · exact ⟨_, e, rfl, rfl⟩
  · exact ⟨_, e, rfl, rfl⟩
end
abbrev zm1 (c : Bool) (h : Heap) (l : Addr) : Heap := h.push (iterO c l)
abbrev zm2 (c c2 : Bool) (h : Heap) (l l2 : Addr) : Heap := (zm1 c h l).push (iterO c2 l2)
abbrev zm3 (c c2 : Bool) (h : Heap) (l l2 : Addr) : Heap := (zm2 c c2 h l l2).push { cls := .type "tuple", data := .seq #[.ref h.objs.size, .ref (zm1 c h l).objs.size] }
abbrev zm4 (c c2 : Bool) (h : Heap) (l l2 : Addr) : Heap := (zm3 c c2 h l l2).push { cls := .type "tuple", data := .seq #[.none, .none] }
abbrev zm5 (c c2 : Bool) (h : Heap) (l l2 : Addr) : Heap := (zm4 c c2 h l l2).push { cls := .type "zip", data := .fields #[.none, .bool false, .bool false, .ref (zm2 c c2 h l l2).objs.size, .ref (zm3 c c2 h l l2).objs.size] }
theorem SeqM.push {c : Bool} {h : Heap} {l : Addr} {xs : Array Value} (x : SeqM c h l xs) (o : Obj) : SeqM c (h.push o) l xs := by
  cases c
  · exact Heap.IsTuple.push x o
  · exact Heap.IsList.push x o
theorem meets_zipM (c c2 : Bool) (l l2 : Addr) (xs ys : Array Value) :
    Meets (Builtin.«zip.__new__» ⟨[.type "zip", .ref l, .ref l2], []⟩) (fun _ R s => SeqM c s.heap l xs ∧ SeqM c2 s.heap l2 ys ∧
      R (.ok (.ret (.ref (zm4 c c2 s.heap l l2).objs.size))) { s with heap := zm5 c c2 s.heap l l2 }) :=
  .of_wp fun prog w A R s h => by
    obtain ⟨hp, g, d, tk, os⟩ := s
    obtain ⟨g1, g2, h⟩ := h
    have sub := sub_zip
    have b1 : SeqM c (Shared.heap ⟨hp, g, d, tk, os⟩) l xs := g1
    have b2 : SeqM c2 (Shared.heap ⟨hp.push (iterO c l), g, d, tk, os⟩) l2 ys := g2.push _
    wp_walk using pyIterM b1, pyIterM b2
    exact ⟨_, rfl, h⟩
section
variable {prog : Program} {w : World} {A : Around} {E : Value → Shared → Prop} {s : Shared} {c c2 : Bool}
theorem call_zipM {l l2 : Addr} {xs ys : Array Value} {Q : Value → Shared → Prop} (g1 : SeqM c s.heap l xs) (g2 : SeqM c2 s.heap l2 ys)
    (h : ∀ h', IsZip h' (s.heap.objs.size + 4) (s.heap.objs.size + 2) (s.heap.objs.size + 3) .none → IsPair h' (s.heap.objs.size + 2) (.ref s.heap.objs.size) (.ref (s.heap.objs.size + 1)) →
      IsPair h' (s.heap.objs.size + 3) .none .none → IterM c h' s.heap.objs.size l 0 → IterM c2 h' (s.heap.objs.size + 1) l2 0 → (∀ a o, s.heap.get? a = some o → h'.get? a = some o) → Q (.ref (s.heap.objs.size + 4)) { s with heap := h' }) :
    wpAny (model prog w) A (call (.type "zip") [.ref l, .ref l2]) Q E s := by
  refine callType_new F.called_zip (by decide) (F.typeCall_zip_2 _ _) (F.newCall_zip_2 _ _) (fun obj => F.args_object_init_3 obj _ _) F.entry_zip_new (meets_zipM c c2 l l2 xs ys) ⟨g1, g2, ?_⟩
  have s1 : (zm1 c s.heap l).objs.size = s.heap.objs.size + 1 := Heap.size_push ..
  have s2 : (zm2 c c2 s.heap l l2).objs.size = s.heap.objs.size + 2 := by rw [Heap.size_push, s1]
  have s3 : (zm3 c c2 s.heap l l2).objs.size = s.heap.objs.size + 3 := by rw [Heap.size_push, s2]
  have s4 : (zm4 c c2 s.heap l l2).objs.size = s.heap.objs.size + 4 := by rw [Heap.size_push, s3]
  have up : ∀ {o' : Obj} {h : Heap} {a : Addr} {o : Obj}, h.get? a = some o → (h.push o').get? a = some o := fun e => Heap.get?_push_of_some _ e
  have c5 : (zm5 c c2 s.heap l l2).get? (zm4 c c2 s.heap l l2).objs.size = some _ := Heap.get?_push_size _ rfl
  have c4 : (zm5 c c2 s.heap l l2).get? (zm3 c c2 s.heap l l2).objs.size = some _ := up (Heap.get?_push_size _ rfl)
  have c3 : (zm5 c c2 s.heap l l2).get? (zm2 c c2 s.heap l l2).objs.size = some _ := up (up (Heap.get?_push_size _ rfl))
  have c2' : (zm5 c c2 s.heap l l2).get? (zm1 c s.heap l).objs.size = some (iterO c2 l2) := up (up (up (Heap.get?_push_size _ rfl)))
  have c1 : (zm5 c c2 s.heap l l2).get? s.heap.objs.size = some (iterO c l) := up (up (up (up (Heap.get?_push_size _ rfl))))
  show _ ∧ _
  rw [s2, s3, s4] at c5
  rw [s1, s2] at c3
  rw [s3] at c4
  rw [s1] at c2'
  rw [s4]
  exact ⟨⟨_, c5, rfl⟩, h _ c5 c3 c4 (iterM_at c1) (iterM_at c2') fun a o x => up (up (up (up (up x))))⟩
end
/-- a list or a tuple that is told -/
def SqM (c : Bool) (K : PySem.W.Frag) (H : Hp) (a : Addr) (xs : List V) : Prop := bif c then SqL K H a xs else SqT K H a xs
def ItM (c c2 : Bool) (K : PySem.W.Frag) (a b : Addr) : It :=
  ⟨fun i H => ∃ (xs ys : List V) (x y : V), SqM c K H a xs ∧ SqM c2 K H b ys ∧ xs[i]? = some x ∧ ys[i]? = some y,
    fun i H v H' => ∃ T x y, v = .ref T ∧ H T = none ∧ H' = upd H T (.tup [x, y]) ∧ (∀ xs, SqM c K H a xs → xs[i]? = some x) ∧ ∀ ys, SqM c2 K H b ys → ys[i]? = some y,
    fun i H => ∃ xs ys : List V, SqM c K H a xs ∧ SqM c2 K H b ys ∧ (xs.length ≤ i ∨ ys.length ≤ i)⟩
theorem inv_sq {X : Cx} {pins : List (Addr × Obj)} {σ : L2.St} {H : Hp} {s : Shared} {c : Bool} {a : Addr} {xs : List V} (I : Inv X pins σ H s) (q : SqM c X.K H a xs) :
    ∃ its : List Value, Vals xs its ∧ SeqM c s.heap a its.toArray := by
  cases c
  · obtain ⟨its, rv, p, _⟩ := I.tuple q
    exact ⟨its, rv, p⟩
  · obtain ⟨its, rv, p, _⟩ := I.list q
    exact ⟨its, rv, p.isList⟩
theorem inv_sqi {X : Cx} {pins : List (Addr × Obj)} {σ : L2.St} {H : Hp} {s : Shared} {c : Bool} {a : Addr} {xs ys : List V} (I : Inv X pins σ H s) (q : SqM c X.K H a xs) (q2 : SqM c X.K H a ys) : xs = ys := by
  cases c
  · exact I.tuple_inj q q2
  · exact I.list_inj q q2
theorem five {α : Type} {p : α → Prop} {a b c d e : α} (h1 : p a) (h2 : p b) (h3 : p c) (h4 : p d) (h5 : p e) : ∀ x, x ∈ [a, b, c, d, e] → p x := fun x hx => by
  simp only [List.mem_cons, List.not_mem_nil, or_false] at hx
  rcases hx with rfl | rfl | rfl | rfl | rfl
  · exact h1
  · exact h2
  · exact h3
  · exact h4
  · exact h5
theorem turn_zipM {P : Program} {w : World} {K : PySem.W.Frag} {c c2 : Bool} {elts : List Expr} {kk : Nat} {tpos : Pos} {a b z TI TO i1 i2 : Addr} (D : ZipApart z TI TO i1 i2 a b) :
    Turn P w K (.Tuple elts kk tpos) (ItM c c2 K a b) [z, TI, TO, i1, i2] z (fun i h => IsZip h z TI TO .none ∧ IsPair h TI (.ref i1) (.ref i2) ∧ (∃ x y, IsPair h TO x y) ∧ IterM c h i1 a i ∧ IterM c2 h i2 b i) where
  mem := by simp
  obj := fun i h st => by
    obtain ⟨hz, hTI, ⟨x, y, hTO⟩, h1, h2⟩ := st
    obtain ⟨o1, e1, d1⟩ := h1.cell
    obtain ⟨o2, e2, d2⟩ := h2.cell
    exact five ⟨_, hz, fun v q => nomatch q⟩ ⟨_, hTI, fun v q => nomatch q⟩ ⟨_, hTO, fun v q => nomatch q⟩ ⟨o1, e1, h1.cell1 e1⟩ ⟨o2, e2, h2.cell1 e2⟩
  keep := fun i h h' st k => by
    obtain ⟨hz, hTI, ⟨x, y, hTO⟩, h1, h2⟩ := st
    exact ⟨k z (by simp) _ hz, k TI (by simp) _ hTI, ⟨x, y, k TO (by simp) _ hTO⟩, h1.here fun o q => k i1 (by simp) o q, h2.here fun o q => k i2 (by simp) o q⟩
  item := by
    intro X hP hw hK hc i pins s σ H E I hf st hg
    subst hP hw hK
    obtain ⟨hz, hTI, ⟨x0, y0, hTO⟩, h1, h2⟩ := st
    obtain ⟨xs, ys, x, y, hqx, hqy, hx, hy⟩ := hg
    obtain ⟨its, rv, p⟩ := inv_sq I hqx
    obtain ⟨its2, rv2, p2⟩ := inv_sq I hqy
    obtain ⟨u, hu, ru⟩ := rv.get hx
    obtain ⟨u2, hu2, ru2⟩ := rv2.get hy
    have hu' : its.toArray[i]? = some u := by simpa using hu
    have hu2' : its2.toArray[i]? = some u2 := by simpa using hu2
    have zl : z < s.heap.objs.size := Heap.lt_size hz
    refine pyNext_zipM (I.ok.hd hc) D hz hTI hTO h1 h2 p p2 (fun u' u2' e1 e2 h' z' TO' j1 j2 nT hk => ?_) fun q => ?_
    · rw [hu'] at e1
      rw [hu2'] at e2
      cases e1
      cases e2
      refine ⟨_, rfl, wpAny_letOwnedTupleGo_zip (s := { s with heap := h' }) z' fun h'' z'' sb => ?_⟩
      have keep : ∀ d o, d ∉ [z, TI, TO, i1, i2] → s.heap.get? d = some o → h''.get? d = some o := fun d o nb q =>
        (sb.2 d fun q' => nb (by simp [q'])).trans (hk d o (fun q' => nb (by simp [q'])) (fun q' => nb (by simp [q'])) (fun q' => nb (by simp [q'])) (fun q' => nb (by simp [q'])) q)
      have nT2 : h''.get? s.heap.objs.size = some { cls := .type "tuple", data := .seq #[u, u2] } := (sb.2 _ (Nat.ne_of_gt zl)).trans nT
      have new : ObjOk X.prog X.w (upd H s.heap.objs.size (.tup [x, y])) h'' s.heap.objs.size (.tup [x, y]) := ⟨by show 2 ≤ sizeLine; decide, [u, u2], .cons ru (.cons ru2 .nil), ⟨_, nT2, rfl, _, rfl⟩⟩
      have I1 : Inv X pins σ (upd H s.heap.objs.size (.tup [x, y])) { s with heap := h'' } := I.turnedNew (t' := s.toks) (ch := [z, TI, TO, i1, i2]) keep hf (Nat.le_refl _) new
      have nw : ∀ d, d < s.heap.objs.size → d ∈ [z, TI, TO, i1, i2] → upd H s.heap.objs.size (.tup [x, y]) d = none := fun d lt m => by
        rw [upd_ne (Nat.ne_of_lt lt)]
        exact (hf d m).1
      refine ⟨.ref s.heap.objs.size, _, I1, rfl, ⟨_, x, y, rfl, I.hok.fresh (Nat.le_refl _), rfl, fun l hl => by rw [inv_sqi I hl hqx]; exact hx, fun l hl => by rw [inv_sqi I hl hqy]; exact hy⟩, ⟨z'', ?_, ⟨u, u2, ?_⟩, ?_, ?_⟩, ?_⟩
      · exact (sb.2 _ D.TIz).trans (hk _ _ D.TIz D.TITO D.TIi1 D.TIi2 hTI)
      · exact (sb.2 _ D.TOz).trans TO'
      · exact j1.here fun o q => (sb.2 _ D.i1z).trans q
      · exact j2.here fun o q => (sb.2 _ D.i2z).trans q
      · exact five (p := fun d => upd H s.heap.objs.size (.tup [x, y]) d = none) (nw z zl (by simp)) (nw TI (Heap.lt_size hTI) (by simp)) (nw TO (Heap.lt_size hTO) (by simp)) (nw i1 h1.lt (by simp)) (nw i2 h2.lt (by simp))
    · rw [hu', hu2'] at q
      rcases q with q | q <;> cases q
  done := by
    intro X hP hw hK hc i pins s σ H E I hf st hg
    subst hP hw hK
    obtain ⟨hz, hTI, ⟨x0, y0, hTO⟩, h1, h2⟩ := st
    obtain ⟨xs, ys, hqx, hqy, hend⟩ := hg
    obtain ⟨its, rv, p⟩ := inv_sq I hqx
    obtain ⟨its2, rv2, p2⟩ := inv_sq I hqy
    have l1 := rv.length
    have l2 := rv2.length
    refine pyNext_zipM (I.ok.hd hc) D hz hTI hTO h1 h2 p p2 (fun u u2 e1 e2 => ?_) fun _ h' hk => ⟨rfl, I.turnedL (t' := s.toks) (ch := [z, TI, TO, i1, i2]) (fun d o nb q =>
      hk d o (fun q' => nb (by simp [q'])) (fun q' => nb (by simp [q'])) (fun q' => nb (by simp [q'])) (fun q' => nb (by simp [q'])) q) hf⟩
    have g1 : i < its.length := by simpa using (Array.getElem?_eq_some_iff.mp e1).1
    have g2 : i < its2.length := by simpa using (Array.getElem?_eq_some_iff.mp e2).1
    omega
  self := fun A i s Q E st h => wpAny_pyIter_zip st.1 h
def iZipM (K : PySem.W.Frag) (ta : TA) : TI := fun σ H R => ta σ H fun vs H1 => ∃ a b xs ys c c2, vs = [.ref a, .ref b] ∧ SqM c K H1 a xs ∧ SqM c2 K H1 b ys ∧ R (ItM c c2 K a b) H1
theorem kpZipM {X : Cx} {K : PySem.W.Frag} {e e2 : Expr} {ta : TA} {p pos tpos : Pos} {elts : List Expr} {kk : Nat} (hK : X.K = K) (hg : Gl X "zip") (hm : X.mg "zip" = none) (ha : PA X [e, e2] ta)
    (hs : starEach [e, e2] X.env = (false, eval e X.env) :: starEach [e2] X.env := by rfl) (hpl : (backTo pos (starEach [e2] X.env)).any (·.1) = false := by rfl) :
    PI X (.Tuple elts kk tpos) (.Call (.Name "zip" p) [e, e2] [] pos) (iZipM K ta) := by
  subst hK
  refine ⟨fun pins s σ H R I h => ?_⟩
  refine Call_ (ld_blt I hg hm PyProof.Rows.boot_zip (PyProof.Rows.callWith_type1 (thn (ha.run pos pins s σ H _ I h) fun us s1 ⟨vs, H1, I1, r1, q1⟩ => ?_) hs hpl))
  obtain ⟨a, b, xs, ys, c, c2, ex, hqx, hqy, q⟩ := q1
  subst ex
  cases r1 with
  | cons r rr =>
    cases rr with
    | cons r' rr =>
      cases rr
      cases r
      cases r'
      obtain ⟨its, rv, p1⟩ := inv_sq I1 hqx
      obtain ⟨its2, rv2, p2⟩ := inv_sq I1 hqy
      have new : ∀ k, FpOk X pins H1 (s1.heap.objs.size + k) := fun k => I1.fpOk (Nat.le_add_right _ _) (I1.hok.fresh (Nat.le_add_right _ _))
      refine call_zipM p1 p2 fun h' hz hTI hTO h1 h2 hk => wpAny_pyIter_zip hz ?_
      have I2 : Inv X pins σ H1 { s1 with heap := h' } := I1.kept (t' := s1.toks) hk
      exact ⟨s1.heap.objs.size + 4, [s1.heap.objs.size + 4, s1.heap.objs.size + 2, s1.heap.objs.size + 3, s1.heap.objs.size, s1.heap.objs.size + 1], _, _, H1, rfl, I2, turn_zipM (PySem.W.ktu_apart s1.heap.objs.size a b p1.lt p2.lt), ⟨hz, hTI, ⟨_, _, hTO⟩, h1, h2⟩,
        five (new 4) (new 2) (new 3) (new 0) (new 1), q⟩
theorem walk_zipM {K : PySem.W.Frag} {c c2 : Bool} {a b : Addr} {xs ys : List V} {n : Nat} (hn : n = min xs.length ys.length) : Walk (ItM c c2 K a b) n (fun H => SqM c K H a xs ∧ SqM c2 K H b ys) (YPair (fun i => xs[i]?) (fun i => ys[i]?)) := by
  subst hn
  refine ⟨fun i _ hi q => ?_, fun _ q => ⟨xs, ys, q.1, q.2, by omega⟩, fun i H v H' _ q y => ?_⟩
  · have h1 : i < xs.length := by omega
    have h2 : i < ys.length := by omega
    exact ⟨xs, ys, xs[i], ys[i], q.1, q.2, by simp [h1], by simp [h2]⟩
  · obtain ⟨T, x, z, h1, h2, h3, h4, h5⟩ := y
    exact ⟨T, x, z, h1, h2, h3, h4 xs q.1, h5 ys q.2⟩
end DL
namespace DL
open PySem PySem.Spec PyProof.Rows L2 Evl
variable [CTab]
def itemsI (a : WE) : WL := fun ρ Q => a ρ fun d => match d with
  | .list ds => Q ds
  | _ => False
def itemsT (a : WE) : WL := fun ρ Q => a ρ fun d => match d with
  | .tuple ds => Q ds
  | _ => False
def signsI (a : WE) : WL := fun ρ Q => a ρ fun d => match d with
  | .str z => Q (z.cps.toList.map fun c => .str ⟨#[c]⟩)
  | _ => False
def rangeD (i j : Int) : List PyData := (List.range (j - i).toNat).map fun (k : Nat) => .int (i + k)
def range1I (a : WL) : WL := fun ρ Q => a ρ fun ds => match ds with
  | [.int j] => -(2 ^ 62) ≤ j ∧ j < 2 ^ 62 ∧ Q (rangeD 0 j)
  | _ => False
def range2I (a : WL) : WL := fun ρ Q => a ρ fun ds => match ds with
  | [.int i, .int j] => -(2 ^ 62) ≤ i ∧ i < 2 ^ 62 ∧ -(2 ^ 62) ≤ j ∧ j < 2 ^ 62 ∧ Q (rangeD i j)
  | _ => False
def zipD (ds es : List PyData) : List PyData := List.zipWith (fun d e => .tuple [d, e]) ds es
def zipI (a : WL) : WL := fun ρ Q => a ρ fun ds => match ds with
  | [.list ds, .list es] => Q (zipD ds es)
  | [.tuple ds, .tuple es] => Q (zipD ds es)
  | [.list ds, .tuple es] => Q (zipD ds es)
  | [.tuple ds, .list es] => Q (zipD ds es)
  | _ => False
def enumD (ds : List PyData) : List PyData := zipD ((List.range ds.length).map fun (k : Nat) => .int (k : Int)) ds
def enumI (a : WL) : WL := fun ρ Q => a ρ fun ds => match ds with
  | [.list ds] => Q (enumD ds)
  | [.tuple ds] => Q (enumD ds)
  | _ => False
section
variable {K : PySem.W.Frag} {T : List Addr} {te ta tb : TE} {tl : TA} {we wa wb : WE} {wl : WL} {ws : WA}
theorem rangeD_len {i j : Int} : (rangeD i j).length = (j - i).toNat := by unfold rangeD; rw [List.length_map, List.length_range]
theorem rangeD_get {i j : Int} {k : Nat} (h : k < (j - i).toNat) : (rangeD i j)[k]? = some (.int (i + k)) := by
  unfold rangeD
  rw [List.getElem?_map, List.getElem?_range h]
  rfl
theorem dr_range1 (h : DL' K T tl wl) : DR K T (iRng1 tl) (range1I wl) := fun σ ρ H F P p H1 e R k => by
  refine h σ ρ H F _ p H1 e _ fun vs ds Hk H2 g2 r2 p2 => ?_
  split at p2
  · rename_i j
    cases r2 with
    | cons r rr =>
      cases r
      cases rr
      refine ⟨j, rfl, p2.1, p2.2.1, ?_⟩
      have el : (rangeD 0 j).length = j.toNat := by rw [rangeD_len, Int.sub_zero]
      refine k _ _ _ Hk H2 p2.2.2 g2 (by rw [el]; exact walk_range) ?_
      rintro i x Hm H3 H4 hi e3 ⟨rfl, rfl⟩
      rw [rangeD_len] at hi
      exact ⟨Hm, Grow.refl e3, _, rangeD_get hi, .int _⟩
  · exact p2.elim
theorem zipD_len {ds es : List PyData} : (zipD ds es).length = min ds.length es.length := List.length_zipWith
theorem zipD_get {ds es : List PyData} {i : Nat} {d e : PyData} (h1 : ds[i]? = some d) (h2 : es[i]? = some e) : (zipD ds es)[i]? = some (.tuple [d, e]) := by
  unfold zipD
  rw [List.getElem?_zipWith, h1, h2]
theorem di_zip (h : DL' K T tl wl) : DI K T (iZipM K tl) (zipI wl) := fun σ ρ H F P p H1 e1 R k => by
  refine h σ ρ H F _ p H1 e1 _ fun vs ds Hk H2 g2 r2 p2 => ?_
  have key : ∀ (c c2 : Bool) (a b : Addr) (xs ys : List V) (ds es : List PyData), vs = [.ref a, .ref b] → (∀ H3, Ex Hk H3 → SqM c K H3 a xs) → (∀ H3, Ex Hk H3 → SqM c2 K H3 b ys) → RpAll K Hk xs ds → RpAll K Hk ys es → P (zipD ds es) →
      ∃ a b xs ys c c2, vs = [.ref a, .ref b] ∧ SqM c K H2 a xs ∧ SqM c2 K H2 b ys ∧ R (ItM c c2 K a b) H2 := by
    intro c c2 a b xs ys ds es ev ga gb ra rb q
    refine ⟨a, b, xs, ys, c, c2, ev, ga _ g2.sub, gb _ g2.sub, ?_⟩
    refine k _ _ _ _ Hk H2 q g2 (walk_zipM (by rw [zipD_len, ra.len, rb.len])) (fun H3 e3 => ⟨ga _ e3, gb _ e3⟩) ?_
    rintro i x Hm H3 H4 hi em e3 ⟨T, x, y, rfl, nT, rfl, hx, hy⟩
    obtain ⟨d', hd', rd⟩ := ra.get hx
    obtain ⟨e', he', re⟩ := rb.get hy
    have g4 := Grow.new e3 nT (.tup [x, y])
    exact ⟨_, g4, _, zipD_get hd' he', .tup (.inl upd_same) (.cons (rd.mono (em.trans g4.known)) (.cons (re.mono (em.trans g4.known)) .nil))⟩
  split at p2
  · cases r2 with
    | cons ra rr =>
      cases rr with
      | cons rb rr =>
        cases rr
        cases ra with
        | @lst a xs _ ga ra =>
          cases rb with
          | @lst b ys _ gb rb => exact key true true a b xs ys _ _ rfl (fun _ e => ex_l e ga) (fun _ e => ex_l e gb) ra rb p2
  · cases r2 with
    | cons ra rr =>
      cases rr with
      | cons rb rr =>
        cases rr
        cases ra with
        | @tup a xs _ ga ra =>
          cases rb with
          | @tup b ys _ gb rb => exact key false false a b xs ys _ _ rfl (fun _ e => ex_tp e ga) (fun _ e => ex_tp e gb) ra rb p2
  · cases r2 with
    | cons ra rr =>
      cases rr with
      | cons rb rr =>
        cases rr
        cases ra with
        | @lst a xs _ ga ra =>
          cases rb with
          | @tup b ys _ gb rb => exact key true false a b xs ys _ _ rfl (fun _ e => ex_l e ga) (fun _ e => ex_tp e gb) ra rb p2
  · cases r2 with
    | cons ra rr =>
      cases rr with
      | cons rb rr =>
        cases rr
        cases ra with
        | @tup a xs _ ga ra =>
          cases rb with
          | @lst b ys _ gb rb => exact key false true a b xs ys _ _ rfl (fun _ e => ex_tp e ga) (fun _ e => ex_l e gb) ra rb p2
  · exact p2.elim
theorem enumD_len {ds : List PyData} : (enumD ds).length = ds.length := by
  unfold enumD
  rw [zipD_len, List.length_map, List.length_range, Nat.min_self]
theorem di_enum (h : DL' K T tl wl) : DI K T (iEnA K tl) (enumI wl) := fun σ ρ H F P p H1 e1 R k => by
  refine h σ ρ H F _ p H1 e1 _ fun vs ds Hk H2 g2 r2 p2 => ?_
  have key : ∀ (ds : List PyData) (xs : List V), RpAll K Hk xs ds → ∀ (i : Nat) x Hm H3 H4, i < (enumD ds).length → Ex Hk Hm → Ex Hm H3 → YPair (fun i => some (V.int (i : Nat))) (fun i => xs[i]?) i H3 x H4 → ∃ Hm', Grow Hm H3 Hm' H4 ∧ TAt K (enumD ds) i x Hm' := by
    rintro ds xs ra i x Hm H3 H4 hi em e3 ⟨T, x, y, rfl, nT, rfl, hx, hy⟩
    cases hx
    obtain ⟨d', hd', rd⟩ := ra.get hy
    have g4 := Grow.new e3 nT (.tup [.int (i : Nat), y])
    rw [enumD_len] at hi
    refine ⟨_, g4, _, zipD_get (d := .int (i : Nat)) ?_ hd', .tup (.inl upd_same) (.cons (.int _) (.cons (rd.mono (em.trans g4.known)) .nil))⟩
    rw [List.getElem?_map, List.getElem?_range hi]
    rfl
  split at p2
  · cases r2 with
    | cons ra rr =>
      cases rr
      cases ra with
      | @lst a xs _ ga ra =>
        refine ⟨a, xs, rfl, .inl ⟨ex_l g2.sub ga, ?_⟩⟩
        refine k _ _ _ _ Hk H2 p2 g2 (by rw [enumD_len, ← ra.len]; exact walk_enum) (fun H3 e3 => ex_l e3 ga) (key _ _ ra)
  · cases r2 with
    | cons ra rr =>
      cases rr
      cases ra with
      | @tup a xs _ ga ra =>
        refine ⟨a, xs, rfl, .inr ⟨ex_tp g2.sub ga, ?_⟩⟩
        refine k _ _ _ _ Hk H2 p2 g2 (by rw [enumD_len, ← ra.len]; exact walk_enT) (fun H3 e3 => ex_tp e3 ga) (key _ _ ra)
  · exact p2.elim
end
abbrev WO := WEnv → (Option Int → Prop) → Prop
def DO (K : PySem.W.Frag) (T : List Addr) (to : TO) (wo : WO) : Prop := ∀ σ ρ H, FitP K T σ ρ H → ∀ P, wo ρ P → ∀ H1, Ex H H1 → ∀ Q : Option Int → Hp → Prop, (∀ o Hk H2, Grow H H1 Hk H2 → P o → Q o H2) → to σ H1 Q
def noO : WO := fun _ Q => Q none
def someO (a : WE) : WO := fun ρ Q => a ρ fun d => match d with
  | .int i => Q (some i)
  | _ => False
def slW (a : WE) (lo hi : WO) : WE := fun ρ Q => a ρ fun d => lo ρ fun l => hi ρ fun u => match d with
  | .list ds => Q (.list (cutG ds l u))
  | .tuple ds => Q (.tuple (cutG ds l u))
  | _ => False
def backW (a : WE) : WE := fun ρ Q => a ρ fun d => match d with
  | .list ds => Q (.list ds.reverse)
  | .tuple ds => Q (.tuple ds.reverse)
  | _ => False
section
variable {K : PySem.W.Frag} {T : List Addr} {te ta tb : TE} {tl : TA} {we wa wb : WE} {wl : WL} {ws : WA} {lo hi : TO} {wlo whi : WO}
theorem do_none : DO K T tNoPart noO := fun σ ρ H F P p H1 e Q q => q none H H1 (Grow.refl e) p
theorem do_some (h : DE K T te we) : DO K T (tPart te) (someO we) := fun σ ρ H F P p H1 e Q q => h σ ρ H F _ p H1 e _ fun v d Hk H2 g r p2 => by
  cases r with
  | int i => exact ⟨i, rfl, q _ Hk H2 g p2⟩
  | lst _ _ => exact p2.elim
  | tup _ _ => exact p2.elim
  | bl b => exact p2.elim
  | non => exact p2.elim
  | str _ => exact p2.elim
  | dic _ _ => exact p2.elim
theorem de_sl (h : DE K T te we) (h1 : DO K T lo wlo) (h2 : DO K T hi whi) : DE K T (tSl (rSlU K) te lo hi) (slW we wlo whi) := by
  intro σ ρ H F P p H1 e Q q
  refine h σ ρ H F _ p H1 e _ fun v d Hk2 H2 g2 r2 p2 => ?_
  refine h1 σ ρ Hk2 (F.mono g2.known) _ p2 H2 g2.sub _ fun l Hk3 H3 g3 p3 => ?_
  refine h2 σ ρ Hk3 (F.mono (g2.trans g3).known) _ p3 H3 g3.sub _ fun u Hk4 H4 g4 p4 => ?_
  have gg := (g2.trans g3).trans g4
  have r4 := r2.mono (g3.trans g4).known
  cases r4 with
  | @lst a xs _ g r =>
    refine .inl ⟨_, _, rfl, ex_l gg.sub g, fun z hz => ?_⟩
    have g5 := Grow.new gg.sub hz (.lst (cutV xs l u))
    exact q _ _ _ _ (gg.trans g5) (.lst (sq_of upd_same) ((r.mono g5.known).cut l u)) p4
  | @tup a xs _ g r =>
    refine .inr (.inl ⟨_, _, rfl, ex_tp gg.sub g, fun hw => ?_, fun _ z hz => ?_⟩)
    · refine q _ _ _ _ gg (.tup g ?_) p4
      have c := r.cut l u
      rw [cutV_all _ l u hw] at c
      exact c
    · have g5 := Grow.new gg.sub hz (.tup (cutV xs l u))
      exact q _ _ _ _ (gg.trans g5) (.tup (.inl upd_same) ((r.mono g5.known).cut l u)) p4
  | bl b => exact p4.elim
  | non => exact p4.elim
  | int _ => exact p4.elim
  | str _ => exact p4.elim
  | dic _ _ => exact p4.elim
def truW (a : WE) : WT := fun ρ Q => a ρ fun d => match d with
  | .bool b => Q b
  | .int i => Q (i != 0)
  | .none => Q false
  | .list ds => Q (!ds.isEmpty)
  | .tuple ds => Q (!ds.isEmpty)
  | _ => False
def newBagM (i j : Nat) : WM := fun ρ Q => match ρ[i]?, ρ[j]? with
  | some (some (.dat (.list ds))), some (some (.dat (.int n))) => (∃ ns : List Int, ds = ns.map .int ∧ ns.length ≤ 63) ∧ 0 ≤ n ∧ n < 100 ∧ Q .bag
  | _, _ => False
theorem dm_bag {i j : Nat} {E : XK} : DM K T (tCall (spNewBag K) [] E (tCons (tVar i) (tCons (tVar j) tNil))) (newBagM i j) := fun σ ρ H F P p H1 e Q q => by
  unfold newBagM at p
  split at p
  · rename_i ds n h1 h2
    obtain ⟨⟨ns, rfl, hl⟩, h3, h4, p⟩ := p
    obtain ⟨v, a1, r1⟩ := F.dat h1
    obtain ⟨w, a2, r2⟩ := F.dat h2
    cases r2
    cases r1 with
    | @lst a xs _ g r =>
      rw [r.ints] at g
      exact ⟨.ref a, a1, .int n, a2, H, a, ns, n, rfl, e, g, hl, h3, h4, fun b Hk H2 g hb => q _ .bag Hk H2 g ⟨b, rfl, hb⟩ p⟩
  · exact p.elim
/-- what a draw wishes -/
def drawW : List Sl → (PyData → Prop) → Prop
  | [.bag, .dat (.int n)], P => 0 < n ∧ n.natAbs.log2 < 1000 ∧ ∀ i, 0 ≤ i → i < n → P (.int i)
  | _, _ => False
theorem sp_draw {vs : List V} {H1 : Hp} {Q : VK} {E : XK} (h : spW K T 2 drawW vs H1 Q E) : spB1 K drawPre drawPost vs H1 Q E := by
  obtain ⟨H, ss, e, hT, r, _, P, p, k⟩ := h
  unfold drawW at p
  split at p
  · rename_i n P'
    cases r with
    | cons r1 r =>
      cases r with
      | cons r2 r =>
        cases r
        obtain ⟨b, rfl, hb⟩ := r1
        exact ⟨H, b, _, _, rfl, e, hb, r2, ⟨n, rfl, p.1, p.2.1⟩, fun u z Hk H2 g r' ⟨i, n', e1, e2, h0, h1⟩ => k u z Hk H2 g r' (by
          subst e1
          cases e2
          exact p.2.2 i h0 h1)⟩
  · exact p.elim
def ledW (ci : Nat) (a : WE) : WE := fun ρ Q => a ρ fun d => ∃ (rows : List (List Int)) (j : Nat), d = .list (rows.map fun r => .list (r.map .int)) ∧ ρ[ci]? = some (some (.dat (.int (j : Int)))) ∧ (j : Int) < 2 ^ 62 ∧ (∀ r ∈ rows, j < r.length) ∧ Q (ledD rows j)
end
end DL
namespace DL
open PySem PySem.Spec PyProof.Rows L2 Evl StX
variable [CTab]
def negW : PyData → (PyData → Prop) → Prop := fun d Q => match d with
  | .int i => Q (.int (-i))
  | _ => False
theorem FnG.imp {P : Program} {w : World} {K : PySem.W.Frag} {mg : Str → Option Value} {base : Heap} {CX : CXT} {k : Nat} {f : Addr} {fd : FuncData} {ps : List Str} {sp sp' : Sp} (F : FnG P w K mg base CX k f fd ps sp)
    (h : ∀ vs H Q E, sp' vs H Q E → sp vs H Q E) : FnG P w K mg base CX k f fd ps sp' :=
  ⟨fun vs H Q E q => F.many vs H Q E (h _ _ _ _ q), fun A outer s H args us vs Q E hg hr he hb hv hs => F.go A outer s H args us vs Q E hg hr he hb hv (h _ _ _ _ hs)⟩
/-- the law as wishes: True at every script -/
def LawHolds (w : List Sl → (PyData → Prop) → Prop) : Prop := ∀ ns : List Int, ns.length ≤ 63 → w [.dat (.list (ns.map .int))] (· = .bool true)
theorem lawW_0 {K : PySem.W.Frag} {w : List Sl → (PyData → Prop) → Prop} (hl : LawHolds w) {vs : List V} {H : Hp} {Q : VK} {E : XK} (h : spLaw K vs H Q E) : spW K [] 1 w vs H Q E := by
  obtain ⟨H0, a, ns, rfl, ex, hS, hn, q⟩ := h
  refine ⟨H0, _, ex, (fun _ h => nomatch h), .cons (s := .dat (.list (ns.map .int))) (.lst hS RpAll.of_ints) .nil, rfl, _, hl ns hn, fun u z Hk H2 g r e => ?_⟩
  subst e
  cases r
  exact q H2
def starW (a : WE) (r : WL) : WL := fun ρ Q => a ρ fun d => match d with
  | .list ds => r ρ fun es => Q (ds ++ es)
  | .tuple ds => r ρ fun es => Q (ds ++ es)
  | _ => False
theorem kStar {X : Cx} {K : PySem.W.Frag} {e : Expr} {es : List Expr} {te : TE} {t : TA} {p : Pos} (h : X.K = K) (he : PE X e te) (hr : PA X es t) (hs : starEach (.Starred e p :: es) X.env = (true, eval e X.env) :: starEach es X.env := by rfl) : PA X (.Starred e p :: es) (tStar K te t) := h ▸ pa_star he hr hs
section
variable {K : PySem.W.Frag} {T : List Addr} {te ta : TE} {tl : TA} {wa : WE} {wl : WL}
theorem dl_star (ha : DE K T ta wa) (hr : DL' K T tl wl) : DL' K T (tStar K ta tl) (starW wa wl) := fun σ ρ H F P h H1 e Q q => by
  refine ha σ ρ H F _ h H1 e _ fun v d Hk2 H2 g2 r2 p2 => ?_
  cases r2 with
  | @lst a xs ds g r => exact ⟨a, xs, rfl, .inr (ex_l g2.sub g), hr σ ρ Hk2 (F.mono g2.known) _ p2 H2 g2.sub _ fun vs es Hk3 H3 g3 r3 p3 => q (xs ++ vs) (ds ++ es) Hk3 H3 (g2.trans g3) ((r.mono g3.known).append r3) p3⟩
  | @tup a xs ds g r => exact ⟨a, xs, rfl, .inl (ex_tp g2.sub g), hr σ ρ Hk2 (F.mono g2.known) _ p2 H2 g2.sub _ fun vs es Hk3 H3 g3 r3 p3 => q (xs ++ vs) (ds ++ es) Hk3 H3 (g2.trans g3) ((r.mono g3.known).append r3) p3⟩
  | bl b => exact p2.elim
  | non => exact p2.elim
  | int _ => exact p2.elim
  | str _ => exact p2.elim
  | dic _ _ => exact p2.elim
end
abbrev WMs := WEnv → (List Sl → Prop) → Prop
def RpMs (K : PySem.W.Frag) (H1 Hk H2 : Hp) : List V → List Sl → Prop
  | [], [] => True
  | v :: vs, s :: ss => RpM K H1 Hk H2 v s ∧ (∀ p c, v = .ref p → s.ownC = some c → ∀ (j : Nat) t c', ss[j]? = some t → t.ownC = some c' → vs[j]? = some (.ref p) → False) ∧ RpMs K H1 Hk H2 vs ss
  | _, _ => False
def mnilW : WMs := fun _ Q => Q []
def mconsW (a : WM) (r : WMs) : WMs := fun ρ Q => a ρ fun s => r ρ fun ss => Q (s :: ss)
def sets {α : Type} : List Nat → List α → List (Option α) → List (Option α)
  | i :: is, d :: ds, ρ => sets is ds (ρ.set i (some d))
  | _, _, ρ => ρ
def setsW (S : List Nat) (is : List Nat) (a : WMs) : WS := fun W ρ => a (tells S ρ) fun ss => ss.length = is.length ∧ (∀ s ∈ ss, FreeS S (wiped ρ is) s) ∧ W.nx (sets is ss (wiped ρ is))
section
variable {K : PySem.W.Frag} {T : List Addr} {S : List Nat} {te ta : TE} {tl : TA} {ma : WM} {wl : WMs}
theorem RpMs.len {H1 Hk H2 : Hp} : ∀ {vs : List V} {ss : List Sl}, RpMs K H1 Hk H2 vs ss → vs.length = ss.length
  | [], [], _ => rfl
  | _ :: _, _ :: _, h => congrArg (· + 1) (RpMs.len h.2.2)
theorem RpMs.get {H1 Hk H2 : Hp} : ∀ {vs : List V} {ss : List Sl} {j : Nat} {v : V} {s : Sl}, RpMs K H1 Hk H2 vs ss → vs[j]? = some v → ss[j]? = some s → RpM K H1 Hk H2 v s
  | [], [], j, _, _, _, e, _ => by simp at e
  | v :: vs, s :: ss, 0, _, _, h, e, e2 => by
    cases Option.some.inj e
    cases Option.some.inj e2
    exact h.1
  | v :: vs, s :: ss, j + 1, _, _, h, e, e2 => RpMs.get (j := j) h.2.2 (by simpa using e) (by simpa using e2)
theorem RpMs.cut [Base] {B B1 : Hp} {σ : L2.St} {ρ ρk : WEnv} {H H1 Hk H2 : Hp} (F : Fit K T B B1 σ ρ H H1) (sb : Sub ρk ρ) (g : Grow (tellH S σ ρ H H1) H1 Hk H2) : ∀ {vs : List V} {ss : List Sl}, RpMs K H1 Hk H2 vs ss → (∀ s ∈ ss, FreeS S ρk s) → RpMs K H1 (cutH S σ ρk Hk) H2 vs ss
  | [], [], _, _ => trivial
  | _ :: _, _ :: _, h, f => ⟨h.1.cut F sb g (f _ List.mem_cons_self), h.2.1, RpMs.cut F sb g h.2.2 fun s hs => f s (List.mem_cons_of_mem _ hs)⟩
theorem RpMs.grow {Hk Hk' H1 H2 H3 H0 : Hp} (g : Grow Hk H2 Hk' H3) (e : Ex H0 H1) : ∀ {vs : List V} {ss : List Sl}, RpMs K H1 Hk H2 vs ss → RpMs K H0 Hk' H3 vs ss
  | [], [], _ => trivial
  | _ :: _, _ :: _, h => ⟨h.1.grow g e, h.2.1, RpMs.grow g e h.2.2⟩
end
def frz1W (i : Nat) (a : WS) : WS := fun W ρ => a W (tell1 ρ i)
def itemsS (a : WE) : WL := fun ρ Q => a ρ fun d => match d with
  | .list ds => Q ds
  | .tuple ds => Q ds
  | .str z => Q (z.cps.toList.map fun c => .str ⟨#[c]⟩)
  | _ => False
end DL
namespace DL
open PySem
variable [CTab]
structure Sh (k b : Nat) (d : PyData) : Prop where
  shw : d.showable = true
  lay : d.canLay0 = true
  lvs : d.leavesShort 1921 = true
  dep : d.depth ≤ k
  blk : d.bulk ≤ b
theorem Sh.shaped {k b : Nat} {d : PyData} (h : Sh k b d) (hk : k ≤ 64) : SeqAt.shaped d = true := by
  unfold SeqAt.shaped
  rw [h.lay, decide_eq_true (Nat.le_trans h.dep hk)]
  rfl
theorem Sh.eq {k b : Nat} {d : PyData} (h : Sh k b d) : PyData.eqv d d = true := SeqAt.eqv_refl d h.lay
end DL
namespace DL
open PySem PySem.Spec PyProof.Rows L2 Evl
variable [CTab]
theorem it_any {J : It} {n : Nat} {G : Hp → Prop} {Y : Nat → Hp → V → Hp → Prop} (w : Walk J n G Y) {Bd : V → Hp → (Hp → Prop) → Prop} {Dn : Hp → Prop} {H0 : Hp} (Pv : Nat → Hp → Prop) (h0 : Pv 0 H0) (hG : ∀ i H, i ≤ n → Pv i H → G H)
    (hs : ∀ i x H H', i < n → Pv i H → Y i H x H' → Bd x H' (Pv (i + 1))) (hd : ∀ H, Pv n H → Dn H) :
    ∃ W : Nat → Nat → Hp → Prop, (∃ m, W 0 m H0) ∧ ∀ i m H, W i m H → (J.stop i H ∧ Dn H) ∨ (J.go i H ∧ ∃ Nx : Hp → Prop, (∀ H', Nx H' → ∃ m', m' < m ∧ W (i + 1) m' H') ∧ ∀ x H', J.yld i H x H' → Bd x H' Nx) := by
  refine ⟨fun i m H => m = n - i ∧ i ≤ n ∧ Pv i H, ⟨n, rfl, Nat.zero_le _, h0⟩, ?_⟩
  rintro i m H ⟨rfl, hi, p⟩
  have q := hG i H hi p
  by_cases hlt : i < n
  · exact .inr ⟨w.goes i H hlt q, Pv (i + 1), fun H' p' => ⟨n - (i + 1), by omega, rfl, hlt, p'⟩, fun x H' y => hs i x H H' hlt p (w.yields i H x H' hlt q y)⟩
  · have e : i = n := by omega
    subst e
    exact .inl ⟨w.stops H q, hd H p⟩
def comp2W (b : WB) (t : WT) (ww1 : WL) (b1 : WB) (t1 : WT) (e : WE) (vs1 : List Nat) (ρ : WEnv) : List PyData → List PyData → (List PyData → Prop) → Prop
  | [], acc, Q => Q acc
  | d :: ds, acc, Q => b d ρ fun ρ1 => t ρ1 fun c => if c = true then ww1 ρ1 fun es => es.length ≤ 100000 ∧ compW b1 t1 e (wipeW ρ1 vs1) es acc fun acc' => acc'.length ≤ 100000 ∧ comp2W b t ww1 b1 t1 e vs1 ρ ds acc' Q
      else comp2W b t ww1 b1 t1 e vs1 ρ ds acc Q
def lc2N (vs vs1 : List Nat) (ww : WL) (b : WB) (t : WT) (ww1 : WL) (b1 : WB) (t1 : WT) (e : WE) : WL := fun ρ Q => ww ρ fun ds => comp2W b t ww1 b1 t1 e vs1 (wipeW ρ vs) ds [] Q
section
variable {K : PySem.W.Frag} {T : List Addr} {ta te tx : TE} {tt tt1 : TT} {wa wx : WE} {ct ct1 : WT}
/-- what stands while a new list is filled -/
structure Fil (K : PySem.W.Frag) (Hk H2 : Hp) (D : Addr) (Hm : Hp) (acc : List PyData) (H' : Hp) (xs : List V) : Prop where
  e1 : Ex Hk Hm
  e2 : Ex Hm H'
  e3 : Ex H2 H'
  hm : Hm D = none
  fr : ∀ p o, Hm p = some o → Hk p = none → NT o → H2 p = none
  at' : H' D = some (.lst xs)
  al : RpAll K Hm xs acc
theorem Fil.grow {Hk H2 Hm H' Hm' H'' : Hp} {D : Addr} {acc : List PyData} {xs : List V} (f : Fil K Hk H2 D Hm acc H' xs) (g : Grow Hm H' Hm' H'') : Fil K Hk H2 D Hm' acc H'' xs :=
  ⟨f.e1.trans g.known, g.sub, f.e3.trans g.all, g.unk f.hm f.at' NT.lst, fun p o h n t => by
    cases z : Hm p with
    | some u => exact f.fr p u z n (NT.of ((g.known p u z).symm.trans h) t)
    | none => exact ex_none f.e3 (g.fresh p o h z t), g.all _ _ f.at', f.al.mono g.known⟩
theorem Fil.add {Hk H2 Hm H' : Hp} {D : Addr} {acc : List PyData} {xs : List V} {v : V} {z : PyData} (f : Fil K Hk H2 D Hm acc H' xs) (hD : H2 D = none) (r : Rp K Hm v z) : Fil K Hk H2 D Hm (acc ++ [z]) (upd H' D (.lst (xs ++ [v]))) (xs ++ [v]) :=
  ⟨f.e1, f.e2.mut f.hm, f.e3.mut hD, f.hm, f.fr, upd_same, f.al.append (.cons r .nil)⟩
theorem dn_lc2 {wi wi1 : TI} {g g1 : TG} {ww ww1 : WL} {b b1 : WB} {vs vs1 js js1 : List Nat} (hi : DI K T wi ww) (hg : DB K T js g b) (ht : DT K T tt ct) (hi1 : DI K T wi1 ww1) (hg1 : DB K T js1 g1 b1) (ht1 : DT K T tt1 ct1) (he : DE K T te wa)
    (hj : ∀ j ∈ js, j ∈ vs) (hj1 : ∀ j ∈ js1, j ∈ vs1) : DN K T (tLc2 wi g tt wi1 g1 tt1 te vs vs1) (lc2N vs vs1 ww b ct ww1 b1 ct1 wa) := by
  intro σ ρ H F P h H1 e Q q
  refine hi σ ρ H F _ h H1 e _ fun ds J G Y Hk H2 p2 g2 w g0 hy => ?_
  intro D hD
  have hDk : Hk D = none := ex_none g2.sub hD
  have Fk := (F.mono g2.known).wipe vs
  refine it_any w (fun i H' => ∃ Hm xs acc, Fil K Hk H2 D Hm acc H' xs ∧ acc.length ≤ 100000 ∧ comp2W b ct ww1 b1 ct1 wa vs1 (wipeW ρ vs) (ds.drop i) acc P) ?_ ?_ ?_ ?_
  · exact ⟨Hk, [], [], ⟨Ex.refl _, g2.sub.trans (Ex.new hD), Ex.new hD, hDk, (fun p o h n _ => by rw [h] at n; cases n), upd_same, .nil⟩, Nat.zero_le _, p2⟩
  · rintro i H' _ ⟨Hm, xs, acc, f, _⟩
    exact g0 H' (f.e1.trans f.e2)
  · rintro i x H3 H4 hlt ⟨Hm, xs, acc, f, hacc, hP⟩ y
    obtain ⟨Hm', g34, d, hd, rx⟩ := hy i x Hm H3 H4 hlt f.e1 f.e2 y
    rw [List.drop_eq_getElem_cons hlt] at hP
    have ed : ds[i] = d := by
      rw [List.getElem?_eq_getElem hlt] at hd
      exact Option.some.inj hd
    rw [ed] at hP
    have f4 := f.grow g34
    refine hg _ _ _ x d (Fk.mono f4.e1) rx _ hP H4 f4.e2 _ fun σ' ρ' F' ho _ hc => ⟨?_, ?_⟩
    · refine wipe_eq (ho.1.trans (L2.wipe_length σ vs)) fun j hj' => (ho.2 j fun z => hj' (hj j z)).1
    refine ht σ' ρ' Hm' F' _ hc H4 f4.e2 _ fun c Hm5 H5 g5 hc => ?_
    have f5 := f4.grow g5
    cases c with
    | false =>
      rw [if_neg Bool.false_ne_true] at hc ⊢
      exact ⟨Hm5, xs, acc, f5, hacc, hc⟩
    | true =>
      rw [if_pos rfl] at hc ⊢
      refine hi1 σ' ρ' Hm5 (F'.mono g5.known) _ hc H5 f5.e2 _ fun es J1 G1 Y1 Hk6 H6 p6 g6 w1 g01 hy1 => ?_
      obtain ⟨hes, p6⟩ := p6
      have f6 := f5.grow g6
      have Fk6 := (F'.mono (g5.known.trans g6.known)).wipe vs1
      refine it_any w1 (fun j H' => ∃ Hm xs acc, Ex Hk6 Hm ∧ Fil K Hk H2 D Hm acc H' xs ∧ acc.length ≤ 100000 + j ∧ compW b1 ct1 wa (wipeW ρ' vs1) (es.drop j) acc fun acc' => acc'.length ≤ 100000 ∧ comp2W b ct ww1 b1 ct1 wa vs1 (wipeW ρ vs) (ds.drop (i + 1)) acc' P) ?_ ?_ ?_ ?_
      · exact ⟨Hk6, xs, acc, Ex.refl _, f6, by omega, p6⟩
      · rintro j H' _ ⟨Hm, xs, acc, e0, f, _⟩
        exact g01 H' (e0.trans f.e2)
      · rintro j x1 H7 H8 hlt1 ⟨Hm7, xs7, acc7, e7, f7, hacc7, hP7⟩ y1
        obtain ⟨Hm8, g78, d1, hd1, rx1⟩ := hy1 j x1 Hm7 H7 H8 hlt1 e7 f7.e2 y1
        rw [List.drop_eq_getElem_cons hlt1] at hP7
        have ed1 : es[j] = d1 := by
          rw [List.getElem?_eq_getElem hlt1] at hd1
          exact Option.some.inj hd1
        rw [ed1] at hP7
        have f8 := f7.grow g78
        have e8 := e7.trans g78.known
        refine hg1 _ _ _ x1 d1 (Fk6.mono e8) rx1 _ hP7 H8 f8.e2 _ fun σ9 ρ9 F9 ho9 _ hc9 => ⟨?_, ?_⟩
        · refine wipe_eq (ho9.1.trans (L2.wipe_length σ' vs1)) fun j hj' => (ho9.2 j fun z => hj' (hj1 j z)).1
        refine ht1 σ9 ρ9 Hm8 F9 _ hc9 H8 f8.e2 _ fun c1 Hm10 H10 g10 hc10 => ?_
        have f10 := f8.grow g10
        have e10 := e8.trans g10.known
        cases c1 with
        | false =>
          rw [if_neg Bool.false_ne_true] at hc10 ⊢
          exact ⟨Hm10, xs7, acc7, e10, f10, by omega, hc10⟩
        | true =>
          rw [if_pos rfl] at hc10 ⊢
          refine he σ9 ρ9 Hm10 (F9.mono g10.known) _ hc10 H10 f10.e2 _ fun v z Hm11 H11 g11 r11 p11 => ?_
          have f11 := f10.grow g11
          refine ⟨xs7, f11.at', ?_, ?_⟩
          · have hl : xs7.length = acc7.length := f11.al.len
            have : (200000 : Nat) < sizeLine := by decide
            have : es.length ≤ 100000 := hes
            omega
          · exact ⟨Hm11, xs7 ++ [v], acc7 ++ [z], e10.trans g11.known, f11.add hD r11, by rw [List.length_append]; show acc7.length + 1 ≤ _; omega, p11⟩
      · rintro H' ⟨Hm, xs, acc, e0, f, _, hP⟩
        rw [List.drop_length] at hP
        exact ⟨Hm, xs, acc, f, hP.1, hP.2⟩
  · rintro H' ⟨Hm, xs, acc, f, hacc, hP⟩
    have gk : Grow Hk H2 Hm H' := ⟨f.e1, f.e2, f.e3, f.fr⟩
    rw [List.drop_length] at hP
    exact q D xs acc Hm H' (g2.trans gk) f.al hP f.hm f.at' (ex_none g2.all hD)
end
end DL
namespace DL
open PySem PySem.Spec PyProof.Rows L2 Evl
variable [CTab] [Base]
section
variable {K : PySem.W.Frag} {T : List Addr} {S : List Nat} {ta tb tc te : TE} {tt : TT} {wa wb wc wx wy : WE} {ct : WT} {t u : TS} {ws wu : WS} {i : Nat}
theorem Rp.flat {H H' : Hp} {v : V} {d : PyData} (r : Rp K H v d) (h : flatD d = true) : Rp K H' v d := by
  cases r with
  | non => exact .non
  | bl b => exact .bl b
  | int i => exact .int i
  | str x => exact .str x
  | lst _ _ => cases h
  | tup _ _ => cases h
  | dic _ _ => cases h
theorem RpAll.flat {H H' : Hp} : ∀ {vs : List V} {ds : List PyData}, RpAll K H vs ds → (∀ d ∈ ds, flatD d = true) → RpAll K H' vs ds
  | _, _, .nil, _ => .nil
  | _, _, .cons h r, f => .cons (h.flat (f _ List.mem_cons_self)) (r.flat fun d hd => f d (List.mem_cons_of_mem _ hd))
def plus (B1 H1 : Hp) (fp : List Addr) : Hp := fun a => if a ∈ fp then H1 a else B1 a
theorem plus_in {B1 H1 : Hp} {fp : List Addr} {a : Addr} (h : a ∈ fp) : plus B1 H1 fp a = H1 a := if_pos h
theorem plus_out {B1 H1 : Hp} {fp : List Addr} {a : Addr} (h : a ∉ fp) : plus B1 H1 fp a = B1 a := if_neg h
structure Reg (K : PySem.W.Frag) (B1 H H1 : Hp) (p : Addr) (qs : List Addr) (rows : List (List PyData)) : Prop where
  nd : (p :: qs).Nodup
  hp : H1 p = some (.lst (qs.map V.ref))
  no : ∀ a ∈ p :: qs, H a = none ∧ B1 a = none
  len : qs.length = rows.length
  row : ∀ (k : Nat) q ds, qs[k]? = some q → rows[k]? = some ds → ∃ vs, H1 q = some (.lst vs) ∧ RpAll K H vs ds
  fl : ∀ ds ∈ rows, ∀ d ∈ ds, flatD d = true
theorem Reg.some {B1 H H1 : Hp} {p : Addr} {qs : List Addr} {rows : List (List PyData)} (R : Reg K B1 H H1 p qs rows) {a : Addr} (h : a ∈ p :: qs) : ∃ vs, H1 a = some (.lst vs) := by
  rcases List.mem_cons.mp h with rfl | h
  · exact ⟨_, R.hp⟩
  · obtain ⟨k, hk, rfl⟩ := List.getElem_of_mem h
    obtain ⟨vs, e, _⟩ := R.row k qs[k] (rows[k]'(by rw [← R.len]; exact hk)) (List.getElem?_eq_getElem hk) (List.getElem?_eq_getElem _)
    exact ⟨_, e⟩
/-- the region stays where nothing of it is known -/
theorem Reg.keep {B1 H H1 H' H1' : Hp} {p : Addr} {qs : List Addr} {rows : List (List PyData)} (R : Reg K B1 H H1 p qs rows) (e : ∀ a ∈ p :: qs, H1' a = H1 a) (n : ∀ a ∈ p :: qs, H' a = none) : Reg K B1 H' H1' p qs rows :=
  ⟨R.nd, by rw [e p List.mem_cons_self]; exact R.hp, fun a ha => ⟨n a ha, (R.no a ha).2⟩, R.len, fun k q ds h1 h2 => by
    obtain ⟨vs, e1, e2⟩ := R.row k q ds h1 h2
    exact ⟨vs, by rw [e q (List.mem_cons_of_mem _ (List.mem_of_getElem? h1))]; exact e1, e2.flat (R.fl ds (List.mem_of_getElem? h2))⟩, R.fl⟩
theorem plus_eq {B1 H1 H1' : Hp} {fp : List Addr} (e : ∀ a ∈ fp, H1' a = H1 a) : plus B1 H1' fp = plus B1 H1 fp := by
  funext a
  unfold plus
  split
  · rename_i h
    exact e a h
  · rfl
theorem Reg.out {B B1 H H1 Hk H2 : Hp} {p : Addr} {qs : List Addr} {rows : List (List PyData)} (R : Reg K B1 H H1 p qs rows) (g : Grow B (plus B1 H1 (p :: qs)) Hk H2) : Grow B B1 Hk H2 :=
  ⟨g.known, g.sub, fun a o h => by
    have na : a ∉ p :: qs := fun ha => by
      rw [(R.no a ha).2] at h
      cases h
    exact g.all a o (by rw [plus_out na]; exact h), fun a o h n nt => by
    by_cases ha : a ∈ p :: qs
    · exact (R.no a ha).2
    · have := g.fresh a o h n nt
      rwa [plus_out ha] at this⟩
/-- the env with a table of one's own at slot i -/
def Fit2 (K : PySem.W.Frag) (T : List Addr) (i : Nat) (B B1 : Hp) (σ : L2.St) (ρ : WEnv) (H H1 : Hp) : Prop := ∃ rows p qs, ρ[i]? = some (some (.tbl rows)) ∧ Reg K B1 H H1 p qs rows ∧ Fit K T B (plus B1 H1 (p :: qs)) σ (ρ.set i (some (.pin p))) H H1
def rowsD (rows : List (List PyData)) : PyData := .list (rows.map .list)
/-- the table is told -/
theorem Fit2.told {B B1 : Hp} {σ : L2.St} {ρ : WEnv} {H H1 : Hp} {rows : List (List PyData)} {p : Addr} {qs : List Addr} (R : Reg K B1 H H1 p qs rows) (F : Fit K T B (plus B1 H1 (p :: qs)) σ (ρ.set i (some (.pin p))) H H1) (hi : i < ρ.length) (hB : ∀ a, B1 a = none → Base.h0 a = none) :
    Fit K T B B1 σ (ρ.set i (some (.dat (rowsD rows)))) (plus H H1 (p :: qs)) H1 := by
  have eH : Ex H (plus H H1 (p :: qs)) := fun a o h => by
    have na : a ∉ p :: qs := fun ha => by
      rw [(R.no a ha).1] at h
      cases h
    rw [plus_out na]
    exact h
  have ownOut : ∀ (k : Nat) t ct, (ρ.set i (some (.dat (rowsD rows))))[k]? = some (some t) → t.ownC = some ct → k ≠ i ∧ (ρ.set i (some (.pin p)))[k]? = some (some t) := fun k t ct h hc => by
    rw [get_set] at h
    by_cases c : i = k
    · rw [if_pos c] at h
      split at h <;> cases h <;> cases hc
    · rw [if_neg c] at h
      exact ⟨fun z => c z.symm, by rw [get_set, if_neg c]; exact h⟩
  refine ⟨⟨F.g.known.trans eH, fun a o h => ?_, (R.out F.g).all, fun a o h n nt => ?_⟩, ⟨by rw [F.p.len, List.length_set, List.length_set], fun k => ?_, F.p.tabs.mono eH⟩, ⟨fun k t ct h hc => ?_, fun k l a t ct t' ct' h1 hc1 h2 hc2 z1 z2 => ?_, hB⟩⟩
  · by_cases ha : a ∈ p :: qs
    · rwa [plus_in ha] at h
    · rw [plus_out ha] at h
      exact F.g.sub a o h
  · by_cases ha : a ∈ p :: qs
    · exact (R.no a ha).2
    · rw [plus_out ha] at h
      exact (R.out F.g).fresh a o h n nt
  · have hk := F.p.sl k
    rw [get_set] at hk ⊢
    by_cases c : i = k
    · rw [if_pos c, if_pos hi] at hk ⊢
      refine ⟨.ref p, hk, .lst (sq_of (by rw [plus_in List.mem_cons_self]; exact R.hp)) ?_⟩
      have key : ∀ (qs' : List Addr) (rows' : List (List PyData)), qs'.length = rows'.length → (∀ (k : Nat) q ds, qs'[k]? = some q → rows'[k]? = some ds → Rp K (plus H H1 (p :: qs)) (.ref q) (.list ds)) → RpAll K (plus H H1 (p :: qs)) (qs'.map V.ref) (rows'.map .list) := by
        intro qs'
        induction qs' with
        | nil =>
          intro rows' hl _
          cases rows' with
          | nil => exact .nil
          | cons _ _ => cases hl
        | cons q qs' ih =>
          intro rows' hl h
          cases rows' with
          | nil => cases hl
          | cons r rows' => exact .cons (h 0 q r rfl rfl) (ih rows' (by simpa using hl) fun k q ds h1 h2 => h (k + 1) q ds (by simpa using h1) (by simpa using h2))
      refine key qs rows R.len fun k q ds h1 h2 => ?_
      obtain ⟨vs, e1, e2⟩ := R.row k q ds h1 h2
      exact .lst (sq_of (by rw [plus_in (List.mem_cons_of_mem _ (List.mem_of_getElem? h1))]; exact e1)) (e2.mono eH)
    · rw [if_neg c] at hk ⊢
      exact hk.mono eH
  · have hk := ownOut k t ct h hc
    obtain ⟨a, e1, e2, e3, e4⟩ := F.o.at1 k t ct hk.2 hc
    have na : a ∉ p :: qs := fun ha => by
      rw [plus_in ha] at e3
      obtain ⟨_, e4, _⟩ := e4.is
      rw [e3] at e4
      cases e4
    exact ⟨a, e1, by rw [plus_out na]; exact e2, by rw [plus_out na] at e3; exact e3, e4.go eH fun _ z => z⟩
  · exact F.o.sep1 k l a t ct t' ct' (ownOut k t ct h1 hc1).2 hc1 (ownOut l t' ct' h2 hc2).2 hc2 z1 z2
theorem Fit.keep {B B1 : Hp} {σ : L2.St} {ρ : WEnv} {H H1 H2 : Hp} (F : Fit K T B B1 σ ρ H H1) (e : Ex H1 H2) : Fit K T B B1 σ ρ H H2 :=
  ⟨⟨F.g.known, F.g.sub.trans e, F.g.all.trans e, F.g.fresh⟩, F.p, ⟨fun i t ct h hc => by
    obtain ⟨p, e1, e2, e3, e4⟩ := F.o.at1 i t ct h hc
    exact ⟨p, e1, e2, e3, e4.go (Ex.refl _) fun _ z => e _ _ z⟩, F.o.sep1, F.o.b0⟩⟩
theorem Reg.keepE {B1 H H1 H2 : Hp} {p : Addr} {qs : List Addr} {rows : List (List PyData)} (R : Reg K B1 H H1 p qs rows) (e : Ex H1 H2) : Reg K B1 H H2 p qs rows ∧ plus B1 H2 (p :: qs) = plus B1 H1 (p :: qs) := by
  have e : ∀ a ∈ p :: qs, H2 a = H1 a := fun a ha => by
    obtain ⟨o, ho⟩ := R.some ha
    rw [ho]
    exact e a _ ho
  exact ⟨R.keep e fun a ha => (R.no a ha).1, plus_eq e⟩
structure FilT (K : PySem.W.Frag) (Hk H2 : Hp) (D : Addr) (Hm : Hp) (rows : List (List PyData)) (H' : Hp) (qs : List Addr) : Prop where
  e1 : Ex Hk Hm
  e3 : Ex H2 H'
  e2 : Ex Hm H'
  fr : ∀ p o, Hm p = some o → Hk p = none → NT o → H2 p = none
  R : Reg K H2 Hm H' D qs rows
theorem FilT.grow {Hk H2 Hm H' Hm' H'' : Hp} {D : Addr} {rows : List (List PyData)} {qs : List Addr} (f : FilT K Hk H2 D Hm rows H' qs) (g : Grow Hm H' Hm' H'') : FilT K Hk H2 D Hm' rows H'' qs :=
  ⟨f.e1.trans g.known, f.e3.trans g.all, g.sub, fun p o h n t => by
    cases z : Hm p with
    | some u => exact f.fr p u z n (NT.of ((g.known p u z).symm.trans h) t)
    | none => exact ex_none f.e3 (g.fresh p o h z t), (f.R.keepE g.all).1.keep (fun _ _ => rfl) fun a ha => by
    obtain ⟨o, ho⟩ := f.R.some ha
    exact g.unk (f.R.no a ha).1 ho NT.lst⟩
theorem FilT.add {Hk H2 Hm H' : Hp} {D : Addr} {rows : List (List PyData)} {qs : List Addr} {q : Addr} {vs : List V} {ds : List PyData} (f : FilT K Hk H2 D Hm rows H' qs) (hq : Hm q = none) (h2 : H2 q = none) (hn : q ∉ D :: qs) (hv : H' q = some (.lst vs)) (r : RpAll K Hm vs ds) (fl : ∀ d ∈ ds, flatD d = true) :
    FilT K Hk H2 D Hm (rows ++ [ds]) (upd H' D (.lst ((qs ++ [q]).map V.ref))) (qs ++ [q]) := by
  have hD := f.R.no D List.mem_cons_self
  have nd := f.R.nd
  have nD : q ≠ D := fun e => hn (e ▸ List.mem_cons_self)
  refine ⟨f.e1, f.e3.mut hD.2, f.e2.mut hD.1, f.fr, ⟨?_, upd_same, fun a ha => ?_, by rw [List.length_append, List.length_append, f.R.len]; rfl, fun k q' ds' z1 z2 => ?_, fun ds' h d hd => ?_⟩⟩
  · rw [← List.cons_append]
    refine List.nodup_append.mpr ⟨nd, by simp, fun a ha b hb => ?_⟩
    obtain rfl := List.mem_singleton.mp hb
    exact fun e => hn (e ▸ ha)
  · rw [← List.cons_append] at ha
    rcases List.mem_append.mp ha with ha | ha
    · exact f.R.no a ha
    · obtain rfl := List.mem_singleton.mp ha
      exact ⟨hq, h2⟩
  · by_cases c : k < qs.length
    · rw [List.getElem?_append_left c] at z1
      rw [List.getElem?_append_left (by rw [← f.R.len]; exact c)] at z2
      obtain ⟨vs', e1, e2⟩ := f.R.row k q' ds' z1 z2
      have ne : q' ≠ D := fun e => (List.nodup_cons.mp nd).1 (e ▸ List.mem_of_getElem? z1)
      exact ⟨vs', by rw [upd_ne ne]; exact e1, e2⟩
    · rw [List.getElem?_append_right (by omega)] at z1
      rw [List.getElem?_append_right (by rw [← f.R.len]; omega)] at z2
      have hk : k - qs.length = 0 := by
        have := (List.getElem?_eq_some_iff.mp z1).1
        simpa using this
      rw [hk] at z1
      rw [← f.R.len, hk] at z2
      cases Option.some.inj z1
      cases Option.some.inj z2
      exact ⟨vs, by rw [upd_ne nD]; exact hv, r⟩
  · rcases List.mem_append.mp h with h | h
    · exact f.R.fl ds' h d hd
    · obtain rfl := List.mem_singleton.mp h
      exact fl d hd
end
end DL
namespace DL
open PySem PySem.Spec PyProof.Rows L2
end DL
namespace DL
open PySem PySem.Spec PyProof.Rows L2
/-- one clause: its class, its name's slot (if it has a name), its suite -/
structure Hd1 where
  c : Value
  i : Option Nat
  ts : Addr → Value → Option Addr → TS
def Hd1.slot (σ : L2.St) (a : Addr) : Option Nat → L2.St
  | none => σ
  | some i => σ.set i (some (.ref a))
end DL
namespace DL
open PySem PySem.Spec PyProof.Rows L2 Evl
variable [CTab] [Base]
abbrev XD := Str × Option (Str × PyData)
def XOk (K : PySem.W.Frag) (mg : Str → Option Value) (H : Hp) : XD → Value → Option Addr → Prop
  | (n, none), cls, _ => mg n = some cls
  | (n, some (f, z)), cls, d => mg n = some cls ∧ ∃ dx v, d = some dx ∧ H dx = some (.xd [(f, v)]) ∧ Rp K H v z
abbrev WXP := (XD → Prop)
def spX (K : PySem.W.Frag) (mg : Str → Option Value) (T : List Addr) (n : Nat) (w : List Sl → (PyData → Prop) → WXP → Prop) : Sp := fun vs H1 Q E => ∃ H ss, Ex H H1 ∧ Tabs T H ∧ RpSs K H vs ss ∧ ss.length = n ∧ ∃ P R, w ss P R ∧
  (∀ u z Hk H2, Grow H H1 Hk H2 → Rp K Hk u z → P z → Q u H2) ∧ ∀ x cls d Hk H2, Grow H H1 Hk H2 → XOk K mg Hk x cls d → R x → E cls d H2
/-- nothing is raised there -/
def calmW (w : List Sl → (PyData → Prop) → WXP → Prop) : List Sl → (PyData → Prop) → Prop := fun ss P => w ss P fun _ => False
end DL
namespace DL
open PySem PySem.Spec PyProof.Rows L2 Evl
end DL
namespace DL
open PySem PySem.Spec PyProof.Rows L2 Evl
variable [CTab] [Base]
section
variable {K : PySem.W.Frag} {mg : Str → Option Value} {T : List Addr} {Tn : List (Addr × Str)} {H H' H1 H2 : Hp}
theorem rdN {a : Addr} {u : HO} (hu : ∀ ps, u ≠ .tbl ps) (e : LamX.ExtN H H') (h : Rd H a u) : Rd H' a u := by
  rcases h with h | ⟨o, h⟩
  · exact .inl (e a u h hu)
  · exact .inr ⟨o, e a _ h fun ps z => nomatch z⟩
theorem sqL_N {a : Addr} {xs : List V} (e : LamX.ExtN H H') (h : SqL K H a xs) : SqL K H' a xs := h.imp (rdN (fun ps z => nomatch z) e) id
theorem sqT_N {a : Addr} {xs : List V} (e : LamX.ExtN H H') (h : SqT K H a xs) : SqT K H' a xs := h.imp (rdN (fun ps z => nomatch z) e) id
theorem tpH_N {a : Addr} {xs : List V} (e : LamX.ExtN H H') (h : TpH K H a xs) : TpH K H' a xs := h.imp (fun z => e _ _ z fun ps z => nomatch z) fun z => ⟨z.1, sqT_N e z.2⟩
mutual
theorem KeyAt.monoN (e : LamX.ExtN H H') : ∀ {k : NestedKey} {v : V}, KeyAt K H k v → KeyAt K H' k v
  | _, _, .non => .non
  | _, _, .int i => .int i
  | _, _, .str x => .str x
  | _, _, .tup h q => .tup (tpH_N e h) (KeyAll.monoN e q)
theorem KeyAll.monoN (e : LamX.ExtN H H') : ∀ {ks : List NestedKey} {vs : List V}, KeyAll K H ks vs → KeyAll K H' ks vs
  | _, _, .nil => .nil
  | _, _, .cons h q => .cons (KeyAt.monoN e h) (KeyAll.monoN e q)
end
theorem KeysAt.monoN (e : LamX.ExtN H H') {xs : List Ent} (h : KeysAt K H xs) : KeysAt K H' xs := fun x hx => (h x hx).monoN e
theorem DicH.monoN {a : Addr} {kvs : List (PyData × V)} (e : LamX.ExtN H H') : DicH K H a kvs → DicH K H' a kvs
  | .k ⟨ob, h⟩ => .k ⟨ob, e _ _ h fun ps z => nomatch z⟩
  | .n ⟨ob, h⟩ hk => .n ⟨ob, e _ _ h fun ps z => nomatch z⟩ (hk.monoN e)
  | .o h1 h2 h3 h4 hs => .o h1 h2 (e _ _ h3 fun ps z => by unfold SlX.SlO at z; cases z) (e _ _ h4 fun ps z => nomatch z) hs
mutual
theorem Rp.monoN (e : LamX.ExtN H H') : ∀ {v : V} {d : PyData}, Rp K H v d → Rp K H' v d
  | _, _, .non => .non
  | _, _, .bl b => .bl b
  | _, _, .int i => .int i
  | _, _, .str x => .str x
  | _, _, .lst h r => .lst (sqL_N e h) (RpAll.monoN e r)
  | _, _, .tup h r => .tup (tpH_N e h) (RpAll.monoN e r)
  | _, _, .dic h r => .dic (h.monoN e) (RpKv.monoN e r)
theorem RpAll.monoN (e : LamX.ExtN H H') : ∀ {vs : List V} {ds : List PyData}, RpAll K H vs ds → RpAll K H' vs ds
  | _, _, .nil => .nil
  | _, _, .cons h r => .cons (Rp.monoN e h) (RpAll.monoN e r)
theorem RpKv.monoN (e : LamX.ExtN H H') : ∀ {vs : List (PyData × V)} {ds : List (PyData × PyData)}, RpKv K H vs ds → RpKv K H' vs ds
  | _, _, .nil => .nil
  | _, _, .cons h r => .cons (Rp.monoN e h) (RpKv.monoN e r)
end
theorem bagO_ne {b : Addr} (ps : Array Value) : BagO b ≠ .tbl ps := fun z => by
  unfold BagO at z
  cases z
theorem tabO_ne {b : Addr} (ps : Array Value) : TabO b ≠ .tbl ps := fun z => by
  unfold TabO at z
  cases z
theorem SlP.monoN (e : LamX.ExtN H H') {v : Option (Option V)} : ∀ {s : Option (Option Sl)}, SlP K H v s → SlP K H' v s
  | some (some (.dat d)), ⟨x, h, r⟩ => ⟨x, h, r.monoN e⟩
  | some (some .bag), ⟨b, h, r⟩ => ⟨b, h, e _ _ r bagO_ne⟩
  | some (some (.own _)), _ => trivial
  | some (some (.owd _ _)), _ => trivial
  | some (some (.tbl _)), _ => trivial
  | some (some (.pin _)), h => h
  | some (some (.ho _)), ⟨x, h, b, h1, h2, h3⟩ => ⟨x, h, b, h1, e _ _ h2 h3.tbl, h3⟩
  | some none, _ => trivial
  | none, _ => trivial
structure FitN (K : PySem.W.Frag) (T : List Addr) (Tn : List (Addr × Str)) (σ : L2.St) (ρ : WEnv) (H : Hp) : Prop where
  p : FitP K T σ ρ H
  n : LamX.Tabs Tn H
theorem FitP.monoN {σ : L2.St} {ρ : WEnv} (F : FitP K T σ ρ H) (e : LamX.ExtN H H') : FitP K T σ ρ H' := ⟨F.len, fun i => (F.sl i).monoN e, fun P hP => e _ _ (F.tabs P hP) tabO_ne⟩
theorem FitN.go {σ : L2.St} {ρ : WEnv} (F : FitN K T Tn σ ρ H) (e : LamX.ExtN H H') (t : LamX.Tabs Tn H') : FitN K T Tn σ ρ H' := ⟨F.p.monoN e, t⟩
theorem XOk.mono {x : XD} {cls : Value} {d : Option Addr} (e : Ex H H') (h : XOk K mg H x cls d) : XOk K mg H' x cls d := by
  obtain ⟨n, z⟩ := x
  cases z with
  | none => exact h
  | some z =>
    obtain ⟨f, z⟩ := z
    obtain ⟨h1, dx, v, h2, h3, r⟩ := h
    exact ⟨h1, dx, v, h2, e _ _ h3, r.mono e⟩
end
structure MatN (K : PySem.W.Frag) (T : List Addr) (Tn : List (Addr × Str)) (H0 : Hp) (W : WD) (D : Ends) : Prop where
  nx : ∀ σ ρ H, LamX.ExtN H0 H → FitN K T Tn σ ρ H → W.nx ρ → D.nx σ H
  rt : ∀ v d H, LamX.ExtN H0 H → LamX.Tabs Tn H → Rp K H v d → W.rt d → D.rt v H
  bk : ∀ σ ρ H, LamX.ExtN H0 H → FitN K T Tn σ ρ H → W.bk ρ → D.bk σ H
  ct : ∀ σ ρ H, LamX.ExtN H0 H → FitN K T Tn σ ρ H → W.ct ρ → D.ct σ H
section
variable {K : PySem.W.Frag} {mg : Str → Option Value} {T : List Addr} {Tn : List (Addr × Str)} {te ta tb : TE} {tl : TA} {tt tu : TT} {t u : TS} {we wa wb : WE} {ct cu : WT} {ws wu : WS} {i n : Nat}
theorem MatN.ext {H0 H1 : Hp} {W : WD} {D : Ends} (M : MatN K T Tn H0 W D) (e : LamX.ExtN H0 H1) : MatN K T Tn H1 W D :=
  ⟨fun σ ρ H z => M.nx σ ρ H (e.trans z), fun v d H z => M.rt v d H (e.trans z), fun σ ρ H z => M.bk σ ρ H (e.trans z), fun σ ρ H z => M.ct σ ρ H (e.trans z)⟩
theorem FitN.set {σ : L2.St} {ρ : WEnv} {H : Hp} (F : FitN K T Tn σ ρ H) {v : V} {d : PyData} (r : Rp K H v d) : FitN K T Tn (σ.set i (some v)) (ρ.set i (some (.dat d))) H := ⟨F.p.set r, F.n⟩
theorem RpSs.mono' {H H' : Hp} (e : Ex H H') : ∀ {vs : List V} {ss : List Sl}, RpSs K H vs ss → RpSs K H' vs ss
  | _, _, .nil => .nil
  | _, _, .cons h r => .cons (h.mono e) (RpSs.mono' e r)
end
end DL
namespace DL
open PySem PySem.Spec PyProof.Rows L2 Evl
end DL
namespace DL
open PySem PySem.Spec PyProof.Rows L2 Evl
end DL
namespace DL
open PySem PySem.Spec PyProof.Rows L2 Evl
variable [CTab] [Base]
/-- a raising def where it raises nothing -/
theorem FnOk.calm {P : Program} {w : World} {K : PySem.W.Frag} {mg : Str → Option Value} {base : Heap} {CX : CXT} {k : Nat} {f : Addr} {fd : FuncData} {ps : List Str} {T : List Addr} {n : Nat} {wx : List Sl → (PyData → Prop) → WXP → Prop}
    (F : FnOk P w K mg base CX k f fd ps (spX K mg T n wx)) : FnOk P w K mg base CX k f fd ps (spW K T n (calmW wx)) := F.imp fun vs H Q E h => by
  obtain ⟨H0, ss, e, hT, r, hl, P, p, q⟩ := h
  exact ⟨H0, ss, e, hT, r, hl, P, _, p, q, fun _ _ _ _ _ _ _ z => z.elim⟩
end DL
namespace DL
open PySem PySem.Spec PyProof.Rows L2 Evl
end DL
namespace DL
open PySem PySem.Spec PyProof.Rows L2 Evl
end DL
namespace DL
open PySem PySem.Spec PyProof.Rows L2 Evl
end DL
namespace DL
open PySem PySem.Spec PyProof.Rows L2 PySem.F
end DL
namespace FSt
open PySem PySem.Spec PyProof.Rows L2
/-- what is asked of the kind, besides HeapKind -/
structure Kept {P : Program} {w : World} {κ : Type} [DecidableEq κ] (knd : HeapKind P w κ) : Prop where
  stays : ∀ {h h' : Heap} {k : κ} {a : Addr}, (∀ b o vs n, h.get? b = some o → o.data = .seq vs n → h'.get? b = some o) → knd.is h k a → knd.is h' k a
  cls : ∀ {A : Around} {E : Value → Shared → Prop} {s : Shared} {k : κ} {b : Addr} {Q : Bool → Shared → Prop}, knd.is s.heap k b → Q false s → wpAny (model P w) A (ofAClassStatement 8 (.ref b)) Q E s
  byv : ∀ {A : Around} {E : Value → Shared → Prop} {s : Shared} {k : κ} {b : Addr} {Q : Bool → Shared → Prop}, knd.is s.heap k b → (∀ v, Q v s) → wpAny (model P w) A (hashByValue 8 (.ref b)) Q E s
section
variable {P : Program} {w : World} {κ : Type} [DecidableEq κ] {knd : HeapKind P w κ} {A : Around} {E : Value → Shared → Prop} {s : Shared}
theorem Kept.all (T : Kept knd) {h h' : Heap} {k : κ} {b : Addr} (hk : ∀ c o, h.get? c = some o → h'.get? c = some o) (x : knd.is h k b) : knd.is h' k b := T.stays (fun c o _ _ e _ => hk c o e) x
/-- a search among tuples tells nothing -/
theorem Kept.seen (T : Kept knd) {k : κ} {b : Addr} (hx : knd.is s.heap k b) {Q : Bool → Shared → Prop} (h : Q false s) :
    ∀ ys : List Value, (∀ y ∈ ys, ∃ k' c, y = Value.ref c ∧ knd.is s.heap k' c) → wpAny (model P w) A (searchCouldBeSeen (.ref b) ys) Q E s := by
  intro ys hy
  unfold searchCouldBeSeen
  refine wpAny_bind ?_
  refine wpAny_forIn_list _ (fun l r s' => s' = s ∧ r.1 = none ∧ ∀ y ∈ l, ∃ k' c, y = Value.ref c ∧ knd.is s.heap k' c) _ (fun v l r s' hI => ?_) (fun r s' hI => ?_) _ _ ⟨rfl, rfl, hy⟩
  · obtain ⟨e1, e2, hall⟩ := hI
    subst e1
    obtain ⟨k', c, ev, hc⟩ := hall v (.head _)
    subst ev
    have more := fun u (hu : u ∈ l) => hall u (.tail _ hu)
    dsimp only
    refine if q : (b == c || (carriedByValue (.ref b) && carriedByValue (.ref c))) = true then wp_if_pos q (wpAny_pure ⟨rfl, rfl, more⟩) else wp_if_neg q ?_
    refine wpAny_bind (knd.quiet hx ?_)
    simp only [Bool.not_true, Bool.false_eq_true, if_false]
    refine wpAny_bind (knd.quiet hc ?_)
    simp only [Bool.not_true, Bool.false_eq_true, if_false]
    refine wpAny_bind (T.cls hx ?_)
    simp only [Bool.false_eq_true, if_false]
    refine wpAny_bind (T.cls hc ?_)
    simp only [Bool.false_eq_true, if_false]
    exact wpAny_pure ⟨rfl, rfl, more⟩
  · obtain ⟨r1, r2⟩ := r
    obtain ⟨e1, e2, _⟩ := hI
    subst e1
    simp only at e2
    subst e2
    exact wpAny_pure h
/-- the entries of the members L -/
def ents (knd : HeapKind P w κ) (L : List (Addr × κ)) : List (Int × Value) := L.map fun p => (knd.hash p.2, Value.ref p.1)
def hashes (knd : HeapKind P w κ) (L : List (Addr × κ)) : List Int := L.map fun p => knd.hash p.2
theorem ents_len (L : List (Addr × κ)) : (ents knd L).length = L.length := List.length_map ..
theorem ents_get {L : List (Addr × κ)} {i : Nat} {p : Addr × κ} (h : L[i]? = some p) : (ents knd L)[i]? = some (knd.hash p.2, Value.ref p.1) := by
  unfold ents
  rw [List.getElem?_map, h]
  rfl
/-- the object of a set with the members L, in the order of its table -/
structure Obj1 (knd : HeapKind P w κ) (h : Heap) (a : Addr) (L : List (Addr × κ)) (o : Obj) (es : Array (Int × Value)) (ep : Nat) (t : SetTable) : Prop where
  get : h.get? a = some o
  ex : o.ExactSet
  dat : o.data = .set es ep t
  ent : es.toList = ents knd L
  tab : TabOk t (hashes knd L)
  nd : (L.map (·.2)).Nodup
  ld : w.params.followText "set-order" = true ∨ t.led = true
  room : L.length * 5 < t.mask * 3
  few : L.length < 64
def SetK (knd : HeapKind P w κ) (h : Heap) (a : Addr) (L : List (Addr × κ)) : Prop := ∃ o es ep t, Obj1 knd h a L o es ep t
variable {a : Addr} {L : List (Addr × κ)} {o : Obj} {es : Array (Int × Value)} {ep : Nat} {t : SetTable}
theorem Obj1.size {h : Heap} (R : Obj1 knd h a L o es ep t) : es.size = L.length := by
  rw [← Array.length_toList, R.ent, ents_len]
theorem Obj1.psz {h : Heap} (R : Obj1 knd h a L o es ep t) : t.place.toList.length = L.length := by
  rw [Array.length_toList, R.tab.sz]
  exact List.length_map ..
theorem Obj1.fits {h : Heap} (R : Obj1 knd h a L o es ep t) : t.fits es.size = true := by
  have h1 := R.psz
  have h2 := R.size
  have h3 := R.room
  rw [Array.length_toList] at h1
  unfold SetTable.fits SetTable.fill
  rw [R.tab.dm, Bool.and_eq_true, beq_iff_eq, decide_eq_true_eq]
  exact ⟨h1.trans h2.symm, by show t.place.size + 0 ≤ t.mask; omega⟩
theorem Obj1.gw {h : Heap} (R : Obj1 knd h a L o es ep t) : ¬ t.gaveWay = true := by
  unfold SetTable.gaveWay
  rw [mask_odd R.tab.mok]
  exact by decide
theorem Obj1.at {h : Heap} (R : Obj1 knd h a L o es ep t) {i : Nat} {p : Addr × κ} (hp : L[i]? = some p) : es[i]? = some (knd.hash p.2, Value.ref p.1) := by
  rw [← Array.getElem?_toList, R.ent]
  exact ents_get hp
theorem SetK.stay {h h' : Heap} (R : SetK knd h a L) (k : ∀ o, h.get? a = some o → h'.get? a = some o) : SetK knd h' a L := by
  obtain ⟨o, es, ep, t, R⟩ := R
  exact ⟨o, es, ep, t, { R with get := k _ R.get }⟩
/-- the c-th place of the way of k -/
abbrev pl (t : SetTable) (h : Int) (c : Nat) : SetTable.Probe := nth t.mask (runAt t.mask (SetTable.bits h % (t.mask + 1)) (SetTable.bits h)) c
theorem pl_add (t : SetTable) (h : Int) (c q : Nat) : nth t.mask (pl t h c) q = pl t h (c + q) := (nth_add t.mask c _ q).symm
theorem pl_dummy (t : SetTable) (h : Int) : ∀ c, (pl t h c).dummy = none := by
  have key : ∀ (n : Nat) (p : SetTable.Probe), p.dummy = none → (nth t.mask p n).dummy = none := fun n => by
    induction n with
    | zero => exact fun p h => h
    | succ n ih =>
      refine fun p h => ih (adv t.mask p) ?_
      unfold adv
      split
      · exact h
      · exact h
  exact fun c => key c _ rfl
/-- searching k, from the place c on; K is the first free place of its way -/
theorem find_from (T : Kept knd) (R : Obj1 knd s.heap a L o es ep t) (ks : ∀ p ∈ L, knd.is s.heap p.2 p.1) {x : Addr} {k : κ} (hx : knd.is s.heap k x) (hu : knd.room A) {K : Nat} (hKf : K < 10 * SetTable.turns t.mask)
    (hK : way t.mask (knd.hash k) K ∉ t.place.toList) (hKb : ∀ c, c < K → way t.mask (knd.hash k) c ∈ t.place.toList) {Q : SetFound → Shared → Prop}
    (hin : k ∈ L.map (·.2) → Q (.there none) s) (hout : k ∉ L.map (·.2) → Q (.free (way t.mask (knd.hash k) K) false) s) (n : Nat) :
    ∀ (c : Nat) (stand : Option SetTable.Probe), stand.getD (t.probeStart (knd.hash k)) = pl t (knd.hash k) c → c ≤ K → K - c < n →
      (∀ (i : Nat) p, L[i]? = some p → p.2 = k → ∃ c', c ≤ c' ∧ c' < K ∧ t.place.toList[i]? = some (way t.mask (knd.hash k) c')) →
      wpAny (model P w) A (setSearchFrom a (.ref x) (knd.hash k) true n stand) Q E s := by
  induction n with
  | zero => exact fun c stand _ _ h => absurd h (Nat.not_lt_zero _)
  | succ n ih =>
    intro c stand hst hc hn hre
    have gh : ∀ {i : Nat} {p : Addr × κ}, L[i]? = some p → (fun i => (es[i]?.map (·.1)).getD 0) i = knd.hash p.2 := fun {i p} hp => by
      show (es[i]?.map (·.1)).getD 0 = _
      rw [R.at hp]
      rfl
    rw [setSearchFrom_succ]
    refine wpAny_bind (wpAny_setState_of R.get R.dat R.fits ?_)
    dsimp only
    refine wp_if_neg R.gw ?_
    try refine wpAny_bind (wpAny_pure ?_)
    have wj : ∀ q, (nth t.mask (pl t (knd.hash k) c) q).j = way t.mask (knd.hash k) (c + q) := fun q => congrArg SetTable.Probe.j (pl_add t _ c q)
    have hKc : c + (K - c) = K := by omega
    have spec := go_spec t R.tab.ris R.tab.dm (fun i => (es[i]?.map (·.1)).getD 0) (knd.hash k) (10 * SetTable.turns t.mask) (K - c) (pl t (knd.hash k) c) (pl_dummy t _ c) (by omega)
      (fun q hq => (wj q).symm ▸ hKb (c + q) (by omega)) (by rw [wj, hKc]; exact hK)
    rcases spec with ⟨q, i, hq, hi, hh, hno, hpr⟩ | ⟨hno, hpr⟩
    · -- an entry with this hash
      rw [wj] at hi
      have hpr2 : t.probe (fun i => (es[i]?.map (·.1)).getD 0) (knd.hash k) (stand.getD (t.probeStart (knd.hash k))) = some (.candidate (way t.mask (knd.hash k) (c + q)) i (pl t (knd.hash k) (c + (q + 1)))) := by
        rw [hst, ← wj, ← pl_add]
        exact hpr
      rw [hpr2]
      dsimp only
      have hil : i < L.length := by
        rw [← R.psz]
        exact (List.getElem?_eq_some_iff.mp hi).1
      obtain ⟨p, hp⟩ : ∃ p, L[i]? = some p := ⟨_, List.getElem?_eq_getElem hil⟩
      have pm : p ∈ L := List.mem_of_getElem? hp
      have go : wpAny (model P w) A (searchRest a (.ref x) (knd.hash k) true n es t (way t.mask (knd.hash k) (c + q)) i (pl t (knd.hash k) (c + (q + 1)))) Q E s := by
        unfold searchRest
        rw [R.at hp]
        dsimp only
        refine wpAny_bind (wpAny_holding (knd.eqBool hu (ks p pm) hx ?_))
        refine wpAny_bind (wpAny_setState_of R.get R.dat R.fits ?_)
        dsimp only
        refine if e : p.2 = k then ?_ else ?_
        · exact wp_if_pos (by simp [e]) (wpAny_pure (hin (List.mem_map.mpr ⟨p, pm, e⟩)))
        · refine wp_if_neg (by simp [e]) ?_
          try refine wpAny_bind (wpAny_pure ?_)
          rw [sameMem]
          dsimp only
          have live : t.slot (way t.mask (knd.hash k) (c + q)) = .live i := slot_live R.tab.ris hi
          simp only [if_true, live, R.at hp]
          refine wpAny_bind (wpAny_isSame_ref_self (wpAny_bind (wpAny_pure ?_)))
          simp only [if_true]
          refine wp_if_neg (by simp [e]) (ih (c + (q + 1)) _ rfl (by omega) (by omega) fun i0 p0 h0 k0 => ?_)
          obtain ⟨c', a1, a2, a3⟩ := hre i0 p0 h0 k0
          refine ⟨c', ?_, a2, a3⟩
          rcases Nat.lt_trichotomy c' (c + q) with z | z | z
          · refine (hno (c' - c) i0 (by omega) ?_ ((gh h0).trans (congrArg knd.hash k0))).elim
            rw [wj, show c + (c' - c) = c' by omega]
            exact a3
          · have s0 := slot_live R.tab.ris a3
            rw [z, live] at s0
            cases s0
            rw [hp] at h0
            cases h0
            exact (e k0).elim
          · omega
      refine if l : t.led = true then ?_ else ?_
      · refine wp_if_neg (by simp [l]) ?_
        try refine wpAny_bind (wpAny_pure ?_)
        exact go
      · refine wp_if_pos (by simp [l]) ?_
        refine wpAny_bind (T.seen hx ?_ _ fun y hy => ?_)
        · refine wp_if_neg (by decide) ?_
          try refine wpAny_bind (wpAny_pure ?_)
          exact go
        · obtain ⟨e, he, ee⟩ := List.mem_map.mp hy
          have he2 : e ∈ es.toList := by
            have : e ∈ es ∧ e.1 = knd.hash k := by simpa using he
            simpa using this.1
          rw [R.ent] at he2
          obtain ⟨p2, m2, e2⟩ := List.mem_map.mp he2
          exact ⟨p2.2, p2.1, by rw [← ee, ← e2], ks p2 m2⟩
    · -- none: the free place
      have hpr2 : t.probe (fun i => (es[i]?.map (·.1)).getD 0) (knd.hash k) (stand.getD (t.probeStart (knd.hash k))) = some (.empty (way t.mask (knd.hash k) K) none) := by
        have e2 := wj (K - c)
        rw [hKc] at e2
        rw [hst, ← e2]
        exact hpr
      rw [hpr2]
      dsimp only
      refine wpAny_pure (hout fun hm => ?_)
      obtain ⟨p0, h0, k0⟩ := List.mem_map.mp hm
      obtain ⟨i0, h00⟩ := List.mem_iff_getElem?.mp h0
      obtain ⟨c', a1, a2, a3⟩ := hre i0 p0 h00 k0
      refine hno (c' - c) i0 (by omega) ?_ ((gh h00).trans (congrArg knd.hash k0))
      rw [wj, show c + (c' - c) = c' by omega]
      exact a3
theorem find_at (T : Kept knd) (R : Obj1 knd s.heap a L o es ep t) (ks : ∀ p ∈ L, knd.is s.heap p.2 p.1) {x : Addr} {k : κ} (hx : knd.is s.heap k x) (hu : knd.room A) {Q : SetFound → Shared → Prop}
    (hin : k ∈ L.map (·.2) → Q (.there none) s)
    (hout : ∀ K, k ∉ L.map (·.2) → way t.mask (knd.hash k) K ∉ t.place.toList → (∀ c, c < K → way t.mask (knd.hash k) c ∈ t.place.toList) → Q (.free (way t.mask (knd.hash k) K) false) s) :
    wpAny (model P w) A (setSearch a (.ref x) (knd.hash k) true) Q E s := by
  have hr := R.room
  obtain ⟨K, hKf, hK, hKb⟩ := R.tab.first (by unfold hashes; rw [List.length_map]; omega) (knd.hash k)
  have big : K < 100000 := by
    unfold SetTable.turns at hKf
    rcases R.tab.mok with e | e | e <;> rw [e] at hKf <;> omega
  unfold setSearch
  refine find_from T R ks hx hu hKf hK hKb hin (fun hn => hout K hn hK hKb) 100000 0 none rfl (Nat.zero_le _) (by omega) fun i p hp hk => ?_
  have h1 : (hashes knd L)[i]? = some (knd.hash k) := by
    unfold hashes
    rw [List.getElem?_map, hp, ← hk]
    rfl
  have h2 : i < t.place.toList.length := by
    rw [R.psz]
    exact (List.getElem?_eq_some_iff.mp hp).1
  have h3 := List.getElem?_eq_getElem h2
  obtain ⟨c, hc, e⟩ := R.tab.before hK h1 h3
  exact ⟨c, Nat.zero_le _, hc, by rw [h3, e]⟩
end
end FSt
namespace FSt
open PySem PySem.Spec PyProof.Rows L2
section
variable {P : Program} {w : World} {κ : Type} [DecidableEq κ] {knd : HeapKind P w κ} {A : Around} {E : Value → Shared → Prop} {s : Shared}
variable {a : Addr} {L : List (Addr × κ)} {o : Obj} {es : Array (Int × Value)} {ep : Nat} {t : SetTable}
theorem mid_perm {α : Type} (L : List α) (p : Nat) (x : α) : (L.take p ++ x :: L.drop p).Perm (x :: L) := by
  have e := List.take_append_drop p L
  refine List.perm_middle.trans ?_
  rw [e]
theorem filt_congr {α β : Type} {f g : α → Option β} : ∀ {l : List α}, (∀ x ∈ l, f x = g x) → l.filterMap f = l.filterMap g
  | [], _ => rfl
  | x :: l, h => by
    rw [List.filterMap_cons, List.filterMap_cons, h x (.head _), filt_congr fun y hy => h y (.tail _ hy)]
theorem filt_ix {α : Type} (L : List α) : (List.range L.length).filterMap (fun i => L[i]?) = L := by
  apply List.ext_getElem?
  have key : ∀ n, n ≤ L.length → (List.range n).filterMap (fun i => L[i]?) = L.take n := fun n => by
    induction n with
    | zero => exact fun _ => rfl
    | succ n ih =>
      intro hn
      rw [List.range_succ, List.filterMap_append, ih (by omega), List.take_add_one, List.getElem?_eq_getElem (show n < L.length by omega)]
      simp [List.getElem?_eq_getElem (show n < L.length by omega)]
  intro i
  rw [key _ (Nat.le_refl _), List.take_length]
/-- entries laid anew in another order -/
theorem ents_order (L : List (Addr × κ)) (es : Array (Int × Value)) (ord : List Nat) (hr : es.toList = ents knd L) (hp : ord.Perm (List.range L.length)) :
    ∃ L2, ord.filterMap (fun i => es[i]?) = ents knd L2 ∧ L2.Perm L ∧ hashes knd L2 = ord.map fun i => (es.map (·.1)).getD i 0 := by
  have at_ : ∀ i (h : i < L.length), es[i]? = some (knd.hash (L[i]).2, Value.ref (L[i]).1) := fun i h => by
    rw [← Array.getElem?_toList, hr]
    exact ents_get (List.getElem?_eq_getElem h)
  have lt_ : ∀ i ∈ ord, i < L.length := fun i hi => List.mem_range.mp (hp.mem_iff.mp hi)
  refine ⟨ord.filterMap fun i => L[i]?, ?_, ?_, ?_⟩
  · unfold ents
    rw [List.map_filterMap]
    refine filt_congr fun i hi => ?_
    rw [at_ i (lt_ i hi), List.getElem?_eq_getElem (lt_ i hi)]
    rfl
  · have := hp.filterMap fun i => L[i]?
    rw [filt_ix] at this
    exact this
  · unfold hashes
    rw [List.map_filterMap]
    have e1 : ord.filterMap (fun i => (L[i]?).map fun p => knd.hash p.2) = ord.filterMap (fun i => some ((es.map (·.1)).getD i 0)) := by
      refine filt_congr fun i hi => ?_
      rw [List.getElem?_eq_getElem (lt_ i hi)]
      have e5 : (es.map (·.1))[i]? = some (knd.hash (L[i]'(lt_ i hi)).2) := by rw [Array.getElem?_map, at_ i (lt_ i hi)]; rfl
      simp [Array.getD_eq_getD_getElem?, e5]
    rw [e1]
    simp
/-- the table is laid anew, larger -/
theorem relay (T : Kept knd) (ho : s.heap.get? a = some o) (hex : o.ExactSet) (hd : o.data = .set es ep t) (hr : es.toList = ents knd L) (hsz : t.place.size = L.length) (hdm : t.dummies = #[]) (hfl : L.length ≤ t.mask)
    (nd : (L.map (·.2)).Nodup) (ld : w.params.followText "set-order" = true ∨ t.led = true) (few : L.length < 64) {wanted M : Nat}
    (hw : SetTable.sizeAbove wanted - 1 = M) (hM : MaskOk M) (hw2 : SetTable.sizeAbove wanted ≤ 128) (hn : L.length * 5 < M * 3) {Q : Unit → Shared → Prop}
    (q : ∀ h' L', Heap.SameBut a s.heap h' → SetK knd h' a L' → L'.Perm L → Q () { s with heap := h' }) : wpAny (model P w) A (setRelay a wanted) Q E s := by
  have hes : es.size = L.length := by rw [← Array.length_toList, hr, ents_len]
  have hf : t.fits es.size = true := by
    unfold SetTable.fits SetTable.fill
    rw [hdm, Bool.and_eq_true, beq_iff_eq, decide_eq_true_eq]
    exact ⟨hsz.trans hes.symm, by show t.place.size + 0 ≤ t.mask; omega⟩
  obtain ⟨t', ord, e, hp, TT, em, el, _, _⟩ := relaid_ok t (hs := es.map (·.1)) (wanted := wanted) hw hM (by rw [Array.size_map, hes]; omega)
  rw [Array.size_map, hes] at hp
  obtain ⟨L2, r1, r2, r3⟩ := ents_order L es ord.toList hr hp
  rw [← r3] at TT
  have r1' : (ord.filterMap (es[·]?)).toList = ents knd L2 := by
    rw [Array.toList_filterMap]
    exact r1
  have hs2 : (ord.filterMap (es[·]?)).size = es.size := by rw [← Array.length_toList, r1', ents_len, r2.length_eq, hes]
  rw [setRelay_eq]
  refine wpAny_bind (wpAny_setState_of ho hd hf ?_)
  dsimp only
  refine wp_if_neg (by rw [sizeLine_eq]; omega) ?_
  try refine wpAny_bind (wpAny_pure ?_)
  rw [e]
  dsimp only
  refine wpAny_bind (wp_if_neg (by rw [hs2]; simp) ?_)
  try refine wpAny_bind (wpAny_pure ?_)
  refine wpAny_pure ?_
  dsimp only
  refine wpAny_storeSet_of ho hd ?_ (by rw [hs2, hes, sizeLine_eq]; omega)
  refine q _ L2 (Heap.SameBut.update ..) ⟨_, _, _, _, store_at ho hd, ⟨hex.1, hex.2.1, hex.2.2⟩, rfl, r1', TT, (r2.map (·.2)).nodup_iff.mpr nd, el.symm ▸ ld, ?_, by rw [r2.length_eq]; exact few⟩ r2
  rw [r2.length_eq, em]
  exact hn
theorem wp_two {α β : Type} {M : Model} {c : Prop} [Decidable c] {x y : Sem α} {f : α → Sem β} {Q : β → Shared → Prop} (hx : c → ∀ Q' : α → Shared → Prop, (∀ v, Q' v s) → wpAny M A x Q' E s) (hy : ¬ c → ∀ Q' : α → Shared → Prop, (∀ v, Q' v s) → wpAny M A y Q' E s)
    (h : ∀ v, wpAny M A (f v) Q E s) : wpAny M A (if c then x >>= f else y >>= f) Q E s := by
  by_cases hc : c
  · exact wp_if_pos hc (wpAny_bind (hx hc _ h))
  · exact wp_if_neg hc (wpAny_bind (hy hc _ h))
/-- one is added -/
theorem add1 (T : Kept knd) (R : SetK knd s.heap a L) (ks : ∀ p ∈ L, knd.is s.heap p.2 p.1) {x : Addr} {k : κ} (hx : knd.is s.heap k x) (hu : knd.room A) (few : L.length + 1 < 64) {Q : Bool → Shared → Prop}
    (q : ∀ b h' L', Heap.SameBut a s.heap h' → SetK knd h' a L' → (k ∈ L.map (·.2) → L' = L) → (k ∉ L.map (·.2) → L'.Perm ((x, k) :: L)) → Q b { s with heap := h' }) :
    wpAny (model P w) A (setAddHashed a (.ref x) (knd.hash k)) Q E s := by
  obtain ⟨o, es, ep, t, R⟩ := R
  have hsl := R.size
  have hroom := R.room
  unfold setAddHashed
  refine wpAny_holding ?_
  rw [show (100000 : Nat) = 99999 + 1 from rfl, setAddHashedIn_succ]
  refine wpAny_bind (wpAny_setState_of R.get R.dat R.fits ?_)
  dsimp only
  refine wp_if_neg (by simp [byScan, Value.scannable]) ?_
  try refine wpAny_bind (wpAny_pure ?_)
  refine wpAny_bind (find_at T R ks hx hu (fun hm => ?_) fun K hm hK hb => ?_)
  · dsimp only
    exact wpAny_pure (q false s.heap L (Heap.SameBut.refl a s.heap) ⟨o, es, ep, t, R⟩ (fun _ => rfl) fun z => (z hm).elim)
  dsimp only
  refine wpAny_bind (wpAny_setState_of R.get R.dat R.fits ?_)
  dsimp only
  obtain ⟨q1, q2, q3, q4, q5, _, _, _, q9⟩ := R.tab.put hK hb
  have hl : (hashes knd L).length = L.length := List.length_map ..
  rw [hl] at q2 q9
  generalize ej : way t.mask (knd.hash k) K = j at q1 q2 q3 q4 q5 q9 ⊢
  generalize t.put j = pt at q1 q3 q4 q5 q9 ⊢
  obtain ⟨t0, p⟩ := pt
  dsimp only at q1 q3 q4 q5 q9 ⊢
  generalize SetTable.below t.place j = p0 at q1 q2 q3
  subst q1
  have some_ : ∀ b : Bool, ∃ t1 : SetTable, (if b = true then t0 else { t0 with plain := false }) = t1 ∧ TabOk t1 ((hashes knd L).take p ++ knd.hash k :: (hashes knd L).drop p) ∧ t1.mask = t.mask ∧ t1.led = t.led ∧ t1.fill = L.length + 1 := fun b => by
    cases b with
    | true => exact ⟨t0, if_pos rfl, q3, q4, q5, q9⟩
    | false => exact ⟨_, if_neg Bool.false_ne_true, ⟨q3.ris, q3.dm, q3.sz, q3.mok, q3.bd, q3.reach⟩, q4, q5, q9⟩
  clear q3 q4 q5 q9
  refine wp_two (fun _ _ hq => T.byv hx hq) (fun _ _ hq => wpAny_pure (hq _)) fun bv => ?_
  obtain ⟨t1, e1, q3, q4, q5, q9⟩ := some_ bv
  rw [e1]
  have pm := mid_perm L p (x, k)
  have hlen : (L.take p ++ (x, k) :: L.drop p).length = L.length + 1 := pm.length_eq
  have hent : (SetTable.insertAt es p (knd.hash k, Value.ref x)).toList = ents knd (L.take p ++ (x, k) :: L.drop p) := by
    rw [SetTable.toList_insertAt, R.ent]
    unfold ents
    rw [List.map_append, List.map_cons, List.map_take, List.map_drop]
  have q3' : TabOk t1 (hashes knd (L.take p ++ (x, k) :: L.drop p)) := by
    have e : hashes knd (L.take p ++ (x, k) :: L.drop p) = (hashes knd L).take p ++ knd.hash k :: (hashes knd L).drop p := by
      unfold hashes
      rw [List.map_append, List.map_cons, List.map_take, List.map_drop]
    rw [e]
    exact q3
  have nd1 : ((L.take p ++ (x, k) :: L.drop p).map (·.2)).Nodup := by
    refine (pm.map (·.2)).nodup_iff.mpr ?_
    exact List.nodup_cons.mpr ⟨hm, R.nd⟩
  generalize SetTable.insertAt es p (knd.hash k, Value.ref x) = es1 at hent ⊢
  generalize L.take p ++ (x, k) :: L.drop p = L1 at pm hlen q3' nd1 hent
  have hes1 : es1.size = L.length + 1 := by rw [← Array.length_toList, hent, ents_len, hlen]
  refine wpAny_bind (wpAny_storeSet_of R.get R.dat ?_ (by rw [hes1, sizeLine_eq]; omega))
  have sb : Heap.SameBut a s.heap (s.heap.update a (Obj.putSet es1 t1)) := Heap.SameBut.update ..
  have ho1 := store_at (es' := es1) (t' := t1) R.get R.dat
  generalize s.heap.update a (Obj.putSet es1 t1) = h1 at sb ho1 ⊢
  have ld1 : w.params.followText "set-order" = true ∨ t1.led = true := by rw [q5]; exact R.ld
  have psz : t1.place.size = L1.length := by
    rw [q3'.sz]
    exact List.length_map ..
  refine if hf : t1.tooFull = true then ?_ else ?_
  · have full : (L.length + 1) * 5 ≥ t1.mask * 3 := by
      have h := hf
      unfold SetTable.tooFull at h
      rwa [decide_eq_true_eq, q9] at h
    rw [q4] at full
    have two : (t.mask = 7 ∧ L.length = 4) ∨ (t.mask = 31 ∧ L.length = 18) := by
      rcases R.tab.mok with e | e | e <;> rw [e] at full hroom
      · exact .inl ⟨e, by omega⟩
      · exact .inr ⟨e, by omega⟩
      · omega
    have go : ∀ M, SetTable.sizeAbove (SetTable.grown (es.size + 1)) - 1 = M → MaskOk M → SetTable.sizeAbove (SetTable.grown (es.size + 1)) ≤ 128 → (L.length + 1) * 5 < M * 3 →
        wpAny (model P w) A (setRelay a (SetTable.grown (es.size + 1))) (fun _ s' => wpAny (model P w) A (pure true) Q E s') E { s with heap := h1 } := fun M m1 m2 m3 m4 => by
      refine relay (s := { s with heap := h1 }) T ho1 ⟨R.ex.1, R.ex.2.1, R.ex.2.2⟩ rfl hent psz q3'.dm (by rw [hlen, q4]; omega) nd1 ld1 (by omega) m1 m2 m3 (by omega) fun h2 L2 sb2 R2 pm2 => ?_
      exact wpAny_pure (q true h2 L2 (sb.trans sb2) R2 (fun z => (hm z).elim) fun _ => pm2.trans pm)
    have go2 : wpAny (model P w) A (setRelay a (SetTable.grown (es.size + 1))) (fun _ s' => wpAny (model P w) A (pure true) Q E s') E { s with heap := h1 } := by
      rcases two with ⟨_, e2⟩ | ⟨_, e2⟩
      · exact go 31 (by rw [hsl, e2, size_20]) (.inr (.inl rfl)) (by rw [hsl, e2, size_20]; decide) (by omega)
      · exact go 127 (by rw [hsl, e2, size_76]) (.inr (.inr rfl)) (by rw [hsl, e2, size_76]; decide) (by omega)
    first
      | exact wpAny_bind (wp_if_pos (by simp [hf]) go2)
      | exact wp_if_pos (by simp [hf]) (wpAny_bind go2)
  · have roomy : L1.length * 5 < t1.mask * 3 := by
      have h := hf
      unfold SetTable.tooFull at h
      rw [decide_eq_true_eq, q9] at h
      omega
    have fin := q true h1 L1 sb ⟨_, _, _, _, ho1, ⟨R.ex.1, R.ex.2.1, R.ex.2.2⟩, rfl, hent, q3', nd1, ld1, roomy, by omega⟩ (fun z => (hm z).elim) fun _ => pm
    first
      | exact wp_if_neg (by simp [hf]) (wpAny_pure fin)
      | exact wpAny_bind (wp_if_neg (by simp [hf]) (wpAny_pure (wpAny_pure fin)))
      | exact wpAny_bind (wp_if_neg (by simp [hf]) (wpAny_pure fin))
end
end FSt
namespace FSt
open PySem PySem.Spec PyProof.Rows L2
structure Fill (P : Program) (w : World) (A : Around) (S : Addr) (n : Nat) (Y : Nat → Value → Prop) (h0 : Heap) (G : Nat → Heap → Prop) : Prop where
  keep : ∀ i h h', G i h → (∀ o, h.get? S = some o → h'.get? S = some o) → G i h'
  add : ∀ i v (s : Shared) (Q : Bool → Shared → Prop) (E : Value → Shared → Prop), i < n → Y i v → (∀ b o, h0.get? b = some o → s.heap.get? b = some o) → G i s.heap →
    (∀ b h' tk, s.toks ≤ tk → Heap.SameBut S s.heap h' → G (i + 1) h' → Q b { s with heap := h', toks := tk }) → wpAny (model P w) A (setAdd S v) Q E s
section
variable {P : Program} {w : World} {A : Around} {E : Value → Shared → Prop} {s : Shared}
theorem fill_loop {I : Addr} {fp wr : List Addr} {GG : Array GenState → Array GenState → Prop} {n : Nat} {Y : Nat → Value → Prop} {St : Nat → Shared → Prop} {R : Result → Shared → Prop} {S : Addr} {h0 : Heap} {G : Nat → Heap → Prop}
    (W : WalksS P w A.in1 I fp wr GG n Y St) (hSf : S ∉ fp) (FF : Fill P w A.in1 S n Y h0 G) (hS0 : h0.get? S = none) (hw0 : ∀ b ∈ wr, h0.get? b = none) :
    ∀ (k i : Nat) (s : Shared), n - i = k → i ≤ n → St i s → (∀ b o, h0.get? b = some o → s.heap.get? b = some o) → G i s.heap →
      (∀ s', Moved (S :: wr) GG s s' → G n s'.heap → (∀ b o, h0.get? b = some o → s'.heap.get? b = some o) → R (.ok (.ret .none)) s') → codeAny (model P w) A (.builtin "set.update.loop" ⟨[.ref S, .ref I], []⟩) R s := by
  have hSw : S ∉ wr := fun z => hSf (W.sub _ z)
  have wider : ∀ b ∈ wr, b ∈ S :: wr := fun b hb => .tail _ hb
  have kept : ∀ {s s' : Shared}, Moved wr GG s s' → (∀ b o, h0.get? b = some o → s.heap.get? b = some o) → ∀ b o, h0.get? b = some o → s'.heap.get? b = some o := fun m hk b o e =>
    m.heap b o (fun hb => by rw [hw0 b hb] at e; cases e) (hk b o e)
  intro k
  induction k with
  | zero =>
    intro i s hk hi hst h0s g r
    obtain rfl : i = n := by omega
    refine codeAny_builtin F.entry_set_update_loop ?_
    rw [Around.under_plainId F.plain_set_update_loop _]
    show wpAny _ A.in1 (pyNext (.ref I) >>= _) _ _ s
    refine wpAny_bind (W.done s _ _ hst fun s' m => ?_)
    exact wpAny_pure (r s' (m.mono wider) (FF.keep _ _ _ g fun o e => m.heap S o hSw e) (kept m h0s))
  | succ k ih =>
    intro i s hk hi hst h0s g r
    have hlt : i < n := by omega
    refine codeAny_builtin F.entry_set_update_loop ?_
    rw [Around.under_plainId F.plain_set_update_loop _]
    show wpAny _ A.in1 (pyNext (.ref I) >>= _) _ _ s
    refine wpAny_bind (W.item i s _ _ hlt hst fun v s' y hst' m => ?_)
    show wpAny _ A.in1 (holding [v] (setAdd S v) >>= _) _ _ s'
    refine wpAny_bind (wpAny_holding ?_)
    have h0s' := kept m h0s
    refine FF.add i v s' _ _ hlt y h0s' (FF.keep _ _ _ g fun o e => m.heap S o hSw e) fun b h' tk le sb g' => ?_
    have ne : ∀ c, c ∈ fp → c ≠ S := fun c hc z => hSf (z ▸ hc)
    refine wpAny_pure ⟨plainId_quiet F.plain_set_update_loop _, ih (i + 1) _ (by omega) hlt (W.frame _ s' _ _ hst' le fun c hc o e => (sb.2 c (ne c hc)).trans e) (fun c o e => (sb.2 c fun z => by rw [z, hS0] at e; cases e).trans (h0s' c o e)) g' fun s'' m2 g2 k2 => ?_⟩
    exact r s'' (Moved.trans W.gtrans ((m.mono wider).then_heap le fun c o hc e => (sb.2 c fun z => hc (z ▸ .head _)).trans e) m2) g2 k2
set_option maxHeartbeats 8000000 in
/-- set(v) of a list or a tuple -/
theorem call_fill {l : Addr} {items : Array Value} {Q : Value → Shared → Prop} {G : Nat → Heap → Prop} (hh : A.handled = none) (hl : s.heap.IsList l items ∨ s.heap.IsTuple l items)
    (g0 : ∀ h : Heap, h.get? s.heap.objs.size = some { cls := .type "set", dict := none, data := .set #[] 0 (.fresh 0 0 (!w.params.followText "set-order")) } → G 0 h)
    (FF : Fill P w A.in1.in1.in1 s.heap.objs.size items.size (fun i v => items[i]? = some v) s.heap G)
    (q : ∀ h' tk, G items.size h' → (∀ b o, s.heap.get? b = some o → h'.get? b = some o) → Q (.ref s.heap.objs.size) { s with heap := h', toks := tk }) :
    wpAny (model P w) A (call (.type "set") [.ref l]) Q E s := by
  obtain ⟨c, tl, hmro⟩ := F.called_set.mro
  have hmade := F.called_set.made
  have hsub := F.called_set.sub
  refine wpAny_call (codeAny_of_tree ?_)
  show wpAny _ _ (callAny (.type "set") _) _ _ _
  refine wpAny_pure ⟨Code.quiet_builtin _ (by decide +kernel), codeAny_builtin F.entry_type_call ?_⟩
  rw [Around.under_plain (weight_type_call_type "set" [.ref l] []) rfl]
  have u1 := F.called_set.notType
  have u2 := F.called_set.canCreate
  have u3 := F.typeCall_set_1 (.ref l)
  repeat (any_goals (first | assumption | wp_step))
  refine codeAny_mono (code_set_led1 (.ref l) (E := E) (Q₁ := fun v s1 => v = .ref s.heap.objs.size ∧ s1 = { s with heap := s.heap.push { cls := .type "set", dict := none, data := .set #[] 0 (.fresh 0 0 (!w.params.followText "set-order")) } }) ⟨rfl, rfl⟩) fun r s1 hr => ?_
  rcases r with e | f
  · exact hr
  have hr := hr
  obtain ⟨v, rfl⟩ : ∃ v, f = .ret v := by
    cases f with
    | ret v => exact ⟨v, rfl⟩
    | _ => exact hr.elim
  obtain ⟨rfl, rfl⟩ := hr
  have hS : (s.heap.push { cls := .type "set", dict := none, data := .set #[] 0 (.fresh 0 0 (!w.params.followText "set-order")) }).get? s.heap.objs.size = some { cls := .type "set", dict := none, data := .set #[] 0 (.fresh 0 0 (!w.params.followText "set-order")) } := Heap.get?_push_size _ rfl
  generalize hN : s.heap.push { cls := .type "set", dict := none, data := .set #[] 0 (.fresh 0 0 (!w.params.followText "set-order")) } = hp at hS
  have hT : Shared.TypeIs { s with heap := hp } (.ref s.heap.objs.size) "set" := ⟨_, hS, rfl⟩
  have up : ∀ b o, s.heap.get? b = some o → hp.get? b = some o := fun b o e => hN ▸ Heap.get?_push_of_some _ e
  have hsz : hp.objs.size = s.heap.objs.size + 1 := by rw [← hN, Heap.size_push]
  have u4 := F.called_set.init.lookup
  have u5 := F.called_set.init.bind (.ref s.heap.objs.size)
  repeat (any_goals (first | assumption | wp_step))
  refine codeAny_mono (codeAny_call_builtin (R := wants (fun r s2 => r = .none ∧ ∃ h' tk, s2 = { s with heap := h', toks := tk } ∧ G items.size h' ∧ ∀ b o, s.heap.get? b = some o → h'.get? b = some o) E) F.called_set.init.plain F.entry_set_init (check_set_init_1 hT ?_)) fun r s2 hr => ?_
  · have big : l < s.heap.objs.size := by
      rcases hl with ⟨o, ho, _⟩ | ⟨o, ho, _⟩
      · exact Heap.lt_size ho
      · exact Heap.lt_size ho
    have none_ : ∀ b, s.heap.objs.size ≤ b → s.heap.get? b = none := fun b hb => by
      cases z : s.heap.get? b with
      | none => rfl
      | some o => exact absurd (Heap.lt_size z) (Nat.not_lt.mpr hb)
    have hh3 : A.in1.in1.in1.handled = none := by simp [hh]
    have lne : l ≠ hp.objs.size := hsz ▸ Nat.ne_of_lt (Nat.lt_succ_of_lt big)
    have loop : ∀ {St : Nat → Shared → Prop} {s3 : Shared} {E3 : Value → Shared → Prop}, WalksS P w A.in1.in1.in1 hp.objs.size [hp.objs.size, l] [hp.objs.size] (fun a b => b = a) items.size (fun i v => items[i]? = some v) St → St 0 s3 →
        (∀ b o, hp.get? b = some o → s3.heap.get? b = some o) → s3.gens = s.gens → s3.drawn = s.drawn → s3.os = s.os →
        codeAny (model P w) A.in1.in1 (.builtin "set.update.loop" ⟨[.ref s.heap.objs.size, .ref hp.objs.size], []⟩) (wants (fun r s2 => r = .none ∧ ∃ h' tk, s2 = { s with heap := h', toks := tk } ∧ G items.size h' ∧ ∀ b o, s.heap.get? b = some o → h'.get? b = some o) E3) s3 := fun {St s3 E3} W st k3 e1 e2 e3 => by
      refine fill_loop W ?_ FF (none_ _ (Nat.le_refl _)) (fun b hb => none_ b ?_) (items.size - 0) 0 s3 rfl (Nat.zero_le _) st (fun b o e => k3 b o (up b o e)) (g0 _ (k3 _ _ hS)) fun s4 m g4 k4 => ?_
      · simp only [List.mem_cons, List.not_mem_nil, or_false, not_or]
        exact ⟨hsz ▸ Nat.ne_of_lt (Nat.lt_succ_self _), Nat.ne_of_gt big⟩
      · rw [List.mem_singleton.mp hb, hsz]
        exact Nat.le_succ _
      · obtain ⟨h4, g, d, tk, os⟩ := s4
        have f1 : g = s3.gens := m.gens
        have f2 : d = s3.drawn := m.drawn
        have f3 : os = s3.os := m.os
        subst f1 f2 f3
        exact ⟨rfl, h4, tk, by rw [e1, e2, e3], g4, k4⟩
    obtain ⟨T, hTT, oT, hoT, hcT, v1, v2, v3⟩ : ∃ T : String, (T = "list" ∧ s.heap.IsList l items ∨ T = "tuple" ∧ s.heap.IsTuple l items) ∧ ∃ oT, hp.get? l = some oT ∧ oT.cls = .type T ∧ isSubtype (.type T) (.type "set") = pure false ∧ isSubtype (.type T) (.type "frozenset") = pure false ∧ (Value.type T == Value.type "dict") = false := by
      rcases hl with ⟨o, ho, hc, z⟩ | ⟨o, ho, hc, z⟩
      · exact ⟨"list", .inl ⟨rfl, o, ho, hc, z⟩, o, up _ _ ho, hc, F.sub_list_set, F.sub_list_frozenset, by decide⟩
      · exact ⟨"tuple", .inr ⟨rfl, o, ho, hc, z⟩, o, up _ _ ho, hc, F.sub_tuple_set, F.sub_tuple_frozenset, by decide⟩
    obtain ⟨ocls, odict, odata, oslots⟩ := oT
    simp only at hcT
    subst hcT
    unfold Builtin.«set.__init__» noKeywords Builtin.Frozenset.updateFrom
    generalize hPI : pyIter = PI
    wp_walk
    subst hPI
    rcases hTT with ⟨rfl, hl⟩ | ⟨rfl, hl⟩
    · have hl1 : hp.IsList l items := by
        obtain ⟨o, ho, z⟩ := hl
        exact ⟨o, up _ _ ho, z⟩
      refine wpAny_pyIter_list hl1 ?_
      refine wpAny_bind (wpAny_runValue ?_)
      refine codeAny_mono (loop (E3 := fun _ _ => False) ((Walks.list hh3 hp.objs.size l lne items).toS) ⟨⟨_, Heap.get?_push_size _ rfl, rfl, rfl⟩, hl1.push _⟩ (fun b o e => Heap.get?_push_of_some _ e) rfl rfl rfl) fun r s5 h5 => ?_
      rcases r with e | f
      · exact h5.elim
      cases f with
      | ret v => exact wpAny_pure (wpAny_pure ⟨rfl, h5.2⟩)
      | _ => exact h5.elim
    · have hl1 : hp.IsTuple l items := by
        obtain ⟨o, ho, z⟩ := hl
        exact ⟨o, up _ _ ho, z⟩
      refine wpAny_pyIter_tuple hl1 ?_
      refine wpAny_bind (wpAny_runValue ?_)
      refine codeAny_mono (loop (E3 := fun _ _ => False) ((Walks.tuple hh3 hp.objs.size l lne items).toS) ⟨⟨_, Heap.get?_push_size _ rfl, rfl, rfl⟩, hl1.push _⟩ (fun b o e => Heap.get?_push_of_some _ e) rfl rfl rfl) fun r s5 h5 => ?_
      rcases r with e | f
      · exact h5.elim
      cases f with
      | ret v => exact wpAny_pure (wpAny_pure ⟨rfl, h5.2⟩)
      | _ => exact h5.elim
  · rcases r with e | f
    · exact hr
    obtain ⟨v, rfl⟩ : ∃ v, f = .ret v := by
      cases f with
      | ret v => exact ⟨v, rfl⟩
      | _ => exact hr.elim
    obtain ⟨rfl, h', tk, rfl, g, k⟩ := hr
    repeat (any_goals (first | assumption | wp_step))
    exact q h' tk g k
end
end FSt
namespace FSt
open PySem PySem.Spec PyProof.Rows L2
section
variable {P : Program} {w : World}
mutual
theorem cls_key : ∀ (k : NestedKey) (v : Value) (n : Nat) (s : Shared), NestedIs s.heap k v → k.depth ≤ n → ∀ (A : Around) (E : Value → Shared → Prop) (Q : Bool → Shared → Prop), Q false s → wpAny (model P w) A (ofAClassStatement n v) Q E s
  | .none, _, n, s, x, _, A, E, Q, q => by
    cases x
    cases n <;> exact wpAny_pure q
  | .num i, _, n, s, x, _, A, E, Q, q => by
    cases x <;> cases n <;> exact wpAny_pure q
  | .text y, _, n, s, x, _, A, E, Q, q => by
    cases x
    cases n <;> exact wpAny_pure q
  | .tup ks, _, n, s, x, hn, A, E, Q, q => by
    cases x with
    | @tup a o vs m _ hg hc hd hk =>
      simp only [NestedKey.depth] at hn
      have hT : s.TypeIs (.ref a) "tuple" := ⟨o, hg, hc⟩
      cases n with
      | zero => omega
      | succ n =>
        unfold ofAClassStatement
        refine wpAny_bind (wpAny_typeOf hT ?_)
        dsimp only
        have e : (("tuple" : String) == "tuple") = true := by decide
        simp only [e, if_true, Bool.not_true, Bool.false_eq_true, if_false]
        try refine wpAny_bind (wpAny_pure ?_)
        try simp only [Bool.not_true, Bool.false_eq_true, if_false]
        show wpAny _ _ (seqItems? (.ref a) >>= _) _ _ s
        refine wpAny_bind (wpAny_seqItems hg hd ?_)
        dsimp only
        refine wpAny_bind ?_
        show wpAny _ _ (forIn vs _ _) _ _ s
        rw [← Array.forIn_toList]
        have each := cls_keys ks _ n s hk (by omega)
        refine wpAny_forIn_list _ (fun l r s' => s' = s ∧ r.1 = none ∧ ∀ u ∈ l, u ∈ vs.toList) _ (fun u l r s' hI => ?_) (fun r s' hI => ?_) _ _ ⟨rfl, rfl, fun _ h => h⟩
        · obtain ⟨rfl, hr, hall⟩ := hI
          refine wpAny_bind (each u (hall u (.head _)) _ _ _ ?_)
          simp only [Bool.false_eq_true, if_false]
          exact wpAny_pure ⟨rfl, rfl, fun z hz => hall z (.tail _ hz)⟩
        · obtain ⟨r1, r2⟩ := r
          obtain ⟨rfl, hr, _⟩ := hI
          simp only at hr
          subst hr
          exact wpAny_pure q
theorem cls_keys : ∀ (ks : List NestedKey) (vs : List Value) (n : Nat) (s : Shared), NestedAll s.heap ks vs → NestedKey.depthAll ks ≤ n → ∀ v ∈ vs, ∀ (A : Around) (E : Value → Shared → Prop) (Q : Bool → Shared → Prop), Q false s → wpAny (model P w) A (ofAClassStatement n v) Q E s
  | [], _, n, s, x, _, v, hv => by cases x; cases hv
  | k :: ks, _, n, s, x, hn, v, hv => by
    cases x with
    | cons x1 x2 =>
      simp only [NestedKey.depthAll] at hn
      rcases List.mem_cons.mp hv with e | hv
      · rw [e]
        exact cls_key k _ n s x1 (by omega)
      · exact cls_keys ks _ n s x2 (by omega) v hv
end
mutual
theorem byv_key : ∀ (k : NestedKey) (v : Value) (n : Nat) (s : Shared), NestedIs s.heap k v → ∀ (A : Around) (E : Value → Shared → Prop) (Q : Bool → Shared → Prop), (∀ b, Q b s) → wpAny (model P w) A (hashByValue n v) Q E s
  | .none, _, n, s, x, A, E, Q, q => by
    cases x
    cases n <;> exact wpAny_pure (q _)
  | .num i, _, n, s, x, A, E, Q, q => by
    cases x <;> cases n <;> exact wpAny_pure (q _)
  | .text y, _, n, s, x, A, E, Q, q => by
    cases x
    cases n <;> exact wpAny_pure (q _)
  | .tup ks, _, n, s, x, A, E, Q, q => by
    cases x with
    | @tup a o vs m _ hg hc hd hk =>
      have hT : s.TypeIs (.ref a) "tuple" := ⟨o, hg, hc⟩
      cases n with
      | zero => exact wpAny_pure (q _)
      | succ n =>
        unfold hashByValue
        refine wpAny_bind (wpAny_specialOf hT F.slot_tuple_hash.lookup ?_)
        show wpAny _ _ (seqItems? (.ref a) >>= _) _ _ s
        refine wpAny_bind (wpAny_seqItems hg hd ?_)
        refine wpAny_bind ?_
        show wpAny _ _ (forIn vs _ _) _ _ s
        rw [← Array.forIn_toList]
        have each := byv_keys ks _ n s hk
        refine wpAny_forIn_list _ (fun l r s' => s' = s ∧ ∀ u ∈ l, u ∈ vs.toList) _ (fun u l r s' hI => ?_) (fun r s' hI => ?_) _ _ ⟨rfl, fun _ h => h⟩
        · obtain ⟨rfl, hall⟩ := hI
          refine wpAny_bind (each u (hall u (.head _)) _ _ _ fun b => ?_)
          cases b
          · simp only [Bool.not_false, if_true]
            exact wpAny_pure (wpAny_pure (q _))
          · simp only [Bool.not_true, Bool.false_eq_true, if_false]
            exact wpAny_pure ⟨rfl, fun z hz => hall z (.tail _ hz)⟩
        · obtain ⟨r1, r2⟩ := r
          obtain ⟨rfl, _⟩ := hI
          cases r1
          · exact wpAny_pure (q _)
          · exact wpAny_pure (q _)
theorem byv_keys : ∀ (ks : List NestedKey) (vs : List Value) (n : Nat) (s : Shared), NestedAll s.heap ks vs → ∀ v ∈ vs, ∀ (A : Around) (E : Value → Shared → Prop) (Q : Bool → Shared → Prop), (∀ b, Q b s) → wpAny (model P w) A (hashByValue n v) Q E s
  | [], _, n, s, x, v, hv => by cases x; cases hv
  | k :: ks, _, n, s, x, v, hv => by
    cases x with
    | cons x1 x2 =>
      rcases List.mem_cons.mp hv with e | hv
      · rw [e]
        exact byv_key k _ n s x1
      · exact byv_keys ks _ n s x2 v hv
end
theorem keptN : Kept (nestedKind P w) where
  stays := fun k x => nestedKind_stays.stays k x
  cls := fun {A E s k b Q} x q => cls_key k _ 8 s x.1 x.2 A E Q q
  byv := fun {A E s k b Q} x q => byv_key k _ 8 s x.1 A E Q q
end
structure SetV (w : World) (h : Heap) (a : Addr) (vs : List Value) : Prop where
  ob : ∃ o es ep t, h.get? a = some o ∧ o.ExactSet ∧ o.data = .set es ep t ∧ es.toList.map (·.2) = vs ∧ es.size < scanBound ∧ t.fits es.size = true ∧ Ris t.place.toList ∧ (w.params.followText "set-order" = true ∨ t.led = true)
theorem SetV.stay {w : World} {h h' : Heap} {a : Addr} {vs : List Value} (x : SetV w h a vs) (k : ∀ o, h.get? a = some o → h'.get? a = some o) : SetV w h' a vs := by
  obtain ⟨o, es, ep, t, ho, r⟩ := x.ob
  exact ⟨o, es, ep, t, k o ho, r⟩
/-- set(v) of nested tuples -/
def NkG (P : Program) (w : World) (items : Array Value) (S : Addr) (ks : List NestedKey) (i : Nat) (h : Heap) : Prop :=
  ∃ L : List (Addr × NestedKey), SetK (nestedKind P w) h S L ∧ (∀ p ∈ L, ∃ j : Nat, items[j]? = some (.ref p.1) ∧ ks[j]? = some p.2) ∧ (∀ k, k ∈ L.map (·.2) ↔ k ∈ ks.take i) ∧ L.length ≤ i
theorem SetK.nodup {P : Program} {w : World} {κ : Type} [DecidableEq κ] {knd : HeapKind P w κ} {h : Heap} {a : Addr} {L : List (Addr × κ)} (x : SetK knd h a L) : (L.map (·.2)).Nodup := by
  obtain ⟨o, es, ep, t, R⟩ := x
  exact R.nd
theorem SetK.vals {P : Program} {w : World} {κ : Type} [DecidableEq κ] {knd : HeapKind P w κ} {h : Heap} {a : Addr} {L : List (Addr × κ)} (x : SetK knd h a L) : SetV w h a (L.map fun p => Value.ref p.1) := by
  obtain ⟨o, es, ep, t, R⟩ := x
  refine ⟨o, es, ep, t, R.get, R.ex, R.dat, ?_, ?_, R.fits, R.tab.ris, R.ld⟩
  · rw [R.ent]
    unfold ents
    rw [List.map_map]
    rfl
  · rw [R.size]
    have := R.few
    unfold scanBound
    omega
theorem setK_fresh {P : Program} {w : World} {κ : Type} [DecidableEq κ] {knd : HeapKind P w κ} {h : Heap} {a : Addr} (ho : h.get? a = some { cls := .type "set", dict := none, data := .set #[] 0 (.fresh 0 0 (!w.params.followText "set-order")) }) : SetK knd h a [] := by
  refine ⟨_, #[], 0, _, ho, ⟨rfl, rfl, rfl⟩, rfl, rfl, ⟨List.Pairwise.nil, rfl, rfl, .inl rfl, fun x hx => (nomatch hx), fun i h j hi => ?_⟩, List.nodup_nil, ?_, (by show 0 * 5 < 7 * 3; decide), (by show 0 < 64; decide)⟩
  · have : ([] : List Int)[i]? = some h := hi
    simp at this
  · show _ ∨ (!w.params.followText "set-order") = true
    cases w.params.followText "set-order"
    · exact .inr rfl
    · exact .inl rfl
theorem take_snoc {α : Type} {l : List α} {i : Nat} {x : α} (h : l[i]? = some x) : l.take (i + 1) = l.take i ++ [x] := by
  rw [List.take_add_one, h]
  rfl
theorem fill_nk {P : Program} {w : World} {A : Around} {S : Addr} {items : Array Value} {h0 : Heap} {ks : List NestedKey} (hl : items.size < 64) (hu : A.units + 8 < cLine) (hS : h0.get? S = none)
    (hv : ∀ (i : Nat) (v : Value), items[i]? = some v → ∃ b k, v = .ref b ∧ ks[i]? = some k ∧ (nestedKind P w).is h0 k b) : Fill P w A S items.size (fun i v => items[i]? = some v) h0 (NkG P w items S ks) where
  keep := fun i h h' ⟨L, a1, a2⟩ k => ⟨L, a1.stay k, a2⟩
  add := by
    rintro i v s Q E hi y k0 ⟨L, a1, a2, a3, a4⟩ q
    obtain ⟨b, k, rfl, hk, x⟩ := hv i v y
    have x' := keptN.all k0 x
    have is_ : ∀ p ∈ L, (nestedKind P w).is h0 p.2 p.1 := fun p hp => by
      obtain ⟨j, e1, e2⟩ := a2 p hp
      obtain ⟨b', k', z1, z2, z3⟩ := hv j _ e1
      cases z1
      rw [e2] at z2
      cases z2
      exact z3
    unfold setAdd
    refine wpAny_holding (wpAny_bind ((nestedKind P w).pyHash hu x' ?_))
    refine add1 (s := { s with toks := s.toks + (nestedKind P w).draws k }) keptN a1 (fun p hp => keptN.all k0 (is_ p hp)) x' hu (by omega) fun r h' L' sb R c1 c2 => ?_
    refine q r h' _ (Nat.le_add_right _ _) sb ⟨L', R, ?_⟩
    by_cases c : k ∈ L.map (·.2)
    · obtain rfl := c1 c
      refine ⟨a2, fun k' => ?_, by omega⟩
      rw [take_snoc hk, List.mem_append, a3 k', List.mem_singleton]
      refine ⟨.inl, fun z => z.elim id fun e => ?_⟩
      rw [e]
      exact (a3 k).mp c
    · have pm := c2 c
      refine ⟨fun p hp => ?_, fun k' => ?_, by rw [pm.length_eq]; exact Nat.succ_le_succ a4⟩
      · rcases List.mem_cons.mp (pm.mem_iff.mp hp) with e | hp
        · rw [e]
          exact ⟨i, y, hk⟩
        · exact a2 p hp
      · rw [(pm.map (·.2)).mem_iff, List.map_cons, List.mem_cons, a3 k', take_snoc hk, List.mem_append, List.mem_singleton]
        exact Or.comm
/-- the entries are texts, xs -/
def TxtG (w : World) (S : Addr) (xs : List Str) (i : Nat) (h : Heap) : Prop :=
  ∃ o es ep t, h.get? S = some o ∧ o.ExactSet ∧ o.data = .set es ep t ∧ es.size ≤ i ∧ t.fits es.size = true ∧ Ris t.place.toList ∧ (w.params.followText "set-order" = true ∨ t.led = true) ∧
    ∃ ys : List Str, Paired (fun (e : Int × Value) (y : Str) => ∃ u, e = (hashStr w y, .str y u)) es.toList ys ∧ ys.Nodup ∧ ∀ y, y ∈ ys ↔ y ∈ xs.take i
theorem pair_mem {α β : Type} {F : α → β → Prop} : ∀ {l : List α} {m : List β}, Paired F l m → (∀ x ∈ l, ∃ y ∈ m, F x y) ∧ ∀ y ∈ m, ∃ x ∈ l, F x y
  | _, _, .nil => ⟨fun _ h => (nomatch h), fun _ h => (nomatch h)⟩
  | _, _, .cons r t => by
    obtain ⟨h1, h2⟩ := pair_mem t
    refine ⟨fun x hx => ?_, fun y hy => ?_⟩
    · rcases List.mem_cons.mp hx with rfl | hx
      · exact ⟨_, .head _, r⟩
      · obtain ⟨y, a, b⟩ := h1 x hx
        exact ⟨y, .tail _ a, b⟩
    · rcases List.mem_cons.mp hy with rfl | hy
      · exact ⟨_, .head _, r⟩
      · obtain ⟨x, a, b⟩ := h2 y hy
        exact ⟨x, .tail _ a, b⟩
theorem pair_perm {α β : Type} {F : α → β → Prop} {l l' : List α} {m : List β} (p : l'.Perm l) : Paired F l m → ∃ m', m'.Perm m ∧ Paired F l' m' := by
  induction p generalizing m with
  | nil => exact fun h => ⟨m, .refl _, h⟩
  | cons x p ih =>
    intro h
    cases h with
    | cons r t =>
      obtain ⟨m', a, b⟩ := ih t
      exact ⟨_, a.cons _, .cons r b⟩
  | swap x y l =>
    intro h
    cases h with
    | cons r t =>
      cases t with
      | cons r' t => exact ⟨_, .swap _ _ _, .cons r' (.cons r t)⟩
  | trans p1 p2 ih1 ih2 =>
    intro h
    obtain ⟨m', a, b⟩ := ih2 h
    obtain ⟨m2, c, d⟩ := ih1 b
    exact ⟨m2, c.trans a, d⟩
theorem pair_snoc {α β : Type} {F : α → β → Prop} : ∀ {l : List α} {m : List β} {x : α} {y : β}, Paired F l m → F x y → Paired F (l ++ [x]) (m ++ [y])
  | _, _, _, _, .nil, r => .cons r .nil
  | _, _, _, _, .cons q t, r => .cons q (pair_snoc t r)
theorem fill_txt {P : Program} {w : World} {A : Around} {S : Addr} {items : Array Value} {h0 : Heap} {xs : List Str} (hl : items.size < 1000)
    (hv : ∀ (i : Nat) (v : Value), items[i]? = some v → ∃ y u, v = .str y u ∧ xs[i]? = some y) : Fill P w A S items.size (fun i v => items[i]? = some v) h0 (TxtG w S xs) where
  keep := fun i h h' ⟨o, es, ep, t, ho, r⟩ k => ⟨o, es, ep, t, k o ho, r⟩
  add := by
    intro i v s Q E hi y k0 g q
    obtain ⟨o, es, ep, t, ho, hex, hd, hsz, hf, hr, hl, ys, pr, nd, mm⟩ := g
    obtain ⟨x, u, rfl, hx⟩ := hv i v y
    have hkey : (strKind P w).is x (.str x u) = true := strKind_is P w x u
    have hsc : (Value.str x u).scannable = true := rfl
    have hel : ElemsOf (strKind P w) es.toList := fun e he => by
      obtain ⟨z, _, u', rfl⟩ := (pair_mem pr).1 e he
      exact ⟨⟨z, strKind_is P w z u', rfl⟩, rfl⟩
    have hb : es.size < scanBound := by unfold scanBound; omega
    unfold setAdd
    refine wpAny_holding (wpAny_bind ((strKind P w).pyHash hkey ?_))
    unfold setAddHashed setAddHashedIn
    refine wpAny_holding (wpAny_bind (wpAny_setState_of ho hd hf ?_))
    dsimp only
    rw [byScan_of hsc hb hel]
    simp only [↓reduceIte]
    unfold setAddByScan
    refine wpAny_bind ?_
    refine wpAny_bind (wpAny_rule ?_)
    refine wpAny_bind (wpAny_setScan_of hkey ho hd hf hel ?_)
    have isx : ∀ e ∈ es.toList, ((strKind P w).is x e.2 = true ↔ e.2.isStr x = true) := fun e he => by
      obtain ⟨z, _, u', rfl⟩ := (pair_mem pr).1 e he
      constructor
      · exact id
      · exact id
    have mem_x : x ∈ ys ↔ ∃ e ∈ es.toList, (strKind P w).is x e.2 = true := by
      constructor
      · intro h
        obtain ⟨e, he, u', rfl⟩ := (pair_mem pr).2 x h
        exact ⟨_, he, strKind_is P w x u'⟩
      · rintro ⟨e, he, h⟩
        obtain ⟨z, hz, u', rfl⟩ := (pair_mem pr).1 e he
        have := (strKind P w).inj _ _ _ h (strKind_is P w z u')
        rw [this]
        exact hz
    cases hfi : List.findIdx? (fun e => (strKind P w).is x e.2) es.toList with
    | some j =>
      dsimp only
      obtain ⟨hj, pj, _⟩ := List.findIdx?_eq_some_iff_getElem.mp hfi
      have hin : x ∈ ys := mem_x.mpr ⟨_, List.getElem_mem hj, pj⟩
      refine wpAny_pure (wpAny_pure ?_)
      refine q false s.heap _ (Nat.le_add_right _ _) (Heap.SameBut.refl _ _) ⟨o, es, ep, t, ho, hex, hd, by omega, hf, hr, hl, ys, pr, nd, fun z => ?_⟩
      rw [take_snoc hx, List.mem_append, mm z, List.mem_singleton]
      refine ⟨.inl, fun c => c.elim id fun e => ?_⟩
      rw [e]
      exact (mm x).mp hin
    | none =>
      dsimp only
      have hnx : x ∉ ys := fun c => by
        obtain ⟨e, he, p⟩ := mem_x.mp c
        have c := List.findIdx?_eq_none_iff.mp hfi e he
        rw [p] at c
        cases c
      have gave_ : ∀ (b : Bool) {s1 : Shared} {Q' : Unit → Shared → Prop}, Q' () s1 → wpAny (model P w) A (match b with | true => rule "set.scan.the-table-gave-way" | false => pure ()) Q' E s1 :=
        fun b s1 Q' c => by cases b <;> first | exact wpAny_pure c | exact wpAny_rule c
      have pm := layNew_perm t es ((strKind P w).hash x) (.str x u)
      have f1 := layNew_fits t es ((strKind P w).hash x) (.str x u)
      have r1 := layNew_ris t es ((strKind P w).hash x) (.str x u) hr
      have l1 := layNew_led t es ((strKind P w).hash x) (.str x u)
      generalize layNew t es ((strKind P w).hash x) (.str x u) = Z at pm f1 r1 l1 ⊢
      obtain ⟨es1, t1, wasDummy, gave⟩ := Z
      dsimp only at pm f1 r1 l1 ⊢
      rw [Array.toList_push] at pm
      obtain ⟨ys1, pm1, pr1⟩ := pair_perm pm (pair_snoc pr (y := x) ⟨u, rfl⟩)
      have hz1 : es1.size = es.size + 1 := by
        have := pm.length_eq
        rw [List.length_append, Array.length_toList, Array.length_toList] at this
        exact this
      have nd1 : ys1.Nodup := pm1.nodup_iff.mpr (List.nodup_append.mpr ⟨nd, List.nodup_cons.mpr ⟨List.not_mem_nil, List.nodup_nil⟩, fun a ha b hb e => hnx (by rw [List.mem_singleton] at hb; rw [← hb, ← e]; exact ha)⟩)
      have mm1 : ∀ z, z ∈ ys1 ↔ z ∈ xs.take (i + 1) := fun z => by
        rw [pm1.mem_iff, take_snoc hx, List.mem_append, List.mem_append, mm z]
      have hl1 : w.params.followText "set-order" = true ∨ t1.led = true := hl.imp id fun z => by rw [l1]; exact z
      have tail : ∀ (t2 : SetTable) (G : Bool → Sem Unit), (∀ (b : Bool) (s1 : Shared) (Q' : Unit → Shared → Prop), Q' () s1 → wpAny (model P w) A (G b) Q' E s1) → t2.fits es1.size = true → Ris t2.place.toList → (w.params.followText "set-order" = true ∨ t2.led = true) →
          ∀ (R : Option Bool → Shared → Prop), (∀ h', Heap.SameBut S s.heap h' → TxtG w S xs (i + 1) h' → R (some true) { s with heap := h', toks := s.toks + 1 }) → wpAny (model P w) A (do
            storeSet S es1 t2
            if (!wasDummy && t2.tooFull) = true then do
                G (relayAll t2 es1 (SetTable.grown es1.size)).2.2
                storeSet S (relayAll t2 es1 (SetTable.grown es1.size)).1 (relayAll t2 es1 (SetTable.grown es1.size)).2.1
                pure (some true)
              else pure (some true)) R E { s with toks := s.toks + 1 } := fun t2 G hG f2 r2 l2 R hR => by
        refine wpAny_bind (wpAny_storeSet_of ho hd ?_ (fits_of_scanBound (by rw [hz1]; unfold scanBound; omega)))
        have ho1 := store_at (es' := es1) (t' := t2) ho hd
        have sb1 := Heap.SameBut.update s.heap S (Obj.putSet es1 t2)
        split
        · have pm2 := relayAll_perm t2 es1 (SetTable.grown es1.size)
          have f3 := relayAll_fits t2 es1 (SetTable.grown es1.size)
          have r3 := relayAll_ris t2 es1 (SetTable.grown es1.size)
          have l3 := relayAll_led t2 es1 (SetTable.grown es1.size)
          generalize relayAll t2 es1 (SetTable.grown es1.size) = Z at pm2 f3 r3 l3 ⊢
          obtain ⟨es2, t3, gave2⟩ := Z
          dsimp only at pm2 f3 r3 l3 ⊢
          have hz2 : es2.size = es1.size := by rw [← Array.length_toList, pm2.length_eq, Array.length_toList]
          obtain ⟨ys2, pmy, pr2⟩ := pair_perm pm2 pr1
          refine wpAny_bind (hG _ _ _ ?_)
          refine wpAny_bind (wpAny_storeSet_of ho1 rfl ?_ (fits_of_scanBound (by rw [hz2, hz1]; unfold scanBound; omega)))
          have ho2 := store_at (es' := es2) (t' := t3) ho1 rfl
          refine wpAny_pure (hR _ (sb1.trans (Heap.SameBut.update _ S _)) ⟨_, es2, _, t3, ho2, hex, rfl, by omega, f3, r3, l2.imp id fun z => by rw [l3]; exact z, ys2, pr2, pmy.nodup_iff.mpr nd1, fun z => ?_⟩)
          rw [pmy.mem_iff]
          exact mm1 z
        · exact wpAny_pure (hR _ sb1 ⟨_, es1, _, t2, ho1, hex, rfl, by omega, f2, r2, l2, ys1, pr1, nd1, mm1⟩)
      refine wpAny_bind (gave_ _ ?_)
      split
      · refine wpAny_bind ?_
        rw [hashByValue_scannable 8 hsc]
        refine wpAny_pure ?_
        refine tail _ _ ?_ ?_ ?_ ?_ _ ?_
        · intro b s1 Q' c; cases b <;> first | exact wpAny_pure c | exact wpAny_rule c
        · first | (split <;> first | exact f1 | exact SetTable.fits_plain_off f1) | exact f1
        · first | (split <;> exact r1) | exact r1
        · first | (split <;> exact hl1) | exact hl1
        · intro h' sb r; dsimp only; exact wpAny_pure (q true h' _ (Nat.le_add_right _ _) sb r)
      · refine wpAny_bind (wpAny_pure ?_)
        simp only [↓reduceIte]
        refine tail _ _ ?_ f1 r1 hl1 _ ?_
        · intro b s1 Q' c; cases b <;> first | exact wpAny_pure c | exact wpAny_rule c
        · intro h' sb r; dsimp only; exact wpAny_pure (q true h' _ (Nat.le_add_right _ _) sb r)
theorem txt_fresh {w : World} {h : Heap} {S : Addr} {xs : List Str} (ho : h.get? S = some { cls := .type "set", dict := none, data := .set #[] 0 (.fresh 0 0 (!w.params.followText "set-order")) }) : TxtG w S xs 0 h := by
  refine ⟨_, #[], 0, _, ho, ⟨rfl, rfl, rfl⟩, rfl, Nat.le_refl _, by rfl, List.Pairwise.nil, ?_, [], .nil, List.nodup_nil, fun y => ?_⟩
  · show _ ∨ (!w.params.followText "set-order") = true
    cases w.params.followText "set-order"
    · exact .inr rfl
    · exact .inl rfl
  · simp
end FSt
namespace FSt
open PySem PySem.Spec PyProof.Rows L2
mutual
/-- a datum as a key -/
def nkD : PyData → Option NestedKey
  | .none => some .none
  | .int i => some (.num i)
  | .str x => some (.text x)
  | .tuple ds => (nkAll ds).map .tup
  | _ => none
def nkAll : List PyData → Option (List NestedKey)
  | [] => some []
  | d :: ds => match nkD d, nkAll ds with
    | some k, some ks => some (k :: ks)
    | _, _ => none
end
theorem nkAll_cons {d : PyData} {ds : List PyData} {ks : List NestedKey} (h : nkAll (d :: ds) = some ks) : ∃ k r, ks = k :: r ∧ nkD d = some k ∧ nkAll ds = some r := by
  unfold nkAll at h
  cases e1 : nkD d with
  | none => rw [e1] at h; cases h
  | some k =>
    cases e2 : nkAll ds with
    | none => rw [e1, e2] at h; cases h
    | some r =>
      rw [e1, e2] at h
      cases h
      exact ⟨k, r, rfl, rfl, rfl⟩
mutual
theorem nk_data : ∀ (d : PyData) (k : NestedKey), nkD d = some k → k.data = d
  | .none, _, h => by cases h; rfl
  | .int _, _, h => by cases h; rfl
  | .str _, _, h => by cases h; rfl
  | .bool _, _, h => by cases h
  | .list _, _, h => by cases h
  | .dict _, _, h => by cases h
  | .tuple ds, k, h => by
    unfold nkD at h
    cases e : nkAll ds with
    | none => rw [e] at h; cases h
    | some ks =>
      rw [e] at h
      cases h
      simp only [NestedKey.data]
      rw [nk_datas ds ks e]
theorem nk_datas : ∀ (ds : List PyData) (ks : List NestedKey), nkAll ds = some ks → NestedKey.datas ks = ds
  | [], _, h => by
    unfold nkAll at h
    cases h
    rfl
  | d :: ds, ks, h => by
    obtain ⟨k, r, rfl, h1, h2⟩ := nkAll_cons h
    simp only [NestedKey.datas]
    rw [nk_data d k h1, nk_datas ds r h2]
end
mutual
theorem reads_nk {h : Heap} : ∀ (d : PyData) (k : NestedKey) (u : Value) (as : List Addr), nkD d = some k → Reads h u d as → NestedIs h k u
  | .none, _, _, _, e, r => by cases e; cases r; exact .none
  | .int _, _, _, _, e, r => by cases e; cases r; exact .int _ _
  | .str _, _, _, _, e, r => by cases e; cases r; exact .text _ _
  | .bool _, _, _, _, e, _ => by cases e
  | .list _, _, _, _, e, _ => by cases e
  | .dict _, _, _, _, e, _ => by cases e
  | .tuple ds, k, _, _, e, r => by
    unfold nkD at e
    cases q : nkAll ds with
    | none => rw [q] at e; cases e
    | some ks =>
      rw [q] at e
      cases e
      cases r with
      | tuple h1 h2 h3 h4 => exact .tup h1 h2 h3 (reads_nks ds ks _ _ q h4)
theorem reads_nks {h : Heap} : ∀ (ds : List PyData) (ks : List NestedKey) (us : List Value) (as : List Addr), nkAll ds = some ks → ReadsAll h us ds as → NestedAll h ks us
  | [], _, _, _, e, r => by
    unfold nkAll at e
    cases e
    cases r
    exact .nil
  | d :: ds, ks, _, _, e, r => by
    obtain ⟨k, r', rfl, h1, h2⟩ := nkAll_cons e
    cases r with
    | cons q1 q2 => exact .cons (reads_nk d k _ _ h1 q1) (reads_nks ds r' _ _ h2 q2)
end
theorem reads_at {h : Heap} : ∀ {us : List Value} {ds : List PyData} {as : List Addr} {i : Nat} {u : Value}, ReadsAll h us ds as → us[i]? = some u → ∃ d bs, ds[i]? = some d ∧ Reads h u d bs
  | _, _, _, _, _, .nil, e => by simp at e
  | _, _, _, 0, _, .cons r _, e => by
    cases Option.some.inj e
    exact ⟨_, _, rfl, r⟩
  | _, _, _, i + 1, _, .cons _ r, e => by
    obtain ⟨d, bs, h1, h2⟩ := reads_at (i := i) r (by simpa using e)
    exact ⟨d, bs, by simpa using h1, h2⟩
theorem dp_len {K : PySem.W.Frag} {H : Hp} : ∀ {vs : List V} {ds : List PyData}, DpAll K H vs ds → vs.length = ds.length
  | _, _, .nil => rfl
  | _, _, .cons _ r => congrArg (· + 1) (dp_len r)
/-- data that a set takes here: texts alone, or nested tuples alone -/
def setOk (ds : List PyData) : Prop := (∃ ss : List Str, ds = ss.map .str) ∨ ∀ d ∈ ds, ∃ k : List NestedKey, nkD d = some (.tup k) ∧ (NestedKey.tup k).depth ≤ 8
/-- a set whose members are us -/
def SetHO (w : World) (a : Addr) (us : List V) : HO := .ext fun h => ∃ vs, SetV w h a vs ∧ Vals us vs
theorem setHO_new {P : Program} {w : World} {H : Hp} {h : Heap} {a : Addr} {us : List V} {vs : List Value} (x : SetV w h a vs) (r : Vals us vs) : ObjOk P w H h a (SetHO w a us) := by
  have ⟨o, _, _, _, ho, _⟩ := x.ob
  exact ⟨⟨vs, x, r⟩, ⟨o, ho⟩, fun h1 h2 ⟨ws, y, r2⟩ k => ⟨ws, y.stay k, r2⟩⟩
def rSetD (K : PySem.W.Frag) (w : World) : List V → Hp → VK → Prop := fun xs H Q => ∃ (a : Addr) (ys : List V) (ds : List PyData), xs = [V.ref a] ∧ (SqL K H a ys ∨ SqT K H a ys) ∧ DpAll K H ys ds ∧ setOk ds ∧ ds.length < 64 ∧
  ∀ (p : Addr) (zs : List (V × PyData)), H p = none → (∀ z ∈ zs, z ∈ ys.zip ds) → (zs.map (·.2)).Nodup → (∀ d, d ∈ zs.map (·.2) ↔ d ∈ ds) → Q (.ref p) (upd H p (SetHO w p (zs.map (·.1))))
theorem dp_strs {K : PySem.W.Frag} {H : Hp} : ∀ {ys : List V} {ss : List Str}, DpAll K H ys (ss.map .str) → ys = ss.map .str
  | [], [], _ => rfl
  | _ :: _, _ :: _, .cons (.str _) r => congrArg _ (dp_strs r)
theorem mem_zip_at {α β : Type} : ∀ {l : List α} {m : List β} {i : Nat} {a : α} {b : β}, l[i]? = some a → m[i]? = some b → (a, b) ∈ l.zip m
  | a :: l, b :: m, 0, _, _, h1, h2 => by
    cases h1
    cases h2
    exact .head _
  | a :: l, b :: m, i + 1, _, _, h1, h2 => .tail _ (mem_zip_at (i := i) (by simpa using h1) (by simpa using h2))
  | [], _, _, _, _, h1, _ => by simp at h1
  | _ :: _, [], _, _, _, _, h2 => by simp at h2
theorem nodup_map {α β : Type} {f : α → β} {l : List α} (h : l.Nodup) (inj : ∀ x ∈ l, ∀ y ∈ l, f x = f y → x = y) : (l.map f).Nodup :=
  List.pairwise_map.mpr (List.Pairwise.imp_of_mem (fun hx hy ne e => ne (inj _ hx _ hy e)) h)
theorem nkAll_some {ds : List PyData} (h : ∀ d ∈ ds, ∃ k : List NestedKey, nkD d = some (.tup k) ∧ (NestedKey.tup k).depth ≤ 8) : ∃ ks, nkAll ds = some ks ∧ ∀ (i : Nat) d, ds[i]? = some d → ∃ k, ks[i]? = some k ∧ nkD d = some k ∧ (∃ l, k = .tup l) ∧ k.depth ≤ 8 := by
  induction ds with
  | nil => exact ⟨[], rfl, fun i d e => by simp at e⟩
  | cons d ds ih =>
    obtain ⟨k, h1, h2⟩ := h d (.head _)
    obtain ⟨ks, h3, h4⟩ := ih fun e he => h e (.tail _ he)
    refine ⟨.tup k :: ks, ?_, fun i e q => ?_⟩
    · unfold nkAll
      rw [h1, h3]
    · cases i with
      | zero =>
        cases Option.some.inj q
        exact ⟨_, rfl, h1, ⟨k, rfl⟩, h2⟩
      | succ i =>
        obtain ⟨k', a, b⟩ := h4 i e (by simpa using q)
        exact ⟨k', by simpa using a, b⟩
section
variable {X : Cx}
theorem call_setD (hc : X.calm = true) (hu : X.A.units + 64 < cLine) : CallR X (.type "set") (rSetD X.K X.w) := by
  intro pins s σ H xs us Q I r h
  obtain ⟨l, ys, ds, rfl, hs, hd, ok, few, q⟩ := h
  rw [Vals.ref1 r]
  have hn : H s.heap.objs.size = none := I.hok.fresh (Nat.le_refl _)
  obtain ⟨its, rv, hl⟩ : ∃ its : List Value, Vals ys its ∧ (s.heap.IsList l its.toArray ∨ s.heap.IsTuple l its.toArray) := by
    rcases hs with hs | hs
    · obtain ⟨its, rv, pl, _⟩ := I.list hs
      exact ⟨its, rv, .inl pl.isList⟩
    · obtain ⟨its, rv, ⟨o, ho, hcl, n, hdt⟩, _⟩ := I.tuple hs
      exact ⟨its, rv, .inr ⟨o, ho, hcl, n, hdt⟩⟩
  obtain ⟨as, rd⟩ := Dp.readsAll I ds ys its hd rv
  have hlen : its.toArray.size = ds.length := by rw [List.size_toArray, ← rv.length, dp_len hd]
  have none_ : s.heap.get? s.heap.objs.size = none := by
    cases z : s.heap.get? s.heap.objs.size with
    | none => rfl
    | some o => exact absurd (Heap.lt_size z) (Nat.lt_irrefl _)
  have at_ : ∀ {i : Nat} {v : Value}, its.toArray[i]? = some v → ∃ d bs, ds[i]? = some d ∧ Reads s.heap v d bs := fun {i v} e => reads_at rd (by simpa using e)
  have fin : ∀ h' tk (zs : List (V × PyData)) us es vs, us = zs.map (·.1) → es = zs.map (·.2) → (∀ b o, s.heap.get? b = some o → h'.get? b = some o) → SetV X.w h' s.heap.objs.size vs → Vals us vs → (∀ z ∈ zs, z ∈ ys.zip ds) → es.Nodup → (∀ d, d ∈ es ↔ d ∈ ds) → EP X pins σ Q (.ref s.heap.objs.size) { s with heap := h', toks := tk } := fun h' tk zs us es vs e1 e2 k sv ru hdp nd mm => by
    subst e1 e2
    exact ⟨.ref s.heap.objs.size, upd H s.heap.objs.size (SetHO X.w s.heap.objs.size _), I.laid (t' := tk) k (Nat.le_refl _) (setHO_new sv ru), rfl, q _ zs hn hdp nd mm⟩
  rcases ok with ⟨ss, rfl⟩ | ok
  · refine call_fill (G := TxtG X.w s.heap.objs.size ss) (I.ok.hd hc) hl (fun h => txt_fresh) (fill_txt (by omega) fun i v e => ?_) fun h' tk g k => ?_
    · obtain ⟨d, bs, e1, e2⟩ := at_ e
      rw [List.getElem?_map] at e1
      cases e3 : ss[i]? with
      | none => rw [e3] at e1; cases e1
      | some y =>
        rw [e3] at e1
        cases e1
        cases e2 with
        | str x t => exact ⟨_, t, rfl, rfl⟩
    · obtain ⟨o, es, ep, t, ho, hex, hdt, hsz, hf, hr, hld, ys1, pr, nd, mm⟩ := g
      have hle : its.toArray.size = ss.length := by rw [hlen, List.length_map]
      refine fin h' tk (ys1.map fun x => (.str x, .str x)) (ys1.map .str) (ys1.map .str) (es.toList.map (·.2)) (by rw [List.map_map]; rfl) (by rw [List.map_map]; rfl) k ⟨o, es, ep, t, ho, hex, hdt, rfl, ?_, hf, hr, hld⟩ ?_ (fun z hz => ?_) ?_ fun d => ?_
      · unfold scanBound
        omega
      · clear mm nd
        revert pr
        generalize es.toList = l
        intro pr
        induction pr with
        | nil => exact .nil
        | cons r _ ih =>
          obtain ⟨u, rfl⟩ := r
          exact .cons ⟨u, rfl⟩ ih
      · obtain ⟨x, hx, rfl⟩ := List.mem_map.mp hz
        have hx' : x ∈ ss := by
          have e : ss.take its.toArray.size = ss := by rw [hle, List.take_length]
          exact e ▸ (mm x).mp hx
        obtain ⟨i, hi⟩ := List.mem_iff_getElem?.mp hx'
        rw [dp_strs hd]
        exact mem_zip_at (i := i) (by rw [List.getElem?_map, hi]; rfl) (by rw [List.getElem?_map, hi]; rfl)
      · exact nodup_map nd fun x _ y _ e => PyData.str.inj e
      · rw [List.mem_map, List.mem_map]
        have e : ss.take its.toArray.size = ss := by rw [hle, List.take_length]
        constructor
        · rintro ⟨y, hy, rfl⟩
          exact ⟨y, e ▸ (mm y).mp hy, rfl⟩
        · rintro ⟨y, hy, rfl⟩
          exact ⟨y, (mm y).mpr (by rw [e]; exact hy), rfl⟩
  · obtain ⟨ks, hks, hat⟩ := nkAll_some ok
    have kl : ks.length = ds.length := by
      have e := nk_datas ds ks hks
      have len : ∀ ks : List NestedKey, (NestedKey.datas ks).length = ks.length := fun ks => by
        induction ks with
        | nil => rfl
        | cons k ks ih => simp only [NestedKey.datas, List.length_cons, ih]
      rw [← e, len]
    have hv : ∀ (i : Nat) (v : Value), its.toArray[i]? = some v → ∃ b k, v = .ref b ∧ ks[i]? = some k ∧ (nestedKind X.prog X.w).is s.heap k b := fun i v e => by
      obtain ⟨d, bs, e1, e2⟩ := at_ e
      obtain ⟨k, e3, e4, ⟨l', e5⟩, e6⟩ := hat i d e1
      have ni := reads_nk d k v bs e4 e2
      subst e5
      cases ni with
      | tup a b c d' => exact ⟨_, _, rfl, e3, .tup a b c d', e6⟩
    refine call_fill (G := NkG X.prog X.w its.toArray s.heap.objs.size ks) (I.ok.hd hc) hl (fun h ho => ⟨[], setK_fresh ho, fun p hp => absurd hp List.not_mem_nil, fun k => by simp, Nat.zero_le _⟩) (fill_nk (by omega) ?_ none_ hv) fun h' tk g k => ?_
    · show X.A.units + 1 + 1 + 1 + 8 < cLine
      omega
    · obtain ⟨L, sk, a2, a3, a4⟩ := g
      clear a4
      have ix : ∀ p ∈ L, ∃ (j : Nat) (d : PyData), ds[j]? = some d ∧ ys[j]? = some (.ref p.1) ∧ nkD d = some p.2 := fun p hp => by
        obtain ⟨j, e1, e2⟩ := a2 p hp
        obtain ⟨d, bs, e3, e4⟩ := at_ e1
        obtain ⟨k, e5, e6, _⟩ := hat j d e3
        rw [e2] at e5
        cases e5
        refine ⟨j, d, e3, ?_, e6⟩
        have e1' : its[j]? = some (.ref p.1) := by simpa using e1
        cases ey : ys[j]? with
        | none =>
          rw [Vals.none_of rv ey] at e1'
          cases e1'
        | some y =>
          obtain ⟨u, q1, q2⟩ := rv.get ey
          rw [e1'] at q1
          cases q1
          cases e4 with
          | tuple _ _ _ _ =>
            cases y with
            | ref b => cases q2; rfl
            | _ => first | (obtain ⟨_, z⟩ := q2; cases z) | cases q2
          | list _ _ _ _ => cases e6
          | dict _ _ _ _ _ => cases e6
      refine fin h' tk (L.map fun p => (V.ref p.1, p.2.data)) (L.map fun p => V.ref p.1) (L.map fun p => p.2.data) _ (by rw [List.map_map]; rfl) (by rw [List.map_map]; rfl) k sk.vals ?_ (fun z hz => ?_) ?_ fun d => ?_
      · clear ix a3 a2 sk
        induction L with
        | nil => exact .nil
        | cons p L ih => exact .cons rfl ih
      · obtain ⟨p, hp, rfl⟩ := List.mem_map.mp hz
        obtain ⟨j, d, e1, e2, e3⟩ := ix p hp
        rw [nk_data d _ e3]
        exact mem_zip_at e2 e1
      · have nd := sk.nodup
        have e : L.map (fun p => p.2.data) = (L.map (·.2)).map NestedKey.data := by rw [List.map_map]; rfl
        rw [e]
        refine nodup_map nd fun x hx y hy e => ?_
        obtain ⟨p, hp, rfl⟩ := List.mem_map.mp hx
        obtain ⟨p', hp', rfl⟩ := List.mem_map.mp hy
        obtain ⟨j, d, e1, e2, e3⟩ := ix p hp
        obtain ⟨j', d', e1', e2', e3'⟩ := ix p' hp'
        rw [nk_data d _ e3, nk_data d' _ e3'] at e
        subst e
        rw [e3] at e3'
        exact Option.some.inj e3'
      · have et : ks.take its.toArray.size = ks := by rw [hlen, ← kl, List.take_length]
        rw [List.mem_map]
        constructor
        · rintro ⟨p, hp, rfl⟩
          obtain ⟨j, d, e1, e2, e3⟩ := ix p hp
          rw [nk_data d _ e3]
          exact List.mem_of_getElem? e1
        · intro hm
          obtain ⟨j, e1⟩ := List.mem_iff_getElem?.mp hm
          obtain ⟨k, e5, e6, _⟩ := hat j d e1
          have : k ∈ L.map (·.2) := (a3 k).mpr (by rw [et]; exact List.mem_of_getElem? e5)
          obtain ⟨p, hp, rfl⟩ := List.mem_map.mp this
          exact ⟨p, hp, nk_data d _ e6⟩
end
end FSt
namespace FSt
open PySem PySem.Spec PyProof.Rows L2
/-- the sorted list of data -/
def sortD (ds : List PyData) : List PyData := ds.mergeSort (PySem.W.dataLe false id)
def srtOk (ds : List PyData) : Prop := PySem.W.AllAlike ds ∧ (PySem.W.Sortable ds ∨ ds.length ≤ 1) ∧ ∀ d ∈ ds, d.depth ≤ 20 ∧ (nkD d).isSome = true
theorem each_vals : ∀ {out : List Value} {bs : List (V × PyData)}, PySem.W.EachIs (fun u b => RelV b.1 u) out bs → Vals (bs.map (·.1)) out
  | _, _, .nil => .nil
  | _, _, .cons r t => .cons r (each_vals t)
theorem zip_map {α β : Type} : ∀ {l : List α} {m : List β}, l.length = m.length → (l.zip m).map (·.2) = m ∧ (l.zip m).map (·.1) = l
  | [], [], _ => ⟨rfl, rfl⟩
  | _ :: _, _ :: _, h => by
    have := zip_map (Nat.succ.inj h)
    exact ⟨congrArg _ this.1, congrArg _ this.2⟩
  | [], _ :: _, h => by cases h
  | _ :: _, [], h => by cases h
theorem sort_zip {α : Type} {ys : List α} {ds : List PyData} (h : ys.length = ds.length) : ((ys.zip ds).mergeSort (PySem.W.dataLe false (·.2))).map (·.2) = sortD ds := by
  have e := List.map_mergeSort (r := PySem.W.dataLe false (·.2)) (s := PySem.W.dataLe false id) (f := fun z : α × PyData => z.2) (l := ys.zip ds) (fun a _ b _ => rfl)
  rw [(zip_map h).1] at e
  exact e
theorem dp_zip {K : PySem.W.Frag} {H : Hp} : ∀ {ys : List V} {ds : List PyData}, DpAll K H ys ds → ∀ z ∈ ys.zip ds, Dp K H z.1 z.2
  | _, _, .nil, z, h => absurd h List.not_mem_nil
  | _, _, .cons r t, z, h => by
    rcases List.mem_cons.mp h with rfl | h
    · exact r
    · exact dp_zip t z h
mutual
/-- keys read no list -/
theorem reads_no {h : Heap} : ∀ (d : PyData) (u : Value) (as : List Addr), (nkD d).isSome = true → Reads h u d as → as = []
  | .none, _, _, _, r => by cases r; rfl
  | .int _, _, _, _, r => by cases r; rfl
  | .str _, _, _, _, r => by cases r; rfl
  | .bool _, _, _, e, _ => by cases e
  | .list _, _, _, e, _ => by cases e
  | .dict _, _, _, e, _ => by cases e
  | .tuple ds, _, _, e, r => by
    cases r with
    | tuple h1 h2 h3 h4 =>
      refine reads_nos ds _ _ ?_ h4
      unfold nkD at e
      rwa [Option.isSome_map] at e
theorem reads_nos {h : Heap} : ∀ (ds : List PyData) (us : List Value) (as : List Addr), (nkAll ds).isSome = true → ReadsAll h us ds as → as = []
  | [], _, _, _, r => by cases r; rfl
  | d :: ds, _, _, e, r => by
    obtain ⟨ks, e⟩ := Option.isSome_iff_exists.mp e
    obtain ⟨k, r', _, h1, h2⟩ := nkAll_cons e
    cases r with
    | cons q1 q2 => rw [reads_no d _ _ (by rw [h1]; rfl) q1, reads_nos ds _ _ (by rw [h2]; rfl) q2]; rfl
end
theorem swo_none {α : Type} : SrtO.Swo (fun _ _ : α => false) := ⟨fun _ _ h => (by cases h), fun _ _ _ _ _ => rfl⟩
section
variable {X : Cx} {pins : List (Addr × Obj)} {σ : L2.St} {H : Hp}
/-- behind the collecting: the new list at p is sorted -/
theorem sort_tail {A : Around} {E : Value → Shared → Prop} {s1 : Shared} {p : Addr} {out : List Value} {zs : List (V × PyData)} {Q : Value → Shared → Prop} (I1 : Inv X pins σ H s1) (hp : s1.heap.get? p = some (seqObj "list" out.toArray 0)) (np : H p = none)
    (rv : Vals (zs.map (·.1)) out) (dp : ∀ z ∈ zs, Dp X.K H z.1 z.2) (ok : srtOk (zs.map (·.2))) (hz : zs.length ≤ 100000) (hu : A.units + 30 < cLine)
    (hq : ∀ o2 : List Value, o2.length = out.length → Vals ((zs.mergeSort (PySem.W.dataLe false (·.2))).map (·.1)) o2 → Q .none { s1 with heap := sortedHeap s1.heap p out o2.toArray }) :
    wpAny (model X.prog X.w) A (call (.builtin "list.sort") [.ref p]) Q E s1 := by
  have hL : zs.length ≤ sizeLine := by
    rw [sizeLine_eq]
    omega
  have hlen : out.length = zs.length := by rw [← rv.length, List.length_map]
  by_cases h1 : zs.length ≤ 1
  · refine wpAny_call_entry slot_list_sort ⟨_, hp, rfl⟩ entry_list_sort (SrtO.list_sort_ord swo_none hp (by omega) (fun h => by omega) fun o2 _ hb => ⟨_, rfl, ?_⟩) (args_list_sort _)
    have e : o2 = out := by
      match out, zs, hlen, h1 with
      | [], _, _, _ => exact List.Perm.eq_nil hb.perm
      | [x], _, _, _ => exact List.perm_singleton.mp hb.perm
      | _ :: _ :: _, zs, h, h1 =>
        exfalso
        simp only [List.length_cons] at h
        omega
    have e2 : zs.mergeSort (PySem.W.dataLe false (·.2)) = zs := by
      match zs, h1 with
      | [], _ => exact List.mergeSort_nil
      | [x], _ => exact List.mergeSort_singleton _
      | _ :: _ :: _, h1 =>
        exfalso
        simp only [List.length_cons] at h1
        omega
    have := hq o2 hb.perm.length_eq (by rw [e, e2]; exact rv)
    exact this
  · have each : ∀ {zs : List (V × PyData)} {out : List Value}, Vals (zs.map (·.1)) out → (∀ z ∈ zs, Dp X.K H z.1 z.2) → PySem.W.EachIs (fun u b => RelV b.1 u) out zs ∧ PySem.W.EachIs (fun v (b : V × PyData) => ∃ as, Reads s1.heap v b.2 as) out zs := fun {zs} => by
      induction zs with
      | nil =>
        intro out r _
        cases r
        exact ⟨.nil, .nil⟩
      | cons z zs ih =>
        intro out r d
        cases r with
        | cons r t =>
          obtain ⟨a, b⟩ := ih t fun y hy => d y (.tail _ hy)
          exact ⟨.cons r a, .cons (Dp.reads I1 z.2 z.1 _ (d z (.head _)) r) b⟩
    obtain ⟨e1, e2⟩ := each rv dp
    have nk : ∀ z ∈ zs, (nkD z.2).isSome = true := fun z hz => (ok.2.2 z.2 (List.mem_map.mpr ⟨z, hz, rfl⟩)).2
    have no_list : ∀ {zs : List (V × PyData)} {out : List Value}, (∀ z ∈ zs, (nkD z.2).isSome = true) → PySem.W.EachIs (fun v (b : V × PyData) => ∃ as, Reads s1.heap v b.2 as) out zs → PySem.W.EachIs (fun v (b : V × PyData) => ∃ as, Reads s1.heap v b.2 as ∧ p ∉ as) out zs := fun {zs out} hk e => by
      induction e with
      | nil => exact .nil
      | cons r _ ih =>
        obtain ⟨as, r⟩ := r
        refine .cons ⟨as, r, ?_⟩ (ih fun y hy => hk y (.tail _ hy))
        rw [reads_no _ _ _ (hk _ (.head _)) r]
        exact List.not_mem_nil
    have nota := no_list nk e2
    refine PySem.W.list_sort_data (enc := (·.2)) (R := fun u b => RelV b.1 u) hp e1 nota ok.1 (ok.2.1.resolve_right fun h => h1 (by rw [List.length_map] at h; exact h)) hL (fun b hb => ?_) fun o2 l2 r2 => ?_
    · have := (ok.2.2 b.2 (List.mem_map.mpr ⟨b, hb, rfl⟩)).1
      omega
    · exact hq o2 (by omega) (each_vals r2)
/-- sorted(v) -/
def rSortD (K : PySem.W.Frag) (w : World) : List V → Hp → VK → Prop := fun xs H Q => ∃ (a : Addr) (ys : List V) (ds : List PyData), xs = [V.ref a] ∧ (SqL K H a ys ∨ SqT K H a ys ∨ H a = some (SetHO w a ys)) ∧ DpAll K H ys ds ∧ srtOk ds ∧ ds.length ≤ 100000 ∧
  ∀ (p : Addr) (zs : List (V × PyData)), H p = none → (∀ z ∈ zs, z ∈ ys.zip ds) → zs.map (·.2) = sortD ds → Q (.ref p) (upd H p (.lst (zs.map (·.1))))
theorem srtOk_perm {ds es : List PyData} (p : es.Perm ds) (h : srtOk ds) : srtOk es := by
  refine ⟨fun d hd e he => h.1 d (p.mem_iff.mp hd) e (p.mem_iff.mp he), ?_, fun d hd => h.2.2 d (p.mem_iff.mp hd)⟩
  rcases h.2.1 with (z | z) | z
  · exact .inl (.inl fun d hd => z d (p.mem_iff.mp hd))
  · exact .inl (.inr fun d hd => z d (p.mem_iff.mp hd))
  · exact .inr (by rw [p.length_eq]; exact z)
end
section
variable {X : Cx} {pins : List (Addr × Obj)} {σ : L2.St} {H : Hp}
/-- from the collected values on -/
theorem sort_new {A : Around} {E : Value → Shared → Prop} {s1 : Shared} {out : List Value} {us : List V} {es : List PyData} {P : PySem.Fin → Shared → Prop} (I1 : Inv X pins σ H s1)
    (rv : Vals us out) (du : DpAll X.K H us es) (ok : srtOk es) (hz : es.length ≤ 100000) (hu : A.units + 30 < cLine)
    (q : ∀ (p : Addr) (zs : List (V × PyData)) s2, H p = none → (∀ z ∈ zs, z ∈ us.zip es) → zs.map (·.2) = sortD es → Inv X pins σ (upd H p (.lst (zs.map (·.1)))) s2 → P (.done (.ret (.ref p))) s2) :
    wpAny (model X.prog X.w) A (newList out >>= fun l => (holding [l] (call (.builtin "list.sort") [l] [])) >>= fun _ => ret l) P E s1 := by
  have hlu : us.length = es.length := dp_len du
  have hlo : out.length = es.length := by rw [← rv.length, hlu]
  have hsz : out.length ≤ sizeLine := by rw [hlo, sizeLine_eq]; omega
  refine wpAny_bind (wpAny_newList ?_ hsz)
  have I2 : Inv X pins σ H { s1 with heap := s1.heap.push (seqObj "list" out.toArray 0) } := I1.kept fun b o e => Heap.get?_push_of_some _ e
  have hp : (s1.heap.push (seqObj "list" out.toArray 0)).get? s1.heap.objs.size = some (seqObj "list" out.toArray 0) := Heap.get?_push_size _ rfl
  have np : H s1.heap.objs.size = none := I1.hok.fresh (Nat.le_refl _)
  have zm := zip_map hlu
  show wpAny _ _ _ _ _ { s1 with heap := s1.heap.push (seqObj "list" out.toArray 0) }
  refine wpAny_bind (wpAny_holding (sort_tail (s1 := { s1 with heap := s1.heap.push (seqObj "list" out.toArray 0) }) (zs := us.zip es) I2 hp np (by rw [zm.2]; exact rv) (dp_zip du) (by rw [zm.1]; exact ok) (by rw [List.length_zip]; omega) hu fun o2 l2 r2 => ?_))
  refine wpAny_pure (q s1.heap.objs.size ((us.zip es).mergeSort (PySem.W.dataLe false (·.2))) _ np (fun z hz => List.mem_mergeSort.mp hz) (sort_zip hlu) ?_)
  · obtain ⟨c, hc⟩ := sortedHeap_at (vs := out) (out := o2.toArray) hp
    refine I1.laid (t' := s1.toks) (fun b o e => ?_) (Nat.le_refl _) ⟨?_, o2, c, r2, hc⟩
    · have lt := Heap.lt_size e
      refine (sortedHeap_old (Nat.ne_of_lt lt) ?_).trans (Heap.get?_push_of_some _ e)
      rw [Heap.size_push]
      exact Nat.lt_succ_of_lt lt
    · rw [r2.length, l2]
      exact hsz
theorem perm_vals {us : List V} {vs out : List Value} {es : List PyData} {K : PySem.W.Frag} {H : Hp} (p : out.Perm vs) : Vals us vs → DpAll K H us es → ∃ us' es', Vals us' out ∧ DpAll K H us' es' ∧ es'.Perm es ∧ (us'.zip es').Perm (us.zip es) := by
  induction p generalizing us es with
  | nil =>
    intro r d
    cases r
    cases d
    exact ⟨[], [], .nil, .nil, .refl _, .refl _⟩
  | cons x p ih =>
    intro r d
    cases r with
    | cons r t =>
      cases d with
      | cons d dt =>
        obtain ⟨a, b, h1, h2, h3, h4⟩ := ih t dt
        exact ⟨_, _, .cons r h1, .cons d h2, h3.cons _, h4.cons _⟩
  | swap x y l =>
    intro r d
    cases r with
    | cons r t =>
      cases t with
      | cons r' t =>
        cases d with
        | cons d dt =>
          cases dt with
          | cons d' dt => exact ⟨_, _, .cons r' (.cons r t), .cons d' (.cons d dt), .swap _ _ _, .swap _ _ _⟩
  | trans p1 p2 ih1 ih2 =>
    intro r d
    obtain ⟨a, b, h1, h2, h3, h4⟩ := ih2 r d
    obtain ⟨a', b', h1', h2', h3', h4'⟩ := ih1 h1 h2
    exact ⟨a', b', h1', h2', h3'.trans h3, h4'.trans h4⟩
mutual
theorem eqv_eq : ∀ (d e : PyData), (nkD d).isSome = true → (nkD e).isSome = true → PyData.eqv d e = true → d = e
  | .none, e, _, h, q => by cases e <;> first | rfl | cases q | cases h
  | .int i, e, _, h, q => by
    cases e with
    | int j => rw [show i = j by simpa [PyData.eqv] using q]
    | bool _ => cases h
    | _ => cases q
  | .str i, e, _, h, q => by
    cases e with
    | str j => rw [show i = j by simpa [PyData.eqv] using q]
    | _ => cases q
  | .bool _, _, h, _, _ => by cases h
  | .list _, _, h, _, _ => by cases h
  | .dict _, _, h, _, _ => by cases h
  | .tuple ds, e, h1, h2, q => by
    cases e with
    | tuple es =>
      unfold nkD at h1 h2
      rw [Option.isSome_map] at h1 h2
      rw [eqvs_eq ds es h1 h2 (by simpa [PyData.eqv] using q)]
    | _ => cases q
theorem eqvs_eq : ∀ (ds es : List PyData), (nkAll ds).isSome = true → (nkAll es).isSome = true → PyData.eqvAll ds es = true → ds = es
  | [], [], _, _, _ => rfl
  | [], _ :: _, _, _, q => by cases q
  | _ :: _, [], _, _, q => by cases q
  | d :: ds, e :: es, h1, h2, q => by
    obtain ⟨k1, h1⟩ := Option.isSome_iff_exists.mp h1
    obtain ⟨k2, h2⟩ := Option.isSome_iff_exists.mp h2
    obtain ⟨a, b, _, a1, a2⟩ := nkAll_cons h1
    obtain ⟨a', b', _, a1', a2'⟩ := nkAll_cons h2
    rw [PyData.eqvAll, Bool.and_eq_true] at q
    rw [eqv_eq d e (by rw [a1]; rfl) (by rw [a1']; rfl) q.1, eqvs_eq ds es (by rw [a2]; rfl) (by rw [a2']; rfl) q.2]
end
theorem dl_eq {d e : PyData} (ha : PySem.W.alike d e = true) (hd : (nkD d).isSome = true) (he : (nkD e).isSome = true) (h1 : PySem.W.dataLt d e = false) (h2 : PySem.W.dataLt e d = false) : d = e := by
  have et : PySem.W.keyToks d = PySem.W.keyToks e := lex_total _ _ h1 h2
  refine eqv_eq d e hd he ?_
  cases q : PyData.eqv d e with
  | true => rfl
  | false =>
    exfalso
    have := (PySem.W.toks_eqv d e ha).2 q [] [Sum.inl 0]
    have e2 : lexLt itemOrd (PySem.W.keyToks e) (PySem.W.keyToks e) = false := (listOrd itemOrd).irrefl _
    rw [et, PySem.W.lex_pre, e2] at this
    cases this
/-- alike keys are told apart by their order: sorting forgets the order -/
theorem sortD_perm {ds es : List PyData} (p : es.Perm ds) (h : srtOk ds) : sortD es = sortD ds := by
  have tr : ∀ a b c : PyData, PySem.W.dataLe false id a b = true → PySem.W.dataLe false id b c = true → PySem.W.dataLe false id a c = true := fun a b c h1 h2 => by
    have h1 : (!PySem.W.dataLt b a) = true := h1
    have h2 : (!PySem.W.dataLt c b) = true := h2
    show (!PySem.W.dataLt c a) = true
    cases q : PySem.W.dataLt c a with
    | false => rfl
    | true =>
      rcases (listOrd itemOrd).negTrans _ (PySem.W.keyToks b) _ q with z | z
      · have z : PySem.W.dataLt c b = true := z
        rw [z] at h2
        cases h2
      · have z : PySem.W.dataLt b a = true := z
        rw [z] at h1
        cases h1
  have tt : ∀ a b : PyData, (PySem.W.dataLe false id a b || PySem.W.dataLe false id b a) = true := fun a b => by
    show (!PySem.W.dataLt b a || !PySem.W.dataLt a b) = true
    cases q : PySem.W.dataLt b a with
    | false => rfl
    | true =>
      cases q2 : PySem.W.dataLt a b with
      | false => rfl
      | true =>
        have := (listOrd itemOrd).trans _ _ _ q q2
        rw [(listOrd itemOrd).irrefl] at this
        cases this
  refine List.Perm.eq_of_pairwise (le := fun a b => PySem.W.dataLe false id a b = true) (fun a b ha hb h1 h2 => ?_) (List.pairwise_mergeSort tr tt es) (List.pairwise_mergeSort tr tt ds) ((List.mergeSort_perm _ _).trans (p.trans (List.mergeSort_perm _ _).symm))
  have ma : a ∈ ds := p.mem_iff.mp (List.mem_mergeSort.mp ha)
  have mb : b ∈ ds := List.mem_mergeSort.mp hb
  have h1 : (!PySem.W.dataLt b a) = true := h1
  have h2 : (!PySem.W.dataLt a b) = true := h2
  exact dl_eq (h.1 a ma b mb) (h.2.2 a ma).2 (h.2.2 b mb).2 (by simpa using h2) (by simpa using h1)
theorem call_sortD (hc : X.calm = true) (hu : X.A.units + 64 < cLine) : CallR X (.builtin "sorted") (rSortD X.K X.w) := by
  intro pins s σ H xs us Q I r h
  obtain ⟨l, ys, ds, rfl, hs, hd, ok, hz, q⟩ := h
  rw [Vals.ref1 r]
  refine Calls.call_function_entry kind_sorted plain_sorted entry_sorted (args_sorted1 _) ?_
  unfold Builtin.«sorted»
  refine wpAny_bind (m := checkCount "sorted" 1 1 _) (wpAny_pure ?_)
  have hu2 : X.A.in1.units + 30 < cLine := by
    show X.A.units + 1 + 30 < cLine
    omega
  rcases hs with hs | hs | hs
  · obtain ⟨its, rv, ⟨o, n, ho, hcl, hdt⟩, hsz⟩ := I.list hs
    refine wpAny_bind (wpAny_collect_seq (A := X.A.in1) l (.inl rfl) ho hcl hdt.2 (fun h' k => ?_) (by rw [List.size_toArray, ← rv.length]; exact hsz))
    exact sort_new (I.kept (t' := s.toks) k) (by simpa using rv) hd ok hz hu2 fun p zs s2 np dw ez I2 => ⟨_, rfl, .ref p, _, I2, rfl, q p zs np dw ez⟩
  · obtain ⟨its, rv, ⟨o, ho, hcl, n, hdt⟩, hsz⟩ := I.tuple hs
    refine wpAny_bind (wpAny_collect_seq (A := X.A.in1) l (.inr rfl) ho hcl hdt (fun h' k => ?_) (by rw [List.size_toArray, ← rv.length]; exact hsz))
    exact sort_new (I.kept (t' := s.toks) k) (by simpa using rv) hd ok hz hu2 fun p zs s2 np dw ez I2 => ⟨_, rfl, .ref p, _, I2, rfl, q p zs np dw ez⟩
  · obtain ⟨⟨vs, sv, rv⟩, _⟩ := I.hok l _ hs
    obtain ⟨o, es, ep, t, ho, hex, hdt, e, hb, hf, hr, hl⟩ := sv.ob
    refine wpAny_bind (collect_set (A := X.A.in1) (I.ok.hd hc) ⟨o, ho, hex.1, hdt⟩ hf hb hr hl fun s1 out k hz1 g1 o1 pm => ?_)
    rw [e] at pm
    obtain ⟨us', es', h1, h2, h3, h4⟩ := perm_vals pm rv hd
    have J : Inv X pins σ H s1 := by
      have e2 : s1 = { s with heap := s1.heap, gens := s1.gens, drawn := s1.drawn, toks := s1.toks } := by
        cases s1
        cases s
        cases o1
        rfl
      rw [e2]
      exact I.call (ch := []) (Un.kept k) (I.hok.kept k) (by rw [g1]; exact I.bare) (fun _ z => nomatch z)
    refine sort_new J h1 h2 (srtOk_perm h3 ok) (by rw [h3.length_eq]; exact hz) hu2 fun p zs s2 np dw ez I2 => ⟨_, rfl, .ref p, _, I2, rfl, q p zs np (fun z hz => h4.mem_iff.mp (dw z hz)) ?_⟩
    rw [← sortD_perm h3 ok]
    exact ez
end
end FSt
namespace DL
open PySem PySem.Spec PyProof.Rows L2 Evl FSt
variable [CTab]
section
variable {K : PySem.W.Frag} {H : Hp}
mutual
theorem rp_nk : ∀ {v : V} {d : PyData}, Rp K H v d → (nkD d).isSome = true → Dp K H v d
  | _, _, .non, _ => .non
  | _, _, .int i, _ => .int i
  | _, _, .str x, _ => .str x
  | _, _, .bl b, h => by cases h
  | _, _, .lst _ _, h => by cases h
  | _, _, .dic _ _, h => by cases h
  | _, _, .tup g r, h => .tup g.sq (rp_nks r (by
      unfold nkD at h
      rw [Option.isSome_map] at h
      exact h))
theorem rp_nks : ∀ {vs : List V} {ds : List PyData}, RpAll K H vs ds → (nkAll ds).isSome = true → DpAll K H vs ds
  | _, _, .nil, _ => .nil
  | _, _, .cons g r, h => by
    obtain ⟨ks, hk⟩ := Option.isSome_iff_exists.mp h
    obtain ⟨k, r', _, h1, h2⟩ := nkAll_cons hk
    exact .cons (rp_nk g (by rw [h1]; rfl)) (rp_nks r (by rw [h2]; rfl))
end
theorem nkSome : ∀ {ds : List PyData}, (∀ d ∈ ds, (nkD d).isSome = true) → (nkAll ds).isSome = true
  | [], _ => rfl
  | d :: ds, h => by
    obtain ⟨k, hk⟩ := Option.isSome_iff_exists.mp (h d (.head _))
    obtain ⟨ks, hks⟩ := Option.isSome_iff_exists.mp (nkSome fun e he => h e (.tail _ he))
    unfold nkAll
    rw [hk, hks]
    rfl
theorem setOk_nk {ds : List PyData} (h : setOk ds) : (nkAll ds).isSome = true := by
  refine nkSome fun d hd => ?_
  rcases h with ⟨ss, rfl⟩ | h
  · obtain ⟨s, _, rfl⟩ := List.mem_map.mp hd
    rfl
  · obtain ⟨k, e, _⟩ := h d hd
    rw [e]
    rfl
theorem srtOk_nk {ds : List PyData} (h : srtOk ds) : (nkAll ds).isSome = true := nkSome fun d hd => (h.2.2 d hd).2
end
/-- the items of a list or a tuple -/
def seqD : PyData → Option (List PyData)
  | .list ds => some ds
  | .tuple ds => some ds
  | _ => none
section
variable {K : PySem.W.Frag} {T : List Addr} {w : World} {te : TE} {we : WE}
theorem Rp.seq {H : Hp} {v : V} {d : PyData} (r : Rp K H v d) {ds : List PyData} (h : seqD d = some ds) : ∃ a xs, v = .ref a ∧ (SqL K H a xs ∨ SqT K H a xs) ∧ RpAll K H xs ds := by
  cases r with
  | lst g r => cases h; exact ⟨_, _, rfl, .inl g, r⟩
  | tup g r => cases h; exact ⟨_, _, rfl, .inr g.sq, r⟩
  | non => cases h
  | bl _ => cases h
  | int _ => cases h
  | str _ => cases h
  | dic _ _ => cases h
theorem kSetD {X : Cx} (h : X.K = K) (hw : X.w = w) (hc : X.calm = true) (hu : X.A.units + 64 < cLine) : CallR X (.type "set") (rSetD K w) := h ▸ hw ▸ call_setD hc hu
theorem kSortD {X : Cx} (h : X.K = K) (hw : X.w = w) (hc : X.calm = true) (hu : X.A.units + 64 < cLine) : CallR X (.builtin "sorted") (rSortD K w) := h ▸ hw ▸ call_sortD hc hu
/-- set(a), then what is asked of its members -/
def setOfW (a : WE) (k : List PyData → (PyData → Prop) → Prop) : WE := fun ρ Q => a ρ fun d => ∃ ds, seqD d = some ds ∧ setOk ds ∧ ds.length < 64 ∧ ∀ es : List PyData, es.Nodup → (∀ x, x ∈ es ↔ x ∈ ds) → k es Q
def lenSetW (a : WE) : WE := setOfW a fun es Q => Q (.int (es.length : Nat))
def sortSetN (a : WE) : WL := fun ρ Q => a ρ fun d => ∃ ds, seqD d = some ds ∧ setOk ds ∧ ds.length < 64 ∧ ∀ es : List PyData, es.Nodup → (∀ x, x ∈ es ↔ x ∈ ds) → srtOk es ∧ es.length ≤ 100000 ∧ Q (sortD es)
theorem rp_zip {H : Hp} : ∀ {ys : List V} {ds : List PyData}, RpAll K H ys ds → ∀ z ∈ ys.zip ds, Rp K H z.1 z.2
  | _, _, .nil, z, h => absurd h List.not_mem_nil
  | _, _, .cons r t, z, h => by
    rcases List.mem_cons.mp h with rfl | h
    · exact r
    · exact rp_zip t z h
theorem rp_mem {H : Hp} : ∀ {l : List (V × PyData)}, (∀ z ∈ l, Rp K H z.1 z.2) → RpAll K H (l.map (·.1)) (l.map (·.2))
  | [], _ => .nil
  | x :: l, h => .cons (h x (.head _)) (rp_mem fun y hy => h y (.tail _ hy))
/-- sorted(set(a)) -/
theorem dn_sortSet (h : DE K T te we) : DN K T (tCB (rSortD K w) (tCons (tCB (rSetD K w) (tCons te tNil)) tNil)) (sortSetN we) := by
  intro σ ρ H F P q H1 e Q k
  refine h σ ρ H F _ q H1 e _ fun v d Hk H2 g2 r2 p2 => ?_
  obtain ⟨ds, hs, ok, hl, p2⟩ := p2
  obtain ⟨a, xs, rfl, hx, rx⟩ := r2.seq hs
  have hx2 : SqL K H2 a xs ∨ SqT K H2 a xs := hx.imp (ex_l g2.sub) (ex_t g2.sub)
  refine ⟨a, xs, ds, rfl, hx2, rp_nks (rx.mono g2.sub) (setOk_nk ok), ok, hl, fun p zs hp hz nd mem => ?_⟩
  obtain ⟨so, sl, p3⟩ := p2 _ nd mem
  have rz : RpAll K Hk (zs.map (·.1)) (zs.map (·.2)) := rp_mem fun z m => rp_zip rx z (hz z m)
  have g3 := g2.trans (Grow.hide g2.sub hp (SetHO w p (zs.map (·.1))))
  refine ⟨p, zs.map (·.1), zs.map (·.2), rfl, .inr (.inr upd_same), rp_nks (rz.mono g3.sub) (srtOk_nk so), so, sl, fun p' zs' hp' hz' ez => ?_⟩
  refine k p' _ _ Hk _ (g3.trans (Grow.hide g3.sub hp' _)) (rp_mem fun z m => rp_zip rz z (hz' z m)) ?_ (ex_none g3.sub hp') upd_same (ex_none g3.all hp')
  rw [ez]
  exact p3
end
end DL
namespace FDc
open PySem PySem.Spec PyProof.Rows L2 DL
variable [CTab]
/-- v[u] behind both, by what the kind's own method answers -/
theorem tail_of {prog : Program} {w : World} {A : Around} {E : Value → Shared → Prop} {s : Shared} {value slice : Expr} {v u : Value} {T id : String} {Q : Value → Shared → Prop} (hl : typeLookup (.type T) "__getitem__" = pure (some (.builtin id)))
    (hT : s.TypeIs v T) (hs : subscripted slice false v u = operate [v, u] (getItem v u)) (h : wpAny (model prog w) A (getItem v u) Q E s) : wpAny (model prog w) A (subscriptTail value slice v u) Q E s := by
  have fin : wpAny (model prog w) A (subscripted slice false v u) (fun r s' => wpAny (model prog w) A (letTemporaryGo value v r >>= fun _ => pure r) Q E s') E s :=
    hs ▸ wpAny_operating (thn h fun r s' q => wpAny_bind (wpAny_letTemporaryGo (wpAny_pure q)))
  unfold subscriptTail
  rw [getitemInPython_of_ne hT.not_modules]
  refine wpAny_bind (wpAny_bind (wpAny_specialOf hT hl ?_))
  first
    | exact wpAny_pure (wpAny_bind fin)
    | exact wpAny_bind (wpAny_pure (wpAny_bind fin))
    | exact wpAny_bind fin
/-- what the dict at a holds at the key y -/
def DGetN (K : PySem.W.Frag) (H : Hp) (a : Addr) (y : V) (r : Option V) : Prop := ∃ xs k b, y = .ref b ∧ FzN H a xs ∧ KeysAt K H xs ∧ KeyAt K H k (.ref b) ∧ k.depth ≤ 8 ∧ r = valV (pn xs) k
def DGetX (K : PySem.W.Frag) (H : Hp) (a : Addr) (y : V) (r : Option V) : Prop := (∃ kvs k, Rd H a (.dK kvs) ∧ y = kV k ∧ r = valV kvs k) ∨ DGetN K H a y r
section
variable {X : Cx}
def rDGet (K : PySem.W.Frag) : R2 := fun x y H Q => ∃ a v, x = .ref a ∧ DGetX K H a y (some v) ∧ Q v H
def rDIn (K : PySem.W.Frag) : R2 := fun y x H Q => ∃ a o, x = .ref a ∧ DGetX K H a y o ∧ Q (.bl o.isSome) H
theorem room_n {A : Around} {P : Program} {w : World} (hu : A.units + 9 < cLine) : (nestedKind P w).room A.in1 := by
  show A.units + 1 + 8 < cLine
  omega
section
variable {pins : List (Addr × Obj)} {σ : L2.St} {H : Hp} {s : Shared} {a : Addr} {y v : V} {u : Value} {o : Option V} {E : Value → Shared → Prop}
theorem dx_type (I : Inv X pins σ H s) (g : DGetX X.K H a y o) : s.TypeIs (.ref a) "dict" := by
  rcases g with ⟨kvs, k, e, _⟩ | ⟨xs, k, b, _, f, _⟩
  · obtain ⟨_, _, vs, _, dd⟩ := dk_rd I.hok e
    exact dd.typeIs
  · obtain ⟨_, ob, h, d⟩ := dn_at I f.rd
    exact ⟨ob, h, d.ex.1⟩
theorem dx_getItem {Q : Value → Shared → Prop} (hw : X.w = CTab.w) (hu : X.A.units + 9 < cLine) (I : Inv X pins σ H s) (g : DGetX X.K H a y (some v)) (ry : RelV y u) (h : ∀ w' s', Inv X pins σ H s' → RelV v w' → Q w' s') :
    wpAny (model X.prog X.w) X.A (getItem (.ref a) u) Q E s := by
  rcases g with ⟨kvs, k, e, ey, l⟩ | ⟨xs, k, b, ey, f, hk, kb, dp, l⟩
  · exact d_getItem (by omega) I (.inl ⟨kvs, k, e, ey, l⟩) ry h
  · subst ey
    cases (show u = Value.ref b from ry)
    obtain ⟨_, _, _, ys, r, d⟩ := dn_dict hw I f.rd hk
    obtain ⟨w', hw', rw'⟩ := RelO.some_of (v := v) (o := valueAt (pairsH ys) k) (by rw [l]; exact (kv_pn r).val k)
    rw [valueAt_pairsH] at hw'
    obtain ⟨p, hp, hp2⟩ := Option.map_eq_some_iff.mp hw'
    refine wpAny_getItem_heap (room_n hu) (⟨KeyAt.is I kb rfl, dp⟩ : (nestedKind X.prog X.w).is s.heap k b) d hp ?_
    rw [hp2]
    exact h w' _ (I.tok _) rw'
theorem dx_in {Q : Value → Shared → Prop} (hw : X.w = CTab.w) (hu : X.A.units + 9 < cLine) (I : Inv X pins σ H s) (g : DGetX X.K H a y o) (ry : RelV y u) (h : ∀ s', Inv X pins σ H s' → Q (.bool o.isSome) s') :
    wpAny (model X.prog X.w) X.A (compareOp .In u (.ref a)) Q E s := by
  rcases g with ⟨kvs, k, e, ey, l⟩ | ⟨xs, k, b, ey, f, hk, kb, dp, l⟩
  · exact d_in (by omega) I (.inl ⟨kvs, k, e, ey, l⟩) ry h
  · subst ey
    cases (show u = Value.ref b from ry)
    obtain ⟨hd, _, _, ys, r, d⟩ := dn_dict hw I f.rd hk
    refine wpAny_in_heap (room_n hu) (⟨KeyAt.is I kb rfl, dp⟩ : (nestedKind X.prog X.w).is s.heap k b) hd d ?_
    have q := ((kv_pn r).val k).isSome_eq
    rw [valueAt_pairsH, Option.isSome_map] at q
    rw [← q, ← l]
    exact h _ (I.tok _)
end
theorem ix_dict (hw : X.w = CTab.w) (hu : X.A.units + 9 < cLine) : IxR X (rDGet X.K) := by
  intro value slice pins s σ H x y v u Q I rx ry h hs
  obtain ⟨a, z, rfl, g, q⟩ := h
  cases rx
  exact tail_of PySem.F.slot_dict_getitem.lookup (dx_type I g) hs (dx_getItem hw hu I g ry fun w' s3 I3 rw' => ⟨z, H, I3, rw', q⟩)
theorem op_din (hw : X.w = CTab.w) (hu : X.A.units + 9 < cLine) : OpR X (compareOp .In) (rDIn X.K) := by
  intro pins s σ H y x v u Q I ry rx h
  obtain ⟨a, o, rfl, g, q⟩ := h
  cases rx
  exact dx_in hw hu I g ry fun s3 I3 => ⟨.bl o.isSome, H, I3, rfl, q⟩
/-- a dict's raw entries, locked -/
theorem raw_of {pins : List (Addr × Obj)} {σ : L2.St} {H : Hp} {s : Shared} {a : Addr} {n : Nat} (I : Inv X pins σ H s) (h : (∃ o, ∃ kvs : List (Key × V), H a = some (.frz o (.dK kvs)) ∧ kvs.length = n) ∨ ∃ xs : List Ent, FzN H a xs ∧ xs.length = n) :
    (a == sysModules) = false ∧ n ≤ sizeLine ∧ ∃ es ep, s.heap.DictRaw a es ep ∧ es.size = n := by
  rcases h with ⟨o, kvs, h, rfl⟩ | ⟨xs, f, rfl⟩
  · obtain ⟨h1, h2, h3, es, ep, vs, h4, h5, _⟩ := I.frzK h
    exact ⟨h1, (dk_rd I.hok (.inr ⟨o, h⟩)).1, es, ep, ⟨o, h2, h3, h4⟩, h5⟩
  · obtain ⟨h1, h2, es, ep, ys, h3, h4, h5⟩ := dn_raw I f.rd
    refine ⟨h1, h2, es, ep, h3, ?_⟩
    rw [← Array.length_toList, h4, List.length_map]
    exact (Paired.length h5).symm
def rLenZ : List V → Hp → VK → Prop := fun xs H Q => ∃ a n, xs = [V.ref a] ∧ ((∃ o, ∃ kvs : List (Key × V), H a = some (.frz o (.dK kvs)) ∧ kvs.length = n) ∨ ∃ xs : List Ent, FzN H a xs ∧ xs.length = n) ∧ Q (.int (n : Nat)) H
theorem call_lenZ : CallR X (.builtin "len") rLenZ := by
  intro pins s σ H xs us Q I r h
  obtain ⟨a, n, rfl, ha, q⟩ := h
  rw [Vals.ref1 r]
  obtain ⟨h1, h2, es, ep, h3, h4⟩ := raw_of I ha
  have hz : n ≤ 16777216 := by rw [sizeLine_eq] at h2; exact h2
  refine call_len_slot (id := "dict.__len__") (n := (es.size : Nat)) h3.typeIs F.slot_dict_len (fun Q' q' => call_len_raw h1 h3 q') (by omega) (by omega) ⟨.int (n : Nat), H, (I.tok _).tok _, ⟨_, by rw [h4]⟩, q⟩
/-- the keys of a raw dict, one after the other -/
theorem walks_raw {P : Program} {w : World} {A : Around} (hh : A.handled = none) (I d : Addr) (hne : d ≠ I) (es : Array DictEntry) (ep : Nat) :
    Walks P w A I [I, d] [I] es.size (fun i v => ∃ en, es[i]? = some en ∧ v = en.key) (fun i h => h.IsKeyIter I d i es.size ep ∧ h.DictRaw d es ep) where
  sub := fun b hb => by simp at hb; simp [hb]
  frame := fun _ _ _ st hk => ⟨st.1.at fun o e => hk I (by simp) o e, st.2.at fun o e => hk d (by simp) o e⟩
  item := fun i s Q E hi st hQ => by
    obtain ⟨o, ho, hx, hd⟩ := st.2
    refine next_key_item st.1 ho hd rfl (Array.getElem?_eq_getElem hi) fun h' hit sb => ?_
    exact hQ _ h' s.toks ⟨_, Array.getElem?_eq_getElem hi, rfl⟩ ⟨hit, st.2.at fun o' e => (sb.2 d hne).trans e⟩ fun b o' hb e => (sb.2 b fun z => hb (by simp [z])).trans e
  done := fun s Q E st hQ => by
    obtain ⟨o, ho, hx, hd⟩ := st.2
    exact next_key_end hh st.1 ho hd rfl (Nat.le_refl _) fun h' eb => hQ h' s.toks fun b o' hb e => eb b o' (fun z => hb (by simp [z])) e
  self := fun _ _ _ _ st hQ => wpAny_pyIter_keyiter st.1 hQ
theorem src_raw {P : Program} {w : World} {d : Addr} {es : Array DictEntry} {ep : Nat} (lo : (d == sysModules) = false) : PySem.W.KdlSrc P w "dict" d d es.size (fun i v => ∃ en, es[i]? = some en ∧ v = en.key) (fun h => h.DictRaw d es ep) where
  type := fun _ hm => hm.typeIs
  there := fun _ hm => ⟨hm.lt_size, hm.lt_size⟩
  keep := fun _ _ hm hk => hm.at fun o e => hk d (.inl rfl) o e
  notList := by decide
  notTuple := by decide
  hint := fun _ _ _ _ hm hq => PySem.W.kdl_hint_dict hm.typeIs hq
  iter := fun _ _ hh hm => ⟨_, _, (fun _ _ hq => let ⟨_, ho, hx, hd⟩ := hm; iter_keys lo ho hx hd hq), walks_raw hh _ d (Nat.ne_of_lt hm.lt_size) es ep, ⟨⟨_, Heap.get?_push_size _ rfl, rfl, rfl⟩, hm.push _⟩⟩
/-- list(d) of a dict with tuple keys -/
def rListT : List V → Hp → VK → Prop := fun xs H Q => ∃ (a : Addr) (es : List Ent), xs = [V.ref a] ∧ FzN H a es ∧ ∀ (p : Addr), H p = none → Q (.ref p) (upd H p (.lst (es.map fun x => .ref x.2.1)))
theorem vals_ent {xs : List Ent} : ∀ {us : List Value}, us.length = xs.length → (∀ (i : Nat) (x : Ent) (u : Value), xs[i]? = some x → us[i]? = some u → u = .ref x.2.1) → Vals (xs.map fun x => V.ref x.2.1) us := by
  induction xs with
  | nil =>
    intro us hl _
    cases us with
    | nil => exact .nil
    | cons _ _ => cases hl
  | cons x xs ih =>
    intro us hl h
    cases us with
    | nil => cases hl
    | cons u us =>
      exact .cons (h 0 x u rfl rfl) (ih (Nat.succ.inj hl) fun i x' u' e1 e2 => h (i + 1) x' u' (by simpa using e1) (by simpa using e2))
theorem call_listT (hc : X.calm = true) : CallR X (.type "list") rListT := by
  intro pins s σ H xs us Q I r h
  obtain ⟨a, en, rfl, ha, q⟩ := h
  rw [Vals.ref1 r]
  obtain ⟨h1, hz, es, ep, ys, raw, h4, h5⟩ := dn_raw I ha.rd
  have sz : es.size = en.length := by
    rw [← Array.length_toList, h4, List.length_map]
    exact (Paired.length h5).symm
  refine PySem.W.kdl_call (src_raw h1) (I.ok.hd hc) raw (by rw [sz]; exact hz) fun h' tk acc c' hk hD hacc => ?_
  have vl : Vals (en.map fun x => V.ref x.2.1) acc.toList := vals_ent (by rw [Array.length_toList, hacc.1, sz]) fun i x u e1 e2 => by
    obtain ⟨e, e6, e7⟩ := hacc.2 i u (by rw [← Array.getElem?_toList]; exact e2)
    obtain ⟨y, hy, ry⟩ := relE_get' h5 e1
    rw [← Array.getElem?_toList, h4, List.getElem?_map, hy] at e6
    cases e6
    rw [e7, ry.2.1]
    rfl
  refine ⟨.ref s.heap.objs.size, upd H s.heap.objs.size (.lst (en.map fun x => .ref x.2.1)), I.laid (t' := tk) hk (Nat.le_refl _) ⟨by rw [List.length_map]; exact hz, acc.toList, c', vl, by rw [Array.toArray_toList]; exact hD⟩, rfl, q _ (I.hok.fresh (Nat.le_refl _))⟩
variable {e : Expr} {te : TE} {p apos cpos pos : Pos}
end
end FDc
namespace DL
open PySem PySem.Spec PyProof.Rows L2 Evl FDc
variable [CTab]
inductive KeyX where
  | k (a : Key)
  | t (a : List NestedKey)
def keyT : Option (List NestedKey) → Option KeyX
  | some ks => if NestedKey.depthAll ks ≤ 7 then some (.t ks) else none
  | none => none
def keyX : PyData → Option KeyX
  | .tuple ds => keyT (nkTs ds)
  | .int i => some (.k (.inl i))
  | .str s => some (.k (.inr s))
  | _ => none
theorem keyX_tup {ds : List PyData} {ks : List NestedKey} (h : nkTs ds = some ks) : keyX (.tuple ds) = if NestedKey.depthAll ks ≤ 7 then some (.t ks) else none := by
  show keyT (nkTs ds) = _
  rw [h]
  rfl
theorem keyX_k {d : PyData} {k : Key} (h : keyX d = some (.k k)) : d = kD k := by
  cases d with
  | tuple ds =>
    cases e : nkTs ds with
    | none =>
      have h : keyT (nkTs ds) = _ := h
      rw [e] at h
      cases h
    | some ks =>
      rw [keyX_tup e] at h
      split at h <;> cases h
  | int i => cases h; rfl
  | str i => cases h; rfl
  | _ => cases h
theorem keyX_t {d : PyData} {ks : List NestedKey} (h : keyX d = some (.t ks)) : d = .tuple (NestedKey.datas ks) ∧ (NestedKey.tup ks).depth ≤ 8 := by
  cases d with
  | tuple ds =>
    cases e : nkTs ds with
    | none =>
      have h : keyT (nkTs ds) = _ := h
      rw [e] at h
      cases h
    | some r =>
      rw [keyX_tup e] at h
      split at h
      · rename_i c
        cases h
        refine ⟨by rw [nkTs_eq e], ?_⟩
        show NestedKey.depthAll ks + 1 ≤ 8
        omega
      · cases h
  | int i => cases h
  | str i => cases h
  | _ => cases h
theorem eqv_kD (a b : Key) : PyData.eqv (kD a) (kD b) = decide (a = b) := by
  cases a <;> cases b <;> simp [kD, PyData.eqv] <;> rw [Bool.eq_iff_iff] <;> simp
theorem eqv_kDs : ∀ (a b : List Key), PyData.eqvAll (a.map kD) (b.map kD) = decide (a = b)
  | [], [] => by simp [PyData.eqvAll]
  | [], _ :: _ => by simp [PyData.eqvAll]
  | _ :: _, [] => by simp [PyData.eqvAll]
  | a :: as, b :: bs => by
    rw [List.map_cons, List.map_cons, PyData.eqvAll, eqv_kD, eqv_kDs as bs]
    rw [Bool.eq_iff_iff]
    simp
theorem eqv_kDt (a b : List Key) : PyData.eqv (.tuple (a.map kD)) (.tuple (b.map kD)) = decide (a = b) := by
  rw [PyData.eqv, eqv_kDs]
/-- the value at a key -/
def valD (kvs : List (PyData × PyData)) (k : PyData) : Option PyData := (kvs.find? fun p => PyData.eqv p.1 k).map (·.2)
def keysD (kvs : List (PyData × PyData)) : List PyData := kvs.map (·.1)
def samX : Option KeyX → Option KeyX → Bool
  | some (.k _), some (.k _) => true
  | some (.t _), some (.t _) => true
  | _, _ => false
def sameK : List (PyData × PyData) → PyData → Bool
  | (k, _) :: _, d => samX (keyX k) (keyX d)
  | [], _ => false
theorem sameK_cons (k v : PyData) (r : List (PyData × PyData)) (d : PyData) : sameK ((k, v) :: r) d = samX (keyX k) (keyX d) := rfl
section
variable {K : PySem.W.Frag} {H : Hp} {κ : Type} [DecidableEq κ] {kf : κ → PyData}
theorem rpkv_val (kf_eq : ∀ a b, PyData.eqv (kf a) (kf b) = decide (a = b)) : ∀ {kvs : List (κ × V)} {ds : List (PyData × PyData)}, RpKv K H (kvs.map fun p => (kf p.1, p.2)) ds → ∀ k, (valV kvs k = none ∧ valD ds (kf k) = none) ∨ ∃ v d, valV kvs k = some v ∧ valD ds (kf k) = some d ∧ Rp K H v d
  | [], _, .nil, k => .inl ⟨rfl, rfl⟩
  | p :: kvs, _, .cons r t, k => by
    unfold valV valD
    rw [List.find?_cons, List.find?_cons]
    rw [kf_eq]
    by_cases e : p.1 = k
    · rw [decide_eq_true e]
      exact .inr ⟨p.2, _, rfl, rfl, r⟩
    · rw [decide_eq_false e]
      exact rpkv_val kf_eq t k
theorem rpkv_keys : ∀ {kvs : List (PyData × V)} {ds : List (PyData × PyData)}, RpKv K H kvs ds → ds.map (·.1) = kvs.map (·.1)
  | _, _, .nil => rfl
  | _, _, .cons _ t => congrArg _ (rpkv_keys t)
theorem rpkv_len {kvs : List (PyData × V)} {ds : List (PyData × PyData)} (r : RpKv K H kvs ds) : kvs.length = ds.length := by
  have := congrArg List.length (rpkv_keys r)
  rw [List.length_map, List.length_map] at this
  exact this.symm
theorem rp_kD {v : V} {k : Key} (r : Rp K H v (kD k)) : v = kV k := by
  cases k with
  | inl i => cases r; rfl
  | inr s => cases r; rfl
theorem rp_kV (k : Key) : Rp K H (kV k) (kD k) := by
  cases k with
  | inl i => exact .int i
  | inr s => exact .str s
theorem rp_kVs : ∀ ks : List Key, RpAll K H (ks.map kV) (ks.map kD)
  | [] => .nil
  | k :: ks => .cons (rp_kV k) (rp_kVs ks)
/-- a told dict with tuples as keys -/
def DicN (K : PySem.W.Frag) (H : Hp) (a : Addr) (kvs : List (PyData × PyData)) : Prop := ∃ xs : List Ent, FzN H a xs ∧ KeysAt K H xs ∧ RpKv K H (entD xs) kvs
/-- what stands for a dict that is no instance -/
theorem Rp.dict {v : V} {kvs : List (PyData × PyData)} (r : Rp K H v (.dict kvs)) (h : insB kvs = false) : ∃ a, v = .ref a ∧
    ((∃ ks : List (Key × V), Fz H a (.dK ks) ∧ RpKv K H (ks.map fun p => (kD p.1, p.2)) kvs) ∨ DicN K H a kvs) := by
  cases r with
  | dic g r =>
    cases g with
    | k g => exact ⟨_, rfl, .inl ⟨_, g, r⟩⟩
    | n g hk => exact ⟨_, rfl, .inr ⟨_, g, hk, r⟩⟩
    | o _ _ _ _ _ =>
      cases r
      cases h
theorem rp_key {v : V} {d : PyData} {ks : List NestedKey} (r : Rp K H v d) (h : keyX d = some (.t ks)) : ∃ b, v = .ref b ∧ KeyAt K H (.tup ks) (.ref b) := by
  obtain ⟨e, hn⟩ := keyX_t h
  rw [e] at r
  have q := rp_keyAt (k := .tup ks) r
  cases r with
  | tup g r => exact ⟨_, rfl, q⟩
theorem sameK_k {ks : List (Key × V)} {kvs : List (PyData × PyData)} (r : RpKv K H (ks.map fun p => (kD p.1, p.2)) kvs) {d : PyData} (h : sameK kvs d = true) : ∃ k, keyX d = some (.k k) := by
  cases ks with
  | nil => cases r; cases h
  | cons p ks =>
    cases r with
    | cons _ _ =>
      have e : keyX (kD p.1) = some (.k p.1) := by cases p.1 <;> rfl
      rw [sameK_cons, e] at h
      cases q : keyX d with
      | none => rw [q] at h; cases h
      | some x =>
        cases x with
        | k k => exact ⟨k, rfl⟩
        | t k => rw [q] at h; cases h
theorem keyX_nk (ks : List NestedKey) : keyX (.tuple (NestedKey.datas ks)) = none ∨ keyX (.tuple (NestedKey.datas ks)) = some (.t ks) := by
  rw [keyX_tup (nkTs_data ks)]
  split
  · exact .inr rfl
  · exact .inl rfl
theorem keyAt_tup {k : NestedKey} {b : Addr} (h : KeyAt K H k (.ref b)) : ∃ ks, k = .tup ks := by
  cases h with
  | tup _ _ => exact ⟨_, rfl⟩
theorem sameK_t {xs : List Ent} {kvs : List (PyData × PyData)} (hk : KeysAt K H xs) (r : RpKv K H (entD xs) kvs) {d : PyData} (h : sameK kvs d = true) : ∃ k, keyX d = some (.t k) := by
  cases xs with
  | nil =>
    have r : RpKv K H [] kvs := r
    cases r
    cases h
  | cons p ks =>
    have r : RpKv K H ((p.1.data, p.2.2) :: entD ks) kvs := r
    obtain ⟨kk, hkk⟩ := keyAt_tup (hk p (.head _))
    cases r with
    | cons _ _ =>
      rw [sameK_cons, hkk] at h
      have h : samX (keyX (.tuple (NestedKey.datas kk))) (keyX d) = true := h
      rcases keyX_nk kk with e | e
      · rw [e] at h
        cases h
      rw [e] at h
      cases q : keyX d with
      | none => rw [q] at h; cases h
      | some x =>
        cases x with
        | t k => exact ⟨k, rfl⟩
        | k k => rw [q] at h; cases h
end
def dgetW : W2
  | .dict kvs, k, Q => insB kvs = false ∧ sameK kvs k = true ∧ ∃ d, valD kvs k = some d ∧ Q d
  | _, _, _ => False
def dinW : W2
  | k, .dict kvs, Q => insB kvs = false ∧ sameK kvs k = true ∧ Q (.bool (valD kvs k).isSome)
  | _, _, _ => False
def dniW : W2
  | k, .dict kvs, Q => insB kvs = false ∧ sameK kvs k = true ∧ Q (.bool (!(valD kvs k).isSome))
  | _, _, _ => False
section
variable {K : PySem.W.Frag} {T : List Addr}
/-- what a dict gives at a key of its kind -/
theorem dget_rp {H H1 : Hp} {v1 v2 : V} {kvs : List (PyData × PyData)} {k : PyData} (e : Ex H H1) (r1 : Rp K H v1 (.dict kvs)) (r2 : Rp K H v2 k) (hi : insB kvs = false) (hs : sameK kvs k = true) :
    ∃ a o, v1 = .ref a ∧ DGetX K H1 a v2 o ∧ ((o = none ∧ valD kvs k = none) ∨ ∃ v d, o = some v ∧ valD kvs k = some d ∧ Rp K H v d) := by
  obtain ⟨a, rfl, h⟩ := r1.dict hi
  rcases h with ⟨ks, f, r⟩ | ⟨xs, f, hk, r⟩
  · obtain ⟨x, hx⟩ := sameK_k r hs
    have ek := keyX_k hx
    subst ek
    refine ⟨a, valV ks x, rfl, .inl ⟨ks, x, (fzEx e f).rd, rp_kD r2, rfl⟩, ?_⟩
    rcases rpkv_val eqv_kD r x with h | ⟨v, d, h1, h2, h3⟩
    · exact .inl h
    · exact .inr ⟨v, d, h1, h2, h3⟩
  · obtain ⟨x, hx⟩ := sameK_t hk r hs
    obtain ⟨b, rfl, hb⟩ := rp_key r2 hx
    obtain ⟨ek, dp⟩ := keyX_t hx
    subst ek
    refine ⟨a, valV (pn xs) (.tup x), rfl, .inr ⟨xs, .tup x, b, rfl, fzEx e f, hk.mono e, hb.mono e, dp, rfl⟩, ?_⟩
    rcases rpkv_val eqv_nkd r (.tup x) with h | ⟨v, d, h1, h2, h3⟩
    · exact .inl h
    · exact .inr ⟨v, d, h1, h2, h3⟩
theorem ow_dget : OpW K (rDGet K) dgetW := fun d e Q h => by
  unfold dgetW at h
  split at h
  · obtain ⟨hi, hs, d, hd, q⟩ := h
    intro v1 v2 H H1 ex r1 r2 Q' k
    obtain ⟨a, o, rfl, g, z⟩ := dget_rp ex r1 r2 hi hs
    rcases z with ⟨_, z⟩ | ⟨v, d', rfl, z, rv⟩
    · rw [hd] at z
      cases z
    · rw [hd] at z
      cases z
      exact ⟨a, v, rfl, g, k _ _ H H1 (Grow.refl ex) rv q⟩
  · exact h.elim
theorem isSome_of {H : Hp} {o : Option V} {x : Option PyData} (z : (o = none ∧ x = none) ∨ ∃ v d, o = some v ∧ x = some d ∧ Rp K H v d) : o.isSome = x.isSome := by
  rcases z with ⟨rfl, rfl⟩ | ⟨v, d, rfl, rfl, _⟩ <;> rfl
theorem ow_din : OpW K (rDIn K) dinW := fun d e Q h => by
  unfold dinW at h
  split at h
  · obtain ⟨hi, hs, q⟩ := h
    intro v1 v2 H H1 ex r1 r2 Q' k
    obtain ⟨a, o, rfl, g, z⟩ := dget_rp ex r2 r1 hi hs
    exact ⟨a, o, rfl, g, k _ _ H H1 (Grow.refl ex) (.bl _) (by rw [isSome_of z]; exact q)⟩
  · exact h.elim
def rIxA (K : PySem.W.Frag) : R2 := fun x y H Q => rIx K x y H Q ∨ rDGet K x y H Q
def rInA (K : PySem.W.Frag) : R2 := fun x y H Q => rInU K x y H Q ∨ rDIn K x y H Q
def isDict : PyData → Bool
  | .dict _ => true
  | _ => false
def ixAW : W2 := fun d k Q => bif isDict d then dgetW d k Q else ixW d k Q
def inAW : W2 := fun k d Q => bif isDict d then dinW k d Q else inW k d Q
def niAW : W2 := fun k d Q => bif isDict d then dniW k d Q else niW k d Q
theorem kIxA {X : Cx} (h : X.K = K) (hu : X.A.units + 65 < cLine) (hw : X.w = CTab.w := by rfl) : IxR X (rIxA K) := IxR.or (kIx h) (by subst h; exact ix_dict hw (by omega))
theorem kInA {X : Cx} (h : X.K = K) (hu : X.A.units + 65 < cLine) (hw : X.w = CTab.w := by rfl) : OpR X (compareOp .In) (rInA K) := opOr (kIn h hu) (by subst h; exact op_din hw (by omega))
theorem ow_ixA : OpW K (rIxA K) ixAW := fun d e Q h => by
  unfold ixAW at h
  cases c : isDict d with
  | true => rw [c] at h; exact RD.r (ow_dget d e Q h)
  | false => rw [c] at h; exact RD.l (ow_ix d e Q h)
theorem ow_inA : OpW K (rInA K) inAW := fun d e Q h => by
  unfold inAW at h
  cases c : isDict e with
  | true => rw [c] at h; exact RD.r (ow_din d e Q h)
  | false => rw [c] at h; exact RD.l (ow_in d e Q h)
/-- len -/
theorem callOr {X : Cx} {f : Value} {r r' : List V → Hp → VK → Prop} (h : CallR X f r) (h' : CallR X f r') : CallR X f (fun xs H Q => r xs H Q ∨ r' xs H Q) := by
  intro pins s σ H xs us Q I rv q
  rcases q with q | q
  · exact h pins s σ H xs us Q I rv q
  · exact h' pins s σ H xs us Q I rv q
def rLenA (K : PySem.W.Frag) : List V → Hp → VK → Prop := fun xs H Q => rLen K xs H Q ∨ rLenZ xs H Q
theorem kLenA {X : Cx} (h : X.K = K) : CallR X (.builtin "len") (rLenA K) := callOr (kLen h) call_lenZ
def lenAW : W1
  | [.dict kvs], Q => insB kvs = false ∧ Q (.int (kvs.length : Nat))
  | ds, Q => lenW ds Q
theorem cw_lenA : CbW K (rLenA K) lenAW := fun ds Q h => by
  unfold lenAW at h
  split at h
  · obtain ⟨hi, q⟩ := h
    intro vs H H1 e r Q' k
    cases r with
    | cons r rr =>
      cases rr
      obtain ⟨a, rfl, g⟩ := r.dict hi
      refine .inr ⟨a, _, rfl, ?_, k _ _ H H1 (Grow.refl e) (.int _) q⟩
      rcases g with ⟨ks, ⟨o, f⟩, r⟩ | ⟨xs, f, _, r⟩
      · exact .inl ⟨o, ks, e _ _ f, by rw [← rpkv_len r, List.length_map]⟩
      · exact .inr ⟨xs, fzEx e f, by rw [← rpkv_len r, entD, List.length_map, pn_len]⟩
  · intro vs H H1 e r Q' k
    exact .inl (cw_len _ Q h vs H H1 e r Q' k)
end
end DL
namespace FDc
open PySem PySem.Spec PyProof.Rows L2 DL
end FDc
namespace DL
open PySem PySem.Spec PyProof.Rows L2 Evl FDc
variable [CTab]
def putD (kvs : List (PyData × PyData)) (k v : PyData) : List (PyData × PyData) :=
  if (kvs.any fun p => PyData.eqv p.1 k) = true then kvs.map (fun p => if PyData.eqv p.1 k = true then (p.1, v) else p) else kvs ++ [(k, v)]
def mergeD (kvs more : List (PyData × PyData)) : List (PyData × PyData) := more.foldl (fun acc p => putD acc p.1 p.2) kvs
section
variable {K : PySem.W.Frag} {H : Hp} {κ : Type} [DecidableEq κ] {kf : κ → PyData}
theorem RpKv.append : ∀ {a b : List (PyData × V)} {c d : List (PyData × PyData)}, RpKv K H a c → RpKv K H b d → RpKv K H (a ++ b) (c ++ d)
  | _, _, _, _, .nil, s => s
  | _, _, _, _, .cons h r, s => .cons h (RpKv.append r s)
theorem rpkv_any (kf_eq : ∀ a b, PyData.eqv (kf a) (kf b) = decide (a = b)) : ∀ {kvs : List (κ × V)} {ds : List (PyData × PyData)}, RpKv K H (kvs.map fun p => (kf p.1, p.2)) ds → ∀ k, (ds.any fun p => PyData.eqv p.1 (kf k)) = kvs.any fun kv => decide (kv.1 = k)
  | [], _, .nil, k => rfl
  | p :: kvs, _, .cons r t, k => by
    rw [List.any_cons, List.any_cons, rpkv_any kf_eq t k, kf_eq]
theorem rpkv_repl (kf_eq : ∀ a b, PyData.eqv (kf a) (kf b) = decide (a = b)) {v : V} {d : PyData} (rv : Rp K H v d) : ∀ {kvs : List (κ × V)} {ds : List (PyData × PyData)}, RpKv K H (kvs.map fun p => (kf p.1, p.2)) ds → ∀ k,
    RpKv K H ((kvs.map fun kv => if kv.1 = k then (kv.1, v) else kv).map fun p => (kf p.1, p.2)) (ds.map fun p => if PyData.eqv p.1 (kf k) = true then (p.1, d) else p)
  | [], _, .nil, k => .nil
  | p :: kvs, _, .cons (d := d0) r t, k => by
    rw [List.map_cons, List.map_cons, List.map_cons]
    have e := kf_eq p.1 k
    by_cases c : p.1 = k
    · rw [if_pos c, if_pos (by rw [e]; exact decide_eq_true c)]
      exact .cons rv (rpkv_repl kf_eq rv t k)
    · rw [if_neg c, if_neg (by rw [e, decide_eq_false c]; exact Bool.false_ne_true)]
      exact .cons r (rpkv_repl kf_eq rv t k)
theorem rpkv_put (kf_eq : ∀ a b, PyData.eqv (kf a) (kf b) = decide (a = b)) {v : V} {d : PyData} (rv : Rp K H v d) {kvs : List (κ × V)} {ds : List (PyData × PyData)} (r : RpKv K H (kvs.map fun p => (kf p.1, p.2)) ds) (k : κ) :
    RpKv K H ((putK kvs k v).map fun p => (kf p.1, p.2)) (putD ds (kf k) d) := by
  unfold putK putD
  rw [rpkv_any kf_eq r k]
  by_cases c : (kvs.any fun kv => decide (kv.1 = k)) = true
  · rw [if_pos c, if_pos c]
    exact rpkv_repl kf_eq rv r k
  · rw [if_neg c, if_neg c, List.map_append]
    exact r.append (.cons rv .nil)
theorem RpKv.mono' {H H' : Hp} (e : Ex H H') {a : List (PyData × V)} {b : List (PyData × PyData)} (r : RpKv K H a b) : RpKv K H' a b := RpKv.mono e r
end
def isKd (d : PyData) : Bool := match keyX d with
  | some (.k _) => true
  | _ => false
def isTd (d : PyData) : Bool := match keyX d with
  | some (.t _) => true
  | _ => false
theorem isKd_of {d : PyData} (h : isKd d = true) : ∃ k, keyX d = some (.k k) := by
  unfold isKd at h
  split at h
  · exact ⟨_, by assumption⟩
  · cases h
theorem isTd_of {d : PyData} (h : isTd d = true) : ∃ k, keyX d = some (.t k) := by
  unfold isTd at h
  split at h
  · exact ⟨_, by assumption⟩
  · cases h
/-- pairs as data -/
def pairD : PyData → Option (PyData × PyData)
  | .tuple [k, v] => some (k, v)
  | _ => none
def prsD : List PyData → Option (List (PyData × PyData))
  | [] => some []
  | d :: ds => match pairD d, prsD ds with
    | some p, some r => some (p :: r)
    | _, _ => none
section
variable {K : PySem.W.Frag} {T : List Addr} {te : TE} {wl : WL} {we : WE}
def dictW (n : WL) : WE := fun ρ Q => n ρ fun ds => ∃ ps, prsD ds = some ps ∧ ((ps.all fun p => isKd p.1) = true ∨ (ps.all fun p => isTd p.1) = true) ∧ Q (.dict (mergeD [] ps))
def rListK : List V → Hp → VK → Prop := fun xs H Q => ∃ (a : Addr) (kvs : List (Key × V)), xs = [.ref a] ∧ Rd H a (.dK kvs) ∧ ∀ p, H p = none → Q (.ref p) (upd H p (.lst (kvs.map fun kv => kV kv.1)))
def rLstA (K : PySem.W.Frag) : List V → Hp → VK → Prop := fun xs H Q => rLstOf K xs H Q ∨ rListK xs H Q ∨ rListT xs H Q
theorem kLstA {X : Cx} (h : X.K = K) (hc : X.calm = true) : CallR X (.type "list") (rLstA K) := callOr (kLst h) (callOr (call_listD hc) (call_listT hc))
def listAN (a : WE) : WL := fun ρ Q => a ρ fun d => match d with
  | .list ds => Q ds
  | .tuple ds => Q ds
  | .dict kvs => insB kvs = false ∧ Q (keysD kvs)
  | _ => False
theorem rp_ents {H : Hp} : ∀ {xs : List Ent}, KeysAt K H xs → RpAll K H (xs.map fun x => .ref x.2.1) (xs.map fun x => x.1.data)
  | [], _ => .nil
  | x :: xs, h => .cons (keyAt_rp (h x (.head _))) (rp_ents fun y hy => h y (.tail _ hy))
theorem keysD_ent {H : Hp} {xs : List Ent} {kvs : List (PyData × PyData)} (r : RpKv K H (entD xs) kvs) : keysD kvs = xs.map fun x => x.1.data := by
  have := rpkv_keys r
  unfold entD pn at this
  rw [List.map_map, List.map_map] at this
  exact this
theorem dn_listA (h : DE K T te we) : DN K T (tCB (rLstA K) (tCons te tNil)) (listAN we) := by
  intro σ ρ H F P q H1 e Q k
  refine h σ ρ H F _ q H1 e _ fun v d Hk H2 g2 r2 p2 => ?_
  cases hd : isDict d with
  | true =>
    cases d with
    | dict kvs =>
      obtain ⟨hi, p2⟩ := p2
      obtain ⟨a, rfl, f⟩ := r2.dict hi
      rcases f with ⟨ks, f, r⟩ | ⟨xs, f, hk, r⟩
      · refine .inr (.inl ⟨a, ks, rfl, (fzEx g2.sub f).rd, fun p hp => ?_⟩)
        have ek : keysD kvs = ks.map fun p => kD p.1 := (rpkv_keys r).trans (by rw [List.map_map]; rfl)
        refine k p _ _ Hk _ (g2.trans (Grow.hide g2.sub hp _)) ?_ p2 (ex_none g2.sub hp) upd_same (ex_none g2.all hp)
        rw [ek]
        have := rp_kVs (K := K) (H := Hk) (ks.map (·.1))
        rw [List.map_map, List.map_map] at this
        exact this
      · refine .inr (.inr ⟨a, xs, rfl, fzEx g2.sub f, fun p hp => ?_⟩)
        refine k p _ _ Hk _ (g2.trans (Grow.hide g2.sub hp _)) ?_ p2 (ex_none g2.sub hp) upd_same (ex_none g2.all hp)
        rw [keysD_ent r]
        exact rp_ents hk
    | _ => cases hd
  | false =>
    cases r2 with
    | lst h1 r1 => exact .inl ⟨_, _, rfl, .inl (ex_l g2.sub h1), fun p hp => k p _ _ Hk _ (g2.trans (Grow.hide g2.sub hp _)) r1 p2 (ex_none g2.sub hp) upd_same (ex_none g2.all hp)⟩
    | tup h1 r1 => exact .inl ⟨_, _, rfl, .inr (ex_tp g2.sub h1), fun p hp => k p _ _ Hk _ (g2.trans (Grow.hide g2.sub hp _)) r1 p2 (ex_none g2.sub hp) upd_same (ex_none g2.all hp)⟩
    | bl b => exact p2.elim
    | non => exact p2.elim
    | int _ => exact p2.elim
    | str _ => exact p2.elim
    | dic _ _ => cases hd
def itemsN (a : WE) : WL := fun ρ Q => a ρ fun d => match d with
  | .dict (p :: kvs) => isKd p.1 = true ∧ Q ((p :: kvs).map fun p => .tuple [p.1, p.2])
  | _ => False
def valuesN (a : WE) : WL := fun ρ Q => a ρ fun d => match d with
  | .dict (p :: kvs) => isKd p.1 = true ∧ Q ((p :: kvs).map (·.2))
  | _ => False
theorem Rp.dictK {H : Hp} {v : V} {p : PyData × PyData} {kvs : List (PyData × PyData)} (r : Rp K H v (.dict (p :: kvs))) (h : isKd p.1 = true) : ∃ a, v = .ref a ∧ ∃ ks : List (Key × V), Fz H a (.dK ks) ∧ RpKv K H (ks.map fun p => (kD p.1, p.2)) (p :: kvs) := by
  obtain ⟨k, hk⟩ := isKd_of h
  have hi : insB (p :: kvs) = false := by
    obtain ⟨k0, v0⟩ := p
    cases k0 with
    | none => cases hk
    | _ => rfl
  obtain ⟨a, e, f⟩ := r.dict hi
  rcases f with ⟨ks, f, r⟩ | ⟨xs, f, hx, r⟩
  · exact ⟨a, e, ks, f, r⟩
  · cases xs with
    | nil =>
      have r : RpKv K H [] (p :: kvs) := r
      cases r
    | cons q ks =>
      exfalso
      have r : RpKv K H ((q.1.data, q.2.2) :: entD ks) (p :: kvs) := r
      obtain ⟨kk, hkk⟩ := keyAt_tup (hx q (.head _))
      cases r with
      | cons _ _ =>
        have : keyX q.1.data = some (.k k) := hk
        rw [hkk] at this
        have this : keyX (.tuple (NestedKey.datas kk)) = some (.k k) := this
        rcases keyX_nk kk with e | e
        · rw [e] at this
          cases this
        · rw [e] at this
          cases this
end
end DL
namespace DL
open PySem PySem.Spec PyProof.Rows L2 Evl FDc FSt
variable [CTab]
/-- what a walk finds in a value -/
def OnSeq (K : PySem.W.Frag) (x : V) (H1 : Hp) (R : It → Hp → Prop) : Prop := (∃ a, x = .ref a ∧ (((∃ xs, SqL K H1 a xs) ∧ R (Itl K a) H1) ∨ ((∃ xs, SqT K H1 a xs) ∧ R (Itt K a) H1))) ∨ ∃ z, x = .str z ∧ R (Its z) H1
/-- the keys of a dict with tuples as keys -/
def ItN (d : Addr) (o : Obj) (xs : List Ent) : It :=
  ⟨fun i H => H d = some (.frz o (dNX CTab.w d xs)) ∧ i < xs.length, fun i H v H' => H' = H ∧ ∃ x : Ent, xs[i]? = some x ∧ v = .ref x.2.1, fun i H => H d = some (.frz o (dNX CTab.w d xs)) ∧ xs.length ≤ i⟩
theorem walk_keysN {d : Addr} {o : Obj} {xs : List Ent} : Walk (ItN d o xs) xs.length (fun H => H d = some (.frz o (dNX CTab.w d xs))) (fun i H v H' => H' = H ∧ ∃ x : Ent, xs[i]? = some x ∧ v = .ref x.2.1) :=
  ⟨fun _ _ hi q => ⟨q, hi⟩, fun _ q => ⟨q, Nat.le_refl _⟩, fun _ _ _ _ _ _ y => y⟩
theorem frzN {X : Cx} {pins : List (Addr × Obj)} {σ : L2.St} {H : Hp} {s : Shared} {d : Addr} {o : Obj} {xs : List Ent} (I : Inv X pins σ H s) (h : H d = some (.frz o (dNX CTab.w d xs))) : (d == sysModules) = false ∧ s.heap.get? d = some o ∧ o.ExactDict ∧ ∃ es ep, o.data = .dict es ep ∧ es.size = xs.length ∧
    ∀ (i : Nat) (x : Ent), xs[i]? = some x → ∃ en : DictEntry, es[i]? = some en ∧ en.key = .ref x.2.1 := by
  obtain ⟨h1, ⟨h2, o', h3, hd⟩, _⟩ := I.hok d _ h
  rw [h1] at h3
  cases h3
  obtain ⟨es, ep, ys, e1, e2, e3⟩ := hd.dat
  refine ⟨h2, h1, hd.ex, es, ep, e1, ?_, fun i x hx => ?_⟩
  · rw [← Array.length_toList, e2, List.length_map]
    exact (Paired.length e3).symm
  · obtain ⟨y, hy, r⟩ := relE_get' e3 hx
    refine ⟨entN CTab.w y, ?_, ?_⟩
    · rw [← Array.getElem?_toList, e2, List.getElem?_map, hy]
      rfl
    · show Value.ref y.2.1 = _
      rw [r.2.1]
section
variable {P : Program} {w : World} {K : PySem.W.Frag} {tg : Expr} {d : Addr} {o : Obj} {es : Array DictEntry} {ep : Nat}
theorem turn_keysN {xs : List Ent} (it : Addr) (hod : o.data = .dict es ep) : Turn P w K tg (ItN d o xs) [it] it (fun i h => h.IsKeyIter it d i xs.length ep) where
  mem := by simp
  obj := fun i h st b hb => by
    have e : b = it := by simpa using hb
    subst e
    obtain ⟨oi, e, c, dd⟩ := st
    exact ⟨oi, e, fun v z => by rw [dd] at z; cases z⟩
  keep := fun i h h' st k => st.at fun oi e => k it (by simp) oi e
  item := by
    intro X hP hw hK hc i pins s σ H E I hf st hg
    subst hP hw hK
    obtain ⟨hd, hi⟩ := hg
    obtain ⟨f0, f1, f2, f3, f4, f5⟩ := hf it (by simp)
    obtain ⟨hs, hgd, hx, es', ep', hdt, hsz, ent⟩ := frzN I hd
    obtain ⟨rfl, rfl⟩ := dict_ep hod hdt
    obtain ⟨x, hkv⟩ : ∃ p, xs[i]? = some p := ⟨xs[i], List.getElem?_eq_getElem hi⟩
    obtain ⟨en, hen, hkey⟩ := ent i x hkv
    refine next_key_item st hgd hdt hsz hen fun h' st' sb => ?_
    have I1 : Inv X pins σ H { s with heap := h' } := I.turned (t' := s.toks) (fun b ob hb e => (sb.2 b hb).trans e) f0 f1 f3 f4 f5
    obtain ⟨oi, e, c, dd⟩ := id st'
    exact ⟨en.key, rfl, go_of (s := { s with heap := h' }) e c dd (by decide) ⟨.ref x.2.1, H, I1, hkey, ⟨rfl, x, hkv, rfl⟩, st', fun b hb => (hf b hb).1⟩⟩
  done := by
    intro X hP hw hK hc i pins s σ H E I hf st hg
    subst hP hw hK
    obtain ⟨hd, hi⟩ := hg
    obtain ⟨f0, f1, f2, f3, f4, f5⟩ := hf it (by simp)
    obtain ⟨hs, hgd, hx, es', ep', hdt, hsz, ent⟩ := frzN I hd
    obtain ⟨rfl, rfl⟩ := dict_ep hod hdt
    exact next_key_end (I.ok.hd hc) st hgd hdt hsz hi fun h' eb => ⟨rfl, I.turned (t' := s.toks) (fun b ob hb e => eb b ob hb e) f0 f1 f3 f4 f5⟩
  self := fun A i s Q E st h => by
    refine wpAny_pyIter_slot st.typeIs F.slot_dict_keyiterator_iter (wpAny_call_entry F.slot_dict_keyiterator_iter st.typeIs F.entry_dict_keyiterator_iter ?_ (F.args_dict_keyiterator_iter_1 _))
    show wpAny _ _ (ret (.ref it)) _ _ s
    exact wpAny_pure ⟨_, rfl, "dict_keyiterator", _, st.typeIs, F.slot_dict_keyiterator_next.lookup, h⟩
end
def OnKeys (x : V) (H1 : Hp) (R : It → Hp → Prop) : Prop := ∃ d o, x = .ref d ∧ ((∃ kvs, H1 d = some (.frz o (.dK kvs)) ∧ R (Itk d o kvs) H1) ∨ ∃ xs, H1 d = some (.frz o (dNX CTab.w d xs)) ∧ R (ItN d o xs) H1)
def iSeqX (K : PySem.W.Frag) (tl : TE) : TI := fun σ H R => tl σ H fun x H1 => OnSeq K x H1 R ∨ OnKeys x H1 R
theorem it_new {X : Cx} {tg : Expr} {pins : List (Addr × Obj)} {σ : L2.St} {H : Hp} {s : Shared} {R : It → Hp → Prop} {J : It} {tn : Nat → Heap → Prop} (I : Inv X pins σ H s) (o : Obj) (T : Turn X.prog X.w X.K tg J [s.heap.objs.size] s.heap.objs.size tn) (st : tn 0 (s.heap.push o)) (q : R J H) :
    PIE X pins σ tg R (.ref s.heap.objs.size) { s with heap := s.heap.push o } := pi_one (tk := s.toks) I o T st q
theorem kpSeqX {X : Cx} {K : PySem.W.Frag} {tg l : Expr} {tl : TE} (hK : X.K = K) (hl : PE X l tl) : PI X tg l (iSeqX K tl) := by
  subst hK
  refine ⟨fun pins s σ H R I h => thn (hl.run pins s σ H _ I h) fun v s1 ⟨x, H1, I1, r1, q1⟩ => ?_⟩
  rcases q1 with (⟨a, rfl, q1⟩ | ⟨z, rfl, q⟩) | ⟨d, o, rfl, q1⟩
  · cases r1
    rcases q1 with ⟨⟨xs, hq⟩, q⟩ | ⟨⟨xs, hq⟩, q⟩
    · obtain ⟨its, rv, p, hz⟩ := I1.list hq
      exact wpAny_pyIter_list p.isList (it_new I1 _ (turn_list a _) ⟨_, Heap.get?_push_size _ rfl, rfl, rfl⟩ q)
    · obtain ⟨its, rv, p, hz⟩ := I1.tuple hq
      exact wpAny_pyIter_tuple (show s1.heap.IsTuple a its.toArray from p) (it_new I1 _ (turn_tuple a _) ⟨_, Heap.get?_push_size _ rfl, rfl, rfl⟩ q)
  · obtain ⟨t, rfl⟩ := r1
    cases ha : z.cps.all (· < 128)
    · exact wpAny_pyIter_wide ha (it_new I1 _ (turn_str _ z t "str_iterator" (.inr rfl)) ⟨_, Heap.get?_push_size _ rfl, rfl, rfl⟩ q)
    · exact wpAny_pyIter_ascii ha (it_new I1 _ (turn_str _ z t "str_ascii_iterator" (.inl rfl)) ⟨_, Heap.get?_push_size _ rfl, rfl, rfl⟩ q)
  · cases r1
    rcases q1 with ⟨kvs, hd, q⟩ | ⟨kvs, hd, q⟩
    · obtain ⟨h1, h2, h3, es, ep, vs, h4, h5, _⟩ := I1.frzK hd
      exact iter_keys h1 h2 h3 h4 (it_new I1 _ (turn_keys _ h4) ⟨_, Heap.get?_push_size _ rfl, rfl, by rw [h5]; rfl⟩ q)
    · obtain ⟨h1, h2, h3, es, ep, h4, h5, _⟩ := frzN I1 hd
      exact iter_keys h1 h2 h3 h4 (it_new I1 _ (turn_keysN _ h4) ⟨_, Heap.get?_push_size _ rfl, rfl, by rw [h5]; rfl⟩ q)
def itemsA (a : WE) : WL := fun ρ Q => a ρ fun d => match d with
  | .list ds => Q ds
  | .tuple ds => Q ds
  | .str z => Q (z.cps.toList.map fun c => .str ⟨#[c]⟩)
  | .dict kvs => insB kvs = false ∧ Q (keysD kvs)
  | _ => False
section
variable {K : PySem.W.Frag} {T : List Addr} {te tk tv : TE} {tt : TT} {we wk wv : WE} {ct : WT}
theorem di_seqA (h : DE K T te we) : DI K T (iSeqX K te) (itemsA we) := fun σ ρ H F P p H1 e R k => by
  refine h σ ρ H F _ p H1 e _ fun v d Hk H2 g2 r2 p2 => ?_
  cases hd : isDict d with
  | true =>
    cases d with
    | dict kvs =>
      obtain ⟨hi, p2⟩ := p2
      obtain ⟨a, rfl, f⟩ := r2.dict hi
      rcases f with ⟨ks, ⟨o, f⟩, r⟩ | ⟨ks, ⟨o, f⟩, hk, r⟩
      · have ek : keysD kvs = ks.map fun p => kD p.1 := (rpkv_keys r).trans (by rw [List.map_map]; rfl)
        refine .inr ⟨a, o, rfl, .inl ⟨ks, g2.sub _ _ f, k _ _ _ _ Hk H2 p2 g2 (by rw [ek, List.length_map]; exact walk_keys) (fun H3 e3 => e3 _ _ f) ?_⟩⟩
        rintro i x Hm H3 H4 hi em e3 ⟨rfl, kk, vv, hx, rfl⟩
        refine ⟨Hm, Grow.refl e3, kD kk, ?_, rp_kV kk⟩
        rw [ek, List.getElem?_map, hx]
        rfl
      · have ek := keysD_ent r
        refine .inr ⟨a, o, rfl, .inr ⟨ks, g2.sub _ _ f, k _ _ _ _ Hk H2 p2 g2 (by rw [ek, List.length_map]; exact walk_keysN) (fun H3 e3 => e3 _ _ f) ?_⟩⟩
        rintro i x Hm H3 H4 hi em e3 ⟨rfl, y, hx, rfl⟩
        refine ⟨Hm, Grow.refl e3, y.1.data, ?_, keyAt_rp ((hk y (List.mem_of_getElem? hx)).mono em)⟩
        rw [ek, List.getElem?_map, hx]
        rfl
    | _ => cases hd
  | false =>
    cases r2 with
    | @lst a xs ds g r =>
      refine .inl (.inl ⟨a, rfl, .inl ⟨⟨xs, ex_l g2.sub g⟩, ?_⟩⟩)
      refine k ds _ _ _ Hk H2 p2 g2 (by have w := walk_list (K := K) (a := a) (xs := xs); rw [r.len] at w; exact w) (fun H3 e3 => ex_l e3 g) ?_
      rintro i x Hm H3 H4 hi em e3 ⟨rfl, hx⟩
      obtain ⟨d, hd, rd⟩ := r.get hx
      exact ⟨Hm, Grow.refl e3, d, hd, rd.mono em⟩
    | @tup a xs ds g r =>
      refine .inl (.inl ⟨a, rfl, .inr ⟨⟨xs, ex_tp g2.sub g⟩, ?_⟩⟩)
      refine k ds _ _ _ Hk H2 p2 g2 (by have w := walk_tup (K := K) (a := a) (xs := xs); rw [r.len] at w; exact w) (fun H3 e3 => ex_tp e3 g) ?_
      rintro i x Hm H3 H4 hi em e3 ⟨rfl, hx⟩
      obtain ⟨d, hd, rd⟩ := r.get hx
      exact ⟨Hm, Grow.refl e3, d, hd, rd.mono em⟩
    | str z =>
      refine .inl (.inr ⟨z, rfl, ?_⟩)
      refine k _ _ _ _ Hk H2 p2 g2 (by have w := walk_str (z := z); rw [List.length_map]; exact w) (fun _ _ => trivial) ?_
      rintro i x Hm H3 H4 hi em e3 ⟨rfl, c, hx, rfl⟩
      refine ⟨Hm, Grow.refl e3, _, ?_, .str _⟩
      rw [List.getElem?_map]
      have : z.cps.toList[i]? = some c := by
        rw [Array.getElem?_toList]
        exact hx
      rw [this]
      rfl
    | bl b => exact p2.elim
    | non => exact p2.elim
    | int _ => exact p2.elim
    | dic _ _ => cases hd
def dcompW (b : WB) (t : WT) (wk wv : WE) (isK : PyData → Bool) (ρ : WEnv) : List PyData → List (PyData × PyData) → (List (PyData × PyData) → Prop) → Prop
  | [], acc, Q => Q acc
  | d :: ds, acc, Q => b d ρ fun ρ1 => t ρ1 fun c => if c = true then wk ρ1 fun y => wv ρ1 fun z => isK y = true ∧ dcompW b t wk wv isK ρ ds (putD acc y z) Q else dcompW b t wk wv isK ρ ds acc Q
/-- what stands while a new dict is filled -/
structure FilD {κ : Type} (mk : List (κ × V) → HO) (kf : κ → PyData) (K : PySem.W.Frag) (Hk H2 : Hp) (D : Addr) (Hm : Hp) (acc : List (PyData × PyData)) (H' : Hp) (xs : List (κ × V)) : Prop where
  e1 : Ex Hk Hm
  e2 : Ex Hm H'
  e3 : Ex H2 H'
  hm : Hm D = none
  fr : ∀ p o, Hm p = some o → Hk p = none → NT o → H2 p = none
  at' : H' D = some (mk xs)
  al : RpKv K Hm (xs.map fun p => (kf p.1, p.2)) acc
section
variable {κ : Type} [DecidableEq κ] {mk : List (κ × V) → HO} {kf : κ → PyData}
theorem FilD.grow (nt : ∀ xs, NT (mk xs)) {Hk H2 Hm H' Hm' H'' : Hp} {D : Addr} {acc : List (PyData × PyData)} {xs : List (κ × V)} (f : FilD mk kf K Hk H2 D Hm acc H' xs) (g : Grow Hm H' Hm' H'') : FilD mk kf K Hk H2 D Hm' acc H'' xs :=
  ⟨f.e1.trans g.known, g.sub, f.e3.trans g.all, g.unk f.hm f.at' (nt xs), fun p o h n t => by
    cases z : Hm p with
    | some u => exact f.fr p u z n (NT.of ((g.known p u z).symm.trans h) t)
    | none => exact ex_none f.e3 (g.fresh p o h z t), g.all _ _ f.at', f.al.mono' g.known⟩
theorem FilD.add (kf_eq : ∀ a b, PyData.eqv (kf a) (kf b) = decide (a = b)) {Hk H2 Hm H' : Hp} {D : Addr} {acc : List (PyData × PyData)} {xs : List (κ × V)} {v : V} {z : PyData} (f : FilD mk kf K Hk H2 D Hm acc H' xs) (hD : H2 D = none) (r : Rp K Hm v z) (k : κ) :
    FilD mk kf K Hk H2 D Hm (putD acc (kf k) z) (upd H' D (mk (putK xs k v))) (putK xs k v) :=
  ⟨f.e1, f.e2.mut f.hm, f.e3.mut hD, f.hm, f.fr, upd_same, rpkv_put kf_eq r f.al k⟩
end
theorem putD_len (kvs : List (PyData × PyData)) (k v : PyData) : (putD kvs k v).length ≤ kvs.length + 1 := by
  unfold putD
  split
  · rw [List.length_map]
    omega
  · rw [List.length_append, List.length_singleton]
    omega
end
end DL
namespace FSt
open PySem PySem.Spec PyProof.Rows L2
def dle (a b : PyData) : Bool := PySem.W.dataLe false id a b
theorem dle_def (a b : PyData) : dle a b = !PySem.W.dataLt b a := rfl
theorem dle_trans {a b c : PyData} (h1 : dle a b = true) (h2 : dle b c = true) : dle a c = true := by
  rw [dle_def] at h1 h2 ⊢
  cases q : PySem.W.dataLt c a with
  | false => rfl
  | true =>
    rcases (listOrd itemOrd).negTrans _ (PySem.W.keyToks b) _ q with z | z
    · have z : PySem.W.dataLt c b = true := z
      rw [z] at h2
      cases h2
    · have z : PySem.W.dataLt b a = true := z
      rw [z] at h1
      cases h1
theorem dle_total (a b : PyData) : (dle a b || dle b a) = true := by
  rw [dle_def, dle_def]
  cases q : PySem.W.dataLt b a with
  | false => rfl
  | true =>
    cases q2 : PySem.W.dataLt a b with
    | false => rfl
    | true =>
      have := (listOrd itemOrd).trans _ _ _ q q2
      rw [(listOrd itemOrd).irrefl] at this
      cases this
theorem sortD_pw (ds : List PyData) : (sortD ds).Pairwise fun a b => dle a b = true := List.pairwise_mergeSort (le := dle) (fun a b c h1 h2 => dle_trans h1 h2) dle_total ds
theorem sortD_p (ds : List PyData) : (sortD ds).Perm ds := List.mergeSort_perm _ _
theorem sortD_mem {ds : List PyData} {d : PyData} : d ∈ sortD ds ↔ d ∈ ds := List.mem_mergeSort
/-- a row that ascends, with the same members, is the sorted one -/
theorem sortD_unique {ds es : List PyData} (h : srtOk ds) (p : es.Perm ds) (s : es.Pairwise fun a b => dle a b = true) : es = sortD ds := by
  refine List.Perm.eq_of_pairwise (le := fun a b => dle a b = true) (fun a b ha hb h1 h2 => ?_) s (sortD_pw ds) (p.trans (sortD_p ds).symm)
  have ma : a ∈ ds := p.mem_iff.mp ha
  have mb : b ∈ ds := sortD_mem.mp hb
  rw [dle_def] at h1 h2
  exact dl_eq (h.1 a ma b mb) (h.2.2 a ma).2 (h.2.2 b mb).2 (by simpa using h2) (by simpa using h1)
theorem srtOk_strs (ss : List Str) : srtOk (ss.map .str) := by
  refine ⟨fun d hd e he => ?_, .inl (.inr fun d hd => ?_), fun d hd => ?_⟩
  · obtain ⟨a, _, rfl⟩ := List.mem_map.mp hd
    obtain ⟨b, _, rfl⟩ := List.mem_map.mp he
    rfl
  · obtain ⟨a, _, rfl⟩ := List.mem_map.mp hd
    exact ⟨(fun z => nomatch z), (fun xs z => nomatch z)⟩
  · obtain ⟨a, _, rfl⟩ := List.mem_map.mp hd
    exact ⟨by simp [PyData.depth], rfl⟩
theorem dle_strs (a b : Str) : dle (.str a) (.str b) = !ltCps b.cps.toList a.cps.toList := by rw [dle_def, PySem.W.dataLt_str, ltCps_eq]
theorem rising_pw : ∀ (l : List Str) (p : Str), risingS p l = true → (p :: l).Pairwise fun a b => dle (.str a) (.str b) = true
  | [], p, _ => List.pairwise_singleton ..
  | x :: r, p, h => by
    have h' : (!ltCps x.cps.toList p.cps.toList && risingS x r) = true := h
    rw [Bool.and_eq_true] at h'
    have ih := rising_pw r x h'.2
    refine List.pairwise_cons.mpr ⟨fun y hy => ?_, ih⟩
    have h1 : dle (.str p) (.str x) = true := by rw [dle_strs]; exact h'.1
    rcases List.mem_cons.mp hy with rfl | hy
    · exact h1
    · exact dle_trans h1 ((List.pairwise_cons.mp ih).1 y hy)
theorem sortD_strs_of {ys ks : List Str} (p : ys.Perm ks) (h : sortedS ys = true) : ys.map PyData.str = sortD (ks.map .str) := by
  refine sortD_unique (srtOk_strs ks) (p.map _) (List.pairwise_map.mpr ?_)
  cases ys with
  | nil => exact List.Pairwise.nil
  | cons x r => exact rising_pw r x h
/-- sorted texts -/
def sortS (ss : List Str) : List Str := ss.mergeSort fun a b => dle (.str a) (.str b)
theorem sortD_strs (ss : List Str) : sortD (ss.map .str) = (sortS ss).map .str := (List.map_mergeSort (r := fun a b => dle (.str a) (.str b)) (s := PySem.W.dataLe false id) (f := PyData.str) (l := ss) (fun a _ b _ => rfl)).symm
/-- pairs of texts -/
def prT (p : Str × Str) : PyData := .tuple [.str p.1, .str p.2]
theorem srtOk_prs (ps : List (Str × Str)) : srtOk (ps.map prT) := by
  refine ⟨fun d hd e he => ?_, .inl (.inl fun d hd => ?_), fun d hd => ?_⟩
  · obtain ⟨a, _, rfl⟩ := List.mem_map.mp hd
    obtain ⟨b, _, rfl⟩ := List.mem_map.mp he
    rfl
  · obtain ⟨a, _, rfl⟩ := List.mem_map.mp hd
    exact ⟨_, _, rfl⟩
  · obtain ⟨a, _, rfl⟩ := List.mem_map.mp hd
    exact ⟨by simp [prT, PyData.depth, PyData.depthAll], rfl⟩
def sortP (ps : List (Str × Str)) : List (Str × Str) := ps.mergeSort fun a b => dle (prT a) (prT b)
theorem sortD_prs (ps : List (Str × Str)) : sortD (ps.map prT) = (sortP ps).map prT := (List.map_mergeSort (r := fun a b => dle (prT a) (prT b)) (s := PySem.W.dataLe false id) (f := prT) (l := ps) (fun a _ b _ => rfl)).symm
theorem setOk_prs (ps : List (Str × Str)) : setOk (ps.map prT) := .inr fun d hd => by
  obtain ⟨a, _, rfl⟩ := List.mem_map.mp hd
  exact ⟨_, rfl, by simp [NestedKey.depth, NestedKey.depthAll]⟩
end FSt
namespace DL
open PySem PySem.Spec PyProof.Rows L2 Evl FDc FSt
variable [CTab]
abbrev WP2 := WEnv → (List (PyData × PyData) → Prop) → Prop
section
variable {K : PySem.W.Frag} {T : List Addr} {te tk tv : TE} {trs : List (TE × TE)} {we wk wv : WE} {wp : WP2}
def rSortK : List V → Hp → VK → Prop := fun xs H Q => ∃ (a : Addr) (kvs : List (Key × V)) (ks : List Str), xs = [.ref a] ∧ Rd H a (.dK kvs) ∧ kvs.map (·.1) = ks.map Sum.inr ∧ ks.length < 64 ∧ ∀ ys p, ys.Perm ks → sortedS ys = true → H p = none → Q (.ref p) (upd H p (.lst (ys.map V.str)))
def rSortA (K : PySem.W.Frag) (w : World) : List V → Hp → VK → Prop := fun xs H Q => rSortD K w xs H Q ∨ rSortK xs H Q
theorem kSortA {X : Cx} {w : World} (h : X.K = K) (hw : X.w = w) (hc : X.calm = true) (hu : X.A.units + 64 < cLine) : CallR X (.builtin "sorted") (rSortA K w) := callOr (kSortD h hw hc hu) (call_sortedD hc)
def sortAN (a : WE) : WL := fun ρ Q => a ρ fun d => match d with
  | .list ds => srtOk ds ∧ ds.length ≤ 100000 ∧ Q (sortD ds)
  | .tuple ds => srtOk ds ∧ ds.length ≤ 100000 ∧ Q (sortD ds)
  | .dict (p :: kvs) => ∃ ks : List Str, keysD (p :: kvs) = ks.map .str ∧ ks.length < 64 ∧ Q (sortD (ks.map .str))
  | _ => False
theorem keys_inr : ∀ {kvs : List (Key × V)} {ks : List Str}, (kvs.map fun p => kD p.1) = ks.map .str → kvs.map (·.1) = ks.map Sum.inr
  | [], [], _ => rfl
  | (.inr x, v) :: kvs, y :: ks, h => by
    injection h with h1 h2
    have e : x = y := PyData.str.inj h1
    subst e
    rw [List.map_cons, List.map_cons, keys_inr h2]
  | (.inl x, v) :: kvs, y :: ks, h => by
    injection h with h1 h2
    cases h1
  | [], _ :: _, h => by cases h
  | _ :: _, [], h => by cases h
theorem dn_sortA {w : World} (h : DE K T te we) : DN K T (tCB (rSortA K w) (tCons te tNil)) (sortAN we) := by
  intro σ ρ H F P q H1 e Q k
  refine h σ ρ H F _ q H1 e _ fun v d Hk H2 g2 r2 p2 => ?_
  have seq : ∀ ds, seqD d = some ds → srtOk ds → ds.length ≤ 100000 → P (sortD ds) → rSortA K w [v] H2 Q := fun ds hs ok hl p2 => by
    obtain ⟨a, xs, rfl, hx, rx⟩ := r2.seq hs
    have hx2 : SqL K H2 a xs ∨ SqT K H2 a xs ∨ H2 a = some (SetHO w a xs) := by
      rcases hx with hx | hx
      · exact .inl (ex_l g2.sub hx)
      · exact .inr (.inl (ex_t g2.sub hx))
    refine .inl ⟨a, xs, ds, rfl, hx2, rp_nks (rx.mono g2.sub) (srtOk_nk ok), ok, hl, fun p zs hp hz ez => ?_⟩
    refine k p _ _ Hk _ (g2.trans (Grow.hide g2.sub hp _)) (rp_mem fun z m => rp_zip rx z (hz z m)) ?_ (ex_none g2.sub hp) upd_same (ex_none g2.all hp)
    rw [ez]
    exact p2
  split at p2
  · exact seq _ rfl p2.1 p2.2.1 p2.2.2
  · exact seq _ rfl p2.1 p2.2.1 p2.2.2
  · rename_i p kvs
    obtain ⟨ks, hks, hl, p2⟩ := p2
    have hk1 : isKd p.1 = true := by
      cases ks with
      | nil => cases hks
      | cons y ks =>
        injection hks with h1 h2
        have h1 : p.1 = PyData.str y := h1
        rw [h1]
        rfl
    obtain ⟨a, rfl, kv, f, r⟩ := r2.dictK hk1
    have ek : keysD (p :: kvs) = kv.map fun p => kD p.1 := (rpkv_keys r).trans (by rw [List.map_map]; rfl)
    refine .inr ⟨a, kv, ks, rfl, (fzEx g2.sub f).rd, keys_inr (ek.symm.trans hks), hl, fun ys l pm so hp => ?_⟩
    refine k l _ _ Hk _ (g2.trans (Grow.hide g2.sub hp _)) (RpAll.of_strs (ns := ys)) ?_ (ex_none g2.sub hp) upd_same (ex_none g2.all hp)
    rw [sortD_strs_of pm so]
    exact p2
  · exact p2.elim
end
end DL
namespace DL
open PySem PySem.Spec PyProof.Rows L2 Evl FDc FSt
variable [CTab]
/-- the slot i of an instance of the class nm -/
def fldD (nm : Str) (i : Nat) : PyData → Option PyData
  | .dict ((.none, .str n) :: kvs) => if n = nm then valD kvs (.int (i : Nat)) else none
  | _ => none
def attrW (nm : Str) (i : Nat) (a : WE) : WE := fun ρ Q => a ρ fun d => ∃ z, fldD nm i d = some z ∧ Q z
end DL
namespace DL
open PySem PySem.Spec PyProof.Rows L2 Evl FDc FSt
variable [CTab]
def makeW (nm : Str) (n : Nat) (w : List Sl → (List (PyData × PyData) → Prop) → Prop) (ws : WA) : WE := fun ρ Q => ws ρ fun ss => ss.length = n ∧ w ss fun ds => Q (.dict ((.none, .str nm) :: ds))
section
variable {K : PySem.W.Frag} {T : List Addr} {tl : TA} {ws : WA}
theorem RpSs.append {H : Hp} : ∀ {vs ws : List V} {ss ts : List Sl}, RpSs K H vs ss → RpSs K H ws ts → RpSs K H (vs ++ ws) (ss ++ ts)
  | _, _, _, _, .nil, s => s
  | _, _, _, _, .cons h r, s => .cons h (RpSs.append r s)
def withW (ds : List Sl) (ws : WA) : WA := fun ρ Q => ws ρ fun ss => Q (ss ++ ds)
end
end DL
namespace DL
open PySem PySem.Spec PyProof.Rows L2 Evl FDc FSt
variable [CTab] [Base]
def insF (i : Nat) (z : PyData) : List (PyData × PyData) → List (PyData × PyData)
  | [] => [(.int (i : Nat), z)]
  | (.int j, w) :: r => if j < (i : Nat) then (.int j, w) :: insF i z r else if j = (i : Nat) then (.int (i : Nat), z) :: r else (.int (i : Nat), z) :: (.int j, w) :: r
  | r => (.int (i : Nat), z) :: r
theorem setF_nones {n k : Nat} : setF n (List.replicate k none) = [] := by
  induction k generalizing n with
  | zero => rfl
  | succ k ih => exact ih
theorem setF_app : ∀ (vs ws : List (Option V)) (n : Nat), setF n (vs ++ ws) = setF n vs ++ setF (n + vs.length) ws
  | [], ws, n => rfl
  | some v :: vs, ws, n => by
    show (.int (n : Nat), v) :: setF (n + 1) (vs ++ ws) = _
    rw [setF_app vs ws (n + 1)]
    show _ = (.int (n : Nat), v) :: (setF (n + 1) vs ++ _)
    rw [List.length_cons, show n + 1 + vs.length = n + (vs.length + 1) by omega]
  | none :: vs, ws, n => by
    show setF (n + 1) (vs ++ ws) = _
    rw [setF_app vs ws (n + 1)]
    show _ = setF (n + 1) vs ++ _
    rw [List.length_cons, show n + 1 + vs.length = n + (vs.length + 1) by omega]
theorem setF_first {vs : List (Option V)} : ∀ {n : Nat}, ∀ p ∈ setF n vs, ∃ j : Nat, n ≤ j ∧ p.1 = .int (j : Nat) := by
  induction vs with
  | nil => intro n p h; cases h
  | cons o vs ih =>
    intro n p h
    cases o with
    | none =>
      obtain ⟨j, h1, h2⟩ := ih (n := n + 1) p h
      exact ⟨j, by omega, h2⟩
    | some v =>
      rcases List.mem_cons.mp h with rfl | h
      · exact ⟨n, Nat.le_refl _, rfl⟩
      · obtain ⟨j, h1, h2⟩ := ih (n := n + 1) p h
        exact ⟨j, by omega, h2⟩
section
variable {K : PySem.W.Frag} {H : Hp}
theorem insF_low {i : Nat} {z : PyData} {vs : List (Option V)} {n : Nat} {ds : List (PyData × PyData)} (h : i < n) (r : RpKv K H (setF n vs) ds) : insF i z ds = (.int (i : Nat), z) :: ds := by
  cases e : setF n vs with
  | nil =>
    rw [e] at r
    cases r
    rfl
  | cons p l =>
    obtain ⟨j, h1, h2⟩ := setF_first (vs := vs) (n := n) p (by rw [e]; exact List.mem_cons_self)
    rw [e] at r
    obtain ⟨k, v⟩ := p
    subst h2
    cases r with
    | cons r0 r =>
      have a1 : ¬ ((j : Nat) : Int) < (i : Nat) := by omega
      have a2 : ¬ ((j : Nat) : Int) = (i : Nat) := by omega
      unfold insF
      rw [if_neg a1, if_neg a2]
theorem setF_set : ∀ {vs : List (Option V)} {ds : List (PyData × PyData)} {n i : Nat} {v : V} {z : PyData}, RpKv K H (setF n vs) ds → Rp K H v z → i < vs.length → RpKv K H (setF n (vs.set i (some v))) (insF (n + i) z ds)
  | o :: vs, ds, n, 0, v, z, r, rv, h => by
    show RpKv K H ((.int (n : Nat), v) :: setF (n + 1) vs) _
    cases o with
    | none =>
      have r' : RpKv K H (setF (n + 1) vs) ds := r
      rw [insF_low (by omega) r']
      exact .cons rv r'
    | some w =>
      cases r with
      | cons r0 r =>
        unfold insF
        have a1 : ¬ ((n : Nat) : Int) < ((n + 0 : Nat) : Int) := by omega
        rw [if_neg a1, if_pos (by rfl)]
        exact .cons rv r
  | o :: vs, ds, n, i + 1, v, z, r, rv, h => by
    have ih := fun ds' (r' : RpKv K H (setF (n + 1) vs) ds') => setF_set (vs := vs) (ds := ds') (n := n + 1) (i := i) (v := v) (z := z) r' rv (by simpa using h)
    have e : n + 1 + i = n + (i + 1) := by omega
    rw [e] at ih
    cases o with
    | none => exact ih ds r
    | some w =>
      cases r with
      | cons r0 r =>
        unfold insF
        have a1 : ((n : Nat) : Int) < ((n + (i + 1) : Nat) : Int) := by omega
        rw [if_pos a1]
        exact .cons r0 (ih _ r)
theorem rpkv_putS {vs : List (Option V)} {ds : List (PyData × PyData)} {i : Nat} {v : V} {z : PyData} (r : RpKv K H (setF 0 vs) ds) (rv : Rp K H v z) : RpKv K H (setF 0 (SlX.putS i v vs)) (insF i z ds) := by
  unfold SlX.putS
  have r' : RpKv K H (setF 0 (vs ++ List.replicate (i + 1 - vs.length) none)) ds := by
    rw [setF_app, setF_nones, List.append_nil]
    exact r
  have := setF_set (n := 0) (i := i) r' rv (by rw [List.length_append, List.length_replicate]; omega)
  rwa [Nat.zero_add] at this
end
structure FitI (K : PySem.W.Frag) (T : List Addr) (C : Addr) (B B1 : Hp) (x dx : Addr) (σ : L2.St) (ρ : WEnv) (H H1 : Hp) (fs : List (Option V)) (ds : List (PyData × PyData)) : Prop where
  p : FitP K T σ ρ H
  self : σ[0]? = some (some (.ref x))
  known : Ex B H
  sub : Ex H H1
  nx : H x = none
  nd : H dx = none
  ne : dx ≠ x
  sl : SlX.Slt H1 x C dx fs
  hd : ∃ o, H1 dx = some o ∧ NT o
  all : ∀ a o, a ≠ x → a ≠ dx → B1 a = some o → H1 a = some o
  fresh : ∀ a o, H a = some o → B a = none → NT o → B1 a = none
  al : RpKv K H (setF 0 fs) ds
abbrev WN := WEnv → List (PyData × PyData) → Prop
abbrev WI := WN → WEnv → List (PyData × PyData) → Prop
section
variable {K : PySem.W.Frag} {T : List Addr} {C : Addr} {t u : TS} {tt : TT} {te : TE} {wa wb : WI} {ct : WT} {we : WE}
theorem slO_nt {a C dx : Addr} {vs : List (Option V)} : NT (SlX.SlO a C dx vs) := fun _ z => by
  unfold SlX.SlO at z
  cases z
theorem FitI.hx {B B1 : Hp} {x dx : Addr} {σ : L2.St} {ρ : WEnv} {H H1 : Hp} {fs : List (Option V)} {ds : List (PyData × PyData)} (F : FitI K T C B B1 x dx σ ρ H H1 fs ds) : ∃ o, H1 x = some o ∧ NT o := by
  rcases F.sl with ⟨h, _⟩ | ⟨h, _⟩
  · exact ⟨_, h, fun _ z => nomatch z⟩
  · exact ⟨_, h, slO_nt⟩
theorem FitI.grow {B B1 : Hp} {x dx : Addr} {σ : L2.St} {ρ : WEnv} {H H1 Hk H2 : Hp} {fs : List (Option V)} {ds : List (PyData × PyData)} (F : FitI K T C B B1 x dx σ ρ H H1 fs ds) (g : Grow H H1 Hk H2) : FitI K T C B B1 x dx σ ρ Hk H2 fs ds := by
  obtain ⟨ox, hx, tx⟩ := F.hx
  obtain ⟨od, hd, td⟩ := F.hd
  have nx : Hk x = none := g.unk F.nx hx tx
  have nd : Hk dx = none := g.unk F.nd hd td
  refine ⟨F.p.mono g.known, F.self, F.known.trans g.known, g.sub, nx, nd, F.ne, ?_, ⟨od, g.all _ _ hd, td⟩, fun a o h1 h2 z => g.all a o (F.all a o h1 h2 z), fun a o z n t => ?_, F.al.mono' g.known⟩
  · rcases F.sl with ⟨h, e⟩ | ⟨h, h2⟩
    · exact .inl ⟨g.all _ _ h, e⟩
    · exact .inr ⟨g.all _ _ h, g.all _ _ h2⟩
  · have c1 : a ≠ x := fun c => by rw [c, nx] at z; cases z
    have c2 : a ≠ dx := fun c => by rw [c, nd] at z; cases z
    cases q : H a with
    | some u => exact F.fresh a u q n (NT.of ((g.known a u q).symm.trans z) t)
    | none =>
      have := g.fresh a o z q t
      cases b : B1 a with
      | none => rfl
      | some o' => rw [F.all a o' c1 c2 b] at this; cases this
/-- a slot is put -/
theorem FitI.put {B B1 : Hp} {x dx : Addr} {σ : L2.St} {ρ : WEnv} {H H1 : Hp} {fs : List (Option V)} {ds : List (PyData × PyData)} (F : FitI K T C B B1 x dx σ ρ H H1 fs ds) {i : Nat} {v : V} {z : PyData} (r : Rp K H v z) :
    FitI K T C B B1 x dx σ ρ H (SlX.slH H1 x C dx (SlX.putS i v fs)) (SlX.putS i v fs) (insF i z ds) := by
  have ex : Ex H (SlX.slH H1 x C dx (SlX.putS i v fs)) := fun a o h => by
    have c1 : a ≠ x := fun c => by rw [c, F.nx] at h; cases h
    have c2 : a ≠ dx := fun c => by rw [c, F.nd] at h; cases h
    rw [SlX.slH_ne c1 c2]
    exact F.sub a o h
  refine ⟨F.p, F.self, F.known, ex, F.nx, F.nd, F.ne, SlX.slH_slt F.ne, ⟨.xd [], ?_, fun _ z => nomatch z⟩, fun a o h1 h2 z => ?_, F.fresh, rpkv_putS F.al r⟩
  · unfold SlX.slH
    rw [upd_ne F.ne, upd_same]
  · rw [SlX.slH_ne h1 h2]
    exact F.all a o h1 h2 z
end
end DL
namespace FDc
open PySem PySem.Spec PyProof.Rows L2
section
variable {P : Program} {w : World} {A : Around} {E : Value → Shared → Prop} {s : Shared} {a b : Addr} {es es' : Array DictEntry} {ep ep' : Nat}
/-- what the search for the i-th key of one dict in the other one finds, and how the values compare -/
def StepAt (P : Program) (w : World) (A : Around) (s : Shared) (b : Addr) (es es' : Array DictEntry) (i : Nat) (r : Bool) : Prop :=
  ∃ e o, es[i]? = some e ∧ (∀ (E : Value → Shared → Prop) (Q : Option Nat → Shared → Prop), Q o s → wpAny (model P w) A (dictFind b e.key e.hash) Q E s) ∧
    ((o = none ∧ r = false) ∨ ∃ j f, o = some j ∧ es'[j]? = some f ∧ SeqAt.EqAt A s e.val f.val r)
theorem same_raw {nm : String} {Q : Bool → Shared → Prop} (ha : (a == sysModules) = false) (hb : (b == sysModules) = false) (da : s.heap.DictRaw a es ep) (db : s.heap.DictRaw b es' ep') (res : Nat → Bool)
    (step : es.size = es'.size → ∀ i, i < es.size → StepAt P w A s b es es' i (res i)) (h : Q (es.size == es'.size && (List.range es.size).all res) s) : wpAny (model P w) A (Builtin.Dict.samePairs nm a b) Q E s := by
  obtain ⟨oa, hoa, _, hda⟩ := da
  obtain ⟨ob, hob, _, hdb⟩ := db
  unfold Builtin.Dict.samePairs Builtin.Dict.showsAll
  rw [if_neg (by rw [ha]; exact Bool.false_ne_true), if_neg (by rw [hb]; exact Bool.false_ne_true)]
  refine wpAny_bind (wpAny_pure (wpAny_bind (wpAny_pure (wpAny_bind (wpAny_dictEntries hoa hda ?_)))))
  dsimp only
  refine wpAny_bind (wpAny_dictEntries hob hdb ?_)
  by_cases hz : es.size = es'.size
  case neg =>
    have e : (es.size == es'.size) = false := beq_eq_false_iff_ne.mpr hz
    rw [e, Bool.false_and] at h
    rw [if_pos (by simpa using hz)]
    exact wpAny_bind (wpAny_rule (wpAny_pure h))
  have e : (es.size == es'.size) = true := beq_iff_eq.mpr hz
  rw [e, Bool.true_and] at h
  rw [if_neg (by simpa using hz)]
  refine wpAny_bind (wpAny_dictEpoch hoa hda (wpAny_bind ?_))
  rw [Std.Legacy.Range.forIn_eq_forIn_range']
  simp only [Std.Legacy.Range.size, Nat.sub_zero, Nat.add_sub_cancel, Nat.div_one]
  refine wpAny_forIn_list _ (fun rest q s' => s' = s ∧ q = (none, ()) ∧ ∃ i, i ≤ es.size ∧ rest = List.range' i (es.size - i) ∧ (List.range es.size).all res = rest.all res) _ ?_ ?_ _ _ ⟨rfl, rfl, 0, Nat.zero_le _, by simp, by rw [List.range_eq_range']⟩
  · rintro x rest q s' ⟨rfl, rfl, i, hi, hr, hall⟩
    have hlt : i < es.size := by
      by_cases c : i < es.size
      · exact c
      · rw [Nat.sub_eq_zero_of_le (by omega)] at hr
        cases hr
    rw [show es.size - i = (es.size - (i + 1)) + 1 by omega, List.range'_succ] at hr
    injection hr with h1 h2
    subst h1
    obtain ⟨en, o, he, hf, ho⟩ := step hz x hlt
    refine wpAny_bind (wpAny_dictEntries hoa hda ?_)
    rw [he]
    rw [List.all_cons] at hall
    have done : res x = false → Q false s' := fun z => by rw [hall, z, Bool.false_and] at h; exact h
    show wpAny _ _ (holding [en.key, en.val] _ >>= _) _ _ _
    refine wpAny_bind (wpAny_holding (wpAny_bind (hf _ _ ?_)))
    rcases ho with ⟨rfl, hr0⟩ | ⟨j, f, rfl, hj, eq⟩
    · refine wpAny_pure ?_
      show wpAny _ _ (if (!false) = true then _ else _) _ _ _
      rw [if_pos (by decide)]
      exact wpAny_pure (wpAny_pure (done hr0))
    · refine wpAny_bind (wpAny_dictEntries hob hdb ?_)
      rw [hj]
      refine wpAny_holding (eq _ _ _ _ ?_)
      cases hrx : res x with
      | false =>
        show wpAny _ _ (if (!false) = true then _ else _) _ _ _
        rw [if_pos (by decide)]
        exact wpAny_pure (wpAny_pure (done hrx))
      | true =>
        show wpAny _ _ (if (!true) = true then _ else _) _ _ _
        rw [if_neg (by decide)]
        refine wpAny_bind (wpAny_dictEpoch hoa hda ?_)
        rw [if_neg (by simp)]
        exact wpAny_pure ⟨rfl, rfl, x + 1, hlt, h2, by rw [hall, hrx, Bool.true_and]⟩
  · rintro q s' ⟨rfl, rfl, i, hi, hr, hall⟩
    rw [hall] at h
    exact wpAny_pure h
theorem eq_raw {Q : Value → Shared → Prop} (hu : A.units < cLine) (ha : (a == sysModules) = false) (hb : (b == sysModules) = false) (da : s.heap.DictRaw a es ep) (db : s.heap.DictRaw b es' ep') (res : Nat → Bool)
    (step : es.size = es'.size → ∀ i, i < es.size → StepAt P w A.in1 s b es es' i (res i)) (h : Q (.bool (es.size == es'.size && (List.range es.size).all res)) s) : wpAny (model P w) A (compareOp .Eq (.ref a) (.ref b)) Q E s := by
  refine wpAny_richCompare_same_room (op := .Eq) da.typeIs db.typeIs F.slot_dict_eq (wpAny_call_entry F.slot_dict_eq da.typeIs F.entry_dict_eq ?_ (F.args_dict_eq_2 _ _)) hu
  show wpAny _ _ (Builtin.Dict.dictSlotArgs "__eq__" ⟨[.ref a, .ref b], []⟩ >>= _) _ _ s
  unfold Builtin.Dict.dictSlotArgs
  refine wpAny_bind (wpAny_bind (wpAny_notOrdered_dict da.typeIs (wpAny_pure (wpAny_bind (wpAny_isInstance (T := "dict") db.typeIs F.sub_dict_dict ?_)))))
  simp only [Bool.not_true, Bool.false_eq_true, if_false]
  refine wpAny_bind (wpAny_pure (wpAny_bind (wpAny_pure (wpAny_bind (same_raw ha hb da db res step (wpAny_pure ⟨_, rfl, (fun z => nomatch z), ?_⟩))))))
  simpa using h
theorem ne_raw {Q : Value → Shared → Prop} (hu : A.units < cLine) (ha : (a == sysModules) = false) (hb : (b == sysModules) = false) (da : s.heap.DictRaw a es ep) (db : s.heap.DictRaw b es' ep') (res : Nat → Bool)
    (step : es.size = es'.size → ∀ i, i < es.size → StepAt P w A.in1 s b es es' i (res i)) (h : Q (.bool (!(es.size == es'.size && (List.range es.size).all res))) s) : wpAny (model P w) A (compareOp .NotEq (.ref a) (.ref b)) Q E s := by
  refine wpAny_richCompare_same_room (op := .NotEq) da.typeIs db.typeIs F.slot_dict_ne (wpAny_call_entry F.slot_dict_ne da.typeIs F.entry_dict_ne ?_ (F.args_dict_ne_2 _ _)) hu
  show wpAny _ _ (Builtin.Dict.dictSlotArgs "__ne__" ⟨[.ref a, .ref b], []⟩ >>= _) _ _ s
  unfold Builtin.Dict.dictSlotArgs
  refine wpAny_bind (wpAny_bind (wpAny_notOrdered_dict da.typeIs (wpAny_pure (wpAny_bind (wpAny_isInstance (T := "dict") db.typeIs F.sub_dict_dict ?_)))))
  simp only [Bool.not_true, Bool.false_eq_true, if_false]
  refine wpAny_bind (wpAny_pure (wpAny_bind (wpAny_pure (wpAny_bind (same_raw ha hb da db res step (wpAny_pure ⟨_, rfl, (fun z => nomatch z), ?_⟩))))))
  simpa using h
end
end FDc
namespace DL
open PySem PySem.Spec PyProof.Rows L2 Evl FDc
variable [CTab]
/-- dicts as Python compares them -/
def hitD (b : List (PyData × PyData)) (p : PyData × PyData) : Bool := match valD b p.1 with
  | some d => PyData.eqv p.2 d
  | none => false
def eqvK (a b : List (PyData × PyData)) : Bool := a.length == b.length && a.all (hitD b)
def sameKs : List (PyData × PyData) → List (PyData × PyData) → Bool
  | (k, _) :: _, b => b.isEmpty || sameK b k
  | [], _ => true
def shpK (a : List (PyData × PyData)) : Bool := a.all fun p => SeqAt.shaped p.2
section
variable {X : Cx} {pins : List (Addr × Obj)} {σ : L2.St} {H : Hp} {s : Shared} {a b : Addr}
theorem rp_reads (I : Inv X pins σ H s) {v : V} {d : PyData} (r : Rp X.K H v d) (hs : SeqAt.shaped d = true) {u : Value} (rv : RelV v u) : ∃ as, Reads s.heap u d as := Dp.reads I d v u (r.dp (SeqAt.canLay_of_shaped hs)) rv
theorem eq_at (I : Inv X pins σ H s) {v v' : V} {d d' : PyData} (r : Rp X.K H v d) (r' : Rp X.K H v' d') (h : SeqAt.shaped d = true) (h' : SeqAt.shaped d' = true) {u u' : Value} (rv : RelV v u) (rv' : RelV v' u') {A : Around} (hu : A.in1.units + 64 < cLine) : SeqAt.EqAt A.in1 s u u' (PyData.eqv d d') := by
  obtain ⟨as, h1⟩ := rp_reads I r h rv
  obtain ⟨bs, h2⟩ := rp_reads I r' h' rv'
  exact PySem.W.keq_at h1 h2 h h' hu
theorem rpkv_at {K : PySem.W.Frag} {κ : Type} {kf : κ → PyData} : ∀ {kvs : List (κ × V)} {ds : List (PyData × PyData)} {i : Nat} {p : PyData × PyData}, RpKv K H (kvs.map fun p => (kf p.1, p.2)) ds → ds[i]? = some p → ∃ k v, kvs[i]? = some (k, v) ∧ p.1 = kf k ∧ Rp K H v p.2
  | [], _, _, _, .nil, h => by simp at h
  | q :: kvs, _, 0, p, .cons r _, h => by
    cases Option.some.inj h
    exact ⟨q.1, q.2, rfl, rfl, r⟩
  | q :: kvs, _, i + 1, p, .cons _ r, h => by
    obtain ⟨k, v, h1, h2⟩ := rpkv_at (i := i) r (by simpa using h)
    exact ⟨k, v, by simpa using h1, h2⟩
theorem valD_mem : ∀ {ds : List (PyData × PyData)} {k d : PyData}, valD ds k = some d → ∃ p ∈ ds, p.2 = d
  | p :: ds, k, d, h => by
    unfold valD at h
    rw [List.find?_cons] at h
    split at h
    · exact ⟨p, .head _, Option.some.inj h⟩
    · obtain ⟨q, h1, h2⟩ := valD_mem (ds := ds) (k := k) h
      exact ⟨q, .tail _ h1, h2⟩
theorem find_of_idx {α : Type} {p : α → Bool} : ∀ {l : List α} {j : Nat}, l.findIdx? p = some j → l.find? p = l[j]?
  | [], j, h => by simp at h
  | x :: l, j, h => by
    rw [List.findIdx?_cons] at h
    rw [List.find?_cons]
    cases q : p x with
    | true =>
      rw [q] at h
      cases Option.some.inj h
      rfl
    | false =>
      rw [q] at h
      have h : (l.findIdx? p).map (· + 1) = some j := by simpa using h
      cases e : l.findIdx? p with
      | none => rw [e] at h; cases h
      | some m =>
        rw [e] at h
        cases Option.some.inj h
        rw [find_of_idx e]
        rfl
theorem step_K (I : Inv X pins σ H s) {o o' : Obj} {ks ks' : List (Key × V)} {kvs kvs' : List (PyData × PyData)} (fa : H a = some (.frz o (.dK ks))) (fb : H b = some (.frz o' (.dK ks'))) (ra : RpKv X.K H (ks.map fun p => (kD p.1, p.2)) kvs) (rb : RpKv X.K H (ks'.map fun p => (kD p.1, p.2)) kvs')
    (sa : shpK kvs = true) (sb : shpK kvs' = true) {A : Around} (hu : A.in1.units + 64 < cLine) {es es' : Array DictEntry} {ep ep' : Nat} (da : s.heap.DictRaw a es ep) (db : s.heap.DictRaw b es' ep') : ∀ i, i < es.size → ∃ p, kvs[i]? = some p ∧ StepAt X.prog X.w A.in1 s b es es' i (hitD kvs' p) := by
  intro i hi
  obtain ⟨_, g1, _, ea, epa, vs, d1, z1, kv, oa, esa, h1, _, h2, hka, hpa, _⟩ := I.frzK fa
  obtain ⟨_, g2, _, eb, epb, vs', d2, z2, kv', ob, esb, h1', _, h2', hkb, hpb, _⟩ := I.frzK fb
  obtain ⟨oa2, x1, _, x2⟩ := da
  obtain ⟨ob2, y1, y3, y2⟩ := db
  rw [h1] at x1
  cases x1
  rw [h2] at x2
  cases x2
  rw [h1'] at y1
  cases y1
  rw [h2'] at y2
  cases y2
  have lz : es.size = kvs.length := by
    have := rpkv_len ra
    rw [List.length_map] at this
    have l1 := hpa.length
    rw [Array.length_toList] at l1
    have l2 : ks.length = vs.length := Paired.length kv
    omega
  obtain ⟨p, hp⟩ : ∃ p, kvs[i]? = some p := ⟨_, List.getElem?_eq_getElem (by omega)⟩
  refine ⟨p, hp, ?_⟩
  obtain ⟨k, v, hk, ek, rv⟩ := rpkv_at ra hp
  obtain ⟨u, hu', ru⟩ := kv_get kv hk
  have he : es[i]? = some es[i] := Array.getElem?_eq_getElem hi
  obtain ⟨hkey, hval⟩ := hpa.get? (i := i) (e := es[i]) (k := k) (v := u) (by rw [Array.getElem?_toList]; exact he) hu'
  obtain ⟨k', hk', hh⟩ := hka es[i] (Array.getElem_mem hi)
  have ekk : k' = k := (mixKind X.prog X.w).inj _ _ _ hk' hkey
  rw [ekk] at hh
  refine ⟨es[i], es'.findIdx? fun e => (mixKind X.prog X.w).is k e.key, he, fun E Q q => by rw [hh]; exact wpAny_dictFind_of hkey h1' h2' hkb q, ?_⟩
  have hsp : SeqAt.shaped p.2 = true := List.all_eq_true.mp sa p (List.mem_of_getElem? hp)
  have fnd : (es'.toList.findIdx? fun e => (mixKind X.prog X.w).is k e.key) = vs'.findIdx? fun kv => decide (kv.1 = k) := hpb.findIdx k
  have fe : (es'.findIdx? fun e => (mixKind X.prog X.w).is k e.key) = vs'.findIdx? fun kv => decide (kv.1 = k) := by
    rw [← fnd]
    obtain ⟨l⟩ := es'
    simp
  have rel := kv'.val k
  have dat := rpkv_val (K := X.K) (H := H) eqv_kD rb k
  rw [fe]
  unfold hitD
  rw [ek]
  cases hf : vs'.findIdx? fun kv => decide (kv.1 = k) with
  | none =>
    left
    refine ⟨rfl, ?_⟩
    have vn : valueAt vs' k = none := by
      unfold valueAt
      rw [List.find?_eq_none.mpr (fun x hx => by simpa using List.findIdx?_eq_none_iff.mp hf x hx)]
      rfl
    rw [vn] at rel
    have vv : valV ks' k = none := by
      cases q : valV ks' k with
      | none => rfl
      | some y => rw [q] at rel; exact rel.elim
    rcases dat with ⟨_, dn⟩ | ⟨v2, d2, e1, _⟩
    · rw [dn]
    · rw [vv] at e1
      cases e1
  | some j =>
    right
    obtain ⟨hj, hk1, _⟩ := List.findIdx?_eq_some_iff_getElem.mp hf
    have hkj : vs'[j].1 = k := by simpa using hk1
    have hfd : vs'.find? (fun kv => decide (kv.1 = k)) = some vs'[j] := by
      rw [find_of_idx hf]
      exact List.getElem?_eq_getElem hj
    have va : valueAt vs' k = some vs'[j].2 := by
      unfold valueAt
      rw [hfd]
      rfl
    rw [va] at rel
    obtain ⟨v2, hv2, rv2⟩ : ∃ v2, valV ks' k = some v2 ∧ RelV v2 vs'[j].2 := by
      cases q : valV ks' k with
      | none => rw [q] at rel; exact rel.elim
      | some y => rw [q] at rel; exact ⟨y, rfl, rel⟩
    rcases dat with ⟨vn, _⟩ | ⟨v3, d3, e1, e2, e3⟩
    · rw [vn] at hv2
      cases hv2
    · rw [hv2] at e1
      cases e1
      have hjz : j < es'.size := by
        have l1 := hpb.length
        rw [Array.length_toList] at l1
        omega
      obtain ⟨_, hval'⟩ := hpb.get? (i := j) (e := es'[j]) (k := vs'[j].1) (v := vs'[j].2) (by rw [Array.getElem?_toList]; exact Array.getElem?_eq_getElem hjz) (List.getElem?_eq_getElem hj)
      refine ⟨j, es'[j], rfl, Array.getElem?_eq_getElem hjz, ?_⟩
      rw [e2]
      obtain ⟨pq, hpq, epq⟩ := valD_mem e2
      have hsd : SeqAt.shaped d3 = true := by
        rw [← epq]
        exact List.all_eq_true.mp sb pq hpq
      rw [hval, hval']
      exact eq_at I rv e3 hsp hsd ru rv2 hu
theorem step_T (hw : X.w = CTab.w) (I : Inv X pins σ H s) {ks ks' : List Ent} {kvs kvs' : List (PyData × PyData)} (fa : FzN H a ks) (fb : FzN H b ks') (ka : KeysAt X.K H ks) (kb : KeysAt X.K H ks') (ra : RpKv X.K H (entD ks) kvs) (rb : RpKv X.K H (entD ks') kvs')
    (sa : shpK kvs = true) (sb : shpK kvs' = true) {A : Around} (hu : A.in1.units + 64 < cLine) {es es' : Array DictEntry} {ep ep' : Nat} (da : s.heap.DictRaw a es ep) (db : s.heap.DictRaw b es' ep') : ∀ i, i < es.size → ∃ p, kvs[i]? = some p ∧ StepAt X.prog X.w A.in1 s b es es' i (hitD kvs' p) := by
  intro i hi
  obtain ⟨_, oa, ga, dda⟩ := dn_at I fa.rd
  obtain ⟨xs, pra, oa', ea, epa, g1, _, d1, hea, hisa, _⟩ := dno_dict I hw ga dda ka
  obtain ⟨_, ob, gb, ddb⟩ := dn_at I fb.rd
  obtain ⟨xs', prb, ob', eb, epb, g2, _, d2, heb, his, hnb⟩ := dno_dict I hw gb ddb kb
  obtain ⟨oa2, x1, _, x2⟩ := da
  obtain ⟨ob2, y1, y3, y2⟩ := db
  rw [g1] at x1
  cases x1
  rw [d1] at x2
  cases x2
  rw [g2] at y1
  cases y1
  rw [d2] at y2
  cases y2
  have lz : es.size = kvs.length := by
    have := rpkv_len ra
    rw [entD, List.length_map, pn_len] at this
    have l1 : es.size = xs.length := size_of_entries hea
    have l2 : ks.length = xs.length := Paired.length pra
    omega
  obtain ⟨p, hp⟩ : ∃ p, kvs[i]? = some p := ⟨_, List.getElem?_eq_getElem (by omega)⟩
  refine ⟨p, hp, ?_⟩
  obtain ⟨k, v, hk, ek, rv⟩ := rpkv_at (kf := NestedKey.data) ra hp
  obtain ⟨en, hen, eqn⟩ : ∃ en, ks[i]? = some en ∧ (en.1, en.2.2) = (k, v) := by
    unfold pn at hk
    rw [List.getElem?_map] at hk
    obtain ⟨en, h1, h2⟩ := Option.map_eq_some_iff.mp hk
    exact ⟨en, h1, h2⟩
  obtain ⟨q, hq, e1, _, ru⟩ := relE_get' pra hen
  cases eqn
  have he : es[i]? = some (entryOfKey (nestedKind X.prog X.w) q) := by
    rw [entry_at hea i, hq]
    rfl
  have e1 : en.1 = q.1 := e1
  generalize hkn : en.1 = k at *
  have hkey : (nestedKind X.prog X.w).is s.heap q.1 q.2.1 := hisa q (List.mem_of_getElem? hq)
  have hroom : (nestedKind X.prog X.w).room A.in1 := by
    show A.in1.units + 8 < cLine
    omega
  have hsp : SeqAt.shaped p.2 = true := List.all_eq_true.mp sa p (List.mem_of_getElem? hp)
  have dat := rpkv_val (K := X.K) (H := H) eqv_nkd rb k
  have kvb := kv_pn prb
  unfold hitD
  rw [ek]
  cases hf : xs'.findIdx? fun x => decide (x.1 = k) with
  | none =>
    have no : ∀ (j : Nat) (z : Addr × Value), xs'[j]? ≠ some (q.1, z) := fun j z hz => by
      have := List.findIdx?_eq_none_iff.mp hf _ (List.mem_of_getElem? hz)
      rw [← e1] at this
      simp at this
    have vv : valV (pn ks') k = none := by
      have rel := kvb.val k
      rw [valueAt_pairsH, atKey_none_of_get (fun j z hz => no j z (by rw [← e1]; exact hz))] at rel
      cases w : valV (pn ks') k with
      | none => rfl
      | some y => rw [w] at rel; exact rel.elim
    refine ⟨_, none, he, fun E Q z => wpAny_dictFind_heap hroom hkey g2 d2 heb his hnb (fun _ => z) (fun j pz hz => absurd hz (no j pz)), .inl ⟨rfl, ?_⟩⟩
    rcases dat with ⟨_, dn⟩ | ⟨v2, d2, e3, _⟩
    · rw [dn]
    · rw [vv] at e3
      cases e3
  | some j =>
    obtain ⟨hj, hk1, hmin⟩ := List.findIdx?_eq_some_iff_getElem.mp hf
    have hkj : xs'[j].1 = k := by simpa using hk1
    have hxj : xs'[j]? = some xs'[j] := List.getElem?_eq_getElem hj
    obtain ⟨y, hy, z1, _, z3⟩ := relE_get prb hxj
    have uniq : ∀ (j' : Nat) (pz : Addr × Value), xs'[j']? = some (q.1, pz) → j' = j := fun j' pz hz => by
      have h1 : (xs'.map (·.1))[j']? = some k := by rw [List.getElem?_map, hz, e1]; rfl
      have h2 : (xs'.map (·.1))[j]? = some k := by rw [List.getElem?_map, hxj, ← hkj]; rfl
      exact (List.getElem?_inj (List.getElem?_eq_some_iff.mp h1).1 hnb).mp (h1.trans h2.symm)
    refine ⟨_, some j, he, fun E Q z => wpAny_dictFind_heap hroom hkey g2 d2 heb his hnb (fun h => absurd (show xs'[j]? = some (q.1, xs'[j].2) by rw [hxj]; exact congrArg some (Prod.ext (hkj.trans e1) rfl)) (h j _)) (fun j' pz hz => by rw [uniq j' pz hz]; exact z), .inr ⟨j, entryOfKey (nestedKind X.prog X.w) xs'[j], rfl, by rw [entry_at heb j, hxj]; rfl, ?_⟩⟩
    -- the value there
    have vy : valV (pn ks') k = some y.2.2 := by
      have nd : ((pn ks').map (·.1)).Nodup := by
        unfold pn
        rw [List.map_map]
        show (ks'.map (·.1)).Nodup
        rw [relE_keys prb]
        exact hnb
      have hyk : y.1 = k := z1.trans hkj
      have := val_nodup nd (y.1, y.2.2) (List.mem_map.mpr ⟨y, List.mem_of_getElem? hy, rfl⟩)
      rw [← hyk]
      exact this
    rcases dat with ⟨vn, _⟩ | ⟨v3, d3, w1, w2, w3⟩
    · rw [vn] at vy
      cases vy
    · rw [vy] at w1
      cases w1
      rw [w2]
      obtain ⟨pq, hpq, epq⟩ := valD_mem w2
      have hsd : SeqAt.shaped d3 = true := by
        rw [← epq]
        exact List.all_eq_true.mp sb pq hpq
      exact eq_at I rv w3 hsp hsd ru z3 hu
end
end DL
namespace DL
open PySem PySem.Spec PyProof.Rows L2 Evl FDc
variable [CTab]
/-- two told dicts of one kind -/
structure Two (K : PySem.W.Frag) (H : Hp) (x y : V) (kvs kvs' : List (PyData × PyData)) : Prop where
  r1 : Rp K H x (.dict kvs)
  r2 : Rp K H y (.dict kvs')
  i1 : insB kvs = false
  i2 : insB kvs' = false
  sk : sameKs kvs kvs' = true
  s1 : shpK kvs = true
  s2 : shpK kvs' = true
def rEqDD (K : PySem.W.Frag) : R2 := fun x y H Q => ∃ kvs kvs', Two K H x y kvs kvs' ∧ Q (.bl (eqvK kvs kvs')) H
def rNeDD (K : PySem.W.Frag) : R2 := fun x y H Q => ∃ kvs kvs', Two K H x y kvs kvs' ∧ Q (.bl (!eqvK kvs kvs')) H
section
variable {X : Cx}
theorem all_range {α : Type} (l : List α) (f : Nat → Bool) (g : α → Bool) (h : ∀ i (hi : i < l.length), f i = g l[i]) : (List.range l.length).all f = l.all g := by
  rw [Bool.eq_iff_iff, List.all_eq_true, List.all_eq_true]
  constructor
  · intro q x hx
    obtain ⟨i, hi, rfl⟩ := List.getElem_of_mem hx
    rw [← h i hi]
    exact q i (List.mem_range.mpr hi)
  · intro q i hi
    have hi := List.mem_range.mp hi
    rw [h i hi]
    exact q _ (List.getElem_mem hi)
/-- what the comparison finds -/
theorem two_steps {pins : List (Addr × Obj)} {σ : L2.St} {H : Hp} {s : Shared} {x y : V} {kvs kvs' : List (PyData × PyData)} (hw : X.w = CTab.w) (I : Inv X pins σ H s) (t : Two X.K H x y kvs kvs') (hu : X.A.units + 65 < cLine) :
    ∃ a b es ep es' ep' res, x = .ref a ∧ y = .ref b ∧ (a == sysModules) = false ∧ (b == sysModules) = false ∧ s.heap.DictRaw a es ep ∧ s.heap.DictRaw b es' ep' ∧ (es.size = es'.size → ∀ i, i < es.size → StepAt X.prog X.w X.A.in1 s b es es' i (res i)) ∧
      (es.size == es'.size && (List.range es.size).all res) = eqvK kvs kvs' := by
  obtain ⟨a, rfl, fa⟩ := t.r1.dict t.i1
  obtain ⟨b, rfl, fb⟩ := t.r2.dict t.i2
  have raw : ∀ {d : Addr} {kv : List (PyData × PyData)}, ((∃ ks : List (Key × V), Fz H d (.dK ks) ∧ RpKv X.K H (ks.map fun p => (kD p.1, p.2)) kv) ∨ DicN X.K H d kv) →
      (d == sysModules) = false ∧ ∃ es ep, s.heap.DictRaw d es ep ∧ es.size = kv.length := fun {d kv} h => by
    rcases h with ⟨ks, ⟨o, f⟩, r⟩ | ⟨ks, f, _, r⟩
    · obtain ⟨h1, _, es, ep, h3, h4⟩ := raw_of (n := kv.length) I (.inl ⟨o, ks, f, by rw [← rpkv_len r, List.length_map]⟩)
      exact ⟨h1, es, ep, h3, h4⟩
    · obtain ⟨h1, _, es, ep, h3, h4⟩ := raw_of (n := kv.length) I (.inr ⟨ks, f, by rw [← rpkv_len r, entD, List.length_map, pn_len]⟩)
      exact ⟨h1, es, ep, h3, h4⟩
  obtain ⟨ha, es, ep, da, za⟩ := raw fa
  obtain ⟨hb, es', ep', db, zb⟩ := raw fb
  have hu' : X.A.in1.units + 64 < cLine := by
    show X.A.units + 1 + 64 < cLine
    omega
  have e2 : (es.size == es'.size && (List.range es.size).all fun i => hitD kvs' (kvs.getD i (.none, .none))) = eqvK kvs kvs' := by
    unfold eqvK
    rw [za, zb, all_range kvs _ (hitD kvs') fun i hi => by rw [List.getD_eq_getElem?_getD, List.getElem?_eq_getElem hi]; rfl]
  refine ⟨a, b, es, ep, es', ep', fun i => hitD kvs' (kvs.getD i (.none, .none)), rfl, rfl, ha, hb, da, db, fun hz i hi => ?_, e2⟩
  have fin : (∃ p, kvs[i]? = some p ∧ StepAt X.prog X.w X.A.in1 s b es es' i (hitD kvs' p)) → StepAt X.prog X.w X.A.in1 s b es es' i (hitD kvs' (kvs.getD i (.none, .none))) := fun ⟨p, hp, st⟩ => by
    rw [List.getD_eq_getElem?_getD, hp]
    exact st
  have ne : kvs ≠ [] := fun z => by
    rw [z] at za
    rw [za] at hi
    exact absurd hi (Nat.not_lt_zero _)
  have ne' : kvs' ≠ [] := fun z => by
    rw [z] at zb
    rw [hz, zb] at hi
    exact absurd hi (Nat.not_lt_zero _)
  have sk : ∃ p r, kvs = p :: r ∧ sameK kvs' p.1 = true := by
    cases kvs with
    | nil => exact absurd rfl ne
    | cons p r =>
      refine ⟨p, r, rfl, ?_⟩
      have h : (kvs'.isEmpty || sameK kvs' p.1) = true := t.sk
      cases kvs' with
      | nil => exact absurd rfl ne'
      | cons q r' => simpa using h
  obtain ⟨p, r, ek, hsk⟩ := sk
  rcases fa with ⟨ks, ⟨o, f⟩, ra⟩ | ⟨ks, f, ka, ra⟩ <;> rcases fb with ⟨ks', ⟨o', f'⟩, rb⟩ | ⟨ks', f', kb, rb⟩
  · exact fin (step_K I f f' ra rb t.s1 t.s2 hu' da db i hi)
  · exfalso
    subst ek
    obtain ⟨z, hz⟩ := sameK_t kb rb hsk
    cases ks with
    | nil => cases ra
    | cons q ks =>
      have := rpkv_keys ra
      injection this with h1 _
      have h1 : p.1 = kD q.1 := h1
      rw [h1] at hz
      cases e : q.1 <;> rw [e] at hz <;> cases hz
  · exfalso
    subst ek
    obtain ⟨z, hz⟩ := sameK_k rb hsk
    cases ks with
    | nil => exact nomatch (show RpKv X.K H [] (p :: r) from ra)
    | cons q ks =>
      have := rpkv_keys ra
      injection this with h1 _
      obtain ⟨kk, hkk⟩ := keyAt_tup (ka q (.head _))
      have h1 : p.1 = q.1.data := h1
      rw [hkk] at h1
      have h1 : p.1 = .tuple (NestedKey.datas kk) := h1
      rw [h1] at hz
      rcases keyX_nk kk with e | e
      · rw [e] at hz
        cases hz
      · rw [e] at hz
        cases hz
  · exact fin (step_T hw I f f' ka kb ra rb t.s1 t.s2 hu' da db i hi)
theorem op_eqDD (hw : X.w = CTab.w) (hu : X.A.units + 65 < cLine) : OpR X (compareOp .Eq) (rEqDD X.K) := by
  intro pins s σ H x y v u Q I rx ry h
  obtain ⟨kvs, kvs', t, q⟩ := h
  obtain ⟨a, b, es, ep, es', ep', res, rfl, rfl, ha, hb, da, db, st, e⟩ := two_steps hw I t hu
  cases rx
  cases ry
  exact eq_raw (by omega) ha hb da db res st ⟨.bl _, H, I, rfl, by rw [e]; exact q⟩
theorem op_neDD (hw : X.w = CTab.w) (hu : X.A.units + 65 < cLine) : OpR X (compareOp .NotEq) (rNeDD X.K) := by
  intro pins s σ H x y v u Q I rx ry h
  obtain ⟨kvs, kvs', t, q⟩ := h
  obtain ⟨a, b, es, ep, es', ep', res, rfl, rfl, ha, hb, da, db, st, e⟩ := two_steps hw I t hu
  cases rx
  cases ry
  exact ne_raw (by omega) ha hb da db res st ⟨.bl _, H, I, rfl, by rw [e]; exact q⟩
end
section
variable {K : PySem.W.Frag}
def rEqB (K : PySem.W.Frag) : R2 := fun x y H Q => rEqA K x y H Q ∨ rEqDD K x y H Q
def rNeB (K : PySem.W.Frag) : R2 := fun x y H Q => rNeA K x y H Q ∨ rNeDD K x y H Q
theorem kEqB {X : Cx} (h : X.K = K) (hu : X.A.units + 65 < cLine) (hw : X.w = CTab.w := by rfl) : OpR X (compareOp .Eq) (rEqB K) := opOr (kEqA h (by omega)) (h ▸ op_eqDD hw hu)
theorem kNeB {X : Cx} (h : X.K = K) (hu : X.A.units + 65 < cLine) (hw : X.w = CTab.w := by rfl) : OpR X (compareOp .NotEq) (rNeB K) := opOr (kNeA h (by omega)) (h ▸ op_neDD hw hu)
def eqBW : W2
  | .dict a, .dict b, Q => insB a = false ∧ insB b = false ∧ sameKs a b = true ∧ shpK a = true ∧ shpK b = true ∧ Q (.bool (eqvK a b))
  | d, e, Q => eqW d e Q
def neBW : W2
  | .dict a, .dict b, Q => insB a = false ∧ insB b = false ∧ sameKs a b = true ∧ shpK a = true ∧ shpK b = true ∧ Q (.bool (!eqvK a b))
  | d, e, Q => neW d e Q
theorem ow_eqB : OpW K (rEqB K) eqBW := fun d e Q h => by
  unfold eqBW at h
  split at h
  · obtain ⟨h1, h2, h3, h4, h5, q⟩ := h
    intro v1 v2 H H1 ex r1 r2 Q' k
    exact .inr ⟨_, _, ⟨r1.mono ex, r2.mono ex, h1, h2, h3, h4, h5⟩, k _ _ H H1 (Grow.refl ex) (.bl _) q⟩
  · exact RD.l (ow_eq _ _ Q h)
theorem ow_neB : OpW K (rNeB K) neBW := fun d e Q h => by
  unfold neBW at h
  split at h
  · obtain ⟨h1, h2, h3, h4, h5, q⟩ := h
    intro v1 v2 H H1 ex r1 r2 Q' k
    exact .inr ⟨_, _, ⟨r1.mono ex, r2.mono ex, h1, h2, h3, h4, h5⟩, k _ _ H H1 (Grow.refl ex) (.bl _) q⟩
  · exact RD.l (ow_ne _ _ Q h)
end
end DL
namespace FDc
open PySem PySem.Spec PyProof.Rows L2 DL
variable [CTab]
/-- d[y] = z within a comprehension -/
theorem put_T {X : Cx} {pins : List (Addr × Obj)} {σ : L2.St} {H : Hp} {s : Shared} {E : Value → Shared → Prop} {D b : Addr} {xs : List Ent} {k : NestedKey} {v : V} {r : Value} {Q : Unit → Shared → Prop} (hw : X.w = CTab.w) (hu : X.A.units + 8 < cLine) (I : Inv X pins σ H s) (hD : H D = some (dNX CTab.w D xs)) (hk : KeysAt X.K H xs) (hz : xs.length < sizeLine)
    (hb : KeyAt X.K H k (.ref b)) (dp : k.depth ≤ 8) (rv : RelV v r) (h : ∀ s', Inv X pins σ (upd H D (dNX CTab.w D (putN xs k b v))) s' → Q () s') : wpAny (model X.prog X.w) X.A (dictSet D (.ref b) r) Q E s := by
  obtain ⟨hd, _, hdp, ys, rel, dd⟩ := dn_dict hw I (.inl hD) hk
  have hx : ys.length ≤ sizeLine := Paired.length rel ▸ Nat.le_of_lt hz
  refine wpAny_dictSet_heap (hsz := hx) (knd := nestedKind X.prog X.w) hu (⟨KeyAt.is I hb rfl, dp⟩ : (nestedKind X.prog X.w).is s.heap k b) dd fun h' d' sb => h _ ?_
  have hl : (putN xs k b v).length ≤ sizeLine := Nat.le_trans (putN_len xs k b v) hz
  have z := dno_of (relE_put rel k b rv) hl (putN_dep hdp dp) d'
  have z' := z
  rw [hw] at z'
  exact d_write I (by rw [hD]; exact True.intro) sb (let ⟨q, hq, _⟩ := z; ⟨q, hq⟩) (dnx_ok ⟨hd, z'⟩)
theorem dn_new {P : Program} {w' w : World} {H : Hp} (h : Heap) (big : sysModules < h.objs.size) : ObjOk P w' H (h.push { cls := .type "dict", data := .dict #[] }) h.objs.size (dNX w h.objs.size []) :=
  dnx_ok ⟨beq_eq_false_iff_ne.mpr (Nat.ne_of_gt big), dno_of (P := P) (ys := []) .nil (Nat.zero_le _) (fun _ h => nomatch h) (Heap.DictOfH.new h)⟩
/-- what a turn does once the target and the tests are through -/
abbrev TurnT (K : PySem.W.Frag) (tk tv : TE) (D : Addr) (Nx : Hp → Prop) (σ : L2.St) (H : Hp) : Prop := tk σ H fun y H4 => tv σ H4 fun z H5 => ∃ xs k b, y = .ref b ∧ KeyAt K H5 k (.ref b) ∧ k.depth ≤ 8 ∧ KeysAt K H5 xs ∧ H5 D = some (dNX CTab.w D xs) ∧ xs.length < sizeLine ∧ Nx (upd H5 D (dNX CTab.w D (putN xs k b z)))
def tDcT (K : PySem.W.Frag) (wi : TI) (g : TG) (tt : TT) (tk tv : TE) (vs : List Nat) : TE := fun σ H Q => wi σ H fun J H1 => ∀ D, H1 D = none → ∃ W : Nat → Nat → Hp → Prop, (∃ m, W 0 m (upd H1 D (dNX CTab.w D []))) ∧ ∀ i m H, W i m H →
  (J.stop i H ∧ Q (.ref D) H) ∨ (J.go i H ∧ ∃ Nx : Hp → Prop, (∀ H', Nx H' → ∃ m', m' < m ∧ W (i + 1) m' H') ∧ ∀ x H', J.yld i H x H' → g x (wipe σ vs) H' fun σ2 H2 => wipe σ2 vs = wipe σ vs ∧ tt σ2 H2 fun b H3 =>
    if b = true then TurnT K tk tv D Nx σ2 H3 else Nx H3)
section
variable {X : Cx}
/-- all that is asked of the parts of the comprehension, in whatever block it runs -/
structure Parts (X : Cx) (kx vx tg : Expr) (ifs : List Expr) (scope : Scope) (g : TG) (tt : TT) (tk tv : TE) : Prop where
  g : ∀ (s : Shared) (H : Hp) (C : Addr) (cl : List (Str × Addr)) (fp : List Addr), PG (X.blk s H scope (compEnvC scope cl C X.env) fp) tg g
  t : ∀ (s : Shared) (H : Hp) (C : Addr) (cl : List (Str × Addr)) (fp : List Addr), PTs (X.blk s H scope (compEnvC scope cl C X.env) fp) ifs tt
  k : ∀ (s : Shared) (H : Hp) (C : Addr) (cl : List (Str × Addr)) (fp : List Addr), PE (X.blk s H scope (compEnvC scope cl C X.env) fp) kx tk
  v : ∀ (s : Shared) (H : Hp) (C : Addr) (cl : List (Str × Addr)) (fp : List Addr), PE (X.blk s H scope (compEnvC scope cl C X.env) fp) vx tv
theorem pe_dcT {kx vx tg iter : Expr} {ifs : List Expr} {scope : Scope} {own : List (Str × Nat)} {pos : Pos} {wi : TI} {g : TG} {tt : TT} {tk tv : TE} (hw : X.w = CTab.w) (hu : X.A.units + 8 < cLine) (hc : X.calm = true) (hN : X.N.Nodup) (hi : PI X tg iter wi) (ok : BlkOk X.N X.env.scope scope own)
    (ps : Parts X kx vx tg ifs scope g tt tk tv) (hs : ∀ x, foldedSetIterable iter X.env x = pure x := by intro _; rfl) : PE X (.DictComp kx vx [⟨tg, iter, ifs, 0⟩] scope pos) (tDcT X.K wi g tt tk tv (own.map (·.2))) := by
  refine ⟨fun pins s σ H Q I h => ?_⟩
  rw [arm_eval_DictComp]
  have hfree : ∀ y ∈ scope.names, y.2 = .free → ∃ c, X.env.cells.lookup y.1 = some c := fun y hy e => (ok.free y hy e).elim (fun k => I.ok.has _ (.inl k)) fun k => I.ok.has _ (.inr k)
  refine wpAny_comprehension_free rfl hs (closure_ok hfree) ok.kind (fun y hy e => by rw [ok.uniq y hy, e]) (thn (hi.run pins s σ H _ I h) fun xv s1 hx => thn hx fun itv s2 h2 => ?_)
  obtain ⟨it, fp, tn, J, H2, rfl, I2, T, st2, f2, q⟩ := h2
  refine wpAny_newObj_type (newEnv_comp ?_)
  -- the new dict
  generalize hD : s2.heap.objs.size = D
  obtain ⟨W, ⟨m0, w0⟩, turn⟩ := q D (I2.hok.fresh (Nat.le_of_eq hD))
  generalize hs3 : ({ s2 with heap := s2.heap.push { cls := .type "dict", data := .dict #[] } } : Shared) = s3
  have h3 : s3.heap = s2.heap.push { cls := .type "dict", data := .dict #[] } := by rw [← hs3]
  have I3 : Inv X pins σ (upd H2 D (dNX CTab.w D [])) s3 := by
    rw [← hs3, ← hD]
    exact I2.laid (t' := s2.toks) (fun b o e => Heap.get?_push_of_some _ e) (Nat.le_refl _) (dn_new s2.heap I2.big)
  have old : ∀ b ∈ fp, b < D := fun b hb => by
    obtain ⟨o, e, _⟩ := T.obj _ _ st2 b hb
    rw [← hD]
    exact Heap.lt_size e
  have f3 : ∀ b ∈ fp, FpOk X pins (upd H2 D (dNX CTab.w D [])) b ∧ b < s3.heap.objs.size := fun b hb => by
    refine ⟨⟨?_, (f2 b hb).2⟩, ?_⟩
    · rw [upd_ne (Nat.ne_of_lt (old b hb))]
      exact (f2 b hb).1
    · rw [h3, Heap.size_push, hD]
      exact Nat.lt_succ_of_lt (old b hb)
  have st3 : tn 0 s3.heap := T.keep _ _ _ st2 fun b _ o e => by
    rw [h3]
    exact Heap.get?_push_of_some _ e
  have I4 := block_start I3 ok hN f3
  -- the block
  let C := s3.heap.objs.size
  let cl := cellsFrom (C + 1) scope.names (cloFrom X.env.cells scope.names [])
  have pg := ps.g s3 (upd H2 D (dNX CTab.w D [])) C cl fp
  have pt := ps.t s3 (upd H2 D (dNX CTab.w D [])) C cl fp
  have pk := ps.k s3 (upd H2 D (dNX CTab.w D [])) C cl fp
  have pe := ps.v s3 (upd H2 D (dNX CTab.w D [])) C cl fp
  show codeAny _ _ (.compStart (.DictComp kx vx [⟨tg, iter, ifs, 0⟩] scope pos) 0 (.ref it) (.ref D) (compEnvC scope cl C X.env)) (compPost (model X.prog X.w) X.A X.xe none _ (.ref D) C) { s3 with heap := pushCells (s3.heap.push { cls := .type "dict", data := .dict #[] }) scope.names }
  have cL : (compEnvC scope cl C X.env).locals = C := rfl
  have nfp : ∀ b ∈ fp, (upd H2 D (dNX CTab.w D [])) b = none := fun b hb => (f3 b hb).1.1
  generalize hce : compEnvC scope cl C X.env = ce at pg pt pk pe cL ⊢
  have I4 : Inv (X.blk s3 (upd H2 D (dNX CTab.w D [])) scope ce fp) [] (wipe σ (own.map (·.2))) (upd H2 D (dNX CTab.w D [])) { s3 with heap := pushCells (s3.heap.push { cls := .type "dict", data := .dict #[] }) scope.names } := by
    rw [← hce]
    exact I4
  generalize upd H2 D (dNX CTab.w D []) = H3 at I3 I4 pg pt pk pe w0 nfp f3
  generalize hs4 : ({ s3 with heap := pushCells (s3.heap.push { cls := .type "dict", data := .dict #[] }) scope.names } : Shared) = s4 at I4 ⊢
  have st4 : tn 0 s4.heap := T.keep _ _ _ st3 fun b _ o e => by
    rw [← hs4]
    exact pushCells_keeps _ _ _ _ (Heap.get?_push_of_some _ e)
  have stat : ∀ {σ' : L2.St} {H' : Hp} {s' : Shared}, Inv (X.blk s3 H3 scope ce fp) [] σ' H' s' → (∀ b ∈ fp, H' b = none) → ∀ b ∈ fp, FpOk (X.blk s3 H3 scope ce fp) [] H' b := fun I' hn b hb =>
    ⟨hn b hb, (I'.ok.exf b hb).1, I'.ok.exfs b hb, .inl hb, fun x c e => (I'.ok.exf b hb).2 x c e, fun p hp => absurd (show p ∈ ([] : List (Addr × Obj)) ++ [] from hp) (by simp)⟩
  refine codeAny_compStart_dict ?_ (T.self X.A 0 _ _ _ st4 ?_)
  all_goals
  refine compLoop_anyD (fun n s' => ∃ i H', Inv (X.blk s3 H3 scope ce fp) [] (wipe σ (own.map (·.2))) H' s' ∧ tn i s'.heap ∧ (∀ b ∈ fp, H' b = none) ∧ W i n H') ?_ m0 ⟨0, H3, I4, st4, nfp, w0⟩
  rintro n s5 ⟨i, H5, I5, st5, n5, w5⟩
  rcases turn i n H5 w5 with ⟨stop, qq⟩ | ⟨go, Nx, hNx, step⟩
  · -- the end: back in the def
    refine thnF (T.done (X.blk s3 H3 scope ce fp) rfl rfl rfl hc i [] s5 _ H5 (fun _ _ => False) I5 (stat I5 n5) st5 stop) fun r s6 ⟨hr, I6⟩ => ?_
    subst hr
    have I7 : Inv X pins σ H5 s6 := I3.call' (ch := fp) I6.os I6.base I6.hok I6.bare fun b hb => ⟨(f3 b hb).1.2.2.2.1, (f3 b hb).1.2.1, (f3 b hb).1.2.2.2.2.1, (f3 b hb).1.2.2.2.2.2⟩
    have nC : H5 C = none := by
      have z : H5 ce.locals = none := I6.free
      rwa [cL] at z
    obtain ⟨m, hn, _⟩ := I6.loc
    have hn : s6.heap.Ns ce.locals m := hn
    rw [cL] at hn
    obtain ⟨f0, f1, f2', f3', f4, f5⟩ := I3.fpOk (Nat.le_refl C) nC
    exact ⟨m, hn, fun h'' sb => ⟨.ref D, H5, I7.turned (t' := s6.toks) (fun b o hb e => (sb.2 b hb).trans e) f0 f1 f3' f4 f5, rfl, qq⟩⟩
  · refine thnF (T.item (X.blk s3 H3 scope ce fp) rfl rfl rfl hc i [] s5 _ H5 (fun _ _ => False) I5 (stat I5 n5) st5 go) fun r s6 ⟨u, hr, h6⟩ => ?_
    subst hr
    refine thnF h6 fun _ s7 ⟨x, H7, I7, r7, y7, st7, n7⟩ => ?_
    have I7' := I7.pinned (stat I7 n7) (T.obj _ _ st7)
    refine thnF (pg.run _ s7 _ H7 x u _ I7' r7 (step x H7 y7)) fun _ s8 ⟨σ8, H8, I8, hw8, q8⟩ => ?_
    refine thnF (pt.run _ s8 σ8 H8 _ I8 q8) fun b s9 ⟨H9, I9, q9⟩ => ?_
    have next : ∀ {s' : Shared} {H' : Hp}, Inv (X.blk s3 H3 scope ce fp) ([] ++ pinsAt fp s7.heap) σ8 H' s' → Nx H' → ∃ m, m < n ∧ ∃ i H', Inv (X.blk s3 H3 scope ce fp) [] (wipe σ (own.map (·.2))) H' s' ∧ tn i s'.heap ∧ (∀ b ∈ fp, H' b = none) ∧ W i m H' := fun {s' H'} I' nx => by
      obtain ⟨m', hm, w'⟩ := hNx H' nx
      have stays : ∀ b ∈ fp, ∀ o, s7.heap.get? b = some o → s'.heap.get? b = some o ∧ H' b = none := fun b hb o e => by
        have z := I'.pin (b, o) (List.mem_append_right _ (List.mem_append_right _ (mem_pinsAt hb e)))
        exact ⟨z.1, z.2.1⟩
      have hl : (wipe σ (own.map (·.2))).length = σ8.length := by rw [← hw8, L2.wipe_length]
      refine ⟨m', hm, i + 1, H', (I'.unpinned (pins := [])).weak hl (fun j v e => ?_), T.keep _ _ _ st7 fun b hb o e => (stays b hb o e).1, fun b hb => ?_, w'⟩
      · rw [← hw8] at e
        exact (wipe_some e).1
      · obtain ⟨o, e, _⟩ := T.obj _ _ st7 b hb
        exact (stays b hb o e).2
    cases b with
    | false =>
      simp only [Bool.false_eq_true, if_false] at q9 ⊢
      exact next I9 q9
    | true =>
      simp only [if_true] at q9 ⊢
      refine thnF (pk.run _ s9 σ8 H9 _ I9 q9) fun z s10 ⟨yk, H10, I10, r10, q10⟩ => ?_
      refine thnF (pe.run _ s10 σ8 H10 _ I10 q10) fun z2 s11 ⟨yv, H11, I11, r11, xs, k, b, ek, hb11, dp11, hk11, hD11, hz11, nx⟩ => ?_
      subst ek
      cases r10
      exact put_T (X := X.blk s3 H3 scope ce fp) hw hu I11 hD11 hk11 hz11 hb11 dp11 r11 fun s12 I12 => next I12 nx
end
end FDc
namespace DL
open PySem PySem.Spec PyProof.Rows L2 Evl FDc FSt
variable [CTab]
/-- what stands while a new dict is filled -/
structure FilN (K : PySem.W.Frag) (Hk H2 : Hp) (D : Addr) (Hm : Hp) (acc : List (PyData × PyData)) (H' : Hp) (xs : List Ent) : Prop where
  e1 : Ex Hk Hm
  e2 : Ex Hm H'
  e3 : Ex H2 H'
  hm : Hm D = none
  fr : ∀ p o, Hm p = some o → Hk p = none → NT o → H2 p = none
  at' : H' D = some (dNX CTab.w D xs)
  ks : KeysAt K Hm xs
  al : RpKv K Hm (entD xs) acc
theorem FilN.grow {K : PySem.W.Frag} {Hk H2 Hm H' Hm' H'' : Hp} {D : Addr} {acc : List (PyData × PyData)} {xs : List Ent} (f : FilN K Hk H2 D Hm acc H' xs) (g : Grow Hm H' Hm' H'') : FilN K Hk H2 D Hm' acc H'' xs :=
  ⟨f.e1.trans g.known, g.sub, f.e3.trans g.all, g.unk f.hm f.at' (fun _ z => nomatch z), fun p o h n t => by
    cases z : Hm p with
    | some u => exact f.fr p u z n (NT.of ((g.known p u z).symm.trans h) t)
    | none => exact ex_none f.e3 (g.fresh p o h z t), g.all _ _ f.at', f.ks.mono g.known, f.al.mono' g.known⟩
theorem FilN.add {K : PySem.W.Frag} {Hk H2 Hm H' : Hp} {D b : Addr} {acc : List (PyData × PyData)} {xs : List Ent} {v : V} {z : PyData} (f : FilN K Hk H2 D Hm acc H' xs) (hD : H2 D = none) (r : Rp K Hm v z) (k : NestedKey) (hk : KeyAt K Hm k (.ref b)) :
    FilN K Hk H2 D Hm (putD acc k.data z) (upd H' D (dNX CTab.w D (putN xs k b v))) (putN xs k b v) :=
  ⟨f.e1, f.e2.mut f.hm, f.e3.mut hD, f.hm, f.fr, upd_same, f.ks.put hk, by
    have := rpkv_put eqv_nkd r f.al k
    rw [← pn_put (b := b)] at this
    exact this⟩
def dcTW (vs : List Nat) (ww : WL) (b : WB) (t : WT) (wk wv : WE) : WE := fun ρ Q => ww ρ fun ds => ds.length ≤ 100000 ∧ dcompW b t wk wv isTd (wipeW ρ vs) ds [] fun kvs => Q (.dict kvs)
section
variable {K : PySem.W.Frag} {T : List Addr} {te tk tv : TE} {tt : TT} {we wk wv : WE} {ct : WT}
theorem de_dcT {wi : TI} {g : TG} {ww : WL} {b : WB} {vs js : List Nat} (hi : DI K T wi ww) (hg : DB K T js g b) (ht : DT K T tt ct) (hk : DE K T tk wk) (hv : DE K T tv wv) (hj : ∀ j ∈ js, j ∈ vs) : DE K T (tFrz (tDcT K wi g tt tk tv vs)) (dcTW vs ww b ct wk wv) := by
  intro σ ρ H F P h H1 e Q q
  refine hi σ ρ H F _ h H1 e _ fun ds J G Y Hk H2 p2 g2 w g0 hy => ?_
  obtain ⟨hn, p2⟩ := p2
  intro D hD
  have hDk : Hk D = none := ex_none g2.sub hD
  have Fk := (F.mono g2.known).wipe vs
  refine it_any w (fun i H' => ∃ Hm xs acc, FilN K Hk H2 D Hm acc H' xs ∧ acc.length ≤ i ∧ dcompW b ct wk wv isTd (wipeW ρ vs) (ds.drop i) acc fun kvs => P (.dict kvs)) ?_ ?_ ?_ ?_
  · exact ⟨Hk, [], [], ⟨Ex.refl _, g2.sub.trans (Ex.new hD), Ex.new hD, hDk, (fun p o h n _ => by rw [h] at n; cases n), upd_same, KeysAt.nil, .nil⟩, Nat.zero_le _, p2⟩
  · rintro i H' _ ⟨Hm, xs, acc, f, _⟩
    exact g0 H' (f.e1.trans f.e2)
  · rintro i x H3 H4 hlt ⟨Hm, xs, acc, f, hacc, hP⟩ y
    obtain ⟨Hm', g34, d, hd, rx⟩ := hy i x Hm H3 H4 hlt f.e1 f.e2 y
    rw [List.drop_eq_getElem_cons hlt] at hP
    have ed : ds[i] = d := by
      rw [List.getElem?_eq_getElem hlt] at hd
      exact Option.some.inj hd
    rw [ed] at hP
    have f4 := f.grow g34
    refine hg _ _ _ x d (Fk.mono f4.e1) rx _ hP H4 f4.e2 _ fun σ' ρ' F' ho _ hc => ⟨?_, ?_⟩
    · refine wipe_eq (ho.1.trans (L2.wipe_length σ vs)) fun j hj' => (ho.2 j fun z => hj' (hj j z)).1
    refine ht σ' ρ' Hm' F' _ hc H4 f4.e2 _ fun c Hm5 H5 g5 hc => ?_
    have f5 := f4.grow g5
    cases c with
    | false =>
      rw [if_neg Bool.false_ne_true] at hc ⊢
      exact ⟨Hm5, xs, acc, f5, by omega, hc⟩
    | true =>
      rw [if_pos rfl] at hc ⊢
      refine hk σ' ρ' Hm5 (F'.mono g5.known) _ hc H5 f5.e2 _ fun vk y Hm6 H6 g6 r6 p6 => ?_
      have f6 := f5.grow g6
      refine hv σ' ρ' Hm6 (F'.mono (g5.known.trans g6.known)) _ p6 H6 f6.e2 _ fun v z Hm7 H7 g7 r7 p7 => ?_
      have f7 := f6.grow g7
      obtain ⟨hky, p7⟩ := p7
      obtain ⟨kk, hkk⟩ := isTd_of hky
      obtain ⟨bq, rfl, hbq⟩ := rp_key (r6.mono g7.known) hkk
      obtain ⟨ey, dp⟩ := keyX_t hkk
      subst ey
      have hl : xs.length = acc.length := by
        have := rpkv_len f7.al
        rw [entD, List.length_map, pn_len] at this
        exact this
      refine ⟨xs, .tup kk, bq, rfl, hbq.mono f7.e2, dp, f7.ks.mono f7.e2, f7.at', sz_lt (by omega), Hm7, putN xs (.tup kk) bq v, putD acc (.tuple (NestedKey.datas kk)) z, f7.add hD r7 (.tup kk) hbq, ?_, p7⟩
      have := putD_len acc (.tuple (NestedKey.datas kk)) z
      omega
  · rintro H' ⟨Hm, xs, acc, f, hacc, hP⟩
    have gk : Grow Hk H2 Hm H' := ⟨f.e1, f.e2, f.e3, f.fr⟩
    rw [List.drop_length] at hP
    refine ⟨D, _, rfl, f.at', trivial, fun od => ?_⟩
    have gn : Grow Hk H2 (upd Hm D (.frz od (dNX CTab.w D xs))) (upd H' D (.frz od (dNX CTab.w D xs))) := ⟨f.e1.trans (Ex.new f.hm), ex_upd f.e2 D _, f.e3.mut hD, fun a o z n t => by
      by_cases c : a = D
      · subst c
        exact hD
      · rw [upd_ne c] at z
        exact f.fr a o z n t⟩
    exact q _ _ _ _ (g2.trans gn) (.dic (.n ⟨od, upd_same⟩ (f.ks.mono (Ex.new f.hm))) (f.al.mono' (Ex.new f.hm))) hP
end
end DL
namespace GEx
open PySem PySem.Spec PyProof.Rows L2
end GEx
namespace GEx
open PySem PySem.Spec PyProof.Rows L2
end GEx
namespace GEx
open PySem PySem.Spec PyProof.Rows L2 Evl DL
end GEx
namespace GEx
open PySem PySem.Spec PyProof.Rows L2 Evl DL
end GEx
namespace DL
open PySem PySem.Spec PyProof.Rows L2 Evl GEx
end DL
namespace DL
open PySem PySem.Spec PyProof.Rows L2 Evl FDc
variable [CTab]
/-- d[k] = v: unlocked, stored, locked again. H0: the heap at the def's entry -/
def rSetF (K : PySem.W.Frag) (H0 : Hp) : TSet := fun o i v H Q => ∃ p od, o = .ref p ∧ (∀ o' u', H0 p ≠ some (.frz o' u')) ∧
  ((∃ kvs k, H p = some (.frz od (.dK kvs)) ∧ i = kV k ∧ kvs.length < sizeLine ∧ ∀ od', Q (upd H p (.frz od' (.dK (putK kvs k v))))) ∨
   ∃ xs k b, H p = some (.frz od (dNX CTab.w p xs)) ∧ i = .ref b ∧ KeyAt K H k (.ref b) ∧ k.depth ≤ 8 ∧ KeysAt K H xs ∧ xs.length < sizeLine ∧ ∀ od', Q (upd H p (.frz od' (dNX CTab.w p (putN xs k b v)))))
theorem TpH.unl {K : PySem.W.Frag} {H : Hp} {p : Addr} {od : Obj} {u u' : HO} (hp : H p = some (.frz od u)) (hu : ∀ xs, u ≠ .tup xs) {a : Addr} {xs : List V} (h : TpH K H a xs) : TpH K (upd H p u') a xs := by
  have ne : ∀ {a : Addr} {o : HO}, H a = some o → (∀ od, o ≠ .frz od u) → a ≠ p := fun h n z => by
    rw [z, hp] at h
    exact n od (Option.some.inj h).symm
  rcases h with h | ⟨e, (h | ⟨o, h⟩) | h⟩
  · exact .inl (by rw [upd_ne (ne h fun _ z => nomatch z)]; exact h)
  · exact .inr ⟨e, .inl (.inl (by rw [upd_ne (ne h fun _ z => nomatch z)]; exact h))⟩
  · exact .inr ⟨e, .inl (.inr ⟨o, by rw [upd_ne (ne h fun od z => by cases z; exact hu _ rfl)]; exact h⟩)⟩
  · exact .inr ⟨e, .inr h⟩
mutual
theorem KeyAt.unl {K : PySem.W.Frag} {H : Hp} {p : Addr} {od : Obj} {u u' : HO} (hp : H p = some (.frz od u)) (hu : ∀ xs, u ≠ .tup xs) : ∀ {k : NestedKey} {v : V}, KeyAt K H k v → KeyAt K (upd H p u') k v
  | _, _, .non => .non
  | _, _, .int i => .int i
  | _, _, .str x => .str x
  | _, _, .tup h q => .tup (h.unl hp hu) (KeyAll.unl hp hu q)
theorem KeyAll.unl {K : PySem.W.Frag} {H : Hp} {p : Addr} {od : Obj} {u u' : HO} (hp : H p = some (.frz od u)) (hu : ∀ xs, u ≠ .tup xs) : ∀ {ks : List NestedKey} {vs : List V}, KeyAll K H ks vs → KeyAll K (upd H p u') ks vs
  | _, _, .nil => .nil
  | _, _, .cons h q => .cons (KeyAt.unl hp hu h) (KeyAll.unl hp hu q)
end
theorem set_frz {X : Cx} {H0 : Hp} {K : PySem.W.Frag} (hK : X.K = K) (hu : X.A.units + 64 < cLine) (hw : X.w = CTab.w := by rfl) (h : X.H_0 = H0 := by rfl) : PSet X (rSetF K H0) := by
  subst h
  subst hK
  intro pins s σ H o i v ov iv u Q I ro ri rv q
  obtain ⟨p, od, rfl, hn, q⟩ := q
  obtain rfl : ov = Value.ref p := ro
  rcases q with ⟨kvs, k, hp, rfl, hl, q⟩ | ⟨xs, k, b, hp, rfl, hb, dp, hk, hl, q⟩
  · have I1 := I.unlock hp hn
    refine d_setItem (by omega) I1 (DPut.k upd_same hl) ri rv fun s' I2 => ?_
    rw [upd_upd] at I2
    obtain ⟨od', I3⟩ := I2.lock (upd_same) trivial
    rw [upd_upd] at I3
    exact ⟨_, I3, q od'⟩
  · have I1 := I.unlock hp hn
    cases (show iv = Value.ref b from ri)
    have hk1 : KeysAt X.K (upd H p (dNX CTab.w p xs)) xs := fun x hx => (hk x hx).unl hp fun _ z => nomatch z
    have hb1 : KeyAt X.K (upd H p (dNX CTab.w p xs)) k (.ref b) := hb.unl hp fun _ z => nomatch z
    obtain ⟨hd, _, hdp, ys, rel, dd⟩ := dn_dict hw I1 (.inl upd_same) hk1
    have hx : ys.length ≤ sizeLine := Paired.length rel ▸ Nat.le_of_lt hl
    refine wpAny_setItem_heap (hsz := hx) (room_n (by omega)) (⟨KeyAt.is I1 hb1 rfl, dp⟩ : (nestedKind X.prog X.w).is s.heap k b) dd fun h' dd' hs => ?_
    have hz : (putN xs k b v).length ≤ sizeLine := Nat.le_trans (putN_len xs k b v) hl
    have z := dno_of (relE_put rel k b rv) hz (putN_dep hdp dp) dd'
    have z' := z
    rw [hw] at z'
    have I2 := d_write (t' := s.toks + (nestedKind X.prog X.w).draws k) I1 (by rw [upd_same]; exact True.intro) hs (let ⟨q, hq, _⟩ := z; ⟨q, hq⟩) (dnx_ok (P := X.prog) (H := upd (upd H p (dNX CTab.w p xs)) p (dNX CTab.w p (putN xs k b v))) ⟨hd, z'⟩)
    rw [upd_upd] at I2
    obtain ⟨od', I3⟩ := I2.lock (upd_same) trivial
    rw [upd_upd] at I3
    exact ⟨_, I3, q od'⟩
theorem RpKv.len {K : PySem.W.Frag} {H : Hp} : ∀ {a : List (PyData × V)} {b : List (PyData × PyData)}, RpKv K H a b → a.length = b.length
  | _, _, .nil => rfl
  | _, _, .cons _ r => congrArg (· + 1) (RpKv.len r)
def owdNewW (t : Bool) : WM := fun ρ Q => Q (.owd t [])
def keyOk : Bool → PyData → Bool
  | false, d => isKd d
  | true, d => isTd d
def storeDW (S : List Nat) (i : Nat) (wk wv : WE) : WS := fun W ρ => match ρ[i]? with
  | some (some (.owd t kvs)) => wv (tells S ρ) fun d => wk (tells S ρ) fun k => keyOk t k = true ∧ FreeE S ρ d ∧ kvs.length < 100000 ∧ W.nx (ρ.set i (some (.owd t (putD kvs k d))))
  | _ => False
section
variable {K : PySem.W.Frag} {T : List Addr} {S : List Nat} {te tk : TE} {we wk : WE} {i : Nat}
/-- {}, to be filled with tuples as keys -/
def tDNewN : TE := fun _ H Q => ∀ a, H a = none → Q (.ref a) (upd H a (dNX CTab.w a []))
theorem dm_dnewT : DM K T (tFrz tDNewN) (owdNewW true) := fun σ ρ H F P h H1 e Q q a ha => ⟨a, _, rfl, upd_same, trivial, fun od => by
  rw [upd_upd]
  exact q (.ref a) (.owd true []) H _ (Grow.hide e ha _) ⟨a, rfl, ex_none e ha, ha, [], ⟨od, upd_same⟩, KeysAt.nil, .nil⟩ h⟩
theorem ds_storeD [Base] (h : DE K T te we) (hk : DE K T tk wk) : DS K T (tAsg te (gSub (tVar i) tk (rSetF K Base.h0))) (storeDW S i wk we) := fun B B1 σ ρ H H1 F W D M h0 => by
  have e := tell_ex (S := S) F.o F.g.sub
  unfold storeDW at h0
  split at h0
  · rename_i t kvs hi
    obtain ⟨p, e1, e2, e3, e4⟩ := F.o.at1 i _ _ hi rfl
    refine h σ _ _ (F.told (S := S)) _ h0 H1 e.2 _ fun v d Hk H2 g r q => ?_
    refine ⟨.ref p, e1, ?_⟩
    refine hk σ _ _ ((F.told (S := S)).mono g.known) _ q H2 g.sub _ fun u z Hk' H3 g' r' q' => ?_
    obtain ⟨q1, q2, q3, q4⟩ := q'
    have gg := g.trans g'
    have F' := F.after (S := S) (Sub.refl ρ) gg
    have rc := Rp.cutO (F.ownIn (Sub.refl ρ) gg) (r.mono g'.known) q2.fr
    obtain ⟨p', b1, b2, b3, b4⟩ := F'.o.at1 i _ _ hi rfl
    rw [e1] at b1
    cases b1
    have nh : ∀ o' u', Base.h0 p ≠ some (.frz o' u') := fun o' u' z => by
      rw [F'.o.b0 p b3] at z
      cases z
    cases t with
    | false =>
      obtain ⟨od, ks, hp, rk⟩ := b4
      obtain ⟨k, hk'⟩ := isKd_of q1
      obtain rfl := keyX_k hk'
      have eu : u = kV k := by
        cases k <;> (cases r'; rfl)
      refine ⟨p, od, rfl, nh, .inl ⟨ks, k, hp, eu, ?_, fun od' => ?_⟩⟩
      · have := rk.len
        rw [List.length_map] at this
        exact sz_lt (by omega)
      · exact M.nx _ _ _ _ (F'.changeC (s' := .owd false (putD kvs (kD k) d)) hi rfl e1 rfl ⟨od', _, upd_same, rpkv_put eqv_kD rc rk k⟩) q4
    | true =>
      obtain ⟨xs, ⟨od, hp⟩, hks, rk⟩ := b4
      obtain ⟨k, hk'⟩ := isTd_of q1
      obtain ⟨b, rfl, hb⟩ := rp_key r' hk'
      obtain ⟨ez, dp⟩ := keyX_t hk'
      subst ez
      have hbc := KeyAt.cutO (F.ownIn (Sub.refl ρ) gg) hb
      refine ⟨p, od, rfl, nh, .inr ⟨xs, .tup k, b, hp, rfl, hb.mono g'.sub, dp, hks.mono F'.g.sub, ?_, fun od' => ?_⟩⟩
      · have := rk.len
        rw [entD, List.length_map, pn_len] at this
        exact sz_lt (by omega)
      · exact M.nx _ _ _ _ (F'.changeC (s' := .owd true (putD kvs (.tuple (NestedKey.datas k)) d)) hi rfl e1 rfl ⟨putN xs (.tup k) b _, ⟨od', upd_same⟩, hks.put hbc, by
          have := rpkv_put eqv_nkd rc rk (.tup k)
          rw [← pn_put (b := b)] at this
          exact this⟩) q4
  · exact h0.elim
end
end DL
namespace DL
open PySem PySem.Spec PyProof.Rows L2 Evl FDc FSt
variable [CTab]
theorem kIsiY {X : Cx} {K : PySem.W.Frag} (h : X.K = K) : CallR X (.builtin "isinstance") (rIsiY K) := h ▸ call_isiY
def callNW (n m : Nat) (w : List Sl → (PyData → Prop) → Prop) (a z : WA) : WE := fun ρ Q => a ρ fun ss => z ρ fun ts => ss.length = n ∧ ts.length = m ∧ w (ss ++ ts) Q
section
variable {K : PySem.W.Frag} {T : List Addr} {te : TE} {we : WE} {tl tk : TA} {ws wz : WA} {E : XK}
theorem RpSs.mono {H H' : Hp} (e : Ex H H') : ∀ {vs : List V} {ss : List Sl}, RpSs K H vs ss → RpSs K H' vs ss
  | _, _, .nil => .nil
  | _, _, .cons h r => .cons (h.mono e) (RpSs.mono e r)
end
end DL
namespace DL
open PySem PySem.Spec PyProof.Rows L2 Evl
@[reducible] def ct1 (nm : Str) (C : Addr) (w : World) : CTab where
  ct := fun x => if x = nm then some C else none
  inj := fun x y c h1 h2 => by
    split at h1
    · split at h2
      · rename_i a b
        rw [a, b]
      · cases h2
    · cases h1
  w := w
variable [CTab]
theorem pe_popK {X : Cx} {K : PySem.W.Frag} {o e : Expr} {es : List Expr} {to : TE} {t : TA} {apos cpos : Pos} (h : X.K = K) (ho : PE X o to) (ha : PA X (e :: es) t)
    (hbase : attributeBase o "pop" X.env (eval o X.env) = eval o X.env := by rfl)
    (hfew : ((backTo cpos (starEach (e :: es) X.env)).all (fun x => !x.1) && (backToKw cpos (keywordEach [] X.env)).all (fun x => x.1.isSome)
      && decide ((e :: es).length + ([] : List Keyword).length + (if ([] : List Keyword).isEmpty then 0 else 1) < 30)) = true := by rfl) (hline : (apos.endLine == cpos.line) = true := by rfl)
    (hst : starEach (e :: es) X.env = (false, eval e X.env) :: starEach es X.env := by rfl) (hpl : (backTo cpos (starEach es X.env)).any (·.1) = false := by rfl) :
    PE X (.Call (.Attribute o "pop" apos) (e :: es) [] cpos) (tBM K "list" rPopAt to t) := h ▸ pe_bm PySem.F.plainAttrs_list PySem.F.slot_list_pop PySem.F.type_list_pop mt_popAt ho ha hbase hfew hline hst hpl
def popsW (i : Nat) (vs : List Nat) (b : WB) (e : WE) : List PyData → WEnv → List PyData → (List PyData → Prop) → Prop
  | [], _, acc, Q => Q acc
  | d :: ds, ρ, acc, Q => b d ρ fun ρ1 => match ρ1[i]? with
    | some (some (.own ws)) => e (tells [i] ρ1) fun k => match k with
      | .int k => ws.length ≤ 100000 ∧ ∃ j : Nat, k = (j : Int) ∧ ∃ x, ws[j]? = some x ∧ popsW i vs b e ds (wipeW (ρ1.set i (some (.own (ws.eraseIdx j)))) vs) (acc ++ [x]) Q
      | _ => False
    | _ => False
def retPopW (i : Nat) (vs : List Nat) (ww : WL) (b : WB) (e : WE) : WS := fun W ρ => ww ρ fun ds => ds.length ≤ 100000 ∧ popsW i vs b e ds (wipeW ρ vs) [] fun acc => W.rt (.list acc)
section
variable {K : PySem.W.Frag} {T : List Addr} {te : TE} {we : WE}
theorem wipeW_get {ρ : WEnv} {j : Nat} : ∀ {vs : List Nat}, (wipeW ρ vs)[j]? = if j ∈ vs then (if j < ρ.length then some none else none) else ρ[j]?
  | [] => by simp [wipeW]
  | v :: vs => by
    show ((wipeW ρ vs).set v none)[j]? = _
    have hl : ∀ us : List Nat, (wipeW ρ us).length = ρ.length := fun us => by
      induction us with
      | nil => rfl
      | cons u us ih => show ((wipeW ρ us).set u none).length = _; rw [List.length_set, ih]
    rw [get_set, wipeW_get (vs := vs), hl]
    by_cases h : v = j
    · subst h
      simp
    · rw [if_neg h]
      by_cases h2 : j ∈ vs
      · rw [if_pos h2, if_pos (List.mem_cons_of_mem _ h2)]
      · rw [if_neg h2, if_neg fun z => h2 ((List.mem_cons.mp z).resolve_left fun e => h e.symm)]
variable [Base]
theorem Fit.wiped {B B1 : Hp} {σ : L2.St} {ρ : WEnv} {H H1 : Hp} (F : Fit K T B B1 σ ρ H H1) (vs : List Nat) : Fit K T B B1 (L2.wipe σ vs) (wipeW ρ vs) H H1 :=
  F.bound (js := vs) (F.p.wipe vs) (fun j hj => ⟨by rw [wipe_get, if_neg hj], by rw [wipeW_get, if_neg hj]⟩) fun j s hj e => by
    rw [wipeW_get, if_pos hj] at e
    split at e <;> cases e
/-- D is no own thing's place -/
def Clear (σ : L2.St) (ρ : WEnv) (D : Addr) : Prop := ∀ (j : Nat) s c, ρ[j]? = some (some s) → s.ownC = some c → σ[j]? = some (some (.ref D)) → False
theorem Fit.beside {B B1 : Hp} {σ : L2.St} {ρ : WEnv} {H H1 : Hp} (F : Fit K T B B1 σ ρ H H1) {D : Addr} {o : HO} (hD : H D = none) (hB : B1 D = none) (c : Clear σ ρ D) : Fit K T B B1 σ ρ H (upd H1 D o) :=
  ⟨grow_mut' F.g hD hB, F.p, ⟨fun j s ct q qc => by
    obtain ⟨p, a1, a2, a3, a4⟩ := F.o.at1 j s ct q qc
    have np : p ≠ D := fun z => c j s ct q qc (by rw [a1, z])
    exact ⟨p, a1, a2, a3, a4.go (Ex.refl _) fun o' z => by rw [upd_ne np]; exact z⟩, F.o.sep1, F.o.b0⟩⟩
theorem ds_retPop {wi : TI} {g : TG} {ww : WL} {b : WB} {vs js : List Nat} {i : Nat} (hi : DI K T wi ww) (hg : DB K T js g b) (he : DE K T te we) (hj : ∀ j ∈ js, j ∈ vs) (hiv : i ∉ vs) :
    DS K T (tRet (tLc wi g tYes (tBM K "list" rPopAt (tVar i) (tCons te tNil)) vs)) (retPopW i vs ww b we) := fun B B1 σ ρ H H1 F W D0 M h0 => by
  refine hi σ ρ H F.p _ h0 H1 F.g.sub _ fun ds J G Y Hk H2 p2 g2 w g0 hy => ?_
  obtain ⟨hn, p2⟩ := p2
  intro D hD
  have F2 := F.grow g2
  have hDk : Hk D = none := ex_none g2.sub hD
  have hDB : B1 D = none := ex_none F2.g.all hD
  have cl : Clear (L2.wipe σ vs) (wipeW ρ vs) D := fun j s c q qc z => F2.wiped vs |>.fresh_sep hD q qc z
  refine lc_it w (fun n H' => ∃ Hm ρn xs acc, Ex Hk Hm ∧ Fit K T B B1 (L2.wipe σ vs) ρn Hm H' ∧ Clear (L2.wipe σ vs) ρn D ∧ Hm D = none ∧ H' D = some (.lst xs) ∧ RpAll K Hm xs acc ∧ acc.length ≤ n ∧ popsW i vs b we (ds.drop n) ρn acc fun acc => W.rt (.list acc)) ?_ ?_ ?_ ?_
  · exact ⟨Hk, wipeW ρ vs, [], [], Ex.refl _, (F2.wiped vs).beside hDk hDB cl, cl, hDk, upd_same, .nil, Nat.zero_le _, p2⟩
  · rintro n H' _ ⟨Hm, ρn, xs, acc, em, F3, _⟩
    exact g0 H' (em.trans F3.g.sub)
  · rintro n x H3 H4 hlt ⟨Hm, ρn, xs, acc, em, F3, c3, hm, hx, r, hacc, hP⟩ y
    obtain ⟨Hm', g34, d, hd, rx⟩ := hy n x Hm H3 H4 hlt em F3.g.sub y
    rw [List.drop_eq_getElem_cons hlt] at hP
    have ed : ds[n] = d := by
      rw [List.getElem?_eq_getElem hlt] at hd
      exact Option.some.inj hd
    rw [ed] at hP
    have F4 := F3.grow g34
    have hx4 : H4 D = some (.lst xs) := g34.all _ _ hx
    have hm4 : Hm' D = none := g34.unk hm hx NT.lst
    refine hg _ _ _ x d F4.p rx _ hP H4 F4.g.sub _ fun σ' ρ' F' ho hnn hc => ⟨?_, ?_⟩
    · exact wipe_eq (ho.1.trans (L2.wipe_length σ vs)) fun j hj' => (ho.2 j fun z => hj' (hj j z)).1
    have ew : L2.wipe σ' vs = L2.wipe σ vs := wipe_eq (ho.1.trans (L2.wipe_length σ vs)) fun j hj' => (ho.2 j fun z => hj' (hj j z)).1
    have F5 := F4.bound F' ho.2 hnn
    have c5 : Clear σ' ρ' D := fun j s c q qc z => by
      by_cases hjj : j ∈ js
      · rw [hnn j s hjj q] at qc
        cases qc
      · exact c3 j s c ((ho.2 j hjj).2 ▸ q) qc ((ho.2 j hjj).1 ▸ z)
    unfold tYes
    dsimp only
    rw [if_pos rfl]
    split at hc
    · rename_i ws hi5
      obtain ⟨p, us, e1, e2, e3, e4, e5⟩ := F5.o.own i ws hi5
      refine ⟨.ref p, e1, .inl ⟨rfl, us, .inl (.inl e4)⟩, ?_⟩
      have e := tell_ex (S := [i]) F5.o F5.g.sub
      refine he σ' _ _ (F5.told (S := [i])) _ hc H4 e.2 _ fun v k Hk6 H6 g6 r6 q6 => ?_
      cases r6 with
      | int k =>
        obtain ⟨hl, j, rfl, z, hz, q⟩ := q6
        have F6 := F5.after (S := [i]) (Sub.refl ρ') g6
        obtain ⟨p', us', b1, b2, b3, b4, b5⟩ := F6.o.own i ws hi5
        rw [e1] at b1
        cases b1
        have hx6 : H6 D = some (.lst xs) := g6.all _ _ hx4
        have npD : p ≠ D := fun zz => c5 i _ _ hi5 rfl (by rw [e1, zz])
        obtain ⟨y', hy', ry⟩ := b5.get' hz
        have hk : j < us'.length := (List.getElem?_eq_some_iff.mp hy').1
        have hz' : us'.length ≤ 100000 := by rw [b5.len]; exact hl
        refine ⟨p, us', (j : Int), j, y', rfl, rfl, b4, by omega, by omega, seqIndex_of (k := (j : Int)) (Int.natCast_nonneg j) (by omega), hy', ?_⟩
        have F7 := F6.change hi5 e1 (b5.eraseIdx' j)
        have hm6 : cutH [i] σ' ρ' Hk6 D = none := by
          have : tellH [i] σ' ρ' Hm' H4 D = none := by
            rw [tellH_not fun ⟨j', s', ct', _, w1, w2, w3⟩ => c5 j' s' ct' w1 w2 w3]
            exact hm4
          exact ex_none cutH_ex (g6.unk this hx4 NT.lst)
        have c7 : Clear σ' (ρ'.set i (some (.own (ws.eraseIdx j)))) D := fun l s c q' qc zz => by
          rw [get_set] at q'
          by_cases hil : i = l
          · subst hil
            exact c5 i _ _ hi5 rfl zz
          · rw [if_neg hil] at q'
            exact c5 l s c q' qc zz
        have F8 := (F7.beside (o := .lst (xs ++ [y'])) hm6 hDB c7).wiped vs
        rw [ew] at F8
        have ac : Ex Hm (cutH [i] σ' ρ' Hk6) := fun a o' h' => by
          have h5 := g34.known _ _ h'
          have na : ¬ OwnA [i] σ' ρ' a := fun cc => by
            rw [(F5.o.no cc).1] at h5
            cases h5
          rw [cutH_not na]
          exact g6.known _ _ (by rw [tellH_not na]; exact h5)
        have hxa : xs.length = acc.length := r.len
        refine ⟨xs, by rw [upd_ne (Ne.symm npD)]; exact hx6, sz_lt (by omega), cutH [i] σ' ρ' Hk6, _, xs ++ [y'], acc ++ [z], em.trans ac, F8, fun l s c q' qc zz => ?_, hm6, upd_same, (r.mono ac).append (.cons ry .nil), by rw [List.length_append]; simp; omega, q⟩
        rw [wipeW_get] at q'
        rw [← ew, wipe_get] at zz
        by_cases hlv : l ∈ vs
        · rw [if_pos hlv] at q'
          split at q' <;> cases q'
        · rw [if_neg hlv] at q' zz
          exact c7 l s c q' qc zz
      | non => exact q6.elim
      | bl _ => exact q6.elim
      | str _ => exact q6.elim
      | lst _ _ => exact q6.elim
      | tup _ _ => exact q6.elim
      | dic _ _ => exact q6.elim
    · exact hc.elim
  · rintro H' ⟨Hm, ρn, xs, acc, em, F3, c3, hm, hx, r, hacc, hP⟩
    rw [List.drop_length] at hP
    have t := tell F3.g.sub hm hx
    exact M.rt (.ref D) (.list acc) (upd Hm D (.lst xs)) H' ⟨F3.g.known.trans t.1, t.2, F3.g.all, fun a o h n nt => by
      by_cases ha : a = D
      · rw [ha]
        exact hDB
      · rw [upd_ne ha] at h
        exact F3.g.fresh a o h n nt⟩ (told_list r hm) hP
end
end DL
namespace DL
open PySem
variable [CTab]
/-- each item gives the one datum g d -/
theorem cmp_map {b : WB} {e : WE} {ρ : WEnv} {ds acc : List PyData} {Q : List PyData → Prop} (g : PyData → PyData) (h : ∀ d ∈ ds, ∀ R : PyData → Prop, R (g d) → b d ρ fun ρ1 => e ρ1 R) (q : Q (acc ++ ds.map g)) : compW b yesT e ρ ds acc Q := by
  induction ds generalizing acc with
  | nil => simpa [compW] using q
  | cons d ds ih =>
    unfold compW
    have h1 := h d List.mem_cons_self (fun z => compW b yesT e ρ ds (acc ++ [z]) Q) (ih (fun d' hd' => h d' (List.mem_cons_of_mem _ hd')) (by simpa using q))
    simpa [yesT] using h1
end DL
namespace DL
open PySem L2
variable [CTab]
theorem shaped_int (i : Int) : SeqAt.shaped (.int i) = true := rfl
theorem shaped_bool (b : Bool) : SeqAt.shaped (.bool b) = true := rfl
theorem eqW_int {a b : Int} {Q : PyData → Prop} : eqW (.int a) (.int b) Q = Q (.bool (decide (a = b))) := by
  have e : PyData.eqv (.int a) (.int b) = decide (a = b) := by
    unfold PyData.eqv
    exact Bool.beq_eq_decide_eq a b
  show (_ ∧ _ ∧ _) = _
  simp only [shaped_int, e, true_and]
theorem neW_int {a b : Int} {Q : PyData → Prop} : neW (.int a) (.int b) Q = Q (.bool (!decide (a = b))) := by
  have e : PyData.eqv (.int a) (.int b) = decide (a = b) := by
    unfold PyData.eqv
    exact Bool.beq_eq_decide_eq a b
  show (_ ∧ _ ∧ _) = _
  simp only [shaped_int, e, true_and]
theorem eqv_nilL (ds : List PyData) : PyData.eqv (.list ds) (.list []) = ds.isEmpty := by cases ds <;> simp [PyData.eqv, PyData.eqvAll]
theorem eqv_nilT (ds : List PyData) : PyData.eqv (.tuple ds) (.tuple []) = ds.isEmpty := by cases ds <;> simp [PyData.eqv, PyData.eqvAll]
/-- x, y = y, x % y, till y is 0 -/
theorem loop_cons {wb : WB} {ws : WS} {W : WD} {d : PyData} {ds : List PyData} {ρ : WEnv} : loopW wb ws W (d :: ds) ρ = wb d ρ fun ρ1 => ws { W with nx := loopW wb ws W ds, ct := loopW wb ws W ds, bk := W.nx } ρ1 := rfl
theorem loop_nil {wb : WB} {ws : WS} {W : WD} {ρ : WEnv} : loopW wb ws W [] ρ = W.nx ρ := rfl
theorem fre_int {es : List PyData} {i : Int} : fre es (.int i) = True := by unfold fre; rfl
theorem fre_bool {es : List PyData} {i : Bool} : fre es (.bool i) = True := by unfold fre; rfl
theorem fre_str {es : List PyData} {i : Str} : fre es (.str i) = True := by unfold fre; rfl
theorem fre_none {es : List PyData} : fre es .none = True := by unfold fre; rfl
theorem tell_opt {o : Option PyData} : (o.map Sl.dat).map Sl.tell = o.map Sl.dat := by cases o <;> rfl
theorem rangeD_nat (n : Nat) : rangeD 0 (n : Int) = (List.range' 0 n).map fun (j : Nat) => .int (j : Int) := by
  unfold rangeD
  rw [Int.sub_zero, Int.toNat_natCast, List.range_eq_range']
  exact List.map_congr_left fun k _ => by rw [Int.zero_add]
end DL
namespace DL
open PySem PySem.Spec PyProof.Rows L2 Evl FDc FSt
variable [CTab]
def walkQ (d : PyData) (Q : List PyData → Prop) : Prop := match d with
  | .list ds => Q ds
  | .tuple ds => Q ds
  | .str z => Q (z.cps.toList.map fun c => .str ⟨#[c]⟩)
  | .dict kvs => insB kvs = false ∧ Q (keysD kvs)
  | _ => False
def listQ (d : PyData) (Q : List PyData → Prop) : Prop := match d with
  | .list ds => Q ds
  | .tuple ds => Q ds
  | .dict kvs => insB kvs = false ∧ Q (keysD kvs)
  | _ => False
def itemsQ (d : PyData) (Q : List PyData → Prop) : Prop := match d with
  | .dict (p :: kvs) => isKd p.1 = true ∧ Q ((p :: kvs).map fun p => .tuple [p.1, p.2])
  | _ => False
def valuesQ (d : PyData) (Q : List PyData → Prop) : Prop := match d with
  | .dict (p :: kvs) => isKd p.1 = true ∧ Q ((p :: kvs).map (·.2))
  | _ => False
def sortQ (d : PyData) (Q : List PyData → Prop) : Prop := match d with
  | .list ds => srtOk ds ∧ ds.length ≤ 100000 ∧ Q (sortD ds)
  | .tuple ds => srtOk ds ∧ ds.length ≤ 100000 ∧ Q (sortD ds)
  | .dict (p :: kvs) => ∃ ks : List Str, keysD (p :: kvs) = ks.map .str ∧ ks.length < 64 ∧ Q (sortD (ks.map .str))
  | _ => False
def dictQ (ds : List PyData) (Q : PyData → Prop) : Prop := ∃ ps, prsD ds = some ps ∧ ((ps.all fun p => isKd p.1) = true ∨ (ps.all fun p => isTd p.1) = true) ∧ Q (.dict (mergeD [] ps))
def lenSetQ (d : PyData) (Q : PyData → Prop) : Prop := ∃ ds, seqD d = some ds ∧ setOk ds ∧ ds.length < 64 ∧ ∀ es : List PyData, es.Nodup → (∀ x, x ∈ es ↔ x ∈ ds) → Q (.int (es.length : Nat))
def attrQ (nm : Str) (i : Nat) (d : PyData) (Q : PyData → Prop) : Prop := ∃ z, fldD nm i d = some z ∧ Q z
def slQ (d : PyData) (l u : Option Int) (Q : PyData → Prop) : Prop := match d with
  | .list ds => Q (.list (cutG ds l u))
  | .tuple ds => Q (.tuple (cutG ds l u))
  | _ => False
theorem itemsA_q {a : WE} {ρ : WEnv} {Q : List PyData → Prop} : itemsA a ρ Q = a ρ fun d => walkQ d Q := rfl
theorem listAN_q {a : WE} {ρ : WEnv} {Q : List PyData → Prop} : listAN a ρ Q = a ρ fun d => listQ d Q := rfl
theorem itemsN_q {a : WE} {ρ : WEnv} {Q : List PyData → Prop} : itemsN a ρ Q = a ρ fun d => itemsQ d Q := rfl
theorem valuesN_q {a : WE} {ρ : WEnv} {Q : List PyData → Prop} : valuesN a ρ Q = a ρ fun d => valuesQ d Q := rfl
theorem sortAN_q {a : WE} {ρ : WEnv} {Q : List PyData → Prop} : sortAN a ρ Q = a ρ fun d => sortQ d Q := rfl
theorem dictW_q {n : WL} {ρ : WEnv} {Q : PyData → Prop} : dictW n ρ Q = n ρ fun ds => dictQ ds Q := rfl
theorem lenSetW_q {a : WE} {ρ : WEnv} {Q : PyData → Prop} : lenSetW a ρ Q = a ρ fun d => lenSetQ d Q := rfl
theorem attrW_q {nm : Str} {i : Nat} {a : WE} {ρ : WEnv} {Q : PyData → Prop} : attrW nm i a ρ Q = a ρ fun d => attrQ nm i d Q := rfl
theorem slW_q {a : WE} {lo hi : WO} {ρ : WEnv} {Q : PyData → Prop} : slW a lo hi ρ Q = a ρ fun d => lo ρ fun l => hi ρ fun u => slQ d l u Q := rfl
theorem walk_lst {ds : List PyData} {Q : List PyData → Prop} : walkQ (.list ds) Q = Q ds := rfl
theorem walk_tup {ds : List PyData} {Q : List PyData → Prop} : walkQ (.tuple ds) Q = Q ds := rfl
theorem walk_str {z : Str} {Q : List PyData → Prop} : walkQ (.str z) Q = Q (z.cps.toList.map fun c => .str ⟨#[c]⟩) := rfl
theorem list_lst {ds : List PyData} {Q : List PyData → Prop} : listQ (.list ds) Q = Q ds := rfl
theorem list_tup {ds : List PyData} {Q : List PyData → Prop} : listQ (.tuple ds) Q = Q ds := rfl
theorem sl_lst {ds : List PyData} {l u : Option Int} {Q : PyData → Prop} : slQ (.list ds) l u Q = Q (.list (cutG ds l u)) := rfl
theorem sl_tup {ds : List PyData} {l u : Option Int} {Q : PyData → Prop} : slQ (.tuple ds) l u Q = Q (.tuple (cutG ds l u)) := rfl
theorem ix_lst {ds : List PyData} {i : Int} {Q : PyData → Prop} : ixAW (.list ds) (.int i) Q = ∃ d, L2.atI ds i = some d ∧ Q d := rfl
theorem ix_tup {ds : List PyData} {i : Int} {Q : PyData → Prop} : ixAW (.tuple ds) (.int i) Q = ∃ d, L2.atI ds i = some d ∧ Q d := rfl
theorem in_tup {d : PyData} {ds : List PyData} {Q : PyData → Prop} : inAW d (.tuple ds) Q = inW d (.tuple ds) Q := rfl
theorem in_lst {d : PyData} {ds : List PyData} {Q : PyData → Prop} : inAW d (.list ds) Q = inW d (.list ds) Q := rfl
theorem ni_tup {d : PyData} {ds : List PyData} {Q : PyData → Prop} : niAW d (.tuple ds) Q = niW d (.tuple ds) Q := rfl
theorem ni_lst {d : PyData} {ds : List PyData} {Q : PyData → Prop} : niAW d (.list ds) Q = niW d (.list ds) Q := rfl
theorem in_sign {c : Nat} {z : Str} {Q : PyData → Prop} (q : Q (.bool (decide (c ∈ z.cps.toList)))) : inAW (.str ⟨#[c]⟩) (.str z) Q := ⟨c, rfl, q⟩
theorem len_lst {ds : List PyData} {Q : PyData → Prop} : lenAW [.list ds] Q = Q (.int (ds.length : Nat)) := by
  show (∃ n, _ ∧ _) = _
  simp [lenD]
theorem len_tup {ds : List PyData} {Q : PyData → Prop} : lenAW [.tuple ds] Q = Q (.int (ds.length : Nat)) := by
  show (∃ n, _ ∧ _) = _
  simp [lenD]
theorem len_str {s : Str} {Q : PyData → Prop} (h : s.length ≤ 100000) (q : Q (.int (s.length : Nat))) : lenAW [.str s] Q := by
  refine ⟨s.length, ?_, q⟩
  show (if s.length ≤ 100000 then some s.length else none) = some s.length
  rw [if_pos h]
theorem eqB_int {a b : Int} {Q : PyData → Prop} : eqBW (.int a) (.int b) Q = Q (.bool (decide (a = b))) := eqW_int
theorem neB_int {a b : Int} {Q : PyData → Prop} : neBW (.int a) (.int b) Q = Q (.bool (!decide (a = b))) := neW_int
theorem eqB_bool {a b : Bool} {Q : PyData → Prop} : eqBW (.bool a) (.bool b) Q = Q (.bool (a == b)) := by
  have e : PyData.eqv (.bool a) (.bool b) = (a == b) := by
    cases a <;> cases b <;> simp [PyData.eqv]
  show (_ ∧ _ ∧ _) = _
  simp only [shaped_bool, e, true_and]
theorem neB_bool {a b : Bool} {Q : PyData → Prop} : neBW (.bool a) (.bool b) Q = Q (.bool (!(a == b))) := by
  have e : PyData.eqv (.bool a) (.bool b) = (a == b) := by
    cases a <;> cases b <;> simp [PyData.eqv]
  show (_ ∧ _ ∧ _) = _
  simp only [shaped_bool, e, true_and]
theorem eqB_str {a b : Str} {Q : PyData → Prop} : eqBW (.str a) (.str b) Q = Q (.bool (decide (a = b))) := rfl
theorem neB_str {a b : Str} {Q : PyData → Prop} : neBW (.str a) (.str b) Q = Q (.bool (!decide (a = b))) := rfl
def fdK (ps : List Str) (g : Str → PyData) : List (PyData × PyData) := ps.map fun k => (.str k, g k)
def fdD (ps : List Str) (g : Str → PyData) : PyData := .dict (fdK ps g)
theorem eqv_str (a b : Str) : PyData.eqv (.str a) (.str b) = decide (a = b) := by
  have := eqv_kD (.inr a) (.inr b)
  simpa [kD] using this
theorem insB_fd (ps : List Str) (g : Str → PyData) : insB (fdK ps g) = false := by cases ps <;> rfl
theorem len_fd {ps : List Str} {g : Str → PyData} {Q : PyData → Prop} : lenAW [fdD ps g] Q = Q (.int (ps.length : Nat)) := by
  show (insB (fdK ps g) = false ∧ Q (.int ((fdK ps g).length : Nat))) = _
  rw [insB_fd, show (fdK ps g).length = ps.length from List.length_map ..]
  simp
theorem keys_fd (ps : List Str) (g : Str → PyData) : keysD (fdK ps g) = ps.map .str := by
  unfold keysD fdK
  rw [List.map_map]
  rfl
theorem walk_fd {ps : List Str} {g : Str → PyData} {Q : List PyData → Prop} : walkQ (fdD ps g) Q = Q (ps.map .str) := by
  show (insB (fdK ps g) = false ∧ Q (keysD (fdK ps g))) = _
  rw [insB_fd, keys_fd]
  simp
theorem list_fd {ps : List Str} {g : Str → PyData} {Q : List PyData → Prop} : listQ (fdD ps g) Q = Q (ps.map .str) := walk_fd
theorem sort_strs {ps : List Str} {Q : List PyData → Prop} (hl : ps.length ≤ 100000) (q : Q ((sortS ps).map .str)) : sortQ (.list (ps.map .str)) Q ∧ sortQ (.tuple (ps.map .str)) Q := by
  rw [← sortD_strs] at q
  have : srtOk (ps.map .str) ∧ (ps.map PyData.str).length ≤ 100000 ∧ Q (sortD (ps.map .str)) := ⟨srtOk_strs ps, by rwa [List.length_map], q⟩
  exact ⟨this, this⟩
theorem sortS_perm (ss : List Str) : (sortS ss).Perm ss := List.mergeSort_perm _ _
theorem sortS_mem {ss : List Str} {s : Str} : s ∈ sortS ss ↔ s ∈ ss := (sortS_perm ss).mem_iff
theorem sortS_len (ss : List Str) : (sortS ss).length = ss.length := (sortS_perm ss).length_eq
theorem sortS_nodup {ss : List Str} (h : ss.Nodup) : (sortS ss).Nodup := (sortS_perm ss).nodup_iff.mpr h
theorem dle_ltS (a b : Str) : dle (.str a) (.str b) = !ltS b a := by
  rw [dle_strs]
  rw [ltCps_eq]
  rfl
end DL
namespace DL
open PySem PySem.Spec PyProof.Rows L2 Evl FDc FSt
variable [CTab]
theorem at0 {α : Type} {a : α} {l : List α} : L2.atI (a :: l) 0 = some a := L2.atI_nat (j := 0) rfl
theorem at1 {α : Type} {a b : α} {l : List α} : L2.atI (a :: b :: l) 1 = some b := L2.atI_nat (j := 1) rfl
theorem eqv_prT (a b : Str × Str) : PyData.eqv (prT a) (prT b) = decide (a = b) := by
  have := eqv_kDt [.inr a.1, .inr a.2] [.inr b.1, .inr b.2]
  have e : decide (([.inr a.1, .inr a.2] : List Key) = [.inr b.1, .inr b.2]) = decide (a = b) := by
    refine decide_eq_decide.mpr ⟨fun h => ?_, fun h => by rw [h]⟩
    simp only [List.cons.injEq, Sum.inr.injEq, and_true] at h
    exact Prod.ext h.1 h.2
  rw [e] at this
  exact this
theorem dle_prT (a b : Str × Str) : dle (prT a) (prT b) = if a.1 = b.1 then (if a.2 = b.2 then true else dle (.str a.2) (.str b.2)) else dle (.str a.1) (.str b.1) := by
  rw [dle_def, dle_def, dle_def]
  unfold prT
  rw [PySem.W.dataLt_pair rfl rfl, eqv_str, eqv_str]
  by_cases h1 : a.1 = b.1
  · rw [decide_eq_true h1.symm, if_pos rfl, if_pos h1]
    by_cases h2 : a.2 = b.2
    · rw [decide_eq_true h2.symm, if_pos rfl, if_pos h2]
      rfl
    · rw [decide_eq_false fun z => h2 z.symm, if_neg Bool.false_ne_true, if_neg h2]
  · rw [decide_eq_false fun z => h1 z.symm, if_neg Bool.false_ne_true, if_neg h1]
theorem dle_antisymm {a b : Str} (h1 : dle (.str a) (.str b) = true) (h2 : dle (.str b) (.str a) = true) : a = b := by
  rw [dle_ltS] at h1 h2
  have h1 : ltS b a = false := by simpa using h1
  have h2 : ltS a b = false := by simpa using h2
  unfold ltS at h1 h2
  have e : a.cps.toList = b.cps.toList := List.le_antisymm (of_decide_eq_false h1) (of_decide_eq_false h2)
  cases a with
  | mk ca =>
    cases b with
    | mk cb =>
      have : ca = cb := Array.toList_inj.mp e
      rw [this]
theorem sortS_pw (ss : List Str) : (sortS ss).Pairwise fun a b => dle (.str a) (.str b) = true :=
  List.pairwise_mergeSort (le := fun a b : Str => dle (.str a) (.str b)) (fun _ _ _ h1 h2 => dle_trans h1 h2) (fun a b => dle_total (.str a) (.str b)) ss
/-- sorted, no two alike: strictly ascending -/
theorem sortS_lt {ss : List Str} (h : ss.Nodup) : (sortS ss).Pairwise fun a b => ltS a b = true := by
  have h1 := sortS_pw ss
  have h2 := sortS_nodup h
  refine (h1.and h2).imp fun {a b} ⟨h3, h4⟩ => ?_
  cases c : ltS a b with
  | true => rfl
  | false =>
    have : dle (.str b) (.str a) = true := by
      rw [dle_ltS, c]
      rfl
    exact absurd (dle_antisymm h3 this) h4
theorem dle_of_lt {a b : Str} (h : ltS a b = true) : dle (.str a) (.str b) = true := by
  have := dle_total (.str a) (.str b)
  rw [Bool.or_eq_true] at this
  rcases this with h1 | h1
  · exact h1
  · rw [dle_ltS, h] at h1
    cases h1
theorem ltS_irrefl (a : Str) : ltS a a = false := by
  unfold ltS
  exact decide_eq_false (List.lt_irrefl _)
theorem ltS_ne {a b : Str} (h : ltS a b = true) : a ≠ b := fun e => by
  rw [e, ltS_irrefl] at h
  cases h
end DL
namespace DL
open PySem PySem.Spec PyProof.Rows L2 Evl FDc FSt
def wv1 := (And.intro (And.intro (And.intro (And.intro @seqW.eq_def (And.intro @nextW.eq_def @setW.eq_def)) (And.intro @set2W.eq_def (And.intro @set3W.eq_def @setsW.eq_def))) (And.intro (And.intro @mnilW.eq_def (And.intro @mconsW.eq_def @unpW.eq_def)) (And.intro @ifW.eq_def (And.intro @dropW.eq_def @retW.eq_def)))) (And.intro (And.intro (And.intro @retNW.eq_def (And.intro @breakW.eq_def @contW.eq_def)) (And.intro @deadW.eq_def (And.intro @appW.eq_def @popW.eq_def))) (And.intro (And.intro @storeW.eq_def (And.intro @forW.eq_def @forRW.eq_def)) (And.intro @frz1W.eq_def (And.intro @bodyW.eq_def @startW.eq_def)))))
def wv2 := (And.intro (And.intro (And.intro (And.intro @varW.eq_def (And.intro @cW.eq_def @opW.eq_def)) (And.intro @unW.eq_def (And.intro @nilW.eq_def @consW.eq_def))) (And.intro (And.intro @tupW.eq_def (And.intro @lstN.eq_def @newW.eq_def)) (And.intro @cbW.eq_def (And.intro @anilW.eq_def @aconsW.eq_def)))) (And.intro (And.intro (And.intro @avarW.eq_def (And.intro @callW.eq_def @testW.eq_def)) (And.intro @notT.eq_def (And.intro @andT.eq_def @orT.eq_def))) (And.intro (And.intro @yesT.eq_def (And.intro @andV.eq_def @orV.eq_def)) (And.intro @notV.eq_def (And.intro @ifV.eq_def @chainW.eq_def)))))
def wv3 := (And.intro (And.intro (And.intro (And.intro @datM.eq_def (And.intro @newM.eq_def @bindW.eq_def)) (And.intro @bindsW.eq_def (And.intro @binds.eq_1 @binds.eq_2))) (And.intro (And.intro @wipeW.eq_1 (And.intro @wipeW.eq_2 @wiped.eq_1)) (And.intro @wiped.eq_2 (And.intro @lcN.eq_def @itemsI.eq_def)))) (And.intro (And.intro (And.intro @itemsS.eq_def (And.intro @itemsT.eq_def @signsI.eq_def)) (And.intro @range1I.eq_def (And.intro @range2I.eq_def @zipI.eq_def))) (And.intro (And.intro @enumI.eq_def (And.intro @noO.eq_def @someO.eq_def)) (And.intro @backW.eq_def (And.intro @truW.eq_def @newBagM.eq_def)))))
def wv4 := (And.intro (And.intro (And.intro (And.intro @listN.eq_def (And.intro @catN.eq_def @repN.eq_def)) (And.intro @starW.eq_def (And.intro @isiW.eq_def @ledW.eq_def))) (And.intro (And.intro @sets.eq_1 (And.intro @sets.eq_2 @tells.eq_1)) (And.intro @tells.eq_2 (And.intro @tell1.eq_def @Sl.tell.eq_def)))) (And.intro (And.intro (And.intro @addW.eq_def (And.intro @subW.eq_def @fdivW.eq_def)) (And.intro @modW.eq_def (And.intro @ltW.eq_def @gtW.eq_def))) (And.intro (And.intro @leW.eq_def (And.intro @geW.eq_def @isW.eq_def)) (And.intro @isnW.eq_def (And.intro @ixW.eq_def @lenW.eq_def)))))
def wv5 := (And.intro (And.intro (And.intro (And.intro @absW.eq_def (And.intro @intW.eq_def @tupleW.eq_def)) (And.intro @max2W.eq_def (And.intro @min2W.eq_def @negW.eq_def))) (And.intro (And.intro @drawW.eq_def (And.intro @List.map_cons.{0,0} @List.map_nil.{0,0})) (And.intro @List.length_cons.{0} (And.intro @List.length_nil.{0} @List.replicate_succ.{0})))) (And.intro (And.intro (And.intro @List.replicate_zero.{0} (And.intro @List.append_nil.{0} @List.nil_append.{0})) (And.intro @List.cons_append.{0} (And.intro @List.singleton_append.{0} @List.set_cons_zero.{0}))) (And.intro (And.intro @List.set_cons_succ.{0} (And.intro @List.getElem?_cons_zero.{0} @List.getElem?_cons_succ.{0})) (And.intro @List.getElem?_nil.{0} (And.intro @Option.map_some.{0,0} @Option.map_none.{0,0})))))
def wv6 := (And.intro (And.intro (And.intro (And.intro @Nat.sub_self (And.intro @Nat.add_zero @Nat.zero_add)) (And.intro @FreeS.eq_def (And.intro @FreeE.eq_1 @FreeE.eq_2))) (And.intro (And.intro @and_true (And.intro @true_and @Bool.not_true)) (And.intro @Bool.not_false (And.intro @at0 @at1)))) (And.intro (And.intro (And.intro @Option.some.injEq.{0} (And.intro @exists_eq_left'.{1} @Bool.false_eq_true)) (And.intro @ite_true.{1} (And.intro @ite_false.{1} @fre_int))) (And.intro (And.intro @fre_bool (And.intro @fre_str @fre_none)) (And.intro @tell_opt (And.intro @imp_self @implies_true.{1})))))
def wv7 := (And.intro (And.intro (And.intro (And.intro @List.mem_cons.{0} (And.intro @forall_eq_or_imp.{1} @forall_eq.{1})) (And.intro @List.not_mem_nil.{0} (And.intro @false_implies @itemsA_q))) (And.intro (And.intro @listAN_q (And.intro @itemsN_q @valuesN_q)) (And.intro @sortAN_q (And.intro @dictW_q @lenSetW_q)))) (And.intro (And.intro (And.intro @attrW_q (And.intro @slW_q @walk_lst)) (And.intro @walk_tup (And.intro @walk_str @list_lst))) (And.intro (And.intro @list_tup (And.intro @sl_lst @sl_tup)) (And.intro @ix_lst (And.intro @ix_tup @in_tup)))))
def wv8 := (And.intro (And.intro (And.intro (And.intro @in_lst @ni_tup) (And.intro @ni_lst @len_lst)) (And.intro (And.intro @len_tup @len_fd) (And.intro @walk_fd (And.intro @list_fd @eqB_int)))) (And.intro (And.intro (And.intro @neB_int @eqB_bool) (And.intro @neB_bool @eqB_str)) (And.intro (And.intro @neB_str @callNW.eq_def) (And.intro @withW.eq_def (And.intro @makeW.eq_def @owdNewW.eq_def)))))
end DL
namespace DL
open PySem PySem.Spec PyProof.Rows L2 Evl FDc FSt
end DL
namespace DL
open PySem PySem.Spec PyProof.Rows L2 Evl FDc FSt
variable [CTab]
section
variable {X : Cx} {pins : List (Addr × Obj)} {σ : L2.St} {H : Hp} {s : Shared} {a : Addr}
theorem none_of (I : Inv X pins σ H s) (h : FzN H a []) : (a == sysModules) = false ∧ s.heap.DictOf (mixKind X.prog X.w) a [] := by
  obtain ⟨hd, ob, h1, h2⟩ := dn_at I h.rd
  obtain ⟨es, ep, ys, h3, h4, h5⟩ := h2.dat
  cases h5
  have e0 : es.toList = [] := by simpa using h4
  refine ⟨hd, ob, es, ep, h1, h2.ex, h3, fun e he => ?_, ?_, List.nodup_nil⟩
  · have := Array.mem_toList_iff.mpr he
    rw [e0] at this
    cases this
  · rw [e0]
    exact .nil
end
end DL
namespace DL
open PySem PySem.Spec PyProof.Rows L2 Evl FDc FSt
end DL
namespace DL
open PySem PySem.Spec PyProof.Rows L2 Evl FDc FSt
end DL
namespace DL
open PySem PySem.Spec PyProof.Rows L2 Evl
open PySem.Sem (wp)
end DL
namespace DL
open PySem PySem.Spec PyProof.Rows L2 Evl
open PySem.Sem (wp)
end DL
namespace DL
open PySem PySem.Spec PyProof.Rows L2 Evl
open PySem.Sem (wp)
end DL
namespace DL
open PySem PySem.Spec PyProof.Rows L2 Evl
open PySem.Sem (wp)
end DL
namespace DL
open PySem PySem.Spec PyProof.Rows L2 Evl
open PySem.Sem (wp)
end DL
namespace DL
open PySem PySem.Spec PyProof.Rows L2 Evl FDc FSt
end DL
namespace DL
open PySem PySem.Spec PyProof.Rows L2 Evl FDc
end DL
namespace Mx
open DL
/-- the state of the law's elimination after k leads -/
def bits (k : Nat) : Nat := 17 * 2 ^ k - 1
end Mx
namespace Mx
open DL
def back (w : Nat) (r : F) : F := fun j => if j < w then r (w - 1 - j) else 0
end Mx
namespace Mx
open DL
def dot (n : Nat) (r v : F) : Int := sumN n fun j => r j * v j
/-- a vector that belongs to the column c, none of the leads' -/
structure KV (n w c : Nat) (leads : List (Nat × F)) (v : F) : Prop where
  pos : v c ≠ 0
  opn : ∀ j, j ≠ c → (∀ p ∈ leads, p.1 ≠ j) → v j = 0
  led : ∀ p ∈ leads, p.2 p.1 * v p.1 + p.2 c * v c = 0
end Mx
namespace Mx
open DL
end Mx
namespace Mx
open DL
def SameKer (n : Nat) (A B : List R) : Prop := ∀ v, (∀ r ∈ A.map at', dot n r v = 0) ↔ ∀ r ∈ B.map at', dot n r v = 0
section
variable {n c w : Nat} {rows0 left leads : List R} {cols : List Nat} {pv : Int}
/-- the aims' column stands at w, its sign turned -/
def turn (w : Nat) (v : F) : F := fun j => if j = w then - v j else v j
end
end Mx
namespace Mx
open DL
section
variable {n c w : Nat} {rows0 base left left' rows : List R} {leads : List (Nat × R)} {pleads : List R} {cols : List Nat} {pv : Int}
theorem SameKer.symm {A B : List R} (h : SameKer n A B) : SameKer n B A := fun v => (h v).symm
end
end Mx
namespace Mx
open DL
end Mx
namespace Mx
open DL
section
variable {n c w : Nat} {rows0 base left leads : List R} {cols : List Nat} {pv : Int}
theorem SameKer.refl (A : List R) : SameKer n A A := fun _ => Iff.rfl
theorem SameKer.trans {A B C : List R} (h : SameKer n A B) (g : SameKer n B C) : SameKer n A C := fun v => (h v).trans (g v)
end
end Mx
namespace Mx
open DL
def Pro (r s : R) : Prop := r.length = s.length ∧ ∃ a b : Int, a ≠ 0 ∧ b ≠ 0 ∧ ∀ j, a * at' r j = b * at' s j
theorem Pro.refl (r : R) : Pro r r := ⟨rfl, 1, 1, by decide, by decide, fun _ => rfl⟩
theorem Pro.zero {r s : R} (h : Pro r s) (j : Nat) : at' r j = 0 ↔ at' s j = 0 := by
  obtain ⟨_, a, b, ha, hb, h⟩ := h
  have := h j
  constructor
  · intro e
    rw [e, Int.mul_zero] at this
    exact (Int.mul_eq_zero.mp this.symm).resolve_left hb
  · intro e
    rw [e, Int.mul_zero] at this
    exact (Int.mul_eq_zero.mp this).resolve_left ha
theorem All2.len {α β : Type} {p : α → β → Prop} {as : List α} {bs : List β} (h : All2 p as bs) : as.length = bs.length := by
  induction h with
  | nil => rfl
  | cons _ _ ih => exact congrArg (· + 1) ih
theorem All2.get {α β : Type} {p : α → β → Prop} {as : List α} {bs : List β} (h : All2 p as bs) : ∀ {i : Nat} {a : α}, as[i]? = some a → ∃ b, bs[i]? = some b ∧ p a b := by
  induction h with
  | nil => intro i a e; simp at e
  | cons hp _ ih =>
    intro i a e
    cases i with
    | zero => exact ⟨_, rfl, by cases Option.some.inj e; exact hp⟩
    | succ i => exact ih (i := i) e
theorem All2.erase {α β : Type} {p : α → β → Prop} {as : List α} {bs : List β} (h : All2 p as bs) : ∀ i, All2 p (as.eraseIdx i) (bs.eraseIdx i) := by
  induction h with
  | nil => exact fun _ => .nil
  | cons hp h ih =>
    intro i
    cases i with
    | zero => exact h
    | succ i => exact .cons hp (ih i)
end Mx
namespace Mx
open DL
abbrev Pt := Int × Int
def turned (a b c : Pt) : Int := (b.1 - a.1) * (c.2 - a.2) - (b.2 - a.2) * (c.1 - a.1)
end Mx
namespace L2
end L2
namespace DL
open PySem PySem.Spec PyProof.Rows L2 Evl FDc FSt
end DL
namespace L2
open PySem PySem.Spec PyProof.Rows
end L2
namespace DL
open PySem PySem.Spec PyProof.Rows L2 Evl FDc FSt
end DL
namespace DL
open PySem PySem.Spec PyProof.Rows L2 Evl FDc FSt
end DL
namespace L2
open PySem PySem.Spec PyProof.Rows
section
variable {X : Cx}
def rInT (K : PySem.W.Frag) (neg : Bool) : R2 := fun x y H Q => ∃ d ds, Dp K H x d ∧ (Dp K H y (.list ds) ∨ Dp K H y (.tuple ds)) ∧ SeqAt.shaped d = true ∧ SeqAt.shaped (.list ds) = true ∧ Q (.bl (xor neg (ds.any fun z => PyData.eqv z d))) H
theorem op_inT (hu : X.A.units + 65 < cLine) : OpR X (compareOp .In) (rInT X.K false) := by
  intro pins s σ H x y v u Q I rx ry h
  obtain ⟨d, ds, hd, he, sd, se, q⟩ := h
  rw [Bool.false_xor] at q
  obtain ⟨as, r1⟩ := Dp.reads I d x v hd rx
  rcases he with he | he
  · obtain ⟨bs, r2⟩ := Dp.reads I (.list ds) y u he ry
    exact SeqAt.in_list_reads r2 r1 (SeqAt.canLay_of_shaped se) (SeqAt.canLay_of_shaped sd) (room_in_shaped sd hu) ⟨.bl _, H, I, rfl, q⟩
  · obtain ⟨bs, r2⟩ := Dp.reads I (.tuple ds) y u he ry
    exact SeqAt.in_tuple_reads r2 r1 (SeqAt.canLay_of_shaped se) (SeqAt.canLay_of_shaped sd) (room_in_shaped sd hu) ⟨.bl _, H, I, rfl, q⟩
theorem op_niT (hu : X.A.units + 65 < cLine) : OpR X (compareOp .NotIn) (rInT X.K true) := by
  intro pins s σ H x y v u Q I rx ry h
  obtain ⟨d, ds, hd, he, sd, se, q⟩ := h
  rw [Bool.true_xor] at q
  obtain ⟨as, r1⟩ := Dp.reads I d x v hd rx
  rcases he with he | he
  · obtain ⟨bs, r2⟩ := Dp.reads I (.list ds) y u he ry
    exact SeqAt.notIn_list_reads r2 r1 (SeqAt.canLay_of_shaped se) (SeqAt.canLay_of_shaped sd) (room_in_shaped sd hu) ⟨.bl _, H, I, rfl, q⟩
  · obtain ⟨bs, r2⟩ := Dp.reads I (.tuple ds) y u he ry
    exact SeqAt.notIn_tuple_reads r2 r1 (SeqAt.canLay_of_shaped se) (SeqAt.canLay_of_shaped sd) (room_in_shaped sd hu) ⟨.bl _, H, I, rfl, q⟩
end
end L2
namespace DL
open PySem PySem.Spec PyProof.Rows L2 Evl FDc FSt
variable [CTab]
section
variable {K : PySem.W.Frag}
theorem kInX {X : Cx} (h : X.K = K) (hu : X.A.units + 65 < cLine) : OpR X (compareOp .In) (rInT K false) := h ▸ op_inT hu
theorem kNiX {X : Cx} (h : X.K = K) (hu : X.A.units + 65 < cLine) : OpR X (compareOp .NotIn) (rInT K true) := h ▸ op_niT hu
def inXW (neg : Bool) : W2 := fun d e Q => ∃ ds, seqD e = some ds ∧ SeqAt.shaped d = true ∧ SeqAt.shaped (.list ds) = true ∧ Q (.bool (xor neg (ds.any fun z => PyData.eqv z d)))
theorem ow_inX {neg : Bool} : OpW K (rInT K neg) (inXW neg) := fun d e Q h => by
  intro v1 v2 H H1 ex r1 r2 Q' k
  obtain ⟨ds, he, sd, sl, q⟩ := h
  have l1 : d.canLay0 = true := SeqAt.canLay_of_shaped sd
  have l2 : PyData.canLayAll0 ds = true := SeqAt.canLay_of_shaped sl
  refine ⟨d, ds, (r1.mono ex).dp l1, ?_, sd, sl, k _ _ H H1 (Grow.refl ex) (.bl _) q⟩
  unfold seqD at he
  split at he
  · cases he
    exact .inl ((r2.mono ex).dp (by simpa only [PyData.canLay0] using l2))
  · cases he
    exact .inr ((r2.mono ex).dp (by simpa only [PyData.canLay0] using l2))
  · cases he
end
end DL
namespace DL
open PySem PySem.Spec PyProof.Rows L2 Evl FDc
section
open PySem.SeqAt PySem.MeetsSeq PySem.MeetsSeq2 PySem.MeetsSeq3 PySem.SeqRoads2 PySem.AutoSeq1
theorem list_ext (l : Addr) (items : Array Value) (n : Nat) (b : Addr) (items2 : Array Value) (n2 : Nat) (dd : Option Addr) (sl : Array (Option Value)) (hc0 : ¬(!items.isEmpty && Builtin.List.listTooLong (items.size + items2.size)) = true) (hc1 : items.size ≤ sizeLine) (hs2 : items.size + items2.size ≤ sizeLine + 1 := by seq_fits) :
    Meets (Builtin.«list.extend» ⟨[.ref l, .ref b], []⟩) (fun _ R s => s.heap.get? l = some { cls := .type "list", dict := none, data := .seq items n, slots := #[] } ∧ s.heap.get? b = some { cls := .type "list", dict := dd, data := .seq items2 n2, slots := sl } ∧ R (.ok (.ret Value.none)) { s with heap := s.heap.update l (Obj.mapSeq fun x => x ++ items2), toks := s.toks }) :=
  .of_wp fun prog w A R s h => by
    obtain ⟨hp, g, d, tk, os⟩ := s; obtain ⟨hl, hb, h⟩ := h; have f1 := idx_int; have f2 := AutoSeq1.sub_tuple_tuple; have f3 := AutoSeq1.sub_list_list; have f4 := AutoSeq1.sub_tuple_list; have f5 := AutoSeq1.sub_list_tuple;
    have hz' : (items ++ items2).size ≤ sizeLine + 1 := by rw [Array.size_append]; exact hs2
    wp_walk using (wpAny_updateSeq hl rfl (hz := hc1) (_hz' := hz')), wpAny_loadPart' hl, wpAny_loadPart' hb; exact ⟨_, rfl, h⟩
end
variable [CTab]
def rExtL (K : PySem.W.Frag) : V → List V → Hp → VK → Prop := fun x vs H Q => ∃ l b xs zs, x = .ref l ∧ vs = [.ref b] ∧ H l = some (.lst xs) ∧ SqL K H b zs ∧ xs.length + zs.length ≤ sizeLine ∧ Q .non (upd H l (.lst (xs ++ zs)))
theorem mt_extL {X : Cx} {K : PySem.W.Frag} (hK : X.K = K) : MtM X "list.extend" (rExtL K) := by
  subst hK
  intro pins s σ H x vs v us Q I rx rv h
  obtain ⟨l, b, xs, zs, rfl, rfl, hH, hB, hz, q⟩ := h
  cases rx
  obtain ⟨u, rfl, ru⟩ := rv.one
  cases ru
  obtain ⟨z, its, n, r, hl, e⟩ := I.lstM hH
  obtain ⟨its2, r2, ⟨o2, n2, g2, c2, d2, e2⟩, z2⟩ := I.list hB
  obtain ⟨oc, od, oda, osl⟩ := o2
  dsimp only at c2 d2 e2
  subst c2
  subst e2
  have hl2 := r2.length
  have hsz : its.toArray.size + its2.toArray.size ≤ sizeLine := by rw [List.size_toArray, List.size_toArray]; omega
  have hlong : ¬ (!its.toArray.isEmpty && Builtin.List.listTooLong (its.toArray.size + its2.toArray.size)) = true := by
    rw [notLongL hsz, Bool.and_false]
    exact Bool.false_ne_true
  refine call_meets F.slot_list_extend ⟨_, e, rfl⟩ F.entry_list_extend (F.args_list_extend_2 _ _)
    (list_ext l its.toArray n b its2.toArray n2 od osl hlong (by rw [List.size_toArray]; omega) (by omega)) ⟨e, g2, ?_⟩
  refine ⟨.non, _, I.lset (its' := its ++ its2) hH e (by simp) (r.append r2) ?_, rfl, q⟩
  rw [List.length_append]
  omega
def extW (S : List Nat) (i : Nat) (a : WE) : WS := fun W ρ => match ρ[i]? with
  | some (some (.own ds)) => a (tells S ρ) fun d => match d with
    | .list es => FreeE S ρ d ∧ ds.length + es.length ≤ 100000 ∧ W.nx (ρ.set i (some (.own (ds ++ es))))
    | _ => False
  | _ => False
section
variable {K : PySem.W.Frag} {T : List Addr} {S : List Nat} {te : TE} {wa : WE} {i : Nat}
theorem ds_ext [Base] (h : DE K T te wa) : DS K T (tDrop (tBM K "list" (rExtL K) (tVar i) (tCons te tNil))) (extW S i wa) := fun B B1 σ ρ H H1 F W D M h0 => by
  have e := tell_ex (S := S) F.o F.g.sub
  unfold extW at h0
  split at h0
  · rename_i ds hi
    obtain ⟨p, vs, e1, e2, e3, e4, e5⟩ := F.o.own i ds hi
    refine ⟨.ref p, e1, .inl ⟨rfl, vs, .inl (.inl e4)⟩, ?_⟩
    refine h σ _ _ (F.told (S := S)) _ h0 H1 e.2 _ fun v d Hk H2 g r q => ?_
    have F' := F.after (S := S) (Sub.refl ρ) g
    split at q
    · rename_i es
      have r' := Rp.cutO (F.ownIn (Sub.refl ρ) g) r q.1.fr
      obtain ⟨p', vs', b1, b2, b3, b4, b5⟩ := F'.o.own i ds hi
      rw [e1] at b1
      cases b1
      have ev : vs' = vs := by
        rw [g.all _ _ e4] at b4
        cases b4
        rfl
      subst ev
      cases r with
      | @lst a zs _ g1 r1 =>
        cases r' with
        | @lst _ zs' _ g2 r2 =>
          have hz := r2.len
          have hz1 := e5.len
          refine ⟨p, a, vs', zs', rfl, rfl, b4, ex_l F'.g.sub g2, ?_, M.nx _ _ _ _ (F'.change hi e1 (b5.append r2)) q.2.2⟩
          have := q.2.1
          rw [sizeLine_eq]
          omega
    · exact q.elim
  · exact h0.elim
end
theorem hu8 {k : Nat} {A : Around} (hr : Room k A) : A.units + 8 < cLine := Nat.lt_of_le_of_lt (Nat.add_le_add_left (by decide) _) (hu65 hr)
/-- some world -/
def w00 : World := { draws := fun _ i => i, params := { strHash := fun _ => 0, shareClass := fun _ => 0, mergeTok := id, idOf := fun a => a, idOfShared := fun _ _ => 8, followText := fun _ => true, idOfImm := fun _ => 16 } }
theorem pe_dnewN {X : Cx} {pos : Pos} : PE X (.Dict [] [] pos) tDNewN := ⟨fun pins s σ H Q I h =>
  wpAny_Dict_empty ⟨.ref s.heap.objs.size, _, I.laid (a := s.heap.objs.size) (o := dNX CTab.w s.heap.objs.size []) (t' := s.toks) (fun _ _ q => Heap.get?_push_of_some _ q) (Nat.le_refl _) (dn_new s.heap I.big), rfl, h _ (I.hok.fresh (Nat.le_refl _))⟩⟩
end DL
namespace FSt
open PySem PySem.Spec PyProof.Rows L2 Evl FDc DL
end FSt
namespace DL
open PySem PySem.Spec PyProof.Rows L2 Evl FDc FSt
end DL
namespace DL
open PySem PySem.Spec PyProof.Rows L2 Evl FDc FSt
variable [CTab]
section
variable {K : PySem.W.Frag} {T : List Addr} {S : List Nat} {te : TE} {wa : WE} {i j : Nat}
def appPopW (S : List Nat) (i j : Nat) (a : WE) : WS := fun W ρ => match ρ[i]?, ρ[j]? with
  | some (some (.own es)), some (some (.own ds)) => i ≠ j ∧ a (tells S ρ) fun d => match d with
    | .int k => ds.length ≤ 100000 ∧ es.length < 100000 ∧ ∃ l : Nat, k = (l : Int) ∧ ∃ x, ds[l]? = some x ∧ W.nx ((ρ.set j (some (.own (ds.eraseIdx l)))).set i (some (.own (es ++ [x]))))
    | _ => False
  | _, _ => False
theorem ds_appPop [Base] (h : DE K T te wa) : DS K T (tDrop (tBM K "list" rAppend (tVar i) (tCons (tBM K "list" rPopAt (tVar j) (tCons te tNil)) tNil))) (appPopW S i j wa) := fun B B1 σ ρ H H1 F W D M h0 => by
  have e := tell_ex (S := S) F.o F.g.sub
  unfold appPopW at h0
  split at h0
  · rename_i es ds hi hj
    obtain ⟨hij, h0⟩ := h0
    obtain ⟨q, us, d1, d2, d3, d4, d5⟩ := F.o.own i es hi
    obtain ⟨p, vs, e1, e2, e3, e4, e5⟩ := F.o.own j ds hj
    refine ⟨.ref q, d1, .inl ⟨rfl, us, .inl (.inl d4)⟩, ?_⟩
    refine ⟨.ref p, e1, .inl ⟨rfl, vs, .inl (.inl e4)⟩, ?_⟩
    refine h σ _ _ (F.told (S := S)) _ h0 H1 e.2 _ fun v d Hk H2 g r q => ?_
    cases r with
    | int k =>
      obtain ⟨hl, hle, l, rfl, x, hx, qq⟩ := q
      have F' := F.after (S := S) (Sub.refl ρ) g
      obtain ⟨p', vs', b1, b2, b3, b4, b5⟩ := F'.o.own j ds hj
      rw [e1] at b1
      cases b1
      have ev : vs' = vs := by
        rw [g.all _ _ e4] at b4
        cases b4
        rfl
      subst ev
      obtain ⟨y, hy, ry⟩ := b5.get' hx
      have hk : l < vs'.length := (List.getElem?_eq_some_iff.mp hy).1
      have hz : vs'.length ≤ 100000 := by rw [b5.len]; exact hl
      refine ⟨p, vs', (l : Int), l, y, rfl, rfl, b4, by omega, by omega, seqIndex_of (k := (l : Int)) (Int.natCast_nonneg l) (by omega), hy, ?_⟩
      have F3 := F'.change hj e1 (b5.eraseIdx' l)
      have hi3 : (ρ.set j (some (.own (ds.eraseIdx l))))[i]? = some (some (.own es)) := by
        rw [get_set, if_neg fun z => hij z.symm]
        exact hi
      obtain ⟨q', us', c1, c2, c3, c4, c5⟩ := F3.o.own i es hi3
      rw [d1] at c1
      cases c1
      exact ⟨_, us', y, rfl, rfl, c4, sz_lt (by rw [c5.len]; exact hle), M.nx _ _ _ _ (F3.change hi3 d1 (c5.append (.cons ry .nil))) qq⟩
    | non => exact q.elim
    | bl _ => exact q.elim
    | str _ => exact q.elim
    | lst _ _ => exact q.elim
    | tup _ _ => exact q.elim
    | dic _ _ => exact q.elim
  · exact h0.elim
end
def rLtX (K : PySem.W.Frag) : R2 := fun x y H Q => ∃ d e, Dp K H x d ∧ Dp K H y e ∧ SeqAt.shaped d = true ∧ SeqAt.shaped e = true ∧ PySem.W.alike d e = true ∧ d ≠ .none ∧ Q (.bl (PySem.W.dataLt d e)) H
theorem kLtX {X : Cx} {K : PySem.W.Frag} (h : X.K = K) (hu : X.A.units + 65 < cLine) : OpR X (compareOp .Lt) (rLtX K) := by
  subst h
  intro pins s σ H x y v u Q I rx ry h
  obtain ⟨d, e, hd, he, sd, se, al, nn, q⟩ := h
  obtain ⟨as, r1⟩ := Dp.reads I d x v hd rx
  obtain ⟨bs, r2⟩ := Dp.reads I e y u he ry
  exact PySem.W.lt_data r1 r2 al nn (SeqAt.room_of_shaped sd (by omega)) ⟨.bl _, H, I, rfl, q⟩
def ltXW : W2 := fun d e Q => SeqAt.shaped d = true ∧ SeqAt.shaped e = true ∧ PySem.W.alike d e = true ∧ d ≠ .none ∧ Q (.bool (PySem.W.dataLt d e))
theorem ow_ltX {K : PySem.W.Frag} : OpW K (rLtX K) ltXW := fun d e Q h => by
  intro v1 v2 H H1 ex r1 r2 Q' k
  obtain ⟨sd, se, al, nn, q⟩ := h
  exact ⟨d, e, (r1.mono ex).dp (SeqAt.canLay_of_shaped sd), (r2.mono ex).dp (SeqAt.canLay_of_shaped se), sd, se, al, nn, k _ _ H H1 (Grow.refl ex) (.bl _) q⟩
end DL
namespace SrX
open PySem PySem.W PySem.Calls PyProof.Rows
open PySem.SeqAt
section
variable {prog : Program} {w : World} {A : Around} {E : Value → Shared → Prop} {s : Shared}
/-- tuple.__lt__ as sorting asks it of keys of one type -/
theorem oneLt_tup {xs ys : List PyData} {a b : Value} {as bs : List Addr} {Q : Bool → Shared → Prop} (ra : Reads s.heap a (.tuple xs) as) (rb : Reads s.heap b (.tuple ys) bs) (h : alike (.tuple xs) (.tuple ys) = true)
    (hu : A.units + min (PyData.tuple xs).depth (PyData.tuple ys).depth < cLine) (hq : Q (dataLt (.tuple xs) (.tuple ys)) s) : wpAny (model prog w) A (oneLt' true a b) Q E s := by
  have hal : alikeAll xs ys = true := by simpa [alike] using h
  cases ra with
  | @tuple l o vs n _ as₁ h1 h2 h3 h4 =>
    cases rb with
    | @tuple l' o' vs' n' _ bs₁ k1 k2 k3 k4 =>
      have n1 : vs.size = xs.length := by simpa using ReadsAll.length _ _ _ h4
      have n2 : vs'.size = ys.length := by simpa using ReadsAll.length _ _ _ k4
      rw [dataLt_tuple, ← firstLt_toks xs ys hal, ← n1, ← n2] at hq
      obtain ⟨cls, dd, data, sl⟩ := o
      obtain ⟨cls2, dd2, data2, sl2⟩ := o'
      dsimp only at h2 h3 k2 k3
      subst h2 h3 k2 k3
      rw [oneLt'_eq]
      simp only [if_true]
      refine wpAny_bind (wpAny_cRoomFor (room_here hu) ?_)
      refine wpAny_bind (wpAny_callSpecialIfBound?_slot (T := "tuple") ⟨_, h1, rfl⟩ F.slot_tuple_lt (call_meets F.slot_tuple_lt ⟨_, h1, rfl⟩ F.entry_tuple_lt (F.args_tuple_lt_2 _ _) (tuple_ltAt l l' vs vs' n n' dd dd2 sl sl2 (pairEq xs ys) fun j => dataLt (xs.getD j .none) (ys.getD j .none)) ⟨h1, k1, fun j j1 j2 => ?_, fun j j1 j2 hj => ?_, ?_⟩))
      · have := eqAt_alikeAll xs ys A.in1 s vs.toList vs'.toList _ _ h4 k4 hal (room_in hu) j (by simpa using j1) (by simpa using j2)
        simpa using this
      · have := rcLt_alikeAll xs ys A.in1 s vs.toList vs'.toList _ _ h4 k4 hal (room_in hu) j (by simpa using j1) (by simpa using j2) hj
        simpa using this
      · exact wpAny_truthy_bool hq
/-- the first items, of tuples that may be empty -/
theorem firsts_any {M : Model} : ∀ {vs : List Value} {ds : List PyData}, EachIs (fun v d => ∃ as, Reads s.heap v d as) vs ds → (∀ d ∈ ds, ∃ xs, d = .tuple xs) →
    ∃ os : List (Option Value), EachIs (fun (o : Option Value) d => o.isSome = true ↔ ∃ x r, d = PyData.tuple (x :: r)) os ds ∧ ∀ {E : Value → Shared → Prop} {Q : List (Option Value) → Shared → Prop}, Q os s → wpAny M A (vs.mapM firstOfTuple') Q E s
  | _, _, .nil, _ => ⟨[], .nil, fun h => by rw [List.mapM_nil]; exact wpAny_pure h⟩
  | v :: vs, d :: ds, .cons ⟨as, r⟩ t, ht => by
    obtain ⟨os, h1, h2⟩ := firsts_any (M := M) t fun d hd => ht d (.tail _ hd)
    obtain ⟨xs, rfl⟩ := ht d (.head _)
    cases r with
    | @tuple a o items n _ _ ho hc hd hr =>
      refine ⟨items[0]? :: os, .cons ?_ h1, fun {E Q} h => ?_⟩
      · constructor
        · intro hs
          cases xs with
          | nil =>
            cases q : items.toList with
            | nil =>
              rw [← Array.getElem?_toList, q] at hs
              cases hs
            | cons _ _ => rw [q] at hr; cases hr
          | cons x r => exact ⟨x, r, rfl⟩
        · rintro ⟨x, r, e⟩
          cases e
          cases q : items.toList with
          | nil => rw [q] at hr; cases hr
          | cons _ _ =>
            rw [← Array.getElem?_toList, q]
            rfl
      · rw [List.mapM_cons]
        refine wpAny_bind ?_
        rw [kas_first_eq]
        refine wpAny_bind (Looks.here (show Looks M s.heap (typeOf (.ref a)) o.cls from (Looks.ld ho).andThen .now) ?_)
        rw [hc, if_neg (by first | decide | simp)]
        exact wpAny_bind (listItems_at ho hd (wpAny_pure (wpAny_bind (h2 (wpAny_pure h)))))
theorem all_some {os : List (Option Value)} {ds : List PyData} (h : EachIs (fun (o : Option Value) d => o.isSome = true ↔ ∃ x r, d = PyData.tuple (x :: r)) os ds) : (os.all fun o => o.isSome) = true → ∀ d ∈ ds, ∃ x r, d = .tuple (x :: r) := by
  induction h with
  | nil => intro _ d hd; cases hd
  | cons r t ih =>
    intro ha d hd
    rw [List.all_cons, Bool.and_eq_true] at ha
    rcases List.mem_cons.mp hd with rfl | hd
    · exact r.mp ha.1
    · exact ih ha.2 d hd
/-- tuples, one of them empty: no first items -/
theorem SortsAt.tups {vs : List Value} {ds : List PyData} (e : EachIs (fun v d => ∃ as, Reads s.heap v d as) vs ds) (hal : AllAlike ds) (ht : ∀ d ∈ ds, ∃ xs, d = .tuple xs) (hu : ∀ d, d ∈ ds → A.units + d.depth < cLine) : SortsAt prog w A s (dataKind s.heap ds) vs := by
  by_cases hne : ∀ d ∈ ds, ∃ x r, d = PyData.tuple (x :: r)
  · exact SortsAt.data e hal (.inl hne) hu
  have room : ∀ {d d' : PyData}, d ∈ ds → A.units + min d.depth d'.depth < cLine := fun {d d'} hd => Nat.lt_of_le_of_lt (Nat.add_le_add_left (Nat.min_le_left _ _) _) (hu d hd)
  refine ⟨fun v hv => ?_, ?_⟩
  · obtain ⟨d, hd, as, r⟩ := e.left v hv
    exact ⟨_, dataKind_some hal hd r⟩
  · obtain ⟨os, h1, h2⟩ := firsts_any (A := A) (M := model prog w) e ht
    have na : (os.toArray.all fun o => o.isSome) = false := by
      cases c : os.toArray.all fun o => o.isSome with
      | false => rfl
      | true =>
        rw [List.all_toArray] at c
        exact absurd (all_some h1 c) hne
    cases hb : (os.toArray[0]?.bind id).isSome with
    | true =>
      refine ⟨general', fun E x y a b Q ha hb' hq => ?_, fun h2' E Q hq => ?_⟩
      · obtain ⟨d, as, hd, ra, rfl⟩ := dataKind_inv ha
        obtain ⟨d', as', hd', rb, rfl⟩ := dataKind_inv hb'
        obtain ⟨xs, rfl⟩ := ht d hd
        exact oneLt_alike (f := false) (fun h => nomatch h) ra rb (hal _ hd d' hd') (fun z => nomatch z) (room hd) hq
      · rw [kat_kind_eq, List.mapM_toArray, map_eq_pure_bind]
        refine wpAny_bind (wpAny_bind (h2 (wpAny_pure ?_)))
        rw [na, if_neg (by simp), hb, if_pos rfl]
        exact wpAny_pure hq
    | false =>
      refine ⟨oneType', fun E x y a b Q ha hb' hq => ?_, fun h2' E Q hq => ?_⟩
      · obtain ⟨d, as, hd, ra, rfl⟩ := dataKind_inv ha
        obtain ⟨d', as', hd', rb, rfl⟩ := dataKind_inv hb'
        obtain ⟨xs, rfl⟩ := ht d hd
        obtain ⟨ys, rfl⟩ := ht d' hd'
        rw [keyLt'_oneType]
        exact oneLt_tup ra rb (hal _ hd _ hd') (room hd) hq
      · rw [kat_kind_eq, List.mapM_toArray, map_eq_pure_bind]
        refine wpAny_bind (wpAny_bind (h2 (wpAny_pure ?_)))
        rw [na, if_neg (by simp), hb, if_neg (by simp)]
        rw [oneTypeOnly'_eq, List.mapM_toArray, map_eq_pure_bind]
        refine wpAny_bind (wpAny_bind (wpAny_bind (kas_mapM (r := Value.type "tuple") _ (fun v hv Q' hq' => ?_) (wpAny_pure ?_))))
        · obtain ⟨d, hd, as, r⟩ := e.left v hv
          obtain ⟨xs, rfl⟩ := ht d hd
          exact (looks_reads r).here hq'
        · have hall : ((List.map (fun _ => Value.type "tuple") vs).toArray.all fun x => x == Value.type "tuple") = true := by
            simp only [List.all_toArray, List.all_map, List.all_eq_true]
            intro _ _
            rfl
          have h0 : (List.map (fun _ => Value.type "tuple") vs).toArray[0]? = some (Value.type "tuple") := by
            cases vs with
            | nil => exact absurd h2' (by simp)
            | cons v vs => simp
          rw [h0]
          simp only [hall, if_true]
          exact wpAny_pure (wpAny_pure hq)
variable {β : Type} {enc : β → PyData} {R : Value → β → Prop} {vs : List Value} {bs : List β}
theorem list_sortX {a : Addr} {n : Nat} {Q : Value → Shared → Prop} (ho : s.heap.get? a = some (seqObj "list" vs.toArray n)) (e : EachIs R vs bs) (er : EachIs (fun v b => ∃ as, Reads s.heap v (enc b) as ∧ a ∉ as) vs bs) (hal : AllAlike (bs.map enc)) (hk : ∀ d ∈ bs.map enc, ∃ xs, d = .tuple xs) (hL : bs.length ≤ sizeLine)
    (hu : ∀ b, b ∈ bs → A.units + 1 + (enc b).depth < cLine) (h : ∀ out, out.length = bs.length → EachIs R out (bs.mergeSort (dataLe false enc)) → Q .none { s with heap := sortedHeap s.heap a vs (List.toArray out) }) :
    wpAny (model prog w) A (call (.builtin "list.sort") [.ref a]) Q E s := by
  have er' : EachIs (fun v b => ∃ as, Reads (sortingHeap s.heap a vs) v (enc b) as) vs bs := each_keepBut (h' := sortingHeap s.heap a vs) (fun _ _ hb q => sortingHeap_old hb q) (fun o q => by rw [ho] at q; rw [← Option.some.inj q]) hal er
  refine wpAny_call_entry slot_list_sort ⟨_, ho, rfl⟩ entry_list_sort (list_sort_vals (κ := dataKind (sortingHeap s.heap a vs) (bs.map enc)) ho (SortsAt.tups (s := { s with heap := sortingHeap s.heap a vs }) (each_map (R := fun v d => ∃ as, Reads (sortingHeap s.heap a vs) v d as) enc er') hal hk (bound_map hu)) (by rw [e.length]; exact hL) ⟨.none, rfl, ?_⟩) (args_list_sort _)
  exact h _ (by rw [sortVals_length false rfl]; exact e.length) (sortVals_data false e er' hal)
end
end SrX
namespace FSt
open PySem PySem.Spec PyProof.Rows L2 Evl FDc DL SrX
variable [CTab]
def srtX (ds : List PyData) : Prop := PySem.W.AllAlike ds ∧ (∀ d ∈ ds, ∃ xs, d = .tuple xs) ∧ ∀ d ∈ ds, d.depth ≤ 20 ∧ (nkD d).isSome = true
theorem srtX_nk {ds : List PyData} (h : srtX ds) : (nkAll ds).isSome = true := nkSome fun d hd => (h.2.2 d hd).2
section
variable {X : Cx} {pins : List (Addr × Obj)} {σ : L2.St} {H : Hp}
/-- behind the collecting: the new list at p is sorted -/
theorem sort_tailX {A : Around} {E : Value → Shared → Prop} {s1 : Shared} {p : Addr} {out : List Value} {zs : List (V × PyData)} {Q : Value → Shared → Prop} (I1 : Inv X pins σ H s1) (hp : s1.heap.get? p = some (seqObj "list" out.toArray 0)) (np : H p = none)
    (rv : Vals (zs.map (·.1)) out) (dp : ∀ z ∈ zs, Dp X.K H z.1 z.2) (ok : srtX (zs.map (·.2))) (hz : zs.length ≤ 100000) (hu : A.units + 30 < cLine)
    (hq : ∀ o2 : List Value, o2.length = out.length → Vals ((zs.mergeSort (PySem.W.dataLe false (·.2))).map (·.1)) o2 → Q .none { s1 with heap := sortedHeap s1.heap p out o2.toArray }) :
    wpAny (model X.prog X.w) A (call (.builtin "list.sort") [.ref p]) Q E s1 := by
  have hL : zs.length ≤ sizeLine := by
    rw [sizeLine_eq]
    omega
  have hlen : out.length = zs.length := by rw [← rv.length, List.length_map]
  by_cases h1 : zs.length ≤ 1
  · refine wpAny_call_entry slot_list_sort ⟨_, hp, rfl⟩ entry_list_sort (SrtO.list_sort_ord swo_none hp (by omega) (fun h => by omega) fun o2 _ hb => ⟨_, rfl, ?_⟩) (args_list_sort _)
    have e : o2 = out := by
      match out, zs, hlen, h1 with
      | [], _, _, _ => exact List.Perm.eq_nil hb.perm
      | [x], _, _, _ => exact List.perm_singleton.mp hb.perm
      | _ :: _ :: _, zs, h, h1 =>
        exfalso
        simp only [List.length_cons] at h
        omega
    have e2 : zs.mergeSort (PySem.W.dataLe false (·.2)) = zs := by
      match zs, h1 with
      | [], _ => exact List.mergeSort_nil
      | [x], _ => exact List.mergeSort_singleton _
      | _ :: _ :: _, h1 =>
        exfalso
        simp only [List.length_cons] at h1
        omega
    have := hq o2 hb.perm.length_eq (by rw [e, e2]; exact rv)
    exact this
  · have each : ∀ {zs : List (V × PyData)} {out : List Value}, Vals (zs.map (·.1)) out → (∀ z ∈ zs, Dp X.K H z.1 z.2) → PySem.W.EachIs (fun u b => RelV b.1 u) out zs ∧ PySem.W.EachIs (fun v (b : V × PyData) => ∃ as, Reads s1.heap v b.2 as) out zs := fun {zs} => by
      induction zs with
      | nil =>
        intro out r _
        cases r
        exact ⟨.nil, .nil⟩
      | cons z zs ih =>
        intro out r d
        cases r with
        | cons r t =>
          obtain ⟨a, b⟩ := ih t fun y hy => d y (.tail _ hy)
          exact ⟨.cons r a, .cons (Dp.reads I1 z.2 z.1 _ (d z (.head _)) r) b⟩
    obtain ⟨e1, e2⟩ := each rv dp
    have nk : ∀ z ∈ zs, (nkD z.2).isSome = true := fun z hz => (ok.2.2 z.2 (List.mem_map.mpr ⟨z, hz, rfl⟩)).2
    have no_list : ∀ {zs : List (V × PyData)} {out : List Value}, (∀ z ∈ zs, (nkD z.2).isSome = true) → PySem.W.EachIs (fun v (b : V × PyData) => ∃ as, Reads s1.heap v b.2 as) out zs → PySem.W.EachIs (fun v (b : V × PyData) => ∃ as, Reads s1.heap v b.2 as ∧ p ∉ as) out zs := fun {zs out} hk e => by
      induction e with
      | nil => exact .nil
      | cons r _ ih =>
        obtain ⟨as, r⟩ := r
        refine .cons ⟨as, r, ?_⟩ (ih fun y hy => hk y (.tail _ hy))
        rw [reads_no _ _ _ (hk _ (.head _)) r]
        exact List.not_mem_nil
    have nota := no_list nk e2
    refine list_sortX (enc := (·.2)) (R := fun u b => RelV b.1 u) hp e1 nota ok.1 ok.2.1 hL (fun b hb => ?_) fun o2 l2 r2 => ?_
    · have := (ok.2.2 b.2 (List.mem_map.mpr ⟨b, hb, rfl⟩)).1
      omega
    · exact hq o2 (by omega) (each_vals r2)
theorem sort_newX {A : Around} {E : Value → Shared → Prop} {s1 : Shared} {out : List Value} {us : List V} {es : List PyData} {P : PySem.Fin → Shared → Prop} (I1 : Inv X pins σ H s1)
    (rv : Vals us out) (du : DpAll X.K H us es) (ok : srtX es) (hz : es.length ≤ 100000) (hu : A.units + 30 < cLine)
    (q : ∀ (p : Addr) (zs : List (V × PyData)) s2, H p = none → (∀ z ∈ zs, z ∈ us.zip es) → zs.map (·.2) = sortD es → Inv X pins σ (upd H p (.lst (zs.map (·.1)))) s2 → P (.done (.ret (.ref p))) s2) :
    wpAny (model X.prog X.w) A (newList out >>= fun l => (holding [l] (call (.builtin "list.sort") [l] [])) >>= fun _ => ret l) P E s1 := by
  have hlu : us.length = es.length := dp_len du
  have hlo : out.length = es.length := by rw [← rv.length, hlu]
  have hsz : out.length ≤ sizeLine := by rw [hlo, sizeLine_eq]; omega
  refine wpAny_bind (wpAny_newList ?_ hsz)
  have I2 : Inv X pins σ H { s1 with heap := s1.heap.push (seqObj "list" out.toArray 0) } := I1.kept fun b o e => Heap.get?_push_of_some _ e
  have hp : (s1.heap.push (seqObj "list" out.toArray 0)).get? s1.heap.objs.size = some (seqObj "list" out.toArray 0) := Heap.get?_push_size _ rfl
  have np : H s1.heap.objs.size = none := I1.hok.fresh (Nat.le_refl _)
  have zm := zip_map hlu
  show wpAny _ _ _ _ _ { s1 with heap := s1.heap.push (seqObj "list" out.toArray 0) }
  refine wpAny_bind (wpAny_holding (sort_tailX (s1 := { s1 with heap := s1.heap.push (seqObj "list" out.toArray 0) }) (zs := us.zip es) I2 hp np (by rw [zm.2]; exact rv) (dp_zip du) (by rw [zm.1]; exact ok) (by rw [List.length_zip]; omega) hu fun o2 l2 r2 => ?_))
  refine wpAny_pure (q s1.heap.objs.size ((us.zip es).mergeSort (PySem.W.dataLe false (·.2))) _ np (fun z hz => List.mem_mergeSort.mp hz) (sort_zip hlu) ?_)
  · obtain ⟨c, hc⟩ := sortedHeap_at (vs := out) (out := o2.toArray) hp
    refine I1.laid (t' := s1.toks) (fun b o e => ?_) (Nat.le_refl _) ⟨?_, o2, c, r2, hc⟩
    · have lt := Heap.lt_size e
      refine (sortedHeap_old (Nat.ne_of_lt lt) ?_).trans (Heap.get?_push_of_some _ e)
      rw [Heap.size_push]
      exact Nat.lt_succ_of_lt lt
    · rw [r2.length, l2]
      exact hsz
end
def rSortN2 (K : PySem.W.Frag) : List V → Hp → VK → Prop := fun xs H Q => ∃ (d : Addr) (es : List Ent), xs = [V.ref d] ∧ FzN H d es ∧ KeysAt K H es ∧ srtX (es.map fun x => x.1.data) ∧ es.length ≤ 100000 ∧
  ∀ (p : Addr) (zs : List (V × PyData)), H p = none → (∀ z ∈ zs, z ∈ (es.map fun x => V.ref x.2.1).zip (es.map fun x => x.1.data)) → zs.map (·.2) = sortD (es.map fun x => x.1.data) → Q (.ref p) (upd H p (.lst (zs.map (·.1))))
theorem call_sortN2 {X : Cx} (hc : X.calm = true) (hu : X.A.units + 64 < cLine) : CallR X (.builtin "sorted") (rSortN2 X.K) := by
  intro pins s σ H xs us Q I r h
  obtain ⟨d, kvs, rfl, ⟨od, hd⟩, hk, ok, hl, q⟩ := h
  rw [Vals.ref1 r]
  obtain ⟨hs, ho, hx, es, ep, hdt, l1, ent⟩ := frzN I hd
  refine Calls.call_function_entry kind_sorted plain_sorted entry_sorted (args_sorted1 _) ?_
  unfold Builtin.«sorted»
  refine wpAny_bind (m := checkCount "sorted" 1 1 _) (wpAny_pure ?_)
  have hu2 : X.A.in1.units + 30 < cLine := by
    show X.A.units + 1 + 30 < cLine
    omega
  refine wpAny_bind (PySem.W.kdu_collect (A := X.A.in1) (kdl_raw hs hx hdt) (I.ok.hd hc) ho (by rw [l1, sizeLine_eq]; omega) fun h' tk acc' kp it => ?_)
  have rv : Vals (kvs.map fun x => V.ref x.2.1) acc'.toList := vals_ent (by rw [Array.length_toList, it.1]; exact l1) fun i x u e1 e2 => by
    obtain ⟨en, hen, hv⟩ := it.2 i u (by rw [← Array.getElem?_toList]; exact e2)
    obtain ⟨en', h1, h2⟩ := ent i x e1
    rw [hen] at h1
    cases h1
    exact hv.trans h2
  have dp := rp_nks (rp_ents hk) (srtX_nk ok)
  exact sort_newX (I.kept (t' := tk) kp) rv dp ok (by rw [List.length_map]; exact hl) hu2 fun p zs s2 np dw ez I2 => ⟨_, rfl, .ref p, _, I2, rfl, q p zs np dw ez⟩
end FSt
namespace DL
open PySem PySem.Spec PyProof.Rows L2 Evl FDc FSt
variable [CTab]
section
variable {K : PySem.W.Frag} {T : List Addr} {te : TE} {we : WE}
def rSortN2E (K : PySem.W.Frag) : List V → Hp → VK → Prop := fun xs H Q => rSortN2 K xs H Q ∨ rSortK xs H Q
theorem kSortN2 {X : Cx} (h : X.K = K) (hc : X.calm = true) (hu : X.A.units + 64 < cLine) : CallR X (.builtin "sorted") (rSortN2E K) := callOr (by subst h; exact call_sortN2 hc hu) (call_sortedD hc)
def sortN2Q (d : PyData) (Q : List PyData → Prop) : Prop := match d with
  | .dict kvs => (∀ z ∈ kvs, isTd z.1 = true) ∧ srtX (kvs.map (·.1)) ∧ kvs.length ≤ 100000 ∧ Q (sortD (kvs.map (·.1)))
  | _ => False
def sortN2N (a : WE) : WL := fun ρ Q => a ρ fun d => sortN2Q d Q
theorem dn_sortN2 (h : DE K T te we) : DN K T (tCB (rSortN2E K) (tCons te tNil)) (sortN2N we) := by
  intro σ ρ H F P q H1 e Q k
  refine h σ ρ H F _ q H1 e _ fun v d Hk H2 g2 r2 p2 => ?_
  cases d with
  | dict kvs =>
    obtain ⟨ht, ok, hl, p2⟩ := p2
    have hi : insB kvs = false := by
      cases kvs with
      | nil => rfl
      | cons p kvs =>
        have := ht p (.head _)
        obtain ⟨a, b⟩ := p
        cases a <;> first | rfl | cases this
    obtain ⟨a, rfl, f⟩ := r2.dict hi
    rcases f with ⟨ks, f, r⟩ | ⟨xs, f, hk, r⟩
    · cases ks with
      | nil =>
        cases r
        refine .inr ⟨a, [], [], rfl, (fzEx g2.sub f).rd, rfl, by decide, fun ys l pm so hp => ?_⟩
        have e0 : ys = [] := List.perm_nil.mp pm
        subst e0
        have p2 : P (sortD []) := p2
        rw [show sortD [] = [] by simp [sortD]] at p2
        exact k l [] [] Hk _ (g2.trans (Grow.hide g2.sub hp _)) .nil p2 (ex_none g2.sub hp) upd_same (ex_none g2.all hp)
      | cons p ks =>
        exfalso
        have e := rpkv_keys r
        cases kvs with
        | nil => cases e
        | cons q kvs =>
          have e1 : q.1 = kD p.1 := (List.cons.inj e).1
          have := ht q (.head _)
          rw [e1] at this
          obtain ⟨p1, p2⟩ := p
          cases p1 <;> cases this
    · have ek : kvs.map (·.1) = xs.map fun x => x.1.data := keysD_ent r
      have el : xs.length = kvs.length := by
        have := congrArg List.length ek
        rw [List.length_map, List.length_map] at this
        exact this.symm
      rw [ek] at ok p2
      refine .inl ⟨a, xs, rfl, fzEx g2.sub f, hk.mono g2.sub, ok, by omega, fun l zs hp dw ez => ?_⟩
      refine k l _ _ Hk _ (g2.trans (Grow.hide g2.sub hp _)) (rp_mem fun z m => rp_zip (rp_ents hk) z (dw z m)) ?_ (ex_none g2.sub hp) upd_same (ex_none g2.all hp)
      rw [ez]
      exact p2
  | _ => exact p2.elim
end
end DL
namespace Mt
variable {α : Type} [DecidableEq α]
def meets (X : List α) (L : List (List α)) : Bool := L.all fun A => X.any fun x => decide (x ∈ A)
def wo (X : List α) (g : α) : List α := X.filter fun x => decide (x ≠ g)
def leastA (L : List (List α)) (X : List α) : Bool := meets X L && !(X.any fun x => meets (wo X x) L)
def sub (X Y : List α) : Bool := X.all fun x => decide (x ∈ Y)
def leastB (S : List (List α)) (X : List α) : Bool := !(S.any fun Y => decide (Y ≠ X) && sub Y X)
theorem meets_iff {X : List α} {L : List (List α)} : meets X L = true ↔ ∀ A ∈ L, ∃ x ∈ X, x ∈ A := by
  unfold meets
  simp [List.all_eq_true, List.any_eq_true]
theorem sub_iff {X Y : List α} : sub X Y = true ↔ ∀ x ∈ X, x ∈ Y := by
  unfold sub
  simp [List.all_eq_true]
theorem mem_wo {X : List α} {g x : α} : x ∈ wo X g ↔ x ∈ X ∧ x ≠ g := by
  unfold wo
  simp [List.mem_filter]
theorem wo_sub {X : List α} {g : α} : (wo X g).Sublist X := List.filter_sublist
theorem leastA_iff {L : List (List α)} {X : List α} : leastA L X = true ↔ meets X L = true ∧ ∀ x ∈ X, ¬ meets (wo X x) L = true := by
  unfold leastA
  simp [List.any_eq_false]
theorem leastB_iff {S : List (List α)} {X : List α} : leastB S X = true ↔ ∀ Y ∈ S, (∀ y ∈ Y, y ∈ X) → Y = X := by
  unfold leastB
  rw [Bool.not_eq_true', List.any_eq_false]
  constructor
  · intro h Y hY hs
    have := h Y hY
    rw [Bool.and_eq_true, decide_eq_true_iff, sub_iff] at this
    exact Decidable.byContradiction fun c => this ⟨c, hs⟩
  · intro h Y hY
    rw [Bool.and_eq_true, decide_eq_true_iff, sub_iff]
    rintro ⟨c, hs⟩
    exact c (h Y hY hs)
theorem meets_mono {X Y : List α} {L : List (List α)} (h : ∀ y ∈ Y, y ∈ X) (m : meets Y L = true) : meets X L = true := by
  rw [meets_iff] at m ⊢
  intro A hA
  obtain ⟨x, hx, hxA⟩ := m A hA
  exact ⟨x, h x hx, hxA⟩
theorem sublist_filter {X M : List α} (h : X.Sublist M) (nd : M.Nodup) : X = M.filter fun x => decide (x ∈ X) := by
  induction h with
  | slnil => rfl
  | @cons l₁ l₂ a h ih =>
    obtain ⟨n1, n2⟩ := List.nodup_cons.mp nd
    have hn : a ∉ l₁ := fun z => n1 (h.subset z)
    rw [List.filter_cons_of_neg (by simpa using hn)]
    exact ih n2
  | @cons_cons l₁ l₂ a h ih =>
    obtain ⟨n1, n2⟩ := List.nodup_cons.mp nd
    have hn : a ∉ l₁ := fun z => n1 (h.subset z)
    rw [List.filter_cons_of_pos (by simp)]
    congr 1
    refine (ih n2).trans (List.filter_congr fun x hx => ?_)
    have : x ≠ a := fun z => n1 (z ▸ hx)
    simp [this]
theorem sub_eq {X Y M : List α} (nd : M.Nodup) (hX : X.Sublist M) (hY : Y.Sublist M) (h1 : ∀ x ∈ X, x ∈ Y) (h2 : ∀ y ∈ Y, y ∈ X) : X = Y := by
  rw [sublist_filter hX nd, sublist_filter hY nd]
  refine List.filter_congr fun x _ => ?_
  have : x ∈ X ↔ x ∈ Y := ⟨h1 x, h2 x⟩
  simp [this]
theorem out_of {X Y M : List α} (nd : M.Nodup) (hX : X.Sublist M) (hY : Y.Sublist M) (hs : ∀ y ∈ Y, y ∈ X) (ne : Y ≠ X) : ∃ x ∈ X, x ∉ Y := by
  refine Decidable.byContradiction fun c => ne ?_
  refine sub_eq nd hY hX hs fun x hx => Decidable.byContradiction fun d => c ⟨x, hx, d⟩
/-- the two ways to tell a least lot -/
theorem least_same {M : List α} (nd : M.Nodup) {L S : List (List α)} (hS : ∀ Y, Y ∈ S ↔ Y.Sublist M ∧ meets Y L = true) {X : List α} (hX : X.Sublist M) : leastA L X = true ↔ meets X L = true ∧ leastB S X = true := by
  rw [leastA_iff, leastB_iff]
  constructor
  · rintro ⟨m, h⟩
    refine ⟨m, fun Y hY hs => Decidable.byContradiction fun ne => ?_⟩
    obtain ⟨h1, h2⟩ := (hS Y).mp hY
    obtain ⟨x, hx, hxY⟩ := out_of nd hX h1 hs ne
    exact h x hx (meets_mono (fun y hy => mem_wo.mpr ⟨hs y hy, fun z => hxY (z ▸ hy)⟩) h2)
  · rintro ⟨m, h⟩
    refine ⟨m, fun x hx c => ?_⟩
    have e := h (wo X x) ((hS _).mpr ⟨wo_sub.trans hX, c⟩) fun y hy => (mem_wo.mp hy).1
    have : x ∈ wo X x := by rw [e]; exact hx
    exact (mem_wo.mp this).2 rfl
/-- within each that meets there is a least one -/
theorem least_in {M : List α} {L : List (List α)} : ∀ (n : Nat) {X : List α}, X.length ≤ n → X.Sublist M → meets X L = true → ∃ T, T.Sublist M ∧ (∀ t ∈ T, t ∈ X) ∧ leastA L T = true
  | 0, X, hl, hX, m => by
    have e : X = [] := List.length_eq_zero_iff.mp (Nat.le_zero.mp hl)
    subst e
    exact ⟨[], hX, fun _ h => h, leastA_iff.mpr ⟨m, fun _ h => nomatch h⟩⟩
  | n + 1, X, hl, hX, m => by
    by_cases c : ∃ x ∈ X, meets (wo X x) L = true
    · obtain ⟨x, hx, c⟩ := c
      have hlt : (wo X x).length < X.length := by
        unfold wo
        refine Nat.lt_of_le_of_ne (List.length_filter_le _ _) fun e => ?_
        have := (List.length_filter_eq_length_iff.mp e) x hx
        simp at this
      obtain ⟨T, h1, h2, h3⟩ := least_in n (X := wo X x) (by omega) (wo_sub.trans hX) c
      exact ⟨T, h1, fun t ht => (mem_wo.mp (h2 t ht)).1, h3⟩
    · exact ⟨X, hX, fun _ h => h, leastA_iff.mpr ⟨m, fun x hx d => c ⟨x, hx, d⟩⟩⟩
section
variable {M M' : List α} {L T : List (List α)}
theorem twice_in (nd : M.Nodup) (hL : ∀ A ∈ L, A.Sublist M) (hT : ∀ X, X ∈ T ↔ X.Sublist M ∧ leastA L X = true) {X : List α} (m : meets X T = true) : ∃ A ∈ L, ∀ a ∈ A, a ∈ X := by
  refine Decidable.byContradiction fun c => ?_
  have mc : meets (M.filter fun x => decide (x ∉ X)) L = true := by
    rw [meets_iff]
    intro A hA
    have : ¬ ∀ a ∈ A, a ∈ X := fun z => c ⟨A, hA, z⟩
    have : ∃ a ∈ A, a ∉ X := Decidable.byContradiction fun d => this fun a ha => Decidable.byContradiction fun e => d ⟨a, ha, e⟩
    obtain ⟨a, ha, hn⟩ := this
    exact ⟨a, by rw [List.mem_filter]; exact ⟨(hL A hA).subset ha, by simpa using hn⟩, ha⟩
  obtain ⟨T0, h1, h2, h3⟩ := least_in _ (Nat.le_refl _) List.filter_sublist mc
  obtain ⟨x, hx, hxT⟩ := meets_iff.mp m T0 ((hT T0).mpr ⟨h1, h3⟩)
  have := h2 x hxT
  rw [List.mem_filter] at this
  simp [hx] at this
theorem once_in (hT : ∀ X, X ∈ T ↔ X.Sublist M ∧ leastA L X = true) {A : List α} (hA : A ∈ L) : meets A T = true := by
  rw [meets_iff]
  intro X hX
  obtain ⟨x, hx, hxA⟩ := meets_iff.mp (leastA_iff.mp ((hT X).mp hX).2).1 A hA
  exact ⟨x, hxA, hx⟩
/-- what meets the least lots that meet L: the least lots of L -/
theorem twice (nd : M.Nodup) (hL : ∀ A ∈ L, A.Sublist M) (hT : ∀ X, X ∈ T ↔ X.Sublist M ∧ leastA L X = true) (hM : M'.Sublist M) (hm : ∀ x, x ∈ M' ↔ ∃ X ∈ T, x ∈ X) {X : List α} :
    (X.Sublist M' ∧ leastA T X = true) ↔ (X ∈ L ∧ leastB L X = true) := by
  constructor
  · rintro ⟨hX, g⟩
    obtain ⟨m, g⟩ := leastA_iff.mp g
    have hXM := hX.trans hM
    obtain ⟨A, hA, hs⟩ := twice_in nd hL hT m
    have e : A = X := Decidable.byContradiction fun ne => by
      obtain ⟨x, hx, hxA⟩ := out_of nd hXM (hL A hA) hs ne
      exact g x hx (meets_mono (fun y hy => mem_wo.mpr ⟨hs y hy, fun z => hxA (z ▸ hy)⟩) (once_in hT hA))
    subst e
    refine ⟨hA, leastB_iff.mpr fun Y hY hs' => Decidable.byContradiction fun ne => ?_⟩
    obtain ⟨x, hx, hxY⟩ := out_of nd hXM (hL Y hY) hs' ne
    exact g x hx (meets_mono (fun y hy => mem_wo.mpr ⟨hs' y hy, fun z => hxY (z ▸ hy)⟩) (once_in hT hY))
  · rintro ⟨hX, g⟩
    rw [leastB_iff] at g
    have gA : leastA T X = true := leastA_iff.mpr ⟨once_in hT hX, fun x hx c => by
      obtain ⟨A, hA, hs⟩ := twice_in nd hL hT c
      have e := g A hA fun a ha => (mem_wo.mp (hs a ha)).1
      subst e
      exact (mem_wo.mp (hs x hx)).2 rfl⟩
    refine ⟨?_, gA⟩
    have hin : ∀ x ∈ X, x ∈ M' := fun x hx => Decidable.byContradiction fun c => by
      refine (leastA_iff.mp gA).2 x hx (meets_iff.mpr fun Y hY => ?_)
      obtain ⟨z, hz, hzY⟩ := meets_iff.mp (leastA_iff.mp gA).1 Y hY
      exact ⟨z, mem_wo.mpr ⟨hz, fun e => c (e ▸ (hm z).mpr ⟨Y, hY, hzY⟩)⟩, hzY⟩
    have e1 : X = M'.filter fun x => decide (x ∈ X) := by
      have h1 := sublist_filter (hL X hX) nd
      have h2 := sublist_filter hM nd
      refine h1.trans ?_
      conv => rhs; rw [h2]
      rw [List.filter_filter]
      refine List.filter_congr fun x hx => ?_
      by_cases c : x ∈ X
      · have c2 := hin x c
        simp [c, c2]
      · simp [c]
    rw [e1]
    exact List.filter_sublist
end
def le2 : List Bool → List Bool → Bool
  | a :: as, b :: bs => (!a || b) && le2 as bs
  | [], [] => true
  | _, _ => false
def bits : Nat → Nat → List Bool
  | 0, _ => []
  | n + 1, m => (m % 2 == 1) :: bits n (m / 2)
def pop (b : List Bool) : Nat := b.countP id
def rows : Nat → List (List Bool)
  | 0 => [[]]
  | n + 1 => (rows n).map (true :: ·) ++ (rows n).map (false :: ·)
def chain (c : List (List Bool)) : Bool := c.all fun a => c.all fun b => le2 a b || le2 b a
def ch1 : List (List (List Bool)) := ([[0, 1, 3, 7, 15, 31, 63], [32, 33, 35, 39, 47], [16, 17, 19, 23, 55], [48, 49, 51], [8, 9, 11, 27, 59], [40, 41, 43], [24, 25, 57], [56], [4, 5, 13, 29, 61], [36, 37, 45], [20, 21, 53], [52], [12, 28, 60], [44], [2, 6, 14, 30, 62], [34, 38, 46], [18, 22, 54], [50], [10, 26, 58], [42]] : List (List Nat)).map fun c => c.map (bits 6)
def ch2 : List (List (List Bool)) := ([[1, 3, 7, 15, 31, 63], [4, 5, 7, 23, 55, 63], [2, 6, 7, 39, 47, 63], [8, 9, 11, 15, 31, 63], [2, 10, 11, 27, 59, 63], [1, 3, 11, 43, 47, 63], [16, 17, 19, 23, 55, 63], [16, 18, 19, 27, 59, 63], [1, 17, 19, 51, 55, 63], [32, 33, 35, 39, 47, 63], [32, 34, 35, 43, 59, 63], [32, 33, 35, 51, 55, 63], [4, 12, 13, 15, 31, 63], [4, 5, 13, 29, 61, 63], [8, 9, 13, 45, 61, 63], [16, 20, 21, 23, 31, 63], [4, 20, 21, 29, 61, 63], [1, 5, 21, 53, 61, 63], [32, 36, 37, 39, 47, 63], [4, 36, 37, 45, 47, 63], [1, 33, 37, 53, 55, 63], [8, 24, 25, 27, 59, 63], [8, 24, 25, 29, 31, 63], [8, 9, 25, 57, 59, 63], [32, 40, 41, 43, 47, 63], [8, 40, 41, 45, 61, 63], [32, 40, 41, 57, 59, 63], [16, 48, 49, 51, 55, 63], [16, 48, 49, 53, 61, 63], [1, 17, 49, 57, 59, 63], [2, 6, 14, 15, 31, 63], [2, 10, 14, 30, 62, 63], [4, 12, 14, 46, 62, 63], [2, 18, 22, 23, 31, 63], [2, 6, 22, 30, 62, 63], [16, 18, 22, 54, 62, 63], [2, 34, 38, 39, 47, 63], [32, 34, 38, 46, 62, 63], [4, 36, 38, 54, 62, 63], [8, 10, 26, 27, 31, 63], [16, 24, 26, 30, 62, 63], [2, 10, 26, 58, 59, 63], [32, 34, 42, 43, 47, 63], [8, 40, 42, 46, 62, 63], [2, 10, 42, 58, 59, 63], [16, 48, 50, 51, 55, 63], [16, 18, 50, 54, 55, 63], [32, 48, 50, 58, 62, 63], [4, 12, 28, 29, 61, 63], [4, 20, 28, 30, 31, 63], [8, 12, 28, 60, 61, 63], [4, 36, 44, 45, 47, 63], [8, 12, 44, 46, 47, 63], [32, 36, 44, 60, 61, 63], [16, 20, 52, 53, 55, 63], [4, 20, 52, 54, 55, 63], [16, 48, 52, 60, 61, 63], [8, 24, 56, 57, 59, 63], [8, 24, 56, 58, 62, 63], [32, 40, 56, 60, 61, 63]] : List (List Nat)).map fun c => c.map (bits 6)
theorem ch1_ok : (ch1.all chain && (rows 6).all (fun m => decide (1 ≤ ch1.countP fun c => decide (m ∈ c)))) = true ∧ ch1.length = 20 := by decide +kernel
theorem ch2_ok : (ch2.all chain && (rows 6).all (fun m => decide (pop m ≤ ch2.countP fun c => decide (m ∈ c)))) = true ∧ ch2.length = 60 := by decide +kernel
theorem rows_mem : ∀ {n : Nat} {b : List Bool}, b.length = n → b ∈ rows n
  | 0, b, h => by rw [List.length_eq_zero_iff.mp h]; exact List.mem_singleton.mpr rfl
  | n + 1, [], h => by cases h
  | n + 1, x :: b, h => by
    have ih := rows_mem (n := n) (b := b) (Nat.succ.inj h)
    unfold rows
    rw [List.mem_append, List.mem_map, List.mem_map]
    cases x
    · exact .inr ⟨b, ih, rfl⟩
    · exact .inl ⟨b, ih, rfl⟩
theorem sum_swap {β γ : Type} (p : β → γ → Bool) (bs : List β) : ∀ cs : List γ, (bs.map fun b => cs.countP fun c => p b c).sum = (cs.map fun c => bs.countP fun b => p b c).sum
  | [] => by
    have : ∀ bs : List β, (bs.map fun _ => 0).sum = 0 := fun bs => by
      induction bs with
      | nil => rfl
      | cons b bs ih => rw [List.map_cons, List.sum_cons, ih]
    exact this bs
  | c :: cs => by
    rw [List.map_cons, List.sum_cons, ← sum_swap p bs cs]
    clear sum_swap
    induction bs with
    | nil => rfl
    | cons b bs ih =>
      rw [List.map_cons, List.sum_cons, List.map_cons, List.sum_cons, ih, List.countP_cons, List.countP_cons]
      omega
theorem sum_le {β : Type} {f g : β → Nat} : ∀ {bs : List β}, (∀ b ∈ bs, f b ≤ g b) → (bs.map f).sum ≤ (bs.map g).sum
  | [], _ => Nat.le_refl _
  | b :: bs, h => by
    rw [List.map_cons, List.sum_cons, List.map_cons, List.sum_cons]
    exact Nat.add_le_add (h b (.head _)) (sum_le fun c hc => h c (.tail _ hc))
theorem sum_one {β : Type} : ∀ (bs : List β), (bs.map fun _ => 1).sum = bs.length
  | [] => rfl
  | b :: bs => by rw [List.map_cons, List.sum_cons, sum_one bs, List.length_cons]; omega
/-- rows none of which is below another one -/
def Anti (ms : List (List Bool)) : Prop := ms.Nodup ∧ ∀ a ∈ ms, ∀ b ∈ ms, le2 a b = true → a = b
theorem chain_one {ms c : List (List Bool)} (h : Anti ms) (hc : chain c = true) : (ms.countP fun m => decide (m ∈ c)) ≤ 1 := by
  obtain ⟨nd, an⟩ := h
  rw [List.countP_eq_length_filter]
  have n2 : (ms.filter fun m => decide (m ∈ c)).Nodup := nd.sublist List.filter_sublist
  have same : ∀ a ∈ ms.filter (fun m => decide (m ∈ c)), ∀ b ∈ ms.filter (fun m => decide (m ∈ c)), a = b := fun a ha b hb => by
    rw [List.mem_filter, decide_eq_true_iff] at ha hb
    unfold chain at hc
    rw [List.all_eq_true] at hc
    have h1 := hc a ha.2
    rw [List.all_eq_true] at h1
    have h2 := h1 b hb.2
    rw [Bool.or_eq_true] at h2
    rcases h2 with h2 | h2
    · exact an a ha.1 b hb.1 h2
    · exact (an b hb.1 a ha.1 h2).symm
  cases hl : ms.filter fun m => decide (m ∈ c) with
  | nil => exact Nat.zero_le _
  | cons x r =>
    cases r with
    | nil => exact Nat.le_refl _
    | cons y r =>
      exfalso
      rw [hl] at n2 same
      have e := same x (.head _) y (.tail _ (.head _))
      exact (List.nodup_cons.mp n2).1 (by rw [e]; exact .head _)
theorem chain_bound {ms : List (List Bool)} (h : Anti ms) (h6 : ∀ m ∈ ms, m.length = 6) {cs : List (List (List Bool))} {f : List Bool → Nat} (hc : (cs.all chain && (rows 6).all (fun m => decide (f m ≤ cs.countP fun c => decide (m ∈ c)))) = true) : (ms.map f).sum ≤ cs.length := by
  rw [Bool.and_eq_true, List.all_eq_true, List.all_eq_true] at hc
  refine Nat.le_trans (sum_le (g := fun m => cs.countP fun c => decide (m ∈ c)) fun m hm => ?_) ?_
  · exact of_decide_eq_true (hc.2 m (rows_mem (h6 m hm)))
  · rw [sum_swap (fun m c => decide (m ∈ c)) ms cs, ← sum_one cs]
    exact sum_le fun c hcs => chain_one h (hc.1 c hcs)
/-- the row of a lot -/
def row (M : List α) (X : List α) : List Bool := (M.map fun x => decide (x ∈ X)) ++ List.replicate (6 - M.length) false
theorem le2_row {X Y : List α} (k : Nat) : ∀ {M : List α}, le2 ((M.map fun x => decide (x ∈ X)) ++ List.replicate k false) ((M.map fun x => decide (x ∈ Y)) ++ List.replicate k false) = true → ∀ x ∈ M, x ∈ X → x ∈ Y
  | [], _, x, hx, _ => nomatch hx
  | m :: M, h, x, hx, hX => by
    rw [List.map_cons, List.map_cons, List.cons_append, List.cons_append] at h
    unfold le2 at h
    rw [Bool.and_eq_true] at h
    rcases List.mem_cons.mp hx with rfl | hx
    · have := h.1
      simp [hX] at this
      exact this
    · exact le2_row k h.2 x hx hX
theorem pop_row {M X : List α} (nd : M.Nodup) (hX : X.Sublist M) : pop (row M X) = X.length := by
  have e := sublist_filter hX nd
  unfold pop row
  rw [List.countP_append, List.countP_map]
  have h0 : ∀ k : Nat, (List.replicate k false).countP id = 0 := fun k => by
    rw [List.countP_replicate]
    simp
  rw [h0, Nat.add_zero]
  conv => rhs; rw [e]
  rw [← List.countP_eq_length_filter]
  rfl
theorem anti_bounds {M : List α} (nd : M.Nodup) (h6 : M.length ≤ 6) {T : List (List α)} (nT : T.Nodup) (hT : ∀ X ∈ T, X.Sublist M) (an : ∀ X ∈ T, ∀ Y ∈ T, (∀ x ∈ X, x ∈ Y) → X = Y) : T.length ≤ 20 ∧ (T.map List.length).sum ≤ 60 := by
  have inj : ∀ X ∈ T, ∀ Y ∈ T, le2 (row M X) (row M Y) = true → X = Y := fun X hX Y hY h => an X hX Y hY fun x hx => le2_row _ h x ((hT X hX).subset hx) hx
  have leRefl : ∀ b : List Bool, le2 b b = true := fun b => by
    induction b with
    | nil => rfl
    | cons x b ih => unfold le2; rw [ih]; cases x <;> rfl
  have A : Anti (T.map (row M)) := by
    refine ⟨?_, ?_⟩
    · rw [List.Nodup, List.pairwise_map]
      exact nT.imp_of_mem fun {X Y} hX hY ne e => ne (inj X hX Y hY (by rw [e]; exact leRefl _))
    · intro a ha b hb h
      obtain ⟨X, hX, rfl⟩ := List.mem_map.mp ha
      obtain ⟨Y, hY, rfl⟩ := List.mem_map.mp hb
      rw [inj X hX Y hY h]
  have L6 : ∀ m ∈ T.map (row M), m.length = 6 := fun m hm => by
    obtain ⟨X, _, rfl⟩ := List.mem_map.mp hm
    unfold row
    rw [List.length_append, List.length_map, List.length_replicate]
    omega
  have b1 := chain_bound A L6 (f := fun _ => 1) ch1_ok.1
  have b2 := chain_bound A L6 (f := pop) ch2_ok.1
  rw [ch1_ok.2, sum_one, List.length_map] at b1
  rw [ch2_ok.2, List.map_map] at b2
  refine ⟨b1, ?_⟩
  have e : T.map List.length = T.map (pop ∘ row M) := List.map_congr_left fun X hX => (pop_row nd (hT X hX)).symm
  rw [e]
  exact b2
end Mt
namespace Lw
open PySem DL FSt
variable [CTab]
def w_without_one : List Sl → (PyData → Prop) → Prop := bodyW
    (retW [] (cbW tupleW (consW (newW (lcN [2] (itemsA (varW 0)) (bindW 2) (testW (opW neBW (varW 2) (varW 1))) (varW 2))) nilW))) 3
def w_least_of : List Sl → (PyData → Prop) → Prop := bodyW
    (seqW (setW [] 1 (datM (newW (lcN [2] (itemsA (varW 0)) (bindW 2) (andT (testW (opW ixAW (varW 0) (varW 2))) (notT (testW (cbW anyW (consW (newW (lcN [3] (itemsA (varW 2)) (bindW 3) yesT (opW ixAW (varW 0) (callW 2 w_without_one (avarW 2 (avarW 3 anilW)))))) nilW))))) (varW 2)))))
    (retW [] (cbW tupleW (consW (newW (sortAN (varW 1))) nilW)))) 4
def w_do_ascend : List Sl → (PyData → Prop) → Prop := bodyW
    (retW [] (cbW allW (consW (newW (lcN [1, 2] (zipI (consW (varW 0) (consW (slW (varW 0) (someO (cW (.int 1))) noO) nilW))) (bindsW [1, 2]) yesT (opW ltXW (varW 1) (varW 2)))) nilW))) 3
def w_meets_each : List Sl → (PyData → Prop) → Prop := bodyW
    (retW [] (cbW allW (consW (newW (lcN [2] (itemsA (varW 1)) (bindW 2) yesT (cbW anyW (consW (newW (lcN [3] (itemsA (varW 0)) (bindW 3) yesT (opW (inXW false) (varW 3) (varW 2)))) nilW)))) nilW))) 4
def w_members_of : List Sl → (PyData → Prop) → Prop := bodyW
    (retW [] (cbW tupleW (consW (newW (sortSetN (newW (lc2N [1, 2] [2] (itemsA (varW 0)) (bindW 1) yesT (itemsA (varW 1)) (bindW 2) yesT (varW 2))))) nilW))) 3
def b_lots_within_1 : WS :=
    (seqW (setW [] 2 (datM (newW (lc2N [4, 5] [5] (itemsA (varW 2)) (bindW 4) yesT (itemsA (varW 0)) (bindW 5) (orT (testW (opW eqBW (varW 4) (tupW nilW))) (testW (opW ltXW (opW ixAW (varW 4) (unW negW (cW (.int 1)))) (varW 5)))) (tupW (starW (varW 4) (consW (varW 5) nilW)))))))
    (extW [] 1 (varW 2)))
def w_lots_within : List Sl → (PyData → Prop) → Prop := bodyW
    (seqW (set2W [] 1 2 (newM (lstN (consW (tupW nilW) nilW))) (datM (newW (lstN (consW (tupW nilW) nilW)))))
    (seqW (forW (itemsA (varW 0)) (bindW 3) b_lots_within_1)
    (retW [1] (varW 1)))) 6
def w_is_name : List Sl → (PyData → Prop) → Prop := bodyW
    (retW [] (andV (isiW isStr (varW 0)) (andV (chainW leW leW (cW (.int 1)) (cbW lenAW (consW (varW 0) nilW)) (cW (.int 4))) (cbW allW (consW (newW (lcN [1] (itemsA (varW 0)) (bindW 1) yesT (opW inAW (varW 1) (cW (.str "abcdefghijklmnopqrstuvwxyz"))))) nilW))))) 2
def w_are_names : List Sl → (PyData → Prop) → Prop := bodyW
    (retW [] (andV (isiW isTup (varW 0)) (cbW allW (consW (newW (lcN [1] (itemsA (varW 0)) (bindW 1) yesT (callW 1 w_is_name (avarW 1 anilW)))) nilW)))) 2
def w_is_ascending : List Sl → (PyData → Prop) → Prop := bodyW
    (retW [] (cbW allW (consW (newW (lcN [1, 2] (zipI (consW (varW 0) (consW (slW (varW 0) (someO (cW (.int 1))) noO) nilW))) (bindsW [1, 2]) yesT (opW ltW (varW 1) (varW 2)))) nilW))) 3
def w_is_lot : List Sl → (PyData → Prop) → Prop := bodyW
    (retW [] (andV (callW 1 w_are_names (avarW 0 anilW)) (callW 1 w_is_ascending (avarW 0 anilW)))) 1
def w_is_pair : List Sl → (PyData → Prop) → Prop := bodyW
    (retW [] (andV (callW 1 w_is_lot (avarW 0 anilW)) (opW eqBW (cbW lenAW (consW (varW 0) nilW)) (cW (.int 2))))) 1
def w_is_lot_of_pairs : List Sl → (PyData → Prop) → Prop := bodyW
    (retW [] (andV (isiW isTup (varW 0)) (andV (cbW allW (consW (newW (lcN [1] (itemsA (varW 0)) (bindW 1) yesT (callW 1 w_is_pair (avarW 1 anilW)))) nilW)) (callW 1 w_do_ascend (avarW 0 anilW))))) 2
def w_meeting_lots : List Sl → (PyData → Prop) → Prop := bodyW
    (seqW (ifW [] (orT (notT (testW (isiW isTup (varW 0)))) (orT (testW (opW gtW (cbW lenAW (consW (varW 0) nilW)) (cW (.int 40)))) (notT (testW (cbW allW (consW (newW (lcN [1] (itemsA (varW 0)) (bindW 1) yesT (callW 1 w_is_lot_of_pairs (avarW 1 anilW)))) nilW))))))
    deadW
    nextW)
    (seqW (ifW [] (orT (notT (testW (callW 1 w_do_ascend (avarW 0 anilW)))) (testW (opW gtW (cbW lenAW (consW (callW 1 w_members_of (avarW 0 anilW)) nilW)) (cW (.int 10)))))
    deadW
    nextW)
    (retW [] (callW 1 w_least_of (aconsW (dcTW [1] (itemsA (callW 1 w_lots_within (aconsW (callW 1 w_members_of (avarW 0 anilW)) anilW))) (bindW 1) yesT (varW 1) (callW 2 w_meets_each (avarW 1 (avarW 0 anilW)))) anilW))))) 2
abbrev w__law_draw := drawW
def w__law_shuffled : List Sl → (PyData → Prop) → Prop := bodyW
    (seqW (setW [] 2 (newM (listAN (varW 1))))
    (retPopW 2 [3] (range1I (consW (cbW lenAW (consW (varW 1) nilW)) nilW)) (bindW 3) (callW 2 w__law_draw (avarW 0 (aconsW (cbW lenAW (consW (varW 2) nilW)) anilW))))) 4
def w__law_names : List Sl → (PyData → Prop) → Prop := bodyW
    (seqW (setW [] 2 (datM (newW (lstN (consW (cW (.str "a")) (consW (cW (.str "b")) (consW (cW (.str "c")) (consW (cW (.str "d")) (consW (cW (.str "e")) (consW (cW (.str "f")) (consW (cW (.str "g")) (consW (cW (.str "h")) nilW))))))))))))
    (seqW (ifW [] (testW (opW eqBW (callW 2 w__law_draw (avarW 0 (aconsW (cW (.int 3)) anilW))) (cW (.int 0))))
    (setW [] 2 (datM (newW (lstN (consW (cW (.str "a")) (consW (cW (.str "aa")) (consW (cW (.str "ab")) (consW (cW (.str "b")) (consW (cW (.str "ba")) (consW (cW (.str "c")) (consW (cW (.str "mast")) (consW (cW (.str "p")) (consW (cW (.str "q")) (consW (cW (.str "y")) (consW (cW (.str "z")) (consW (cW (.str "zz")) (consW (cW (.str "zzz")) (consW (cW (.str "zzzz")) nilW))))))))))))))))))
    nextW)
    (seqW (ifW [] (testW (opW gtW (varW 1) (cbW lenAW (consW (varW 2) nilW))))
    (setW [] 2 (datM (opW addW (varW 2) (newW (lstN (consW (cW (.str "ya")) (consW (cW (.str "yb")) (consW (cW (.str "yc")) (consW (cW (.str "yd")) (consW (cW (.str "ye")) (consW (cW (.str "yf")) nilW)))))))))))
    nextW)
    (retW [] (slW (callW 2 w__law_shuffled (avarW 0 (avarW 2 anilW))) noO (someO (varW 1))))))) 3
def b__law_lot_upto_1 : WS :=
    (appPopW [3] 4 3 (callW 2 w__law_draw (avarW 0 (aconsW (cbW lenAW (consW (varW 3) nilW)) anilW))))
def w__law_lot_upto : List Sl → (PyData → Prop) → Prop := bodyW
    (seqW (set2W [] 3 4 (newM (listAN (varW 1))) (newM (lstN nilW)))
    (seqW (forRW [3] (range1I (consW (cbW min2W (consW (cbW lenAW (consW (varW 3) nilW)) (consW (callW 2 w__law_draw (avarW 0 (aconsW (opW addW (varW 2) (cW (.int 1))) anilW))) nilW))) nilW)) (bindW 5) b__law_lot_upto_1)
    (retW [4] (cbW tupleW (consW (newW (lcN [6] (itemsA (varW 1)) (bindW 6) (testW (opW (inXW false) (varW 6) (varW 4))) (varW 6))) nilW))))) 7
def b__law_all_pairs_1 : WS :=
    (setW [] 1 (datM (opW addW (varW 1) (newW (lcN [5] (itemsA (slW (varW 2) (someO (opW addW (varW 3) (cW (.int 1)))) noO)) (bindW 5) yesT (tupW (consW (varW 4) (consW (varW 5) nilW))))))))
def w__law_all_pairs : List Sl → (PyData → Prop) → Prop := bodyW
    (seqW (set2W [] 1 2 (datM (newW (lstN nilW))) (datM (newW (sortAN (varW 0)))))
    (seqW (forW (enumI (consW (varW 2) nilW)) (bindsW [3, 4]) b__law_all_pairs_1)
    (retW [] (varW 1)))) 6
def w__law_drawn_pairs : List Sl → (PyData → Prop) → Prop := bodyW
    (seqW (setW [] 1 (datM (callW 2 w__law_names (avarW 0 (aconsW (cW (.int 4)) anilW)))))
    (retW [] (newW (listAN (callW 3 w__law_lot_upto (avarW 0 (aconsW (callW 1 w__law_all_pairs (avarW 1 anilW)) (aconsW (cW (.int 6)) anilW)))))))) 2
def w__law_one_of : List Sl → (PyData → Prop) → Prop := bodyW
    (retW [] (opW ixAW (varW 1) (callW 2 w__law_draw (avarW 0 (aconsW (cbW lenAW (consW (varW 1) nilW)) anilW))))) 2
def b__law_drawn_lots_1 : WS :=
    (seqW (setW [] 5 (datM (callW 3 w__law_lot_upto (avarW 0 (avarW 1 (avarW 2 anilW))))))
    (ifW [] (orT (testW (opW neBW (varW 5) (tupW nilW))) (testW (opW eqBW (callW 2 w__law_draw (avarW 0 (aconsW (cW (.int 4)) anilW))) (cW (.int 0)))))
    (storeDW [] 3 (varW 5) (cW (.bool true)))
    nextW))
def w__law_drawn_lots : List Sl → (PyData → Prop) → Prop := bodyW
    (seqW (set2W [] 2 3 (datM (callW 2 w__law_one_of (avarW 0 (aconsW (newW (lstN (consW (cW (.int 1)) (consW (cW (.int 2)) (consW (cW (.int 3)) (consW (cbW lenAW (consW (varW 1) nilW)) nilW)))))) anilW)))) (owdNewW true))
    (seqW (forRW [] (range1I (consW (callW 2 w__law_draw (avarW 0 (aconsW (cW (.int 7)) anilW))) nilW)) (bindW 4) b__law_drawn_lots_1)
    (retW [3] (cbW tupleW (consW (newW (sortN2N (varW 3))) nilW))))) 6
def b__law_sublots_1 : WS :=
    (setW [] 1 (datM (opW addW (varW 1) (newW (lcN [3] (itemsA (newW (listAN (varW 1)))) (bindW 3) yesT (opW addW (varW 3) (tupW (consW (varW 2) nilW))))))))
def w__law_sublots : List Sl → (PyData → Prop) → Prop := bodyW
    (seqW (setW [] 1 (datM (newW (lstN (consW (tupW nilW) nilW)))))
    (seqW (forW (itemsA (varW 0)) (bindW 2) b__law_sublots_1)
    (retW [] (newW (lcN [4] (itemsA (newW (sortAN (newW (lcN [3] (itemsA (varW 1)) (bindW 3) yesT (tupW (consW (cbW lenAW (consW (varW 3) nilW)) (consW (varW 3) nilW)))))))) (bindW 4) yesT (opW ixAW (varW 4) (cW (.int 1)))))))) 5
def w__law_is_within : List Sl → (PyData → Prop) → Prop := bodyW
    (retW [] (opW eqBW (newW (lcN [2] (itemsA (varW 0)) (bindW 2) (testW (opW (inXW true) (varW 2) (varW 1))) (varW 2))) (newW (lstN nilW)))) 3
def b__law_least_lots_1 : WS :=
    (ifW [] (testW (opW eqBW (newW (lcN [3] (itemsA (varW 0)) (bindW 3) (andT (testW (opW neBW (varW 3) (varW 2))) (testW (callW 2 w__law_is_within (avarW 3 (avarW 2 anilW))))) (varW 3))) (newW (lstN nilW))))
    (appW [] 1 (varW 2))
    nextW)
def w__law_least_lots : List Sl → (PyData → Prop) → Prop := bodyW
    (seqW (setW [] 1 (newM (lstN nilW)))
    (seqW (forW (itemsA (varW 0)) (bindW 2) b__law_least_lots_1)
    (retW [1] (cbW tupleW (consW (newW (sortAN (varW 1))) nilW))))) 4
def b__law_meetings_1 : WS :=
    (ifW [] (testW (opW eqBW (newW (lcN [4] (itemsA (varW 0)) (bindW 4) (testW (opW eqBW (newW (lcN [5] (itemsA (varW 3)) (bindW 5) (testW (opW (inXW false) (varW 5) (varW 4))) (varW 5))) (newW (lstN nilW)))) (varW 4))) (newW (lstN nilW))))
    (appW [] 2 (varW 3))
    nextW)
def w__law_meetings : List Sl → (PyData → Prop) → Prop := bodyW
    (seqW (setW [] 2 (newM (lstN nilW)))
    (seqW (forW (itemsA (callW 1 w__law_sublots (avarW 1 anilW))) (bindW 3) b__law_meetings_1)
    (retW [2] (callW 1 w__law_least_lots (avarW 2 anilW))))) 6
def w__law_right : List Sl → (PyData → Prop) → Prop := bodyW
    (seqW (setW [] 1 (datM (callW 1 w__law_drawn_pairs (avarW 0 anilW))))
    (seqW (setW [] 2 (datM (callW 2 w__law_drawn_lots (avarW 0 (avarW 1 anilW)))))
    (seqW (setW [] 3 (datM (newW (lcN [4] (itemsA (varW 1)) (bindW 4) (testW (opW neBW (newW (lcN [5] (itemsA (varW 2)) (bindW 5) (testW (opW (inXW false) (varW 4) (varW 5))) (varW 5))) (newW (lstN nilW)))) (varW 4)))))
    (seqW (setW [] 6 (datM (callW 1 w_meeting_lots (avarW 2 anilW))))
    (retW [] (andV (opW eqBW (varW 6) (callW 2 w__law_meetings (avarW 2 (avarW 3 anilW)))) (opW eqBW (callW 1 w_meeting_lots (avarW 6 anilW)) (callW 1 w__law_least_lots (avarW 2 anilW))))))))) 7
def b_law_1 : WS :=
    (ifW [] (notT (testW (callW 1 w__law_right (avarW 2 anilW))))
    (retW [] (cW (.bool false)))
    nextW)
def b_law_2 : WS :=
    (seqW (setW [] 2 (newBagM 0 1))
    (forRW [] (range1I (consW (cW (.int 3)) nilW)) (bindW 3) b_law_1))
def w_law : List Sl → (PyData → Prop) → Prop := bodyW
    (seqW (forRW [] (range1I (consW (cbW max2W (consW (cW (.int 1)) (consW (cbW min2W (consW (cW (.int 3)) (consW (cbW lenAW (consW (varW 0) nilW)) nilW))) nilW))) nilW)) (bindW 1) b_law_2)
    (seqW (set3W [] 4 5 6 (datM (tupW (consW (cW (.str "a")) (consW (cW (.str "b")) nilW)))) (datM (tupW (consW (cW (.str "a")) (consW (cW (.str "c")) nilW)))) (datM (tupW (consW (cW (.str "a")) (consW (cW (.str "d")) nilW)))))
    (seqW (setW [] 7 (datM (newW (lstN (consW (callW 1 w_meeting_lots (aconsW (tupW nilW) anilW)) (consW (callW 1 w_meeting_lots (aconsW (tupW (consW (tupW nilW) nilW)) anilW)) (consW (callW 1 w_meeting_lots (aconsW (tupW (consW (tupW nilW) (consW (tupW (consW (varW 4) nilW)) nilW))) anilW)) (consW (callW 1 w_meeting_lots (aconsW (tupW (consW (tupW (consW (varW 4) nilW)) (consW (tupW (consW (varW 4) (consW (varW 5) nilW))) (consW (tupW (consW (varW 5) (consW (varW 6) nilW))) nilW)))) anilW)) nilW))))))))
    (retW [] (opW eqBW (varW 7) (newW (lstN (consW (tupW (consW (tupW nilW) nilW)) (consW (tupW nilW) (consW (tupW nilW) (consW (tupW (consW (tupW (consW (varW 4) (consW (varW 5) nilW))) (consW (tupW (consW (varW 4) (consW (varW 6) nilW))) nilW))) nilW))))))))))) 8
end Lw
namespace Lw
open PySem DL FSt Mx
variable [CTab]
theorem all_map {α : Type} {l : List α} {f : α → Bool} {P : PyData → Prop} (h : P (.bool (l.all f))) : allW [.list (l.map fun x => .bool (f x))] P := by
  refine ⟨l.map f, by rw [List.map_map]; rfl, ?_⟩
  rw [List.all_map]
  exact h
theorem is_name_w {d : PyData} {P : PyData → Prop} (hl : ∀ s, d = .str s → s.length ≤ 100000) (h : P (.bool (okName d))) : w_is_name [.dat d] P := by
  unfold w_is_name
  try simp only [wv1, wv2, wv3, wv4, wv5, wv6, wv7, wv8, Nat.reduceSub, Nat.reduceAdd, reduceCtorEq, ↓reduceIte, Nat.reduceLeDiff, Nat.reduceLT, implies_true]
  cases d with
  | str s =>
    have hs := hl s rfl
    try simp only [wv1, wv2, wv3, wv4, wv5, wv6, wv7, wv8, Nat.reduceSub, Nat.reduceAdd, reduceCtorEq, ↓reduceIte, Nat.reduceLeDiff, Nat.reduceLT, implies_true, isStr]
    refine len_str hs ?_
    have h : P (.bool ((decide (1 ≤ (s.length : Int)) && decide ((s.length : Int) ≤ 4)) && s.cps.toList.all isLett)) := h
    try simp only [wv1, wv2, wv3, wv4, wv5, wv6, wv7, wv8, Nat.reduceSub, Nat.reduceAdd, reduceCtorEq, ↓reduceIte, Nat.reduceLeDiff, Nat.reduceLT, implies_true]
    cases e1 : decide (1 ≤ (s.length : Int)) with
    | false => rw [e1] at h; simpa using h
    | true =>
      rw [e1] at h
      try simp only [wv1, wv2, wv3, wv4, wv5, wv6, wv7, wv8, Nat.reduceSub, Nat.reduceAdd, reduceCtorEq, ↓reduceIte, Nat.reduceLeDiff, Nat.reduceLT, implies_true]
      cases e2 : decide ((s.length : Int) ≤ 4) with
      | false => rw [e2] at h; simpa using h
      | true =>
        rw [e2] at h
        try simp only [wv1, wv2, wv3, wv4, wv5, wv6, wv7, wv8, Nat.reduceSub, Nat.reduceAdd, reduceCtorEq, ↓reduceIte, Nat.reduceLeDiff, Nat.reduceLT, implies_true]
        refine ⟨?_, cmp_map (fun d => match d with | .str ⟨cs⟩ => .bool (cs.toList.all isLett) | _ => .none) (fun d hd R hR => ?_) ?_⟩
        · rw [List.length_map]
          exact hs
        · obtain ⟨c, _, rfl⟩ := List.mem_map.mp hd
          try simp only [wv1, wv2, wv3, wv4, wv5, wv6, wv7, wv8, Nat.reduceSub, Nat.reduceAdd, reduceCtorEq, ↓reduceIte, Nat.reduceLeDiff, Nat.reduceLT, implies_true]
          refine in_sign ?_
          simpa [isLett, LETT] using hR
        · try simp only [wv1, wv2, wv3, wv4, wv5, wv6, wv7, wv8, Nat.reduceSub, Nat.reduceAdd, reduceCtorEq, ↓reduceIte, Nat.reduceLeDiff, Nat.reduceLT, implies_true]
          rw [List.map_map]
          have : ((fun d => match d with | .str ⟨cs⟩ => PyData.bool (cs.toList.all isLett) | _ => .none) ∘ fun c => PyData.str ⟨#[c]⟩) = fun c => .bool (isLett c) := funext fun c => by simp
          rw [this]
          refine all_map ?_
          simpa using h
  | bool b => exact h
  | none => exact h
  | int _ => exact h
  | list _ => exact h
  | tuple _ => exact h
  | dict _ => exact h
theorem are_names_w {ds : List PyData} {P : PyData → Prop} (hn : ds.length ≤ 100000) (hl : ∀ s, .str s ∈ ds → s.length ≤ 100000) (h : P (.bool (ds.all okName))) : w_are_names [.dat (.tuple ds)] P := by
  unfold w_are_names
  try simp only [wv1, wv2, wv3, wv4, wv5, wv6, wv7, wv8, Nat.reduceSub, Nat.reduceAdd, reduceCtorEq, ↓reduceIte, Nat.reduceLeDiff, Nat.reduceLT, implies_true, isTup]
  refine ⟨hn, cmp_map (fun d => .bool (okName d)) (fun d hd R hR => ?_) ?_⟩
  · try simp only [wv1, wv2, wv3, wv4, wv5, wv6, wv7, wv8, Nat.reduceSub, Nat.reduceAdd, reduceCtorEq, ↓reduceIte, Nat.reduceLeDiff, Nat.reduceLT, implies_true]
    exact is_name_w (fun s e => hl s (e ▸ hd)) hR
  · try simp only [wv1, wv2, wv3, wv4, wv5, wv6, wv7, wv8, Nat.reduceSub, Nat.reduceAdd, reduceCtorEq, ↓reduceIte, Nat.reduceLeDiff, Nat.reduceLT, implies_true]
    exact all_map h
theorem zip_pairs (ss ts : List Str) : zipD (ss.map .str) (ts.map .str) = (ss.zip ts).map fun p => .tuple [.str p.1, .str p.2] := by
  unfold zipD
  rw [List.zipWith_map, List.zip, List.map_zipWith]
theorem is_ascending_w {ss : List Str} {P : PyData → Prop} (hn : ss.length ≤ 100000) (h : P (.bool (ascS ss))) : w_is_ascending [.dat (.tuple (ss.map .str))] P := by
  unfold w_is_ascending
  try simp only [wv1, wv2, wv3, wv4, wv5, wv6, wv7, wv8, Nat.reduceSub, Nat.reduceAdd, reduceCtorEq, ↓reduceIte, Nat.reduceLeDiff, Nat.reduceLT, implies_true]
  rw [show ((1 : Int)) = ((1 : Nat) : Int) from rfl, cutG_from, ← List.map_drop, zip_pairs]
  refine ⟨?_, cmp_map (fun d => match d with | .tuple [.str a, .str b] => .bool (ltS a b) | _ => .none) (fun d hd R hR => ?_) ?_⟩
  · rw [List.length_map, List.length_zip]
    omega
  · obtain ⟨p, _, rfl⟩ := List.mem_map.mp hd
    try simp only [wv1, wv2, wv3, wv4, wv5, wv6, wv7, wv8, Nat.reduceSub, Nat.reduceAdd, reduceCtorEq, ↓reduceIte, Nat.reduceLeDiff, Nat.reduceLT, implies_true]
    exact hR
  · try simp only [wv1, wv2, wv3, wv4, wv5, wv6, wv7, wv8, Nat.reduceSub, Nat.reduceAdd, reduceCtorEq, ↓reduceIte, Nat.reduceLeDiff, Nat.reduceLT, implies_true]
    rw [List.map_map]
    exact all_map (f := fun p : Str × Str => ltS p.1 p.2) h
theorem is_lot_w {ss : List Str} {P : PyData → Prop} (hn : ss.length ≤ 100000) (hl : ∀ s ∈ ss, s.length ≤ 100000) (h : P (.bool ((ss.map PyData.str).all okName && ascS ss))) : w_is_lot [.dat (.tuple (ss.map .str))] P := by
  unfold w_is_lot
  try simp only [wv1, wv2, wv3, wv4, wv5, wv6, wv7, wv8, Nat.reduceSub, Nat.reduceAdd, reduceCtorEq, ↓reduceIte, Nat.reduceLeDiff, Nat.reduceLT, implies_true]
  refine are_names_w (by rwa [List.length_map]) (fun s hs => ?_) ?_
  · obtain ⟨t, ht, e⟩ := List.mem_map.mp hs
    cases e
    exact hl s ht
  · cases e : (ss.map PyData.str).all okName with
    | false => rw [e] at h; exact h
    | true =>
      rw [e, Bool.true_and] at h
      try simp only [wv1, wv2, wv3, wv4, wv5, wv6, wv7, wv8, Nat.reduceSub, Nat.reduceAdd, reduceCtorEq, ↓reduceIte, Nat.reduceLeDiff, Nat.reduceLT, implies_true]
      exact is_ascending_w hn h
theorem is_pair_w {a b : Str} {P : PyData → Prop} (ha : a.length ≤ 100000) (hb : b.length ≤ 100000) (h : P (.bool ((okName (.str a) && okName (.str b)) && ltS a b))) : w_is_pair [.dat (.tuple [.str a, .str b])] P := by
  unfold w_is_pair
  try simp only [wv1, wv2, wv3, wv4, wv5, wv6, wv7, wv8, Nat.reduceSub, Nat.reduceAdd, reduceCtorEq, ↓reduceIte, Nat.reduceLeDiff, Nat.reduceLT, implies_true]
  refine is_lot_w (ss := [a, b]) (show 2 ≤ 100000 by decide) (fun s hs => ?_) ?_
  · simp only [List.mem_cons, List.not_mem_nil, or_false] at hs
    rcases hs with rfl | rfl <;> assumption
  · have e : (([a, b].map PyData.str).all okName && ascS [a, b]) = ((okName (.str a) && okName (.str b)) && ltS a b) := by simp [ascS]
    rw [e]
    cases c : ((okName (.str a) && okName (.str b)) && ltS a b) with
    | false => rw [c] at h; exact h
    | true => rw [c] at h; exact h
end Lw
namespace Lw
open PySem DL FSt Mx
variable [CTab]
structure Pins (ps : List Str) : Prop where
  nm : ∀ p ∈ ps, okName (.str p) = true
  nd : ps.Nodup
  l1 : 1 ≤ ps.length
  l8 : ps.length ≤ 8
def pairsR : List Str → List (Str × Str)
  | [] => []
  | p :: ps => ps.map (fun q => (p, q)) ++ pairsR ps
theorem pairsR_mem : ∀ {ps : List Str} {r : Str × Str}, r ∈ pairsR ps → r.1 ∈ ps ∧ r.2 ∈ ps
  | p :: ps, r, h => by
    rcases List.mem_append.mp h with h | h
    · obtain ⟨q, hq, rfl⟩ := List.mem_map.mp h
      exact ⟨List.mem_cons_self, List.mem_cons_of_mem _ hq⟩
    · have := pairsR_mem h
      exact ⟨List.mem_cons_of_mem _ this.1, List.mem_cons_of_mem _ this.2⟩
theorem pairsR_lt : ∀ {ps : List Str}, ps.Pairwise (fun a b => ltS a b = true) → ∀ {r : Str × Str}, r ∈ pairsR ps → ltS r.1 r.2 = true
  | p :: ps, h, r, hr => by
    have h' := List.pairwise_cons.mp h
    rcases List.mem_append.mp hr with hr | hr
    · obtain ⟨q, hq, rfl⟩ := List.mem_map.mp hr
      exact h'.1 q hq
    · exact pairsR_lt h'.2 hr
theorem pairsR_nodup : ∀ {ps : List Str}, ps.Nodup → (pairsR ps).Nodup
  | [], _ => List.nodup_nil
  | p :: ps, h => by
    have h' := List.nodup_cons.mp h
    refine List.nodup_append.mpr ⟨List.Pairwise.map _ (fun a b hne e => hne (congrArg Prod.snd e)) h'.2, pairsR_nodup h'.2, fun x hx y hy e => ?_⟩
    obtain ⟨q, _, rfl⟩ := List.mem_map.mp hx
    subst e
    exact h'.1 (pairsR_mem hy).1
theorem pairsR_pw : ∀ {ps : List Str}, ps.Pairwise (fun a b => ltS a b = true) → (pairsR ps).Pairwise fun a b => dle (prT a) (prT b) = true
  | [], _ => List.Pairwise.nil
  | p :: ps, h => by
    have h' := List.pairwise_cons.mp h
    refine List.pairwise_append.mpr ⟨List.pairwise_map.mpr (h'.2.imp fun {a b} hab => ?_), pairsR_pw h'.2, fun x hx y hy => ?_⟩
    · rw [dle_prT, if_pos rfl, if_neg (ltS_ne hab)]
      exact dle_of_lt hab
    · obtain ⟨q, _, rfl⟩ := List.mem_map.mp hx
      have hlt := h'.1 _ (pairsR_mem hy).1
      rw [dle_prT, if_neg (ltS_ne hlt)]
      exact dle_of_lt hlt
theorem enum_strs (ps : List Str) : enumD (ps.map .str) = (ps.zipIdx).map fun p => .tuple [.int ((p.2 : Nat) : Int), .str p.1] := by
  unfold enumD zipD
  refine List.ext_getElem (by simp) fun i h1 h2 => ?_
  simp
theorem Pins.sorted {ps : List Str} (h : Pins ps) : Pins (sortS ps) := ⟨fun p hp => h.nm p (sortS_mem.mp hp), sortS_nodup h.nd, by rw [sortS_len]; exact h.l1, by rw [sortS_len]; exact h.l8⟩
def retEnds (P : PyData → Prop) (nx : WEnv → Prop) : WD := { nx := nx, rt := P, bk := fun _ => False, ct := fun _ => False }
theorem okName_strOk {s : Str} (h : okName (.str s) = true) : PyData.strOk s = true := by
  have h : ((decide (1 ≤ (s.length : Int)) && decide ((s.length : Int) ≤ 4)) && s.cps.toList.all isLett) = true := h
  rw [Bool.and_eq_true] at h
  rw [strOk_iff]
  intro c hc
  have h1 : c ∈ LETT.cps.toList := of_decide_eq_true (List.all_eq_true.mp h.2 c hc)
  exact List.all_eq_true.mp (by decide +kernel : (LETT.cps.toList.all fun c => decide (c < 0x110000)) = true) c h1 |> of_decide_eq_true
theorem nat_log {n : Nat} (h : n ≤ 100000) : ((n : Int)).natAbs.log2 < 1000 := PySem.Flt.log2_lt_of (by decide) (by
  rw [Int.natAbs_natCast]
  have : 100000 < 2 ^ (1000 : Nat) := by decide
  omega)
theorem one_of_w {v : PyData} {ds : List PyData} {P : PyData → Prop} (hv : v = .list ds ∨ v = .tuple ds) (hne : ds ≠ []) (hl : ds.length ≤ 100000) (h : ∀ d ∈ ds, P d) : w__law_one_of [.bag, .dat v] P := by
  have hp : 0 < ds.length := List.length_pos_iff.mpr hne
  unfold w__law_one_of
  rcases hv with rfl | rfl
  · try simp only [wv1, wv2, wv3, wv4, wv5, wv6, wv7, wv8, Nat.reduceSub, Nat.reduceAdd, reduceCtorEq, ↓reduceIte, Nat.reduceLeDiff, Nat.reduceLT, implies_true]
    refine ⟨by omega, nat_log hl, fun i h0 h1 => ?_⟩
    obtain ⟨j, rfl⟩ := Int.eq_ofNat_of_zero_le h0
    have hj : j < ds.length := by omega
    exact ⟨ds[j], L2.atI_nat (List.getElem?_eq_getElem hj), h _ (List.getElem_mem hj)⟩
  · try simp only [wv1, wv2, wv3, wv4, wv5, wv6, wv7, wv8, Nat.reduceSub, Nat.reduceAdd, reduceCtorEq, ↓reduceIte, Nat.reduceLeDiff, Nat.reduceLT, implies_true]
    refine ⟨by omega, nat_log hl, fun i h0 h1 => ?_⟩
    obtain ⟨j, rfl⟩ := Int.eq_ofNat_of_zero_le h0
    have hj : j < ds.length := by omega
    exact ⟨ds[j], L2.atI_nat (List.getElem?_eq_getElem hj), h _ (List.getElem_mem hj)⟩
theorem erase_perm {α : Type} : ∀ {l : List α} {j : Nat} (hj : j < l.length), (l[j] :: l.eraseIdx j).Perm l
  | x :: l, 0, _ => List.Perm.refl _
  | x :: l, j + 1, hj => (List.Perm.swap x (l[j]'(by simpa using hj)) (l.eraseIdx j)).trans (List.Perm.cons x (erase_perm (by simpa using hj)))
theorem pops_perm {d1 : PyData} {Q : List PyData → Prop} : ∀ (ds ws acc : List PyData) (s3 : Option Sl), ws.length = ds.length → ws.length ≤ 1000 → (∀ es : List PyData, es.Perm ws → Q (acc ++ es)) →
    popsW 2 [3] (bindW 3) (callW 2 w__law_draw (avarW 0 (aconsW (cbW lenAW (consW (varW 2) nilW)) anilW))) ds [some .bag, some (.dat d1), some (.own ws), s3] acc Q
  | [], ws, acc, s3, hl, _, h => by
    obtain rfl : ws = [] := List.length_eq_zero_iff.mp hl
    have := h [] (List.Perm.refl _)
    rw [List.append_nil] at this
    exact this
  | d :: ds, ws, acc, s3, hl, hb, h => by
    rw [List.length_cons] at hl
    unfold popsW
    try simp only [wv1, wv2, wv3, wv4, wv5, wv6, wv7, wv8, Nat.reduceSub, Nat.reduceAdd, reduceCtorEq, ↓reduceIte, Nat.reduceLeDiff, Nat.reduceLT, implies_true]
    refine ⟨by omega, nat_log (by omega), fun i h0 h1 => ?_⟩
    obtain ⟨j, rfl⟩ := Int.eq_ofNat_of_zero_le h0
    have hj : j < ws.length := by omega
    refine ⟨by omega, j, rfl, ws[j], List.getElem?_eq_getElem hj, ?_⟩
    refine pops_perm ds (ws.eraseIdx j) (acc ++ [ws[j]]) none (by rw [List.length_eraseIdx_of_lt hj]; omega) (by rw [List.length_eraseIdx_of_lt hj]; omega) fun es he => ?_
    have := h (ws[j] :: es) ((List.Perm.cons _ he).trans (erase_perm hj))
    rw [List.append_assoc]
    exact this
theorem shuffled_w {v : PyData} {ds : List PyData} {P : PyData → Prop} (hv : v = .list ds ∨ v = .tuple ds) (hl : ds.length ≤ 1000) (h : ∀ es : List PyData, es.Perm ds → P (.list es)) : w__law_shuffled [.bag, .dat v] P := by
  unfold w__law_shuffled
  have e : rangeD 0 ((ds.length : Nat) : Int) = (List.range' 0 ds.length).map fun (j : Nat) => .int (j : Int) := rangeD_nat _
  rcases hv with rfl | rfl
  · try simp only [wv1, wv2, wv3, wv4, wv5, wv6, wv7, wv8, Nat.reduceSub, Nat.reduceAdd, reduceCtorEq, ↓reduceIte, Nat.reduceLeDiff, Nat.reduceLT, implies_true, retPopW]
    rw [e]
    refine ⟨by omega, by omega, by rw [List.length_map, List.length_range']; omega, ?_⟩
    refine pops_perm _ ds [] _ (by rw [List.length_map, List.length_range']) (by omega) fun es he => ?_
    exact h es he
  · try simp only [wv1, wv2, wv3, wv4, wv5, wv6, wv7, wv8, Nat.reduceSub, Nat.reduceAdd, reduceCtorEq, ↓reduceIte, Nat.reduceLeDiff, Nat.reduceLT, implies_true, retPopW]
    rw [e]
    refine ⟨by omega, by omega, by rw [List.length_map, List.length_range']; omega, ?_⟩
    refine pops_perm _ ds [] _ (by rw [List.length_map, List.length_range']) (by omega) fun es he => ?_
    exact h es he
theorem perm_strs {es : List PyData} {base : List Str} (h : es.Perm (base.map .str)) : ∃ ss : List Str, es = ss.map .str ∧ ss.Perm base := by
  refine ⟨es.map strOf, ?_, ?_⟩
  · rw [List.map_map]
    refine (List.map_id'' (fun _ => rfl) es).symm.trans (List.map_congr_left fun d hd => ?_)
    obtain ⟨s, _, rfl⟩ := List.mem_map.mp (h.mem_iff.mp hd)
    rfl
  · have := h.map strOf
    rwa [strs_map] at this
def names_rest : WS := (seqW (ifW [] (testW (opW gtW (varW 1) (cbW lenAW (consW (varW 2) nilW))))
    (setW [] 2 (datM (opW addW (varW 2) (newW (lstN (consW (cW (.str "ya")) (consW (cW (.str "yb")) (consW (cW (.str "yc")) (consW (cW (.str "yd")) (consW (cW (.str "ye")) (consW (cW (.str "yf")) nilW)))))))))))
    nextW)
    (retW [] (slW (callW 2 w__law_shuffled (avarW 0 (avarW 2 anilW))) noO (someO (varW 1)))))
theorem names_rest_w {W : WD} {n : Nat} {base : List Str} (hn : n ≤ base.length) (h1 : 1 ≤ n) (h8 : n ≤ 8) (hb : base.length ≤ 1000) (ho : ∀ s ∈ base, okName (.str s) = true) (hd : base.Nodup)
    (h : ∀ ss : List Str, Pins ss → ss.length = n → W.rt (.list (ss.map .str))) : names_rest W [some .bag, some (.dat (.int (n : Int))), some (.dat (.list (base.map .str)))] := by
  unfold names_rest
  try simp only [wv1, wv2, wv3, wv4, wv5, wv6, wv7, wv8, Nat.reduceSub, Nat.reduceAdd, reduceCtorEq, ↓reduceIte, Nat.reduceLeDiff, Nat.reduceLT, implies_true]
  rw [List.length_map, decide_eq_false (by omega)]
  try simp only [wv1, wv2, wv3, wv4, wv5, wv6, wv7, wv8, Nat.reduceSub, Nat.reduceAdd, reduceCtorEq, ↓reduceIte, Nat.reduceLeDiff, Nat.reduceLT, implies_true]
  refine shuffled_w (.inl rfl) (by rw [List.length_map]; exact hb) fun es he => ?_
  obtain ⟨ss, rfl, hp⟩ := perm_strs he
  try simp only [wv1, wv2, wv3, wv4, wv5, wv6, wv7, wv8, Nat.reduceSub, Nat.reduceAdd, reduceCtorEq, ↓reduceIte, Nat.reduceLeDiff, Nat.reduceLT, implies_true]
  rw [cutG_to, ← List.map_take]
  have hl : (ss.take n).length = n := by
    rw [List.length_take, hp.length_eq]
    omega
  exact h _ ⟨fun p hp' => ho p (hp.mem_iff.mp (List.mem_of_mem_take hp')), (List.take_sublist _ _).nodup (hp.nodup_iff.mpr hd), by omega, by omega⟩ hl
def B8 : List Str := ["a", "b", "c", "d", "e", "f", "g", "h"]
def B14 : List Str := ["a", "aa", "ab", "b", "ba", "c", "mast", "p", "q", "y", "z", "zz", "zzz", "zzzz"]
theorem law_names_eq : w__law_names = bodyW (seqW (setW [] 2 (datM (newW (lstN (consW (cW (.str "a")) (consW (cW (.str "b")) (consW (cW (.str "c")) (consW (cW (.str "d")) (consW (cW (.str "e")) (consW (cW (.str "f")) (consW (cW (.str "g")) (consW (cW (.str "h")) nilW))))))))))))
    (seqW (ifW [] (testW (opW eqBW (callW 2 w__law_draw (avarW 0 (aconsW (cW (.int 3)) anilW))) (cW (.int 0))))
    (setW [] 2 (datM (newW (lstN (consW (cW (.str "a")) (consW (cW (.str "aa")) (consW (cW (.str "ab")) (consW (cW (.str "b")) (consW (cW (.str "ba")) (consW (cW (.str "c")) (consW (cW (.str "mast")) (consW (cW (.str "p")) (consW (cW (.str "q")) (consW (cW (.str "y")) (consW (cW (.str "z")) (consW (cW (.str "zz")) (consW (cW (.str "zzz")) (consW (cW (.str "zzzz")) nilW))))))))))))))))))
    nextW) names_rest)) 3 := rfl
theorem names_w {n : Nat} {P : PyData → Prop} (h1 : 1 ≤ n) (h8 : n ≤ 8) (h : ∀ ss : List Str, Pins ss → ss.length = n → P (.list (ss.map .str))) : w__law_names [.bag, .dat (.int (n : Int))] P := by
  rw [law_names_eq]
  try simp only [wv1, wv2, wv3, wv4, wv5, wv6, wv7, wv8, Nat.reduceSub, Nat.reduceAdd, reduceCtorEq, ↓reduceIte, Nat.reduceLeDiff, Nat.reduceLT, implies_true]
  refine ⟨by decide, by decide, fun i _ _ => ?_⟩
  cases c : decide (i = 0) with
  | true =>
    try simp only [wv1, wv2, wv3, wv4, wv5, wv6, wv7, wv8, Nat.reduceSub, Nat.reduceAdd, reduceCtorEq, ↓reduceIte, Nat.reduceLeDiff, Nat.reduceLT, implies_true]
    exact names_rest_w (base := B14) (by show n ≤ 14; omega) h1 h8 (by decide) (List.all_eq_true.mp (by decide +kernel : (B14.all fun s => okName (.str s)) = true)) (by decide +kernel) h
  | false =>
    try simp only [wv1, wv2, wv3, wv4, wv5, wv6, wv7, wv8, Nat.reduceSub, Nat.reduceAdd, reduceCtorEq, ↓reduceIte, Nat.reduceLeDiff, Nat.reduceLT, implies_true]
    exact names_rest_w (base := B8) (by show n ≤ 8; omega) h1 h8 (by decide) (List.all_eq_true.mp (by decide +kernel : (B8.all fun s => okName (.str s)) = true)) (by decide +kernel) h
theorem shaped_prT {k : Str × Str} (h1 : okName (.str k.1) = true) (h2 : okName (.str k.2) = true) : SeqAt.shaped (prT k) = true ∧ (prT k).canLay0 = true := by
  have o1 := okName_strOk h1
  have o2 := okName_strOk h2
  have c : ∀ d ∈ [PyData.str k.1, .str k.2], d.canLay0 = true ∧ d.depth ≤ 60 := fun d hd => by
    simp only [List.mem_cons, List.not_mem_nil, or_false] at hd
    rcases hd with rfl | rfl
    · exact ⟨by simpa only [PyData.canLay0] using o1, by simp [PyData.depth]⟩
    · exact ⟨by simpa only [PyData.canLay0] using o2, by simp [PyData.depth]⟩
  have s : SeqAt.shaped (prT k) = true := shaped_tuple c
  exact ⟨s, SeqAt.canLay_of_shaped s⟩
theorem sortP_pw (rs : List (Str × Str)) : (sortP rs).Pairwise fun a b => dle (prT a) (prT b) = true :=
  List.pairwise_mergeSort (le := fun a b : Str × Str => dle (prT a) (prT b)) (fun _ _ _ h1 h2 => dle_trans h1 h2) (fun a b => dle_total (prT a) (prT b)) rs
theorem seqB_prs {rs : List (Str × Str)} (h : ∀ r ∈ rs, okName (.str r.1) = true ∧ okName (.str r.2) = true) : SeqAt.shaped (.list (rs.map prT)) = true := shaped_list fun d hd => by
  obtain ⟨r, hr, rfl⟩ := List.mem_map.mp hd
  have := h r hr
  exact ⟨(shaped_prT this.1 this.2).2, by simp [prT, PyData.depth, PyData.depthAll]⟩
theorem any_prs (rs : List (Str × Str)) (k : Str × Str) : ((rs.map prT).any fun y => PyData.eqv y (prT k)) = decide (k ∈ rs) := by
  rw [List.any_map, Bool.eq_iff_iff, List.any_eq_true, decide_eq_true_iff]
  constructor
  · rintro ⟨r, hr, e⟩
    have : PyData.eqv (prT r) (prT k) = true := e
    rw [eqv_prT, decide_eq_true_iff] at this
    rw [← this]
    exact hr
  · exact fun hk => ⟨k, hk, by
      show PyData.eqv (prT k) (prT k) = true
      rw [eqv_prT, decide_eq_true_iff]⟩
theorem sortP_perm (R : List (Str × Str)) : (sortP R).Perm R := List.mergeSort_perm _ _
theorem sortP_mem {R : List (Str × Str)} {r : Str × Str} : r ∈ sortP R ↔ r ∈ R := (sortP_perm R).mem_iff
theorem nodup_sub {α : Type} [DecidableEq α] : ∀ {L U : List α}, L.Nodup → (∀ x ∈ L, x ∈ U) → L.length ≤ U.length
  | [], U, _, _ => Nat.zero_le _
  | x :: L, U, hn, h => by
    have hx := h x List.mem_cons_self
    obtain ⟨h1, h2⟩ := List.nodup_cons.mp hn
    have := nodup_sub (U := U.erase x) h2 fun y hy => (List.mem_erase_of_ne (fun e : y = x => h1 (by rw [← e]; exact hy))).mpr (h y (List.mem_cons_of_mem _ hy))
    rw [List.length_erase_of_mem hx] at this
    have : 0 < U.length := List.length_pos_of_mem hx
    rw [List.length_cons]
    omega
theorem apairs_turns {W : WD} {ps : List Str} {s0 : Option Sl} (hps : ps.length ≤ 100) : ∀ (suf pre : List Str) (acc : List PyData) (s3 s4 s5 : Option Sl), ps = pre ++ suf → acc.length + suf.length * suf.length ≤ 100000 →
    (∀ s3 s4 s5 : Option Sl, W.nx [s0, some (.dat (.list (acc ++ (pairsR suf).map prT))), some (.dat (.list (ps.map .str))), s3, s4, s5]) →
    loopW (bindsW [3, 4]) b__law_all_pairs_1 W ((suf.zipIdx pre.length).map fun x => .tuple [.int ((x.2 : Nat) : Int), .str x.1]) [s0, some (.dat (.list acc)), some (.dat (.list (ps.map .str))), s3, s4, s5]
  | [], pre, acc, s3, s4, s5, _, _, h => by
    have := h s3 s4 s5
    rw [show (pairsR ([] : List Str)).map prT = [] from rfl, List.append_nil] at this
    exact this
  | p :: suf, pre, acc, s3, s4, s5, e, hl, h => by
    rw [List.length_cons, Nat.succ_mul, Nat.mul_succ] at hl
    rw [List.zipIdx_cons, List.map_cons, loop_cons]
    have ih := fun s5 => apairs_turns (W := W) (s0 := s0) hps suf (pre ++ [p]) (acc ++ suf.map fun q => prT (p, q)) (some (.dat (.int ((pre.length : Nat) : Int)))) (some (.dat (.str p))) s5 (by rw [e, List.append_assoc]; rfl) (by rw [List.length_append, List.length_map]; omega) (fun s3 s4 s5 => by
      have := h s3 s4 s5
      rw [show (pairsR (p :: suf)).map prT = (suf.map fun q => prT (p, q)) ++ (pairsR suf).map prT by rw [pairsR, List.map_append, List.map_map]; rfl, ← List.append_assoc] at this
      exact this)
    rw [List.length_append, show ([p] : List Str).length = 1 from rfl] at ih
    generalize loopW (bindsW [3, 4]) b__law_all_pairs_1 W ((suf.zipIdx (pre.length + 1)).map fun x => .tuple [.int ((x.2 : Nat) : Int), .str x.1]) = L at ih ⊢
    try simp only [wv1, wv2, wv3, wv4, wv5, wv6, wv7, wv8, Nat.reduceSub, Nat.reduceAdd, reduceCtorEq, ↓reduceIte, Nat.reduceLeDiff, Nat.reduceLT, implies_true, b__law_all_pairs_1]
    rw [show ((pre.length : Nat) : Int) + 1 = ((pre.length + 1 : Nat) : Int) by omega, cutG_from, ← List.map_drop, show ps.drop (pre.length + 1) = suf by rw [e]; simp]
    refine ⟨by rw [List.length_map]; omega, cmp_map (fun d => match d with | .str q => prT (p, q) | _ => .none) (fun d hd R hR => ?_) ?_⟩
    · obtain ⟨q, _, rfl⟩ := List.mem_map.mp hd
      try simp only [wv1, wv2, wv3, wv4, wv5, wv6, wv7, wv8, Nat.reduceSub, Nat.reduceAdd, reduceCtorEq, ↓reduceIte, Nat.reduceLeDiff, Nat.reduceLT, implies_true]
      exact hR
    · try simp only [wv1, wv2, wv3, wv4, wv5, wv6, wv7, wv8, Nat.reduceSub, Nat.reduceAdd, reduceCtorEq, ↓reduceIte, Nat.reduceLeDiff, Nat.reduceLT, implies_true]
      rw [List.map_map]
      refine ⟨by rw [List.length_map]; omega, ?_⟩
      exact ih _
theorem law_all_pairs_w {v : PyData} {ss : List Str} {P : PyData → Prop} (hv : v = .list (ss.map .str) ∨ v = .tuple (ss.map .str)) (hl : ss.length ≤ 8) (h : P (.list ((pairsR (sortS ss)).map prT))) : w__law_all_pairs [.dat v] P := by
  have hm := Nat.mul_le_mul hl hl
  have key : ∀ s0 : Option Sl, loopW (bindsW [3, 4]) b__law_all_pairs_1 (retEnds P (retW [] (varW 1) (retEnds P fun _ => P .none))) (enumD ((sortS ss).map .str)) [s0, some (.dat (.list [])), some (.dat (.list ((sortS ss).map .str))), none, none, none] := fun s0 => by
    rw [enum_strs]
    refine apairs_turns (ps := sortS ss) (by rw [sortS_len]; omega) (sortS ss) [] [] none none none rfl (by rw [sortS_len, List.length_nil]; omega) fun s3 s4 s5 => ?_
    try simp only [wv1, wv2, wv3, wv4, wv5, wv6, wv7, wv8, Nat.reduceSub, Nat.reduceAdd, reduceCtorEq, ↓reduceIte, Nat.reduceLeDiff, Nat.reduceLT, implies_true, retEnds]
    exact h
  unfold w__law_all_pairs
  rcases hv with rfl | rfl
  · try simp only [wv1, wv2, wv3, wv4, wv5, wv6, wv7, wv8, Nat.reduceSub, Nat.reduceAdd, reduceCtorEq, ↓reduceIte, Nat.reduceLeDiff, Nat.reduceLT, implies_true]
    refine (sort_strs (by omega) ?_).1
    try simp only [wv1, wv2, wv3, wv4, wv5, wv6, wv7, wv8, Nat.reduceSub, Nat.reduceAdd, reduceCtorEq, ↓reduceIte, Nat.reduceLeDiff, Nat.reduceLT, implies_true]
    exact key _
  · try simp only [wv1, wv2, wv3, wv4, wv5, wv6, wv7, wv8, Nat.reduceSub, Nat.reduceAdd, reduceCtorEq, ↓reduceIte, Nat.reduceLeDiff, Nat.reduceLT, implies_true]
    refine (sort_strs (by omega) ?_).2
    try simp only [wv1, wv2, wv3, wv4, wv5, wv6, wv7, wv8, Nat.reduceSub, Nat.reduceAdd, reduceCtorEq, ↓reduceIte, Nat.reduceLeDiff, Nat.reduceLT, implies_true]
    exact key _
end Lw
namespace Lw
open PySem DL FSt Mx
variable [CTab]
def lT (X : List (Str × Str)) : PyData := .tuple (X.map prT)
theorem eqvs_prs : ∀ a b : List (Str × Str), PyData.eqvAll (a.map prT) (b.map prT) = decide (a = b)
  | [], [] => by simp [PyData.eqvAll]
  | [], _ :: _ => by simp [PyData.eqvAll]
  | _ :: _, [] => by simp [PyData.eqvAll]
  | a :: as, b :: bs => by
    rw [List.map_cons, List.map_cons, PyData.eqvAll, eqv_prT, eqvs_prs as bs]
    rw [Bool.eq_iff_iff]
    simp
theorem eqv_lT (a b : List (Str × Str)) : PyData.eqv (lT a) (lT b) = decide (a = b) := by
  show PyData.eqv (.tuple _) (.tuple _) = _
  rw [PyData.eqv, eqvs_prs]
theorem lT_inj {a b : List (Str × Str)} (h : lT a = lT b) : a = b := by
  have h1 := eqv_lT a b
  rw [h, eqv_lT b b, decide_eq_true rfl] at h1
  exact of_decide_eq_true h1.symm
theorem prT_inj {a b : Str × Str} (h : prT a = prT b) : a = b := by
  have h1 := eqv_prT a b
  rw [h, eqv_prT b b, decide_eq_true rfl] at h1
  exact of_decide_eq_true h1.symm
/-- names that are fit to be names -/
abbrev Nm (X : List (Str × Str)) : Prop := ∀ r ∈ X, okName (.str r.1) = true ∧ okName (.str r.2) = true
theorem depth_prs : ∀ X : List (Str × Str), PyData.depthAll (X.map prT) ≤ 2
  | [] => by simp [PyData.depthAll]
  | p :: X => by
    have ih := depth_prs X
    rw [List.map_cons, PyData.depthAll]
    have : (prT p).depth ≤ 2 := by simp [prT, PyData.depth, PyData.depthAll]
    omega
theorem depth_lT (X : List (Str × Str)) : (lT X).depth ≤ 3 := by
  have := depth_prs X
  show (PyData.tuple _).depth ≤ 3
  rw [PyData.depth]
  omega
theorem can_lT {X : List (Str × Str)} (h : Nm X) : (lT X).canLay0 = true := by
  have := SeqAt.canLay_of_shaped (seqB_prs h)
  show (PyData.tuple _).canLay0 = true
  simpa [PyData.canLay0] using this
theorem shaped_lT {X : List (Str × Str)} (h : Nm X) : SeqAt.shaped (lT X) = true := by
  unfold SeqAt.shaped
  rw [can_lT h, Bool.true_and]
  have := depth_lT X
  exact decide_eq_true (by omega)
theorem shaped_lots {L : List (List (Str × Str))} (h : ∀ X ∈ L, Nm X) : SeqAt.shaped (.list (L.map lT)) = true := shaped_list fun d hd => by
  obtain ⟨X, hX, rfl⟩ := List.mem_map.mp hd
  have := depth_lT X
  exact ⟨can_lT (h X hX), by omega⟩
theorem shaped_tl {ds : List PyData} (h : SeqAt.shaped (.list ds) = true) : SeqAt.shaped (.tuple ds) = true := by
  unfold SeqAt.shaped at h ⊢
  simpa [PyData.canLay0, PyData.depth] using h
theorem shaped_lotsT {L : List (List (Str × Str))} (h : ∀ X ∈ L, Nm X) : SeqAt.shaped (.tuple (L.map lT)) = true := shaped_tl (shaped_lots h)
def nkP (X : List (Str × Str)) : List NestedKey := X.map fun p => .tup [.text p.1, .text p.2]
theorem nkDs_prs : ∀ X : List (Str × Str), DL.nkTs (X.map prT) = some (nkP X)
  | [] => rfl
  | p :: X => by
    rw [List.map_cons, DL.nkTs, nkDs_prs X]
    rfl
theorem nkP_depth : ∀ X : List (Str × Str), NestedKey.depthAll (nkP X) ≤ 1
  | [] => by simp [nkP, NestedKey.depthAll]
  | p :: X => by
    have ih := nkP_depth X
    show NestedKey.depthAll (.tup [.text p.1, .text p.2] :: nkP X) ≤ 1
    rw [NestedKey.depthAll]
    have : (NestedKey.tup [.text p.1, .text p.2]).depth ≤ 1 := by simp [NestedKey.depth, NestedKey.depthAll]
    omega
theorem keyX_lT (X : List (Str × Str)) : keyX (lT X) = some (.t (nkP X)) := by
  show keyX (.tuple _) = _
  rw [keyX_tup (nkDs_prs X)]
  have := nkP_depth X
  rw [if_pos (by omega)]
theorem isTd_lT (X : List (Str × Str)) : isTd (lT X) = true := by
  unfold isTd
  rw [keyX_lT]
theorem alike_prT (a b : Str × Str) : PySem.W.alike (prT a) (prT b) = true := rfl
theorem alike_prs : ∀ a b : List (Str × Str), PySem.W.alikeAll (a.map prT) (b.map prT) = true
  | [], _ => by simp [PySem.W.alikeAll]
  | _ :: _, [] => by simp [PySem.W.alikeAll]
  | a :: as, b :: bs => by
    rw [List.map_cons, List.map_cons, PySem.W.alikeAll, alike_prT, alike_prs as bs]
    rfl
theorem alike_lT (a b : List (Str × Str)) : PySem.W.alike (lT a) (lT b) = true := by
  show PySem.W.alike (.tuple _) (.tuple _) = true
  rw [PySem.W.alike]
  exact alike_prs a b
theorem nk_prT (p : Str × Str) : (FSt.nkD (prT p)).isSome = true := rfl
theorem nk_lT (X : List (Str × Str)) : (FSt.nkD (lT X)).isSome = true := by
  show (FSt.nkD (.tuple _)).isSome = true
  rw [FSt.nkD, Option.isSome_map]
  exact nkSome fun d hd => by
    obtain ⟨p, _, rfl⟩ := List.mem_map.mp hd
    rfl
theorem srtX_lots (L : List (List (Str × Str))) : srtX (L.map lT) := by
  refine ⟨fun d hd e he => ?_, fun d hd => ?_, fun d hd => ?_⟩
  · obtain ⟨a, _, rfl⟩ := List.mem_map.mp hd
    obtain ⟨b, _, rfl⟩ := List.mem_map.mp he
    exact alike_lT a b
  · obtain ⟨a, _, rfl⟩ := List.mem_map.mp hd
    exact ⟨_, rfl⟩
  · obtain ⟨a, _, rfl⟩ := List.mem_map.mp hd
    have := depth_lT a
    exact ⟨by omega, nk_lT a⟩
theorem srtOk_lots {L : List (List (Str × Str))} (h : L.length ≤ 1 ∨ ∀ X ∈ L, X ≠ []) : srtOk (L.map lT) := by
  obtain ⟨h1, h2, h3⟩ := srtX_lots L
  refine ⟨h1, ?_, h3⟩
  rcases h with h | h
  · exact .inr (by rw [List.length_map]; exact h)
  · refine .inl (.inl fun d hd => ?_)
    obtain ⟨X, hX, rfl⟩ := List.mem_map.mp hd
    cases X with
    | nil => exact absurd rfl (h [] hX)
    | cons p X => exact ⟨_, _, rfl⟩
def ltP (a b : Str × Str) : Bool := PySem.W.dataLt (prT a) (prT b)
def ltL (a b : List (Str × Str)) : Bool := PySem.W.dataLt (lT a) (lT b)
theorem dlt_asym {a b : PyData} (h : PySem.W.dataLt a b = true) : PySem.W.dataLt b a = false := by
  have := dle_total a b
  rw [dle_def, dle_def, h] at this
  simpa using this
theorem dlt_trans {a b c : PyData} (hac : PySem.W.alike a c = true) (ha : (FSt.nkD a).isSome = true) (hc : (FSt.nkD c).isSome = true) (h1 : PySem.W.dataLt a b = true) (h2 : PySem.W.dataLt b c = true) : PySem.W.dataLt a c = true := by
  have l1 : dle a b = true := by rw [dle_def, dlt_asym h1]; rfl
  have l2 : dle b c = true := by rw [dle_def, dlt_asym h2]; rfl
  have l3 := dle_trans l1 l2
  rw [dle_def] at l3
  have l3 : PySem.W.dataLt c a = false := by simpa using l3
  cases q : PySem.W.dataLt a c with
  | true => rfl
  | false =>
    have e := dl_eq hac ha hc q l3
    subst e
    rw [dlt_asym h1] at h2
    cases h2
theorem dlt_self (a : PyData) : PySem.W.dataLt a a = false := by
  cases q : PySem.W.dataLt a a with
  | false => rfl
  | true =>
    have := dlt_asym q
    rw [q] at this
    exact this
theorem ltP_trans {a b c : Str × Str} (h1 : ltP a b = true) (h2 : ltP b c = true) : ltP a c = true := dlt_trans (alike_prT a c) (nk_prT a) (nk_prT c) h1 h2
theorem ltP_ne {a b : Str × Str} (h : ltP a b = true) : a ≠ b := fun e => by
  subst e
  rw [ltP, dlt_self] at h
  cases h
theorem ltL_ne {a b : List (Str × Str)} (h : ltL a b = true) : a ≠ b := fun e => by
  subst e
  rw [ltL, dlt_self] at h
  cases h
theorem ltP_asym {a b : Str × Str} (h : ltP a b = true) : ltP b a = false := dlt_asym h
theorem ltL_asym {a b : List (Str × Str)} (h : ltL a b = true) : ltL b a = false := dlt_asym h
theorem ltP_of {a b : Str × Str} (h : dle (prT a) (prT b) = true) (ne : a ≠ b) : ltP a b = true := by
  cases q : ltP a b with
  | true => rfl
  | false =>
    rw [dle_def] at h
    exact absurd (prT_inj (dl_eq (alike_prT a b) (nk_prT a) (nk_prT b) q (by simpa using h))) ne
theorem ltL_of {a b : List (Str × Str)} (h : dle (lT a) (lT b) = true) (ne : a ≠ b) : ltL a b = true := by
  cases q : ltL a b with
  | true => rfl
  | false =>
    rw [dle_def] at h
    exact absurd (lT_inj (dl_eq (alike_lT a b) (nk_lT a) (nk_lT b) q (by simpa using h))) ne
abbrev AscP (X : List (Str × Str)) : Prop := X.Pairwise fun a b => ltP a b = true
abbrev AscL (L : List (List (Str × Str))) : Prop := L.Pairwise fun a b => ltL a b = true
theorem AscP.nd {X : List (Str × Str)} (h : AscP X) : X.Nodup := h.imp ltP_ne
theorem AscL.nd {L : List (List (Str × Str))} (h : AscL L) : L.Nodup := h.imp ltL_ne
theorem ascP_eq {X Y : List (Str × Str)} (hX : AscP X) (hY : AscP Y) (h : ∀ x, x ∈ X ↔ x ∈ Y) : X = Y :=
  List.Perm.eq_of_pairwise (le := fun a b => ltP a b = true) (fun a b _ _ h1 h2 => by rw [ltP_asym h1] at h2; cases h2) hX hY ((List.perm_ext_iff_of_nodup hX.nd hY.nd).mpr h)
theorem ascL_eq {X Y : List (List (Str × Str))} (hX : AscL X) (hY : AscL Y) (h : ∀ x, x ∈ X ↔ x ∈ Y) : X = Y :=
  List.Perm.eq_of_pairwise (le := fun a b => ltL a b = true) (fun a b _ _ h1 h2 => by rw [ltL_asym h1] at h2; cases h2) hX hY ((List.perm_ext_iff_of_nodup hX.nd hY.nd).mpr h)
/-- lots, sorted -/
def sortL (L : List (List (Str × Str))) : List (List (Str × Str)) := L.mergeSort fun a b => dle (lT a) (lT b)
theorem sortD_lots (L : List (List (Str × Str))) : sortD (L.map lT) = (sortL L).map lT := (List.map_mergeSort (r := fun a b => dle (lT a) (lT b)) (s := PySem.W.dataLe false id) (f := lT) (l := L) (fun a _ b _ => rfl)).symm
theorem sortL_mem {L : List (List (Str × Str))} {X : List (Str × Str)} : X ∈ sortL L ↔ X ∈ L := List.mem_mergeSort
theorem sortL_asc {L : List (List (Str × Str))} (h : L.Nodup) : AscL (sortL L) := by
  have p : (sortL L).Perm L := List.mergeSort_perm _ _
  have n := p.symm.nodup h
  have w : (sortL L).Pairwise fun a b => dle (lT a) (lT b) = true := List.pairwise_mergeSort (le := fun a b => dle (lT a) (lT b)) (fun a b c h1 h2 => dle_trans h1 h2) (fun a b => dle_total (lT a) (lT b)) L
  exact (w.and n).imp fun h => ltL_of h.1 h.2
theorem sortP_asc {X : List (Str × Str)} (h : X.Nodup) : AscP (sortP X) := ((sortP_pw X).and ((sortP_perm X).symm.nodup h)).imp fun h => ltP_of h.1 h.2
theorem zip_all {f : PyData → PyData} : ∀ {xs ys : List PyData}, zipD xs ys = (xs.zip ys).map fun p => .tuple [p.1, p.2]
  | xs, ys => by
    unfold zipD
    rw [List.zip, List.map_zipWith]
theorem pw_zip {R : PyData → PyData → Prop} : ∀ {ds : List PyData}, ds.Pairwise R → ∀ p ∈ ds.zip (ds.drop 1), p.1 ∈ ds ∧ p.2 ∈ ds ∧ R p.1 p.2
  | [], _, p, h => nomatch h
  | [x], _, p, h => nomatch h
  | x :: y :: r, hp, p, h => by
    have h' : p ∈ (x, y) :: ((y :: r).zip ((y :: r).drop 1)) := h
    obtain ⟨h1, h2⟩ := List.pairwise_cons.mp hp
    rcases List.mem_cons.mp h' with rfl | h'
    · exact ⟨.head _, .tail _ (.head _), h1 y (.head _)⟩
    · obtain ⟨a, b, c⟩ := pw_zip h2 p h'
      exact ⟨.tail _ a, .tail _ b, c⟩
theorem do_ascend_w {ds : List PyData} {P : PyData → Prop} (hn : ds.length ≤ 100000) (hs : ∀ d ∈ ds, SeqAt.shaped d = true ∧ d ≠ .none) (ha : PySem.W.AllAlike ds) (hp : ds.Pairwise fun a b => PySem.W.dataLt a b = true) (h : P (.bool true)) : w_do_ascend [.dat (.tuple ds)] P := by
  unfold w_do_ascend
  try simp only [wv1, wv2, wv3, wv4, wv5, wv6, wv7, wv8, Nat.reduceSub, Nat.reduceAdd, reduceCtorEq, ↓reduceIte, Nat.reduceLeDiff, Nat.reduceLT, implies_true]
  rw [show ((1 : Int)) = ((1 : Nat) : Int) from rfl, cutG_from, zip_all (f := id)]
  refine ⟨?_, cmp_map (fun _ => .bool true) (fun d hd R hR => ?_) ?_⟩
  · rw [List.length_map, List.length_zip]
    omega
  · obtain ⟨p, hp', rfl⟩ := List.mem_map.mp hd
    obtain ⟨m1, m2, lt⟩ := pw_zip hp p hp'
    try simp only [wv1, wv2, wv3, wv4, wv5, wv6, wv7, wv8, Nat.reduceSub, Nat.reduceAdd, reduceCtorEq, ↓reduceIte, Nat.reduceLeDiff, Nat.reduceLT, implies_true, ltXW]
    refine ⟨(hs _ m1).1, (hs _ m2).1, ha _ m1 _ m2, (hs _ m1).2, ?_⟩
    rw [lt]
    exact hR
  · try simp only [wv1, wv2, wv3, wv4, wv5, wv6, wv7, wv8, Nat.reduceSub, Nat.reduceAdd, reduceCtorEq, ↓reduceIte, Nat.reduceLeDiff, Nat.reduceLT, implies_true]
    refine all_map (f := fun _ => true) ?_
    rw [List.all_eq_true.mpr fun _ _ => rfl]
    exact h
theorem ascend_prs {X : List (Str × Str)} {P : PyData → Prop} (hn : X.length ≤ 100000) (hN : Nm X) (ha : AscP X) (h : P (.bool true)) : w_do_ascend [.dat (lT X)] P := by
  refine do_ascend_w (by rwa [List.length_map]) (fun d hd => ?_) (fun d hd e he => ?_) (List.pairwise_map.mpr ha) h
  · obtain ⟨p, hp, rfl⟩ := List.mem_map.mp hd
    exact ⟨(shaped_prT (hN p hp).1 (hN p hp).2).1, fun z => nomatch z⟩
  · obtain ⟨a, _, rfl⟩ := List.mem_map.mp hd
    obtain ⟨b, _, rfl⟩ := List.mem_map.mp he
    exact alike_prT a b
theorem ascend_lots {L : List (List (Str × Str))} {P : PyData → Prop} (hn : L.length ≤ 100000) (hN : ∀ X ∈ L, Nm X) (ha : AscL L) (h : P (.bool true)) : w_do_ascend [.dat (.tuple (L.map lT))] P := by
  refine do_ascend_w (by rwa [List.length_map]) (fun d hd => ?_) (fun d hd e he => ?_) (List.pairwise_map.mpr ha) h
  · obtain ⟨p, hp, rfl⟩ := List.mem_map.mp hd
    exact ⟨shaped_lT (hN p hp), fun z => nomatch z⟩
  · obtain ⟨a, _, rfl⟩ := List.mem_map.mp hd
    obtain ⟨b, _, rfl⟩ := List.mem_map.mp he
    exact alike_lT a b
end Lw
namespace Lw
open PySem DL FSt Mx
variable [CTab]
section
variable {α : Type} {enc : α → PyData} {b b1 : WB} {t t1 : WT} {e : WE} {ww1 : WL} {vs1 : List Nat} {ρ : WEnv}
theorem cmp_enc (f : α → PyData) : ∀ {L : List α} {acc : List PyData} {Q : List PyData → Prop}, (∀ a ∈ L, ∀ R : PyData → Prop, R (f a) → b (enc a) ρ fun ρ1 => e ρ1 R) → Q (acc ++ L.map f) → compW b yesT e ρ (L.map enc) acc Q
  | [], acc, Q, _, q => by simpa [compW] using q
  | a :: L, acc, Q, h, q => by
    rw [List.map_cons]
    unfold compW
    have h1 := h a (.head _) (fun z => compW b yesT e ρ (L.map enc) (acc ++ [z]) Q) (cmp_enc f (fun c hc => h c (.tail _ hc)) (by simpa using q))
    simpa [yesT] using h1
theorem fil_enc (p : α → Bool) (f : α → PyData) : ∀ {L : List α} {acc : List PyData} {Q : List PyData → Prop}, (∀ a ∈ L, ∀ (R : PyData → Prop) (N : Prop), (if p a = true then R (f a) else N) → b (enc a) ρ fun ρ1 => t ρ1 fun c => if c = true then e ρ1 R else N) →
    Q (acc ++ (L.filter p).map f) → compW b t e ρ (L.map enc) acc Q
  | [], acc, Q, _, q => by simpa [compW] using q
  | a :: L, acc, Q, h, q => by
    rw [List.map_cons]
    unfold compW
    refine h a (.head _) _ _ ?_
    cases c : p a with
    | true =>
      rw [if_pos rfl]
      exact fil_enc p f (fun c hc => h c (.tail _ hc)) (by simpa [List.filter_cons_of_pos c] using q)
    | false =>
      rw [if_neg Bool.false_ne_true]
      exact fil_enc p f (fun c hc => h c (.tail _ hc)) (by simpa [List.filter_cons, c] using q)
theorem cmp2_enc (g : α → List PyData) : ∀ {L : List α} {acc : List PyData} {Q : List PyData → Prop}, (∀ a ∈ L, ∀ (acc : List PyData) (R : List PyData → Prop), R (acc ++ g a) → b (enc a) ρ fun ρ1 => ww1 ρ1 fun es => es.length ≤ 100000 ∧ compW b1 t1 e (wipeW ρ1 vs1) es acc R) →
    acc.length + (L.flatMap g).length ≤ 100000 → Q (acc ++ L.flatMap g) → comp2W b yesT ww1 b1 t1 e vs1 ρ (L.map enc) acc Q
  | [], acc, Q, _, _, q => by simpa [comp2W] using q
  | a :: L, acc, Q, h, hl, q => by
    rw [List.map_cons]
    unfold comp2W
    rw [List.flatMap_cons, List.length_append] at hl
    have h1 := h a (.head _) acc (fun acc' => acc'.length ≤ 100000 ∧ comp2W b yesT ww1 b1 t1 e vs1 ρ (L.map enc) acc' Q) ⟨by rw [List.length_append]; omega, cmp2_enc g (fun c hc => h c (.tail _ hc)) (by rw [List.length_append]; omega) (by rw [List.append_assoc]; simpa using q)⟩
    simpa [yesT] using h1
end
theorem eqB_tt {a b : List PyData} {Q : PyData → Prop} (ha : SeqAt.shaped (.tuple a) = true) (hb : SeqAt.shaped (.tuple b) = true) (q : Q (.bool (PyData.eqv (.tuple a) (.tuple b)))) : eqBW (.tuple a) (.tuple b) Q := ⟨ha, hb, q⟩
theorem neB_tt {a b : List PyData} {Q : PyData → Prop} (ha : SeqAt.shaped (.tuple a) = true) (hb : SeqAt.shaped (.tuple b) = true) (q : Q (.bool (!PyData.eqv (.tuple a) (.tuple b)))) : neBW (.tuple a) (.tuple b) Q := ⟨ha, hb, q⟩
theorem eqB_ll {a b : List PyData} {Q : PyData → Prop} (ha : SeqAt.shaped (.list a) = true) (hb : SeqAt.shaped (.list b) = true) (q : Q (.bool (PyData.eqv (.list a) (.list b)))) : eqBW (.list a) (.list b) Q := ⟨ha, hb, q⟩
theorem neB_ll {a b : List PyData} {Q : PyData → Prop} (ha : SeqAt.shaped (.list a) = true) (hb : SeqAt.shaped (.list b) = true) (q : Q (.bool (!PyData.eqv (.list a) (.list b)))) : neBW (.list a) (.list b) Q := ⟨ha, hb, q⟩
theorem any_map {α : Type} {l : List α} {f : α → Bool} {P : PyData → Prop} (h : P (.bool (l.any f))) : anyW [.list (l.map fun x => .bool (f x))] P := by
  refine ⟨l.map f, by rw [List.map_map]; rfl, ?_⟩
  rw [List.any_map]
  exact h
theorem okName_100 {s : Str} (h : okName (.str s) = true) : s.length ≤ 100000 := by
  have h : ((decide (1 ≤ (s.length : Int)) && decide ((s.length : Int) ≤ 4)) && s.cps.toList.all isLett) = true := h
  simp only [Bool.and_eq_true, decide_eq_true_iff] at h
  omega
section
variable {X : List (Str × Str)} {L : List (List (Str × Str))} {P : PyData → Prop}
theorem lot_of_pairs_w (hn : X.length ≤ 1000) (hN : Nm X) (hl : ∀ r ∈ X, ltS r.1 r.2 = true) (ha : AscP X) (h : P (.bool true)) : w_is_lot_of_pairs [.dat (lT X)] P := by
  unfold w_is_lot_of_pairs
  try simp only [wv1, wv2, wv3, wv4, wv5, wv6, wv7, wv8, Nat.reduceSub, Nat.reduceAdd, reduceCtorEq, ↓reduceIte, Nat.reduceLeDiff, Nat.reduceLT, implies_true, isTup]
  show (fun d => _) (PyData.bool true)
  try simp only [wv1, wv2, wv3, wv4, wv5, wv6, wv7, wv8, Nat.reduceSub, Nat.reduceAdd, reduceCtorEq, ↓reduceIte, Nat.reduceLeDiff, Nat.reduceLT, implies_true]
  refine ⟨by rw [List.length_map]; omega, cmp_enc (enc := prT) (fun _ => .bool true) (fun r hr R hR => ?_) ?_⟩
  · try simp only [wv1, wv2, wv3, wv4, wv5, wv6, wv7, wv8, Nat.reduceSub, Nat.reduceAdd, reduceCtorEq, ↓reduceIte, Nat.reduceLeDiff, Nat.reduceLT, implies_true]
    refine is_pair_w (okName_100 (hN r hr).1) (okName_100 (hN r hr).2) ?_
    rw [(hN r hr).1, (hN r hr).2, hl r hr]
    exact hR
  · try simp only [wv1, wv2, wv3, wv4, wv5, wv6, wv7, wv8, Nat.reduceSub, Nat.reduceAdd, reduceCtorEq, ↓reduceIte, Nat.reduceLeDiff, Nat.reduceLT, implies_true]
    refine all_map (f := fun _ => true) ?_
    rw [List.all_eq_true.mpr fun _ _ => rfl]
    try simp only [wv1, wv2, wv3, wv4, wv5, wv6, wv7, wv8, Nat.reduceSub, Nat.reduceAdd, reduceCtorEq, ↓reduceIte, Nat.reduceLeDiff, Nat.reduceLT, implies_true]
    exact ascend_prs (by omega) hN ha h
theorem without_w {g : Str × Str} (hn : X.length ≤ 1000) (hN : Nm X) (hg : okName (.str g.1) = true ∧ okName (.str g.2) = true) (h : P (lT (Mt.wo X g))) : w_without_one [.dat (lT X), .dat (prT g)] P := by
  unfold w_without_one lT
  try simp only [wv1, wv2, wv3, wv4, wv5, wv6, wv7, wv8, Nat.reduceSub, Nat.reduceAdd, reduceCtorEq, ↓reduceIte, Nat.reduceLeDiff, Nat.reduceLT, implies_true]
  refine ⟨by rw [List.length_map]; omega, fil_enc (enc := prT) (fun x => decide (x ≠ g)) prT (fun r hr R N hRN => ?_) ?_⟩
  · try simp only [wv1, wv2, wv3, wv4, wv5, wv6, wv7, wv8, Nat.reduceSub, Nat.reduceAdd, reduceCtorEq, ↓reduceIte, Nat.reduceLeDiff, Nat.reduceLT, implies_true]
    refine neB_tt (shaped_prT (hN r hr).1 (hN r hr).2).1 (shaped_prT hg.1 hg.2).1 ?_
    rw [show PyData.eqv (.tuple [.str r.1, .str r.2]) (.tuple [.str g.1, .str g.2]) = decide (r = g) from eqv_prT r g]
    have e : (!decide (r = g)) = decide (r ≠ g) := by simp
    rw [e]
    exact hRN
  · try simp only [wv1, wv2, wv3, wv4, wv5, wv6, wv7, wv8, Nat.reduceSub, Nat.reduceAdd, reduceCtorEq, ↓reduceIte, Nat.reduceLeDiff, Nat.reduceLT, implies_true]
    exact h
theorem meets_eq : Mt.meets X L = (L.all fun A => X.any fun x => decide (x ∈ A)) := by
  unfold Mt.meets
  congr 1
  funext A
  congr 1
  funext x
  exact decide_eq_decide.mpr Iff.rfl
theorem meets_each_w (hn : X.length ≤ 1000) (hL : L.length ≤ 1000) (hN : Nm X) (hNL : ∀ A ∈ L, Nm A) (h : P (.bool (Mt.meets X L))) : w_meets_each [.dat (lT X), .dat (.tuple (L.map lT))] P := by
  unfold w_meets_each
  try simp only [wv1, wv2, wv3, wv4, wv5, wv6, wv7, wv8, Nat.reduceSub, Nat.reduceAdd, reduceCtorEq, ↓reduceIte, Nat.reduceLeDiff, Nat.reduceLT, implies_true]
  refine ⟨by rw [List.length_map]; omega, cmp_enc (enc := lT) (fun A => .bool (X.any fun x => decide (x ∈ A))) (fun A hA R hR => ?_) ?_⟩
  · unfold lT
    try simp only [wv1, wv2, wv3, wv4, wv5, wv6, wv7, wv8, Nat.reduceSub, Nat.reduceAdd, reduceCtorEq, ↓reduceIte, Nat.reduceLeDiff, Nat.reduceLT, implies_true]
    refine ⟨by rw [List.length_map]; omega, cmp_enc (enc := prT) (fun x => .bool (decide (x ∈ A))) (fun x hx R' hR' => ?_) ?_⟩
    · try simp only [wv1, wv2, wv3, wv4, wv5, wv6, wv7, wv8, Nat.reduceSub, Nat.reduceAdd, reduceCtorEq, ↓reduceIte, Nat.reduceLeDiff, Nat.reduceLT, implies_true, inXW]
      refine ⟨A.map prT, rfl, (shaped_prT (hN x hx).1 (hN x hx).2).1, seqB_prs fun z hz => hNL A hA z hz, ?_⟩
      rw [any_prs, Bool.false_xor]
      exact hR'
    · try simp only [wv1, wv2, wv3, wv4, wv5, wv6, wv7, wv8, Nat.reduceSub, Nat.reduceAdd, reduceCtorEq, ↓reduceIte, Nat.reduceLeDiff, Nat.reduceLT, implies_true]
      exact any_map hR
  · try simp only [wv1, wv2, wv3, wv4, wv5, wv6, wv7, wv8, Nat.reduceSub, Nat.reduceAdd, reduceCtorEq, ↓reduceIte, Nat.reduceLeDiff, Nat.reduceLT, implies_true]
    rw [meets_eq] at h
    exact all_map (f := fun A => X.any fun x => decide (x ∈ A)) h
end
end Lw
namespace Lw
open PySem DL FSt Mx
variable [CTab]
section
abbrev P2 := Str × Str
def okL (X : List P2) (p : P2) : Bool := match X.getLast? with
  | none => true
  | some q => ltP q p
def nextL (M : List P2) (L : List (List P2)) : List (List P2) := L.flatMap fun X => (M.filter (okL X)).map fun p => X ++ [p]
def lays (M : List P2) : Nat → List (List P2)
  | 0 => [[]]
  | k + 1 => nextL M (lays M k)
def upto (M : List P2) : Nat → List (List P2)
  | 0 => [[]]
  | k + 1 => upto M k ++ lays M (k + 1)
variable {M X : List P2} {L : List (List P2)}
theorem nextL_len : ∀ {L : List (List P2)}, (nextL M L).length ≤ L.length * M.length
  | [] => Nat.zero_le _
  | X :: L => by
    have ih := nextL_len (L := L)
    show (_ ++ nextL M L).length ≤ _
    rw [List.length_append, List.length_map, List.length_cons, Nat.succ_mul]
    have := List.length_filter_le (okL X) M
    omega
theorem lays_len (h : M.length ≤ 6) : ∀ k, (lays M k).length ≤ 6 ^ k
  | 0 => Nat.le_refl _
  | k + 1 => by
    have ih := lays_len h k
    refine Nat.le_trans (nextL_len (M := M)) ?_
    rw [Nat.pow_succ]
    exact Nat.mul_le_mul ih h
theorem upto_len (h : M.length ≤ 6) : ∀ k, (upto M k).length * 5 + 1 ≤ 6 ^ (k + 1)
  | 0 => by
    show 1 * 5 + 1 ≤ 6 ^ 1
    decide
  | k + 1 => by
    have ih := upto_len h k
    have l := lays_len h (k + 1)
    show (upto M k ++ lays M (k + 1)).length * 5 + 1 ≤ _
    rw [List.length_append, Nat.pow_succ 6 (k + 1)]
    omega
theorem asc_snoc {Y : List P2} {p : P2} : AscP (Y ++ [p]) ↔ AscP Y ∧ okL Y p = true := by
  unfold AscP
  rw [List.pairwise_append]
  constructor
  · rintro ⟨h1, _, h3⟩
    refine ⟨h1, ?_⟩
    unfold okL
    cases e : Y.getLast? with
    | none => rfl
    | some q => exact h3 q (List.mem_of_getLast? e) p (.head _)
  · rintro ⟨h1, h2⟩
    refine ⟨h1, List.pairwise_singleton _ _, fun y hy z hz => ?_⟩
    rw [List.mem_singleton.mp hz]
    unfold okL at h2
    cases e : Y.getLast? with
    | none => rw [List.getLast?_eq_none_iff.mp e] at hy; cases hy
    | some q =>
      rw [e] at h2
      have h2 : ltP q p = true := h2
      obtain ⟨ys, rfl⟩ := List.getLast?_eq_some_iff.mp e
      rcases List.mem_append.mp hy with hy | hy
      · exact ltP_trans ((List.pairwise_append.mp h1).2.2 y hy q (.head _)) h2
      · rw [List.mem_singleton.mp hy]
        exact h2
theorem lays_mem : ∀ {k : Nat} {X : List P2}, X ∈ lays M k ↔ X.length = k ∧ AscP X ∧ ∀ x ∈ X, x ∈ M
  | 0, X => by
    show X ∈ [[]] ↔ _
    rw [List.mem_singleton]
    constructor
    · rintro rfl
      exact ⟨rfl, List.Pairwise.nil, fun _ h => nomatch h⟩
    · rintro ⟨h, _⟩
      exact List.length_eq_zero_iff.mp h
  | k + 1, X => by
    show X ∈ nextL M (lays M k) ↔ _
    unfold nextL
    rw [List.mem_flatMap]
    constructor
    · rintro ⟨Y, hY, hX⟩
      obtain ⟨h1, h2, h3⟩ := lays_mem.mp hY
      obtain ⟨p, hp, rfl⟩ := List.mem_map.mp hX
      rw [List.mem_filter] at hp
      refine ⟨by rw [List.length_append, h1]; rfl, asc_snoc.mpr ⟨h2, hp.2⟩, fun x hx => ?_⟩
      rcases List.mem_append.mp hx with hx | hx
      · exact h3 x hx
      · rw [List.mem_singleton.mp hx]
        exact hp.1
    · rintro ⟨h1, h2, h3⟩
      have ne : X ≠ [] := fun e => by rw [e] at h1; cases h1
      have e := List.dropLast_concat_getLast ne
      rw [← e] at h2
      obtain ⟨a1, a2⟩ := asc_snoc.mp h2
      refine ⟨X.dropLast, lays_mem.mpr ⟨by rw [List.length_dropLast]; omega, a1, fun x hx => h3 x (List.dropLast_subset _ hx)⟩, ?_⟩
      exact List.mem_map.mpr ⟨X.getLast ne, List.mem_filter.mpr ⟨h3 _ (List.getLast_mem ne), a2⟩, e⟩
theorem upto_mem : ∀ {k : Nat} {X : List P2}, X ∈ upto M k ↔ X.length ≤ k ∧ AscP X ∧ ∀ x ∈ X, x ∈ M
  | 0, X => by
    have := lays_mem (M := M) (k := 0) (X := X)
    show X ∈ lays M 0 ↔ _
    rw [this]
    constructor
    · rintro ⟨a, b⟩
      exact ⟨by omega, b⟩
    · rintro ⟨a, b⟩
      exact ⟨by omega, b⟩
  | k + 1, X => by
    show X ∈ upto M k ++ lays M (k + 1) ↔ _
    rw [List.mem_append, upto_mem, lays_mem]
    constructor
    · rintro (⟨a, b⟩ | ⟨a, b⟩)
      · exact ⟨by omega, b⟩
      · exact ⟨by omega, b⟩
    · rintro ⟨a, b⟩
      by_cases c : X.length ≤ k
      · exact .inl ⟨c, b⟩
      · exact .inr ⟨by omega, b⟩
theorem nextL_nd (nM : M.Nodup) : ∀ {L : List (List P2)}, L.Nodup → (nextL M L).Nodup
  | [], _ => List.Pairwise.nil
  | X :: L, h => by
    obtain ⟨h1, h2⟩ := List.nodup_cons.mp h
    show (((M.filter (okL X)).map fun p => X ++ [p]) ++ nextL M L).Nodup
    rw [List.Nodup, List.pairwise_append]
    refine ⟨?_, nextL_nd nM h2, fun a ha b hb e => ?_⟩
    · rw [List.pairwise_map]
      exact (nM.sublist List.filter_sublist).imp fun ne e => ne (List.singleton_inj.mp (List.append_cancel_left e))
    · obtain ⟨p, _, rfl⟩ := List.mem_map.mp ha
      unfold nextL at hb
      obtain ⟨Y, hY, hb⟩ := List.mem_flatMap.mp hb
      obtain ⟨q, _, rfl⟩ := List.mem_map.mp hb
      have := List.append_inj' e rfl
      exact h1 (by rw [this.1]; exact hY)
theorem lays_nd (nM : M.Nodup) : ∀ k, (lays M k).Nodup
  | 0 => List.nodup_cons.mpr ⟨(fun h => nomatch h), List.Pairwise.nil⟩
  | k + 1 => nextL_nd nM (lays_nd nM k)
theorem upto_nd (nM : M.Nodup) : ∀ k, (upto M k).Nodup
  | 0 => lays_nd nM 0
  | k + 1 => by
    show (upto M k ++ lays M (k + 1)).Nodup
    rw [List.Nodup, List.pairwise_append]
    refine ⟨upto_nd nM k, lays_nd nM (k + 1), fun a ha b hb e => ?_⟩
    have h1 := (upto_mem.mp ha).1
    have h2 := (lays_mem.mp hb).1
    rw [e] at h1
    omega
/-- ascending lots of an ascending row are its parts -/
theorem asc_sub (hM : AscP M) : (AscP X ∧ ∀ x ∈ X, x ∈ M) ↔ X.Sublist M := by
  constructor
  · rintro ⟨h1, h2⟩
    have e : X = M.filter fun x => decide (x ∈ X) := ascP_eq h1 (hM.sublist List.filter_sublist) fun x => by
      rw [List.mem_filter, decide_eq_true_iff]
      exact ⟨fun h => ⟨h2 x h, h⟩, fun h => h.2⟩
    rw [e]
    exact List.filter_sublist
  · intro h
    exact ⟨hM.sublist h, fun x hx => h.subset hx⟩
theorem within_mem (hM : AscP M) : X ∈ upto M M.length ↔ X.Sublist M := by
  rw [upto_mem, ← asc_sub hM]
  constructor
  · exact fun h => h.2
  · exact fun h => ⟨nodup_sub h.1.nd h.2, h⟩
theorem at_last {ds : List PyData} {d : PyData} (h : ds.getLast? = some d) : L2.atI ds (-1) = some d := by
  obtain ⟨ys, rfl⟩ := List.getLast?_eq_some_iff.mp h
  unfold L2.atI L2.ixN
  have hl : (ys ++ [d]).length = ys.length + 1 := by rw [List.length_append]; rfl
  rw [if_neg (by decide), if_pos (by omega)]
  have e : ((-1 : Int) + ((ys ++ [d]).length : Nat)).toNat = ys.length := by omega
  rw [e]
  show (ys ++ [d])[ys.length]? = some d
  rw [List.getElem?_append_right (Nat.le_refl _), Nat.sub_self]
  rfl
theorem within_turn {W : WD} {s3 s4 s5 : Option Sl} {k : Nat} (hM6 : M.length ≤ 6) (hk : k + 1 ≤ 6) (hN : Nm M)
    (h : ∀ s4 s5, W.nx [some (.dat (lT M)), some (.own ((upto M (k + 1)).map lT)), some (.dat (.list ((lays M (k + 1)).map lT))), s3, s4, s5]) :
    b_lots_within_1 W [some (.dat (lT M)), some (.own ((upto M k).map lT)), some (.dat (.list ((lays M k).map lT))), s3, s4, s5] := by
  have p6 : ∀ j, j ≤ 6 → 6 ^ j ≤ 46656 := fun j hj => Nat.le_trans (Nat.pow_le_pow_right (by decide) hj) (by decide)
  have p7 : ∀ j, j ≤ 6 → 6 ^ (j + 1) ≤ 279936 := fun j hj => Nat.le_trans (Nat.pow_le_pow_right (by decide) (Nat.succ_le_succ hj)) (by decide)
  have l1 := lays_len hM6 k
  have l2 := lays_len hM6 (k + 1)
  have q1 := p6 k (by omega)
  have q2 := p6 (k + 1) hk
  have u2 := upto_len hM6 (k + 1)
  have q3 := p7 (k + 1) hk
  have el : (lays M (k + 1)) = nextL M (lays M k) := rfl
  unfold b_lots_within_1
  try simp only [wv1, wv2, wv3, wv4, wv5, wv6, wv7, wv8, Nat.reduceSub, Nat.reduceAdd, reduceCtorEq, ↓reduceIte, Nat.reduceLeDiff, Nat.reduceLT, implies_true, lc2N]
  refine cmp2_enc (enc := lT) (fun X => ((M.filter (okL X)).map fun p => X ++ [p]).map lT) (fun X hX acc R hR => ?_) ?_ ?_
  · obtain ⟨_, _, hXM⟩ := lays_mem.mp hX
    have hNX : Nm X := fun r hr => hN r (hXM r hr)
    have hXl : X.length ≤ 6 := by
      have := (lays_mem.mp hX).1
      omega
    unfold lT
    try simp only [wv1, wv2, wv3, wv4, wv5, wv6, wv7, wv8, Nat.reduceSub, Nat.reduceAdd, reduceCtorEq, ↓reduceIte, Nat.reduceLeDiff, Nat.reduceLT, implies_true]
    refine ⟨by rw [List.length_map]; omega, fil_enc (enc := prT) (okL X) (fun p => lT (X ++ [p])) (fun p hp R' N hRN => ?_) ?_⟩
    · try simp only [wv1, wv2, wv3, wv4, wv5, wv6, wv7, wv8, Nat.reduceSub, Nat.reduceAdd, reduceCtorEq, ↓reduceIte, Nat.reduceLeDiff, Nat.reduceLT, implies_true]
      refine eqB_tt (shaped_lT hNX) rfl ?_
      rw [eqv_nilT]
      cases X with
      | nil =>
        try simp only [wv1, wv2, wv3, wv4, wv5, wv6, wv7, wv8, Nat.reduceSub, Nat.reduceAdd, reduceCtorEq, ↓reduceIte, Nat.reduceLeDiff, Nat.reduceLT, implies_true]
        have : okL [] p = true := rfl
        rw [this, if_pos rfl] at hRN
        exact hRN
      | cons x X =>
        try simp only [wv1, wv2, wv3, wv4, wv5, wv6, wv7, wv8, Nat.reduceSub, Nat.reduceAdd, reduceCtorEq, ↓reduceIte, Nat.reduceLeDiff, Nat.reduceLT, implies_true]
        obtain ⟨q, hq⟩ : ∃ q, (x :: X).getLast? = some q := ⟨_, List.getLast?_eq_some_getLast (by simp)⟩
        have hq2 : ((x :: X).map prT).getLast? = some (prT q) := by rw [List.getLast?_map, hq]; rfl
        have hqm : q ∈ x :: X := List.mem_of_getLast? hq
        have e1 : okL (x :: X) p = ltP q p := by unfold okL; rw [hq]
        refine ⟨prT q, at_last hq2, ?_⟩
        try simp only [wv1, wv2, wv3, wv4, wv5, wv6, wv7, wv8, Nat.reduceSub, Nat.reduceAdd, reduceCtorEq, ↓reduceIte, Nat.reduceLeDiff, Nat.reduceLT, implies_true, ltXW]
        refine ⟨(shaped_prT (hNX q hqm).1 (hNX q hqm).2).1, (shaped_prT (hN p hp).1 (hN p hp).2).1, alike_prT q p, (fun z => nomatch z), ?_⟩
        rw [e1] at hRN
        have e2 : PySem.W.dataLt (prT q) (prT p) = ltP q p := rfl
        rw [e2]
        cases c : ltP q p with
        | false => rw [c] at hRN; exact hRN
        | true =>
          rw [c, if_pos rfl] at hRN
          rw [if_pos rfl]
          have e3 : lT ((x :: X) ++ [p]) = .tuple (prT x :: (X.map prT ++ [prT p])) := by
            unfold lT
            rw [List.map_append]
            rfl
          rw [e3] at hRN
          try simp only [wv1, wv2, wv3, wv4, wv5, wv6, wv7, wv8, Nat.reduceSub, Nat.reduceAdd, reduceCtorEq, ↓reduceIte, Nat.reduceLeDiff, Nat.reduceLT, implies_true]
          refine ⟨?_, hRN⟩
          have : X.length + 1 ≤ 6 := hXl
          rw [List.length_append, List.length_map, List.length_singleton]
          omega
    · have e4 : (M.filter (okL X)).map (fun p => lT (X ++ [p])) = ((M.filter (okL X)).map fun p => X ++ [p]).map lT := by rw [List.map_map]; rfl
      rw [e4]
      exact hR
  · rw [← List.map_flatMap]
    show 0 + ((nextL M (lays M k)).map lT).length ≤ _
    rw [List.length_map, ← el]
    omega
  · rw [← List.map_flatMap]
    show (fun _ => _) ([] ++ (nextL M (lays M k)).map lT)
    rw [← el]
    try simp only [wv1, wv2, wv3, wv4, wv5, wv6, wv7, wv8, Nat.reduceSub, Nat.reduceAdd, reduceCtorEq, ↓reduceIte, Nat.reduceLeDiff, Nat.reduceLT, implies_true, extW]
    rw [List.length_map, List.length_map]
    have e5 : (upto M k).map lT ++ (lays M (k + 1)).map lT = (upto M (k + 1)).map lT := by rw [← List.map_append]; rfl
    have e6 : (upto M (k + 1)).length = (upto M k).length + (lays M (k + 1)).length := by
      show (upto M k ++ lays M (k + 1)).length = _
      rw [List.length_append]
    refine ⟨?_, ?_⟩
    · show (upto M k).length + (lays M (k + 1)).length ≤ 100000
      omega
    · have := h s4 s5
      rw [← e5] at this
      exact this
end
end Lw
namespace Lw
open PySem DL FSt Mx
variable [CTab]
section
variable {M X : List P2} {L fs : List (List P2)} {P : PyData → Prop}
theorem within_loop {W : WD} (hM6 : M.length ≤ 6) (hN : Nm M) (h : ∀ s3 s4 s5, W.nx [some (.dat (lT M)), some (.own ((upto M M.length).map lT)), some (.dat (.list ((lays M M.length).map lT))), s3, s4, s5]) :
    ∀ (ds : List PyData) (k : Nat) (s3 s4 s5 : Option Sl), k + ds.length = M.length → loopW (bindW 3) b_lots_within_1 W ds [some (.dat (lT M)), some (.own ((upto M k).map lT)), some (.dat (.list ((lays M k).map lT))), s3, s4, s5]
  | [], k, s3, s4, s5, hk => by
    rw [loop_nil]
    have e : k = M.length := by simpa using hk
    rw [e]
    exact h _ _ _
  | d :: ds, k, s3, s4, s5, hk => by
    rw [List.length_cons] at hk
    rw [loop_cons]
    have ih := fun s3 s4 s5 => within_loop hM6 hN h ds (k + 1) s3 s4 s5 (by omega)
    exact within_turn (W := ⟨loopW (bindW 3) b_lots_within_1 W ds, W.rt, W.nx, loopW (bindW 3) b_lots_within_1 W ds⟩) (s3 := some (.dat d)) hM6 (by omega) hN fun s4 s5 => ih _ _ _
theorem lots_within_w (hM6 : M.length ≤ 6) (hN : Nm M) (h : P (.list ((upto M M.length).map lT))) : w_lots_within [.dat (lT M)] P := by
  unfold w_lots_within
  have go := fun W hW => within_loop (M := M) (W := W) hM6 hN hW (M.map prT) 0 none none none (by rw [List.length_map, Nat.zero_add])
  unfold lT at go ⊢
  try simp only [wv1, wv2, wv3, wv4, wv5, wv6, wv7, wv8, Nat.reduceSub, Nat.reduceAdd, reduceCtorEq, ↓reduceIte, Nat.reduceLeDiff, Nat.reduceLT, implies_true]
  refine go _ fun s3 s4 s5 => ?_
  try simp only [wv1, wv2, wv3, wv4, wv5, wv6, wv7, wv8, Nat.reduceSub, Nat.reduceAdd, reduceCtorEq, ↓reduceIte, Nat.reduceLeDiff, Nat.reduceLT, implies_true]
  exact h
theorem prs_of : ∀ {es : List PyData}, (∀ d ∈ es, ∃ p : P2, d = prT p) → ∃ ps : List P2, es = ps.map prT
  | [], _ => ⟨[], rfl⟩
  | d :: es, h => by
    obtain ⟨p, rfl⟩ := h d (.head _)
    obtain ⟨ps, rfl⟩ := prs_of fun d hd => h d (.tail _ hd)
    exact ⟨p :: ps, rfl⟩
theorem members_w (hL : L.length ≤ 1000) (hl : L.flatten.length < 64) (h : ∀ M : List P2, AscP M → (∀ x, x ∈ M ↔ ∃ A ∈ L, x ∈ A) → P (lT M)) : w_members_of [.dat (.tuple (L.map lT))] P := by
  unfold w_members_of
  try simp only [wv1, wv2, wv3, wv4, wv5, wv6, wv7, wv8, Nat.reduceSub, Nat.reduceAdd, reduceCtorEq, ↓reduceIte, Nat.reduceLeDiff, Nat.reduceLT, implies_true, lc2N]
  refine cmp2_enc (enc := lT) (fun X => X.map prT) (fun X hX acc R hR => ?_) ?_ ?_
  · have hX1 : X.length ≤ L.flatten.length := (List.sublist_flatten_of_mem hX).length_le
    unfold lT
    try simp only [wv1, wv2, wv3, wv4, wv5, wv6, wv7, wv8, Nat.reduceSub, Nat.reduceAdd, reduceCtorEq, ↓reduceIte, Nat.reduceLeDiff, Nat.reduceLT, implies_true]
    exact ⟨by rw [List.length_map]; omega, cmp_enc (enc := prT) prT (fun p hp R' hR' => by try simp only [wv1, wv2, wv3, wv4, wv5, wv6, wv7, wv8, Nat.reduceSub, Nat.reduceAdd, reduceCtorEq, ↓reduceIte, Nat.reduceLeDiff, Nat.reduceLT, implies_true]; exact hR') hR⟩
  · have e : (L.flatMap fun X => X.map prT) = L.flatten.map prT := by rw [List.map_flatten, List.flatMap_def]
    rw [e, List.length_map, List.length_nil]
    omega
  · have e : (L.flatMap fun X => X.map prT) = L.flatten.map prT := by rw [List.map_flatten, List.flatMap_def]
    rw [e, List.nil_append]
    refine ⟨_, rfl, setOk_prs _, by rw [List.length_map]; exact hl, fun es nd hes => ?_⟩
    obtain ⟨ps, rfl⟩ := prs_of fun d hd => by
      obtain ⟨p, _, e⟩ := List.mem_map.mp ((hes d).mp hd)
      exact ⟨p, e.symm⟩
    have hps : ∀ p, p ∈ ps ↔ p ∈ L.flatten := fun p => by
      have := hes (prT p)
      rw [List.mem_map, List.mem_map] at this
      constructor
      · intro hp
        obtain ⟨q, hq, e⟩ := this.mp ⟨p, hp, rfl⟩
        rw [← prT_inj e]
        exact hq
      · intro hp
        obtain ⟨q, hq, e⟩ := this.mpr ⟨p, hp, rfl⟩
        rw [← prT_inj e]
        exact hq
    have ndp : ps.Nodup := (List.pairwise_map.mp nd).imp fun h e => h (by rw [e])
    have hlp := nodup_sub ndp fun p hp => (hps p).mp hp
    refine ⟨srtOk_prs ps, by rw [List.length_map]; omega, ?_⟩
    rw [sortD_prs]
    try simp only [wv1, wv2, wv3, wv4, wv5, wv6, wv7, wv8, Nat.reduceSub, Nat.reduceAdd, reduceCtorEq, ↓reduceIte, Nat.reduceLeDiff, Nat.reduceLT, implies_true]
    exact h (sortP ps) (sortP_asc ndp) fun x => by rw [sortP_mem, hps, List.mem_flatten]
def holdK (m : List P2 → Bool) (fs : List (List P2)) : List (PyData × PyData) := fs.map fun X => (lT X, .bool (m X))
theorem hold_ins (m : List P2 → Bool) : ∀ fs : List (List P2), insB (holdK m fs) = false
  | [] => rfl
  | _ :: _ => rfl
theorem hold_keys (m : List P2 → Bool) (fs : List (List P2)) : keysD (holdK m fs) = fs.map lT := by
  unfold keysD holdK
  rw [List.map_map]
  rfl
theorem hold_val (m : List P2 → Bool) : ∀ {fs : List (List P2)} {X : List P2}, X ∈ fs → valD (holdK m fs) (lT X) = some (.bool (m X))
  | Y :: fs, X, h => by
    unfold valD holdK
    rw [List.map_cons, List.find?_cons]
    have e : PyData.eqv (lT Y) (lT X) = decide (Y = X) := eqv_lT Y X
    dsimp only
    rw [e]
    by_cases c : Y = X
    · rw [decide_eq_true c, c]
      rfl
    · rw [decide_eq_false c]
      exact hold_val m ((List.mem_cons.mp h).resolve_left fun z => c z.symm)
theorem hold_same (m : List P2 → Bool) {fs : List (List P2)} {X : List P2} (h : X ∈ fs) : sameK (holdK m fs) (lT X) = true := by
  cases fs with
  | nil => cases h
  | cons Y fs =>
    show samX (keyX (lT Y)) (keyX (lT X)) = true
    rw [keyX_lT, keyX_lT]
    rfl
theorem hold_ix {m : List P2 → Bool} {fs : List (List P2)} {X : List P2} {Q : PyData → Prop} (h : X ∈ fs) (q : Q (.bool (m X))) : ixAW (.dict (holdK m fs)) (lT X) Q := ⟨hold_ins m fs, hold_same m h, _, hold_val m h, q⟩
theorem least_of_w {m : List P2 → Bool} (hf : fs.length ≤ 100000) (hN : ∀ X ∈ fs, Nm X) (hl : ∀ X ∈ fs, X.length ≤ 1000) (cl : ∀ X ∈ fs, ∀ x ∈ X, Mt.wo X x ∈ fs) (ok : srtOk ((fs.filter fun X => m X && !(X.any fun x => m (Mt.wo X x))).map lT))
    (h : P (.tuple ((sortL (fs.filter fun X => m X && !(X.any fun x => m (Mt.wo X x)))).map lT))) : w_least_of [.dat (.dict (holdK m fs))] P := by
  unfold w_least_of
  try simp only [wv1, wv2, wv3, wv4, wv5, wv6, wv7, wv8, Nat.reduceSub, Nat.reduceAdd, reduceCtorEq, ↓reduceIte, Nat.reduceLeDiff, Nat.reduceLT, implies_true]
  refine ⟨hold_ins m fs, ?_⟩
  rw [hold_keys]
  refine ⟨by rw [List.length_map]; exact hf, fil_enc (enc := lT) (fun X => m X && !(X.any fun x => m (Mt.wo X x))) lT (fun X hX R N hRN => ?_) ?_⟩
  · try simp only [wv1, wv2, wv3, wv4, wv5, wv6, wv7, wv8, Nat.reduceSub, Nat.reduceAdd, reduceCtorEq, ↓reduceIte, Nat.reduceLeDiff, Nat.reduceLT, implies_true]
    refine hold_ix hX ?_
    cases c : m X with
    | false =>
      rw [c, Bool.false_and] at hRN
      try simp only [wv1, wv2, wv3, wv4, wv5, wv6, wv7, wv8, Nat.reduceSub, Nat.reduceAdd, reduceCtorEq, ↓reduceIte, Nat.reduceLeDiff, Nat.reduceLT, implies_true]
      exact hRN
    | true =>
      rw [c, Bool.true_and] at hRN
      try simp only [wv1, wv2, wv3, wv4, wv5, wv6, wv7, wv8, Nat.reduceSub, Nat.reduceAdd, reduceCtorEq, ↓reduceIte, Nat.reduceLeDiff, Nat.reduceLT, implies_true]
      have hXl := hl X hX
      have wq : ∀ {R : List PyData → Prop}, R (X.map prT) → walkQ (lT X) R := fun h => h
      refine wq ⟨by rw [List.length_map]; omega, cmp_enc (enc := prT) (fun x => .bool (m (Mt.wo X x))) (fun x hx R' hR' => ?_) ?_⟩
      · try simp only [wv1, wv2, wv3, wv4, wv5, wv6, wv7, wv8, Nat.reduceSub, Nat.reduceAdd, reduceCtorEq, ↓reduceIte, Nat.reduceLeDiff, Nat.reduceLT, implies_true]
        exact without_w hXl (hN X hX) (hN X hX x hx) (hold_ix (cl X hX x hx) hR')
      · rw [List.nil_append]
        exact any_map (f := fun x => m (Mt.wo X x)) hRN
  · rw [List.nil_append]
    try simp only [wv1, wv2, wv3, wv4, wv5, wv6, wv7, wv8, Nat.reduceSub, Nat.reduceAdd, reduceCtorEq, ↓reduceIte, Nat.reduceLeDiff, Nat.reduceLT, implies_true]
    refine ⟨ok, by rw [List.length_map]; exact Nat.le_trans (List.length_filter_le _ _) hf, ?_⟩
    rw [sortD_lots]
    try simp only [wv1, wv2, wv3, wv4, wv5, wv6, wv7, wv8, Nat.reduceSub, Nat.reduceAdd, reduceCtorEq, ↓reduceIte, Nat.reduceLeDiff, Nat.reduceLT, implies_true]
    exact h
end
end Lw
namespace Lw
open PySem DL FSt Mx
variable [CTab]
section
theorem hold_put {m : List P2 → Bool} {acc : List (List P2)} {X : List P2} (h : X ∉ acc) : putD (holdK m acc) (lT X) (.bool (m X)) = holdK m (acc ++ [X]) := by
  unfold putD
  have e : ((holdK m acc).any fun p => PyData.eqv p.1 (lT X)) = false := by
    rw [List.any_eq_false]
    intro p hp
    unfold holdK at hp
    obtain ⟨Y, hY, rfl⟩ := List.mem_map.mp hp
    have e : PyData.eqv (lT Y) (lT X) = decide (Y = X) := eqv_lT Y X
    dsimp only
    rw [e]
    have : Y ≠ X := fun z => h (z ▸ hY)
    simp [this]
  rw [e, if_neg Bool.false_ne_true]
  unfold holdK
  rw [List.map_append]
  rfl
theorem dcomp_lots {b : WB} {wk wv : WE} {ρ : WEnv} {Q : List (PyData × PyData) → Prop} {m : List P2 → Bool} : ∀ {gs acc : List (List P2)}, (acc ++ gs).Nodup → (∀ X ∈ gs, ∀ R : PyData → PyData → Prop, R (lT X) (.bool (m X)) → b (lT X) ρ fun ρ1 => wk ρ1 fun y => wv ρ1 fun z => R y z) →
    Q (holdK m (acc ++ gs)) → dcompW b yesT wk wv isTd ρ (gs.map lT) (holdK m acc) Q
  | [], acc, _, _, q => by
    rw [List.append_nil] at q
    exact q
  | X :: gs, acc, nd, h, q => by
    rw [List.map_cons]
    unfold dcompW
    have hX : X ∉ acc := fun z => by
      rw [List.Nodup, List.pairwise_append] at nd
      exact nd.2.2 X z X (.head _) rfl
    have nd2 : ((acc ++ [X]) ++ gs).Nodup := by rw [List.append_assoc]; exact nd
    have ih := dcomp_lots (Q := Q) (gs := gs) (acc := acc ++ [X]) nd2 (fun Y hY => h Y (.tail _ hY)) (by rw [List.append_assoc]; exact q)
    have h1 := h X (.head _) (fun y z => isTd y = true ∧ dcompW b yesT wk wv isTd ρ (gs.map lT) (putD (holdK m acc) y z) Q) ⟨isTd_lT X, by rw [hold_put hX]; exact ih⟩
    simpa [yesT] using h1
variable {L : List (List P2)} {P : PyData → Prop}
/-- what a row of lots must be -/
structure Lots (L : List (List P2)) : Prop where
  l40 : L.length ≤ 40
  nm : ∀ X ∈ L, Nm X
  lt : ∀ X ∈ L, ∀ r ∈ X, ltS r.1 r.2 = true
  ap : ∀ X ∈ L, AscP X
  al : AscL L
  sm : L.flatten.length < 64
  m6 : ∀ M : List P2, M.Nodup → (∀ x ∈ M, ∃ A ∈ L, x ∈ A) → M.length ≤ 6
theorem Lots.len (hL : Lots L) {X : List P2} (hX : X ∈ L) : X.length ≤ 63 := by
  have := (List.sublist_flatten_of_mem hX).length_le
  have := hL.sm
  omega
theorem all_same {T : List (List P2)} (nd : T.Nodup) (h : ∀ X ∈ T, X = []) : T.length ≤ 1 := by
  cases T with
  | nil => exact Nat.zero_le _
  | cons a T =>
    cases T with
    | nil => exact Nat.le_refl _
    | cons b T =>
      exfalso
      have e1 := h a (.head _)
      have e2 := h b (.tail _ (.head _))
      exact (List.nodup_cons.mp nd).1 (by rw [e1, e2]; exact .head _)
theorem least_srt {fs : List (List P2)} (nd : fs.Nodup) : srtOk ((fs.filter fun X => Mt.leastA L X).map lT) := by
  refine srtOk_lots ?_
  by_cases c : [] ∈ fs.filter fun X => Mt.leastA L X
  · left
    refine all_same (nd.sublist List.filter_sublist) fun X hX => ?_
    rw [List.mem_filter] at c hX
    have m0 := (Mt.leastA_iff.mp c.2).1
    cases X with
    | nil => rfl
    | cons x X =>
      exfalso
      exact (Mt.leastA_iff.mp hX.2).2 x (.head _) (Mt.meets_mono (Y := []) (fun y hy => absurd hy List.not_mem_nil) m0)
  · right
    intro X hX e
    exact c (e ▸ hX)
theorem meeting_w (hL : Lots L) (h : ∀ (M : List P2) (T : List (List P2)), AscP M → (∀ x, x ∈ M ↔ ∃ A ∈ L, x ∈ A) → AscL T → (∀ X, X ∈ T ↔ X.Sublist M ∧ Mt.leastA L X = true) → P (.tuple (T.map lT))) : w_meeting_lots [.dat (.tuple (L.map lT))] P := by
  have hl := hL.l40
  unfold w_meeting_lots
  try simp only [wv1, wv2, wv3, wv4, wv5, wv6, wv7, wv8, Nat.reduceSub, Nat.reduceAdd, reduceCtorEq, ↓reduceIte, Nat.reduceLeDiff, Nat.reduceLT, implies_true, isTup]
  rw [List.length_map]
  have c40 : ¬ (40 : Int) < ((L.length : Nat) : Int) := by omega
  rw [decide_eq_false c40]
  try simp only [wv1, wv2, wv3, wv4, wv5, wv6, wv7, wv8, Nat.reduceSub, Nat.reduceAdd, reduceCtorEq, ↓reduceIte, Nat.reduceLeDiff, Nat.reduceLT, implies_true]
  refine ⟨by omega, cmp_enc (enc := lT) (fun _ => .bool true) (fun X hX R hR => ?_) ?_⟩
  · try simp only [wv1, wv2, wv3, wv4, wv5, wv6, wv7, wv8, Nat.reduceSub, Nat.reduceAdd, reduceCtorEq, ↓reduceIte, Nat.reduceLeDiff, Nat.reduceLT, implies_true]
    have := hL.len hX
    exact lot_of_pairs_w (by omega) (hL.nm X hX) (hL.lt X hX) (hL.ap X hX) hR
  · try simp only [wv1, wv2, wv3, wv4, wv5, wv6, wv7, wv8, Nat.reduceSub, Nat.reduceAdd, reduceCtorEq, ↓reduceIte, Nat.reduceLeDiff, Nat.reduceLT, implies_true]
    refine all_map (f := fun _ => true) ?_
    rw [List.all_eq_true.mpr fun _ _ => rfl]
    try simp only [wv1, wv2, wv3, wv4, wv5, wv6, wv7, wv8, Nat.reduceSub, Nat.reduceAdd, reduceCtorEq, ↓reduceIte, Nat.reduceLeDiff, Nat.reduceLT, implies_true]
    refine ascend_lots (by omega) hL.nm hL.al ?_
    try simp only [wv1, wv2, wv3, wv4, wv5, wv6, wv7, wv8, Nat.reduceSub, Nat.reduceAdd, reduceCtorEq, ↓reduceIte, Nat.reduceLeDiff, Nat.reduceLT, implies_true]
    refine members_w (by omega) hL.sm fun M0 hM0 hm0 => ?_
    have l0 := hL.m6 M0 hM0.nd fun x hx => (hm0 x).mp hx
    unfold lT
    try simp only [wv1, wv2, wv3, wv4, wv5, wv6, wv7, wv8, Nat.reduceSub, Nat.reduceAdd, reduceCtorEq, ↓reduceIte, Nat.reduceLeDiff, Nat.reduceLT, implies_true]
    rw [List.length_map]
    have c10 : ¬ (10 : Int) < ((M0.length : Nat) : Int) := by omega
    rw [decide_eq_false c10]
    try simp only [wv1, wv2, wv3, wv4, wv5, wv6, wv7, wv8, Nat.reduceSub, Nat.reduceAdd, reduceCtorEq, ↓reduceIte, Nat.reduceLeDiff, Nat.reduceLT, implies_true, dcTW]
    refine members_w (by omega) hL.sm fun M hM hm => ?_
    have l1 := hL.m6 M hM.nd fun x hx => (hm x).mp hx
    have hN : Nm M := fun r hr => by
      obtain ⟨A, hA, hrA⟩ := (hm r).mp hr
      exact hL.nm A hA r hrA
    have ul := upto_len l1 M.length
    have p7 : 6 ^ (M.length + 1) ≤ 279936 := Nat.le_trans (Nat.pow_le_pow_right (by decide) (Nat.succ_le_succ l1)) (by decide)
    try simp only [wv1, wv2, wv3, wv4, wv5, wv6, wv7, wv8, Nat.reduceSub, Nat.reduceAdd, reduceCtorEq, ↓reduceIte, Nat.reduceLeDiff, Nat.reduceLT, implies_true]
    refine lots_within_w l1 hN ?_
    have mem : ∀ X, X ∈ upto M M.length ↔ X.Sublist M := fun X => within_mem hM
    have sub : ∀ X ∈ upto M M.length, X.length ≤ 6 := fun X hX => Nat.le_trans ((mem X).mp hX).length_le l1
    have nmX : ∀ X ∈ upto M M.length, Nm X := fun X hX r hr => hN r (((mem X).mp hX).subset hr)
    have wq : ∀ {R : List PyData → Prop}, R ((upto M M.length).map lT) → walkQ (.list ((upto M M.length).map lT)) R := fun h => h
    try simp only [wv1, wv2, wv3, wv4, wv5, wv6, wv7, wv8, Nat.reduceSub, Nat.reduceAdd, reduceCtorEq, ↓reduceIte, Nat.reduceLeDiff, Nat.reduceLT, implies_true]
    refine ⟨by rw [List.length_map]; omega, dcomp_lots (acc := []) (m := fun X => Mt.meets X L) (by rw [List.nil_append]; exact upto_nd hM.nd _) (fun X hX R hR => ?_) ?_⟩
    · try simp only [wv1, wv2, wv3, wv4, wv5, wv6, wv7, wv8, Nat.reduceSub, Nat.reduceAdd, reduceCtorEq, ↓reduceIte, Nat.reduceLeDiff, Nat.reduceLT, implies_true]
      have := sub X hX
      exact meets_each_w (by omega) (by omega) (nmX X hX) hL.nm hR
    · rw [List.nil_append]
      try simp only [wv1, wv2, wv3, wv4, wv5, wv6, wv7, wv8, Nat.reduceSub, Nat.reduceAdd, reduceCtorEq, ↓reduceIte, Nat.reduceLeDiff, Nat.reduceLT, implies_true]
      refine least_of_w (m := fun X => Mt.meets X L) (by omega) nmX (fun X hX => by have := sub X hX; omega) (fun X hX x _ => (mem _).mpr (Mt.wo_sub.trans ((mem X).mp hX))) (least_srt (L := L) (upto_nd hM.nd _)) ?_
      refine h M (sortL ((upto M M.length).filter fun X => Mt.leastA L X)) hM hm (sortL_asc ((upto_nd hM.nd _).sublist List.filter_sublist)) fun X => ?_
      rw [sortL_mem, List.mem_filter, mem X]
end
end Lw
namespace Lw
open PySem DL FSt Mx
variable [CTab]
section
variable {rs : List P2}
theorem lot_loop {P : PyData → Prop} {v : PyData} {s2 : Option Sl} (hv : v = .list (rs.map prT) ∨ v = .tuple (rs.map prT)) (hn : rs.length ≤ 100) (hok : Nm rs) (h : ∀ qs : List P2, qs.Sublist rs → P (lT qs)) : ∀ (ks : List PyData) (lf fd : List P2) (s5 s6 : Option Sl), ks.length ≤ lf.length → lf.length + fd.length ≤ 100 → (∀ r ∈ lf, r ∈ rs) → (∀ r ∈ fd, r ∈ rs) →
    loopW (bindW 5) b__law_lot_upto_1 (retEnds P (retW [4] (cbW tupleW (consW (newW (lcN [6] (itemsA (varW 1)) (bindW 6) (testW (opW (inXW false) (varW 6) (varW 4))) (varW 6))) nilW)) (retEnds P fun _ => P .none))) ks [some .bag, some (.dat v), s2, some (.own (lf.map prT)), some (.own (fd.map prT)), s5, s6]
  | [], lf, fd, s5, s6, hk, hl, h1, h2 => by
    rw [loop_nil]
    have wq : ∀ {R : List PyData → Prop}, R (rs.map prT) → walkQ v R := fun {R} h => by
      rcases hv with rfl | rfl <;> exact h
    try simp only [wv1, wv2, wv3, wv4, wv5, wv6, wv7, wv8, Nat.reduceSub, Nat.reduceAdd, reduceCtorEq, ↓reduceIte, Nat.reduceLeDiff, Nat.reduceLT, implies_true, retEnds]
    refine wq ⟨by rw [List.length_map]; omega, fil_enc (enc := prT) (fun r => decide (r ∈ fd)) prT (fun r hr R N hRN => ?_) ?_⟩
    · try simp only [wv1, wv2, wv3, wv4, wv5, wv6, wv7, wv8, Nat.reduceSub, Nat.reduceAdd, reduceCtorEq, ↓reduceIte, Nat.reduceLeDiff, Nat.reduceLT, implies_true]
      refine ⟨fd.map prT, rfl, (shaped_prT (hok r hr).1 (hok r hr).2).1, seqB_prs fun z hz => hok z (h2 z hz), ?_⟩
      rw [any_prs, Bool.false_xor]
      exact hRN
    · rw [List.nil_append]
      try simp only [wv1, wv2, wv3, wv4, wv5, wv6, wv7, wv8, Nat.reduceSub, Nat.reduceAdd, reduceCtorEq, ↓reduceIte, Nat.reduceLeDiff, Nat.reduceLT, implies_true]
      exact h _ List.filter_sublist
  | k :: ks, lf, fd, s5, s6, hk, hl, h1, h2 => by
    rw [List.length_cons] at hk
    have ih := fun lf fd s5 s6 => lot_loop (P := P) (s2 := s2) hv hn hok h ks lf fd s5 s6
    rw [loop_cons]
    generalize loopW (bindW 5) b__law_lot_upto_1 _ _ = L at ih ⊢
    try simp only [wv1, wv2, wv3, wv4, wv5, wv6, wv7, wv8, Nat.reduceSub, Nat.reduceAdd, reduceCtorEq, ↓reduceIte, Nat.reduceLeDiff, Nat.reduceLT, implies_true, b__law_lot_upto_1, appPopW]
    refine ⟨by decide, ?_⟩
    rw [List.length_map, List.length_map]
    refine ⟨by omega, nat_log (by omega), fun i h0 h3 => ⟨by omega, by omega, ?_⟩⟩
    obtain ⟨j, rfl⟩ := Int.eq_ofNat_of_zero_le h0
    have hj : j < lf.length := by omega
    refine ⟨j, rfl, prT lf[j], by rw [List.getElem?_map, List.getElem?_eq_getElem hj]; rfl, ?_⟩
    try simp only [wv1, wv2, wv3, wv4, wv5, wv6, wv7, wv8, Nat.reduceSub, Nat.reduceAdd, reduceCtorEq, ↓reduceIte, Nat.reduceLeDiff, Nat.reduceLT, implies_true]
    have e1 : (lf.map prT).eraseIdx j = (lf.eraseIdx j).map prT := erase_map prT lf j
    have e2 : fd.map prT ++ [prT lf[j]] = (fd ++ [lf[j]]).map prT := by rw [List.map_append]; rfl
    rw [e1, e2]
    have hle := List.length_eraseIdx_of_lt hj
    exact ih _ _ _ _ (by omega) (by rw [List.length_append]; simp; omega) (fun r hr => h1 r (List.mem_of_mem_eraseIdx hr)) fun r hr => by
      rcases List.mem_append.mp hr with hr | hr
      · exact h2 r hr
      · rw [List.mem_singleton.mp hr]
        exact h1 _ (List.getElem_mem hj)
theorem lot_upto_w {P : PyData → Prop} {v : PyData} {m : Nat} (hv : v = .list (rs.map prT) ∨ v = .tuple (rs.map prT)) (hm : m ≤ 1000) (hn : rs.length ≤ 50) (hok : Nm rs) (h : ∀ qs : List P2, qs.Sublist rs → P (lT qs)) : w__law_lot_upto [.bag, .dat v, .dat (.int (m : Nat))] P := by
  have go := fun j (hj : j ≤ rs.length) => lot_loop (P := P) (s2 := some (.dat (.int (m : Nat)))) hv (by omega) hok h ((List.range' 0 j).map fun (j : Nat) => PyData.int (j : Int)) rs [] none none (by rw [List.length_map, List.length_range']; omega) (by rw [List.length_nil]; omega) (fun _ h => h) (fun _ h => nomatch h)
  have e1 : ((m : Nat) : Int) + 1 = ((m + 1 : Nat) : Int) := by omega
  unfold w__law_lot_upto
  rcases hv with rfl | rfl
  all_goals
    try simp only [wv1, wv2, wv3, wv4, wv5, wv6, wv7, wv8, Nat.reduceSub, Nat.reduceAdd, reduceCtorEq, ↓reduceIte, Nat.reduceLeDiff, Nat.reduceLT, implies_true]
    rw [e1]
    refine ⟨by omega, nat_log (by omega), fun i h0 h1 => ?_⟩
    rw [List.length_map]
    obtain ⟨j, rfl⟩ := Int.eq_ofNat_of_zero_le h0
    have em : (if (j : Int) < ((rs.length : Nat) : Int) then (j : Int) else ((rs.length : Nat) : Int)) = ((min j rs.length : Nat) : Int) := by
      split <;> omega
    rw [em, rangeD_nat]
    refine ⟨by omega, by omega, ?_⟩
    have := go (min j rs.length) (by omega)
    unfold retEnds at this
    try simp only [wv1, wv2, wv3, wv4, wv5, wv6, wv7, wv8, Nat.reduceSub, Nat.reduceAdd, reduceCtorEq, ↓reduceIte, Nat.reduceLeDiff, Nat.reduceLT, implies_true] at this
    exact this
end
section
variable {P : PyData → Prop}
theorem pairs4 {ss : List Str} (h : ss.length = 4) : (pairsR ss).length = 6 := by
  match ss, h with
  | [a, b, c, d], _ => rfl
/-- drawn pairs -/
structure Prs (qs : List P2) : Prop where
  nm : Nm qs
  lt : ∀ r ∈ qs, ltS r.1 r.2 = true
  ap : AscP qs
  l6 : qs.length ≤ 6
theorem Prs.sub {qs X : List P2} (h : Prs qs) (hX : X.Sublist qs) : Prs X := ⟨fun r hr => h.nm r (hX.subset hr), fun r hr => h.lt r (hX.subset hr), h.ap.sublist hX, Nat.le_trans hX.length_le h.l6⟩
theorem drawn_pairs_w (h : ∀ qs, Prs qs → P (.list (qs.map prT))) : w__law_drawn_pairs [.bag] P := by
  unfold w__law_drawn_pairs
  try simp only [wv1, wv2, wv3, wv4, wv5, wv6, wv7, wv8, Nat.reduceSub, Nat.reduceAdd, reduceCtorEq, ↓reduceIte, Nat.reduceLeDiff, Nat.reduceLT, implies_true]
  refine names_w (n := 4) (by decide) (by decide) fun ss hs hl => ?_
  try simp only [wv1, wv2, wv3, wv4, wv5, wv6, wv7, wv8, Nat.reduceSub, Nat.reduceAdd, reduceCtorEq, ↓reduceIte, Nat.reduceLeDiff, Nat.reduceLT, implies_true]
  refine law_all_pairs_w (.inl rfl) hs.l8 ?_
  have hs2 := hs.sorted
  have hl2 : (sortS ss).length = 4 := by rw [sortS_len]; exact hl
  have lt0 : (sortS ss).Pairwise fun a b => ltS a b = true := sortS_lt hs.nd
  have hp : Prs (pairsR (sortS ss)) := by
    refine ⟨fun r hr => ?_, fun r hr => pairsR_lt lt0 hr, ?_, by rw [pairs4 hl2]; exact Nat.le_refl _⟩
    · have := pairsR_mem hr
      exact ⟨hs2.nm _ this.1, hs2.nm _ this.2⟩
    · exact ((pairsR_pw lt0).and (pairsR_nodup hs2.nd)).imp fun h => ltP_of h.1 h.2
  try simp only [wv1, wv2, wv3, wv4, wv5, wv6, wv7, wv8, Nat.reduceSub, Nat.reduceAdd, reduceCtorEq, ↓reduceIte, Nat.reduceLeDiff, Nat.reduceLT, implies_true]
  refine lot_upto_w (m := 6) (.inl rfl) (by decide) (by have := hp.l6; omega) hp.nm fun qs hq => ?_
  try simp only [wv1, wv2, wv3, wv4, wv5, wv6, wv7, wv8, Nat.reduceSub, Nat.reduceAdd, reduceCtorEq, ↓reduceIte, Nat.reduceLeDiff, Nat.reduceLT, implies_true]
  exact h qs (hp.sub hq)
end
end Lw
namespace Lw
open PySem DL FSt Mx
variable [CTab]
section
variable {P : PyData → Prop}
abbrev tt (_ : List P2) : Bool := true
theorem hold_put2 {acc : List (List P2)} {X : List P2} (h : X ∈ acc) : putD (holdK tt acc) (lT X) (.bool true) = holdK tt acc := by
  unfold putD
  have e : ((holdK tt acc).any fun p => PyData.eqv p.1 (lT X)) = true := by
    rw [List.any_eq_true]
    exact ⟨(lT X, .bool true), List.mem_map.mpr ⟨X, h, rfl⟩, by
      have := eqv_lT X X
      rw [decide_eq_true rfl] at this
      exact this⟩
  rw [e, if_pos rfl]
  unfold holdK
  rw [List.map_map]
  refine List.map_congr_left fun Y _ => ?_
  show (if PyData.eqv (lT Y) (lT X) = true then (lT Y, PyData.bool true) else (lT Y, .bool true)) = _
  split <;> rfl
theorem hold_len (m : List P2 → Bool) (acc : List (List P2)) : (holdK m acc).length = acc.length := by
  unfold holdK
  rw [List.length_map]
theorem hold_fst (m : List P2 → Bool) (acc : List (List P2)) : (holdK m acc).map (·.1) = acc.map lT := hold_keys m acc
/-- drawn lots -/
structure Drawn (qs : List P2) (acc : List (List P2)) (n : Nat) : Prop where
  nd : acc.Nodup
  ln : acc.length ≤ n
  sb : ∀ X ∈ acc, X.Sublist qs
theorem drawn_loop {qs : List P2} {m : Nat} {W : WD} (hq : Prs qs) (hm : m ≤ 1000) {N : Nat} (hN : N ≤ 1000) (h : ∀ acc s4 s5, Drawn qs acc N → W.nx [some .bag, some (.dat (.list (qs.map prT))), some (.dat (.int (m : Nat))), some (.owd true (holdK tt acc)), s4, s5]) :
    ∀ (ds : List PyData) (n : Nat) (acc : List (List P2)) (s4 s5 : Option Sl), n + ds.length = N → Drawn qs acc n →
      loopW (bindW 4) b__law_drawn_lots_1 W ds [some .bag, some (.dat (.list (qs.map prT))), some (.dat (.int (m : Nat))), some (.owd true (holdK tt acc)), s4, s5]
  | [], n, acc, s4, s5, hn, D => by
    rw [loop_nil]
    have e : n = N := by simpa using hn
    subst e
    exact h _ _ _ D
  | d :: ds, n, acc, s4, s5, hn, D => by
    rw [List.length_cons] at hn
    have ih := fun acc s4 s5 D => drawn_loop hq hm hN h ds (n + 1) acc s4 s5 (by omega) D
    rw [loop_cons]
    generalize loopW (bindW 4) b__law_drawn_lots_1 _ _ = LL at ih ⊢
    have D1 : Drawn qs acc (n + 1) := ⟨D.nd, by have := D.ln; omega, D.sb⟩
    have hl6 := hq.l6
    have hD := D.ln
    unfold b__law_drawn_lots_1
    try simp only [wv1, wv2, wv3, wv4, wv5, wv6, wv7, wv8, Nat.reduceSub, Nat.reduceAdd, reduceCtorEq, ↓reduceIte, Nat.reduceLeDiff, Nat.reduceLT, implies_true]
    refine lot_upto_w (.inl rfl) hm (by omega) hq.nm fun X hX => ?_
    have hNX : Nm X := fun r hr => hq.nm r (hX.subset hr)
    have fin : LL [some .bag, some (.dat (.list (qs.map prT))), some (.dat (.int (m : Nat))), some (.owd true (putD (holdK tt acc) (lT X) (.bool true))), some (.dat d), some (.dat (lT X))] := by
      by_cases c : X ∈ acc
      · rw [hold_put2 c]
        exact ih acc _ _ D1
      · have := hold_put (m := tt) c
        rw [this]
        refine ih _ _ _ ⟨?_, by rw [List.length_append, List.length_singleton]; omega, fun Y hY => ?_⟩
        · rw [List.Nodup, List.pairwise_append]
          exact ⟨D.nd, List.pairwise_singleton _ _, fun a ha b hb e => c (by rw [← List.mem_singleton.mp hb, ← e]; exact ha)⟩
        · rcases List.mem_append.mp hY with hY | hY
          · exact D.sb Y hY
          · rw [List.mem_singleton.mp hY]
            exact hX
    have skip := ih acc (some (.dat d)) (some (.dat (lT X))) D1
    have go : ∀ c : Bool, (if c = true then storeDW [] 3 (varW 5) (cW (.bool true)) ⟨LL, W.rt, W.nx, LL⟩ [some .bag, some (.dat (.list (qs.map prT))), some (.dat (.int (m : Nat))), some (.owd true (holdK tt acc)), some (.dat d), some (.dat (lT X))] else LL [some .bag, some (.dat (.list (qs.map prT))), some (.dat (.int (m : Nat))), some (.owd true (holdK tt acc)), some (.dat d), some (.dat (lT X))]) := fun c => by
      cases c with
      | false => exact skip
      | true =>
        rw [if_pos rfl]
        try simp only [wv1, wv2, wv3, wv4, wv5, wv6, wv7, wv8, Nat.reduceSub, Nat.reduceAdd, reduceCtorEq, ↓reduceIte, Nat.reduceLeDiff, Nat.reduceLT, implies_true, storeDW, keyOk]
        rw [hold_len]
        exact ⟨isTd_lT X, by omega, fin⟩
    try simp only [wv1, wv2, wv3, wv4, wv5, wv6, wv7, wv8, Nat.reduceSub, Nat.reduceAdd, reduceCtorEq, ↓reduceIte, Nat.reduceLeDiff, Nat.reduceLT, implies_true]
    show neBW (.tuple (X.map prT)) (.tuple []) _
    refine neB_tt (shaped_lT hNX) rfl ?_
    cases c : (!PyData.eqv (.tuple (X.map prT)) (.tuple [])) with
    | true => exact go true
    | false => exact ⟨by decide, by decide, fun i _ _ => go _⟩
theorem drawn_lots_w {qs : List P2} (hq : Prs qs) (h : ∀ L : List (List P2), AscL L → L.length ≤ 6 → (∀ X ∈ L, X.Sublist qs) → P (.tuple (L.map lT))) : w__law_drawn_lots [.bag, .dat (.list (qs.map prT))] P := by
  have hl6 := hq.l6
  unfold w__law_drawn_lots
  try simp only [wv1, wv2, wv3, wv4, wv5, wv6, wv7, wv8, Nat.reduceSub, Nat.reduceAdd, reduceCtorEq, ↓reduceIte, Nat.reduceLeDiff, Nat.reduceLT, implies_true]
  rw [List.length_map]
  refine one_of_w (ds := [.int 1, .int 2, .int 3, .int ((qs.length : Nat) : Int)]) (.inl rfl) (by simp) (by simp) fun d hd => ?_
  obtain ⟨m, hm, rfl⟩ : ∃ m : Nat, m ≤ 1000 ∧ d = .int (m : Nat) := by
    simp only [List.mem_cons, List.not_mem_nil, or_false] at hd
    rcases hd with rfl | rfl | rfl | rfl
    · exact ⟨1, by decide, rfl⟩
    · exact ⟨2, by decide, rfl⟩
    · exact ⟨3, by decide, rfl⟩
    · exact ⟨qs.length, by omega, rfl⟩
  try simp only [wv1, wv2, wv3, wv4, wv5, wv6, wv7, wv8, Nat.reduceSub, Nat.reduceAdd, reduceCtorEq, ↓reduceIte, Nat.reduceLeDiff, Nat.reduceLT, implies_true, owdNewW]
  refine ⟨by decide, by decide, fun i h0 h1 => ?_⟩
  obtain ⟨j, rfl⟩ := Int.eq_ofNat_of_zero_le h0
  rw [rangeD_nat]
  refine ⟨by omega, by omega, ?_⟩
  refine drawn_loop (N := j) hq hm (by omega) (fun acc s4 s5 D => ?_) _ 0 [] none none (by rw [List.length_map, List.length_range', Nat.zero_add]) ⟨List.Pairwise.nil, Nat.zero_le _, fun X hX => nomatch hX⟩
  try simp only [wv1, wv2, wv3, wv4, wv5, wv6, wv7, wv8, Nat.reduceSub, Nat.reduceAdd, reduceCtorEq, ↓reduceIte, Nat.reduceLeDiff, Nat.reduceLT, implies_true]
  have hD := D.ln
  refine ⟨fun z hz => ?_, ?_, by rw [hold_len]; omega, ?_⟩
  · obtain ⟨X, _, rfl⟩ := List.mem_map.mp hz
    exact isTd_lT X
  · rw [hold_fst]
    exact srtX_lots acc
  · rw [hold_fst, sortD_lots]
    try simp only [wv1, wv2, wv3, wv4, wv5, wv6, wv7, wv8, Nat.reduceSub, Nat.reduceAdd, reduceCtorEq, ↓reduceIte, Nat.reduceLeDiff, Nat.reduceLT, implies_true]
    exact h (sortL acc) (sortL_asc D.nd) (by rw [show (sortL acc).length = acc.length from (List.mergeSort_perm _ _).length_eq]; omega) fun X hX => D.sb X (sortL_mem.mp hX)
structure Parts (pre : List P2) (S : List (List P2)) : Prop where
  nd : S.Nodup
  ln : S.length ≤ 2 ^ pre.length
  mem : ∀ X, X ∈ S ↔ X.Sublist pre
theorem sub_snoc {X pre : List P2} {p : P2} : X.Sublist (pre ++ [p]) ↔ X.Sublist pre ∨ ∃ Y, X = Y ++ [p] ∧ Y.Sublist pre := by
  constructor
  · intro h
    obtain ⟨a, b, rfl, h1, h2⟩ := List.sublist_append_iff.mp h
    cases h2 with
    | cons _ h2 =>
      cases h2
      exact .inl (by rw [List.append_nil]; exact h1)
    | cons_cons _ h2 =>
      cases h2
      exact .inr ⟨a, rfl, h1⟩
  · rintro (h | ⟨Y, rfl, h⟩)
    · exact h.trans (List.sublist_append_left _ _)
    · exact h.append (List.Sublist.refl _)
theorem Parts.snoc {pre : List P2} {S : List (List P2)} {p : P2} (h : Parts pre S) (nd : (pre ++ [p]).Nodup) : Parts (pre ++ [p]) (S ++ S.map fun X => X ++ [p]) := by
  have hp : p ∉ pre := fun z => by
    rw [List.Nodup, List.pairwise_append] at nd
    exact nd.2.2 p z p (.head _) rfl
  refine ⟨?_, ?_, fun X => ?_⟩
  · rw [List.Nodup, List.pairwise_append]
    refine ⟨h.nd, List.pairwise_map.mpr (h.nd.imp fun ne e => ne (List.append_cancel_right e)), fun a ha b hb e => ?_⟩
    obtain ⟨Y, _, rfl⟩ := List.mem_map.mp hb
    have := ((h.mem a).mp ha).subset (by rw [e]; exact List.mem_append_right _ (.head _) : p ∈ a)
    exact hp this
  · rw [List.length_append, List.length_map, List.length_append, List.length_singleton, Nat.pow_succ]
    have := h.ln
    omega
  · rw [List.mem_append, List.mem_map, sub_snoc, h.mem]
    constructor
    · rintro (h1 | ⟨Y, h1, rfl⟩)
      · exact .inl h1
      · exact .inr ⟨Y, rfl, (h.mem Y).mp h1⟩
    · rintro (h1 | ⟨Y, rfl, h1⟩)
      · exact .inl h1
      · exact .inr ⟨Y, (h.mem Y).mpr h1, rfl⟩
theorem sub_loop {M : List P2} {W : WD} (hM : M.length ≤ 6) (nd : M.Nodup) (h : ∀ S s2 s3 s4, Parts M S → W.nx [some (.dat (.list (M.map prT))), some (.dat (.list (S.map lT))), s2, s3, s4]) :
    ∀ (suf pre : List P2) (S : List (List P2)) (s2 s3 s4 : Option Sl), M = pre ++ suf → Parts pre S → loopW (bindW 2) b__law_sublots_1 W (suf.map prT) [some (.dat (.list (M.map prT))), some (.dat (.list (S.map lT))), s2, s3, s4]
  | [], pre, S, s2, s3, s4, e, hS => by
    rw [List.append_nil] at e
    subst e
    rw [List.map_nil, loop_nil]
    exact h _ _ _ _ hS
  | p :: suf, pre, S, s2, s3, s4, e, hS => by
    have e2 : M = (pre ++ [p]) ++ suf := by rw [e, List.append_assoc]; rfl
    have ih := fun S s2 s3 s4 hS => sub_loop hM nd h suf (pre ++ [p]) S s2 s3 s4 e2 hS
    have nd2 : (pre ++ [p]).Nodup := nd.sublist (by rw [e2]; exact List.sublist_append_left _ _)
    rw [List.map_cons, loop_cons]
    generalize loopW (bindW 2) b__law_sublots_1 _ _ = LL at ih ⊢
    have hpre : pre.length ≤ 6 := by
      have := congrArg List.length e
      rw [List.length_append] at this
      omega
    have hSl : S.length ≤ 64 := Nat.le_trans hS.ln (Nat.le_trans (Nat.pow_le_pow_right (by decide) hpre) (by decide))
    unfold b__law_sublots_1
    try simp only [wv1, wv2, wv3, wv4, wv5, wv6, wv7, wv8, Nat.reduceSub, Nat.reduceAdd, reduceCtorEq, ↓reduceIte, Nat.reduceLeDiff, Nat.reduceLT, implies_true]
    refine ⟨by rw [List.length_map]; omega, cmp_enc (enc := lT) (fun X => lT (X ++ [p])) (fun X hX R hR => ?_) ?_⟩
    · have hXl : X.length ≤ 6 := Nat.le_trans ((hS.mem X).mp hX).length_le hpre
      unfold lT
      try simp only [wv1, wv2, wv3, wv4, wv5, wv6, wv7, wv8, Nat.reduceSub, Nat.reduceAdd, reduceCtorEq, ↓reduceIte, Nat.reduceLeDiff, Nat.reduceLT, implies_true]
      have e3 : X.map prT ++ [prT p] = (X ++ [p]).map prT := by rw [List.map_append]; rfl
      rw [e3]
      exact ⟨by rw [List.length_map]; first | omega | (simp; omega), hR⟩
    · rw [List.nil_append]
      try simp only [wv1, wv2, wv3, wv4, wv5, wv6, wv7, wv8, Nat.reduceSub, Nat.reduceAdd, reduceCtorEq, ↓reduceIte, Nat.reduceLeDiff, Nat.reduceLT, implies_true]
      have e4 : S.map lT ++ S.map (fun X => lT (X ++ [p])) = (S ++ S.map fun X => X ++ [p]).map lT := by rw [List.map_append, List.map_map]; rfl
      rw [e4]
      exact ⟨by rw [List.length_map, List.length_map]; omega, ih _ _ _ _ (hS.snoc nd2)⟩
def enc2 (X : List P2) : PyData := .tuple [.int ((X.length : Nat) : Int), lT X]
theorem srtOk_enc2 (S : List (List P2)) : srtOk (S.map enc2) := by
  refine ⟨fun d hd e he => ?_, .inl (.inl fun d hd => ?_), fun d hd => ?_⟩
  · obtain ⟨a, _, rfl⟩ := List.mem_map.mp hd
    obtain ⟨b, _, rfl⟩ := List.mem_map.mp he
    have := alike_lT a b
    show PySem.W.alike (.tuple [.int _, lT a]) (.tuple [.int _, lT b]) = true
    simp [PySem.W.alike, PySem.W.alikeAll, this]
  · obtain ⟨a, _, rfl⟩ := List.mem_map.mp hd
    exact ⟨_, _, rfl⟩
  · obtain ⟨a, _, rfl⟩ := List.mem_map.mp hd
    have := depth_lT a
    refine ⟨?_, ?_⟩
    · show (PyData.tuple [.int _, lT a]).depth ≤ 20
      rw [PyData.depth, PyData.depthAll, PyData.depthAll, PyData.depthAll, PyData.depth]
      omega
    · show (FSt.nkD (.tuple [.int _, lT a])).isSome = true
      rw [FSt.nkD, Option.isSome_map]
      exact nkSome fun d hd => by
        simp only [List.mem_cons, List.not_mem_nil, or_false] at hd
        rcases hd with rfl | rfl
        · rfl
        · exact nk_lT a
theorem sublots_w {M : List P2} (hM : M.length ≤ 6) (nd : M.Nodup) (h : ∀ S, Parts M S → P (.list (S.map lT))) : w__law_sublots [.dat (.list (M.map prT))] P := by
  have go := fun W hW => sub_loop (W := W) hM nd hW M [] [[]] none none none rfl ⟨List.nodup_cons.mpr ⟨List.not_mem_nil, List.Pairwise.nil⟩, Nat.le_refl _, fun X => by rw [List.mem_singleton, List.sublist_nil]⟩
  unfold w__law_sublots
  try simp only [wv1, wv2, wv3, wv4, wv5, wv6, wv7, wv8, Nat.reduceSub, Nat.reduceAdd, reduceCtorEq, ↓reduceIte, Nat.reduceLeDiff, Nat.reduceLT, implies_true]
  refine go _ fun S s2 s3 s4 hS => ?_
  have hSl : S.length ≤ 64 := Nat.le_trans hS.ln (Nat.le_trans (Nat.pow_le_pow_right (by decide) hM) (by decide))
  try simp only [wv1, wv2, wv3, wv4, wv5, wv6, wv7, wv8, Nat.reduceSub, Nat.reduceAdd, reduceCtorEq, ↓reduceIte, Nat.reduceLeDiff, Nat.reduceLT, implies_true]
  refine ⟨by rw [List.length_map]; omega, cmp_enc (enc := lT) enc2 (fun X hX R hR => ?_) ?_⟩
  · unfold lT
    try simp only [wv1, wv2, wv3, wv4, wv5, wv6, wv7, wv8, Nat.reduceSub, Nat.reduceAdd, reduceCtorEq, ↓reduceIte, Nat.reduceLeDiff, Nat.reduceLT, implies_true]
    rw [List.length_map]
    exact hR
  · rw [List.nil_append]
    try simp only [wv1, wv2, wv3, wv4, wv5, wv6, wv7, wv8, Nat.reduceSub, Nat.reduceAdd, reduceCtorEq, ↓reduceIte, Nat.reduceLeDiff, Nat.reduceLT, implies_true]
    refine ⟨srtOk_enc2 S, by rw [List.length_map]; omega, ?_⟩
    have e5 : sortD (S.map enc2) = (S.mergeSort fun a b => dle (enc2 a) (enc2 b)).map enc2 := (List.map_mergeSort (r := fun a b => dle (enc2 a) (enc2 b)) (s := PySem.W.dataLe false id) (f := enc2) (l := S) (fun a _ b _ => rfl)).symm
    have pm : (S.mergeSort fun a b => dle (enc2 a) (enc2 b)).Perm S := List.mergeSort_perm _ _
    rw [e5]
    generalize (S.mergeSort fun a b => dle (enc2 a) (enc2 b)) = S2 at pm
    try simp only [wv1, wv2, wv3, wv4, wv5, wv6, wv7, wv8, Nat.reduceSub, Nat.reduceAdd, reduceCtorEq, ↓reduceIte, Nat.reduceLeDiff, Nat.reduceLT, implies_true]
    refine ⟨by rw [List.length_map, pm.length_eq]; omega, cmp_enc (enc := enc2) lT (fun X hX R hR => ?_) ?_⟩
    · unfold enc2
      try simp only [wv1, wv2, wv3, wv4, wv5, wv6, wv7, wv8, Nat.reduceSub, Nat.reduceAdd, reduceCtorEq, ↓reduceIte, Nat.reduceLeDiff, Nat.reduceLT, implies_true]
      exact hR
    · rw [List.nil_append]
      try simp only [wv1, wv2, wv3, wv4, wv5, wv6, wv7, wv8, Nat.reduceSub, Nat.reduceAdd, reduceCtorEq, ↓reduceIte, Nat.reduceLeDiff, Nat.reduceLT, implies_true]
      exact h S2 ⟨pm.symm.nodup hS.nd, by rw [pm.length_eq]; exact hS.ln, fun X => by rw [pm.mem_iff]; exact hS.mem X⟩
end
end Lw
namespace Lw
open PySem DL FSt Mx
variable [CTab]
section
variable {P : PyData → Prop} {X Y : List P2} {L : List (List P2)}
theorem empty_fil {α : Type} (p : α → Bool) : ∀ l : List α, (l.filter p).isEmpty = !(l.any p)
  | [] => rfl
  | a :: l => by
    rw [List.filter_cons, List.any_cons]
    cases p a with
    | true => rfl
    | false => exact empty_fil p l
theorem law_within_w (hX : X.length ≤ 1000) (hN : Nm X) (hNY : Nm Y) (h : P (.bool (Mt.sub X Y))) : w__law_is_within [.dat (lT X), .dat (lT Y)] P := by
  unfold w__law_is_within lT
  try simp only [wv1, wv2, wv3, wv4, wv5, wv6, wv7, wv8, Nat.reduceSub, Nat.reduceAdd, reduceCtorEq, ↓reduceIte, Nat.reduceLeDiff, Nat.reduceLT, implies_true]
  refine ⟨by rw [List.length_map]; omega, fil_enc (enc := prT) (fun x => decide (x ∉ Y)) prT (fun x hx R N hRN => ?_) ?_⟩
  · try simp only [wv1, wv2, wv3, wv4, wv5, wv6, wv7, wv8, Nat.reduceSub, Nat.reduceAdd, reduceCtorEq, ↓reduceIte, Nat.reduceLeDiff, Nat.reduceLT, implies_true, inXW]
    refine ⟨Y.map prT, rfl, (shaped_prT (hN x hx).1 (hN x hx).2).1, seqB_prs hNY, ?_⟩
    rw [any_prs]
    have e : (xor true (decide (x ∈ Y))) = decide (x ∉ Y) := by simp
    rw [e]
    exact hRN
  · rw [List.nil_append]
    try simp only [wv1, wv2, wv3, wv4, wv5, wv6, wv7, wv8, Nat.reduceSub, Nat.reduceAdd, reduceCtorEq, ↓reduceIte, Nat.reduceLeDiff, Nat.reduceLT, implies_true]
    refine eqB_ll (seqB_prs fun z hz => hN z (List.mem_filter.mp hz).1) rfl ?_
    rw [eqv_nilL]
    have e : ((X.filter fun x => decide (x ∉ Y)).map prT).isEmpty = Mt.sub X Y := by
      rw [List.isEmpty_map, empty_fil]
      rw [Bool.eq_iff_iff, Mt.sub_iff, Bool.not_eq_true', List.any_eq_false]
      simp
    rw [e]
    exact h
theorem least_lots_w {v : PyData} (hv : v = .list (L.map lT) ∨ v = .tuple (L.map lT)) (hl : L.length ≤ 1000) (hN : ∀ A ∈ L, Nm A) (hA : ∀ A ∈ L, A.length ≤ 1000) (nd : L.Nodup)
    (h : ∀ T : List (List P2), AscL T → (∀ X, X ∈ T ↔ X ∈ L ∧ Mt.leastB L X = true) → P (.tuple (T.map lT))) : w__law_least_lots [.dat v] P := by
  have wq : ∀ {R : List PyData → Prop}, R (L.map lT) → walkQ v R := fun {R} h => by
    rcases hv with rfl | rfl <;> exact h
  have loop : ∀ (W : WD), (∀ s2 s3, W.nx [some (.dat v), some (.own ((L.filter fun X => Mt.leastB L X).map lT)), s2, s3]) → ∀ (suf pre : List (List P2)) (s2 s3 : Option Sl), L = pre ++ suf →
      loopW (bindW 2) b__law_least_lots_1 W (suf.map lT) [some (.dat v), some (.own ((pre.filter fun X => Mt.leastB L X).map lT)), s2, s3] := fun W hW suf => by
    induction suf with
    | nil =>
      intro pre s2 s3 e
      rw [List.append_nil] at e
      rw [List.map_nil, loop_nil, ← e]
      exact hW _ _
    | cons X suf ih =>
      intro pre s2 s3 e
      have e2 : L = (pre ++ [X]) ++ suf := by rw [e, List.append_assoc]; rfl
      have ih := fun s2 s3 => ih (pre ++ [X]) s2 s3 e2
      rw [List.map_cons, loop_cons]
      generalize loopW (bindW 2) b__law_least_lots_1 _ _ = LL at ih ⊢
      have hX : X ∈ L := by rw [e]; exact List.mem_append_right _ (.head _)
      have hpl : (pre.filter fun X => Mt.leastB L X).length ≤ 1000 := by
        have h1 := List.length_filter_le (fun X => Mt.leastB L X) pre
        have h2 := congrArg List.length e
        rw [List.length_append] at h2
        omega
      have hNX := hN X hX
      unfold b__law_least_lots_1
      try simp only [wv1, wv2, wv3, wv4, wv5, wv6, wv7, wv8, Nat.reduceSub, Nat.reduceAdd, reduceCtorEq, ↓reduceIte, Nat.reduceLeDiff, Nat.reduceLT, implies_true]
      refine wq ⟨by rw [List.length_map]; omega, fil_enc (enc := lT) (fun Y => decide (Y ≠ X) && Mt.sub Y X) lT (fun Y hY R N hRN => ?_) ?_⟩
      · have hNY := hN Y hY
        try simp only [wv1, wv2, wv3, wv4, wv5, wv6, wv7, wv8, Nat.reduceSub, Nat.reduceAdd, reduceCtorEq, ↓reduceIte, Nat.reduceLeDiff, Nat.reduceLT, implies_true]
        show neBW (.tuple (Y.map prT)) (.tuple (X.map prT)) _
        refine neB_tt (shaped_lT hNY) (shaped_lT hNX) ?_
        rw [show PyData.eqv (.tuple (Y.map prT)) (.tuple (X.map prT)) = decide (Y = X) from eqv_lT Y X]
        by_cases c : Y = X
        · rw [decide_eq_true c]
          have : (decide (Y ≠ X) && Mt.sub Y X) = false := by simp [c]
          rw [this] at hRN
          try simp only [wv1, wv2, wv3, wv4, wv5, wv6, wv7, wv8, Nat.reduceSub, Nat.reduceAdd, reduceCtorEq, ↓reduceIte, Nat.reduceLeDiff, Nat.reduceLT, implies_true]
          exact hRN
        · rw [decide_eq_false c]
          have : (decide (Y ≠ X) && Mt.sub Y X) = Mt.sub Y X := by simp [c]
          rw [this] at hRN
          try simp only [wv1, wv2, wv3, wv4, wv5, wv6, wv7, wv8, Nat.reduceSub, Nat.reduceAdd, reduceCtorEq, ↓reduceIte, Nat.reduceLeDiff, Nat.reduceLT, implies_true]
          exact law_within_w (hA Y hY) hNY hNX hRN
      · rw [List.nil_append]
        try simp only [wv1, wv2, wv3, wv4, wv5, wv6, wv7, wv8, Nat.reduceSub, Nat.reduceAdd, reduceCtorEq, ↓reduceIte, Nat.reduceLeDiff, Nat.reduceLT, implies_true]
        refine eqB_ll (shaped_lots fun Z hZ => hN Z (List.mem_filter.mp hZ).1) rfl ?_
        rw [eqv_nilL, List.isEmpty_map, empty_fil]
        have eB : (!(L.any fun Y => decide (Y ≠ X) && Mt.sub Y X)) = Mt.leastB L X := rfl
        rw [eB]
        have fl : (pre ++ [X]).filter (fun X => Mt.leastB L X) = pre.filter (fun X => Mt.leastB L X) ++ if Mt.leastB L X = true then [X] else [] := by
          rw [List.filter_append, List.filter_cons, List.filter_nil]
        rw [fl] at ih
        cases c : Mt.leastB L X with
        | true =>
          rw [c, if_pos rfl, List.map_append] at ih
          try simp only [wv1, wv2, wv3, wv4, wv5, wv6, wv7, wv8, Nat.reduceSub, Nat.reduceAdd, reduceCtorEq, ↓reduceIte, Nat.reduceLeDiff, Nat.reduceLT, implies_true]
          rw [List.length_map]
          exact ⟨by omega, ih _ _⟩
        | false =>
          rw [c, if_neg Bool.false_ne_true, List.append_nil] at ih
          try simp only [wv1, wv2, wv3, wv4, wv5, wv6, wv7, wv8, Nat.reduceSub, Nat.reduceAdd, reduceCtorEq, ↓reduceIte, Nat.reduceLeDiff, Nat.reduceLT, implies_true]
          exact ih _ _
  have fin : srtOk ((L.filter fun X => Mt.leastB L X).map lT) := by
    refine srtOk_lots ?_
    by_cases c : [] ∈ L.filter fun X => Mt.leastB L X
    · left
      refine all_same (nd.sublist List.filter_sublist) fun X hX => ?_
      rw [List.mem_filter] at c hX
      exact ((Mt.leastB_iff.mp hX.2) [] c.1 fun y hy => absurd hy List.not_mem_nil).symm
    · right
      intro X hX e
      exact c (e ▸ hX)
  have hT := h (sortL (L.filter fun X => Mt.leastB L X)) (sortL_asc (nd.sublist List.filter_sublist)) fun X => by rw [sortL_mem, List.mem_filter]
  unfold w__law_least_lots
  try simp only [wv1, wv2, wv3, wv4, wv5, wv6, wv7, wv8, Nat.reduceSub, Nat.reduceAdd, reduceCtorEq, ↓reduceIte, Nat.reduceLeDiff, Nat.reduceLT, implies_true]
  refine wq (loop _ (fun s2 s3 => ?_) L [] none none rfl)
  try simp only [wv1, wv2, wv3, wv4, wv5, wv6, wv7, wv8, Nat.reduceSub, Nat.reduceAdd, reduceCtorEq, ↓reduceIte, Nat.reduceLeDiff, Nat.reduceLT, implies_true]
  refine ⟨fin, by rw [List.length_map]; have := List.length_filter_le (fun X => Mt.leastB L X) L; omega, ?_⟩
  rw [sortD_lots]
  try simp only [wv1, wv2, wv3, wv4, wv5, wv6, wv7, wv8, Nat.reduceSub, Nat.reduceAdd, reduceCtorEq, ↓reduceIte, Nat.reduceLeDiff, Nat.reduceLT, implies_true]
  exact hT
end
end Lw
namespace Lw
open PySem DL FSt Mx
variable [CTab]
section
variable {P : PyData → Prop}
theorem meetings_w {M : List P2} {L : List (List P2)} (hM : M.length ≤ 6) (aM : AscP M) (nM : Nm M) (hL : L.length ≤ 1000) (hN : ∀ A ∈ L, Nm A)
    (h : ∀ T : List (List P2), AscL T → (∀ X, X ∈ T ↔ X.Sublist M ∧ Mt.leastA L X = true) → P (.tuple (T.map lT))) : w__law_meetings [.dat (.tuple (L.map lT)), .dat (.list (M.map prT))] P := by
  unfold w__law_meetings
  try simp only [wv1, wv2, wv3, wv4, wv5, wv6, wv7, wv8, Nat.reduceSub, Nat.reduceAdd, reduceCtorEq, ↓reduceIte, Nat.reduceLeDiff, Nat.reduceLT, implies_true]
  refine sublots_w hM aM.nd fun S hS => ?_
  have hSl : S.length ≤ 64 := Nat.le_trans hS.ln (Nat.le_trans (Nat.pow_le_pow_right (by decide) hM) (by decide))
  have nS : ∀ X ∈ S, Nm X := fun X hX r hr => nM r (((hS.mem X).mp hX).subset hr)
  have lS : ∀ X ∈ S, X.length ≤ 6 := fun X hX => Nat.le_trans ((hS.mem X).mp hX).length_le hM
  have loop : ∀ (W : WD), (∀ s3 s4 s5, W.nx [some (.dat (.tuple (L.map lT))), some (.dat (.list (M.map prT))), some (.own ((S.filter fun X => Mt.meets X L).map lT)), s3, s4, s5]) → ∀ (suf pre : List (List P2)) (s3 s4 s5 : Option Sl), S = pre ++ suf →
      loopW (bindW 3) b__law_meetings_1 W (suf.map lT) [some (.dat (.tuple (L.map lT))), some (.dat (.list (M.map prT))), some (.own ((pre.filter fun X => Mt.meets X L).map lT)), s3, s4, s5] := fun W hW suf => by
    induction suf with
    | nil =>
      intro pre s3 s4 s5 e
      rw [List.append_nil] at e
      rw [List.map_nil, loop_nil, ← e]
      exact hW _ _ _
    | cons X suf ih =>
      intro pre s3 s4 s5 e
      have e2 : S = (pre ++ [X]) ++ suf := by rw [e, List.append_assoc]; rfl
      have ih := fun s3 s4 s5 => ih (pre ++ [X]) s3 s4 s5 e2
      rw [List.map_cons, loop_cons]
      generalize loopW (bindW 3) b__law_meetings_1 _ _ = LL at ih ⊢
      have hX : X ∈ S := by rw [e]; exact List.mem_append_right _ (.head _)
      have hpl : (pre.filter fun X => Mt.meets X L).length ≤ 1000 := by
        have h1 := List.length_filter_le (fun X => Mt.meets X L) pre
        have h2 := congrArg List.length e
        rw [List.length_append] at h2
        omega
      have hXl := lS X hX
      have hNX := nS X hX
      unfold b__law_meetings_1
      try simp only [wv1, wv2, wv3, wv4, wv5, wv6, wv7, wv8, Nat.reduceSub, Nat.reduceAdd, reduceCtorEq, ↓reduceIte, Nat.reduceLeDiff, Nat.reduceLT, implies_true]
      refine ⟨by rw [List.length_map]; omega, fil_enc (enc := lT) (fun A => !(X.any fun x => decide (x ∈ A))) lT (fun A hA R N hRN => ?_) ?_⟩
      · have hNA := hN A hA
        try simp only [wv1, wv2, wv3, wv4, wv5, wv6, wv7, wv8, Nat.reduceSub, Nat.reduceAdd, reduceCtorEq, ↓reduceIte, Nat.reduceLeDiff, Nat.reduceLT, implies_true]
        have wq : ∀ {R : List PyData → Prop}, R (X.map prT) → walkQ (lT X) R := fun h => h
        refine wq ⟨by rw [List.length_map]; omega, fil_enc (enc := prT) (fun x => decide (x ∈ A)) prT (fun x hx R' N' hRN' => ?_) ?_⟩
        · try simp only [wv1, wv2, wv3, wv4, wv5, wv6, wv7, wv8, Nat.reduceSub, Nat.reduceAdd, reduceCtorEq, ↓reduceIte, Nat.reduceLeDiff, Nat.reduceLT, implies_true, inXW]
          refine ⟨A.map prT, rfl, (shaped_prT (hNX x hx).1 (hNX x hx).2).1, seqB_prs hNA, ?_⟩
          rw [any_prs, Bool.false_xor]
          exact hRN'
        · rw [List.nil_append]
          try simp only [wv1, wv2, wv3, wv4, wv5, wv6, wv7, wv8, Nat.reduceSub, Nat.reduceAdd, reduceCtorEq, ↓reduceIte, Nat.reduceLeDiff, Nat.reduceLT, implies_true]
          refine eqB_ll (seqB_prs fun z hz => hNX z (List.mem_filter.mp hz).1) rfl ?_
          rw [eqv_nilL, List.isEmpty_map, empty_fil]
          exact hRN
      · rw [List.nil_append]
        try simp only [wv1, wv2, wv3, wv4, wv5, wv6, wv7, wv8, Nat.reduceSub, Nat.reduceAdd, reduceCtorEq, ↓reduceIte, Nat.reduceLeDiff, Nat.reduceLT, implies_true]
        refine eqB_ll (shaped_lots fun Z hZ => hN Z (List.mem_filter.mp hZ).1) rfl ?_
        rw [eqv_nilL, List.isEmpty_map, empty_fil]
        have eB : (!(L.any fun A => !(X.any fun x => decide (x ∈ A)))) = Mt.meets X L := by
          rw [meets_eq, List.not_any_eq_all_not]
          simp
        rw [eB]
        have fl : (pre ++ [X]).filter (fun X => Mt.meets X L) = pre.filter (fun X => Mt.meets X L) ++ if Mt.meets X L = true then [X] else [] := by
          rw [List.filter_append, List.filter_cons, List.filter_nil]
        rw [fl] at ih
        cases c : Mt.meets X L with
        | true =>
          rw [c, if_pos rfl, List.map_append] at ih
          try simp only [wv1, wv2, wv3, wv4, wv5, wv6, wv7, wv8, Nat.reduceSub, Nat.reduceAdd, reduceCtorEq, ↓reduceIte, Nat.reduceLeDiff, Nat.reduceLT, implies_true]
          rw [List.length_map]
          exact ⟨by omega, ih _ _ _⟩
        | false =>
          rw [c, if_neg Bool.false_ne_true, List.append_nil] at ih
          try simp only [wv1, wv2, wv3, wv4, wv5, wv6, wv7, wv8, Nat.reduceSub, Nat.reduceAdd, reduceCtorEq, ↓reduceIte, Nat.reduceLeDiff, Nat.reduceLT, implies_true]
          exact ih _ _ _
  try simp only [wv1, wv2, wv3, wv4, wv5, wv6, wv7, wv8, Nat.reduceSub, Nat.reduceAdd, reduceCtorEq, ↓reduceIte, Nat.reduceLeDiff, Nat.reduceLT, implies_true]
  refine loop _ (fun s3 s4 s5 => ?_) S [] none none none rfl
  try simp only [wv1, wv2, wv3, wv4, wv5, wv6, wv7, wv8, Nat.reduceSub, Nat.reduceAdd, reduceCtorEq, ↓reduceIte, Nat.reduceLeDiff, Nat.reduceLT, implies_true]
  have memF : ∀ Y, Y ∈ S.filter (fun X => Mt.meets X L) ↔ Y.Sublist M ∧ Mt.meets Y L = true := fun Y => by rw [List.mem_filter, hS.mem]
  refine least_lots_w (L := S.filter fun X => Mt.meets X L) (.inl rfl) (by have := List.length_filter_le (fun X => Mt.meets X L) S; omega) (fun A hA => nS A (List.mem_filter.mp hA).1) (fun A hA => by have := lS A (List.mem_filter.mp hA).1; omega) (hS.nd.sublist List.filter_sublist) fun T aT hT => ?_
  refine h T aT fun X => ?_
  rw [hT, memF]
  constructor
  · rintro ⟨⟨h1, h2⟩, h3⟩
    exact ⟨h1, (Mt.least_same aM.nd memF h1).mpr ⟨h2, h3⟩⟩
  · rintro ⟨h1, h2⟩
    obtain ⟨h3, h4⟩ := (Mt.least_same aM.nd memF h1).mp h2
    exact ⟨⟨h1, h3⟩, h4⟩
/-- drawn lots may be handed in -/
theorem lots_of {qs : List P2} (hq : Prs qs) {L : List (List P2)} (aL : AscL L) (l6 : L.length ≤ 6) (hs : ∀ X ∈ L, X.Sublist qs) : Lots L := by
  refine ⟨by omega, fun X hX => (hq.sub (hs X hX)).nm, fun X hX => (hq.sub (hs X hX)).lt, fun X hX => (hq.sub (hs X hX)).ap, aL, ?_, fun M nd hm => ?_⟩
  · rw [List.length_flatten]
    have h1 : (L.map List.length).sum ≤ (L.map fun _ => 6).sum := Mt.sum_le fun X hX => (hq.sub (hs X hX)).l6
    have h2 : ∀ l : List (List P2), (l.map fun _ => 6).sum = 6 * l.length := fun l => by
      induction l with
      | nil => rfl
      | cons a l ih => rw [List.map_cons, List.sum_cons, ih, List.length_cons]; omega
    rw [h2] at h1
    omega
  · refine Nat.le_trans (nodup_sub nd fun x hx => ?_) hq.l6
    obtain ⟨A, hA, hxA⟩ := hm x hx
    exact (hs A hA).subset hxA
/-- the least lots that meet them, too -/
theorem lots_least {M : List P2} (hM : Prs M) {L T : List (List P2)} (aT : AscL T) (hT : ∀ X, X ∈ T ↔ X.Sublist M ∧ Mt.leastA L X = true) : Lots T := by
  have hs : ∀ X ∈ T, X.Sublist M := fun X hX => ((hT X).mp hX).1
  have an : ∀ X ∈ T, ∀ Y ∈ T, (∀ x ∈ X, x ∈ Y) → X = Y := fun X hX Y hY hsub => Decidable.byContradiction fun ne => by
    obtain ⟨y, hy, hyX⟩ := Mt.out_of hM.ap.nd (hs Y hY) (hs X hX) hsub ne
    refine (Mt.leastA_iff.mp ((hT Y).mp hY).2).2 y hy (Mt.meets_mono (fun x hx => Mt.mem_wo.mpr ⟨hsub x hx, fun e => hyX (e ▸ hx)⟩) (Mt.leastA_iff.mp ((hT X).mp hX).2).1)
  obtain ⟨b1, b2⟩ := Mt.anti_bounds hM.ap.nd hM.l6 aT.nd hs an
  refine ⟨by omega, fun X hX => (hM.sub (hs X hX)).nm, fun X hX => (hM.sub (hs X hX)).lt, fun X hX => (hM.sub (hs X hX)).ap, aT, ?_, fun M' nd hm => ?_⟩
  · rw [List.length_flatten]
    omega
  · refine Nat.le_trans (nodup_sub nd fun x hx => ?_) hM.l6
    obtain ⟨A, hA, hxA⟩ := hm x hx
    exact (hs A hA).subset hxA
theorem right_w (h : P (.bool true)) : w__law_right [.bag] P := by
  unfold w__law_right
  try simp only [wv1, wv2, wv3, wv4, wv5, wv6, wv7, wv8, Nat.reduceSub, Nat.reduceAdd, reduceCtorEq, ↓reduceIte, Nat.reduceLeDiff, Nat.reduceLT, implies_true]
  refine drawn_pairs_w fun qs hq => ?_
  have hl6 := hq.l6
  try simp only [wv1, wv2, wv3, wv4, wv5, wv6, wv7, wv8, Nat.reduceSub, Nat.reduceAdd, reduceCtorEq, ↓reduceIte, Nat.reduceLeDiff, Nat.reduceLT, implies_true]
  refine drawn_lots_w hq fun L aL l6 hs => ?_
  have hNL : ∀ X ∈ L, Nm X := fun X hX => (hq.sub (hs X hX)).nm
  try simp only [wv1, wv2, wv3, wv4, wv5, wv6, wv7, wv8, Nat.reduceSub, Nat.reduceAdd, reduceCtorEq, ↓reduceIte, Nat.reduceLeDiff, Nat.reduceLT, implies_true]
  refine ⟨by rw [List.length_map]; omega, fil_enc (enc := prT) (fun p => L.any fun X => decide (p ∈ X)) prT (fun p hp R N hRN => ?_) ?_⟩
  · try simp only [wv1, wv2, wv3, wv4, wv5, wv6, wv7, wv8, Nat.reduceSub, Nat.reduceAdd, reduceCtorEq, ↓reduceIte, Nat.reduceLeDiff, Nat.reduceLT, implies_true]
    refine ⟨by rw [List.length_map]; omega, fil_enc (enc := lT) (fun X => decide (p ∈ X)) lT (fun X hX R' N' hRN' => ?_) ?_⟩
    · try simp only [wv1, wv2, wv3, wv4, wv5, wv6, wv7, wv8, Nat.reduceSub, Nat.reduceAdd, reduceCtorEq, ↓reduceIte, Nat.reduceLeDiff, Nat.reduceLT, implies_true, inXW]
      refine ⟨X.map prT, rfl, (shaped_prT (hq.nm p hp).1 (hq.nm p hp).2).1, seqB_prs (hNL X hX), ?_⟩
      rw [any_prs, Bool.false_xor]
      exact hRN'
    · rw [List.nil_append]
      try simp only [wv1, wv2, wv3, wv4, wv5, wv6, wv7, wv8, Nat.reduceSub, Nat.reduceAdd, reduceCtorEq, ↓reduceIte, Nat.reduceLeDiff, Nat.reduceLT, implies_true]
      refine neB_ll (shaped_lots fun Z hZ => hNL Z (List.mem_filter.mp hZ).1) rfl ?_
      rw [eqv_nilL, List.isEmpty_map, empty_fil, Bool.not_not]
      exact hRN
  · rw [List.nil_append]
    have hI : Prs (qs.filter fun p => L.any fun X => decide (p ∈ X)) := hq.sub List.filter_sublist
    have mI : ∀ x, x ∈ (qs.filter fun p => L.any fun X => decide (p ∈ X)) ↔ ∃ A ∈ L, x ∈ A := fun x => by
      rw [List.mem_filter, List.any_eq_true]
      constructor
      · rintro ⟨_, A, hA, hx⟩
        exact ⟨A, hA, of_decide_eq_true hx⟩
      · rintro ⟨A, hA, hx⟩
        exact ⟨(hs A hA).subset hx, A, hA, decide_eq_true hx⟩
    generalize (qs.filter fun p => L.any fun X => decide (p ∈ X)) = I at hI mI
    try simp only [wv1, wv2, wv3, wv4, wv5, wv6, wv7, wv8, Nat.reduceSub, Nat.reduceAdd, reduceCtorEq, ↓reduceIte, Nat.reduceLeDiff, Nat.reduceLT, implies_true]
    refine meeting_w (lots_of hq aL l6 hs) fun M T aM mM aT hT => ?_
    have eM : M = I := ascP_eq aM hI.ap fun x => by rw [mM, mI]
    subst eM
    have nT : ∀ X ∈ T, Nm X := fun X hX => (hI.sub ((hT X).mp hX).1).nm
    try simp only [wv1, wv2, wv3, wv4, wv5, wv6, wv7, wv8, Nat.reduceSub, Nat.reduceAdd, reduceCtorEq, ↓reduceIte, Nat.reduceLeDiff, Nat.reduceLT, implies_true]
    refine meetings_w hI.l6 aM hI.nm (by omega) hNL fun T2 aT2 hT2 => ?_
    have eT : T = T2 := ascL_eq aT aT2 fun X => by rw [hT, hT2]
    subst eT
    refine eqB_tt (shaped_lotsT nT) (shaped_lotsT nT) ?_
    have eqs : ∀ Z : List (List P2), PyData.eqv (.tuple (Z.map lT)) (.tuple (Z.map lT)) = true := fun Z => by
      rw [PyData.eqv]
      induction Z with
      | nil => simp [PyData.eqvAll]
      | cons X Z ih =>
        rw [List.map_cons, PyData.eqvAll, ih, eqv_lT, decide_eq_true rfl]
        rfl
    rw [eqs]
    try simp only [wv1, wv2, wv3, wv4, wv5, wv6, wv7, wv8, Nat.reduceSub, Nat.reduceAdd, reduceCtorEq, ↓reduceIte, Nat.reduceLeDiff, Nat.reduceLT, implies_true]
    have hTl : T.length ≤ 20 ∨ True := .inr trivial
    have LT := lots_least hI aT hT
    refine meeting_w LT fun M2 U aM2 mM2 aU hU => ?_
    try simp only [wv1, wv2, wv3, wv4, wv5, wv6, wv7, wv8, Nat.reduceSub, Nat.reduceAdd, reduceCtorEq, ↓reduceIte, Nat.reduceLeDiff, Nat.reduceLT, implies_true]
    refine least_lots_w (.inr rfl) (by omega) hNL (fun A hA => by have := (hq.sub (hs A hA)).l6; omega) aL.nd fun U2 aU2 hU2 => ?_
    have hLM : ∀ A ∈ L, A.Sublist M := fun A hA => (asc_sub aM).mp ⟨(hq.sub (hs A hA)).ap, fun x hx => (mM x).mpr ⟨A, hA, hx⟩⟩
    have hM2 : M2.Sublist M := (asc_sub aM).mp ⟨aM2, fun x hx => by
      obtain ⟨A, hA, hx⟩ := (mM2 x).mp hx
      exact ((hT A).mp hA).1.subset hx⟩
    have eU : U = U2 := ascL_eq aU aU2 fun X => by
      rw [hU, hU2]
      exact Mt.twice aM.nd hLM hT hM2 mM2
    subst eU
    have nU : ∀ X ∈ U, Nm X := fun X hX => hNL X ((hU2 X).mp hX).1
    refine eqB_tt (shaped_lotsT nU) (shaped_lotsT nU) ?_
    rw [eqs]
    exact h
end
end Lw
namespace Lw
open PySem DL FSt Mx
variable [CTab]
section
variable {P : PyData → Prop}
theorem meeting_c {L T0 : List (List P2)} {M0 : List P2} (hL : Lots L) (hM : AscP M0) (mM : ∀ x, x ∈ M0 ↔ x ∈ L.flatten) (aT : AscL T0) (hT : ∀ X, X ∈ T0 ↔ X.Sublist M0 ∧ Mt.leastA L X = true) (h : P (.tuple (T0.map lT))) : w_meeting_lots [.dat (.tuple (L.map lT))] P :=
  meeting_w hL fun M T aM mM2 aT2 hT2 => by
    have eM : M = M0 := ascP_eq aM hM fun x => by rw [mM2, mM, List.mem_flatten]
    subst eM
    have eT : T = T0 := ascL_eq aT2 aT fun X => by rw [hT2, hT]
    subst eT
    exact h
def pAB : P2 := ("a", "b")
def pAC : P2 := ("a", "c")
def pAD : P2 := ("a", "d")
theorem lots_c {L : List (List P2)} (h1 : L.length ≤ 40) (h2 : ∀ X ∈ L, ∀ r ∈ X, (okName (.str r.1) = true ∧ okName (.str r.2) = true) ∧ ltS r.1 r.2 = true) (h3 : ∀ X ∈ L, AscP X) (h4 : AscL L) (h5 : L.flatten.length ≤ 6) : Lots L :=
  ⟨h1, fun X hX r hr => (h2 X hX r hr).1, fun X hX r hr => (h2 X hX r hr).2, h3, h4, by omega, fun M nd hm => by
    refine Nat.le_trans (nodup_sub nd fun x hx => ?_) h5
    obtain ⟨A, hA, hxA⟩ := hm x hx
    exact List.mem_flatten.mpr ⟨A, hA, hxA⟩⟩
theorem parts3 : Parts [pAB, pAC, pAD] [[], [pAB], [pAC], [pAB, pAC], [pAD], [pAB, pAD], [pAC, pAD], [pAB, pAC, pAD]] := by
  have h0 : Parts [] [[]] := ⟨List.nodup_cons.mpr ⟨List.not_mem_nil, List.Pairwise.nil⟩, Nat.le_refl _, fun X => by rw [List.mem_singleton, List.sublist_nil]⟩
  have h1 := h0.snoc (p := pAB) (by decide +kernel)
  have h2 := h1.snoc (p := pAC) (by decide +kernel)
  exact h2.snoc (p := pAD) (by decide +kernel)
theorem parts_fil {M : List P2} {S T0 L : List (List P2)} (hS : Parts M S) (e : (S.filter fun X => Mt.leastA L X) = T0) (X : List P2) : X ∈ T0 ↔ X.Sublist M ∧ Mt.leastA L X = true := by
  rw [← e, List.mem_filter, hS.mem]
theorem c1 (h : P (.tuple [.tuple []])) : w_meeting_lots [.dat (.tuple [])] P :=
  meeting_c (L := []) (T0 := [[]]) (M0 := []) (lots_c (by decide) (fun X h => nomatch h) (fun X h => nomatch h) List.Pairwise.nil (by decide)) List.Pairwise.nil (fun x => by simp) (List.pairwise_singleton _ _) (fun X => by
    rw [List.mem_singleton, List.sublist_nil]
    constructor
    · rintro rfl
      exact ⟨rfl, rfl⟩
    · exact fun h => h.1) h
theorem c2 (h : P (.tuple [])) : w_meeting_lots [.dat (.tuple [.tuple []])] P :=
  meeting_c (L := [[]]) (T0 := []) (M0 := []) (lots_c (by decide) (by decide +kernel) (by decide +kernel) (by decide +kernel) (by decide)) List.Pairwise.nil (fun x => by simp) List.Pairwise.nil (fun X => by
    rw [List.sublist_nil]
    constructor
    · exact fun h => nomatch h
    · rintro ⟨rfl, h⟩
      cases h) h
theorem c3 (h : P (.tuple [])) : w_meeting_lots [.dat (.tuple [.tuple [], .tuple [prT pAB]])] P :=
  meeting_c (L := [[], [pAB]]) (T0 := []) (M0 := [pAB]) (lots_c (by decide) (by decide +kernel) (by decide +kernel) (by decide +kernel) (by decide)) (List.pairwise_singleton _ _) (fun x => by simp) List.Pairwise.nil (fun X => by
    constructor
    · exact fun h => nomatch h
    · rintro ⟨_, h⟩
      obtain ⟨x, _, hx⟩ := Mt.meets_iff.mp (Mt.leastA_iff.mp h).1 [] (.head _)
      cases hx) h
theorem c4 (h : P (.tuple [.tuple [prT pAB, prT pAC], .tuple [prT pAB, prT pAD]])) : w_meeting_lots [.dat (.tuple [.tuple [prT pAB], .tuple [prT pAB, prT pAC], .tuple [prT pAC, prT pAD]])] P :=
  meeting_c (L := [[pAB], [pAB, pAC], [pAC, pAD]]) (T0 := [[pAB, pAC], [pAB, pAD]]) (M0 := [pAB, pAC, pAD]) (lots_c (by decide) (by decide +kernel) (by decide +kernel) (by decide +kernel) (by decide)) (by decide +kernel) (fun x => by
    simp only [List.flatten_cons, List.flatten_nil, List.cons_append, List.nil_append, List.mem_cons, List.not_mem_nil, or_false]
    constructor
    · rintro (h | h | h) <;> simp [h]
    · rintro (h | h | h | h | h) <;> simp [h]) (by decide +kernel) (parts_fil parts3 (by decide +kernel)) h
def t_law : WS :=
    (seqW (set3W [] 4 5 6 (datM (tupW (consW (cW (.str "a")) (consW (cW (.str "b")) nilW)))) (datM (tupW (consW (cW (.str "a")) (consW (cW (.str "c")) nilW)))) (datM (tupW (consW (cW (.str "a")) (consW (cW (.str "d")) nilW)))))
    (seqW (setW [] 7 (datM (newW (lstN (consW (callW 1 w_meeting_lots (aconsW (tupW nilW) anilW)) (consW (callW 1 w_meeting_lots (aconsW (tupW (consW (tupW nilW) nilW)) anilW)) (consW (callW 1 w_meeting_lots (aconsW (tupW (consW (tupW nilW) (consW (tupW (consW (varW 4) nilW)) nilW))) anilW)) (consW (callW 1 w_meeting_lots (aconsW (tupW (consW (tupW (consW (varW 4) nilW)) (consW (tupW (consW (varW 4) (consW (varW 5) nilW))) (consW (tupW (consW (varW 5) (consW (varW 6) nilW))) nilW)))) anilW)) nilW))))))))
    (retW [] (opW eqBW (varW 7) (newW (lstN (consW (tupW (consW (tupW nilW) nilW)) (consW (tupW nilW) (consW (tupW nilW) (consW (tupW (consW (tupW (consW (varW 4) (consW (varW 5) nilW))) (consW (tupW (consW (varW 4) (consW (varW 6) nilW))) nilW))) nilW))))))))))
theorem w_law_eq : w_law = bodyW
    (seqW (forRW [] (range1I (consW (cbW max2W (consW (cW (.int 1)) (consW (cbW min2W (consW (cW (.int 3)) (consW (cbW lenAW (consW (varW 0) nilW)) nilW))) nilW))) nilW)) (bindW 1) b_law_2)
    t_law) 8 := rfl
variable {W : WD} {s0 s1 s2 s3 : Option Sl}
theorem t_law_w (h : W.rt (.bool true)) : t_law W [s0, s1, s2, s3, none, none, none, none] := by
  unfold t_law
  try simp only [wv1, wv2, wv3, wv4, wv5, wv6, wv7, wv8, Nat.reduceSub, Nat.reduceAdd, reduceCtorEq, ↓reduceIte, Nat.reduceLeDiff, Nat.reduceLT, implies_true]
  refine c1 ?_
  try simp only [wv1, wv2, wv3, wv4, wv5, wv6, wv7, wv8, Nat.reduceSub, Nat.reduceAdd, reduceCtorEq, ↓reduceIte, Nat.reduceLeDiff, Nat.reduceLT, implies_true]
  refine c2 ?_
  try simp only [wv1, wv2, wv3, wv4, wv5, wv6, wv7, wv8, Nat.reduceSub, Nat.reduceAdd, reduceCtorEq, ↓reduceIte, Nat.reduceLeDiff, Nat.reduceLT, implies_true]
  refine c3 ?_
  try simp only [wv1, wv2, wv3, wv4, wv5, wv6, wv7, wv8, Nat.reduceSub, Nat.reduceAdd, reduceCtorEq, ↓reduceIte, Nat.reduceLeDiff, Nat.reduceLT, implies_true]
  refine c4 ?_
  try simp only [wv1, wv2, wv3, wv4, wv5, wv6, wv7, wv8, Nat.reduceSub, Nat.reduceAdd, reduceCtorEq, ↓reduceIte, Nat.reduceLeDiff, Nat.reduceLT, implies_true]
  refine eqB_ll (by decide +kernel) (by decide +kernel) ?_
  have e : ∀ d : PyData, d = .list [.tuple [.tuple []], .tuple [], .tuple [], .tuple [.tuple [prT pAB, prT pAC], .tuple [prT pAB, prT pAD]]] → PyData.eqv d d = true := by
    rintro d rfl
    decide +kernel
  exact (e _ rfl) ▸ h
end
end Lw
namespace Lw
open PySem DL FSt Mx
variable [CTab]
section
theorem turns3 {W : WD} {s0 s1 : Option Sl} (hW : ∀ s3, W.nx [s0, s1, some .bag, s3, none, none, none, none]) : ∀ (ds : List PyData) (s3 : Option Sl), loopW (bindW 3) b_law_1 W ds [s0, s1, some .bag, s3, none, none, none, none]
  | [], s3 => hW s3
  | d :: ds, s3 => by
    rw [loop_cons]
    have ih := fun s3 => turns3 hW ds s3
    generalize loopW (bindW 3) b_law_1 W ds = L0 at ih ⊢
    try simp only [wv1, wv2, wv3, wv4, wv5, wv6, wv7, wv8, Nat.reduceSub, Nat.reduceAdd, reduceCtorEq, ↓reduceIte, Nat.reduceLeDiff, Nat.reduceLT, implies_true, b_law_1]
    refine right_w ?_
    try simp only [wv1, wv2, wv3, wv4, wv5, wv6, wv7, wv8, Nat.reduceSub, Nat.reduceAdd, reduceCtorEq, ↓reduceIte, Nat.reduceLeDiff, Nat.reduceLT, implies_true]
    exact ih _
theorem law_turns {ns : List Int} {W : WD} (hns : ns.length ≤ 63) (hW : ∀ s1 s2 s3 : Option Sl, W.nx [some (.dat (.list (ns.map .int))), s1, s2, s3, none, none, none, none]) : ∀ (k x : Nat) (s1 s2 s3 : Option Sl), x + k ≤ 3 →
    loopW (bindW 1) b_law_2 W ((List.range' x k).map fun (j : Nat) => .int (j : Int)) [some (.dat (.list (ns.map .int))), s1, s2, s3, none, none, none, none]
  | 0, x, s1, s2, s3, _ => hW s1 s2 s3
  | k + 1, x, s1, s2, s3, hx => by
    rw [List.range'_succ, List.map_cons, loop_cons]
    have ih := fun s1 s2 s3 => law_turns hns hW k (x + 1) s1 s2 s3 (by omega)
    generalize loopW (bindW 1) b_law_2 W ((List.range' (x + 1) k).map fun (j : Nat) => .int (j : Int)) = L0 at ih ⊢
    try simp only [wv1, wv2, wv3, wv4, wv5, wv6, wv7, wv8, Nat.reduceSub, Nat.reduceAdd, reduceCtorEq, ↓reduceIte, Nat.reduceLeDiff, Nat.reduceLT, implies_true, b_law_2]
    refine ⟨⟨ns, rfl, hns⟩, by omega, by omega, by decide, by decide, ?_⟩
    exact turns3 (fun s3 => ih _ _ _) _ _
theorem law_holds : LawHolds w_law := fun ns hns => by
  rw [w_law_eq]
  have k1 := fun (W : WD) s1 s2 s3 => t_law_w (W := W) (s0 := some (.dat (.list (ns.map .int)))) (s1 := s1) (s2 := s2) (s3 := s3)
  generalize t_law = T at k1 ⊢
  try simp only [wv1, wv2, wv3, wv4, wv5, wv6, wv7, wv8, Nat.reduceSub, Nat.reduceAdd, reduceCtorEq, ↓reduceIte, Nat.reduceLeDiff, Nat.reduceLT, implies_true]
  have hk : ∃ k : Nat, k ≤ 3 ∧ (if (if ((ns.map PyData.int).length : Int) < 3 then ((ns.map PyData.int).length : Int) else 3) > 1 then if ((ns.map PyData.int).length : Int) < 3 then ((ns.map PyData.int).length : Int) else 3 else 1) = (k : Int) := by
    refine ⟨max 1 (min 3 ns.length), by omega, ?_⟩
    rw [List.length_map]
    split <;> split <;> omega
  obtain ⟨k, hk3, hk⟩ := hk
  rw [hk, rangeD_nat]
  refine ⟨by omega, by omega, ?_⟩
  exact law_turns hns (fun s1 s2 s3 => k1 _ s1 s2 s3 rfl) k 0 none none none (by omega)
end
end Lw
namespace Lw
open PySem PySem.Spec PyProof.Rows L2 Evl DL
variable [CTab]
def top (i : Nat) : Stmt := PySem.Challenge.pw_lengthstell_k46_lots_that_meet_lots.main.body.getD i (.Pass ⟨0, 0, 0, 0⟩)
abbrev s__law_bag : Stmt := top 23
theorem sc__law_bag : FnScope ["_law_script", "_law_at", "_law_cell", "_law_great", "_law_mixed"] ["_law_script", "_law_at"] (defScope s__law_bag) := ⟨rfl, rfl, rfl, by decide +kernel, rfl, by decide +kernel, by decide +kernel⟩
abbrev s_without_one : Stmt := top 16
theorem sc_without_one : FnScope ["lot", "gone", "one"] ["lot", "gone"] (defScope s_without_one) := ⟨rfl, rfl, rfl, by decide +kernel, rfl, by decide +kernel, by decide +kernel⟩
abbrev s_least_of : Stmt := top 17
theorem sc_least_of : FnScope ["holds", "found", "lot", "one"] ["holds"] (defScope s_least_of) := ⟨rfl, rfl, rfl, by decide +kernel, rfl, by decide +kernel, by decide +kernel⟩
abbrev s_do_ascend : Stmt := top 14
theorem sc_do_ascend : FnScope ["items", "one", "other"] ["items"] (defScope s_do_ascend) := ⟨rfl, rfl, rfl, by decide +kernel, rfl, by decide +kernel, by decide +kernel⟩
abbrev s_meets_each : Stmt := top 20
theorem sc_meets_each : FnScope ["lot", "lots", "other", "one"] ["lot", "lots"] (defScope s_meets_each) := ⟨rfl, rfl, rfl, by decide +kernel, rfl, by decide +kernel, by decide +kernel⟩
abbrev s_members_of : Stmt := top 19
theorem sc_members_of : FnScope ["lots", "lot", "one"] ["lots"] (defScope s_members_of) := ⟨rfl, rfl, rfl, by decide +kernel, rfl, by decide +kernel, by decide +kernel⟩
abbrev s_lots_within : Stmt := top 15
theorem sc_lots_within : FnScope ["items", "found", "layer", "turn", "lot", "one"] ["items"] (defScope s_lots_within) := ⟨rfl, rfl, rfl, by decide +kernel, rfl, by decide +kernel, by decide +kernel⟩
abbrev s_is_name : Stmt := top 6
theorem sc_is_name : FnScope ["value", "sign"] ["value"] (defScope s_is_name) := ⟨rfl, rfl, rfl, by decide +kernel, rfl, by decide +kernel, by decide +kernel⟩
abbrev s_are_names : Stmt := top 7
theorem sc_are_names : FnScope ["value", "one"] ["value"] (defScope s_are_names) := ⟨rfl, rfl, rfl, by decide +kernel, rfl, by decide +kernel, by decide +kernel⟩
abbrev s_is_ascending : Stmt := top 8
theorem sc_is_ascending : FnScope ["items", "one", "other"] ["items"] (defScope s_is_ascending) := ⟨rfl, rfl, rfl, by decide +kernel, rfl, by decide +kernel, by decide +kernel⟩
abbrev s_is_lot : Stmt := top 9
theorem sc_is_lot : FnScope ["value"] ["value"] (defScope s_is_lot) := ⟨rfl, rfl, rfl, by decide +kernel, rfl, by decide +kernel, by decide +kernel⟩
abbrev s_is_pair : Stmt := top 10
theorem sc_is_pair : FnScope ["value"] ["value"] (defScope s_is_pair) := ⟨rfl, rfl, rfl, by decide +kernel, rfl, by decide +kernel, by decide +kernel⟩
abbrev s_is_lot_of_pairs : Stmt := top 18
theorem sc_is_lot_of_pairs : FnScope ["value", "one"] ["value"] (defScope s_is_lot_of_pairs) := ⟨rfl, rfl, rfl, by decide +kernel, rfl, by decide +kernel, by decide +kernel⟩
abbrev s_meeting_lots : Stmt := top 21
theorem sc_meeting_lots : FnScope ["lots", "lot"] ["lots"] (defScope s_meeting_lots) := ⟨rfl, rfl, rfl, by decide +kernel, rfl, by decide +kernel, by decide +kernel⟩
abbrev s__law_draw : Stmt := top 24
theorem sc__law_draw : FnScope ["_law_bag_here", "_law_total", "_law_found", "_law_one", "_law_two"] ["_law_bag_here", "_law_total"] (defScope s__law_draw) := ⟨rfl, rfl, rfl, by decide +kernel, rfl, by decide +kernel, by decide +kernel⟩
abbrev s__law_shuffled : Stmt := top 26
theorem sc__law_shuffled : FnScope ["_law_bag_here", "_law_items", "_law_waits", "_law_turn"] ["_law_bag_here", "_law_items"] (defScope s__law_shuffled) := ⟨rfl, rfl, rfl, by decide +kernel, rfl, by decide +kernel, by decide +kernel⟩
abbrev s__law_names : Stmt := top 27
theorem sc__law_names : FnScope ["_law_bag_here", "_law_many", "_law_some"] ["_law_bag_here", "_law_many"] (defScope s__law_names) := ⟨rfl, rfl, rfl, by decide +kernel, rfl, by decide +kernel, by decide +kernel⟩
abbrev s__law_lot_upto : Stmt := top 29
theorem sc__law_lot_upto : FnScope ["_law_bag_here", "_law_items", "_law_most", "_law_left", "_law_found", "_law_turn", "_law_item"] ["_law_bag_here", "_law_items", "_law_most"] (defScope s__law_lot_upto) := ⟨rfl, rfl, rfl, by decide +kernel, rfl, by decide +kernel, by decide +kernel⟩
abbrev s__law_all_pairs : Stmt := top 28
theorem sc__law_all_pairs : FnScope ["_law_pins", "_law_found", "_law_order", "_law_at", "_law_one", "_law_other"] ["_law_pins"] (defScope s__law_all_pairs) := ⟨rfl, rfl, rfl, by decide +kernel, rfl, by decide +kernel, by decide +kernel⟩
abbrev s__law_drawn_pairs : Stmt := top 34
theorem sc__law_drawn_pairs : FnScope ["_law_bag_here", "_law_names_here"] ["_law_bag_here"] (defScope s__law_drawn_pairs) := ⟨rfl, rfl, rfl, by decide +kernel, rfl, by decide +kernel, by decide +kernel⟩
abbrev s__law_one_of : Stmt := top 25
theorem sc__law_one_of : FnScope ["_law_bag_here", "_law_items"] ["_law_bag_here", "_law_items"] (defScope s__law_one_of) := ⟨rfl, rfl, rfl, by decide +kernel, rfl, by decide +kernel, by decide +kernel⟩
abbrev s__law_drawn_lots : Stmt := top 35
theorem sc__law_drawn_lots : FnScope ["_law_bag_here", "_law_pairs", "_law_most", "_law_found", "_law_turn", "_law_lot"] ["_law_bag_here", "_law_pairs"] (defScope s__law_drawn_lots) := ⟨rfl, rfl, rfl, by decide +kernel, rfl, by decide +kernel, by decide +kernel⟩
abbrev s__law_sublots : Stmt := top 30
theorem sc__law_sublots : FnScope ["_law_items", "_law_found", "_law_item", "_law_lot", "_law_pair"] ["_law_items"] (defScope s__law_sublots) := ⟨rfl, rfl, rfl, by decide +kernel, rfl, by decide +kernel, by decide +kernel⟩
abbrev s__law_is_within : Stmt := top 31
theorem sc__law_is_within : FnScope ["_law_lot", "_law_other", "_law_one"] ["_law_lot", "_law_other"] (defScope s__law_is_within) := ⟨rfl, rfl, rfl, by decide +kernel, rfl, by decide +kernel, by decide +kernel⟩
abbrev s__law_least_lots : Stmt := top 32
theorem sc__law_least_lots : FnScope ["_law_lots", "_law_found", "_law_lot", "_law_other"] ["_law_lots"] (defScope s__law_least_lots) := ⟨rfl, rfl, rfl, by decide +kernel, rfl, by decide +kernel, by decide +kernel⟩
abbrev s__law_meetings : Stmt := top 33
theorem sc__law_meetings : FnScope ["_law_lots", "_law_items", "_law_found", "_law_lot", "_law_other", "_law_one"] ["_law_lots", "_law_items"] (defScope s__law_meetings) := ⟨rfl, rfl, rfl, by decide +kernel, rfl, by decide +kernel, by decide +kernel⟩
abbrev s__law_right : Stmt := top 36
theorem sc__law_right : FnScope ["_law_bag_here", "_law_pairs", "_law_lots", "_law_items", "_law_pair", "_law_lot", "_law_found"] ["_law_bag_here"] (defScope s__law_right) := ⟨rfl, rfl, rfl, by decide +kernel, rfl, by decide +kernel, by decide +kernel⟩
abbrev s_law : Stmt := top 37
theorem sc_law : FnScope ["_law_script", "_law_at", "_law_bag_here", "_law_turn", "_law_ab", "_law_ac", "_law_ad", "_law_told"] ["_law_script"] (defScope s_law) := ⟨rfl, rfl, rfl, by decide +kernel, rfl, by decide +kernel, by decide +kernel⟩
structure Tx (K : PySem.W.Frag) (mg : Str → Option Value) where
  a__law_bag : Addr
  d__law_bag : FuncData
  F__law_bag : Fun K "_law_bag" "_law_bag" s__law_bag a__law_bag d__law_bag
  b__law_bag : Binds K d__law_bag ["_law_script", "_law_at"] []
  g__law_bag : mg "_law_bag" = some (.ref a__law_bag)
  a_without_one : Addr
  d_without_one : FuncData
  F_without_one : Fun K "without_one" "without_one" s_without_one a_without_one d_without_one
  b_without_one : Binds K d_without_one ["lot", "gone"] []
  g_without_one : mg "without_one" = some (.ref a_without_one)
  a_least_of : Addr
  d_least_of : FuncData
  F_least_of : Fun K "least_of" "least_of" s_least_of a_least_of d_least_of
  b_least_of : Binds K d_least_of ["holds"] []
  g_least_of : mg "least_of" = some (.ref a_least_of)
  a_do_ascend : Addr
  d_do_ascend : FuncData
  F_do_ascend : Fun K "do_ascend" "do_ascend" s_do_ascend a_do_ascend d_do_ascend
  b_do_ascend : Binds K d_do_ascend ["items"] []
  g_do_ascend : mg "do_ascend" = some (.ref a_do_ascend)
  a_meets_each : Addr
  d_meets_each : FuncData
  F_meets_each : Fun K "meets_each" "meets_each" s_meets_each a_meets_each d_meets_each
  b_meets_each : Binds K d_meets_each ["lot", "lots"] []
  g_meets_each : mg "meets_each" = some (.ref a_meets_each)
  a_members_of : Addr
  d_members_of : FuncData
  F_members_of : Fun K "members_of" "members_of" s_members_of a_members_of d_members_of
  b_members_of : Binds K d_members_of ["lots"] []
  g_members_of : mg "members_of" = some (.ref a_members_of)
  a_lots_within : Addr
  d_lots_within : FuncData
  F_lots_within : Fun K "lots_within" "lots_within" s_lots_within a_lots_within d_lots_within
  b_lots_within : Binds K d_lots_within ["items"] []
  g_lots_within : mg "lots_within" = some (.ref a_lots_within)
  a_is_name : Addr
  d_is_name : FuncData
  F_is_name : Fun K "is_name" "is_name" s_is_name a_is_name d_is_name
  b_is_name : Binds K d_is_name ["value"] []
  g_is_name : mg "is_name" = some (.ref a_is_name)
  a_are_names : Addr
  d_are_names : FuncData
  F_are_names : Fun K "are_names" "are_names" s_are_names a_are_names d_are_names
  b_are_names : Binds K d_are_names ["value"] []
  g_are_names : mg "are_names" = some (.ref a_are_names)
  a_is_ascending : Addr
  d_is_ascending : FuncData
  F_is_ascending : Fun K "is_ascending" "is_ascending" s_is_ascending a_is_ascending d_is_ascending
  b_is_ascending : Binds K d_is_ascending ["items"] []
  g_is_ascending : mg "is_ascending" = some (.ref a_is_ascending)
  a_is_lot : Addr
  d_is_lot : FuncData
  F_is_lot : Fun K "is_lot" "is_lot" s_is_lot a_is_lot d_is_lot
  b_is_lot : Binds K d_is_lot ["value"] []
  g_is_lot : mg "is_lot" = some (.ref a_is_lot)
  a_is_pair : Addr
  d_is_pair : FuncData
  F_is_pair : Fun K "is_pair" "is_pair" s_is_pair a_is_pair d_is_pair
  b_is_pair : Binds K d_is_pair ["value"] []
  g_is_pair : mg "is_pair" = some (.ref a_is_pair)
  a_is_lot_of_pairs : Addr
  d_is_lot_of_pairs : FuncData
  F_is_lot_of_pairs : Fun K "is_lot_of_pairs" "is_lot_of_pairs" s_is_lot_of_pairs a_is_lot_of_pairs d_is_lot_of_pairs
  b_is_lot_of_pairs : Binds K d_is_lot_of_pairs ["value"] []
  g_is_lot_of_pairs : mg "is_lot_of_pairs" = some (.ref a_is_lot_of_pairs)
  a_meeting_lots : Addr
  d_meeting_lots : FuncData
  F_meeting_lots : Fun K "meeting_lots" "meeting_lots" s_meeting_lots a_meeting_lots d_meeting_lots
  b_meeting_lots : Binds K d_meeting_lots ["lots"] []
  g_meeting_lots : mg "meeting_lots" = some (.ref a_meeting_lots)
  a__law_draw : Addr
  d__law_draw : FuncData
  F__law_draw : Fun K "_law_draw" "_law_draw" s__law_draw a__law_draw d__law_draw
  b__law_draw : Binds K d__law_draw ["_law_bag_here", "_law_total"] []
  g__law_draw : mg "_law_draw" = some (.ref a__law_draw)
  a__law_shuffled : Addr
  d__law_shuffled : FuncData
  F__law_shuffled : Fun K "_law_shuffled" "_law_shuffled" s__law_shuffled a__law_shuffled d__law_shuffled
  b__law_shuffled : Binds K d__law_shuffled ["_law_bag_here", "_law_items"] []
  g__law_shuffled : mg "_law_shuffled" = some (.ref a__law_shuffled)
  a__law_names : Addr
  d__law_names : FuncData
  F__law_names : Fun K "_law_names" "_law_names" s__law_names a__law_names d__law_names
  b__law_names : Binds K d__law_names ["_law_bag_here", "_law_many"] []
  g__law_names : mg "_law_names" = some (.ref a__law_names)
  a__law_lot_upto : Addr
  d__law_lot_upto : FuncData
  F__law_lot_upto : Fun K "_law_lot_upto" "_law_lot_upto" s__law_lot_upto a__law_lot_upto d__law_lot_upto
  b__law_lot_upto : Binds K d__law_lot_upto ["_law_bag_here", "_law_items", "_law_most"] []
  g__law_lot_upto : mg "_law_lot_upto" = some (.ref a__law_lot_upto)
  a__law_all_pairs : Addr
  d__law_all_pairs : FuncData
  F__law_all_pairs : Fun K "_law_all_pairs" "_law_all_pairs" s__law_all_pairs a__law_all_pairs d__law_all_pairs
  b__law_all_pairs : Binds K d__law_all_pairs ["_law_pins"] []
  g__law_all_pairs : mg "_law_all_pairs" = some (.ref a__law_all_pairs)
  a__law_drawn_pairs : Addr
  d__law_drawn_pairs : FuncData
  F__law_drawn_pairs : Fun K "_law_drawn_pairs" "_law_drawn_pairs" s__law_drawn_pairs a__law_drawn_pairs d__law_drawn_pairs
  b__law_drawn_pairs : Binds K d__law_drawn_pairs ["_law_bag_here"] []
  g__law_drawn_pairs : mg "_law_drawn_pairs" = some (.ref a__law_drawn_pairs)
  a__law_one_of : Addr
  d__law_one_of : FuncData
  F__law_one_of : Fun K "_law_one_of" "_law_one_of" s__law_one_of a__law_one_of d__law_one_of
  b__law_one_of : Binds K d__law_one_of ["_law_bag_here", "_law_items"] []
  g__law_one_of : mg "_law_one_of" = some (.ref a__law_one_of)
  a__law_drawn_lots : Addr
  d__law_drawn_lots : FuncData
  F__law_drawn_lots : Fun K "_law_drawn_lots" "_law_drawn_lots" s__law_drawn_lots a__law_drawn_lots d__law_drawn_lots
  b__law_drawn_lots : Binds K d__law_drawn_lots ["_law_bag_here", "_law_pairs"] []
  g__law_drawn_lots : mg "_law_drawn_lots" = some (.ref a__law_drawn_lots)
  a__law_sublots : Addr
  d__law_sublots : FuncData
  F__law_sublots : Fun K "_law_sublots" "_law_sublots" s__law_sublots a__law_sublots d__law_sublots
  b__law_sublots : Binds K d__law_sublots ["_law_items"] []
  g__law_sublots : mg "_law_sublots" = some (.ref a__law_sublots)
  a__law_is_within : Addr
  d__law_is_within : FuncData
  F__law_is_within : Fun K "_law_is_within" "_law_is_within" s__law_is_within a__law_is_within d__law_is_within
  b__law_is_within : Binds K d__law_is_within ["_law_lot", "_law_other"] []
  g__law_is_within : mg "_law_is_within" = some (.ref a__law_is_within)
  a__law_least_lots : Addr
  d__law_least_lots : FuncData
  F__law_least_lots : Fun K "_law_least_lots" "_law_least_lots" s__law_least_lots a__law_least_lots d__law_least_lots
  b__law_least_lots : Binds K d__law_least_lots ["_law_lots"] []
  g__law_least_lots : mg "_law_least_lots" = some (.ref a__law_least_lots)
  a__law_meetings : Addr
  d__law_meetings : FuncData
  F__law_meetings : Fun K "_law_meetings" "_law_meetings" s__law_meetings a__law_meetings d__law_meetings
  b__law_meetings : Binds K d__law_meetings ["_law_lots", "_law_items"] []
  g__law_meetings : mg "_law_meetings" = some (.ref a__law_meetings)
  a__law_right : Addr
  d__law_right : FuncData
  F__law_right : Fun K "_law_right" "_law_right" s__law_right a__law_right d__law_right
  b__law_right : Binds K d__law_right ["_law_bag_here"] []
  g__law_right : mg "_law_right" = some (.ref a__law_right)
  a_law : Addr
  d_law : FuncData
  F_law : Fun K "law" "law" s_law a_law d_law
  b_law : Binds K d_law ["_law_script"] []
  g_law : mg "law" = some (.ref a_law)
  n_abs : mg "abs" = none
  n_all : mg "all" = none
  n_any : mg "any" = none
  n_enumerate : mg "enumerate" = none
  n_int : mg "int" = none
  n_isinstance : mg "isinstance" = none
  n_len : mg "len" = none
  n_list : mg "list" = none
  n_max : mg "max" = none
  n_min : mg "min" = none
  n_range : mg "range" = none
  n_set : mg "set" = none
  n_sorted : mg "sorted" = none
  n_str : mg "str" = none
  n_sum : mg "sum" = none
  n_tuple : mg "tuple" = none
  n_zip : mg "zip" = none
  t_LETTERS : Tok
  c_LETTERS : mg "LETTERS" = some (.str "abcdefghijklmnopqrstuvwxyz" t_LETTERS)
  t_MAX_LETTERS : Tok
  c_MAX_LETTERS : mg "MAX_LETTERS" = some (.int 4 t_MAX_LETTERS)
  t_MOST_LOTS : Tok
  c_MOST_LOTS : mg "MOST_LOTS" = some (.int 40 t_MOST_LOTS)
  t_MOST_MEMBERS : Tok
  c_MOST_MEMBERS : mg "MOST_MEMBERS" = some (.int 10 t_MOST_MEMBERS)
abbrev Ts {K : PySem.W.Frag} {mg : Str → Option Value} (T : Tx K mg) : List Addr := []
abbrev w : World := CTab.w
section
variable {P : Program} {K : PySem.W.Frag} {mg : Str → Option Value} {base : Heap}
theorem okh__law_bag (T : Tx K mg) : FnOk P w K mg base CX0 1 T.a__law_bag T.d__law_bag ["_law_script", "_law_at"] (spNewBag K) := by
  refine T.F__law_bag.ok sc__law_bag (fun vs H1 Q E h => ?_) (fun cdv A outer s H1 vs Q E hr h => ?_)
  · obtain ⟨H, a, ns, n, rfl, _⟩ := h
    rfl
  · obtain ⟨H, a, ns, n, rfl, ex, hS, hl, h0, h1, q⟩ := h
    refine ⟨_, (pss_cons (ps_set (i := 2) sc__law_bag.nd rfl (by first | exact Or.inl rfl | exact Or.inr rfl) (pe_ifExp (pt_cmpR opLt (pv 1) (pe_callB (kLen (K := K) rfl) (by rfl) T.n_len (by decide +kernel) (pa_cons (pv 0) pa_nil)) (nomark _)) (pe_ix (kIx (K := K) rfl) (pv 0) (pv 1) (fun _ _ => rfl)) (pe_op (kAdd (K := K) rfl) (pe_op (kAdd (K := K) rfl) (pe_callB (kSum (K := K) rfl rfl) (by rfl) T.n_sum (by decide +kernel) (pa_cons (pe_slice (kSl (K := K) rfl) (pv 0) po_none (po_some pe_int)) pa_nil)) (pe_op (kMul (K := K) rfl) pe_int (pv 1))) pe_int)))
      (pss_cons (ps_set (i := 3) sc__law_bag.nd rfl (by first | exact Or.inl rfl | exact Or.inr rfl) (pe_op op_mod (pe_callTy call_int1 (by rfl) T.n_int (by decide +kernel) (pa_cons (pe_callB call_abs (by rfl) T.n_abs (by decide +kernel) (pa_cons (pv 2) pa_nil)) pa_nil)) (pe_op op_powW (pe_op op_powW pe_int pe_int) pe_int)))
      (pss_cons (ps_set (i := 4) sc__law_bag.nd rfl (by first | exact Or.inl rfl | exact Or.inr rfl) (pe_op (kAdd (K := K) rfl) (pe_op (kAdd (K := K) rfl) (pe_op (kAdd (K := K) rfl) (pe_op (kMul (K := K) rfl) (pe_op op_mod (pe_callTy call_int1 (by rfl) T.n_int (by decide +kernel) (pa_cons (pv 3) pa_nil)) pe_int) pe_int) (pe_op (kMul (K := K) rfl) pe_int (pv 1))) (pe_op (kMul (K := K) rfl) pe_int (pe_callTy call_int1 (by rfl) T.n_int (by decide +kernel) (pa_cons (pe_cmpR opLt (pv 2) pe_int (nomark _)) pa_nil)))) pe_int))
      (pss_one (ps_ret (pe_shut (pe_lst (pa_cons (pe_callB (call_max2 rfl) (by rfl) T.n_max (by decide +kernel) (pa_cons pe_int (pa_cons (pe_op op_sub (pv 3) (pe_op op_powW pe_int pe_int)) pa_nil))) (pa_cons (pe_op op_mod (pe_callTy call_int1 (by rfl) T.n_int (by decide +kernel) (pa_cons (pv 4) pa_nil)) pe_int) (pa_cons pe_int pa_nil)))))))))), ?_⟩
    try dsimp only [cxOf]
    have rs : Rp K H (.ref a) (.list (ns.map .int)) := .lst hS RpAll.of_ints
    have ri : Rp K H (.int n) (.int n) := .int n
    have lenE : ∀ {σ : L2.St} {i : Nat}, σ[i]? = some (some (.ref a)) → EvD K (tCB (DL.rLen K) (tCons (tVar i) tNil)) σ H (.int (ns.length : Int)) := fun {σ i} hi =>
      evd_cb (eas1 (evp_var hi rs) eas_nil) (rc_len (by show some (ns.map PyData.int).length = _; rw [List.length_map]))
    refine st_set (K := K) (P := fun d => ∃ i, d = .int i) (evp_if (etp_test (evd_op (evp_var rfl ri) (lenE rfl) rd_lt)) (fun hb => ?_) (fun hb => ?_)) ex fun v d Hk H2 g r p => ?_
    · have hb' := of_decide_eq_true hb
      refine EvP.weak (evd_op (evp_var rfl rs) (evp_var rfl ri) (rd_ix (d := .int (ns.getD n.toNat 0)) (.inl rfl) ?_)) fun d e => ⟨_, e⟩
      have e1 : n = ((n.toNat : Nat) : Int) := by omega
      rw [e1]
      refine atI_nat (j := n.toNat) ?_
      rw [List.getElem?_map, List.getD_eq_getElem?_getD]
      rw [show (((n.toNat : Nat) : Int)).toNat = n.toNat from rfl, List.getElem?_eq_getElem (show n.toNat < ns.length by omega)]
      rfl
    · refine EvP.weak (evd_op (evd_op (evd_cb (eas1 (EvP.is (evd_sl (l := none) (u := some 1) (ds := ns.map .int) (evp_var rfl rs) (.inl ⟨rfl, rfl⟩) eo_none eo_c) (d2 := .list ((ns.take 1).map .int)) ?_) eas_nil) rc_sum) (evd_op evp_int (evp_var rfl ri) (rd_mul (.of_left (by decide)))) rd_add) evp_int rd_add) fun d e => ⟨_, e⟩
      show PyData.list (cutG (ns.map .int) none (some ((1 : Nat) : Int))) = _
      rw [cutG_to, List.map_take]
    obtain ⟨c, rfl⟩ := p
    have ri2 := ri.mono g.known
    refine st_set (evd_op (evd_cb (eas1 (evd_cb (eas1 (evp_var rfl r) eas_nil) rc_abs) eas_nil) rc_int) (evd_op (evd_op evp_int evp_int (rd_pow ⟨by decide, by decide⟩)) evp_int (rd_pow ⟨by decide, by decide +kernel⟩)) (rd_I (by decide +kernel))) g.sub fun v2 d2 Hk2 H3 g2 r2 p2 => ?_
    subst p2
    have mk : ∀ m : Int, 0 ≤ m % 2305843009213693669 ∧ m % 2305843009213693669 < 2305843009213693669 := fun m => ⟨Int.emod_nonneg _ (by decide), Int.emod_lt_of_pos _ (by decide)⟩
    refine st_set (evd_op (evd_op (evd_op (evd_op (evd_op (evd_cb (eas1 (evp_var rfl r2) eas_nil) rc_int) evp_int (rd_I (by decide))) evp_int (rd_mul (.of_right (by decide)))) (evd_op evp_int (evp_var rfl (ri2.mono g2.known)) (rd_mul (.of_left (by decide)))) rd_add)
      (evd_op evp_int (evd_cb (eas1 (evd_op (evp_var rfl (r.mono g2.known)) evp_int rd_lt) eas_nil) rc_intB) (rd_mul (.of_left (by decide)))) rd_add) evp_int rd_add) g2.sub fun v3 d3 Hk3 H4 g3 r3 p3 => ?_
    subst p3
    exact st_retBag (eas1 (evd_cb (eas1 evp_int (eas1 (evd_op (evp_var rfl (r2.mono g3.known)) (evd_op evp_int evp_int (rd_pow ⟨by decide, by decide⟩)) rd_I0) eas_nil)) rc_max2)
      (eas1 (evd_op (evd_cb (eas1 (evp_var rfl r3) eas_nil) rc_int) evp_int (rd_I (by decide))) (eas1 evp_int eas_nil))) g3.sub fun p Hk4 H5 g4 hp =>
      q p _ _ ((g.trans (g2.trans g3)).trans g4) hp
theorem ok__law_bag (T : Tx K mg) : FnOk P w K mg base CX0 1 T.a__law_bag T.d__law_bag ["_law_script", "_law_at"] (spNewBag K) := okh__law_bag T
theorem ok_without_one (T : Tx K mg) : FnOk P w K mg base CX0 1 T.a_without_one T.d_without_one ["lot", "gone"] (spW K (Ts T) 2 w_without_one) := by
  refine T.F_without_one.ok sc_without_one (fun vs H1 Q E h => spW_len h) (fun cdv A outer s H1 vs Q E hr h => ?_)
  letI : DL.Base := ⟨H1⟩
  exact ⟨_, (pss_one (ps_ret (pe_callTy (kTup (K := K) rfl) (by rfl) T.n_tuple (by decide +kernel) (pa_cons (pe_lc (own := [("one", 2)]) (g := (gName 2)) rfl sc_without_one.nd (kpSeqX (K := K) rfl (pv 0)) (blkOk_by (N := ["lot", "gone", "one"]) (sc := defScope s_without_one) (by decide +kernel)) (fun _ _ _ _ _ => (pg_name (i := 2) sc_without_one.nd rfl (by first | exact Or.inl rfl | exact Or.inr rfl))) (fun _ _ _ _ _ => (pts_one (pt_cmpR (kNeB (K := K) rfl (hu65 hr)) (pv 2) (pv 1) (nomark _)))) (fun _ _ _ _ _ => (pv 2))) pa_nil)))),
    ds_body (N := 3) rfl (ds_ret (de_cb cw_tuple (dl_cons (de_new (dn_lc (di_seqA de_var) db_name (dt_test (de_op ow_neB de_var de_var)) de_var (by decide))) dl_nil))) (by rfl) h⟩
theorem ok_least_of (T : Tx K mg) : FnOk P w K mg base CX0 2 T.a_least_of T.d_least_of ["holds"] (spW K (Ts T) 1 w_least_of) := by
  refine T.F_least_of.ok sc_least_of (fun vs H1 Q E h => spW_len h) (fun cdv A outer s H1 vs Q E hr h => ?_)
  letI : DL.Base := ⟨H1⟩
  exact ⟨_, (pss_cons (ps_setLc (i := 1) (own := [("lot", 2)]) (g := (gName 2)) rfl sc_least_of.nd rfl rfl (sw_true rfl rfl rfl (by decide +kernel)) (kpSeqX (K := K) rfl (pv 0)) (blkOk_by (N := ["holds", "found", "lot", "one"]) (sc := defScope s_least_of) (by decide +kernel)) (fun _ _ _ _ _ => (pg_name (i := 2) sc_least_of.nd rfl (by first | exact Or.inl rfl | exact Or.inr rfl))) (fun _ _ _ _ _ => (pts_one (PW.pt (pw_and (pt_val (pe_ix (kIxA (K := K) rfl (hu65 hr)) (pv 0) (pv 2) (fun _ _ => rfl))) (pw_and1 (pt_not (pt_val (pe_callB (kAny (K := K) rfl rfl) (by rfl) T.n_any (by decide +kernel) (pa_cons (pe_lc (own := [("one", 3)]) (g := (gName 3)) rfl sc_least_of.nd (kpSeqX (K := K) rfl (pv 2)) (blkOk_by (N := ["holds", "found", "lot", "one"]) (by first | rfl | kernel_rfl)) (fun _ _ _ _ _ => (pg_name (i := 3) sc_least_of.nd rfl (by first | exact Or.inl rfl | exact Or.inr rfl))) (fun _ _ _ _ _ => pts_nil) (fun _ _ _ _ _ => (pe_ix (kIxA (K := K) rfl (hu65 hr)) (pv 0) (pe_call (ok_without_one T) (hr.mono (by decide)) (by rfl) T.g_without_one T.F_without_one.kp T.b_without_one .nil pass0 (pa_cons (pv 2) (pa_cons (pv 3) pa_nil))) (fun _ _ => rfl)))) pa_nil))))))))) (fun _ _ _ _ _ => (pv 2)))
      (pss_one (ps_ret (pe_callTy (kTup (K := K) rfl) (by rfl) T.n_tuple (by decide +kernel) (pa_cons (pe_callB (kSortA (K := K) (w := w) rfl rfl rfl (hu64 hr)) (by rfl) T.n_sorted (by decide +kernel) (pa_cons (pv 1) pa_nil)) pa_nil))))),
    ds_body (N := 4) rfl (ds_seq (ds_set (dm_dat (de_new (dn_lc (di_seqA de_var) db_name (dt_and (dt_B (de_op ow_ixA de_var de_var)) (dt_not (dt_B (de_cb cw_any (dl_cons (de_new (dn_lc (di_seqA de_var) db_name dt_yes (de_op ow_ixA de_var (de_call (da_var (da_var da_nil)))) (by decide))) dl_nil))))) de_var (by decide)))))
      (ds_ret (de_cb cw_tuple (dl_cons (de_new (dn_sortA de_var)) dl_nil)))) (by rfl) h⟩
theorem ok_do_ascend (T : Tx K mg) : FnOk P w K mg base CX0 1 T.a_do_ascend T.d_do_ascend ["items"] (spW K (Ts T) 1 w_do_ascend) := by
  refine T.F_do_ascend.ok sc_do_ascend (fun vs H1 Q E h => spW_len h) (fun cdv A outer s H1 vs Q E hr h => ?_)
  letI : DL.Base := ⟨H1⟩
  exact ⟨_, (pss_one (ps_ret (pe_callB (kAll (K := K) rfl rfl) (by rfl) T.n_all (by decide +kernel) (pa_cons (pe_lc (own := [("one", 1), ("other", 2)]) (g := (gTup K 2 (gCons (gName 1) (gCons (gName 2) gNil)))) rfl sc_do_ascend.nd (kpZipM (K := K) rfl (by rfl) T.n_zip (pa_cons (pv 0) (pa_cons (pe_slice (kSl (K := K) rfl) (pv 0) (po_some pe_int) po_none) pa_nil))) (blkOk_by (N := ["items", "one", "other"]) (sc := defScope s_do_ascend) (by decide +kernel)) (fun _ _ _ _ _ => (kgTup (K := K) rfl rfl (pgs_cons (pg_name (i := 1) sc_do_ascend.nd rfl (by first | exact Or.inl rfl | exact Or.inr rfl)) (pgs_cons (pg_name (i := 2) sc_do_ascend.nd rfl (by first | exact Or.inl rfl | exact Or.inr rfl)) pgs_nil)))) (fun _ _ _ _ _ => pts_nil) (fun _ _ _ _ _ => (pe_cmpR (kLtX (K := K) rfl (hu65 hr)) (pv 1) (pv 2) (nomark _)))) pa_nil)))),
    ds_body (N := 3) rfl (ds_ret (de_cb cw_all (dl_cons (de_new (dn_lc (di_zip (dl_cons de_var (dl_cons (de_sl de_var (do_some de_int) do_none) dl_nil))) (db_tup (is := [1, 2]) rfl) dt_yes (de_op ow_ltX de_var de_var) (by decide))) dl_nil))) (by rfl) h⟩
theorem ok_meets_each (T : Tx K mg) : FnOk P w K mg base CX0 1 T.a_meets_each T.d_meets_each ["lot", "lots"] (spW K (Ts T) 2 w_meets_each) := by
  refine T.F_meets_each.ok sc_meets_each (fun vs H1 Q E h => spW_len h) (fun cdv A outer s H1 vs Q E hr h => ?_)
  letI : DL.Base := ⟨H1⟩
  exact ⟨_, (pss_one (ps_ret (pe_callB (kAll (K := K) rfl rfl) (by rfl) T.n_all (by decide +kernel) (pa_cons (pe_lc (own := [("other", 2)]) (g := (gName 2)) rfl sc_meets_each.nd (kpSeqX (K := K) rfl (pv 1)) (blkOk_by (N := ["lot", "lots", "other", "one"]) (sc := defScope s_meets_each) (by decide +kernel)) (fun _ _ _ _ _ => (pg_name (i := 2) sc_meets_each.nd rfl (by first | exact Or.inl rfl | exact Or.inr rfl))) (fun _ _ _ _ _ => pts_nil) (fun _ _ _ _ _ => (pe_callB (kAny (K := K) rfl rfl) (by rfl) T.n_any (by decide +kernel) (pa_cons (pe_lc (own := [("one", 3)]) (g := (gName 3)) rfl sc_meets_each.nd (kpSeqX (K := K) rfl (pv 0)) (blkOk_by (N := ["lot", "lots", "other", "one"]) (by first | rfl | kernel_rfl)) (fun _ _ _ _ _ => (pg_name (i := 3) sc_meets_each.nd rfl (by first | exact Or.inl rfl | exact Or.inr rfl))) (fun _ _ _ _ _ => pts_nil) (fun _ _ _ _ _ => (pe_cmpR (kInX (K := K) rfl (hu65 hr)) (pv 3) (pv 2) (by rfl)))) pa_nil)))) pa_nil)))),
    ds_body (N := 4) rfl (ds_ret (de_cb cw_all (dl_cons (de_new (dn_lc (di_seqA de_var) db_name dt_yes (de_cb cw_any (dl_cons (de_new (dn_lc (di_seqA de_var) db_name dt_yes (de_op ow_inX de_var de_var) (by decide))) dl_nil)) (by decide))) dl_nil))) (by rfl) h⟩
theorem ok_members_of (T : Tx K mg) : FnOk P w K mg base CX0 1 T.a_members_of T.d_members_of ["lots"] (spW K (Ts T) 1 w_members_of) := by
  refine T.F_members_of.ok sc_members_of (fun vs H1 Q E h => spW_len h) (fun cdv A outer s H1 vs Q E hr h => ?_)
  letI : DL.Base := ⟨H1⟩
  exact ⟨_, (pss_one (ps_ret (pe_callTy (kTup (K := K) rfl) (by rfl) T.n_tuple (by decide +kernel) (pa_cons (pe_callB (kSortD (K := K) (w := w) rfl rfl rfl (hu64 hr)) (by rfl) T.n_sorted (by decide +kernel) (pa_cons (pe_callTy (kSetD (K := K) (w := w) rfl rfl rfl (hu64 hr)) (by rfl) T.n_set (by decide +kernel) (pa_cons (pe_lc2 (own := [("lot", 1), ("one", 2)]) (vs1 := [2]) (g := (gName 1)) (g1 := (gName 2)) rfl sc_members_of.nd (kpSeqX (K := K) rfl (pv 0)) (blkOk_by (N := ["lots", "lot", "one"]) (sc := defScope s_members_of) (by decide +kernel)) (by decide) (fun _ _ _ _ _ => (pg_name (i := 1) sc_members_of.nd rfl (by first | exact Or.inl rfl | exact Or.inr rfl))) (fun _ _ _ _ _ => pts_nil) (fun _ _ _ _ _ => (kpSeqX (K := K) rfl (pv 1))) (fun _ _ _ _ _ => (pg_name (i := 2) sc_members_of.nd rfl (by first | exact Or.inl rfl | exact Or.inr rfl))) (fun _ _ _ _ _ => pts_nil) (fun _ _ _ _ _ => (pv 2))) pa_nil)) pa_nil)) pa_nil)))),
    ds_body (N := 3) rfl (ds_ret (de_cb cw_tuple (dl_cons (de_new (dn_sortSet (de_new (dn_lc2 (di_seqA de_var) db_name dt_yes (di_seqA de_var) db_name dt_yes de_var (by decide) (by decide))))) dl_nil))) (by rfl) h⟩
theorem ok_lots_within (T : Tx K mg) : FnOk P w K mg base CX0 1 T.a_lots_within T.d_lots_within ["items"] (spW K (Ts T) 1 w_lots_within) := by
  refine T.F_lots_within.ok sc_lots_within (fun vs H1 Q E h => spW_len h) (fun cdv A outer s H1 vs Q E hr h => ?_)
  letI : DL.Base := ⟨H1⟩
  exact ⟨_, (pss_cons (ps_par (i := 1) (j := 2) (by rfl) sc_lots_within.nd rfl rfl (by decide) rfl rfl (pa_cons (pe_lst (pa_cons (pe_tup pa_nil) pa_nil)) (pa_cons (pe_lst (pa_cons (pe_tup pa_nil) pa_nil)) pa_nil)) (by rfl))
      (pss_cons (ps_for PassesOwn.never rfl (kpSeqX (K := K) rfl (pv 0)) (pg_name (i := 3) sc_lots_within.nd rfl (by first | exact Or.inl rfl | exact Or.inr rfl)) (pss_cons (ps_setLc2 (i := 2) (own := [("lot", 4), ("one", 5)]) (vs1 := [5]) (g := (gName 4)) (g1 := (gName 5)) rfl sc_lots_within.nd rfl rfl (sw_true rfl rfl rfl (by decide +kernel)) (kpSeqX (K := K) rfl (pv 2)) (blkOk_by (N := ["items", "found", "layer", "turn", "lot", "one"]) (sc := defScope s_lots_within) (by decide +kernel)) (by decide) (fun _ _ _ _ _ => (pg_name (i := 4) sc_lots_within.nd rfl (by first | exact Or.inl rfl | exact Or.inr rfl))) (fun _ _ _ _ _ => pts_nil) (fun _ _ _ _ _ => (kpSeqX (K := K) rfl (pv 0))) (fun _ _ _ _ _ => (pg_name (i := 5) sc_lots_within.nd rfl (by first | exact Or.inl rfl | exact Or.inr rfl))) (fun _ _ _ _ _ => (pts_one (PW.pt (pw_or (pt_cmpR (kEqB (K := K) rfl (hu65 hr)) (pv 4) (pe_tup pa_nil) (nomark _)) (pw_or1 (pt_cmpR (kLtX (K := K) rfl (hu65 hr)) (pe_ix (kIxA (K := K) rfl (hu65 hr)) (pv 4) (pe_un un_neg pe_int) (fun _ _ => rfl)) (pv 5) (nomark _))))))) (fun _ _ _ _ _ => (pe_tup (kStar (K := K) rfl (pv 4) (pa_cons (pv 5) pa_nil)))))
      (pss_one (ps_expr (pe_bm PySem.F.plainAttrs_list PySem.F.slot_list_extend PySem.F.type_list_extend (mt_extL (K := K) rfl) (pv 1) (pa_cons (pv 2) pa_nil))))))
      (pss_one (ps_ret (pv 1))))),
    ds_body (N := 6) rfl (ds_seq (ds_par2 (dm_new (dn_lst (dl_cons (de_tup dl_nil) dl_nil))) (dm_dat (de_new (dn_lst (dl_cons (de_tup dl_nil) dl_nil)))))
      (ds_seq (ds_for (di_seqA de_var) db_name (ds_seq (ds_set (dm_dat (de_new (dn_lc2 (di_seqA de_var) db_name dt_yes (di_seqA de_var) db_name (dt_or (dt_test (de_op ow_eqB de_var (de_tup dl_nil))) (dt_test (de_op ow_ltX (de_op ow_ixA de_var (de_neg de_int)) de_var))) (de_tup (dl_star de_var (dl_cons de_var dl_nil))) (by decide) (by decide)))))
      (ds_ext de_var)))
      (ds_ret de_var))) (by rfl) h⟩
theorem ok_is_name (T : Tx K mg) : FnOk P w K mg base CX0 1 T.a_is_name T.d_is_name ["value"] (spW K (Ts T) 1 w_is_name) := by
  refine T.F_is_name.ok sc_is_name (fun vs H1 Q E h => spW_len h) (fun cdv A outer s H1 vs Q E hr h => ?_)
  letI : DL.Base := ⟨H1⟩
  exact ⟨_, (pss_one (ps_ret (pe_and (pe_callB (kIsiY (K := K) rfl) (by rfl) T.n_isinstance (by decide +kernel) (pa_cons (pv 0) (pa_cons (pe_bltn (v := .ty "str") (by rfl) T.n_str (by decide +kernel) rfl) pa_nil))) (pe_and (pe_chain opLe opLe pe_int (pe_callB (kLenA (K := K) rfl) (by rfl) T.n_len (by decide +kernel) (pa_cons (pv 0) pa_nil)) (pe_glob (v := .int 4) (by rfl) T.c_MAX_LETTERS ⟨_, rfl⟩)) (pe_one (pe_callB (kAll (K := K) rfl rfl) (by rfl) T.n_all (by decide +kernel) (pa_cons (pe_lc (own := [("sign", 1)]) (g := (gName 1)) rfl sc_is_name.nd (kpSeqX (K := K) rfl (pv 0)) (blkOk_by (N := ["value", "sign"]) (sc := defScope s_is_name) (by decide +kernel)) (fun _ _ _ _ _ => (pg_name (i := 1) sc_is_name.nd rfl (by first | exact Or.inl rfl | exact Or.inr rfl))) (fun _ _ _ _ _ => pts_nil) (fun _ _ _ _ _ => (pe_cmpR (kInA (K := K) rfl (hu65 hr)) (pv 1) (pe_glob (v := .str "abcdefghijklmnopqrstuvwxyz") (by rfl) T.c_LETTERS ⟨_, rfl⟩) (by rfl)))) pa_nil))))))),
    ds_body (N := 2) rfl (ds_ret (de_and (de_isStr de_var) (de_and (de_chain ow_le ow_le de_int (de_cb cw_lenA (dl_cons de_var dl_nil)) (de_c fun _ => .int _)) (de_cb cw_all (dl_cons (de_new (dn_lc (di_seqA de_var) db_name dt_yes (de_op ow_inA de_var (de_c fun _ => .str _)) (by decide))) dl_nil))))) (by rfl) h⟩
theorem ok_are_names (T : Tx K mg) : FnOk P w K mg base CX0 2 T.a_are_names T.d_are_names ["value"] (spW K (Ts T) 1 w_are_names) := by
  refine T.F_are_names.ok sc_are_names (fun vs H1 Q E h => spW_len h) (fun cdv A outer s H1 vs Q E hr h => ?_)
  letI : DL.Base := ⟨H1⟩
  exact ⟨_, (pss_one (ps_ret (pe_and (pe_callB (kIsiY (K := K) rfl) (by rfl) T.n_isinstance (by decide +kernel) (pa_cons (pv 0) (pa_cons (pe_bltn (v := .ty "tuple") (by rfl) T.n_tuple (by decide +kernel) rfl) pa_nil))) (pe_one (pe_callB (kAll (K := K) rfl rfl) (by rfl) T.n_all (by decide +kernel) (pa_cons (pe_lc (own := [("one", 1)]) (g := (gName 1)) rfl sc_are_names.nd (kpSeqX (K := K) rfl (pv 0)) (blkOk_by (N := ["value", "one"]) (sc := defScope s_are_names) (by decide +kernel)) (fun _ _ _ _ _ => (pg_name (i := 1) sc_are_names.nd rfl (by first | exact Or.inl rfl | exact Or.inr rfl))) (fun _ _ _ _ _ => pts_nil) (fun _ _ _ _ _ => (pe_call (ok_is_name T) (hr.mono (by decide)) (by rfl) T.g_is_name T.F_is_name.kp T.b_is_name .nil pass0 (pa_cons (pv 1) pa_nil)))) pa_nil)))))),
    ds_body (N := 2) rfl (ds_ret (de_and (de_isTup de_var) (de_cb cw_all (dl_cons (de_new (dn_lc (di_seqA de_var) db_name dt_yes (de_call (da_var da_nil)) (by decide))) dl_nil)))) (by rfl) h⟩
theorem ok_is_ascending (T : Tx K mg) : FnOk P w K mg base CX0 1 T.a_is_ascending T.d_is_ascending ["items"] (spW K (Ts T) 1 w_is_ascending) := by
  refine T.F_is_ascending.ok sc_is_ascending (fun vs H1 Q E h => spW_len h) (fun cdv A outer s H1 vs Q E hr h => ?_)
  letI : DL.Base := ⟨H1⟩
  exact ⟨_, (pss_one (ps_ret (pe_callB (kAll (K := K) rfl rfl) (by rfl) T.n_all (by decide +kernel) (pa_cons (pe_lc (own := [("one", 1), ("other", 2)]) (g := (gTup K 2 (gCons (gName 1) (gCons (gName 2) gNil)))) rfl sc_is_ascending.nd (kpZipM (K := K) rfl (by rfl) T.n_zip (pa_cons (pv 0) (pa_cons (pe_slice (kSl (K := K) rfl) (pv 0) (po_some pe_int) po_none) pa_nil))) (blkOk_by (N := ["items", "one", "other"]) (sc := defScope s_is_ascending) (by decide +kernel)) (fun _ _ _ _ _ => (kgTup (K := K) rfl rfl (pgs_cons (pg_name (i := 1) sc_is_ascending.nd rfl (by first | exact Or.inl rfl | exact Or.inr rfl)) (pgs_cons (pg_name (i := 2) sc_is_ascending.nd rfl (by first | exact Or.inl rfl | exact Or.inr rfl)) pgs_nil)))) (fun _ _ _ _ _ => pts_nil) (fun _ _ _ _ _ => (pe_cmpR opLt (pv 1) (pv 2) (nomark _)))) pa_nil)))),
    ds_body (N := 3) rfl (ds_ret (de_cb cw_all (dl_cons (de_new (dn_lc (di_zip (dl_cons de_var (dl_cons (de_sl de_var (do_some de_int) do_none) dl_nil))) (db_tup (is := [1, 2]) rfl) dt_yes (de_op ow_lt de_var de_var) (by decide))) dl_nil))) (by rfl) h⟩
theorem ok_is_lot (T : Tx K mg) : FnOk P w K mg base CX0 3 T.a_is_lot T.d_is_lot ["value"] (spW K (Ts T) 1 w_is_lot) := by
  refine T.F_is_lot.ok sc_is_lot (fun vs H1 Q E h => spW_len h) (fun cdv A outer s H1 vs Q E hr h => ?_)
  letI : DL.Base := ⟨H1⟩
  exact ⟨_, (pss_one (ps_ret (pe_and (pe_call (ok_are_names T) (hr.mono (by decide)) (by rfl) T.g_are_names T.F_are_names.kp T.b_are_names .nil pass0 (pa_cons (pv 0) pa_nil)) (pe_one (pe_call (ok_is_ascending T) (hr.mono (by decide)) (by rfl) T.g_is_ascending T.F_is_ascending.kp T.b_is_ascending .nil pass0 (pa_cons (pv 0) pa_nil)))))),
    ds_body (N := 1) rfl (ds_ret (de_and (de_call (da_var da_nil)) (de_call (da_var da_nil)))) (by rfl) h⟩
theorem ok_is_pair (T : Tx K mg) : FnOk P w K mg base CX0 4 T.a_is_pair T.d_is_pair ["value"] (spW K (Ts T) 1 w_is_pair) := by
  refine T.F_is_pair.ok sc_is_pair (fun vs H1 Q E h => spW_len h) (fun cdv A outer s H1 vs Q E hr h => ?_)
  letI : DL.Base := ⟨H1⟩
  exact ⟨_, (pss_one (ps_ret (pe_and (pe_call (ok_is_lot T) (hr.mono (by decide)) (by rfl) T.g_is_lot T.F_is_lot.kp T.b_is_lot .nil pass0 (pa_cons (pv 0) pa_nil)) (pe_one (pe_cmpR (kEqB (K := K) rfl (hu65 hr)) (pe_callB (kLenA (K := K) rfl) (by rfl) T.n_len (by decide +kernel) (pa_cons (pv 0) pa_nil)) pe_int (nomark _)))))),
    ds_body (N := 1) rfl (ds_ret (de_and (de_call (da_var da_nil)) (de_op ow_eqB (de_cb cw_lenA (dl_cons de_var dl_nil)) de_int))) (by rfl) h⟩
theorem ok_is_lot_of_pairs (T : Tx K mg) : FnOk P w K mg base CX0 5 T.a_is_lot_of_pairs T.d_is_lot_of_pairs ["value"] (spW K (Ts T) 1 w_is_lot_of_pairs) := by
  refine T.F_is_lot_of_pairs.ok sc_is_lot_of_pairs (fun vs H1 Q E h => spW_len h) (fun cdv A outer s H1 vs Q E hr h => ?_)
  letI : DL.Base := ⟨H1⟩
  exact ⟨_, (pss_one (ps_ret (pe_and (pe_callB (kIsiY (K := K) rfl) (by rfl) T.n_isinstance (by decide +kernel) (pa_cons (pv 0) (pa_cons (pe_bltn (v := .ty "tuple") (by rfl) T.n_tuple (by decide +kernel) rfl) pa_nil))) (pe_and (pe_callB (kAll (K := K) rfl rfl) (by rfl) T.n_all (by decide +kernel) (pa_cons (pe_lc (own := [("one", 1)]) (g := (gName 1)) rfl sc_is_lot_of_pairs.nd (kpSeqX (K := K) rfl (pv 0)) (blkOk_by (N := ["value", "one"]) (sc := defScope s_is_lot_of_pairs) (by decide +kernel)) (fun _ _ _ _ _ => (pg_name (i := 1) sc_is_lot_of_pairs.nd rfl (by first | exact Or.inl rfl | exact Or.inr rfl))) (fun _ _ _ _ _ => pts_nil) (fun _ _ _ _ _ => (pe_call (ok_is_pair T) (hr.mono (by decide)) (by rfl) T.g_is_pair T.F_is_pair.kp T.b_is_pair .nil pass0 (pa_cons (pv 1) pa_nil)))) pa_nil)) (pe_one (pe_call (ok_do_ascend T) (hr.mono (by decide)) (by rfl) T.g_do_ascend T.F_do_ascend.kp T.b_do_ascend .nil pass0 (pa_cons (pv 0) pa_nil))))))),
    ds_body (N := 2) rfl (ds_ret (de_and (de_isTup de_var) (de_and (de_cb cw_all (dl_cons (de_new (dn_lc (di_seqA de_var) db_name dt_yes (de_call (da_var da_nil)) (by decide))) dl_nil)) (de_call (da_var da_nil))))) (by rfl) h⟩
theorem ok_meeting_lots (T : Tx K mg) : FnOk P w K mg base CX0 6 T.a_meeting_lots T.d_meeting_lots ["lots"] (spW K (Ts T) 1 w_meeting_lots) := by
  refine T.F_meeting_lots.ok sc_meeting_lots (fun vs H1 Q E h => spW_len h) (fun cdv A outer s H1 vs Q E hr h => ?_)
  letI : DL.Base := ⟨H1⟩
  exact ⟨_, (pss_cons (ps_if (PW.pt (pw_or (pt_not (pt_val (pe_callB (kIsiY (K := K) rfl) (by rfl) T.n_isinstance (by decide +kernel) (pa_cons (pv 0) (pa_cons (pe_bltn (v := .ty "tuple") (by rfl) T.n_tuple (by decide +kernel) rfl) pa_nil))))) (pw_or (pt_cmpR opGt (pe_callB (kLenA (K := K) rfl) (by rfl) T.n_len (by decide +kernel) (pa_cons (pv 0) pa_nil)) (pe_glob (v := .int 40) (by rfl) T.c_MOST_LOTS ⟨_, rfl⟩) (nomark _)) (pw_or1 (pt_not (pt_val (pe_callB (kAll (K := K) rfl rfl) (by rfl) T.n_all (by decide +kernel) (pa_cons (pe_lc (own := [("lot", 1)]) (g := (gName 1)) rfl sc_meeting_lots.nd (kpSeqX (K := K) rfl (pv 0)) (blkOk_by (N := ["lots", "lot"]) (sc := defScope s_meeting_lots) (by decide +kernel)) (fun _ _ _ _ _ => (pg_name (i := 1) sc_meeting_lots.nd rfl (by first | exact Or.inl rfl | exact Or.inr rfl))) (fun _ _ _ _ _ => pts_nil) (fun _ _ _ _ _ => (pe_call (ok_is_lot_of_pairs T) (hr.mono (by decide)) (by rfl) T.g_is_lot_of_pairs T.F_is_lot_of_pairs.kp T.b_is_lot_of_pairs .nil pass0 (pa_cons (pv 1) pa_nil)))) pa_nil)))))))) (pss_one ps_dead) pss_nil)
      (pss_cons (ps_if (PW.pt (pw_or (pt_not (pt_val (pe_call (ok_do_ascend T) (hr.mono (by decide)) (by rfl) T.g_do_ascend T.F_do_ascend.kp T.b_do_ascend .nil pass0 (pa_cons (pv 0) pa_nil)))) (pw_or1 (pt_cmpR opGt (pe_callB (kLenA (K := K) rfl) (by rfl) T.n_len (by decide +kernel) (pa_cons (pe_call (ok_members_of T) (hr.mono (by decide)) (by rfl) T.g_members_of T.F_members_of.kp T.b_members_of .nil pass0 (pa_cons (pv 0) pa_nil)) pa_nil)) (pe_glob (v := .int 10) (by rfl) T.c_MOST_MEMBERS ⟨_, rfl⟩) (nomark _))))) (pss_one ps_dead) pss_nil)
      (pss_one (ps_ret (pe_call (ok_least_of T) (hr.mono (by decide)) (by rfl) T.g_least_of T.F_least_of.kp T.b_least_of .nil pass0 (pa_cons (pe_frz (FDc.pe_dcT (own := [("lot", 1)]) (g := (gName 1)) rfl (hu8 hr) rfl sc_meeting_lots.nd (kpSeqX (K := K) rfl (pe_call (ok_lots_within T) (hr.mono (by decide)) (by rfl) T.g_lots_within T.F_lots_within.kp T.b_lots_within .nil pass0 (pa_cons (pe_call (ok_members_of T) (hr.mono (by decide)) (by rfl) T.g_members_of T.F_members_of.kp T.b_members_of .nil pass0 (pa_cons (pv 0) pa_nil)) pa_nil))) (blkOk_by (N := ["lots", "lot"]) (sc := defScope s_meeting_lots) (by decide +kernel)) ⟨(fun _ _ _ _ _ => (pg_name (i := 1) sc_meeting_lots.nd rfl (by first | exact Or.inl rfl | exact Or.inr rfl))), (fun _ _ _ _ _ => pts_nil), (fun _ _ _ _ _ => (pv 1)), (fun _ _ _ _ _ => (pe_call (ok_meets_each T) (hr.mono (by decide)) (by rfl) T.g_meets_each T.F_meets_each.kp T.b_meets_each .nil pass0 (pa_cons (pv 1) (pa_cons (pv 0) pa_nil))))⟩)) pa_nil)))))),
    ds_body (N := 2) rfl (ds_seq (ds_if (dt_or (dt_not (dt_B (de_isTup de_var))) (dt_or (dt_test (de_op ow_gt (de_cb cw_lenA (dl_cons de_var dl_nil)) (de_c fun _ => .int _))) (dt_not (dt_B (de_cb cw_all (dl_cons (de_new (dn_lc (di_seqA de_var) db_name dt_yes (de_call (da_var da_nil)) (by decide))) dl_nil)))))) ds_dead ds_next)
      (ds_seq (ds_if (dt_or (dt_not (dt_B (de_call (da_var da_nil)))) (dt_test (de_op ow_gt (de_cb cw_lenA (dl_cons (de_call (da_var da_nil)) dl_nil)) (de_c fun _ => .int _)))) ds_dead ds_next)
      (ds_ret (de_call (da_cons (de_dcT (di_seqA (de_call (da_cons (de_call (da_var da_nil)) da_nil))) db_name dt_yes de_var (de_call (da_var (da_var da_nil))) (by decide)) da_nil))))) (by rfl) h⟩
theorem okh__law_draw (T : Tx K mg) : FnOk P w K mg base CX0 1 T.a__law_draw T.d__law_draw ["_law_bag_here", "_law_total"] (spB1 K drawPre drawPost) := by
  refine T.F__law_draw.ok sc__law_draw (fun vs H1 Q E h => ?_) (fun cdv A outer s H1 vs Q E hr h => ?_)
  · obtain ⟨H, b, v, d, rfl, _⟩ := h
    rfl
  · obtain ⟨H, b, v, d, rfl, ex, hb, r, p, q⟩ := h
    refine ⟨_, (pss_bag (pss_cons (ps_if (pt_cmpR opGt (pe_ix (kIx (K := K) rfl) (pv 0) pe_int (fun _ _ => rfl)) pe_int (nomark _)) (pss_cons (ps_set (i := 2) sc__law_draw.nd rfl (by first | exact Or.inl rfl | exact Or.inr rfl) (pe_op op_mod (pe_callTy call_int1 (by rfl) T.n_int (by decide +kernel) (pa_cons (pe_ix (kIx (K := K) rfl) (pv 0) pe_int (fun _ _ => rfl)) pa_nil)) (pv 1)))
      (pss_cons (ps_asg (pe_op op_fdivW (pe_ix (kIx (K := K) rfl) (pv 0) pe_int (fun _ _ => rfl)) (pv 1)) (pg_sub (pv 0) pe_int set_list))
      (pss_one (ps_ret (pv 2))))) pss_nil)
      (pss_cons (ps_asg (pe_op (kAdd (K := K) rfl) (pe_ix (kIx (K := K) rfl) (pv 0) pe_int (fun _ _ => rfl)) pe_int) (pg_sub (pv 0) pe_int set_list))
      (pss_cons (ps_set (i := 3) sc__law_draw.nd rfl (by first | exact Or.inl rfl | exact Or.inr rfl) (pe_op op_mod (pe_callTy call_int1 (by rfl) T.n_int (by decide +kernel) (pa_cons (pe_op (kAdd (K := K) rfl) (pe_ix (kIx (K := K) rfl) (pv 0) pe_int (fun _ _ => rfl)) (pe_op (kMul (K := K) rfl) pe_int (pe_ix (kIx (K := K) rfl) (pv 0) pe_int (fun _ _ => rfl)))) pa_nil)) pe_int))
      (pss_cons (ps_set (i := 4) sc__law_draw.nd rfl (by first | exact Or.inl rfl | exact Or.inr rfl) (pe_op (kAdd (K := K) rfl) (pe_op (kMul (K := K) rfl) (pe_op op_mod (pe_callTy call_int1 (by rfl) T.n_int (by decide +kernel) (pa_cons (pe_op (kMul (K := K) rfl) (pv 3) (pv 3)) pa_nil)) pe_int) (pv 3)) (pe_op (kMul (K := K) rfl) pe_int (pe_ix (kIx (K := K) rfl) (pv 0) pe_int (fun _ _ => rfl)))))
      (pss_one (ps_ret (pe_op op_mod (pe_callTy call_int1 (by rfl) T.n_int (by decide +kernel) (pa_cons (pe_op op_fdivW (pe_op op_mod (pe_callTy call_int1 (by rfl) T.n_int (by decide +kernel) (pa_cons (pv 4) pa_nil)) pe_int) pe_int) pa_nil)) (pv 1))))))))), ?_⟩
    try dsimp only [cxOf]
    obtain ⟨n, rfl, hn, hn2⟩ := p
    have rn := r
    cases r
    refine ⟨b, ex _ _ hb, fun x y z => ?_⟩
    have e0 : Ex (upd H b (three x y z)) (upd H1 b (three x y z)) := ex_upd ex b _
    have rb : Rp K (upd H b (three x y z)) (.ref b) (.list [.int x, .int y, .int z]) := .lst (sq_of upd_same) (.cons (.int x) (.cons (.int y) (.cons (.int z) .nil)))
    have fin : ∀ (H3 : Hp), Ex (upd H1 b (three x y z)) H3 → Grow H H1 H (upd H3 b (BagO b)) := fun H3 e3 => bag_grow ex (ex _ _ hb) e3
    have fin2 : ∀ (H3 : Hp) (o : HO), Ex (upd H1 b (three x y z)) H3 → Grow H H1 H (upd (upd H3 b o) b (BagO b)) := fun H3 o e3 => by
      rw [DL.upd_upd]
      exact fin H3 e3
    have rem : ∀ m : Int, 0 ≤ m % n ∧ m % n < n := fun m => ⟨Int.emod_nonneg _ (by omega), Int.emod_lt_of_pos _ hn⟩
    have dv : CDivW x n := ⟨hn, Nat.lt_trans hn2 (by decide)⟩
    refine st_when (etp_test (evd_op (evd_op (evp_var rfl rb) evp_int (rd_ix (d := .int x) (.inl rfl) rfl)) evp_int rd_gt)) e0 (fun hx Hk H2 g => ?_) (fun hx Hk H2 g => ?_)
    · refine st_set (evd_op (evd_cb (eas1 (evd_op (evp_var rfl (rb.mono g.known)) evp_int (rd_ix (d := .int x) (.inl rfl) rfl)) eas_nil) rc_int) (evp_var rfl (.int n)) (rd_I hn)) g.sub fun v2 d2 Hk2 H3 g2 r2 p2 => ?_
      subst p2
      cases r2
      refine (evd_op (evd_op (evp_var rfl (rb.mono (g.trans g2).known)) evp_int (rd_ix (d := .int x) (.inl rfl) rfl)) (evp_var rfl (.int n)) (rd_I dv)) H3 g2.sub _ fun v3 d3 Hk3 H4 g3 r3 p3 => ?_
      subst p3
      cases r3
      have e4 : Ex (upd H1 b (three x y z)) H4 := ((g.trans g2).trans g3).all
      refine ⟨_, rfl, b, _, 0, 0, rfl, rfl, e4 _ _ upd_same, rfl, ?_⟩
      refine ⟨_, rfl, _, _, _, upd_same, ?_⟩
      exact q _ (.int (x % n)) _ _ (fin2 H4 _ e4) (.int _) ⟨_, n, rfl, rfl, rem x⟩
    · -- bag[2] = bag[2] + 1
      refine (evd_op (evd_op (evp_var rfl (rb.mono g.known)) evp_int (rd_ix (d := .int z) (.inl rfl) rfl)) evp_int rd_add) H2 g.sub _ fun v2 d2 Hk2 H3 g2 r2 p2 => ?_
      subst p2
      cases r2
      have e3 : Ex (upd H1 b (three x y z)) H3 := (g.trans g2).all
      refine ⟨_, rfl, b, _, 2, 2, rfl, rfl, e3 _ _ upd_same, rfl, ?_⟩
      have e4 : Ex (upd H b (three x y (z + 1))) (upd H3 b (.lst ([V.int x, V.int y, V.int z].set 2 (.int (z + 1))))) := fun a o h => by
        by_cases ha : a = b
        · subst ha
          rw [upd_same] at h ⊢
          exact h
        · rw [upd_ne ha] at h ⊢
          exact e3 a o (by rw [upd_ne ha]; exact ex a o h)
      have rb2 : Rp K (upd H b (three x y (z + 1))) (.ref b) (.list [.int x, .int y, .int (z + 1)]) := .lst (sq_of upd_same) (.cons (.int x) (.cons (.int y) (.cons (.int _) .nil)))
      refine st_set (evd_op (evd_cb (eas1 (evd_op (evd_op (evp_var rfl rb2) evp_int (rd_ix (d := .int y) (.inl rfl) rfl)) (evd_op evp_int (evd_op (evp_var rfl rb2) evp_int (rd_ix (d := .int (z + 1)) (.inl rfl) rfl)) (rd_mul (.of_left (by decide)))) rd_add) eas_nil) rc_int) evp_int (rd_I (by decide))) e4 fun v5 d5 Hk5 H5 g5 r5 p5 => ?_
      subst p5
      cases r5
      generalize e1 : (y + 1048613 * (z + 1)) % 2305843009213693951 = one
      have h1 : -(2 ^ 64) < one ∧ one < 2 ^ 64 := by
        have a := Int.emod_nonneg (y + 1048613 * (z + 1)) (show (2305843009213693951 : Int) ≠ 0 by decide)
        have c := Int.emod_lt_of_pos (y + 1048613 * (z + 1)) (show (0 : Int) < 2305843009213693951 by decide)
        constructor <;> omega
      have ok1 : ∀ i, IntMulOk one i := fun i => .of_left (PySem.intBits_le_64 h1.1 h1.2)
      have ok2 : ∀ i, IntMulOk i one := fun i => .of_right (PySem.intBits_le_64 h1.1 h1.2)
      refine st_set (evd_op (evd_op (evd_op (evd_cb (eas1 (evd_op (evp_var rfl (.int one)) (evp_var rfl (.int one)) (rd_mul (ok1 _))) eas_nil) rc_int) evp_int (rd_I (by decide))) (evp_var rfl (.int one)) (rd_mul (ok2 _)))
        (evd_op evp_int (evd_op (evp_var rfl (rb2.mono g5.known)) evp_int (rd_ix (d := .int (z + 1)) (.inl rfl) rfl)) (rd_mul (.of_left (by decide)))) rd_add) g5.sub fun v6 d6 Hk6 H6 g6 r6 p6 => ?_
      subst p6
      refine st_ret (evd_op (evd_cb (eas1 (evd_op (evd_op (evd_cb (eas1 (evp_var rfl r6) eas_nil) rc_int) evp_int (rd_I (by decide))) evp_int (rd_I ⟨by decide, by decide⟩)) eas_nil) rc_int) (evp_var rfl (.int n)) (rd_I hn)) g6.sub fun v7 d7 Hk7 H7 g7 r7 p7 => ?_
      subst p7
      cases r7
      have e7 := ((g5.trans g6).trans g7).all
      refine ⟨_, _, _, e7 _ _ upd_same, ?_⟩
      refine q _ _ H _ ?_ (.int _) ⟨_, n, rfl, rfl, rem _⟩
      exact bag_grow ex (ex _ _ hb) ((ex_upd2 e3 _).trans e7)
theorem ok__law_draw (T : Tx K mg) : FnOk P w K mg base CX0 1 T.a__law_draw T.d__law_draw ["_law_bag_here", "_law_total"] (spW K (Ts T) 2 w__law_draw) := (okh__law_draw T).imp fun _ _ _ _ => sp_draw
theorem ok__law_shuffled (T : Tx K mg) : FnOk P w K mg base CX0 2 T.a__law_shuffled T.d__law_shuffled ["_law_bag_here", "_law_items"] (spW K (Ts T) 2 w__law_shuffled) := by
  refine T.F__law_shuffled.ok sc__law_shuffled (fun vs H1 Q E h => spW_len h) (fun cdv A outer s H1 vs Q E hr h => ?_)
  letI : DL.Base := ⟨H1⟩
  exact ⟨_, (pss_cons (ps_set (i := 2) sc__law_shuffled.nd rfl (by first | exact Or.inl rfl | exact Or.inr rfl) (pe_callTy (kLstA (K := K) rfl rfl) (by rfl) T.n_list (by decide +kernel) (pa_cons (pv 1) pa_nil)))
      (pss_one (ps_ret (pe_lc (own := [("_law_turn", 3)]) (g := (gName 3)) rfl sc__law_shuffled.nd (pi_range1 (by rfl) T.n_range (pa_cons (pe_callB (kLenA (K := K) rfl) (by rfl) T.n_len (by decide +kernel) (pa_cons (pv 1) pa_nil)) pa_nil)) (blkOk_by (N := ["_law_bag_here", "_law_items", "_law_waits", "_law_turn"]) (sc := defScope s__law_shuffled) (by decide +kernel)) (fun _ _ _ _ _ => (pg_name (i := 3) sc__law_shuffled.nd rfl (by first | exact Or.inl rfl | exact Or.inr rfl))) (fun _ _ _ _ _ => pts_nil) (fun _ _ _ _ _ => (pe_popK (K := K) rfl (pv 2) (pa_cons (pe_call (ok__law_draw T) (hr.mono (by decide)) (by rfl) T.g__law_draw T.F__law_draw.kp T.b__law_draw .nil pass0 (pa_cons (pv 0) (pa_cons (pe_callB (kLenA (K := K) rfl) (by rfl) T.n_len (by decide +kernel) (pa_cons (pv 2) pa_nil)) pa_nil))) pa_nil))))))),
    ds_body (N := 4) rfl (ds_seq (ds_set (dm_new (dn_listA de_var)))
      (ds_retPop (i := 2) (dr_range1 (dl_cons (de_cb cw_lenA (dl_cons de_var dl_nil)) dl_nil)).di db_name (de_call (da_var (da_cons (de_cb cw_lenA (dl_cons de_var dl_nil)) da_nil))) (by decide) (by decide))) (by rfl) h⟩
theorem ok__law_names (T : Tx K mg) : FnOk P w K mg base CX0 3 T.a__law_names T.d__law_names ["_law_bag_here", "_law_many"] (spW K (Ts T) 2 w__law_names) := by
  refine T.F__law_names.ok sc__law_names (fun vs H1 Q E h => spW_len h) (fun cdv A outer s H1 vs Q E hr h => ?_)
  letI : DL.Base := ⟨H1⟩
  exact ⟨_, (pss_cons (ps_set (i := 2) sc__law_names.nd rfl (by first | exact Or.inl rfl | exact Or.inr rfl) (pe_lst (pa_cons pe_str (pa_cons pe_str (pa_cons pe_str (pa_cons pe_str (pa_cons pe_str (pa_cons pe_str (pa_cons pe_str (pa_cons pe_str pa_nil))))))))))
      (pss_cons (ps_if (pt_cmpR (kEqB (K := K) rfl (hu65 hr)) (pe_call (ok__law_draw T) (hr.mono (by decide)) (by rfl) T.g__law_draw T.F__law_draw.kp T.b__law_draw .nil pass0 (pa_cons (pv 0) (pa_cons pe_int pa_nil))) pe_int (nomark _)) (pss_one (ps_set (i := 2) sc__law_names.nd rfl (by first | exact Or.inl rfl | exact Or.inr rfl) (pe_lst (pa_cons pe_str (pa_cons pe_str (pa_cons pe_str (pa_cons pe_str (pa_cons pe_str (pa_cons pe_str (pa_cons pe_str (pa_cons pe_str (pa_cons pe_str (pa_cons pe_str (pa_cons pe_str (pa_cons pe_str (pa_cons pe_str (pa_cons pe_str pa_nil))))))))))))))))) pss_nil)
      (pss_cons (ps_if (pt_cmpR opGt (pv 1) (pe_callB (kLenA (K := K) rfl) (by rfl) T.n_len (by decide +kernel) (pa_cons (pv 2) pa_nil)) (nomark _)) (pss_one (ps_set (i := 2) sc__law_names.nd rfl (by first | exact Or.inl rfl | exact Or.inr rfl) (pe_op (kAddA (K := K) rfl) (pv 2) (pe_lst (pa_cons pe_str (pa_cons pe_str (pa_cons pe_str (pa_cons pe_str (pa_cons pe_str (pa_cons pe_str pa_nil)))))))))) pss_nil)
      (pss_one (ps_ret (pe_slice (kSl (K := K) rfl) (pe_call (ok__law_shuffled T) (hr.mono (by decide)) (by rfl) T.g__law_shuffled T.F__law_shuffled.kp T.b__law_shuffled .nil pass0 (pa_cons (pv 0) (pa_cons (pv 2) pa_nil))) po_none (po_some (pv 1)))))))),
    ds_body (N := 3) rfl (ds_seq (ds_set (dm_dat (de_new (dn_lst (dl_cons de_str (dl_cons de_str (dl_cons de_str (dl_cons de_str (dl_cons de_str (dl_cons de_str (dl_cons de_str (dl_cons de_str dl_nil))))))))))))
      (ds_seq (ds_if (dt_test (de_op ow_eqB (de_call (da_var (da_cons de_int da_nil))) de_int)) (ds_set (dm_dat (de_new (dn_lst (dl_cons de_str (dl_cons de_str (dl_cons de_str (dl_cons de_str (dl_cons de_str (dl_cons de_str (dl_cons de_str (dl_cons de_str (dl_cons de_str (dl_cons de_str (dl_cons de_str (dl_cons de_str (dl_cons de_str (dl_cons de_str dl_nil)))))))))))))))))) ds_next)
      (ds_seq (ds_if (dt_test (de_op ow_gt de_var (de_cb cw_lenA (dl_cons de_var dl_nil)))) (ds_set (dm_dat (de_op ow_add de_var (de_new (dn_lst (dl_cons de_str (dl_cons de_str (dl_cons de_str (dl_cons de_str (dl_cons de_str (dl_cons de_str dl_nil))))))))))) ds_next)
      (ds_ret (de_sl (de_call (da_var (da_var da_nil))) do_none (do_some de_var)))))) (by rfl) h⟩
theorem ok__law_lot_upto (T : Tx K mg) : FnOk P w K mg base CX0 2 T.a__law_lot_upto T.d__law_lot_upto ["_law_bag_here", "_law_items", "_law_most"] (spW K (Ts T) 3 w__law_lot_upto) := by
  refine T.F__law_lot_upto.ok sc__law_lot_upto (fun vs H1 Q E h => spW_len h) (fun cdv A outer s H1 vs Q E hr h => ?_)
  letI : DL.Base := ⟨H1⟩
  exact ⟨_, (pss_cons (ps_asg (pe_tup (pa_cons (pe_callTy (kLstA (K := K) rfl rfl) (by rfl) T.n_list (by decide +kernel) (pa_cons (pv 1) pa_nil)) (pa_cons (pe_lst pa_nil) pa_nil))) (kgTup (K := K) rfl rfl (pgs_cons (pg_name (i := 3) sc__law_lot_upto.nd rfl (by first | exact Or.inl rfl | exact Or.inr rfl)) (pgs_cons (pg_name (i := 4) sc__law_lot_upto.nd rfl (by first | exact Or.inl rfl | exact Or.inr rfl)) pgs_nil))))
      (pss_cons (ps_for PassesOwn.never rfl (pi_range1 (by rfl) T.n_range (pa_cons (pe_callB (call_min2 rfl) (by rfl) T.n_min (by decide +kernel) (pa_cons (pe_callB (kLenA (K := K) rfl) (by rfl) T.n_len (by decide +kernel) (pa_cons (pv 3) pa_nil)) (pa_cons (pe_call (ok__law_draw T) (hr.mono (by decide)) (by rfl) T.g__law_draw T.F__law_draw.kp T.b__law_draw .nil pass0 (pa_cons (pv 0) (pa_cons (pe_op (kAddA (K := K) rfl) (pv 2) pe_int) pa_nil))) pa_nil))) pa_nil)) (pg_name (i := 5) sc__law_lot_upto.nd rfl (by first | exact Or.inl rfl | exact Or.inr rfl)) (pss_one (ps_expr (pe_bm PySem.F.plainAttrs_list PySem.F.slot_list_append PySem.F.type_list_append mt_append (pv 4) (pa_cons (pe_popK (K := K) rfl (pv 3) (pa_cons (pe_call (ok__law_draw T) (hr.mono (by decide)) (by rfl) T.g__law_draw T.F__law_draw.kp T.b__law_draw .nil pass0 (pa_cons (pv 0) (pa_cons (pe_callB (kLenA (K := K) rfl) (by rfl) T.n_len (by decide +kernel) (pa_cons (pv 3) pa_nil)) pa_nil))) pa_nil)) pa_nil)))))
      (pss_one (ps_ret (pe_callTy (kTup (K := K) rfl) (by rfl) T.n_tuple (by decide +kernel) (pa_cons (pe_lc (own := [("_law_item", 6)]) (g := (gName 6)) rfl sc__law_lot_upto.nd (kpSeqX (K := K) rfl (pv 1)) (blkOk_by (N := ["_law_bag_here", "_law_items", "_law_most", "_law_left", "_law_found", "_law_turn", "_law_item"]) (sc := defScope s__law_lot_upto) (by decide +kernel)) (fun _ _ _ _ _ => (pg_name (i := 6) sc__law_lot_upto.nd rfl (by first | exact Or.inl rfl | exact Or.inr rfl))) (fun _ _ _ _ _ => (pts_one (pt_cmpR (kInX (K := K) rfl (hu65 hr)) (pv 6) (pv 4) (by rfl)))) (fun _ _ _ _ _ => (pv 6))) pa_nil)))))),
    ds_body (N := 7) rfl (ds_seq (ds_asg2 (dm_new (dn_listA de_var)) (dm_new (dn_lst dl_nil)))
      (ds_seq (ds_forR (dr_range1 (dl_cons (de_cb cw_min2 (dl_cons (de_cb cw_lenA (dl_cons de_var dl_nil)) (dl_cons (de_call (da_var (da_cons (de_op ow_add de_var de_int) da_nil))) dl_nil))) dl_nil)) db_name (ds_appPop (de_call (da_var (da_cons (de_cb cw_lenA (dl_cons de_var dl_nil)) da_nil)))))
      (ds_ret (de_cb cw_tuple (dl_cons (de_new (dn_lc (di_seqA de_var) db_name (dt_test (de_op ow_inX de_var de_var)) de_var (by decide))) dl_nil))))) (by rfl) h⟩
theorem ok__law_all_pairs (T : Tx K mg) : FnOk P w K mg base CX0 1 T.a__law_all_pairs T.d__law_all_pairs ["_law_pins"] (spW K (Ts T) 1 w__law_all_pairs) := by
  refine T.F__law_all_pairs.ok sc__law_all_pairs (fun vs H1 Q E h => spW_len h) (fun cdv A outer s H1 vs Q E hr h => ?_)
  letI : DL.Base := ⟨H1⟩
  exact ⟨_, (pss_cons (ps_par (i := 1) (j := 2) (by rfl) sc__law_all_pairs.nd rfl rfl (by decide) rfl rfl (pa_cons (pe_lst pa_nil) (pa_cons (pe_callB (kSortA (K := K) (w := w) rfl rfl rfl (hu64 hr)) (by rfl) T.n_sorted (by decide +kernel) (pa_cons (pv 0) pa_nil)) pa_nil)) (by rfl))
      (pss_cons (ps_for PassesOwn.never rfl (pi_enA (K := K) rfl (by rfl) T.n_enumerate (pa_cons (pv 2) pa_nil)) (kgTup (K := K) rfl rfl (pgs_cons (pg_name (i := 3) sc__law_all_pairs.nd rfl (by first | exact Or.inl rfl | exact Or.inr rfl)) (pgs_cons (pg_name (i := 4) sc__law_all_pairs.nd rfl (by first | exact Or.inl rfl | exact Or.inr rfl)) pgs_nil))) (pss_one (ps_set (i := 1) sc__law_all_pairs.nd rfl (by first | exact Or.inl rfl | exact Or.inr rfl) (pe_op (kAddA (K := K) rfl) (pv 1) (pe_lc (own := [("_law_other", 5)]) (g := (gName 5)) rfl sc__law_all_pairs.nd (kpSeqX (K := K) rfl (pe_slice (kSl (K := K) rfl) (pv 2) (po_some (pe_op (kAddA (K := K) rfl) (pv 3) pe_int)) po_none)) (blkOk_by (N := ["_law_pins", "_law_found", "_law_order", "_law_at", "_law_one", "_law_other"]) (sc := defScope s__law_all_pairs) (by decide +kernel)) (fun _ _ _ _ _ => (pg_name (i := 5) sc__law_all_pairs.nd rfl (by first | exact Or.inl rfl | exact Or.inr rfl))) (fun _ _ _ _ _ => pts_nil) (fun _ _ _ _ _ => (pe_tup (pa_cons (pv 4) (pa_cons (pv 5) pa_nil)))))))))
      (pss_one (ps_ret (pv 1))))),
    ds_body (N := 6) rfl (ds_seq (ds_par2 (dm_dat (de_new (dn_lst dl_nil))) (dm_dat (de_new (dn_sortA de_var))))
      (ds_seq (ds_for (di_enum (dl_cons de_var dl_nil)) (db_tup (is := [3, 4]) rfl) (ds_set (dm_dat (de_op ow_add de_var (de_new (dn_lc (di_seqA (de_sl de_var (do_some (de_op ow_add de_var de_int)) do_none)) db_name dt_yes (de_tup (dl_cons de_var (dl_cons de_var dl_nil))) (by decide)))))))
      (ds_ret de_var))) (by rfl) h⟩
theorem ok__law_drawn_pairs (T : Tx K mg) : FnOk P w K mg base CX0 4 T.a__law_drawn_pairs T.d__law_drawn_pairs ["_law_bag_here"] (spW K (Ts T) 1 w__law_drawn_pairs) := by
  refine T.F__law_drawn_pairs.ok sc__law_drawn_pairs (fun vs H1 Q E h => spW_len h) (fun cdv A outer s H1 vs Q E hr h => ?_)
  letI : DL.Base := ⟨H1⟩
  exact ⟨_, (pss_cons (ps_set (i := 1) sc__law_drawn_pairs.nd rfl (by first | exact Or.inl rfl | exact Or.inr rfl) (pe_call (ok__law_names T) (hr.mono (by decide)) (by rfl) T.g__law_names T.F__law_names.kp T.b__law_names .nil pass0 (pa_cons (pv 0) (pa_cons pe_int pa_nil))))
      (pss_one (ps_ret (pe_callTy (kLstA (K := K) rfl rfl) (by rfl) T.n_list (by decide +kernel) (pa_cons (pe_call (ok__law_lot_upto T) (hr.mono (by decide)) (by rfl) T.g__law_lot_upto T.F__law_lot_upto.kp T.b__law_lot_upto .nil pass0 (pa_cons (pv 0) (pa_cons (pe_call (ok__law_all_pairs T) (hr.mono (by decide)) (by rfl) T.g__law_all_pairs T.F__law_all_pairs.kp T.b__law_all_pairs .nil pass0 (pa_cons (pv 1) pa_nil)) (pa_cons pe_int pa_nil)))) pa_nil))))),
    ds_body (N := 2) rfl (ds_seq (ds_set (dm_dat (de_call (da_var (da_cons de_int da_nil)))))
      (ds_ret (de_new (dn_listA (de_call (da_var (da_cons (de_call (da_var da_nil)) (da_cons de_int da_nil)))))))) (by rfl) h⟩
theorem ok__law_one_of (T : Tx K mg) : FnOk P w K mg base CX0 2 T.a__law_one_of T.d__law_one_of ["_law_bag_here", "_law_items"] (spW K (Ts T) 2 w__law_one_of) := by
  refine T.F__law_one_of.ok sc__law_one_of (fun vs H1 Q E h => spW_len h) (fun cdv A outer s H1 vs Q E hr h => ?_)
  letI : DL.Base := ⟨H1⟩
  exact ⟨_, (pss_one (ps_ret (pe_ix (kIxA (K := K) rfl (hu65 hr)) (pv 1) (pe_call (ok__law_draw T) (hr.mono (by decide)) (by rfl) T.g__law_draw T.F__law_draw.kp T.b__law_draw .nil pass0 (pa_cons (pv 0) (pa_cons (pe_callB (kLenA (K := K) rfl) (by rfl) T.n_len (by decide +kernel) (pa_cons (pv 1) pa_nil)) pa_nil))) (fun _ _ => rfl)))),
    ds_body (N := 2) rfl (ds_ret (de_op ow_ixA de_var (de_call (da_var (da_cons (de_cb cw_lenA (dl_cons de_var dl_nil)) da_nil))))) (by rfl) h⟩
theorem ok__law_drawn_lots (T : Tx K mg) : FnOk P w K mg base CX0 3 T.a__law_drawn_lots T.d__law_drawn_lots ["_law_bag_here", "_law_pairs"] (spW K (Ts T) 2 w__law_drawn_lots) := by
  refine T.F__law_drawn_lots.ok sc__law_drawn_lots (fun vs H1 Q E h => spW_len h) (fun cdv A outer s H1 vs Q E hr h => ?_)
  letI : DL.Base := ⟨H1⟩
  exact ⟨_, (pss_cons (ps_par (i := 2) (j := 3) (by rfl) sc__law_drawn_lots.nd rfl rfl (by decide) rfl rfl (pa_cons (pe_call (ok__law_one_of T) (hr.mono (by decide)) (by rfl) T.g__law_one_of T.F__law_one_of.kp T.b__law_one_of .nil pass0 (pa_cons (pv 0) (pa_cons (pe_lst (pa_cons pe_int (pa_cons pe_int (pa_cons pe_int (pa_cons (pe_callB (kLenA (K := K) rfl) (by rfl) T.n_len (by decide +kernel) (pa_cons (pv 1) pa_nil)) pa_nil))))) pa_nil))) (pa_cons (pe_frz pe_dnewN) pa_nil)) (by rfl))
      (pss_cons (ps_for PassesOwn.never rfl (pi_range1 (by rfl) T.n_range (pa_cons (pe_call (ok__law_draw T) (hr.mono (by decide)) (by rfl) T.g__law_draw T.F__law_draw.kp T.b__law_draw .nil pass0 (pa_cons (pv 0) (pa_cons pe_int pa_nil))) pa_nil)) (pg_name (i := 4) sc__law_drawn_lots.nd rfl (by first | exact Or.inl rfl | exact Or.inr rfl)) (pss_cons (ps_set (i := 5) sc__law_drawn_lots.nd rfl (by first | exact Or.inl rfl | exact Or.inr rfl) (pe_call (ok__law_lot_upto T) (hr.mono (by decide)) (by rfl) T.g__law_lot_upto T.F__law_lot_upto.kp T.b__law_lot_upto .nil pass0 (pa_cons (pv 0) (pa_cons (pv 1) (pa_cons (pv 2) pa_nil)))))
      (pss_one (ps_if (PW.pt (pw_or (pt_cmpR (kNeB (K := K) rfl (hu65 hr)) (pv 5) (pe_tup pa_nil) (nomark _)) (pw_or1 (pt_cmpR (kEqB (K := K) rfl (hu65 hr)) (pe_call (ok__law_draw T) (hr.mono (by decide)) (by rfl) T.g__law_draw T.F__law_draw.kp T.b__law_draw .nil pass0 (pa_cons (pv 0) (pa_cons pe_int pa_nil))) pe_int (nomark _))))) (pss_one (ps_asg pe_bl (pg_sub (pv 3) (pv 5) (set_frz (K := K) (H0 := DL.Base.h0) rfl (hu64 hr))))) pss_nil))))
      (pss_one (ps_ret (pe_callTy (kTup (K := K) rfl) (by rfl) T.n_tuple (by decide +kernel) (pa_cons (pe_callB (kSortN2 (K := K) rfl rfl (hu64 hr)) (by rfl) T.n_sorted (by decide +kernel) (pa_cons (pv 3) pa_nil)) pa_nil)))))),
    ds_body (N := 6) rfl (ds_seq (ds_par2 (dm_dat (de_call (da_var (da_cons (de_new (dn_lst (dl_cons de_int (dl_cons de_int (dl_cons de_int (dl_cons (de_cb cw_lenA (dl_cons de_var dl_nil)) dl_nil)))))) da_nil)))) dm_dnewT)
      (ds_seq (ds_forR (dr_range1 (dl_cons (de_call (da_var (da_cons de_int da_nil))) dl_nil)) db_name (ds_seq (ds_set (dm_dat (de_call (da_var (da_var (da_var da_nil))))))
      (ds_if (dt_or (dt_test (de_op ow_neB de_var (de_tup dl_nil))) (dt_test (de_op ow_eqB (de_call (da_var (da_cons de_int da_nil))) de_int))) (ds_storeD de_bl de_var) ds_next)))
      (ds_ret (de_cb cw_tuple (dl_cons (de_new (dn_sortN2 de_var)) dl_nil))))) (by rfl) h⟩
theorem ok__law_sublots (T : Tx K mg) : FnOk P w K mg base CX0 1 T.a__law_sublots T.d__law_sublots ["_law_items"] (spW K (Ts T) 1 w__law_sublots) := by
  refine T.F__law_sublots.ok sc__law_sublots (fun vs H1 Q E h => spW_len h) (fun cdv A outer s H1 vs Q E hr h => ?_)
  letI : DL.Base := ⟨H1⟩
  exact ⟨_, (pss_cons (ps_set (i := 1) sc__law_sublots.nd rfl (by first | exact Or.inl rfl | exact Or.inr rfl) (pe_lst (pa_cons (pe_tup pa_nil) pa_nil)))
      (pss_cons (ps_for PassesOwn.never rfl (kpSeqX (K := K) rfl (pv 0)) (pg_name (i := 2) sc__law_sublots.nd rfl (by first | exact Or.inl rfl | exact Or.inr rfl)) (pss_one (ps_set (i := 1) sc__law_sublots.nd rfl (by first | exact Or.inl rfl | exact Or.inr rfl) (pe_op (kAddA (K := K) rfl) (pv 1) (pe_lc (own := [("_law_lot", 3)]) (g := (gName 3)) rfl sc__law_sublots.nd (kpSeqX (K := K) rfl (pe_callTy (kLstA (K := K) rfl rfl) (by rfl) T.n_list (by decide +kernel) (pa_cons (pv 1) pa_nil))) (blkOk_by (N := ["_law_items", "_law_found", "_law_item", "_law_lot", "_law_pair"]) (sc := defScope s__law_sublots) (by decide +kernel)) (fun _ _ _ _ _ => (pg_name (i := 3) sc__law_sublots.nd rfl (by first | exact Or.inl rfl | exact Or.inr rfl))) (fun _ _ _ _ _ => pts_nil) (fun _ _ _ _ _ => (pe_op (kAddA (K := K) rfl) (pv 3) (pe_tup (pa_cons (pv 2) pa_nil)))))))))
      (pss_one (ps_ret (pe_lc (own := [("_law_pair", 4)]) (g := (gName 4)) rfl sc__law_sublots.nd (kpSeqX (K := K) rfl (pe_callB (kSortA (K := K) (w := w) rfl rfl rfl (hu64 hr)) (by rfl) T.n_sorted (by decide +kernel) (pa_cons (pe_lc (own := [("_law_lot", 3)]) (g := (gName 3)) rfl sc__law_sublots.nd (kpSeqX (K := K) rfl (pv 1)) (blkOk_by (N := ["_law_items", "_law_found", "_law_item", "_law_lot", "_law_pair"]) (sc := defScope s__law_sublots) (by decide +kernel)) (fun _ _ _ _ _ => (pg_name (i := 3) sc__law_sublots.nd rfl (by first | exact Or.inl rfl | exact Or.inr rfl))) (fun _ _ _ _ _ => pts_nil) (fun _ _ _ _ _ => (pe_tup (pa_cons (pe_callB (kLenA (K := K) rfl) (by rfl) T.n_len (by decide +kernel) (pa_cons (pv 3) pa_nil)) (pa_cons (pv 3) pa_nil))))) pa_nil))) (blkOk_by (N := ["_law_items", "_law_found", "_law_item", "_law_lot", "_law_pair"]) (sc := defScope s__law_sublots) (by decide +kernel)) (fun _ _ _ _ _ => (pg_name (i := 4) sc__law_sublots.nd rfl (by first | exact Or.inl rfl | exact Or.inr rfl))) (fun _ _ _ _ _ => pts_nil) (fun _ _ _ _ _ => (pe_ix (kIxA (K := K) rfl (hu65 hr)) (pv 4) pe_int (fun _ _ => rfl)))))))),
    ds_body (N := 5) rfl (ds_seq (ds_set (dm_dat (de_new (dn_lst (dl_cons (de_tup dl_nil) dl_nil)))))
      (ds_seq (ds_for (di_seqA de_var) db_name (ds_set (dm_dat (de_op ow_add de_var (de_new (dn_lc (di_seqA (de_new (dn_listA de_var))) db_name dt_yes (de_op ow_add de_var (de_tup (dl_cons de_var dl_nil))) (by decide)))))))
      (ds_ret (de_new (dn_lc (di_seqA (de_new (dn_sortA (de_new (dn_lc (di_seqA de_var) db_name dt_yes (de_tup (dl_cons (de_cb cw_lenA (dl_cons de_var dl_nil)) (dl_cons de_var dl_nil))) (by decide)))))) db_name dt_yes (de_op ow_ixA de_var de_int) (by decide)))))) (by rfl) h⟩
theorem ok__law_is_within (T : Tx K mg) : FnOk P w K mg base CX0 1 T.a__law_is_within T.d__law_is_within ["_law_lot", "_law_other"] (spW K (Ts T) 2 w__law_is_within) := by
  refine T.F__law_is_within.ok sc__law_is_within (fun vs H1 Q E h => spW_len h) (fun cdv A outer s H1 vs Q E hr h => ?_)
  letI : DL.Base := ⟨H1⟩
  exact ⟨_, (pss_one (ps_ret (pe_cmpR (kEqB (K := K) rfl (hu65 hr)) (pe_lc (own := [("_law_one", 2)]) (g := (gName 2)) rfl sc__law_is_within.nd (kpSeqX (K := K) rfl (pv 0)) (blkOk_by (N := ["_law_lot", "_law_other", "_law_one"]) (sc := defScope s__law_is_within) (by decide +kernel)) (fun _ _ _ _ _ => (pg_name (i := 2) sc__law_is_within.nd rfl (by first | exact Or.inl rfl | exact Or.inr rfl))) (fun _ _ _ _ _ => (pts_one (pt_cmpR (kNiX (K := K) rfl (hu65 hr)) (pv 2) (pv 1) (by rfl)))) (fun _ _ _ _ _ => (pv 2))) (pe_lst pa_nil) (nomark _)))),
    ds_body (N := 3) rfl (ds_ret (de_op ow_eqB (de_new (dn_lc (di_seqA de_var) db_name (dt_test (de_op ow_inX de_var de_var)) de_var (by decide))) (de_new (dn_lst dl_nil)))) (by rfl) h⟩
theorem ok__law_least_lots (T : Tx K mg) : FnOk P w K mg base CX0 2 T.a__law_least_lots T.d__law_least_lots ["_law_lots"] (spW K (Ts T) 1 w__law_least_lots) := by
  refine T.F__law_least_lots.ok sc__law_least_lots (fun vs H1 Q E h => spW_len h) (fun cdv A outer s H1 vs Q E hr h => ?_)
  letI : DL.Base := ⟨H1⟩
  exact ⟨_, (pss_cons (ps_set (i := 1) sc__law_least_lots.nd rfl (by first | exact Or.inl rfl | exact Or.inr rfl) (pe_lst pa_nil))
      (pss_cons (ps_for PassesOwn.never rfl (kpSeqX (K := K) rfl (pv 0)) (pg_name (i := 2) sc__law_least_lots.nd rfl (by first | exact Or.inl rfl | exact Or.inr rfl)) (pss_one (ps_if (pt_cmpR (kEqB (K := K) rfl (hu65 hr)) (pe_lc (own := [("_law_other", 3)]) (g := (gName 3)) rfl sc__law_least_lots.nd (kpSeqX (K := K) rfl (pv 0)) (blkOk_by (N := ["_law_lots", "_law_found", "_law_lot", "_law_other"]) (sc := defScope s__law_least_lots) (by decide +kernel)) (fun _ _ _ _ _ => (pg_name (i := 3) sc__law_least_lots.nd rfl (by first | exact Or.inl rfl | exact Or.inr rfl))) (fun _ _ _ _ _ => (pts_one (PW.pt (pw_and (pt_cmpR (kNeB (K := K) rfl (hu65 hr)) (pv 3) (pv 2) (nomark _)) (pw_and1 (pt_val (pe_call (ok__law_is_within T) (hr.mono (by decide)) (by rfl) T.g__law_is_within T.F__law_is_within.kp T.b__law_is_within .nil pass0 (pa_cons (pv 3) (pa_cons (pv 2) pa_nil))))))))) (fun _ _ _ _ _ => (pv 3))) (pe_lst pa_nil) (nomark _)) (pss_one (ps_expr (pe_bm PySem.F.plainAttrs_list PySem.F.slot_list_append PySem.F.type_list_append mt_append (pv 1) (pa_cons (pv 2) pa_nil)))) pss_nil)))
      (pss_one (ps_ret (pe_callTy (kTup (K := K) rfl) (by rfl) T.n_tuple (by decide +kernel) (pa_cons (pe_callB (kSortA (K := K) (w := w) rfl rfl rfl (hu64 hr)) (by rfl) T.n_sorted (by decide +kernel) (pa_cons (pv 1) pa_nil)) pa_nil)))))),
    ds_body (N := 4) rfl (ds_seq (ds_set (dm_new (dn_lst dl_nil)))
      (ds_seq (ds_for (di_seqA de_var) db_name (ds_if (dt_test (de_op ow_eqB (de_new (dn_lc (di_seqA de_var) db_name (dt_and (dt_test (de_op ow_neB de_var de_var)) (dt_B (de_call (da_var (da_var da_nil))))) de_var (by decide))) (de_new (dn_lst dl_nil)))) (ds_app de_var) ds_next))
      (ds_ret (de_cb cw_tuple (dl_cons (de_new (dn_sortA de_var)) dl_nil))))) (by rfl) h⟩
theorem ok__law_meetings (T : Tx K mg) : FnOk P w K mg base CX0 3 T.a__law_meetings T.d__law_meetings ["_law_lots", "_law_items"] (spW K (Ts T) 2 w__law_meetings) := by
  refine T.F__law_meetings.ok sc__law_meetings (fun vs H1 Q E h => spW_len h) (fun cdv A outer s H1 vs Q E hr h => ?_)
  letI : DL.Base := ⟨H1⟩
  exact ⟨_, (pss_cons (ps_set (i := 2) sc__law_meetings.nd rfl (by first | exact Or.inl rfl | exact Or.inr rfl) (pe_lst pa_nil))
      (pss_cons (ps_for PassesOwn.never rfl (kpSeqX (K := K) rfl (pe_call (ok__law_sublots T) (hr.mono (by decide)) (by rfl) T.g__law_sublots T.F__law_sublots.kp T.b__law_sublots .nil pass0 (pa_cons (pv 1) pa_nil))) (pg_name (i := 3) sc__law_meetings.nd rfl (by first | exact Or.inl rfl | exact Or.inr rfl)) (pss_one (ps_if (pt_cmpR (kEqB (K := K) rfl (hu65 hr)) (pe_lc (own := [("_law_other", 4)]) (g := (gName 4)) rfl sc__law_meetings.nd (kpSeqX (K := K) rfl (pv 0)) (blkOk_by (N := ["_law_lots", "_law_items", "_law_found", "_law_lot", "_law_other", "_law_one"]) (sc := defScope s__law_meetings) (by decide +kernel)) (fun _ _ _ _ _ => (pg_name (i := 4) sc__law_meetings.nd rfl (by first | exact Or.inl rfl | exact Or.inr rfl))) (fun _ _ _ _ _ => (pts_one (pt_cmpR (kEqB (K := K) rfl (hu65 hr)) (pe_lc (own := [("_law_one", 5)]) (g := (gName 5)) rfl sc__law_meetings.nd (kpSeqX (K := K) rfl (pv 3)) (blkOk_by (N := ["_law_lots", "_law_items", "_law_found", "_law_lot", "_law_other", "_law_one"]) (by first | rfl | kernel_rfl)) (fun _ _ _ _ _ => (pg_name (i := 5) sc__law_meetings.nd rfl (by first | exact Or.inl rfl | exact Or.inr rfl))) (fun _ _ _ _ _ => (pts_one (pt_cmpR (kInX (K := K) rfl (hu65 hr)) (pv 5) (pv 4) (by rfl)))) (fun _ _ _ _ _ => (pv 5))) (pe_lst pa_nil) (nomark _)))) (fun _ _ _ _ _ => (pv 4))) (pe_lst pa_nil) (nomark _)) (pss_one (ps_expr (pe_bm PySem.F.plainAttrs_list PySem.F.slot_list_append PySem.F.type_list_append mt_append (pv 2) (pa_cons (pv 3) pa_nil)))) pss_nil)))
      (pss_one (ps_ret (pe_call (ok__law_least_lots T) (hr.mono (by decide)) (by rfl) T.g__law_least_lots T.F__law_least_lots.kp T.b__law_least_lots .nil pass0 (pa_cons (pv 2) pa_nil)))))),
    ds_body (N := 6) rfl (ds_seq (ds_set (dm_new (dn_lst dl_nil)))
      (ds_seq (ds_for (di_seqA (de_call (da_var da_nil))) db_name (ds_if (dt_test (de_op ow_eqB (de_new (dn_lc (di_seqA de_var) db_name (dt_test (de_op ow_eqB (de_new (dn_lc (di_seqA de_var) db_name (dt_test (de_op ow_inX de_var de_var)) de_var (by decide))) (de_new (dn_lst dl_nil)))) de_var (by decide))) (de_new (dn_lst dl_nil)))) (ds_app de_var) ds_next))
      (ds_ret (de_call (da_var da_nil))))) (by rfl) h⟩
theorem ok__law_right (T : Tx K mg) : FnOk P w K mg base CX0 7 T.a__law_right T.d__law_right ["_law_bag_here"] (spW K (Ts T) 1 w__law_right) := by
  refine T.F__law_right.ok sc__law_right (fun vs H1 Q E h => spW_len h) (fun cdv A outer s H1 vs Q E hr h => ?_)
  letI : DL.Base := ⟨H1⟩
  exact ⟨_, (pss_cons (ps_set (i := 1) sc__law_right.nd rfl (by first | exact Or.inl rfl | exact Or.inr rfl) (pe_call (ok__law_drawn_pairs T) (hr.mono (by decide)) (by rfl) T.g__law_drawn_pairs T.F__law_drawn_pairs.kp T.b__law_drawn_pairs .nil pass0 (pa_cons (pv 0) pa_nil)))
      (pss_cons (ps_set (i := 2) sc__law_right.nd rfl (by first | exact Or.inl rfl | exact Or.inr rfl) (pe_call (ok__law_drawn_lots T) (hr.mono (by decide)) (by rfl) T.g__law_drawn_lots T.F__law_drawn_lots.kp T.b__law_drawn_lots .nil pass0 (pa_cons (pv 0) (pa_cons (pv 1) pa_nil))))
      (pss_cons (ps_setLc (i := 3) (own := [("_law_pair", 4)]) (g := (gName 4)) rfl sc__law_right.nd rfl rfl (sw_true rfl rfl rfl (by decide +kernel)) (kpSeqX (K := K) rfl (pv 1)) (blkOk_by (N := ["_law_bag_here", "_law_pairs", "_law_lots", "_law_items", "_law_pair", "_law_lot", "_law_found"]) (sc := defScope s__law_right) (by decide +kernel)) (fun _ _ _ _ _ => (pg_name (i := 4) sc__law_right.nd rfl (by first | exact Or.inl rfl | exact Or.inr rfl))) (fun _ _ _ _ _ => (pts_one (pt_cmpR (kNeB (K := K) rfl (hu65 hr)) (pe_lc (own := [("_law_lot", 5)]) (g := (gName 5)) rfl sc__law_right.nd (kpSeqX (K := K) rfl (pv 2)) (blkOk_by (N := ["_law_bag_here", "_law_pairs", "_law_lots", "_law_items", "_law_pair", "_law_lot", "_law_found"]) (by first | rfl | kernel_rfl)) (fun _ _ _ _ _ => (pg_name (i := 5) sc__law_right.nd rfl (by first | exact Or.inl rfl | exact Or.inr rfl))) (fun _ _ _ _ _ => (pts_one (pt_cmpR (kInX (K := K) rfl (hu65 hr)) (pv 4) (pv 5) (by rfl)))) (fun _ _ _ _ _ => (pv 5))) (pe_lst pa_nil) (nomark _)))) (fun _ _ _ _ _ => (pv 4)))
      (pss_cons (ps_set (i := 6) sc__law_right.nd rfl (by first | exact Or.inl rfl | exact Or.inr rfl) (pe_call (ok_meeting_lots T) (hr.mono (by decide)) (by rfl) T.g_meeting_lots T.F_meeting_lots.kp T.b_meeting_lots .nil pass0 (pa_cons (pv 2) pa_nil)))
      (pss_one (ps_ret (pe_and (pe_cmpR (kEqB (K := K) rfl (hu65 hr)) (pv 6) (pe_call (ok__law_meetings T) (hr.mono (by decide)) (by rfl) T.g__law_meetings T.F__law_meetings.kp T.b__law_meetings .nil pass0 (pa_cons (pv 2) (pa_cons (pv 3) pa_nil))) (nomark _)) (pe_one (pe_cmpR (kEqB (K := K) rfl (hu65 hr)) (pe_call (ok_meeting_lots T) (hr.mono (by decide)) (by rfl) T.g_meeting_lots T.F_meeting_lots.kp T.b_meeting_lots .nil pass0 (pa_cons (pv 6) pa_nil)) (pe_call (ok__law_least_lots T) (hr.mono (by decide)) (by rfl) T.g__law_least_lots T.F__law_least_lots.kp T.b__law_least_lots .nil pass0 (pa_cons (pv 2) pa_nil)) (nomark _)))))))))),
    ds_body (N := 7) rfl (ds_seq (ds_set (dm_dat (de_call (da_var da_nil))))
      (ds_seq (ds_set (dm_dat (de_call (da_var (da_var da_nil)))))
      (ds_seq (ds_set (dm_dat (de_new (dn_lc (di_seqA de_var) db_name (dt_test (de_op ow_neB (de_new (dn_lc (di_seqA de_var) db_name (dt_test (de_op ow_inX de_var de_var)) de_var (by decide))) (de_new (dn_lst dl_nil)))) de_var (by decide)))))
      (ds_seq (ds_set (dm_dat (de_call (da_var da_nil))))
      (ds_ret (de_and (de_op ow_eqB de_var (de_call (da_var (da_var da_nil)))) (de_op ow_eqB (de_call (da_var da_nil)) (de_call (da_var da_nil))))))))) (by rfl) h⟩
theorem ok_law (T : Tx K mg) : FnOk P w K mg base CX0 8 T.a_law T.d_law ["_law_script"] (spW K (Ts T) 1 w_law) := by
  refine T.F_law.ok sc_law (fun vs H1 Q E h => spW_len h) (fun cdv A outer s H1 vs Q E hr h => ?_)
  letI : DL.Base := ⟨H1⟩
  exact ⟨_, (pss_cons (ps_for PassesOwn.never rfl (pi_range1 (by rfl) T.n_range (pa_cons (pe_callB (call_max2 rfl) (by rfl) T.n_max (by decide +kernel) (pa_cons pe_int (pa_cons (pe_callB (call_min2 rfl) (by rfl) T.n_min (by decide +kernel) (pa_cons pe_int (pa_cons (pe_callB (kLenA (K := K) rfl) (by rfl) T.n_len (by decide +kernel) (pa_cons (pv 0) pa_nil)) pa_nil))) pa_nil))) pa_nil)) (pg_name (i := 1) sc_law.nd rfl (by first | exact Or.inl rfl | exact Or.inr rfl)) (pss_cons (ps_set (i := 2) sc_law.nd rfl (by first | exact Or.inl rfl | exact Or.inr rfl) (pe_call (ok__law_bag T) (hr.mono (by decide)) (by rfl) T.g__law_bag T.F__law_bag.kp T.b__law_bag .nil pass0 (pa_cons (pv 0) (pa_cons (pv 1) pa_nil))))
      (pss_one (ps_for PassesOwn.never rfl (pi_range1 (by rfl) T.n_range (pa_cons pe_int pa_nil)) (pg_name (i := 3) sc_law.nd rfl (by first | exact Or.inl rfl | exact Or.inr rfl)) (pss_one (ps_if (pt_not (pt_val (pe_call (ok__law_right T) (hr.mono (by decide)) (by rfl) T.g__law_right T.F__law_right.kp T.b__law_right .nil pass0 (pa_cons (pv 2) pa_nil)))) (pss_one (ps_ret pe_bl)) pss_nil))))))
      (pss_cons (ps_asg (pe_tup (pa_cons (pe_tup (pa_cons pe_str (pa_cons pe_str pa_nil))) (pa_cons (pe_tup (pa_cons pe_str (pa_cons pe_str pa_nil))) (pa_cons (pe_tup (pa_cons pe_str (pa_cons pe_str pa_nil))) pa_nil)))) (kgTup (K := K) rfl rfl (pgs_cons (pg_name (i := 4) sc_law.nd rfl (by first | exact Or.inl rfl | exact Or.inr rfl)) (pgs_cons (pg_name (i := 5) sc_law.nd rfl (by first | exact Or.inl rfl | exact Or.inr rfl)) (pgs_cons (pg_name (i := 6) sc_law.nd rfl (by first | exact Or.inl rfl | exact Or.inr rfl)) pgs_nil)))))
      (pss_cons (ps_set (i := 7) sc_law.nd rfl (by first | exact Or.inl rfl | exact Or.inr rfl) (pe_lst (pa_cons (pe_call (ok_meeting_lots T) (hr.mono (by decide)) (by rfl) T.g_meeting_lots T.F_meeting_lots.kp T.b_meeting_lots .nil pass0 (pa_cons (pe_tup pa_nil) pa_nil)) (pa_cons (pe_call (ok_meeting_lots T) (hr.mono (by decide)) (by rfl) T.g_meeting_lots T.F_meeting_lots.kp T.b_meeting_lots .nil pass0 (pa_cons (pe_tup (pa_cons (pe_tup pa_nil) pa_nil)) pa_nil)) (pa_cons (pe_call (ok_meeting_lots T) (hr.mono (by decide)) (by rfl) T.g_meeting_lots T.F_meeting_lots.kp T.b_meeting_lots .nil pass0 (pa_cons (pe_tup (pa_cons (pe_tup pa_nil) (pa_cons (pe_tup (pa_cons (pv 4) pa_nil)) pa_nil))) pa_nil)) (pa_cons (pe_call (ok_meeting_lots T) (hr.mono (by decide)) (by rfl) T.g_meeting_lots T.F_meeting_lots.kp T.b_meeting_lots .nil pass0 (pa_cons (pe_tup (pa_cons (pe_tup (pa_cons (pv 4) pa_nil)) (pa_cons (pe_tup (pa_cons (pv 4) (pa_cons (pv 5) pa_nil))) (pa_cons (pe_tup (pa_cons (pv 5) (pa_cons (pv 6) pa_nil))) pa_nil)))) pa_nil)) pa_nil))))))
      (pss_one (ps_ret (pe_cmpR (kEqB (K := K) rfl (hu65 hr)) (pv 7) (pe_lst (pa_cons (pe_tup (pa_cons (pe_tup pa_nil) pa_nil)) (pa_cons (pe_tup pa_nil) (pa_cons (pe_tup pa_nil) (pa_cons (pe_tup (pa_cons (pe_tup (pa_cons (pv 4) (pa_cons (pv 5) pa_nil))) (pa_cons (pe_tup (pa_cons (pv 4) (pa_cons (pv 6) pa_nil))) pa_nil))) pa_nil))))) (nomark _))))))),
    ds_body (N := 8) rfl (ds_seq (ds_forR (dr_range1 (dl_cons (de_cb cw_max2 (dl_cons de_int (dl_cons (de_cb cw_min2 (dl_cons de_int (dl_cons (de_cb cw_lenA (dl_cons de_var dl_nil)) dl_nil))) dl_nil))) dl_nil)) db_name (ds_seq (ds_set (dm_bag (i := 0) (j := 1)))
      (ds_forR (dr_range1 (dl_cons de_int dl_nil)) db_name (ds_if (dt_not (dt_B (de_call (da_var da_nil)))) (ds_ret de_bl) ds_next))))
      (ds_seq (ds_asg3 (dm_dat (de_tup (dl_cons de_str (dl_cons de_str dl_nil)))) (dm_dat (de_tup (dl_cons de_str (dl_cons de_str dl_nil)))) (dm_dat (de_tup (dl_cons de_str (dl_cons de_str dl_nil)))))
      (ds_seq (ds_set (dm_dat (de_new (dn_lst (dl_cons (de_call (da_cons (de_tup dl_nil) da_nil)) (dl_cons (de_call (da_cons (de_tup (dl_cons (de_tup dl_nil) dl_nil)) da_nil)) (dl_cons (de_call (da_cons (de_tup (dl_cons (de_tup dl_nil) (dl_cons (de_tup (dl_cons de_var dl_nil)) dl_nil))) da_nil)) (dl_cons (de_call (da_cons (de_tup (dl_cons (de_tup (dl_cons de_var dl_nil)) (dl_cons (de_tup (dl_cons de_var (dl_cons de_var dl_nil))) (dl_cons (de_tup (dl_cons de_var (dl_cons de_var dl_nil))) dl_nil)))) da_nil)) dl_nil))))))))
      (ds_ret (de_op ow_eqB de_var (de_new (dn_lst (dl_cons (de_tup (dl_cons (de_tup dl_nil) dl_nil)) (dl_cons (de_tup dl_nil) (dl_cons (de_tup dl_nil) (dl_cons (de_tup (dl_cons (de_tup (dl_cons de_var (dl_cons de_var dl_nil))) (dl_cons (de_tup (dl_cons de_var (dl_cons de_var dl_nil))) dl_nil))) dl_nil))))))))))) (by rfl) h⟩
theorem okl_law (T : Tx K mg) (hl : LawHolds w_law) : FnG P w K mg base CX0 8 T.a_law T.d_law ["_law_script"] (spLaw K) := (FnG.of (ok_law T)).imp fun vs H Q E h => lawW_0 hl h
end
end Lw
namespace Lw
open PySem PySem.Spec PyProof.Rows L2 Evl DL
theorem all_mk {l : PySem.W.OpenLaw} {w : World} {K : PySem.W.Frag} {h : Heap} {mg : Str → Option Value} {fa : Addr} (X : K.In h) (G : h.Ns mainGlobals mg) (hfa : mg "law" = some (.ref fa))
    {f__law_bag : Addr} {od__law_bag an__law_bag : Option Addr} {sl__law_bag : Array (Option Value)} {oc__law_bag dc__law_bag pm__law_bag cd__law_bag ct__law_bag : Value}
    {kV__law_bag : Value}
    {f_without_one : Addr} {od_without_one an_without_one : Option Addr} {sl_without_one : Array (Option Value)} {oc_without_one dc_without_one pm_without_one cd_without_one ct_without_one : Value}
    {kV_without_one : Value}
    {f_least_of : Addr} {od_least_of an_least_of : Option Addr} {sl_least_of : Array (Option Value)} {oc_least_of dc_least_of pm_least_of cd_least_of ct_least_of : Value}
    {kV_least_of : Value}
    {f_do_ascend : Addr} {od_do_ascend an_do_ascend : Option Addr} {sl_do_ascend : Array (Option Value)} {oc_do_ascend dc_do_ascend pm_do_ascend cd_do_ascend ct_do_ascend : Value}
    {kV_do_ascend : Value}
    {f_meets_each : Addr} {od_meets_each an_meets_each : Option Addr} {sl_meets_each : Array (Option Value)} {oc_meets_each dc_meets_each pm_meets_each cd_meets_each ct_meets_each : Value}
    {kV_meets_each : Value}
    {f_members_of : Addr} {od_members_of an_members_of : Option Addr} {sl_members_of : Array (Option Value)} {oc_members_of dc_members_of pm_members_of cd_members_of ct_members_of : Value}
    {kV_members_of : Value}
    {f_lots_within : Addr} {od_lots_within an_lots_within : Option Addr} {sl_lots_within : Array (Option Value)} {oc_lots_within dc_lots_within pm_lots_within cd_lots_within ct_lots_within : Value}
    {kV_lots_within : Value}
    {f_is_name : Addr} {od_is_name an_is_name : Option Addr} {sl_is_name : Array (Option Value)} {oc_is_name dc_is_name pm_is_name cd_is_name ct_is_name : Value}
    {kV_is_name : Value}
    {f_are_names : Addr} {od_are_names an_are_names : Option Addr} {sl_are_names : Array (Option Value)} {oc_are_names dc_are_names pm_are_names cd_are_names ct_are_names : Value}
    {kV_are_names : Value}
    {f_is_ascending : Addr} {od_is_ascending an_is_ascending : Option Addr} {sl_is_ascending : Array (Option Value)} {oc_is_ascending dc_is_ascending pm_is_ascending cd_is_ascending ct_is_ascending : Value}
    {kV_is_ascending : Value}
    {f_is_lot : Addr} {od_is_lot an_is_lot : Option Addr} {sl_is_lot : Array (Option Value)} {oc_is_lot dc_is_lot pm_is_lot cd_is_lot ct_is_lot : Value}
    {kV_is_lot : Value}
    {f_is_pair : Addr} {od_is_pair an_is_pair : Option Addr} {sl_is_pair : Array (Option Value)} {oc_is_pair dc_is_pair pm_is_pair cd_is_pair ct_is_pair : Value}
    {kV_is_pair : Value}
    {f_is_lot_of_pairs : Addr} {od_is_lot_of_pairs an_is_lot_of_pairs : Option Addr} {sl_is_lot_of_pairs : Array (Option Value)} {oc_is_lot_of_pairs dc_is_lot_of_pairs pm_is_lot_of_pairs cd_is_lot_of_pairs ct_is_lot_of_pairs : Value}
    {kV_is_lot_of_pairs : Value}
    {f_meeting_lots : Addr} {od_meeting_lots an_meeting_lots : Option Addr} {sl_meeting_lots : Array (Option Value)} {oc_meeting_lots dc_meeting_lots pm_meeting_lots cd_meeting_lots ct_meeting_lots : Value}
    {kV_meeting_lots : Value}
    {f__law_draw : Addr} {od__law_draw an__law_draw : Option Addr} {sl__law_draw : Array (Option Value)} {oc__law_draw dc__law_draw pm__law_draw cd__law_draw ct__law_draw : Value}
    {kV__law_draw : Value}
    {f__law_shuffled : Addr} {od__law_shuffled an__law_shuffled : Option Addr} {sl__law_shuffled : Array (Option Value)} {oc__law_shuffled dc__law_shuffled pm__law_shuffled cd__law_shuffled ct__law_shuffled : Value}
    {kV__law_shuffled : Value}
    {f__law_names : Addr} {od__law_names an__law_names : Option Addr} {sl__law_names : Array (Option Value)} {oc__law_names dc__law_names pm__law_names cd__law_names ct__law_names : Value}
    {kV__law_names : Value}
    {f__law_lot_upto : Addr} {od__law_lot_upto an__law_lot_upto : Option Addr} {sl__law_lot_upto : Array (Option Value)} {oc__law_lot_upto dc__law_lot_upto pm__law_lot_upto cd__law_lot_upto ct__law_lot_upto : Value}
    {kV__law_lot_upto : Value}
    {f__law_all_pairs : Addr} {od__law_all_pairs an__law_all_pairs : Option Addr} {sl__law_all_pairs : Array (Option Value)} {oc__law_all_pairs dc__law_all_pairs pm__law_all_pairs cd__law_all_pairs ct__law_all_pairs : Value}
    {kV__law_all_pairs : Value}
    {f__law_drawn_pairs : Addr} {od__law_drawn_pairs an__law_drawn_pairs : Option Addr} {sl__law_drawn_pairs : Array (Option Value)} {oc__law_drawn_pairs dc__law_drawn_pairs pm__law_drawn_pairs cd__law_drawn_pairs ct__law_drawn_pairs : Value}
    {kV__law_drawn_pairs : Value}
    {f__law_one_of : Addr} {od__law_one_of an__law_one_of : Option Addr} {sl__law_one_of : Array (Option Value)} {oc__law_one_of dc__law_one_of pm__law_one_of cd__law_one_of ct__law_one_of : Value}
    {kV__law_one_of : Value}
    {f__law_drawn_lots : Addr} {od__law_drawn_lots an__law_drawn_lots : Option Addr} {sl__law_drawn_lots : Array (Option Value)} {oc__law_drawn_lots dc__law_drawn_lots pm__law_drawn_lots cd__law_drawn_lots ct__law_drawn_lots : Value}
    {kV__law_drawn_lots : Value}
    {f__law_sublots : Addr} {od__law_sublots an__law_sublots : Option Addr} {sl__law_sublots : Array (Option Value)} {oc__law_sublots dc__law_sublots pm__law_sublots cd__law_sublots ct__law_sublots : Value}
    {kV__law_sublots : Value}
    {f__law_is_within : Addr} {od__law_is_within an__law_is_within : Option Addr} {sl__law_is_within : Array (Option Value)} {oc__law_is_within dc__law_is_within pm__law_is_within cd__law_is_within ct__law_is_within : Value}
    {kV__law_is_within : Value}
    {f__law_least_lots : Addr} {od__law_least_lots an__law_least_lots : Option Addr} {sl__law_least_lots : Array (Option Value)} {oc__law_least_lots dc__law_least_lots pm__law_least_lots cd__law_least_lots ct__law_least_lots : Value}
    {kV__law_least_lots : Value}
    {f__law_meetings : Addr} {od__law_meetings an__law_meetings : Option Addr} {sl__law_meetings : Array (Option Value)} {oc__law_meetings dc__law_meetings pm__law_meetings cd__law_meetings ct__law_meetings : Value}
    {kV__law_meetings : Value}
    {f__law_right : Addr} {od__law_right an__law_right : Option Addr} {sl__law_right : Array (Option Value)} {oc__law_right dc__law_right pm__law_right cd__law_right ct__law_right : Value}
    {kV__law_right : Value}
    {f_law : Addr} {od_law an_law : Option Addr} {sl_law : Array (Option Value)} {oc_law dc_law pm_law cd_law ct_law : Value}
    {kV_law : Value}
    {w_LETTERS : Tok}
    {w_MAX_LETTERS : Tok}
    {w_MOST_LOTS : Tok}
    {w_MOST_MEMBERS : Tok}
    (p__law_bag : PySem.W.nsIn K mainGlobals "_law_bag" = some (some (.ref f__law_bag)))
    (l__law_bag : K.lookup f__law_bag = some ⟨oc__law_bag, od__law_bag, .func (PySem.W.fnOf "_law_bag" "_law_bag" (defArgs s__law_bag) (defBody s__law_bag) (defScope s__law_bag) .none kV__law_bag dc__law_bag pm__law_bag an__law_bag cd__law_bag ct__law_bag), sl__law_bag⟩)
    (c__law_bag : PySem.W.codeIn K cd__law_bag "_law_bag" = true)
    (k__law_bag : PySem.W.keepIn K (.ref f__law_bag) = true)
    (p_without_one : PySem.W.nsIn K mainGlobals "without_one" = some (some (.ref f_without_one)))
    (l_without_one : K.lookup f_without_one = some ⟨oc_without_one, od_without_one, .func (PySem.W.fnOf "without_one" "without_one" (defArgs s_without_one) (defBody s_without_one) (defScope s_without_one) .none kV_without_one dc_without_one pm_without_one an_without_one cd_without_one ct_without_one), sl_without_one⟩)
    (c_without_one : PySem.W.codeIn K cd_without_one "without_one" = true)
    (k_without_one : PySem.W.keepIn K (.ref f_without_one) = true)
    (p_least_of : PySem.W.nsIn K mainGlobals "least_of" = some (some (.ref f_least_of)))
    (l_least_of : K.lookup f_least_of = some ⟨oc_least_of, od_least_of, .func (PySem.W.fnOf "least_of" "least_of" (defArgs s_least_of) (defBody s_least_of) (defScope s_least_of) .none kV_least_of dc_least_of pm_least_of an_least_of cd_least_of ct_least_of), sl_least_of⟩)
    (c_least_of : PySem.W.codeIn K cd_least_of "least_of" = true)
    (k_least_of : PySem.W.keepIn K (.ref f_least_of) = true)
    (p_do_ascend : PySem.W.nsIn K mainGlobals "do_ascend" = some (some (.ref f_do_ascend)))
    (l_do_ascend : K.lookup f_do_ascend = some ⟨oc_do_ascend, od_do_ascend, .func (PySem.W.fnOf "do_ascend" "do_ascend" (defArgs s_do_ascend) (defBody s_do_ascend) (defScope s_do_ascend) .none kV_do_ascend dc_do_ascend pm_do_ascend an_do_ascend cd_do_ascend ct_do_ascend), sl_do_ascend⟩)
    (c_do_ascend : PySem.W.codeIn K cd_do_ascend "do_ascend" = true)
    (k_do_ascend : PySem.W.keepIn K (.ref f_do_ascend) = true)
    (p_meets_each : PySem.W.nsIn K mainGlobals "meets_each" = some (some (.ref f_meets_each)))
    (l_meets_each : K.lookup f_meets_each = some ⟨oc_meets_each, od_meets_each, .func (PySem.W.fnOf "meets_each" "meets_each" (defArgs s_meets_each) (defBody s_meets_each) (defScope s_meets_each) .none kV_meets_each dc_meets_each pm_meets_each an_meets_each cd_meets_each ct_meets_each), sl_meets_each⟩)
    (c_meets_each : PySem.W.codeIn K cd_meets_each "meets_each" = true)
    (k_meets_each : PySem.W.keepIn K (.ref f_meets_each) = true)
    (p_members_of : PySem.W.nsIn K mainGlobals "members_of" = some (some (.ref f_members_of)))
    (l_members_of : K.lookup f_members_of = some ⟨oc_members_of, od_members_of, .func (PySem.W.fnOf "members_of" "members_of" (defArgs s_members_of) (defBody s_members_of) (defScope s_members_of) .none kV_members_of dc_members_of pm_members_of an_members_of cd_members_of ct_members_of), sl_members_of⟩)
    (c_members_of : PySem.W.codeIn K cd_members_of "members_of" = true)
    (k_members_of : PySem.W.keepIn K (.ref f_members_of) = true)
    (p_lots_within : PySem.W.nsIn K mainGlobals "lots_within" = some (some (.ref f_lots_within)))
    (l_lots_within : K.lookup f_lots_within = some ⟨oc_lots_within, od_lots_within, .func (PySem.W.fnOf "lots_within" "lots_within" (defArgs s_lots_within) (defBody s_lots_within) (defScope s_lots_within) .none kV_lots_within dc_lots_within pm_lots_within an_lots_within cd_lots_within ct_lots_within), sl_lots_within⟩)
    (c_lots_within : PySem.W.codeIn K cd_lots_within "lots_within" = true)
    (k_lots_within : PySem.W.keepIn K (.ref f_lots_within) = true)
    (p_is_name : PySem.W.nsIn K mainGlobals "is_name" = some (some (.ref f_is_name)))
    (l_is_name : K.lookup f_is_name = some ⟨oc_is_name, od_is_name, .func (PySem.W.fnOf "is_name" "is_name" (defArgs s_is_name) (defBody s_is_name) (defScope s_is_name) .none kV_is_name dc_is_name pm_is_name an_is_name cd_is_name ct_is_name), sl_is_name⟩)
    (c_is_name : PySem.W.codeIn K cd_is_name "is_name" = true)
    (k_is_name : PySem.W.keepIn K (.ref f_is_name) = true)
    (p_are_names : PySem.W.nsIn K mainGlobals "are_names" = some (some (.ref f_are_names)))
    (l_are_names : K.lookup f_are_names = some ⟨oc_are_names, od_are_names, .func (PySem.W.fnOf "are_names" "are_names" (defArgs s_are_names) (defBody s_are_names) (defScope s_are_names) .none kV_are_names dc_are_names pm_are_names an_are_names cd_are_names ct_are_names), sl_are_names⟩)
    (c_are_names : PySem.W.codeIn K cd_are_names "are_names" = true)
    (k_are_names : PySem.W.keepIn K (.ref f_are_names) = true)
    (p_is_ascending : PySem.W.nsIn K mainGlobals "is_ascending" = some (some (.ref f_is_ascending)))
    (l_is_ascending : K.lookup f_is_ascending = some ⟨oc_is_ascending, od_is_ascending, .func (PySem.W.fnOf "is_ascending" "is_ascending" (defArgs s_is_ascending) (defBody s_is_ascending) (defScope s_is_ascending) .none kV_is_ascending dc_is_ascending pm_is_ascending an_is_ascending cd_is_ascending ct_is_ascending), sl_is_ascending⟩)
    (c_is_ascending : PySem.W.codeIn K cd_is_ascending "is_ascending" = true)
    (k_is_ascending : PySem.W.keepIn K (.ref f_is_ascending) = true)
    (p_is_lot : PySem.W.nsIn K mainGlobals "is_lot" = some (some (.ref f_is_lot)))
    (l_is_lot : K.lookup f_is_lot = some ⟨oc_is_lot, od_is_lot, .func (PySem.W.fnOf "is_lot" "is_lot" (defArgs s_is_lot) (defBody s_is_lot) (defScope s_is_lot) .none kV_is_lot dc_is_lot pm_is_lot an_is_lot cd_is_lot ct_is_lot), sl_is_lot⟩)
    (c_is_lot : PySem.W.codeIn K cd_is_lot "is_lot" = true)
    (k_is_lot : PySem.W.keepIn K (.ref f_is_lot) = true)
    (p_is_pair : PySem.W.nsIn K mainGlobals "is_pair" = some (some (.ref f_is_pair)))
    (l_is_pair : K.lookup f_is_pair = some ⟨oc_is_pair, od_is_pair, .func (PySem.W.fnOf "is_pair" "is_pair" (defArgs s_is_pair) (defBody s_is_pair) (defScope s_is_pair) .none kV_is_pair dc_is_pair pm_is_pair an_is_pair cd_is_pair ct_is_pair), sl_is_pair⟩)
    (c_is_pair : PySem.W.codeIn K cd_is_pair "is_pair" = true)
    (k_is_pair : PySem.W.keepIn K (.ref f_is_pair) = true)
    (p_is_lot_of_pairs : PySem.W.nsIn K mainGlobals "is_lot_of_pairs" = some (some (.ref f_is_lot_of_pairs)))
    (l_is_lot_of_pairs : K.lookup f_is_lot_of_pairs = some ⟨oc_is_lot_of_pairs, od_is_lot_of_pairs, .func (PySem.W.fnOf "is_lot_of_pairs" "is_lot_of_pairs" (defArgs s_is_lot_of_pairs) (defBody s_is_lot_of_pairs) (defScope s_is_lot_of_pairs) .none kV_is_lot_of_pairs dc_is_lot_of_pairs pm_is_lot_of_pairs an_is_lot_of_pairs cd_is_lot_of_pairs ct_is_lot_of_pairs), sl_is_lot_of_pairs⟩)
    (c_is_lot_of_pairs : PySem.W.codeIn K cd_is_lot_of_pairs "is_lot_of_pairs" = true)
    (k_is_lot_of_pairs : PySem.W.keepIn K (.ref f_is_lot_of_pairs) = true)
    (p_meeting_lots : PySem.W.nsIn K mainGlobals "meeting_lots" = some (some (.ref f_meeting_lots)))
    (l_meeting_lots : K.lookup f_meeting_lots = some ⟨oc_meeting_lots, od_meeting_lots, .func (PySem.W.fnOf "meeting_lots" "meeting_lots" (defArgs s_meeting_lots) (defBody s_meeting_lots) (defScope s_meeting_lots) .none kV_meeting_lots dc_meeting_lots pm_meeting_lots an_meeting_lots cd_meeting_lots ct_meeting_lots), sl_meeting_lots⟩)
    (c_meeting_lots : PySem.W.codeIn K cd_meeting_lots "meeting_lots" = true)
    (k_meeting_lots : PySem.W.keepIn K (.ref f_meeting_lots) = true)
    (p__law_draw : PySem.W.nsIn K mainGlobals "_law_draw" = some (some (.ref f__law_draw)))
    (l__law_draw : K.lookup f__law_draw = some ⟨oc__law_draw, od__law_draw, .func (PySem.W.fnOf "_law_draw" "_law_draw" (defArgs s__law_draw) (defBody s__law_draw) (defScope s__law_draw) .none kV__law_draw dc__law_draw pm__law_draw an__law_draw cd__law_draw ct__law_draw), sl__law_draw⟩)
    (c__law_draw : PySem.W.codeIn K cd__law_draw "_law_draw" = true)
    (k__law_draw : PySem.W.keepIn K (.ref f__law_draw) = true)
    (p__law_shuffled : PySem.W.nsIn K mainGlobals "_law_shuffled" = some (some (.ref f__law_shuffled)))
    (l__law_shuffled : K.lookup f__law_shuffled = some ⟨oc__law_shuffled, od__law_shuffled, .func (PySem.W.fnOf "_law_shuffled" "_law_shuffled" (defArgs s__law_shuffled) (defBody s__law_shuffled) (defScope s__law_shuffled) .none kV__law_shuffled dc__law_shuffled pm__law_shuffled an__law_shuffled cd__law_shuffled ct__law_shuffled), sl__law_shuffled⟩)
    (c__law_shuffled : PySem.W.codeIn K cd__law_shuffled "_law_shuffled" = true)
    (k__law_shuffled : PySem.W.keepIn K (.ref f__law_shuffled) = true)
    (p__law_names : PySem.W.nsIn K mainGlobals "_law_names" = some (some (.ref f__law_names)))
    (l__law_names : K.lookup f__law_names = some ⟨oc__law_names, od__law_names, .func (PySem.W.fnOf "_law_names" "_law_names" (defArgs s__law_names) (defBody s__law_names) (defScope s__law_names) .none kV__law_names dc__law_names pm__law_names an__law_names cd__law_names ct__law_names), sl__law_names⟩)
    (c__law_names : PySem.W.codeIn K cd__law_names "_law_names" = true)
    (k__law_names : PySem.W.keepIn K (.ref f__law_names) = true)
    (p__law_lot_upto : PySem.W.nsIn K mainGlobals "_law_lot_upto" = some (some (.ref f__law_lot_upto)))
    (l__law_lot_upto : K.lookup f__law_lot_upto = some ⟨oc__law_lot_upto, od__law_lot_upto, .func (PySem.W.fnOf "_law_lot_upto" "_law_lot_upto" (defArgs s__law_lot_upto) (defBody s__law_lot_upto) (defScope s__law_lot_upto) .none kV__law_lot_upto dc__law_lot_upto pm__law_lot_upto an__law_lot_upto cd__law_lot_upto ct__law_lot_upto), sl__law_lot_upto⟩)
    (c__law_lot_upto : PySem.W.codeIn K cd__law_lot_upto "_law_lot_upto" = true)
    (k__law_lot_upto : PySem.W.keepIn K (.ref f__law_lot_upto) = true)
    (p__law_all_pairs : PySem.W.nsIn K mainGlobals "_law_all_pairs" = some (some (.ref f__law_all_pairs)))
    (l__law_all_pairs : K.lookup f__law_all_pairs = some ⟨oc__law_all_pairs, od__law_all_pairs, .func (PySem.W.fnOf "_law_all_pairs" "_law_all_pairs" (defArgs s__law_all_pairs) (defBody s__law_all_pairs) (defScope s__law_all_pairs) .none kV__law_all_pairs dc__law_all_pairs pm__law_all_pairs an__law_all_pairs cd__law_all_pairs ct__law_all_pairs), sl__law_all_pairs⟩)
    (c__law_all_pairs : PySem.W.codeIn K cd__law_all_pairs "_law_all_pairs" = true)
    (k__law_all_pairs : PySem.W.keepIn K (.ref f__law_all_pairs) = true)
    (p__law_drawn_pairs : PySem.W.nsIn K mainGlobals "_law_drawn_pairs" = some (some (.ref f__law_drawn_pairs)))
    (l__law_drawn_pairs : K.lookup f__law_drawn_pairs = some ⟨oc__law_drawn_pairs, od__law_drawn_pairs, .func (PySem.W.fnOf "_law_drawn_pairs" "_law_drawn_pairs" (defArgs s__law_drawn_pairs) (defBody s__law_drawn_pairs) (defScope s__law_drawn_pairs) .none kV__law_drawn_pairs dc__law_drawn_pairs pm__law_drawn_pairs an__law_drawn_pairs cd__law_drawn_pairs ct__law_drawn_pairs), sl__law_drawn_pairs⟩)
    (c__law_drawn_pairs : PySem.W.codeIn K cd__law_drawn_pairs "_law_drawn_pairs" = true)
    (k__law_drawn_pairs : PySem.W.keepIn K (.ref f__law_drawn_pairs) = true)
    (p__law_one_of : PySem.W.nsIn K mainGlobals "_law_one_of" = some (some (.ref f__law_one_of)))
    (l__law_one_of : K.lookup f__law_one_of = some ⟨oc__law_one_of, od__law_one_of, .func (PySem.W.fnOf "_law_one_of" "_law_one_of" (defArgs s__law_one_of) (defBody s__law_one_of) (defScope s__law_one_of) .none kV__law_one_of dc__law_one_of pm__law_one_of an__law_one_of cd__law_one_of ct__law_one_of), sl__law_one_of⟩)
    (c__law_one_of : PySem.W.codeIn K cd__law_one_of "_law_one_of" = true)
    (k__law_one_of : PySem.W.keepIn K (.ref f__law_one_of) = true)
    (p__law_drawn_lots : PySem.W.nsIn K mainGlobals "_law_drawn_lots" = some (some (.ref f__law_drawn_lots)))
    (l__law_drawn_lots : K.lookup f__law_drawn_lots = some ⟨oc__law_drawn_lots, od__law_drawn_lots, .func (PySem.W.fnOf "_law_drawn_lots" "_law_drawn_lots" (defArgs s__law_drawn_lots) (defBody s__law_drawn_lots) (defScope s__law_drawn_lots) .none kV__law_drawn_lots dc__law_drawn_lots pm__law_drawn_lots an__law_drawn_lots cd__law_drawn_lots ct__law_drawn_lots), sl__law_drawn_lots⟩)
    (c__law_drawn_lots : PySem.W.codeIn K cd__law_drawn_lots "_law_drawn_lots" = true)
    (k__law_drawn_lots : PySem.W.keepIn K (.ref f__law_drawn_lots) = true)
    (p__law_sublots : PySem.W.nsIn K mainGlobals "_law_sublots" = some (some (.ref f__law_sublots)))
    (l__law_sublots : K.lookup f__law_sublots = some ⟨oc__law_sublots, od__law_sublots, .func (PySem.W.fnOf "_law_sublots" "_law_sublots" (defArgs s__law_sublots) (defBody s__law_sublots) (defScope s__law_sublots) .none kV__law_sublots dc__law_sublots pm__law_sublots an__law_sublots cd__law_sublots ct__law_sublots), sl__law_sublots⟩)
    (c__law_sublots : PySem.W.codeIn K cd__law_sublots "_law_sublots" = true)
    (k__law_sublots : PySem.W.keepIn K (.ref f__law_sublots) = true)
    (p__law_is_within : PySem.W.nsIn K mainGlobals "_law_is_within" = some (some (.ref f__law_is_within)))
    (l__law_is_within : K.lookup f__law_is_within = some ⟨oc__law_is_within, od__law_is_within, .func (PySem.W.fnOf "_law_is_within" "_law_is_within" (defArgs s__law_is_within) (defBody s__law_is_within) (defScope s__law_is_within) .none kV__law_is_within dc__law_is_within pm__law_is_within an__law_is_within cd__law_is_within ct__law_is_within), sl__law_is_within⟩)
    (c__law_is_within : PySem.W.codeIn K cd__law_is_within "_law_is_within" = true)
    (k__law_is_within : PySem.W.keepIn K (.ref f__law_is_within) = true)
    (p__law_least_lots : PySem.W.nsIn K mainGlobals "_law_least_lots" = some (some (.ref f__law_least_lots)))
    (l__law_least_lots : K.lookup f__law_least_lots = some ⟨oc__law_least_lots, od__law_least_lots, .func (PySem.W.fnOf "_law_least_lots" "_law_least_lots" (defArgs s__law_least_lots) (defBody s__law_least_lots) (defScope s__law_least_lots) .none kV__law_least_lots dc__law_least_lots pm__law_least_lots an__law_least_lots cd__law_least_lots ct__law_least_lots), sl__law_least_lots⟩)
    (c__law_least_lots : PySem.W.codeIn K cd__law_least_lots "_law_least_lots" = true)
    (k__law_least_lots : PySem.W.keepIn K (.ref f__law_least_lots) = true)
    (p__law_meetings : PySem.W.nsIn K mainGlobals "_law_meetings" = some (some (.ref f__law_meetings)))
    (l__law_meetings : K.lookup f__law_meetings = some ⟨oc__law_meetings, od__law_meetings, .func (PySem.W.fnOf "_law_meetings" "_law_meetings" (defArgs s__law_meetings) (defBody s__law_meetings) (defScope s__law_meetings) .none kV__law_meetings dc__law_meetings pm__law_meetings an__law_meetings cd__law_meetings ct__law_meetings), sl__law_meetings⟩)
    (c__law_meetings : PySem.W.codeIn K cd__law_meetings "_law_meetings" = true)
    (k__law_meetings : PySem.W.keepIn K (.ref f__law_meetings) = true)
    (p__law_right : PySem.W.nsIn K mainGlobals "_law_right" = some (some (.ref f__law_right)))
    (l__law_right : K.lookup f__law_right = some ⟨oc__law_right, od__law_right, .func (PySem.W.fnOf "_law_right" "_law_right" (defArgs s__law_right) (defBody s__law_right) (defScope s__law_right) .none kV__law_right dc__law_right pm__law_right an__law_right cd__law_right ct__law_right), sl__law_right⟩)
    (c__law_right : PySem.W.codeIn K cd__law_right "_law_right" = true)
    (k__law_right : PySem.W.keepIn K (.ref f__law_right) = true)
    (p_law : PySem.W.nsIn K mainGlobals "law" = some (some (.ref f_law)))
    (l_law : K.lookup f_law = some ⟨oc_law, od_law, .func (PySem.W.fnOf "law" "law" (defArgs s_law) (defBody s_law) (defScope s_law) .none kV_law dc_law pm_law an_law cd_law ct_law), sl_law⟩)
    (c_law : PySem.W.codeIn K cd_law "law" = true)
    (k_law : PySem.W.keepIn K (.ref f_law) = true)
    (z_abs : PySem.W.nsIn K mainGlobals "abs" = some none)
    (z_all : PySem.W.nsIn K mainGlobals "all" = some none)
    (z_any : PySem.W.nsIn K mainGlobals "any" = some none)
    (z_enumerate : PySem.W.nsIn K mainGlobals "enumerate" = some none)
    (z_int : PySem.W.nsIn K mainGlobals "int" = some none)
    (z_isinstance : PySem.W.nsIn K mainGlobals "isinstance" = some none)
    (z_len : PySem.W.nsIn K mainGlobals "len" = some none)
    (z_list : PySem.W.nsIn K mainGlobals "list" = some none)
    (z_max : PySem.W.nsIn K mainGlobals "max" = some none)
    (z_min : PySem.W.nsIn K mainGlobals "min" = some none)
    (z_range : PySem.W.nsIn K mainGlobals "range" = some none)
    (z_set : PySem.W.nsIn K mainGlobals "set" = some none)
    (z_sorted : PySem.W.nsIn K mainGlobals "sorted" = some none)
    (z_str : PySem.W.nsIn K mainGlobals "str" = some none)
    (z_sum : PySem.W.nsIn K mainGlobals "sum" = some none)
    (z_tuple : PySem.W.nsIn K mainGlobals "tuple" = some none)
    (z_zip : PySem.W.nsIn K mainGlobals "zip" = some none)
    (v_LETTERS : PySem.W.nsIn K mainGlobals "LETTERS" = some (some (.str "abcdefghijklmnopqrstuvwxyz" w_LETTERS)))
    (v_MAX_LETTERS : PySem.W.nsIn K mainGlobals "MAX_LETTERS" = some (some (.int 4 w_MAX_LETTERS)))
    (v_MOST_LOTS : PySem.W.nsIn K mainGlobals "MOST_LOTS" = some (some (.int 40 w_MOST_LOTS)))
    (v_MOST_MEMBERS : PySem.W.nsIn K mainGlobals "MOST_MEMBERS" = some (some (.int 10 w_MOST_MEMBERS)))
    : ∃ fd : FuncData, (∀ (s : Shared) (v : Value), BindsTo s fd ⟨[v], []⟩ [("_law_script", v)]) ∧ ∀ base : Heap, K.In base → base.Ns mainGlobals mg → FnG l.prog w K mg base CX0 8 fa fd ["_law_script"] (spLaw K) := by
  have e : fa = f_law := by
    have z := hfa.symm.trans (PySem.W.mg_of X G p_law)
    cases z
    rfl
  rw [e]
  letI : CTab := ct1 "" 0 w
  let T : Tx K mg := {
    a__law_bag := f__law_bag, d__law_bag := (PySem.W.fnOf "_law_bag" "_law_bag" (defArgs s__law_bag) (defBody s__law_bag) (defScope s__law_bag) .none kV__law_bag dc__law_bag pm__law_bag an__law_bag cd__law_bag ct__law_bag),
    F__law_bag := fun_mk (st := s__law_bag) l__law_bag c__law_bag k__law_bag,
    b__law_bag := (fun_mk (st := s__law_bag) l__law_bag c__law_bag k__law_bag).binds (ps := ["_law_script", "_law_at"]) fun _ _ _ _ _ _ us hl => match us, hl with | [_, _], _ => rfl,
    g__law_bag := PySem.W.mg_of X G p__law_bag,
    a_without_one := f_without_one, d_without_one := (PySem.W.fnOf "without_one" "without_one" (defArgs s_without_one) (defBody s_without_one) (defScope s_without_one) .none kV_without_one dc_without_one pm_without_one an_without_one cd_without_one ct_without_one),
    F_without_one := fun_mk (st := s_without_one) l_without_one c_without_one k_without_one,
    b_without_one := (fun_mk (st := s_without_one) l_without_one c_without_one k_without_one).binds (ps := ["lot", "gone"]) fun _ _ _ _ _ _ us hl => match us, hl with | [_, _], _ => rfl,
    g_without_one := PySem.W.mg_of X G p_without_one,
    a_least_of := f_least_of, d_least_of := (PySem.W.fnOf "least_of" "least_of" (defArgs s_least_of) (defBody s_least_of) (defScope s_least_of) .none kV_least_of dc_least_of pm_least_of an_least_of cd_least_of ct_least_of),
    F_least_of := fun_mk (st := s_least_of) l_least_of c_least_of k_least_of,
    b_least_of := (fun_mk (st := s_least_of) l_least_of c_least_of k_least_of).binds (ps := ["holds"]) fun _ _ _ _ _ _ us hl => match us, hl with | [_], _ => rfl,
    g_least_of := PySem.W.mg_of X G p_least_of,
    a_do_ascend := f_do_ascend, d_do_ascend := (PySem.W.fnOf "do_ascend" "do_ascend" (defArgs s_do_ascend) (defBody s_do_ascend) (defScope s_do_ascend) .none kV_do_ascend dc_do_ascend pm_do_ascend an_do_ascend cd_do_ascend ct_do_ascend),
    F_do_ascend := fun_mk (st := s_do_ascend) l_do_ascend c_do_ascend k_do_ascend,
    b_do_ascend := (fun_mk (st := s_do_ascend) l_do_ascend c_do_ascend k_do_ascend).binds (ps := ["items"]) fun _ _ _ _ _ _ us hl => match us, hl with | [_], _ => rfl,
    g_do_ascend := PySem.W.mg_of X G p_do_ascend,
    a_meets_each := f_meets_each, d_meets_each := (PySem.W.fnOf "meets_each" "meets_each" (defArgs s_meets_each) (defBody s_meets_each) (defScope s_meets_each) .none kV_meets_each dc_meets_each pm_meets_each an_meets_each cd_meets_each ct_meets_each),
    F_meets_each := fun_mk (st := s_meets_each) l_meets_each c_meets_each k_meets_each,
    b_meets_each := (fun_mk (st := s_meets_each) l_meets_each c_meets_each k_meets_each).binds (ps := ["lot", "lots"]) fun _ _ _ _ _ _ us hl => match us, hl with | [_, _], _ => rfl,
    g_meets_each := PySem.W.mg_of X G p_meets_each,
    a_members_of := f_members_of, d_members_of := (PySem.W.fnOf "members_of" "members_of" (defArgs s_members_of) (defBody s_members_of) (defScope s_members_of) .none kV_members_of dc_members_of pm_members_of an_members_of cd_members_of ct_members_of),
    F_members_of := fun_mk (st := s_members_of) l_members_of c_members_of k_members_of,
    b_members_of := (fun_mk (st := s_members_of) l_members_of c_members_of k_members_of).binds (ps := ["lots"]) fun _ _ _ _ _ _ us hl => match us, hl with | [_], _ => rfl,
    g_members_of := PySem.W.mg_of X G p_members_of,
    a_lots_within := f_lots_within, d_lots_within := (PySem.W.fnOf "lots_within" "lots_within" (defArgs s_lots_within) (defBody s_lots_within) (defScope s_lots_within) .none kV_lots_within dc_lots_within pm_lots_within an_lots_within cd_lots_within ct_lots_within),
    F_lots_within := fun_mk (st := s_lots_within) l_lots_within c_lots_within k_lots_within,
    b_lots_within := (fun_mk (st := s_lots_within) l_lots_within c_lots_within k_lots_within).binds (ps := ["items"]) fun _ _ _ _ _ _ us hl => match us, hl with | [_], _ => rfl,
    g_lots_within := PySem.W.mg_of X G p_lots_within,
    a_is_name := f_is_name, d_is_name := (PySem.W.fnOf "is_name" "is_name" (defArgs s_is_name) (defBody s_is_name) (defScope s_is_name) .none kV_is_name dc_is_name pm_is_name an_is_name cd_is_name ct_is_name),
    F_is_name := fun_mk (st := s_is_name) l_is_name c_is_name k_is_name,
    b_is_name := (fun_mk (st := s_is_name) l_is_name c_is_name k_is_name).binds (ps := ["value"]) fun _ _ _ _ _ _ us hl => match us, hl with | [_], _ => rfl,
    g_is_name := PySem.W.mg_of X G p_is_name,
    a_are_names := f_are_names, d_are_names := (PySem.W.fnOf "are_names" "are_names" (defArgs s_are_names) (defBody s_are_names) (defScope s_are_names) .none kV_are_names dc_are_names pm_are_names an_are_names cd_are_names ct_are_names),
    F_are_names := fun_mk (st := s_are_names) l_are_names c_are_names k_are_names,
    b_are_names := (fun_mk (st := s_are_names) l_are_names c_are_names k_are_names).binds (ps := ["value"]) fun _ _ _ _ _ _ us hl => match us, hl with | [_], _ => rfl,
    g_are_names := PySem.W.mg_of X G p_are_names,
    a_is_ascending := f_is_ascending, d_is_ascending := (PySem.W.fnOf "is_ascending" "is_ascending" (defArgs s_is_ascending) (defBody s_is_ascending) (defScope s_is_ascending) .none kV_is_ascending dc_is_ascending pm_is_ascending an_is_ascending cd_is_ascending ct_is_ascending),
    F_is_ascending := fun_mk (st := s_is_ascending) l_is_ascending c_is_ascending k_is_ascending,
    b_is_ascending := (fun_mk (st := s_is_ascending) l_is_ascending c_is_ascending k_is_ascending).binds (ps := ["items"]) fun _ _ _ _ _ _ us hl => match us, hl with | [_], _ => rfl,
    g_is_ascending := PySem.W.mg_of X G p_is_ascending,
    a_is_lot := f_is_lot, d_is_lot := (PySem.W.fnOf "is_lot" "is_lot" (defArgs s_is_lot) (defBody s_is_lot) (defScope s_is_lot) .none kV_is_lot dc_is_lot pm_is_lot an_is_lot cd_is_lot ct_is_lot),
    F_is_lot := fun_mk (st := s_is_lot) l_is_lot c_is_lot k_is_lot,
    b_is_lot := (fun_mk (st := s_is_lot) l_is_lot c_is_lot k_is_lot).binds (ps := ["value"]) fun _ _ _ _ _ _ us hl => match us, hl with | [_], _ => rfl,
    g_is_lot := PySem.W.mg_of X G p_is_lot,
    a_is_pair := f_is_pair, d_is_pair := (PySem.W.fnOf "is_pair" "is_pair" (defArgs s_is_pair) (defBody s_is_pair) (defScope s_is_pair) .none kV_is_pair dc_is_pair pm_is_pair an_is_pair cd_is_pair ct_is_pair),
    F_is_pair := fun_mk (st := s_is_pair) l_is_pair c_is_pair k_is_pair,
    b_is_pair := (fun_mk (st := s_is_pair) l_is_pair c_is_pair k_is_pair).binds (ps := ["value"]) fun _ _ _ _ _ _ us hl => match us, hl with | [_], _ => rfl,
    g_is_pair := PySem.W.mg_of X G p_is_pair,
    a_is_lot_of_pairs := f_is_lot_of_pairs, d_is_lot_of_pairs := (PySem.W.fnOf "is_lot_of_pairs" "is_lot_of_pairs" (defArgs s_is_lot_of_pairs) (defBody s_is_lot_of_pairs) (defScope s_is_lot_of_pairs) .none kV_is_lot_of_pairs dc_is_lot_of_pairs pm_is_lot_of_pairs an_is_lot_of_pairs cd_is_lot_of_pairs ct_is_lot_of_pairs),
    F_is_lot_of_pairs := fun_mk (st := s_is_lot_of_pairs) l_is_lot_of_pairs c_is_lot_of_pairs k_is_lot_of_pairs,
    b_is_lot_of_pairs := (fun_mk (st := s_is_lot_of_pairs) l_is_lot_of_pairs c_is_lot_of_pairs k_is_lot_of_pairs).binds (ps := ["value"]) fun _ _ _ _ _ _ us hl => match us, hl with | [_], _ => rfl,
    g_is_lot_of_pairs := PySem.W.mg_of X G p_is_lot_of_pairs,
    a_meeting_lots := f_meeting_lots, d_meeting_lots := (PySem.W.fnOf "meeting_lots" "meeting_lots" (defArgs s_meeting_lots) (defBody s_meeting_lots) (defScope s_meeting_lots) .none kV_meeting_lots dc_meeting_lots pm_meeting_lots an_meeting_lots cd_meeting_lots ct_meeting_lots),
    F_meeting_lots := fun_mk (st := s_meeting_lots) l_meeting_lots c_meeting_lots k_meeting_lots,
    b_meeting_lots := (fun_mk (st := s_meeting_lots) l_meeting_lots c_meeting_lots k_meeting_lots).binds (ps := ["lots"]) fun _ _ _ _ _ _ us hl => match us, hl with | [_], _ => rfl,
    g_meeting_lots := PySem.W.mg_of X G p_meeting_lots,
    a__law_draw := f__law_draw, d__law_draw := (PySem.W.fnOf "_law_draw" "_law_draw" (defArgs s__law_draw) (defBody s__law_draw) (defScope s__law_draw) .none kV__law_draw dc__law_draw pm__law_draw an__law_draw cd__law_draw ct__law_draw),
    F__law_draw := fun_mk (st := s__law_draw) l__law_draw c__law_draw k__law_draw,
    b__law_draw := (fun_mk (st := s__law_draw) l__law_draw c__law_draw k__law_draw).binds (ps := ["_law_bag_here", "_law_total"]) fun _ _ _ _ _ _ us hl => match us, hl with | [_, _], _ => rfl,
    g__law_draw := PySem.W.mg_of X G p__law_draw,
    a__law_shuffled := f__law_shuffled, d__law_shuffled := (PySem.W.fnOf "_law_shuffled" "_law_shuffled" (defArgs s__law_shuffled) (defBody s__law_shuffled) (defScope s__law_shuffled) .none kV__law_shuffled dc__law_shuffled pm__law_shuffled an__law_shuffled cd__law_shuffled ct__law_shuffled),
    F__law_shuffled := fun_mk (st := s__law_shuffled) l__law_shuffled c__law_shuffled k__law_shuffled,
    b__law_shuffled := (fun_mk (st := s__law_shuffled) l__law_shuffled c__law_shuffled k__law_shuffled).binds (ps := ["_law_bag_here", "_law_items"]) fun _ _ _ _ _ _ us hl => match us, hl with | [_, _], _ => rfl,
    g__law_shuffled := PySem.W.mg_of X G p__law_shuffled,
    a__law_names := f__law_names, d__law_names := (PySem.W.fnOf "_law_names" "_law_names" (defArgs s__law_names) (defBody s__law_names) (defScope s__law_names) .none kV__law_names dc__law_names pm__law_names an__law_names cd__law_names ct__law_names),
    F__law_names := fun_mk (st := s__law_names) l__law_names c__law_names k__law_names,
    b__law_names := (fun_mk (st := s__law_names) l__law_names c__law_names k__law_names).binds (ps := ["_law_bag_here", "_law_many"]) fun _ _ _ _ _ _ us hl => match us, hl with | [_, _], _ => rfl,
    g__law_names := PySem.W.mg_of X G p__law_names,
    a__law_lot_upto := f__law_lot_upto, d__law_lot_upto := (PySem.W.fnOf "_law_lot_upto" "_law_lot_upto" (defArgs s__law_lot_upto) (defBody s__law_lot_upto) (defScope s__law_lot_upto) .none kV__law_lot_upto dc__law_lot_upto pm__law_lot_upto an__law_lot_upto cd__law_lot_upto ct__law_lot_upto),
    F__law_lot_upto := fun_mk (st := s__law_lot_upto) l__law_lot_upto c__law_lot_upto k__law_lot_upto,
    b__law_lot_upto := (fun_mk (st := s__law_lot_upto) l__law_lot_upto c__law_lot_upto k__law_lot_upto).binds (ps := ["_law_bag_here", "_law_items", "_law_most"]) fun _ _ _ _ _ _ us hl => match us, hl with | [_, _, _], _ => rfl,
    g__law_lot_upto := PySem.W.mg_of X G p__law_lot_upto,
    a__law_all_pairs := f__law_all_pairs, d__law_all_pairs := (PySem.W.fnOf "_law_all_pairs" "_law_all_pairs" (defArgs s__law_all_pairs) (defBody s__law_all_pairs) (defScope s__law_all_pairs) .none kV__law_all_pairs dc__law_all_pairs pm__law_all_pairs an__law_all_pairs cd__law_all_pairs ct__law_all_pairs),
    F__law_all_pairs := fun_mk (st := s__law_all_pairs) l__law_all_pairs c__law_all_pairs k__law_all_pairs,
    b__law_all_pairs := (fun_mk (st := s__law_all_pairs) l__law_all_pairs c__law_all_pairs k__law_all_pairs).binds (ps := ["_law_pins"]) fun _ _ _ _ _ _ us hl => match us, hl with | [_], _ => rfl,
    g__law_all_pairs := PySem.W.mg_of X G p__law_all_pairs,
    a__law_drawn_pairs := f__law_drawn_pairs, d__law_drawn_pairs := (PySem.W.fnOf "_law_drawn_pairs" "_law_drawn_pairs" (defArgs s__law_drawn_pairs) (defBody s__law_drawn_pairs) (defScope s__law_drawn_pairs) .none kV__law_drawn_pairs dc__law_drawn_pairs pm__law_drawn_pairs an__law_drawn_pairs cd__law_drawn_pairs ct__law_drawn_pairs),
    F__law_drawn_pairs := fun_mk (st := s__law_drawn_pairs) l__law_drawn_pairs c__law_drawn_pairs k__law_drawn_pairs,
    b__law_drawn_pairs := (fun_mk (st := s__law_drawn_pairs) l__law_drawn_pairs c__law_drawn_pairs k__law_drawn_pairs).binds (ps := ["_law_bag_here"]) fun _ _ _ _ _ _ us hl => match us, hl with | [_], _ => rfl,
    g__law_drawn_pairs := PySem.W.mg_of X G p__law_drawn_pairs,
    a__law_one_of := f__law_one_of, d__law_one_of := (PySem.W.fnOf "_law_one_of" "_law_one_of" (defArgs s__law_one_of) (defBody s__law_one_of) (defScope s__law_one_of) .none kV__law_one_of dc__law_one_of pm__law_one_of an__law_one_of cd__law_one_of ct__law_one_of),
    F__law_one_of := fun_mk (st := s__law_one_of) l__law_one_of c__law_one_of k__law_one_of,
    b__law_one_of := (fun_mk (st := s__law_one_of) l__law_one_of c__law_one_of k__law_one_of).binds (ps := ["_law_bag_here", "_law_items"]) fun _ _ _ _ _ _ us hl => match us, hl with | [_, _], _ => rfl,
    g__law_one_of := PySem.W.mg_of X G p__law_one_of,
    a__law_drawn_lots := f__law_drawn_lots, d__law_drawn_lots := (PySem.W.fnOf "_law_drawn_lots" "_law_drawn_lots" (defArgs s__law_drawn_lots) (defBody s__law_drawn_lots) (defScope s__law_drawn_lots) .none kV__law_drawn_lots dc__law_drawn_lots pm__law_drawn_lots an__law_drawn_lots cd__law_drawn_lots ct__law_drawn_lots),
    F__law_drawn_lots := fun_mk (st := s__law_drawn_lots) l__law_drawn_lots c__law_drawn_lots k__law_drawn_lots,
    b__law_drawn_lots := (fun_mk (st := s__law_drawn_lots) l__law_drawn_lots c__law_drawn_lots k__law_drawn_lots).binds (ps := ["_law_bag_here", "_law_pairs"]) fun _ _ _ _ _ _ us hl => match us, hl with | [_, _], _ => rfl,
    g__law_drawn_lots := PySem.W.mg_of X G p__law_drawn_lots,
    a__law_sublots := f__law_sublots, d__law_sublots := (PySem.W.fnOf "_law_sublots" "_law_sublots" (defArgs s__law_sublots) (defBody s__law_sublots) (defScope s__law_sublots) .none kV__law_sublots dc__law_sublots pm__law_sublots an__law_sublots cd__law_sublots ct__law_sublots),
    F__law_sublots := fun_mk (st := s__law_sublots) l__law_sublots c__law_sublots k__law_sublots,
    b__law_sublots := (fun_mk (st := s__law_sublots) l__law_sublots c__law_sublots k__law_sublots).binds (ps := ["_law_items"]) fun _ _ _ _ _ _ us hl => match us, hl with | [_], _ => rfl,
    g__law_sublots := PySem.W.mg_of X G p__law_sublots,
    a__law_is_within := f__law_is_within, d__law_is_within := (PySem.W.fnOf "_law_is_within" "_law_is_within" (defArgs s__law_is_within) (defBody s__law_is_within) (defScope s__law_is_within) .none kV__law_is_within dc__law_is_within pm__law_is_within an__law_is_within cd__law_is_within ct__law_is_within),
    F__law_is_within := fun_mk (st := s__law_is_within) l__law_is_within c__law_is_within k__law_is_within,
    b__law_is_within := (fun_mk (st := s__law_is_within) l__law_is_within c__law_is_within k__law_is_within).binds (ps := ["_law_lot", "_law_other"]) fun _ _ _ _ _ _ us hl => match us, hl with | [_, _], _ => rfl,
    g__law_is_within := PySem.W.mg_of X G p__law_is_within,
    a__law_least_lots := f__law_least_lots, d__law_least_lots := (PySem.W.fnOf "_law_least_lots" "_law_least_lots" (defArgs s__law_least_lots) (defBody s__law_least_lots) (defScope s__law_least_lots) .none kV__law_least_lots dc__law_least_lots pm__law_least_lots an__law_least_lots cd__law_least_lots ct__law_least_lots),
    F__law_least_lots := fun_mk (st := s__law_least_lots) l__law_least_lots c__law_least_lots k__law_least_lots,
    b__law_least_lots := (fun_mk (st := s__law_least_lots) l__law_least_lots c__law_least_lots k__law_least_lots).binds (ps := ["_law_lots"]) fun _ _ _ _ _ _ us hl => match us, hl with | [_], _ => rfl,
    g__law_least_lots := PySem.W.mg_of X G p__law_least_lots,
    a__law_meetings := f__law_meetings, d__law_meetings := (PySem.W.fnOf "_law_meetings" "_law_meetings" (defArgs s__law_meetings) (defBody s__law_meetings) (defScope s__law_meetings) .none kV__law_meetings dc__law_meetings pm__law_meetings an__law_meetings cd__law_meetings ct__law_meetings),
    F__law_meetings := fun_mk (st := s__law_meetings) l__law_meetings c__law_meetings k__law_meetings,
    b__law_meetings := (fun_mk (st := s__law_meetings) l__law_meetings c__law_meetings k__law_meetings).binds (ps := ["_law_lots", "_law_items"]) fun _ _ _ _ _ _ us hl => match us, hl with | [_, _], _ => rfl,
    g__law_meetings := PySem.W.mg_of X G p__law_meetings,
    a__law_right := f__law_right, d__law_right := (PySem.W.fnOf "_law_right" "_law_right" (defArgs s__law_right) (defBody s__law_right) (defScope s__law_right) .none kV__law_right dc__law_right pm__law_right an__law_right cd__law_right ct__law_right),
    F__law_right := fun_mk (st := s__law_right) l__law_right c__law_right k__law_right,
    b__law_right := (fun_mk (st := s__law_right) l__law_right c__law_right k__law_right).binds (ps := ["_law_bag_here"]) fun _ _ _ _ _ _ us hl => match us, hl with | [_], _ => rfl,
    g__law_right := PySem.W.mg_of X G p__law_right,
    a_law := f_law, d_law := (PySem.W.fnOf "law" "law" (defArgs s_law) (defBody s_law) (defScope s_law) .none kV_law dc_law pm_law an_law cd_law ct_law),
    F_law := fun_mk (st := s_law) l_law c_law k_law,
    b_law := (fun_mk (st := s_law) l_law c_law k_law).binds (ps := ["_law_script"]) fun _ _ _ _ _ _ us hl => match us, hl with | [_], _ => rfl,
    g_law := PySem.W.mg_of X G p_law,
    n_abs := PySem.W.mg_none_of X G z_abs,
    n_all := PySem.W.mg_none_of X G z_all,
    n_any := PySem.W.mg_none_of X G z_any,
    n_enumerate := PySem.W.mg_none_of X G z_enumerate,
    n_int := PySem.W.mg_none_of X G z_int,
    n_isinstance := PySem.W.mg_none_of X G z_isinstance,
    n_len := PySem.W.mg_none_of X G z_len,
    n_list := PySem.W.mg_none_of X G z_list,
    n_max := PySem.W.mg_none_of X G z_max,
    n_min := PySem.W.mg_none_of X G z_min,
    n_range := PySem.W.mg_none_of X G z_range,
    n_set := PySem.W.mg_none_of X G z_set,
    n_sorted := PySem.W.mg_none_of X G z_sorted,
    n_str := PySem.W.mg_none_of X G z_str,
    n_sum := PySem.W.mg_none_of X G z_sum,
    n_tuple := PySem.W.mg_none_of X G z_tuple,
    n_zip := PySem.W.mg_none_of X G z_zip,
    t_LETTERS := w_LETTERS, c_LETTERS := PySem.W.mg_of X G v_LETTERS,
    t_MAX_LETTERS := w_MAX_LETTERS, c_MAX_LETTERS := PySem.W.mg_of X G v_MAX_LETTERS,
    t_MOST_LOTS := w_MOST_LOTS, c_MOST_LOTS := PySem.W.mg_of X G v_MOST_LOTS,
    t_MOST_MEMBERS := w_MOST_MEMBERS, c_MOST_MEMBERS := PySem.W.mg_of X G v_MOST_MEMBERS }
  exact ⟨(PySem.W.fnOf "law" "law" (defArgs s_law) (defBody s_law) (defScope s_law) .none kV_law dc_law pm_law an_law cd_law ct_law), fun s v => .of_eq rfl, fun base _ _ => okl_law T law_holds⟩
end Lw
open PySem PySem.W PyProof.Rows
set_option maxRecDepth 100000 in
set_option maxHeartbeats 0 in
theorem PySem.Challenge.cw_lengthstell_k46_lots_that_meet_lots_holds : PySem.Challenge.rw_lengthstell_k46_lots_that_meet_lots.Holds := by
  w_on; o_law; k_head; (case hw => w_witness2)
  k_fill
  haveI : DL.CTab := DL.ct1 "" 0 DL.w00
  refine DL.walkG (l := PySem.Challenge.rw_lengthstell_k46_lots_that_meet_lots) (n := 63) (k := 8) (x := "_law_script") (sp := fun w => DL.spLaw _) rfl (by decide) rfl ⟨rfl, by decide, by decide⟩ (fun w h Y => PySem.W.kIn_of Y) ?F (fun _ H a ns hl _ hS => ⟨H, a, ns, rfl, Evl.Ex.refl H, hS, hl, fun _ => rfl⟩)
  case F =>
    intro w mg fa h KX G hmg
    refine' Lw.all_mk KX G hmg ?p__law_bag ?l__law_bag ?c__law_bag ?k__law_bag ?p_without_one ?l_without_one ?c_without_one ?k_without_one ?p_least_of ?l_least_of ?c_least_of ?k_least_of ?p_do_ascend ?l_do_ascend ?c_do_ascend ?k_do_ascend ?p_meets_each ?l_meets_each ?c_meets_each ?k_meets_each ?p_members_of ?l_members_of ?c_members_of ?k_members_of ?p_lots_within ?l_lots_within ?c_lots_within ?k_lots_within ?p_is_name ?l_is_name ?c_is_name ?k_is_name ?p_are_names ?l_are_names ?c_are_names ?k_are_names ?p_is_ascending ?l_is_ascending ?c_is_ascending ?k_is_ascending ?p_is_lot ?l_is_lot ?c_is_lot ?k_is_lot ?p_is_pair ?l_is_pair ?c_is_pair ?k_is_pair ?p_is_lot_of_pairs ?l_is_lot_of_pairs ?c_is_lot_of_pairs ?k_is_lot_of_pairs ?p_meeting_lots ?l_meeting_lots ?c_meeting_lots ?k_meeting_lots ?p__law_draw ?l__law_draw ?c__law_draw ?k__law_draw ?p__law_shuffled ?l__law_shuffled ?c__law_shuffled ?k__law_shuffled ?p__law_names ?l__law_names ?c__law_names ?k__law_names ?p__law_lot_upto ?l__law_lot_upto ?c__law_lot_upto ?k__law_lot_upto ?p__law_all_pairs ?l__law_all_pairs ?c__law_all_pairs ?k__law_all_pairs ?p__law_drawn_pairs ?l__law_drawn_pairs ?c__law_drawn_pairs ?k__law_drawn_pairs ?p__law_one_of ?l__law_one_of ?c__law_one_of ?k__law_one_of ?p__law_drawn_lots ?l__law_drawn_lots ?c__law_drawn_lots ?k__law_drawn_lots ?p__law_sublots ?l__law_sublots ?c__law_sublots ?k__law_sublots ?p__law_is_within ?l__law_is_within ?c__law_is_within ?k__law_is_within ?p__law_least_lots ?l__law_least_lots ?c__law_least_lots ?k__law_least_lots ?p__law_meetings ?l__law_meetings ?c__law_meetings ?k__law_meetings ?p__law_right ?l__law_right ?c__law_right ?k__law_right ?p_law ?l_law ?c_law ?k_law ?z_abs ?z_all ?z_any ?z_enumerate ?z_int ?z_isinstance ?z_len ?z_list ?z_max ?z_min ?z_range ?z_set ?z_sorted ?z_str ?z_sum ?z_tuple ?z_zip ?v_LETTERS ?v_MAX_LETTERS ?v_MOST_LOTS ?v_MOST_MEMBERS
    (case p__law_bag => k_is)
    (case l__law_bag => k_is)
    (case c__law_bag => k_is)
    (case k__law_bag => k_is)
    (case p_without_one => k_is)
    (case l_without_one => k_is)
    (case c_without_one => k_is)
    (case k_without_one => k_is)
    (case p_least_of => k_is)
    (case l_least_of => k_is)
    (case c_least_of => k_is)
    (case k_least_of => k_is)
    (case p_do_ascend => k_is)
    (case l_do_ascend => k_is)
    (case c_do_ascend => k_is)
    (case k_do_ascend => k_is)
    (case p_meets_each => k_is)
    (case l_meets_each => k_is)
    (case c_meets_each => k_is)
    (case k_meets_each => k_is)
    (case p_members_of => k_is)
    (case l_members_of => k_is)
    (case c_members_of => k_is)
    (case k_members_of => k_is)
    (case p_lots_within => k_is)
    (case l_lots_within => k_is)
    (case c_lots_within => k_is)
    (case k_lots_within => k_is)
    (case p_is_name => k_is)
    (case l_is_name => k_is)
    (case c_is_name => k_is)
    (case k_is_name => k_is)
    (case p_are_names => k_is)
    (case l_are_names => k_is)
    (case c_are_names => k_is)
    (case k_are_names => k_is)
    (case p_is_ascending => k_is)
    (case l_is_ascending => k_is)
    (case c_is_ascending => k_is)
    (case k_is_ascending => k_is)
    (case p_is_lot => k_is)
    (case l_is_lot => k_is)
    (case c_is_lot => k_is)
    (case k_is_lot => k_is)
    (case p_is_pair => k_is)
    (case l_is_pair => k_is)
    (case c_is_pair => k_is)
    (case k_is_pair => k_is)
    (case p_is_lot_of_pairs => k_is)
    (case l_is_lot_of_pairs => k_is)
    (case c_is_lot_of_pairs => k_is)
    (case k_is_lot_of_pairs => k_is)
    (case p_meeting_lots => k_is)
    (case l_meeting_lots => k_is)
    (case c_meeting_lots => k_is)
    (case k_meeting_lots => k_is)
    (case p__law_draw => k_is)
    (case l__law_draw => k_is)
    (case c__law_draw => k_is)
    (case k__law_draw => k_is)
    (case p__law_shuffled => k_is)
    (case l__law_shuffled => k_is)
    (case c__law_shuffled => k_is)
    (case k__law_shuffled => k_is)
    (case p__law_names => k_is)
    (case l__law_names => k_is)
    (case c__law_names => k_is)
    (case k__law_names => k_is)
    (case p__law_lot_upto => k_is)
    (case l__law_lot_upto => k_is)
    (case c__law_lot_upto => k_is)
    (case k__law_lot_upto => k_is)
    (case p__law_all_pairs => k_is)
    (case l__law_all_pairs => k_is)
    (case c__law_all_pairs => k_is)
    (case k__law_all_pairs => k_is)
    (case p__law_drawn_pairs => k_is)
    (case l__law_drawn_pairs => k_is)
    (case c__law_drawn_pairs => k_is)
    (case k__law_drawn_pairs => k_is)
    (case p__law_one_of => k_is)
    (case l__law_one_of => k_is)
    (case c__law_one_of => k_is)
    (case k__law_one_of => k_is)
    (case p__law_drawn_lots => k_is)
    (case l__law_drawn_lots => k_is)
    (case c__law_drawn_lots => k_is)
    (case k__law_drawn_lots => k_is)
    (case p__law_sublots => k_is)
    (case l__law_sublots => k_is)
    (case c__law_sublots => k_is)
    (case k__law_sublots => k_is)
    (case p__law_is_within => k_is)
    (case l__law_is_within => k_is)
    (case c__law_is_within => k_is)
    (case k__law_is_within => k_is)
    (case p__law_least_lots => k_is)
    (case l__law_least_lots => k_is)
    (case c__law_least_lots => k_is)
    (case k__law_least_lots => k_is)
    (case p__law_meetings => k_is)
    (case l__law_meetings => k_is)
    (case c__law_meetings => k_is)
    (case k__law_meetings => k_is)
    (case p__law_right => k_is)
    (case l__law_right => k_is)
    (case c__law_right => k_is)
    (case k__law_right => k_is)
    (case p_law => k_is)
    (case l_law => k_is)
    (case c_law => k_is)
    (case k_law => k_is)
    (case z_abs => k_is)
    (case z_all => k_is)
    (case z_any => k_is)
    (case z_enumerate => k_is)
    (case z_int => k_is)
    (case z_isinstance => k_is)
    (case z_len => k_is)
    (case z_list => k_is)
    (case z_max => k_is)
    (case z_min => k_is)
    (case z_range => k_is)
    (case z_set => k_is)
    (case z_sorted => k_is)
    (case z_str => k_is)
    (case z_sum => k_is)
    (case z_tuple => k_is)
    (case z_zip => k_is)
    (case v_LETTERS => k_is)
    (case v_MAX_LETTERS => k_is)
    (case v_MOST_LOTS => k_is)
    (case v_MOST_MEMBERS => k_is)
