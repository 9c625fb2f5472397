import PyProof.Rows.All
import Wide.All
import OpenK.AllK
import Wide.FinOn
import KE.KStateDown
import HandS.ForMost
import HandS.Deep
import HandS.Star
import HandS.Codes
import HandS.Conv
import HandS.Defaults
import HandS.Walk
import HandS.Style
import HandS.IsInst
import KE.GoesEnum
import KE.GoesZip
import KE.GoesMore
import PyProof.DictCompW
import PyProof.DictFindH
import KE.KDictCopyH
import HandS.Head0
import HandS.Head1
import HandS.Head2
import HandS.HeadEnd
import HandS.HeadHook1
import HandS.HeadHook2
import PySem.Challenge.RW_labeltill_k48_whole_least_plans
set_option Elab.async false
set_option linter.all false
set_option maxRecDepth 100000
set_option maxHeartbeats 0
/-! text K1 -/
namespace LK
open PySem PySem.Spec PyProof.Rows L2

/-! ### known heaps, hidden addresses -/
abbrev AS := Addr → Prop
noncomputable def sub (H : Hp) (S : AS) : Hp := fun a => open Classical in if S a then none else H a
theorem sub_in {H : Hp} {S : AS} {a : Addr} (h : ¬ S a) : sub H S a = H a := by unfold sub; rw [if_neg h]
theorem sub_out {H : Hp} {S : AS} {a : Addr} (h : S a) : sub H S a = none := by unfold sub; rw [if_pos h]
theorem sub_some {H : Hp} {S : AS} {a : Addr} {o : HO} (h : sub H S a = some o) : ¬ S a ∧ H a = some o := by
  unfold sub at h
  split at h
  · cases h
  · exact ⟨by assumption, h⟩
theorem sub_le {H : Hp} {S : AS} : Same (sub H S) H := fun _ _ h => (sub_some h).2
theorem sub_same {H H' : Hp} {S : AS} (e : Same H H') : Same (sub H S) (sub H' S) := fun a o h => by
  obtain ⟨h1, h2⟩ := sub_some h
  rw [sub_in h1]
  exact e a o h2
theorem sub_mono {H : Hp} {S T : AS} (h : ∀ a, S a → T a) : Same (sub H T) (sub H S) := fun a o e => by
  obtain ⟨h1, h2⟩ := sub_some e
  rw [sub_in fun z => h1 (h a z)]
  exact h2

/-! ### data -/
mutual
inductive Da (H : Hp) : V → PyData → Prop
  | non : Da H .non .none
  | bl (b : Bool) : Da H (.bl b) (.bool b)
  | int (i : Int) : Da H (.int i) (.int i)
  | str (x : Str) : Da H (.str x) (.str x)
  | lst {a : Addr} {xs : List V} {ds : List PyData} : H a = some (.lst xs) → DaAll H xs ds → Da H (.ref a) (.list ds)
  | tup {a : Addr} {xs : List V} {ds : List PyData} : H a = some (.tup xs) → DaAll H xs ds → Da H (.ref a) (.tuple ds)
inductive DaAll (H : Hp) : List V → List PyData → Prop
  | nil : DaAll H [] []
  | cons {v : V} {vs : List V} {d : PyData} {ds : List PyData} : Da H v d → DaAll H vs ds → DaAll H (v :: vs) (d :: ds)
end
mutual
theorem Da.mono {H H' : Hp} (e : Same H H') : ∀ {v : V} {d : PyData}, Da H v d → Da H' v d
  | _, _, .non => .non
  | _, _, .bl b => .bl b
  | _, _, .int i => .int i
  | _, _, .str x => .str x
  | _, _, .lst h a => .lst (e _ _ h) (DaAll.mono e a)
  | _, _, .tup h a => .tup (e _ _ h) (DaAll.mono e a)
theorem DaAll.mono {H H' : Hp} (e : Same H H') : ∀ {vs : List V} {ds : List PyData}, DaAll H vs ds → DaAll H' vs ds
  | _, _, .nil => .nil
  | _, _, .cons h t => .cons (Da.mono e h) (DaAll.mono e t)
end
mutual
theorem Da.dp {K : PySem.W.Frag} {H : Hp} : ∀ {v : V} {d : PyData}, Da H v d → Dp K H v d
  | _, _, .non => .non
  | _, _, .bl b => .bl b
  | _, _, .int i => .int i
  | _, _, .str x => .str x
  | _, _, .lst h a => .lst (SqL.of h) (DaAll.dp a)
  | _, _, .tup h a => .tup (SqT.of h) (DaAll.dp a)
theorem DaAll.dp {K : PySem.W.Frag} {H : Hp} : ∀ {vs : List V} {ds : List PyData}, DaAll H vs ds → DpAll K H vs ds
  | _, _, .nil => .nil
  | _, _, .cons h t => .cons (Da.dp h) (DaAll.dp t)
end
theorem DaAll.len {H : Hp} : ∀ {vs : List V} {ds : List PyData}, DaAll H vs ds → vs.length = ds.length
  | _, _, .nil => rfl
  | _, _, .cons _ t => congrArg (· + 1) (DaAll.len t)
theorem DaAll.get {H : Hp} : ∀ {vs : List V} {ds : List PyData} {i : Nat} {d : PyData}, DaAll H vs ds → ds[i]? = some d → ∃ v, vs[i]? = some v ∧ Da H v d
  | _, _, _, _, .nil, h => by simp at h
  | _, _, 0, d, .cons h _, e => by simp at e; subst e; exact ⟨_, rfl, h⟩
  | _, _, i + 1, d, .cons _ t, e => by
    obtain ⟨v, h1, h2⟩ := DaAll.get (i := i) (d := d) t (by simpa using e)
    exact ⟨v, by simpa using h1, h2⟩
theorem DaAll.getv {H : Hp} : ∀ {vs : List V} {ds : List PyData} {i : Nat} {v : V}, DaAll H vs ds → vs[i]? = some v → ∃ d, ds[i]? = some d ∧ Da H v d
  | _, _, _, _, .nil, h => by simp at h
  | _, _, 0, d, .cons h _, e => by simp at e; subst e; exact ⟨_, rfl, h⟩
  | _, _, i + 1, d, .cons _ t, e => by
    obtain ⟨v, h1, h2⟩ := DaAll.getv (i := i) (v := d) t (by simpa using e)
    exact ⟨v, by simpa using h1, h2⟩
theorem DaAll.append {H : Hp} : ∀ {vs ws : List V} {ds es : List PyData}, DaAll H vs ds → DaAll H ws es → DaAll H (vs ++ ws) (ds ++ es)
  | _, _, _, _, .nil, s => s
  | _, _, _, _, .cons h t, s => .cons h (DaAll.append t s)
theorem DaAll.drop {H : Hp} : ∀ {vs : List V} {ds : List PyData} (n : Nat), DaAll H vs ds → DaAll H (vs.drop n) (ds.drop n)
  | _, _, 0, h => h
  | _, _, _ + 1, .nil => .nil
  | _, _, n + 1, .cons _ t => DaAll.drop n t
theorem DaAll.take {H : Hp} : ∀ {vs : List V} {ds : List PyData} (n : Nat), DaAll H vs ds → DaAll H (vs.take n) (ds.take n)
  | _, _, 0, _ => .nil
  | _, _, _ + 1, .nil => .nil
  | _, _, n + 1, .cons h t => .cons h (DaAll.take n t)
theorem DaAll.set {H : Hp} {v : V} {d : PyData} (r : Da H v d) : ∀ {vs : List V} {ds : List PyData} (i : Nat), DaAll H vs ds → DaAll H (vs.set i v) (ds.set i d)
  | _, _, _, .nil => .nil
  | _, _, 0, .cons _ t => .cons r t
  | _, _, i + 1, .cons q t => .cons q (DaAll.set r i t)
theorem DaAll.ints {H : Hp} : ∀ {vs : List V} {ns : List Int}, DaAll H vs (ns.map .int) → vs = ns.map V.int
  | _, [], .nil => rfl
  | _, n :: ns, .cons h t => by
    cases h
    rw [DaAll.ints t]
    rfl
theorem DaAll.of_ints {H : Hp} : ∀ ns : List Int, DaAll H (ns.map V.int) (ns.map .int)
  | [] => .nil
  | n :: ns => .cons (.int n) (DaAll.of_ints ns)
theorem DaAll.bls {H : Hp} : ∀ {vs : List V} {ns : List Bool}, DaAll H vs (ns.map .bool) → vs = ns.map V.bl
  | _, [], .nil => rfl
  | _, n :: ns, .cons h t => by
    cases h
    rw [DaAll.bls t]
    rfl
theorem DaAll.strs {H : Hp} : ∀ {vs : List V} {ns : List Str}, DaAll H vs (ns.map .str) → vs = ns.map V.str
  | _, [], .nil => rfl
  | _, n :: ns, .cons h t => by
    cases h
    rw [DaAll.strs t]
    rfl
theorem Da.list_inv {H : Hp} {v : V} {ds : List PyData} (h : Da H v (.list ds)) : ∃ a xs, v = .ref a ∧ H a = some (.lst xs) ∧ DaAll H xs ds := by
  cases h with
  | lst h1 h2 => exact ⟨_, _, rfl, h1, h2⟩
theorem Da.tup_inv {H : Hp} {v : V} {ds : List PyData} (h : Da H v (.tuple ds)) : ∃ a xs, v = .ref a ∧ H a = some (.tup xs) ∧ DaAll H xs ds := by
  cases h with
  | tup h1 h2 => exact ⟨_, _, rfl, h1, h2⟩

/-! ### what is known of a value -/
structure DP where
  p : Hp → V → Prop
  mono : ∀ {H H' : Hp} {v : V}, Same H H' → p H v → p H' v
def da (d : PyData) : DP := ⟨fun H v => Da H v d, fun e h => h.mono e⟩
abbrev dI (i : Int) : DP := da (.int i)
abbrev dB (b : Bool) : DP := da (.bool b)
abbrev dS (x : Str) : DP := da (.str x)
/-- a value itself -/
def cst (v0 : V) : DP := ⟨fun _ v => v = v0, fun _ h => h⟩
/-- one of several -/
def exP {α : Type} (φ : α → Prop) (P : α → DP) : DP := ⟨fun H v => ∃ x, φ x ∧ (P x).p H v, fun e ⟨x, h1, h2⟩ => ⟨x, h1, (P x).mono e h2⟩⟩
/-- a dict with keys of two ints, as it stands -/
def isDT (f : Int → Int → Option V) : DP := ⟨fun H v => ∃ a kvs, v = .ref a ∧ H a = some (.dT kvs) ∧ ∀ i j, valV kvs [.inl i, .inl j] = f i j, fun e ⟨a, k, h1, h2, h3⟩ => ⟨a, k, h1, e _ _ h2, h3⟩⟩
/-- lists of predicates -/
inductive All2 (H : Hp) : List V → List DP → Prop
  | nil : All2 H [] []
  | cons {v : V} {vs : List V} {P : DP} {Ps : List DP} : P.p H v → All2 H vs Ps → All2 H (v :: vs) (P :: Ps)
theorem All2.mono {H H' : Hp} (e : Same H H') : ∀ {vs : List V} {Ps : List DP}, All2 H vs Ps → All2 H' vs Ps
  | _, _, .nil => .nil
  | _, _, .cons h t => .cons (DP.mono _ e h) (All2.mono e t)
theorem All2.len {H : Hp} : ∀ {vs : List V} {Ps : List DP}, All2 H vs Ps → vs.length = Ps.length
  | _, _, .nil => rfl
  | _, _, .cons _ t => congrArg (· + 1) (All2.len t)
theorem All2.da {H : Hp} : ∀ {vs : List V} {ds : List PyData}, All2 H vs (ds.map LK.da) → DaAll H vs ds
  | _, [], .nil => .nil
  | _, _ :: _, .cons h t => .cons h (All2.da t)

/-! ### slots -/
inductive Sl where
  | no
  | pl (P : DP)
  | ol (ds : List PyData)
  | od (n : Nat) (f : Int → Int → Option V)
  | ok (d1 d2 : PyData)
  | ll (t : Bool) (as : List Addr) (dss : List (List PyData))
  | bag
/-- the addresses that a slot's value owns -/
def owned : Sl → V → Addr → Prop
  | .ol _, v, a => v = .ref a
  | .od _ _, v, a => v = .ref a
  | .ok _ _, v, a => v = .ref a
  | .ll _ as _, v, a => v = .ref a ∨ a ∈ as
  | _, _, _ => False
/-- lists that are owned -/
inductive InL (S : AS) (B : Option Addr) (H : Hp) : List Addr → List (List PyData) → Prop
  | nil : InL S B H [] []
  | cons {a : Addr} {as : List Addr} {ds : List PyData} {dss : List (List PyData)} {xs : List V} : S a → B ≠ some a → H a = some (.lst xs) → DaAll (sub H S) xs ds → InL S B H as dss → InL S B H (a :: as) (ds :: dss)
def boxO (t : Bool) (xs : List V) : HO := if t then .tup xs else .lst xs

/-- the bag of a law's draws -/
def BagOk (S : AS) (H : Hp) (b : Addr) : Prop := ∃ (x0 x1 x2 : Int) (c : Addr) (ns : List Int), H b = some (.lst [.int x0, .int x1, .int x2, .ref c]) ∧ 0 ≤ x0 ∧ 0 ≤ x1 ∧ x1 < 2147483647 ∧ 0 ≤ x2 ∧ ¬ S c ∧ H c = some (.lst (ns.map V.int)) ∧ ∀ n ∈ ns, 0 ≤ n
theorem BagOk.same {S : AS} {H H' : Hp} {b : Addr} (e : Same H H') (h : BagOk S H b) : BagOk S H' b := by
  obtain ⟨x0, x1, x2, c, ns, h1, h2, h3, h4, h5, h6, h7, h8⟩ := h
  exact ⟨x0, x1, x2, c, ns, e _ _ h1, h2, h3, h4, h5, h6, e _ _ h7, h8⟩
theorem BagOk.mono {S S' : AS} {H : Hp} {b : Addr} (e : ∀ a, S' a → S a) (h : BagOk S H b) : BagOk S' H b := by
  obtain ⟨x0, x1, x2, c, ns, h1, h2, h3, h4, h5, h6, h7, h8⟩ := h
  exact ⟨x0, x1, x2, c, ns, h1, h2, h3, h4, h5, fun z => h6 (e _ z), h7, h8⟩
/-- all but the bag stands -/
def R (B : Option Addr) (H H' : Hp) : Prop := ∀ a o, H a = some o → (B ≠ some a → H' a = some o) ∧ ∃ o', H' a = some o'
theorem R.refl {B : Option Addr} (H : Hp) : R B H H := fun _ o h => ⟨fun _ => h, o, h⟩
theorem R.of {B : Option Addr} {H H' : Hp} (e : Same H H') : R B H H' := fun a o h => ⟨fun _ => e a o h, o, e a o h⟩
theorem R.trans {B : Option Addr} {H H1 H2 : Hp} (x : R B H H1) (y : R B H1 H2) : R B H H2 := fun a o h => by
  obtain ⟨h1, o1, h2⟩ := x a o h
  obtain ⟨h3, h4⟩ := y a o1 h2
  exact ⟨fun n => (y a o (h1 n)).1 n, h4⟩
structure Cond (S : AS) (B : Option Addr) (H : Hp) : Prop where
  live : ∀ a, S a → ∃ o, H a = some o
  bag : ∀ b, B = some b → S b ∧ BagOk S H b
theorem R.sub {S : AS} {B : Option Addr} {H H' : Hp} (c : Cond S B H) (r : R B H H') : Same (sub H S) (sub H' S) := fun a o h => by
  obtain ⟨h1, h2⟩ := sub_some h
  rw [sub_in h1]
  exact (r a o h2).1 fun e => h1 (c.bag a e).1
theorem Cond.same {S : AS} {B : Option Addr} {H H' : Hp} (c : Cond S B H) (e : Same H H') : Cond S B H' :=
  ⟨fun a h => let ⟨o, q⟩ := c.live a h; ⟨o, e a o q⟩, fun b h => ⟨(c.bag b h).1, (c.bag b h).2.same e⟩⟩
theorem Cond.fresh {S : AS} {B : Option Addr} {H : Hp} (c : Cond S B H) {p : Addr} (h : H p = none) : ¬ S p := fun z => by
  obtain ⟨o, q⟩ := c.live p z
  rw [h] at q
  cases q
theorem same_upd {H : Hp} {p : Addr} {o : HO} (h : H p = none) : Same H (upd H p o) := fun b x e => by
  rw [upd_ne (ne_of_none e h)]
  exact e

def SlE (S : AS) (B : Option Addr) (H : Hp) (v : V) : Sl → Prop
  | .no => True
  | .pl P => P.p (sub H S) v
  | .ol ds => ∃ a xs, v = .ref a ∧ S a ∧ B ≠ some a ∧ H a = some (.lst xs) ∧ DaAll (sub H S) xs ds
  | .od n f => ∃ a kvs, v = .ref a ∧ S a ∧ B ≠ some a ∧ H a = some (.dT kvs) ∧ kvs.length ≤ n ∧ ∀ i j, valV kvs [.inl i, .inl j] = f i j
  | .ok d1 d2 => ∃ a v1 v2, v = .ref a ∧ S a ∧ B ≠ some a ∧ H a = some (.dK [(.inr "L", v1), (.inr "T", v2)]) ∧ Da (sub H S) v1 d1 ∧ Da (sub H S) v2 d2
  | .ll t as dss => ∃ p, v = .ref p ∧ S p ∧ B ≠ some p ∧ H p = some (boxO t (as.map .ref)) ∧ p ∉ as ∧ as.Nodup ∧ InL S B H as dss
  | .bag => ∃ b, B = some b ∧ v = .ref b
/-- the heap goes on; more addresses may be hidden, new ones -/
structure Ext (S : AS) (B : Option Addr) (H : Hp) (S' : AS) (H' : Hp) : Prop where
  up : ∀ a, S a → S' a
  nw : ∀ a, S' a → S a ∨ H a = none
  c0 : Cond S B H
  c : Cond S' B H'
  r : R B H H'
theorem Ext.same {S S' : AS} {B : Option Addr} {H H' : Hp} (e : Ext S B H S' H') : Same (sub H S) (sub H' S') := fun a o h => by
  obtain ⟨h1, h2⟩ := sub_some h
  rw [sub_in fun z => (e.nw a z).elim h1 fun q => by rw [h2] at q; cases q]
  exact (e.r a o h2).1 fun z => h1 (e.c0.bag a z).1
theorem Ext.of {S : AS} {B : Option Addr} {H H' : Hp} (c : Cond S B H) (r : R B H H') (c' : Cond S B H') : Ext S B H S H' := ⟨fun _ z => z, fun _ z => .inl z, c, c', r⟩
theorem Ext.trans {S S1 S2 : AS} {B : Option Addr} {H H1 H2 : Hp} (x : Ext S B H S1 H1) (y : Ext S1 B H1 S2 H2) : Ext S B H S2 H2 :=
  ⟨fun a z => y.up a (x.up a z), fun a z => (y.nw a z).elim (x.nw a) (fun q => by
    cases g : H a with
    | none => exact .inr rfl
    | some o =>
      obtain ⟨_, o', h⟩ := x.r a o g
      rw [q] at h
      cases h), x.c0, y.c, x.r.trans y.r⟩
theorem Ext.low {S S' : AS} {B : Option Addr} {H H' : Hp} (x : Ext S B H S' H') : Cond S B H' :=
  ⟨fun a h => x.c.live a (x.up a h), fun b h => ⟨(x.c0.bag b h).1, (x.c.bag b h).2.mono x.up⟩⟩
theorem InL.ext {S S' : AS} {B : Option Addr} {H H' : Hp} (e : Ext S B H S' H') : ∀ {as : List Addr} {dss : List (List PyData)}, InL S B H as dss → InL S' B H' as dss
  | _, _, .nil => .nil
  | _, _, .cons h1 h2 h3 h4 t => .cons (e.up _ h1) h2 ((e.r _ _ h3).1 h2) (h4.mono e.same) (InL.ext e t)
theorem SlE.ext {S S' : AS} {B : Option Addr} {H H' : Hp} {v : V} {s : Sl} (e : Ext S B H S' H') (h : SlE S B H v s) : SlE S' B H' v s := by
  cases s with
  | no => trivial
  | pl P => exact P.mono e.same h
  | ol ds =>
    obtain ⟨a, xs, h1, h2, h3, h4, h5⟩ := h
    exact ⟨a, xs, h1, e.up _ h2, h3, (e.r _ _ h4).1 h3, h5.mono e.same⟩
  | od n f =>
    obtain ⟨a, k, h1, h2, h3, h4, h5⟩ := h
    exact ⟨a, k, h1, e.up _ h2, h3, (e.r _ _ h4).1 h3, h5⟩
  | ok d1 d2 =>
    obtain ⟨a, v1, v2, h1, h2, h3, h4, h5, h6⟩ := h
    exact ⟨a, v1, v2, h1, e.up _ h2, h3, (e.r _ _ h4).1 h3, h5.mono e.same, h6.mono e.same⟩
  | ll t as dss =>
    obtain ⟨p, h1, h2, h3, h4, h5, h6, h7⟩ := h
    exact ⟨p, h1, e.up _ h2, h3, (e.r _ _ h4).1 h3, h5, h6, h7.ext e⟩
  | bag => exact h
theorem InL.mem {S : AS} {B : Option Addr} {H : Hp} {a : Addr} : ∀ {as : List Addr} {dss : List (List PyData)}, InL S B H as dss → a ∈ as → S a ∧ B ≠ some a ∧ ∃ xs, H a = some (.lst xs)
  | _, _, .nil, h => nomatch h
  | _, _, .cons h1 h2 h3 h4 t, h => by
    rcases List.mem_cons.mp h with z | z
    · exact z ▸ ⟨h1, h2, _, h3⟩
    · exact InL.mem t z
/-- what is owned is hidden, no bag, and lives -/
theorem SlE.own {S : AS} {B : Option Addr} {H : Hp} {v : V} {s : Sl} {a : Addr} (h : SlE S B H v s) (o : owned s v a) : S a ∧ B ≠ some a ∧ ∃ u, H a = some u := by
  cases s with
  | no => exact o.elim
  | pl P => exact o.elim
  | bag => exact o.elim
  | ol ds =>
    obtain ⟨b, xs, rfl, h2, h3, h4, h5⟩ := h
    cases o
    exact ⟨h2, h3, _, h4⟩
  | od n f =>
    obtain ⟨b, k, rfl, h2, h3, h4, h5⟩ := h
    cases o
    exact ⟨h2, h3, _, h4⟩
  | ok d1 d2 =>
    obtain ⟨b, v1, v2, rfl, h2, h3, h4, h5, h6⟩ := h
    cases o
    exact ⟨h2, h3, _, h4⟩
  | ll t as dss =>
    obtain ⟨p, rfl, h2, h3, h4, h5, h6, h7⟩ := h
    rcases o with z | z
    · cases z
      exact ⟨h2, h3, _, h4⟩
    · obtain ⟨q1, q2, xs, q3⟩ := h7.mem z
      exact ⟨q1, q2, _, q3⟩
theorem InL.ups {S : AS} {B : Option Addr} {H : Hp} {q : Addr} {o : HO} (hq : S q) : ∀ {as : List Addr} {dss : List (List PyData)}, InL S B H as dss → q ∉ as → InL S B (upd H q o) as dss
  | _, _, .nil, _ => .nil
  | _, _, .cons h1 h2 h3 h4 t, n => .cons h1 h2 (by rw [upd_ne (fun z => n (by rw [z]; exact List.mem_cons_self))]; exact h3) (by
      have ke : sub (upd H q o) S = sub H S := by
        funext a
        by_cases ha : S a
        · rw [sub_out ha, sub_out ha]
        · rw [sub_in ha, sub_in ha, upd_ne (fun z => ha (by rw [z]; exact hq))]
      rw [ke]; exact h4) (InL.ups hq t fun z => n (List.mem_cons_of_mem _ z))
theorem sub_upd {S : AS} {H : Hp} {q : Addr} {o : HO} (hq : S q) : sub (upd H q o) S = sub H S := by
  funext a
  by_cases ha : S a
  · rw [sub_out ha, sub_out ha]
  · rw [sub_in ha, sub_in ha, upd_ne (fun z => ha (by rw [z]; exact hq))]
/-- a hidden object that a slot does not own is written -/
theorem SlE.wr {S : AS} {B : Option Addr} {H : Hp} {v : V} {s : Sl} {q : Addr} {o : HO} (h : SlE S B H v s) (hq : S q) (n : ¬ owned s v q) : SlE S B (upd H q o) v s := by
  cases s with
  | no => trivial
  | pl P =>
    show P.p (sub (upd H q o) S) v
    rw [sub_upd hq]
    exact h
  | bag => exact h
  | ol ds =>
    obtain ⟨a, xs, h1, h2, h3, h4, h5⟩ := h
    exact ⟨a, xs, h1, h2, h3, by rw [upd_ne (fun z => n (by rw [← z]; exact h1))]; exact h4, by rw [sub_upd hq]; exact h5⟩
  | od m f =>
    obtain ⟨a, k, h1, h2, h3, h4, h5⟩ := h
    exact ⟨a, k, h1, h2, h3, by rw [upd_ne (fun z => n (by rw [← z]; exact h1))]; exact h4, h5⟩
  | ok d1 d2 =>
    obtain ⟨a, v1, v2, h1, h2, h3, h4, h5, h6⟩ := h
    exact ⟨a, v1, v2, h1, h2, h3, by rw [upd_ne (fun z => n (by rw [← z]; exact h1))]; exact h4, by rw [sub_upd hq]; exact h5, by rw [sub_upd hq]; exact h6⟩
  | ll t as dss =>
    obtain ⟨p, h1, h2, h3, h4, h5, h6, h7⟩ := h
    exact ⟨p, h1, h2, h3, by rw [upd_ne (fun z => n (.inl (by rw [← z]; exact h1)))]; exact h4, h5, h6, h7.ups hq fun z => n (.inr z)⟩
theorem SlE.step {S : AS} {B : Option Addr} {H H' : Hp} {v : V} {s : Sl} (c : Cond S B H) (r : R B H H') (c' : Cond S B H') (h : SlE S B H v s) : SlE S B H' v s := h.ext (.of c r c')
structure Slots (S : AS) (B : Option Addr) (H : Hp) (σ : L2.St) (Ps : List Sl) : Prop where
  len : σ.length = Ps.length
  at_ : ∀ (i : Nat) (s : Sl), Ps[i]? = some s → s = .no ∨ ∃ v, σ[i]? = some (some v) ∧ SlE S B H v s
theorem InL.step {S : AS} {B : Option Addr} {H H' : Hp} (c : Cond S B H) (r : R B H H') : ∀ {as : List Addr} {dss : List (List PyData)}, InL S B H as dss → InL S B H' as dss
  | _, _, .nil => .nil
  | _, _, .cons h1 h2 h3 h4 t => .cons h1 h2 ((r _ _ h3).1 h2) (h4.mono (r.sub c)) (InL.step c r t)
theorem SlE.step' {S : AS} {B : Option Addr} {H H' : Hp} {v : V} {s : Sl} (c : Cond S B H) (r : R B H H') (h : SlE S B H v s) : SlE S B H' v s := by
  have c' : Same (sub H S) (sub H' S) := r.sub c
  cases s with
  | no => trivial
  | pl P => exact P.mono c' h
  | ol ds =>
    obtain ⟨a, xs, h1, h2, h3, h4, h5⟩ := h
    exact ⟨a, xs, h1, h2, h3, (r _ _ h4).1 h3, h5.mono c'⟩
  | od n f =>
    obtain ⟨a, k, h1, h2, h3, h4, h5⟩ := h
    exact ⟨a, k, h1, h2, h3, (r _ _ h4).1 h3, h5⟩
  | ok d1 d2 =>
    obtain ⟨a, v1, v2, h1, h2, h3, h4, h5, h6⟩ := h
    exact ⟨a, v1, v2, h1, h2, h3, (r _ _ h4).1 h3, h5.mono c', h6.mono c'⟩
  | ll t as dss =>
    obtain ⟨p, h1, h2, h3, h4, h5, h6, h7⟩ := h
    exact ⟨p, h1, h2, h3, (r _ _ h4).1 h3, h5, h6, h7.step c r⟩
  | bag => exact h
theorem Slots.step {S : AS} {B : Option Addr} {H H' : Hp} {σ : L2.St} {Ps : List Sl} (c : Cond S B H) (r : R B H H') (h : Slots S B H σ Ps) : Slots S B H' σ Ps :=
  ⟨h.len, fun i s e => (h.at_ i s e).imp id fun ⟨v, h1, h2⟩ => ⟨v, h1, h2.step' c r⟩⟩
theorem Slots.ext {S S' : AS} {B : Option Addr} {H H' : Hp} {σ : L2.St} {Ps : List Sl} (e : Ext S B H S' H') (h : Slots S B H σ Ps) : Slots S' B H' σ Ps :=
  ⟨h.len, fun i s g => (h.at_ i s g).imp id fun ⟨v, h1, h2⟩ => ⟨v, h1, h2.ext e⟩⟩
theorem Slots.get {S : AS} {B : Option Addr} {H : Hp} {σ : L2.St} {Ps : List Sl} (h : Slots S B H σ Ps) {i : Nat} {s : Sl} (e : Ps[i]? = some s) (n : s ≠ .no) : ∃ v, σ[i]? = some (some v) ∧ SlE S B H v s :=
  (h.at_ i s e).resolve_left n
theorem Slots.set {S : AS} {B : Option Addr} {H : Hp} {σ : L2.St} {Ps : List Sl} (h : Slots S B H σ Ps) (i : Nat) {v : V} {s : Sl} (q : SlE S B H v s) : Slots S B H (σ.set i (some v)) (Ps.set i s) := by
  refine ⟨by rw [List.length_set, List.length_set, h.len], fun j t e => ?_⟩
  by_cases hj : i = j
  · subst hj
    by_cases hi : i < Ps.length
    · rw [List.getElem?_set_self hi] at e
      cases e
      exact .inr ⟨v, List.getElem?_set_self (by rw [h.len]; exact hi), q⟩
    · rw [List.getElem?_eq_none (by rw [List.length_set]; omega)] at e
      cases e
  · rw [List.getElem?_set_ne hj] at e
    rw [List.getElem?_set_ne hj]
    exact h.at_ j t e
/-- slots forgotten -/
def wipeP (Ps : List Sl) : List Nat → List Sl
  | [] => Ps
  | v :: vs => (wipeP Ps vs).set v .no
theorem Slots.wipe {S : AS} {B : Option Addr} {H : Hp} {σ : L2.St} {Ps : List Sl} (h : Slots S B H σ Ps) : ∀ vs : List Nat, Slots S B H (L2.wipe σ vs) (wipeP Ps vs)
  | [] => h
  | v :: vs => by
    have ih := Slots.wipe h vs
    unfold L2.wipe wipeP
    refine ⟨by rw [List.length_set, List.length_set, ih.len], fun j t e => ?_⟩
    by_cases hj : v = j
    · subst hj
      by_cases hi : v < (wipeP Ps vs).length
      · rw [List.getElem?_set_self hi] at e
        cases e
        exact .inl rfl
      · rw [List.getElem?_eq_none (by rw [List.length_set]; omega)] at e
        cases e
    · rw [List.getElem?_set_ne hj] at e
      rw [List.getElem?_set_ne hj]
      exact ih.at_ j t e
theorem wipe_set {σ : L2.St} {i : Nat} {x : Option V} : ∀ {vs : List Nat}, i ∈ vs → L2.wipe (σ.set i x) vs = L2.wipe σ vs
  | [], h => nomatch h
  | v :: vs, h => by
    unfold L2.wipe
    by_cases e : i ∈ vs
    · rw [wipe_set e]
    · have e2 : i = v := by simpa [e] using h
      subst e2
      have q : ∀ ws : List Nat, i ∉ ws → (L2.wipe (σ.set i x) ws).set i none = (L2.wipe σ ws).set i none := by
        intro ws
        induction ws with
        | nil => intro _; unfold L2.wipe; rw [List.set_set]
        | cons y ys ih =>
          intro hn
          have h1 : i ≠ y := fun z => hn (by simp [z])
          have h2 : i ∉ ys := fun z => hn (by simp [z])
          unfold L2.wipe
          rw [List.set_comm _ _ (Ne.symm h1), ih h2, List.set_comm _ _ h1]
      exact q vs e
theorem wipe_idem (σ : L2.St) : ∀ vs : List Nat, L2.wipe (L2.wipe σ vs) vs = L2.wipe σ vs := by
  intro vs
  have key : ∀ (ws us : List Nat) (τ : L2.St), (∀ x ∈ us, x ∈ ws) → L2.wipe (L2.wipe τ us) ws = L2.wipe τ ws := by
    intro ws us
    induction us with
    | nil => intro τ _; rfl
    | cons y ys ih =>
      intro τ h
      show L2.wipe ((L2.wipe τ ys).set y none) ws = _
      rw [wipe_set (h y (by simp)), ih τ fun x hx => h x (by simp [hx])]
  exact key vs vs σ fun _ h => h

/-! ### the judgements of expressions -/
def JE (te : TE) (Ps : List Sl) (P : DP) : Prop := ∀ (S : AS) (B : Option Addr) (H : Hp) (σ : L2.St), Cond S B H → Slots S B H σ Ps → ∀ Q : VK, (∀ v H', R B H H' → Cond S B H' → P.p (sub H' S) v → Q v H') → te σ H Q
def JA (ta : TA) (Ps : List Sl) (Qs : List DP) : Prop := ∀ (S : AS) (B : Option Addr) (H : Hp) (σ : L2.St), Cond S B H → Slots S B H σ Ps → ∀ Q : List V → Hp → Prop, (∀ vs H', R B H H' → Cond S B H' → All2 (sub H' S) vs Qs → Q vs H') → ta σ H Q
def JT (tt : TT) (Ps : List Sl) (b : Bool) : Prop := ∀ (S : AS) (B : Option Addr) (H : Hp) (σ : L2.St), Cond S B H → Slots S B H σ Ps → ∀ Q : Bool → Hp → Prop, (∀ H', R B H H' → Cond S B H' → Q b H') → tt σ H Q
/-- a test that may be either -/
def JTx (tt : TT) (Ps : List Sl) (φ : Bool → Prop) : Prop := ∀ (S : AS) (B : Option Addr) (H : Hp) (σ : L2.St), Cond S B H → Slots S B H σ Ps → ∀ Q : Bool → Hp → Prop, (∀ b H', R B H H' → Cond S B H' → φ b → Q b H') → tt σ H Q

section
variable {K : PySem.W.Frag} {Ps : List Sl} {ta tb te tc : TE} {tr : TA} {tt tu : TT} {P P' P1 P2 : DP} {i j k : Int} {d e : PyData} {ds es : List PyData} {b c : Bool}
theorem JE.weak (h : JE te Ps P) (w : ∀ H v, P.p H v → P'.p H v) : JE te Ps P' := fun S B H σ c s Q q => h S B H σ c s Q fun v H' r c' p => q v H' r c' (w _ _ p)
theorem JE.eq (h : JE te Ps P) (w : P = P') : JE te Ps P' := w ▸ h
theorem JE.dat (h : JE te Ps (da d)) (w : d = e) : JE te Ps (da e) := w ▸ h
theorem JT.is (h : JT tt Ps b) (w : b = c) : JT tt Ps c := w ▸ h
theorem j_var {n : Nat} (h : Ps[n]? = some (.pl P)) : JE (tVar n) Ps P := fun S B H σ c s Q q => by
  obtain ⟨v, h1, h2⟩ := s.get h (by intro z; cases z)
  exact ⟨v, h1, q v H (R.refl H) c h2⟩
theorem j_int : JE (tC (.int i)) Ps (dI i) := fun S B H σ c s Q q => q _ H (R.refl H) c (.int i)
theorem j_bl : JE (tC (.bl b)) Ps (dB b) := fun S B H σ c s Q q => q _ H (R.refl H) c (.bl b)
theorem j_str {x : Str} : JE (tC (.str x)) Ps (dS x) := fun S B H σ c s Q q => q _ H (R.refl H) c (.str x)
theorem j_non : JE (tC .non) Ps (da .none) := fun S B H σ c s Q q => q _ H (R.refl H) c .non
theorem j_cst {v : V} : JE (tC v) Ps (cst v) := fun S B H σ c s Q q => q _ H (R.refl H) c rfl
/-- an operation on values -/
def RVp (r : R2) (P1 P2 P : DP) : Prop := ∀ (S : AS) (B : Option Addr) (H : Hp) (x y : V), Cond S B H → P1.p (sub H S) x → P2.p (sub H S) y → ∀ Q : VK, (∀ v H', R B H H' → Cond S B H' → P.p (sub H' S) v → Q v H') → r x y H Q
theorem j_op {r : R2} (ha : JE ta Ps P1) (hb : JE tb Ps P2) (hr : RVp r P1 P2 P) : JE (tOp r ta tb) Ps P := fun S B H σ c s Q q =>
  ha S B H σ c s _ fun x H1 r1 c1 p1 => hb S B H1 σ c1 (s.step c r1) _ fun y H2 r2 c2 p2 =>
    hr S B H2 x y c2 (P1.mono (r2.sub c1) p1) p2 Q fun v H3 r3 c3 p3 => q v H3 ((r1.trans r2).trans r3) c3 p3
/-- .. that makes nothing and is told by the data -/
def RVd (r : R2) (d1 d2 d : PyData) : Prop := ∀ (H G : Hp) (x y : V), Same G H → Da G x d1 → Da G y d2 → ∀ Q : VK, (∀ v, Da G v d → Q v H) → r x y H Q
theorem RVd.p {r : R2} {d1 d2 d : PyData} (h : RVd r d1 d2 d) : RVp r (da d1) (da d2) (da d) := fun S B H x y c h1 h2 Q q => h H (sub H S) x y sub_le h1 h2 Q fun v hv => q v H (R.refl H) c hv
theorem rv_I {C : Int → Int → Prop} {g : Int → Int → Int} (hc : C i j) : RVd (rI C fun i j => .int (g i j)) (.int i) (.int j) (.int (g i j)) := fun H G x y _ h1 h2 Q q => by
  cases h1
  cases h2
  exact ⟨i, j, rfl, rfl, hc, q _ (.int _)⟩
theorem rv_I0 {g : Int → Int → Int} : RVd (rI0 fun i j => .int (g i j)) (.int i) (.int j) (.int (g i j)) := fun H G x y _ h1 h2 Q q => by
  cases h1
  cases h2
  exact ⟨i, j, rfl, rfl, q _ (.int _)⟩
theorem rv_B0 {g : Int → Int → Bool} : RVd (rI0 fun i j => .bl (g i j)) (.int i) (.int j) (.bool (g i j)) := fun H G x y _ h1 h2 Q q => by
  cases h1
  cases h2
  exact ⟨i, j, rfl, rfl, q _ (.bl _)⟩
theorem j_I {C : Int → Int → Prop} {g : Int → Int → Int} (ha : JE ta Ps (dI i)) (hb : JE tb Ps (dI j)) (hc : C i j) : JE (tOp (rI C fun i j => .int (g i j)) ta tb) Ps (dI (g i j)) := j_op ha hb (rv_I hc).p
theorem j_I0 {g : Int → Int → Int} (ha : JE ta Ps (dI i)) (hb : JE tb Ps (dI j)) : JE (tOp (rI0 fun i j => .int (g i j)) ta tb) Ps (dI (g i j)) := j_op ha hb rv_I0.p
theorem j_B0 {g : Int → Int → Bool} (ha : JE ta Ps (dI i)) (hb : JE tb Ps (dI j)) : JE (tOp (rI0 fun i j => .bl (g i j)) ta tb) Ps (dB (g i j)) := j_op ha hb rv_B0.p
/-- == of ints, of texts -/
theorem rv_eqI : RVd rEq (.int i) (.int j) (.bool (decide (i = j))) := fun H G x y _ h1 h2 Q q => by
  cases h1
  cases h2
  refine ⟨rfl, ?_⟩
  rw [show decide (V.int i = V.int j) = decide (i = j) by rw [dec_int, Bool.beq_eq_decide_eq]]
  exact q _ (.bl _)
theorem rv_eqS {x y : Str} : RVd rEq (.str x) (.str y) (.bool (decide (x = y))) := fun H G u v _ h1 h2 Q q => by
  cases h1
  cases h2
  refine ⟨rfl, ?_⟩
  rw [show decide (V.str x = V.str y) = decide (x = y) from decide_eq_decide.mpr ⟨fun z => V.str.inj z, fun z => by rw [z]⟩]
  exact q _ (.bl _)
theorem rv_neI : RVd rNe (.int i) (.int j) (.bool (!decide (i = j))) := fun H G x y _ h1 h2 Q q => by
  cases h1
  cases h2
  refine ⟨rfl, ?_⟩
  rw [show decide (V.int i = V.int j) = decide (i = j) by rw [dec_int, Bool.beq_eq_decide_eq]]
  exact q _ (.bl _)
theorem j_eqI (ha : JE ta Ps (dI i)) (hb : JE tb Ps (dI j)) : JE (tOp rEq ta tb) Ps (dB (decide (i = j))) := j_op ha hb rv_eqI.p
theorem j_neI (ha : JE ta Ps (dI i)) (hb : JE tb Ps (dI j)) : JE (tOp rNe ta tb) Ps (dB (!decide (i = j))) := j_op ha hb rv_neI.p
theorem j_eqS {x y : Str} (ha : JE ta Ps (dS x)) (hb : JE tb Ps (dS y)) : JE (tOp rEq ta tb) Ps (dB (decide (x = y))) := j_op ha hb rv_eqS.p
/-- == of data, in -/
theorem j_eqD (ha : JE ta Ps (da d)) (hb : JE tb Ps (da e)) (h1 : SeqAt.shaped d = true) (h2 : SeqAt.shaped e = true) : JE (tOp (rEqD K) ta tb) Ps (dB (PyData.eqv d e)) :=
  j_op ha hb fun S B H x y c p1 p2 Q q => ⟨d, e, (p1.mono sub_le).dp, (p2.mono sub_le).dp, h1, h2, q _ H (R.refl H) c (.bl _)⟩
theorem j_neD (ha : JE ta Ps (da d)) (hb : JE tb Ps (da e)) (h1 : SeqAt.shaped d = true) (h2 : SeqAt.shaped e = true) : JE (tOp (rNeD K) ta tb) Ps (dB (!PyData.eqv d e)) :=
  j_op ha hb fun S B H x y c p1 p2 Q q => ⟨d, e, (p1.mono sub_le).dp, (p2.mono sub_le).dp, h1, h2, q _ H (R.refl H) c (.bl _)⟩
theorem j_inD (ha : JE ta Ps (da d)) (hb : JE tb Ps (da (.list ds))) (h1 : SeqAt.shaped d = true) (h2 : SeqAt.shaped (.list ds) = true) : JE (tOp (rInD K) ta tb) Ps (dB (ds.any fun z => PyData.eqv z d)) :=
  j_op ha hb fun S B H x y c p1 p2 Q q => ⟨d, ds, (p1.mono sub_le).dp, (p2.mono sub_le).dp, h1, h2, q _ H (R.refl H) c (.bl _)⟩
theorem j_notInD (ha : JE ta Ps (da d)) (hb : JE tb Ps (da (.list ds))) (h1 : SeqAt.shaped d = true) (h2 : SeqAt.shaped (.list ds) = true) : JE (tOp (rNotInD K) ta tb) Ps (dB (!ds.any fun z => PyData.eqv z d)) :=
  j_op ha hb fun S B H x y c p1 p2 Q q => ⟨d, ds, (p1.mono sub_le).dp, (p2.mono sub_le).dp, h1, h2, q _ H (R.refl H) c (.bl _)⟩
/-- is None -/
theorem j_isN (ha : JE ta Ps (da d)) : JE (tIsN ta) Ps (dB (match d with | .none => true | _ => false)) := fun S B H σ c s Q q =>
  ha S B H σ c s _ fun v H1 r1 c1 p1 => by
    have p1' : Da (sub H1 S) v d := p1
    cases p1' <;> exact q _ H1 r1 c1 (.bl _)
theorem j_notN (ha : JE ta Ps (da d)) : JE (tNotN ta) Ps (dB (match d with | .none => false | _ => true)) := fun S B H σ c s Q q =>
  ha S B H σ c s _ fun v H1 r1 c1 p1 => by
    have p1' : Da (sub H1 S) v d := p1
    cases p1' <;> exact q _ H1 r1 c1 (.bl _)
/-- a + b of lists -/
theorem j_cat (ha : JE ta Ps (da (.list ds))) (hb : JE tb Ps (da (.list es))) (hz : ds.length + es.length ≤ 100000) : JE (tOp rCat ta tb) Ps (da (.list (ds ++ es))) :=
  j_op ha hb fun S B H x y c p1 p2 Q q => by
    obtain ⟨a, xs, rfl, h1, h2⟩ := Da.list_inv p1
    obtain ⟨b', ys, rfl, h3, h4⟩ := Da.list_inv p2
    refine ⟨a, b', xs, ys, rfl, rfl, (sub_some h1).2, (sub_some h3).2, ?_, fun p hp => ?_⟩
    · rw [h2.len, h4.len]
      exact Nat.le_trans hz (by decide)
    · have e := same_upd (o := .lst (xs ++ ys)) hp
      refine q _ _ (.of e) (c.same e) (.lst ?_ ((h2.append h4).mono (sub_same e)))
      rw [sub_in (c.fresh hp), upd_same]
/-- subscripts: lists, tuples, texts -/
theorem atI_da {H : Hp} {xs : List V} (h : DaAll H xs ds) (ha : atI ds i = some d) : ∃ v, atI xs i = some v ∧ Da H v d := by
  unfold atI at ha ⊢
  rw [h.len]
  cases q : ixN ds.length i with
  | none =>
    rw [q] at ha
    cases ha
  | some j =>
    rw [q] at ha
    exact h.get ha
theorem j_ixL (ha : JE ta Ps (da (.list ds))) (hb : JE tb Ps (dI i)) (h : atI ds i = some d) : JE (tOp (rIx K) ta tb) Ps (da d) := j_op ha hb fun S B H x y c p1 p2 Q q => by
  obtain ⟨a, xs, rfl, h1, h2⟩ := Da.list_inv p1
  obtain ⟨v, h3, h4⟩ := atI_da h2 h
  cases (show Da _ y (.int i) from p2)
  exact .inl ⟨a, xs, i, v, rfl, rfl, SqL.of (sub_some h1).2, h3, q _ H (R.refl H) c h4⟩
theorem j_ixT (ha : JE ta Ps (da (.tuple ds))) (hb : JE tb Ps (dI i)) (h : atI ds i = some d) : JE (tOp (rIx K) ta tb) Ps (da d) := j_op ha hb fun S B H x y c p1 p2 Q q => by
  obtain ⟨a, xs, rfl, h1, h2⟩ := Da.tup_inv p1
  obtain ⟨v, h3, h4⟩ := atI_da h2 h
  cases (show Da _ y (.int i) from p2)
  exact .inr (.inl ⟨a, xs, i, v, rfl, rfl, SqT.of (sub_some h1).2, h3, q _ H (R.refl H) c h4⟩)
theorem j_ixS {z : Str} {u : Nat} (ha : JE ta Ps (dS z)) (hb : JE tb Ps (dI i)) (h : atI z.cps.toList i = some u) (hz : z.length ≤ 100000) : JE (tOp (rIx K) ta tb) Ps (dS ⟨#[u]⟩) := j_op ha hb fun S B H x y c p1 p2 Q q => by
  cases (show Da _ x (.str z) from p1)
  cases (show Da _ y (.int i) from p2)
  exact .inr (.inr ⟨z, i, u, rfl, rfl, Nat.le_trans hz (by decide), h, q _ H (R.refl H) c (.str _)⟩)
/-- of an own list -/
theorem j_ixO {n : Nat} (ha : Ps[n]? = some (.ol ds)) (hb : JE tb Ps (dI i)) (h : atI ds i = some d) : JE (tOp (rIx K) (tVar n) tb) Ps (da d) := fun S B H σ c s Q q => by
  obtain ⟨v, h1, a, xs, rfl, h2, h3, h4, h5⟩ := s.get ha (by intro z; cases z)
  refine ⟨_, h1, hb S B H σ c s _ fun y H1 r1 c1 p1 => ?_⟩
  obtain ⟨v, h6, h7⟩ := atI_da h5 h
  cases (show Da _ y (.int i) from p1)
  exact .inl ⟨a, xs, i, v, rfl, rfl, SqL.of ((r1 _ _ h4).1 h3), h6, q _ H1 r1 c1 (h7.mono (r1.sub c))⟩
/-- slices -/
theorem cutV_da {H : Hp} {xs : List V} (h : DaAll H xs ds) (lo hi : Option Int) : DaAll H (cutV xs lo hi) ((ds.drop (HT.sIx ds.length 0 lo)).take (HT.sIx ds.length ds.length hi - HT.sIx ds.length 0 lo)) := by
  unfold cutV
  rw [h.len]
  exact (h.drop _).take _
def JO (to : TO) (Ps : List Sl) (o : Option Int) : Prop := ∀ (S : AS) (B : Option Addr) (H : Hp) (σ : L2.St), Cond S B H → Slots S B H σ Ps → ∀ Q : Option Int → Hp → Prop, (∀ H', R B H H' → Cond S B H' → Q o H') → to σ H Q
theorem jo_none : JO tNoPart Ps none := fun S B H σ c s Q q => q H (R.refl H) c
theorem jo_some (h : JE te Ps (dI i)) : JO (tPart te) Ps (some i) := fun S B H σ c s Q q => h S B H σ c s _ fun v H1 r1 c1 p1 => by
  cases (show Da _ v (.int i) from p1)
  exact ⟨i, rfl, q H1 r1 c1⟩
def cutD (ds : List PyData) (lo hi : Option Int) : List PyData := (ds.drop (HT.sIx ds.length 0 lo)).take (HT.sIx ds.length ds.length hi - HT.sIx ds.length 0 lo)
theorem j_slL {tl th : TO} {lo hi : Option Int} (ha : JE ta Ps (da (.list ds))) (h1 : JO tl Ps lo) (h2 : JO th Ps hi) : JE (tSl (rSlL K) ta tl th) Ps (da (.list (cutD ds lo hi))) := fun S B H σ c s Q q =>
  ha S B H σ c s _ fun v H1 r1 c1 p1 => h1 S B H1 σ c1 (s.step c r1) _ fun H2 r2 c2 => h2 S B H2 σ c2 ((s.step c r1).step c1 r2) _ fun H3 r3 c3 => by
    obtain ⟨a, xs, rfl, h3, h4⟩ := Da.list_inv (((da (.list ds)).mono (r3.sub c2) ((da (.list ds)).mono (r2.sub c1) p1)))
    refine ⟨a, xs, rfl, SqL.of (sub_some h3).2, fun p hp => ?_⟩
    have e := same_upd (o := .lst (cutV xs lo hi)) hp
    refine q _ _ (((r1.trans r2).trans r3).trans (.of e)) (c3.same e) (.lst ?_ ((cutV_da h4 lo hi).mono (sub_same e)))
    rw [sub_in (c3.fresh hp), upd_same]
theorem j_slO {n : Nat} {tl th : TO} {lo hi : Option Int} (ha : Ps[n]? = some (.ol ds)) (h1 : JO tl Ps lo) (h2 : JO th Ps hi) : JE (tSl (rSlL K) (tVar n) tl th) Ps (da (.list (cutD ds lo hi))) := fun S B H σ c s Q q => by
  obtain ⟨v, h1', a, xs, rfl, h2', h3', h4', h5'⟩ := s.get ha (by intro z; cases z)
  refine ⟨_, h1', h1 S B H σ c s _ fun H2 r2 c2 => h2 S B H2 σ c2 (s.step c r2) _ fun H3 r3 c3 => ⟨a, xs, rfl, SqL.of (((r2.trans r3) _ _ h4').1 h3'), fun p hp => ?_⟩⟩
  have e := same_upd (o := .lst (cutV xs lo hi)) hp
  refine q _ _ ((r2.trans r3).trans (.of e)) (c3.same e) (.lst ?_ ((cutV_da h5' lo hi).mono fun a o z => sub_same e a o ((r2.trans r3).sub c a o z)))
  rw [sub_in (c3.fresh hp), upd_same]
theorem j_slS {z : Str} {tl th : TO} {lo hi : Option Int} (ha : JE ta Ps (dS z)) (h1 : JO tl Ps lo) (h2 : JO th Ps hi) (hz : z.length ≤ 100000) : JE (tSl C8.rSlX ta tl th) Ps (dS (Txt.slice z lo hi)) := fun S B H σ c s Q q =>
  ha S B H σ c s _ fun v H1 r1 c1 p1 => h1 S B H1 σ c1 (s.step c r1) _ fun H2 r2 c2 => h2 S B H2 σ c2 ((s.step c r1).step c1 r2) _ fun H3 r3 c3 => by
    cases (show Da _ v (.str z) from p1)
    exact ⟨z, rfl, Nat.le_trans hz (by decide), q _ H3 ((r1.trans r2).trans r3) c3 (.str _)⟩
/-- + of texts -/
theorem j_catS {x y : Str} (ha : JE ta Ps (dS x)) (hb : JE tb Ps (dS y)) (hz : x.length + y.length ≤ 100000) : JE (tOp (fun x y H Q => ∃ i j, x = V.str i ∧ y = V.str j ∧ i.length + j.length ≤ sizeLine ∧ Q (V.str (i ++ j)) H) ta tb) Ps (dS (x ++ y)) := j_op ha hb fun S B H u v c p1 p2 Q q => by
  cases (show Da _ u (.str x) from p1)
  cases (show Da _ v (.str y) from p2)
  exact ⟨x, y, rfl, rfl, Nat.le_trans hz (by decide), q _ H (R.refl H) c (.str _)⟩
/-! arguments, displays -/
theorem ja_nil : JA tNil Ps [] := fun S B H σ c s Q q => q [] H (R.refl H) c .nil
theorem ja_cons {Qs : List DP} (h : JE te Ps P) (hr : JA tr Ps Qs) : JA (tCons te tr) Ps (P :: Qs) := fun S B H σ c s Q q =>
  h S B H σ c s _ fun v H1 r1 c1 p1 => hr S B H1 σ c1 (s.step c r1) _ fun vs H2 r2 c2 p2 => q _ H2 (r1.trans r2) c2 (.cons (P.mono (r2.sub c1) p1) p2)
/-- .. of data -/
def JD (tr : TA) (Ps : List Sl) (ds : List PyData) : Prop := ∀ (S : AS) (B : Option Addr) (H : Hp) (σ : L2.St), Cond S B H → Slots S B H σ Ps → ∀ Q : List V → Hp → Prop, (∀ vs H', R B H H' → Cond S B H' → DaAll (sub H' S) vs ds → Q vs H') → tr σ H Q
theorem jd_nil : JD tNil Ps [] := fun S B H σ c s Q q => q [] H (R.refl H) c .nil
theorem jd_cons (h : JE te Ps (da d)) (hr : JD tr Ps ds) : JD (tCons te tr) Ps (d :: ds) := fun S B H σ c s Q q =>
  h S B H σ c s _ fun v H1 r1 c1 p1 => hr S B H1 σ c1 (s.step c r1) _ fun vs H2 r2 c2 p2 => q _ H2 (r1.trans r2) c2 (.cons (Da.mono (r2.sub c1) p1) p2)
theorem JD.is {es : List PyData} (h : JD tr Ps ds) (e : ds = es) : JD tr Ps es := e ▸ h
theorem jd_star (h : JE te Ps (da (.list es))) (hr : JD tr Ps ds) : JD (StX.tStar K te tr) Ps (es ++ ds) := fun S B H σ c s Q q =>
  h S B H σ c s _ fun v H1 r1 c1 p1 => by
    obtain ⟨a, xs, rfl, h3, h4⟩ := Da.list_inv p1
    exact ⟨a, xs, rfl, .inr (SqL.of (sub_some h3).2), hr S B H1 σ c1 (s.step c r1) _ fun vs H2 r2 c2 p2 => q _ H2 (r1.trans r2) c2 ((h4.mono (r2.sub c1)).append p2)⟩
theorem j_tup (h : JD tr Ps ds) (hz : ds.length ≤ 100000) : JE (tTup tr) Ps (da (.tuple ds)) := fun S B H σ c s Q q =>
  h S B H σ c s _ fun vs H1 r1 c1 p1 => ⟨by rw [p1.len]; exact Nat.le_trans hz (by decide), fun p hp => by
    have e := same_upd (o := .tup vs) hp
    refine q _ _ (r1.trans (.of e)) (c1.same e) (.tup ?_ (p1.mono (sub_same e)))
    rw [sub_in (c1.fresh hp), upd_same]⟩
theorem j_lst (h : JD tr Ps ds) (hz : ds.length ≤ 100000) : JE (tLst tr) Ps (da (.list ds)) := fun S B H σ c s Q q =>
  h S B H σ c s _ fun vs H1 r1 c1 p1 => ⟨by rw [p1.len]; exact Nat.le_trans hz (by decide), fun p hp => by
    have e := same_upd (o := .lst vs) hp
    refine q _ _ (r1.trans (.of e)) (c1.same e) (.lst ?_ (p1.mono (sub_same e)))
    rw [sub_in (c1.fresh hp), upd_same]⟩
/-! tests and truth values -/
theorem jt_test (h : JE te Ps (dB b)) : JT (tTest te) Ps b := fun S B H σ c s Q q => h S B H σ c s _ fun v H1 r1 c1 p1 => by
  cases (show Da _ v (.bool b) from p1)
  exact ⟨b, rfl, q H1 r1 c1⟩
theorem jt_B (h : JE te Ps (dB b)) : JT (tB te) Ps b := fun S B H σ c s Q q => h S B H σ c s _ fun v H1 r1 c1 p1 => by
  cases (show Da _ v (.bool b) from p1)
  exact ⟨b, rfl, q H1 r1 c1⟩
theorem jt_and (h1 : JT tt Ps b) (h2 : b = true → JT tu Ps c) : JT (tAnd tt tu) Ps (b && c) := fun S B H σ cc s Q q => h1 S B H σ cc s _ fun H1 r1 c1 => by
  cases b with
  | true => exact h2 rfl S B H1 σ c1 (s.step cc r1) Q fun H2 r2 c2 => q H2 (r1.trans r2) c2
  | false => exact q H1 r1 c1
theorem jt_or (h1 : JT tt Ps b) (h2 : b = false → JT tu Ps c) : JT (tOr tt tu) Ps (b || c) := fun S B H σ cc s Q q => h1 S B H σ cc s _ fun H1 r1 c1 => by
  cases b with
  | true => exact q H1 r1 c1
  | false => exact h2 rfl S B H1 σ c1 (s.step cc r1) Q fun H2 r2 c2 => q H2 (r1.trans r2) c2
theorem jt_not (h1 : JT tt Ps b) : JT (tNot tt) Ps (!b) := fun S B H σ cc s Q q => h1 S B H σ cc s _ fun H1 r1 c1 => q H1 r1 c1
theorem j_andV (h1 : JE ta Ps (dB b)) (h2 : b = true → JE tb Ps (dB c)) : JE (tAndV ta tb) Ps (dB (b && c)) := fun S B H σ cc s Q q => h1 S B H σ cc s _ fun v H1 r1 c1 p1 => by
  cases (show Da _ v (.bool b) from p1)
  refine ⟨b, rfl, ?_⟩
  cases b with
  | true => exact h2 rfl S B H1 σ c1 (s.step cc r1) Q fun v H2 r2 c2 p2 => q v H2 (r1.trans r2) c2 p2
  | false => exact q _ H1 r1 c1 (.bl false)
theorem j_orV (h1 : JE ta Ps (dB b)) (h2 : b = false → JE tb Ps (dB c)) : JE (tOrV ta tb) Ps (dB (b || c)) := fun S B H σ cc s Q q => h1 S B H σ cc s _ fun v H1 r1 c1 p1 => by
  cases (show Da _ v (.bool b) from p1)
  refine ⟨b, rfl, ?_⟩
  cases b with
  | true => exact q _ H1 r1 c1 (.bl true)
  | false => exact h2 rfl S B H1 σ c1 (s.step cc r1) Q fun v H2 r2 c2 p2 => q v H2 (r1.trans r2) c2 p2
theorem j_notV (h1 : JE ta Ps (dB b)) : JE (tNotV ta) Ps (dB (!b)) := fun S B H σ cc s Q q => h1 S B H σ cc s _ fun v H1 r1 c1 p1 => by
  cases (show Da _ v (.bool b) from p1)
  exact ⟨b, rfl, q _ H1 r1 c1 (.bl _)⟩
theorem j_if (h : JT tt Ps b) (h1 : b = true → JE ta Ps P) (h2 : b = false → JE tb Ps P) : JE (tIf tt ta tb) Ps P := fun S B H σ cc s Q q => h S B H σ cc s _ fun H1 r1 c1 => by
  cases b with
  | true => exact h1 rfl S B H1 σ c1 (s.step cc r1) Q fun v H2 r2 c2 p2 => q v H2 (r1.trans r2) c2 p2
  | false => exact h2 rfl S B H1 σ c1 (s.step cc r1) Q fun v H2 r2 c2 p2 => q v H2 (r1.trans r2) c2 p2
/-! calls of built-ins by their data -/
def RC (r : List V → Hp → VK → Prop) (ds : List PyData) (d : PyData) : Prop := ∀ (S : AS) (B : Option Addr) (H : Hp) (vs : List V), Cond S B H → DaAll (sub H S) vs ds → ∀ Q : VK, (∀ v H', R B H H' → Cond S B H' → Da (sub H' S) v d → Q v H') → r vs H Q
theorem j_cb {r : List V → Hp → VK → Prop} (h : JD tr Ps ds) (hr : RC r ds d) : JE (tCB r tr) Ps (da d) := fun S B H σ cc s Q q => h S B H σ cc s _ fun vs H1 r1 c1 p1 =>
  hr S B H1 vs c1 p1 Q fun v H2 r2 c2 p2 => q v H2 (r1.trans r2) c2 p2
end
end LK
/-! text K2 -/
namespace LK
open PySem PySem.Spec PyProof.Rows L2

theorem R.none {B : Option Addr} {H H1 : Hp} {a : Addr} (r : R B H H1) (h : H1 a = none) : H a = none := by
  cases g : H a with
  | none => rfl
  | some o =>
    obtain ⟨_, o', q⟩ := r a o g
    rw [h] at q
    cases q
/-! ### the state between statements -/
structure AtS (S0 : AS) (B : Option Addr) (H0 G : Hp) (S : AS) (Ps : List Sl) (σ : L2.St) (H : Hp) : Prop where
  up : ∀ a, S0 a → S a
  bs : ∀ b, B = some b → S0 b
  nw : ∀ a, S a → S0 a ∨ H0 a = none
  cond : Cond S B H
  r : R B H0 H
  sl : Slots S B H σ Ps
  own : ∀ (i : Nat) (s : Sl) (v : V) (a : Addr), Ps[i]? = some s → σ[i]? = some (some v) → owned s v a → ¬ S0 a
  dist : ∀ (i j : Nat) (s t : Sl) (v w : V) (a : Addr), i ≠ j → Ps[i]? = some s → Ps[j]? = some t → σ[i]? = some (some v) → σ[j]? = some (some w) → owned s v a → ¬ owned t w a
  know : Same G (sub H S)
def At (S0 : AS) (B : Option Addr) (H0 G : Hp) (Ps : List Sl) (σ : L2.St) (H : Hp) : Prop := ∃ S, AtS S0 B H0 G S Ps σ H
section
variable {S0 S S' : AS} {B : Option Addr} {H0 G G' H H' : Hp} {Ps Qs : List Sl} {σ : L2.St} {P : DP} {v : V}
theorem AtS.ext (x : AtS S0 B H0 G S Ps σ H) (e : Ext S B H S' H') : AtS S0 B H0 G S' Ps σ H' :=
  ⟨fun a z => e.up a (x.up a z), x.bs, fun a z => (e.nw a z).elim (x.nw a) fun q => .inr (x.r.none q), e.c, x.r.trans e.r, x.sl.ext e, x.own, x.dist, x.know.trans e.same⟩
theorem AtS.step (x : AtS S0 B H0 G S Ps σ H) (r : R B H H') (c : Cond S B H') : AtS S0 B H0 G S Ps σ H' := x.ext (.of x.cond r c)
theorem AtS.at (x : AtS S0 B H0 G S Ps σ H) : At S0 B H0 G Ps σ H := ⟨S, x⟩
/-- nobody's -/
def Free (S0 : AS) (Ps : List Sl) (σ : L2.St) (i : Nat) (a : Addr) : Prop := ¬ S0 a ∧ ∀ (j : Nat) (t : Sl) (w : V), j ≠ i → Ps[j]? = some t → σ[j]? = some (some w) → ¬ owned t w a
theorem AtS.free (x : AtS S0 B H0 G S Ps σ H) {a : Addr} (h : H a = none) (i : Nat) : Free S0 Ps σ i a := ⟨fun z => x.cond.fresh h (x.up a z), fun j t w _ h1 h2 h3 => by
  rcases x.sl.at_ j t h1 with rfl | ⟨v, g1, g2⟩
  · exact h3
  · rw [h2] at g1
    cases g1
    obtain ⟨_, _, u, hu⟩ := g2.own h3
    rw [h] at hu
    cases hu⟩
theorem get_set {α : Type} {l : List α} {i j : Nat} {x y : α} (h : (l.set i x)[j]? = some y) : (j = i ∧ y = x) ∨ (j ≠ i ∧ l[j]? = some y) := by
  by_cases e : i = j
  · subst e
    by_cases hi : i < l.length
    · rw [List.getElem?_set_self hi] at h
      cases h
      exact .inl ⟨rfl, rfl⟩
    · rw [List.getElem?_eq_none (by rw [List.length_set]; omega)] at h
      cases h
  · rw [List.getElem?_set_ne e] at h
    exact .inr ⟨Ne.symm e, h⟩
theorem AtS.put (x : AtS S0 B H0 G S Ps σ H) (i : Nat) {s : Sl} (h : SlE S B H v s) (fr : ∀ a, owned s v a → Free S0 Ps σ i a) : AtS S0 B H0 G S (Ps.set i s) (σ.set i (some v)) H := by
  refine ⟨x.up, x.bs, x.nw, x.cond, x.r, x.sl.set i h, fun j t w a h1 h2 h3 => ?_, fun j k t u w y a n h1 h2 h3 h4 h5 => ?_, x.know⟩
  · rcases get_set h1 with ⟨e1, rfl⟩ | ⟨e1, g1⟩
    · rcases get_set h2 with ⟨_, e2⟩ | ⟨n, _⟩
      · cases e2
        exact (fr a h3).1
      · exact absurd e1 n
    · rcases get_set h2 with ⟨e2, _⟩ | ⟨_, g2⟩
      · exact absurd e2 e1
      · exact x.own j t w a g1 g2 h3
  · rcases get_set h1 with ⟨e1, rfl⟩ | ⟨e1, g1⟩
    · rcases get_set h3 with ⟨_, e2⟩ | ⟨n, _⟩
      · cases e2
        subst e1
        rcases get_set h2 with ⟨e3, _⟩ | ⟨e3, g3⟩
        · exact absurd e3.symm n
        · rcases get_set h4 with ⟨e4, _⟩ | ⟨_, g4⟩
          · exact absurd e4.symm n
          · exact (fr a h5).2 k u y e3 g3 g4
      · exact absurd e1 n
    · rcases get_set h3 with ⟨e2, _⟩ | ⟨_, g2⟩
      · exact absurd e2 e1
      · rcases get_set h2 with ⟨e3, rfl⟩ | ⟨e3, g3⟩
        · rcases get_set h4 with ⟨_, e4⟩ | ⟨e4, _⟩
          · cases e4
            exact fun z => (fr a z).2 j t w e1 g1 g2 h5
          · exact absurd e3 e4
        · rcases get_set h4 with ⟨e4, _⟩ | ⟨_, g4⟩
          · exact absurd e4 e3
          · exact x.dist j k t u w y a n g1 g3 g2 g4 h5
theorem AtS.set (x : AtS S0 B H0 G S Ps σ H) (i : Nat) (h : P.p (sub H S) v) : AtS S0 B H0 G S (Ps.set i (.pl P)) (σ.set i (some v)) H :=
  x.put i (s := .pl P) h fun _ z => z.elim
/-- a value with new objects of its own -/
theorem AtS.extPut (x : AtS S0 B H0 G S Ps σ H) (e : Ext S B H S' H') (i : Nat) {s : Sl} (h : SlE S' B H' v s) (fr : ∀ a, owned s v a → H a = none) : AtS S0 B H0 G S' (Ps.set i s) (σ.set i (some v)) H' :=
  (x.ext e).put i h fun a z => x.free (fr a z) i
/-- an own object is written -/
theorem AtS.wr {s s' : Sl} {p : Addr} {o : HO} (x : AtS S0 B H0 G S Ps σ H) {i : Nat} (ho : Ps[i]? = some s) (hi : σ[i]? = some (some v)) (hp : owned s v p) (hs : SlE S B (upd H p o) v s') (hso : ∀ a, owned s' v a → owned s v a ∨ Free S0 Ps σ i a) : AtS S0 B H0 G S (Ps.set i s') σ (upd H p o) := by
  have hsl : SlE S B H v s := by
    rcases x.sl.at_ i s ho with rfl | ⟨w, g1, g2⟩
    · exact hp.elim
    · rw [hi] at g1
      cases g1
      exact g2
  obtain ⟨hS, hB, u, hu⟩ := hsl.own hp
  have n0 : ¬ S0 p := x.own i s v p ho hi hp
  have h0 : H0 p = none := (x.nw p hS).resolve_left n0
  have hlen : i < Ps.length := (List.getElem?_eq_some_iff.mp ho).1
  have rr : R B H0 (upd H p o) := fun a u h => by
    have na : a ≠ p := ne_of_none h h0
    rw [upd_ne na]
    exact x.r a u h
  refine ⟨x.up, x.bs, x.nw, ⟨fun a h => ?_, fun b h => ⟨(x.cond.bag b h).1, by
    obtain ⟨x0, x1, x2, c, ns, h1, h2, h3, h4, h5, h6, h7, h8⟩ := (x.cond.bag b h).2
    have nb : b ≠ p := fun z => hB (by rw [← z]; exact h)
    have nc : c ≠ p := fun z => h6 (by rw [z]; exact hS)
    exact ⟨x0, x1, x2, c, ns, by rw [upd_ne nb]; exact h1, h2, h3, h4, h5, h6, by rw [upd_ne nc]; exact h7, h8⟩⟩⟩, rr, ⟨by rw [List.length_set]; exact x.sl.len, fun j t h => ?_⟩, fun j t w a h1 h2 h3 => ?_, fun j k t y w z a n h1 h2 h3 h4 h5 => ?_, by rw [sub_upd hS]; exact x.know⟩
  · by_cases ea : a = p
    · exact ⟨o, by rw [ea, upd_same]⟩
    · rw [upd_ne ea]
      exact x.cond.live a h
  · rcases get_set h with ⟨rfl, rfl⟩ | ⟨e1, g1⟩
    · exact .inr ⟨_, hi, hs⟩
    · refine (x.sl.at_ j t g1).imp id fun ⟨w, h1, h2⟩ => ⟨w, h1, h2.wr hS fun z => ?_⟩
      exact x.dist i j s t v w p (Ne.symm e1) ho g1 hi h1 hp z
  · rcases get_set h1 with ⟨rfl, rfl⟩ | ⟨e1, g1⟩
    · rw [hi] at h2
      cases h2
      rcases hso a h3 with q | q
      · exact x.own _ s v a ho hi q
      · exact q.1
    · exact x.own j t w a g1 h2 h3
  · rcases get_set h1 with ⟨rfl, rfl⟩ | ⟨e1, g1⟩
    · rw [hi] at h3
      cases h3
      rcases get_set h2 with ⟨e, _⟩ | ⟨e3, g3⟩
      · exact absurd e.symm n
      · rcases hso a h5 with q | q
        · exact x.dist _ k s y v z a n ho g3 hi h4 q
        · exact q.2 k y z e3 g3 h4
    · rcases get_set h2 with ⟨rfl, rfl⟩ | ⟨e3, g3⟩
      · rw [hi] at h4
        cases h4
        intro q'
        rcases hso a q' with q | q
        · exact x.dist _ j s t v w a (Ne.symm e1) ho g1 hi h3 q h5
        · exact q.2 j t w e1 g1 h3 h5
      · exact x.dist j k t y w z a n g1 g3 h3 h4 h5
/-! ### the judgement of statements -/
structure Fin (S0 : AS) (B : Option Addr) (H0 : Hp) (P : DP) (v : V) (H : Hp) : Prop where
  cond : Cond S0 B H
  r : R B H0 H
  p : P.p (sub H S0) v
theorem AtS.fin (x : AtS S0 B H0 G S Ps σ H) (h : P.p (sub H S) v) : Fin S0 B H0 P v H :=
  ⟨⟨fun a h => x.cond.live a (x.up a h), fun b h => ⟨x.bs b h, (x.cond.bag b h).2.mono x.up⟩⟩, x.r, P.mono (sub_mono x.up) h⟩
/-- an own object is let go to what stands -/
theorem AtS.freeze {s : Sl} {i : Nat} (x : AtS S0 B H0 G S Ps σ H) (ho : Ps[i]? = some s) (hi : σ[i]? = some (some v)) (hs : SlE S B H v s) (h : ∀ S' : AS, (∀ a, S' a → S a) → (∀ a, S' a → ¬ owned s v a) → P.p (sub H S') v) : At S0 B H0 G (Ps.set i (.pl P)) σ H := by
  have hlen : i < Ps.length := (List.getElem?_eq_some_iff.mp ho).1
  have e : ∀ j t w, j ≠ i → Ps[j]? = some t → σ[j]? = some (some w) → SlE S B H w t → SlE (fun a => S a ∧ ¬ owned s v a) B H w t := fun j t w n h1 h2 h3 => by
    have ks : Same (sub H S) (sub H fun a => S a ∧ ¬ owned s v a) := sub_mono fun a z => z.1
    have no : ∀ a, owned t w a → ¬ owned s v a := fun a z => x.dist j i t s w v a n h1 ho h2 hi z
    cases t with
    | no => trivial
    | pl P => exact P.mono ks h3
    | bag => exact h3
    | ol ds =>
      obtain ⟨a, xs, g1, g2, g3, g4, g5⟩ := h3
      exact ⟨a, xs, g1, ⟨g2, no a g1⟩, g3, g4, g5.mono ks⟩
    | od m f =>
      obtain ⟨a, k, g1, g2, g3, g4, g5⟩ := h3
      exact ⟨a, k, g1, ⟨g2, no a g1⟩, g3, g4, g5⟩
    | ok d1 d2 =>
      obtain ⟨a, v1, v2, g1, g2, g3, g4, g5, g6⟩ := h3
      exact ⟨a, v1, v2, g1, ⟨g2, no a g1⟩, g3, g4, g5.mono ks, g6.mono ks⟩
    | ll b as dss =>
      obtain ⟨p, g1, g2, g3, g4, g5, g6, g7⟩ := h3
      refine ⟨p, g1, ⟨g2, no p (.inl g1)⟩, g3, g4, g5, g6, ?_⟩
      have il : ∀ {as : List Addr} {dss : List (List PyData)}, InL S B H as dss → (∀ a ∈ as, ¬ owned s v a) → InL (fun a => S a ∧ ¬ owned s v a) B H as dss := by
        intro as dss q
        exact InL.rec (motive := fun as dss _ => (∀ a ∈ as, ¬ owned s v a) → InL (fun a => S a ∧ ¬ owned s v a) B H as dss) (fun _ => .nil) (fun h1 h2 h3 h4 _ ih n => .cons ⟨h1, n _ List.mem_cons_self⟩ h2 h3 (h4.mono ks) (ih fun a z => n a (List.mem_cons_of_mem _ z))) q
      exact il g7 fun a z => no a (.inr z)
  refine ⟨fun a => S a ∧ ¬ owned s v a, fun a h => ⟨x.up a h, fun z => x.own i s v a ho hi z h⟩, x.bs, fun a h => x.nw a h.1, ⟨fun a h => x.cond.live a h.1, fun b h => ⟨⟨(x.cond.bag b h).1, fun z => ?_⟩, (x.cond.bag b h).2.mono fun a z => z.1⟩⟩, x.r, ⟨by rw [List.length_set]; exact x.sl.len, fun j t g => ?_⟩, fun j t w a h1 h2 h3 => ?_, fun j k t y w z a n h1 h2 h3 h4 h5 => ?_, x.know.trans (sub_mono fun a z => z.1)⟩
  · exact (hs.own z).2.1 h
  · rcases get_set g with ⟨rfl, rfl⟩ | ⟨e1, g1⟩
    · exact .inr ⟨_, hi, h _ (fun a z => z.1) fun a z => z.2⟩
    · exact (x.sl.at_ j t g1).imp id fun ⟨w, h1, h2⟩ => ⟨w, h1, e j t w e1 g1 h1 h2⟩
  · rcases get_set h1 with ⟨_, rfl⟩ | ⟨e1, g1⟩
    · exact h3.elim
    · exact x.own j t w a g1 h2 h3
  · rcases get_set h1 with ⟨_, rfl⟩ | ⟨e1, g1⟩
    · exact h5.elim
    · rcases get_set h2 with ⟨_, rfl⟩ | ⟨e2, g2⟩
      · exact fun q => q
      · exact x.dist j k t y w z a n g1 g2 h3 h4 h5
/-- slots forgotten -/
def PsLe : List Sl → List Sl → Prop
  | [], [] => True
  | s :: ss, t :: ts => (t = .no ∨ t = s) ∧ PsLe ss ts
  | _, _ => False
theorem PsLe.refl : ∀ Ps : List Sl, PsLe Ps Ps
  | [] => trivial
  | _ :: r => ⟨.inr rfl, PsLe.refl r⟩
theorem PsLe.len : ∀ {Ps Qs : List Sl}, PsLe Ps Qs → Ps.length = Qs.length
  | [], [], _ => rfl
  | _ :: _, _ :: _, h => congrArg (· + 1) (PsLe.len h.2)
  | [], _ :: _, h => h.elim
  | _ :: _, [], h => h.elim
theorem PsLe.get : ∀ {Ps Qs : List Sl}, PsLe Ps Qs → ∀ {i : Nat} {t : Sl}, Qs[i]? = some t → t = .no ∨ Ps[i]? = some t
  | [], [], _, i, t, e => by simp at e
  | s :: ss, t' :: ts, h, 0, t, e => by
    simp at e
    subst e
    exact h.1.imp id fun z => by rw [z]; rfl
  | s :: ss, t' :: ts, h, i + 1, t, e => by
    simp only [List.getElem?_cons_succ] at e ⊢
    exact PsLe.get h.2 e
  | [], _ :: _, h, _, _, _ => h.elim
  | _ :: _, [], h, _, _, _ => h.elim
theorem AtS.weak (x : AtS S0 B H0 G S Ps σ H) (w : PsLe Ps Qs) : AtS S0 B H0 G S Qs σ H := by
  have ow : ∀ {i : Nat} {s : Sl} {v : V} {a : Addr}, Qs[i]? = some s → owned s v a → Ps[i]? = some s := fun {i s v a} h1 h2 => (w.get h1).resolve_left (by intro z; subst z; exact h2)
  refine ⟨x.up, x.bs, x.nw, x.cond, x.r, ⟨by rw [x.sl.len, w.len], fun i s e => ?_⟩, fun i s v a h1 h2 h3 => x.own i s v a (ow h1 h3) h2 h3, fun i j s t v w a n h1 h2 h3 h4 h5 h6 => x.dist i j s t v w a n (ow h1 h5) (ow h2 h6) h3 h4 h5 h6, x.know⟩
  rcases w.get e with z | z
  · exact .inl z
  · exact x.sl.at_ i s z
end
abbrev NP := List Sl → Prop
/-- a statement, from slots Ps: it goes on with slots that N tells, or hands back what P tells -/
def JS (t : TS) (Ps : List Sl) (N : NP) (P : DP) : Prop := ∀ (S0 : AS) (B : Option Addr) (H0 G : Hp) (D : Ends) (σ : L2.St) (H : Hp), At S0 B H0 G Ps σ H →
  (∀ Qs σ' H', N Qs → At S0 B H0 G Qs σ' H' → D.nx σ' H') → (∀ v H', Fin S0 B H0 P v H' → D.rt v H') → t D σ H
/-- slots, and such as know more -/
def Wk (N : NP) : NP := fun Ps => ∃ Qs, PsLe Ps Qs ∧ N Qs
def Is (Ps : List Sl) : NP := fun Qs => Qs = Ps
def Nev : NP := fun _ => False
section
variable {Ps Qs : List Sl} {N N' : NP} {P P1 P2 P3 P4 : DP} {t u : TS} {ta tb te tl : TE} {tr : TA} {tt : TT} {d : PyData} {ds : List PyData} {b : Bool}
theorem JS.weak (h : JS t Qs N P) (w : PsLe Ps Qs) : JS t Ps N P := fun S0 B H0 G D σ H ⟨S, x⟩ n r => h S0 B H0 G D σ H ⟨S, x.weak w⟩ n r
theorem JS.imp (h : JS t Ps N P) (w : ∀ Qs, N Qs → N' Qs) : JS t Ps N' P := fun S0 B H0 G D σ H x n r => h S0 B H0 G D σ H x (fun Qs σ' H' q => n Qs σ' H' (w Qs q)) r
theorem JS.wk (h : JS t Ps N P) : JS t Ps (Wk N) P := h.imp fun Qs q => ⟨Qs, .refl _, q⟩
theorem JS.unwk (h : JS t Ps (Wk N) P) : JS t Ps N P := fun S0 B H0 G D σ H x n r => h S0 B H0 G D σ H x (fun Qs σ' H' ⟨Rs, w, q⟩ ⟨S, y⟩ => n Rs σ' H' q ⟨S, y.weak w⟩) r
theorem JS.out (h : JS t Ps N P1) (w : P1 = P) : JS t Ps N P := w ▸ h
theorem JS.outw (h : JS t Ps N P1) (w : ∀ H v, P1.p H v → P.p H v) : JS t Ps N P := fun S0 B H0 G D σ H x n r => h S0 B H0 G D σ H x n fun v H' f => r v H' ⟨f.cond, f.r, w _ _ f.p⟩
theorem js_next : JS tNext Ps (Is Ps) P := fun S0 B H0 G D σ H x n r => n Ps σ H rfl x
theorem js_seq (h : JS t Ps N' P) (k : ∀ Qs, N' Qs → JS u Qs N P) : JS (tSeq t u) Ps N P := fun S0 B H0 G D σ H x n r =>
  h S0 B H0 G { D with nx := u D } σ H x (fun Qs σ' H' q y => k Qs q S0 B H0 G D σ' H' y n r) r
theorem js_then (h : JS t Ps (Is Qs) P) (k : JS u Qs N P) : JS (tSeq t u) Ps N P := js_seq h fun _ q => q ▸ k
theorem js_asg {i : Nat} (h : JE te Ps P1) : JS (tAsg te (gName i)) Ps (Is (Ps.set i (.pl P1))) P := fun S0 B H0 G D σ H ⟨S, x⟩ n r =>
  h S B H σ x.cond x.sl _ fun v H1 r1 c1 p1 => n _ _ _ rfl ⟨S, (x.step r1 c1).set i p1⟩
/-- a value of which one is told: the rest for each -/
theorem js_asgX {α : Type} {φ : α → Prop} {Pf : α → DP} {i : Nat} (h : JE te Ps (exP φ Pf)) : JS (tAsg te (gName i)) Ps (fun Qs => ∃ x, φ x ∧ Qs = Ps.set i (.pl (Pf x))) P := fun S0 B H0 G D σ H ⟨S, x⟩ n r =>
  h S B H σ x.cond x.sl _ fun v H1 r1 c1 ⟨y, p1, p2⟩ => n _ _ _ ⟨y, p1, rfl⟩ ⟨S, (x.step r1 c1).set i p2⟩
theorem js_ret (h : JE te Ps P) : JS (tRet te) Ps N P := fun S0 B H0 G D σ H ⟨S, x⟩ n r =>
  h S B H σ x.cond x.sl _ fun v H1 r1 c1 p1 => r v H1 ((x.step r1 c1).fin p1)
theorem js_if (h : JT tt Ps b) (h1 : b = true → JS t Ps N P) (h2 : b = false → JS u Ps N P) : JS (tIfS tt t u) Ps N P := fun S0 B H0 G D σ H ⟨S, x⟩ n r =>
  h S B H σ x.cond x.sl _ fun H1 r1 c1 => by
    cases b with
    | true => exact h1 rfl S0 B H0 G D σ H1 ⟨S, x.step r1 c1⟩ n r
    | false => exact h2 rfl S0 B H0 G D σ H1 ⟨S, x.step r1 c1⟩ n r
theorem js_ifx {φ : Bool → Prop} (h : JTx tt Ps φ) (h1 : φ true → JS t Ps N P) (h2 : φ false → JS u Ps N P) : JS (tIfS tt t u) Ps N P := fun S0 B H0 G D σ H ⟨S, x⟩ n r =>
  h S B H σ x.cond x.sl _ fun b H1 r1 c1 p1 => by
    cases b with
    | true => exact h1 p1 S0 B H0 G D σ H1 ⟨S, x.step r1 c1⟩ n r
    | false => exact h2 p1 S0 B H0 G D σ H1 ⟨S, x.step r1 c1⟩ n r
theorem js_drop (h : JE te Ps P1) : JS (tDrop te) Ps (Is Ps) P := fun S0 B H0 G D σ H ⟨S, x⟩ n r =>
  h S B H σ x.cond x.sl _ fun v H1 r1 c1 p1 => n _ _ _ rfl ⟨S, x.step r1 c1⟩
/-! own objects -/
/-- an expression whose value has new objects of its own -/
def JN (te : TE) (Ps : List Sl) (s : Sl) : Prop := ∀ (S : AS) (B : Option Addr) (H : Hp) (σ : L2.St), Cond S B H → Slots S B H σ Ps → ∀ Q : VK, (∀ v H' S', Ext S B H S' H' → SlE S' B H' v s → (∀ a, owned s v a → H a = none) → Q v H') → te σ H Q
/-- .. expressions -/
inductive OwL (S : AS) (B : Option Addr) (H0 H : Hp) : List V → List Sl → Prop
  | nil : OwL S B H0 H [] []
  | cons {v : V} {vs : List V} {s : Sl} {ss : List Sl} : SlE S B H v s → (∀ a, owned s v a → H0 a = none) → (∀ a, owned s v a → ∀ (i : Nat) (t : Sl) (w : V), ss[i]? = some t → vs[i]? = some w → ¬ owned t w a) → OwL S B H0 H vs ss → OwL S B H0 H (v :: vs) (s :: ss)
def JAX (tr : TA) (Ps : List Sl) (ss : List Sl) : Prop := ∀ (S : AS) (B : Option Addr) (H : Hp) (σ : L2.St), Cond S B H → Slots S B H σ Ps → ∀ Q : List V → Hp → Prop, (∀ vs H' S', Ext S B H S' H' → OwL S' B H H' vs ss → Q vs H') → tr σ H Q
theorem OwL.get {S : AS} {B : Option Addr} {H0 H : Hp} : ∀ {vs : List V} {ss : List Sl} {i : Nat} {t : Sl} {w : V}, OwL S B H0 H vs ss → ss[i]? = some t → vs[i]? = some w → SlE S B H w t ∧ ∀ a, owned t w a → H0 a = none
  | _, _, _, _, _, .nil, h, _ => by simp at h
  | _, _, 0, _, _, .cons h1 h2 _ _, e, g => by
    simp at e g
    subst e g
    exact ⟨h1, h2⟩
  | _, _, i + 1, _, _, .cons _ _ _ t, e, g => OwL.get (i := i) t (by simpa using e) (by simpa using g)
theorem OwL.back {S : AS} {B : Option Addr} {H0 H1 H : Hp} (r : R B H0 H1) : ∀ {vs : List V} {ss : List Sl}, OwL S B H1 H vs ss → OwL S B H0 H vs ss
  | _, _, .nil => .nil
  | _, _, .cons h1 h2 h3 t => .cons h1 (fun a z => r.none (h2 a z)) h3 (OwL.back r t)
theorem jn_pl (h : JE te Ps P) : JN te Ps (.pl P) := fun S B H σ c s Q q => h S B H σ c s Q fun v H' r c' p => q v H' S (.of c r c') p fun _ z => z.elim
theorem jn_newL : JN (tLst tNil) Ps (.ol []) := fun S B H σ c s Q q => ⟨Nat.zero_le _, fun p hp => by
  have e := same_upd (o := .lst []) hp
  have nS := c.fresh hp
  have hb : B ≠ some p := fun z => nS (c.bag p z).1
  refine q _ _ (fun a => S a ∨ a = p) ⟨fun a z => .inl z, fun a z => z.imp id fun e => by rw [e]; exact hp, c, ⟨fun a h => ?_, fun b h => ⟨.inl (c.bag b h).1, ?_⟩⟩, .of e⟩ ⟨p, [], rfl, .inr rfl, hb, upd_same, .nil⟩ fun a z => by cases z; exact hp
  · by_cases ea : a = p
    · exact ⟨_, by rw [ea, upd_same]⟩
    · obtain ⟨u, hu⟩ := c.live a (h.resolve_right ea)
      exact ⟨u, by rw [upd_ne ea]; exact hu⟩
  · obtain ⟨x0, x1, x2, cc, ns, h1, h2, h3, h4, h5, h6, h7, h8⟩ := (c.bag b h).2
    exact ⟨x0, x1, x2, cc, ns, e _ _ h1, h2, h3, h4, h5, fun z => z.elim h6 (ne_of_none h7 hp), e _ _ h7, h8⟩⟩
/-- one new object -/
theorem Ext.new {S : AS} {B : Option Addr} {H : Hp} {p : Addr} {o : HO} (c : Cond S B H) (hp : H p = none) : Ext S B H (fun a => S a ∨ a = p) (upd H p o) := by
  have e := same_upd (o := o) hp
  have nS := c.fresh hp
  refine ⟨fun a z => .inl z, fun a z => z.imp id fun e => by rw [e]; exact hp, c, ⟨fun a h => ?_, fun b h => ⟨.inl (c.bag b h).1, ?_⟩⟩, .of e⟩
  · by_cases ea : a = p
    · exact ⟨_, by rw [ea, upd_same]⟩
    · obtain ⟨u, hu⟩ := c.live a (h.resolve_right ea)
      exact ⟨u, by rw [upd_ne ea]; exact hu⟩
  · obtain ⟨x0, x1, x2, cc, ns, h1, h2, h3, h4, h5, h6, h7, h8⟩ := (c.bag b h).2
    exact ⟨x0, x1, x2, cc, ns, e _ _ h1, h2, h3, h4, h5, fun z => z.elim h6 (ne_of_none h7 hp), e _ _ h7, h8⟩
theorem Cond.nb {S : AS} {B : Option Addr} {H : Hp} {p : Addr} (c : Cond S B H) (hp : H p = none) : B ≠ some p := fun z => c.fresh hp (c.bag p z).1
theorem jn_newD : JN tDNewT Ps (.od 0 fun _ _ => none) := fun S B H σ c s Q q => fun p hp =>
  q _ _ _ (.new c hp) ⟨p, [], rfl, .inr rfl, c.nb hp, upd_same, Nat.le_refl 0, fun _ _ => rfl⟩ fun a z => by cases z; exact hp
theorem jax_nil : JAX tNil Ps [] := fun S B H σ c s Q q => q [] H S (.of c (.refl H) c) .nil
theorem jax_cons {s : Sl} {ss : List Sl} (h : JN te Ps s) (hr : JAX tr Ps ss) : JAX (tCons te tr) Ps (s :: ss) := fun S B H σ c sl Q q =>
  h S B H σ c sl _ fun v H1 S1 e1 p1 f1 => hr S1 B H1 σ e1.c (sl.ext e1) _ fun vs H2 S2 e2 p2 => q _ H2 S2 (e1.trans e2) (.cons (p1.ext e2) f1 (fun a z i t w g1 g2 g3 => by
    obtain ⟨_, _, u, hu⟩ := p1.own z
    rw [(p2.get g1 g2).2 a g3] at hu
    cases hu) (p2.back e1.r))
theorem js_asgN {i : Nat} {s : Sl} (h : JN te Ps s) : JS (tAsg te (gName i)) Ps (Is (Ps.set i s)) P := fun S0 B H0 G D σ H ⟨S, x⟩ n r =>
  h S B H σ x.cond x.sl _ fun v H1 S1 e1 p1 f1 => n _ _ _ rfl ⟨S1, x.extPut e1 i p1 f1⟩
theorem js_newL {i : Nat} : JS (tAsg (tLst tNil) (gName i)) Ps (Is (Ps.set i (.ol []))) P := js_asgN jn_newL
def setSl (Ps : List Sl) : List Nat → List Sl → List Sl
  | i :: is, s :: ss => setSl (Ps.set i s) is ss
  | _, _ => Ps
def setVs (σ : L2.St) : List Nat → List V → L2.St
  | i :: is, v :: vs => setVs (σ.set i (some v)) is vs
  | _, _ => σ
theorem AtS.puts {S0 S : AS} {B : Option Addr} {H0 H1 G H : Hp} : ∀ {is : List Nat} {vs : List V} {ss Ps : List Sl} {σ : L2.St}, AtS S0 B H0 G S Ps σ H → is.Nodup → OwL S B H1 H vs ss → (∀ a, H1 a = Option.none → ∀ i ∈ is, ∀ (k : Nat) (t : Sl) (w : V), ss[k]? = some t → vs[k]? = some w → owned t w a → Free S0 Ps σ i a) → AtS S0 B H0 G S (setSl Ps is ss) (setVs σ is vs) H
  | [], _, _, _, _, x, _, o, _ => by cases o <;> exact x
  | _ :: _, _, _, _, _, x, _, .nil, _ => x
  | i :: is, _, _, Ps, σ, x, n, @OwL.cons _ _ _ _ v vs s ss h1 h2 h3 t, fr => by
    show AtS S0 B H0 G S (setSl (Ps.set i s) is ss) (setVs (σ.set i (some v)) is vs) H
    refine AtS.puts (H1 := H1) (x.put i h1 fun a z => fr a (h2 a z) i List.mem_cons_self 0 s v rfl rfl z) (List.nodup_cons.mp n).2 t fun a ha j hj k u w g1 g2 z => ?_
    have nij : j ≠ i := fun e => (List.nodup_cons.mp n).1 (e ▸ hj)
    obtain ⟨q1, q2⟩ := fr a ha j (List.mem_cons_of_mem _ hj) (k + 1) u w (by simpa using g1) (by simpa using g2) z
    refine ⟨q1, fun l y b nl e1 e2 => ?_⟩
    rcases get_set e1 with ⟨rfl, rfl⟩ | ⟨e3, e4⟩
    · rcases get_set e2 with ⟨_, e5⟩ | ⟨e5, _⟩
      · cases e5
        exact fun z' => h3 a z' k u w g1 g2 z
      · exact absurd rfl e5
    · rcases get_set e2 with ⟨e5, _⟩ | ⟨_, e6⟩
      · exact absurd e5 e3
      · exact q2 l y b nl e4 e6
theorem OwL.len {S : AS} {B : Option Addr} {H0 H : Hp} : ∀ {vs : List V} {ss : List Sl}, OwL S B H0 H vs ss → vs.length = ss.length
  | _, _, .nil => rfl
  | _, _, .cons _ _ _ t => congrArg (· + 1) (OwL.len t)
/-- several names at once -/
theorem js_parN {x y : Nat} {s1 s2 : Sl} (h : JAX tr Ps [s1, s2]) (n : x ≠ y) : JS (tPar x y tr) Ps (Is ((Ps.set x s1).set y s2)) P := fun S0 B H0 G D σ H ⟨S, z⟩ nx r =>
  h S B H σ z.cond z.sl _ fun vs H1 S1 e1 p1 => by
    have q := (z.ext e1).puts (is := [x, y]) (H1 := H) (by simp [n]) p1 fun a ha i _ k t w g1 g2 g3 => z.free ha i
    match vs, p1.len with
    | [u, v], _ => exact ⟨u, v, rfl, nx _ _ _ rfl ⟨S1, q⟩⟩
theorem js_par3N {x y w : Nat} {s1 s2 s3 : Sl} (h : JAX tr Ps [s1, s2, s3]) (n : [x, y, w].Nodup) : JS (tPar3 x y w tr) Ps (Is (((Ps.set x s1).set y s2).set w s3)) P := fun S0 B H0 G D σ H ⟨S, z⟩ nx r =>
  h S B H σ z.cond z.sl _ fun vs H1 S1 e1 p1 => by
    have q := (z.ext e1).puts (is := [x, y, w]) (H1 := H) n p1 fun a ha i _ k t w g1 g2 g3 => z.free ha i
    match vs, p1.len with
    | [u, v, t], _ => exact ⟨u, v, t, rfl, nx _ _ _ rfl ⟨S1, q⟩⟩
/-- names in a tuple, some of the values own -/
def gNs : List Nat → L2.TGs
  | [] => gNil
  | i :: is => gCons (gName i) (gNs is)
theorem gNs_run {K : PySem.W.Frag} {Q : L2.St → Hp → Prop} {H : Hp} : ∀ {is : List Nat} {vs : List V} {σ : L2.St}, vs.length = is.length → Q (setVs σ is vs) H → gNs is vs σ H Q
  | [], [], σ, _, q => ⟨rfl, q⟩
  | i :: is, v :: vs, σ, e, q => ⟨v, vs, rfl, gNs_run (K := K) (is := is) (vs := vs) (by simpa using e) q⟩
theorem js_asgTN {K : PySem.W.Frag} {is : List Nat} {ss : List Sl} {n : Nat} (h : JAX tr Ps ss) (hn : is.Nodup) (hl : is.length = n) (hs : ss.length = n) (hz : n ≤ 100000) : JS (tAsg (tTup tr) (gTup K n (gNs is))) Ps (Is (setSl Ps is ss)) P := fun S0 B H0 G D σ H ⟨S, z⟩ nx r =>
  h S B H σ z.cond z.sl _ fun vs H1 S1 e1 p1 => ⟨by rw [p1.len, hs]; exact Nat.le_trans hz (by decide), fun p hp => by
    have es := same_upd (o := .tup vs) hp
    have ep : Ext S1 B H1 S1 (upd H1 p (.tup vs)) := .of e1.c (.of es) (e1.c.same es)
    have q := (z.ext e1).puts (is := is) (H1 := H) hn p1 fun a ha i _ k t w g1 g2 g3 => z.free ha i
    show gTup K n (gNs is) (.ref p) σ (upd H1 p (.tup vs)) D.nx
    exact ⟨p, vs, rfl, SqT.of upd_same, by rw [p1.len, hs], gNs_run (K := K) (by rw [p1.len, hs, hl]) (nx _ _ _ rfl ⟨S1, q.ext ep⟩)⟩⟩
theorem js_app {i : Nat} {K : PySem.W.Frag} (hi : Ps[i]? = some (.ol ds)) (h : JE te Ps (da d)) (hz : ds.length < 100000) : JS (tDrop (tBM K "list" rAppend (tVar i) (tCons te tNil))) Ps (Is (Ps.set i (.ol (ds ++ [d])))) P := fun S0 B H0 G D σ H ⟨S, x⟩ n r => by
  obtain ⟨v, h1, a, xs, rfl, h2, h3, h4, h5⟩ := x.sl.get hi (by intro z; cases z)
  refine ⟨_, h1, .inl ⟨rfl, xs, SqL.of h4⟩, h S B H σ x.cond x.sl _ fun y H1 r1 c1 p1 => ?_⟩
  have x1 := x.step r1 c1
  have h4' := (r1 _ _ h4).1 h3
  refine ⟨a, xs, y, rfl, rfl, h4', by rw [h5.len]; exact Nat.lt_of_lt_of_le hz (by decide), ?_⟩
  refine n _ _ _ rfl ⟨S, x1.wr hi h1 (s' := .ol (ds ++ [d])) rfl ⟨a, xs ++ [y], rfl, h2, h3, upd_same, ?_⟩ fun b z => .inl z⟩
  rw [sub_upd h2]
  exact (h5.mono (r1.sub x.cond)).append (.cons p1 .nil)
/-- an own list goes to what stands -/
theorem js_freeze {i : Nat} (hi : Ps[i]? = some (.ol ds)) (h : JS t (Ps.set i (.pl (da (.list ds)))) N P) : JS t Ps N P := fun S0 B H0 G D σ H ⟨S, x⟩ n r => by
  obtain ⟨v, h1, h0⟩ := x.sl.get hi (by intro z; cases z)
  have h0' := h0
  obtain ⟨a, xs, rfl, h2, h3, h4, h5⟩ := h0
  exact h S0 B H0 G D σ H (x.freeze hi h1 h0' fun S' w n' => .lst (by rw [sub_in fun z => n' a z rfl]; exact h4) (h5.mono (sub_mono w))) n r
/-! lists of own lists -/
theorem InL.all {S : AS} {B : Option Addr} {H : Hp} {S' : AS} : ∀ {as : List Addr} {dss : List (List PyData)}, InL S B H as dss → (∀ a, S' a → S a) → (∀ a ∈ as, ¬ S' a) → DaAll (sub H S') (as.map .ref) (dss.map .list)
  | _, _, .nil, _, _ => .nil
  | _, _, .cons h1 h2 h3 h4 t, w, n => .cons (.lst (by rw [sub_in (n _ List.mem_cons_self)]; exact h3) (h4.mono (sub_mono w))) (InL.all t w fun a z => n a (List.mem_cons_of_mem _ z))
theorem js_freezeLL {i : Nat} {b : Bool} {as : List Addr} {dss : List (List PyData)} (hi : Ps[i]? = some (.ll b as dss)) (h : JS t (Ps.set i (.pl (da (if b then .tuple (dss.map .list) else .list (dss.map .list))))) N P) : JS t Ps N P := fun S0 B H0 G D σ H ⟨S, x⟩ n r => by
  obtain ⟨v, h1, h0⟩ := x.sl.get hi (by intro z; cases z)
  have h0' := h0
  obtain ⟨p, rfl, h2, h3, h4, h5, h6, h7⟩ := h0
  refine h S0 B H0 G D σ H (x.freeze hi h1 h0' fun S' w n' => ?_) n r
  have al := h7.all w fun a z1 z2 => n' a z2 (.inr z1)
  have hp := sub_in (H := H) fun z => n' p z (.inl rfl)
  cases b with
  | true => exact .tup (hp.trans h4) al
  | false => exact .lst (hp.trans h4) al
theorem OwL.inl {S : AS} {B : Option Addr} {H0 H : Hp} : ∀ {vs : List V} {dss : List (List PyData)}, OwL S B H0 H vs (dss.map .ol) → ∃ as : List Addr, vs = as.map .ref ∧ as.Nodup ∧ InL S B H as dss ∧ ∀ a ∈ as, H0 a = Option.none
  | _, [], .nil => ⟨[], rfl, .nil, .nil, fun _ h => nomatch h⟩
  | _, ds :: dss, .cons h1 h2 h3 t => by
    obtain ⟨as, rfl, e2, e3, e4⟩ := OwL.inl t
    obtain ⟨a, xs, rfl, g2, g3, g4, g5⟩ := h1
    refine ⟨a :: as, rfl, List.nodup_cons.mpr ⟨fun z => ?_, e2⟩, .cons g2 g3 g4 g5 e3, fun b hb => ?_⟩
    · obtain ⟨k, hk, hk2⟩ := List.getElem_of_mem z
      have hl : k < dss.length := by
        have := t.len
        rw [List.length_map, List.length_map] at this
        omega
      exact h3 a rfl k (.ol dss[k]) (.ref a) (by rw [List.getElem?_map, List.getElem?_eq_getElem hl]; rfl) (by rw [List.getElem?_map, List.getElem?_eq_getElem hk, hk2]; rfl) rfl
    · rcases List.mem_cons.mp hb with rfl | z
      · exact h2 _ rfl
      · exact e4 b z
theorem InL.len {S : AS} {B : Option Addr} {H : Hp} : ∀ {as : List Addr} {dss : List (List PyData)}, InL S B H as dss → as.length = dss.length
  | _, _, .nil => rfl
  | _, _, .cons _ _ _ _ t => congrArg (· + 1) (InL.len t)
theorem js_newLs {i : Nat} {dss : List (List PyData)} (h : JAX tr Ps (dss.map .ol)) (hz : dss.length ≤ 100000) : JS (tAsg (tLst tr) (gName i)) Ps (fun Qs => ∃ as, as.length = dss.length ∧ as.Nodup ∧ Qs = Ps.set i (.ll false as dss)) P := fun S0 B H0 G D σ H ⟨S, x⟩ n r =>
  h S B H σ x.cond x.sl _ fun vs H1 S1 e1 p1 => ⟨by rw [p1.len, List.length_map]; exact Nat.le_trans hz (by decide), fun p hp => by
    obtain ⟨as, rfl, e2, e3, e4⟩ := p1.inl
    have np : p ∉ as := fun z => by
      obtain ⟨_, _, xs, q⟩ := e3.mem z
      rw [hp] at q
      cases q
    have e5 : Ext S1 B H1 _ (upd H1 p (.lst (as.map .ref))) := .new e1.c hp
    exact n _ _ _ ⟨as, e3.len, e2, rfl⟩ ⟨_, x.extPut (e1.trans e5) i (s := .ll false as dss) ⟨p, rfl, .inr rfl, e1.c.nb hp, upd_same, np, e2, e3.ext e5⟩ fun a z => z.elim (fun z => by cases z; exact e1.r.none hp) (e4 a)⟩⟩
theorem js_newTs {i : Nat} {dss : List (List PyData)} (h : JAX tr Ps (dss.map .ol)) (hz : dss.length ≤ 100000) : JS (tAsg (tTup tr) (gName i)) Ps (fun Qs => ∃ as, as.length = dss.length ∧ as.Nodup ∧ Qs = Ps.set i (.ll true as dss)) P := fun S0 B H0 G D σ H ⟨S, x⟩ n r =>
  h S B H σ x.cond x.sl _ fun vs H1 S1 e1 p1 => ⟨by rw [p1.len, List.length_map]; exact Nat.le_trans hz (by decide), fun p hp => by
    obtain ⟨as, rfl, e2, e3, e4⟩ := p1.inl
    have np : p ∉ as := fun z => by
      obtain ⟨_, _, xs, q⟩ := e3.mem z
      rw [hp] at q
      cases q
    have e5 : Ext S1 B H1 _ (upd H1 p (.tup (as.map .ref))) := .new e1.c hp
    exact n _ _ _ ⟨as, e3.len, e2, rfl⟩ ⟨_, x.extPut (e1.trans e5) i (s := .ll true as dss) ⟨p, rfl, .inr rfl, e1.c.nb hp, upd_same, np, e2, e3.ext e5⟩ fun a z => z.elim (fun z => by cases z; exact e1.r.none hp) (e4 a)⟩⟩
end
end LK
/-! text K3 -/
namespace LK
open PySem PySem.Spec PyProof.Rows L2

/-! ### promises -/
/-- a def that changes nothing that stood -/
def PureSp {α : Type} (ins : α → List DP) (pre : α → Prop) (out : α → DP) : Sp := fun vs H Q _ => ∃ (S : AS) (x : α), (∀ a, S a → ∃ o, H a = some o) ∧ pre x ∧ All2 (sub H S) vs (ins x) ∧ ∀ v H', Same H H' → (out x).p (sub H' S) v → Q v H'
/-- a def that draws from the bag, its first argument -/
def DrawSp {α : Type} (ins : α → List DP) (pre : α → Prop) (out : α → DP) : Sp := fun vs H Q _ => ∃ (S : AS) (b : Addr) (x : α) (us : List V), vs = .ref b :: us ∧ Cond S (some b) H ∧ pre x ∧ All2 (sub H S) us (ins x) ∧ ∀ v H', R (some b) H H' → Cond S (some b) H' → (out x).p (sub H' S) v → Q v H'
section
variable {K : PySem.W.Frag} {Ps Qs : List Sl} {N N' : NP} {P P1 P2 P3 P4 : DP} {t u : TS} {ta tb te tl : TE} {tr : TA} {tt : TT} {d d1 d2 d3 d4 : PyData} {ds es : List PyData} {b c : Bool} {i j k : Int} {E : XK}
theorem j_call {α : Type} {ins : α → List DP} {pre : α → Prop} {out : α → DP} (x : α) (h : JA tr Ps (ins x)) (hp : pre x) : JE (tCall (PureSp ins pre out) [] E tr) Ps (out x) := fun S B H σ c s Q q =>
  h S B H σ c s _ fun vs H1 r1 c1 p1 => ⟨S, x, c1.live, hp, by rw [List.append_nil]; exact p1, fun v H2 e2 p2 => q v H2 (r1.trans (.of e2)) (c1.same e2) p2⟩
/-- its first argument an own list that is read -/
theorem j_draw {α : Type} {ins : α → List DP} {pre : α → Prop} {out : α → DP} {n : Nat} (x : α) (hb : Ps[n]? = some .bag) (h : JA tr Ps (ins x)) (hp : pre x) : JE (tCall (DrawSp ins pre out) [] E (tCons (tVar n) tr)) Ps (out x) := fun S B H σ c s Q q => by
  obtain ⟨v, h1, a, rfl, rfl⟩ := s.get hb (by intro z; cases z)
  exact ⟨_, h1, h S _ H σ c s _ fun vs H1 r1 c1 p1 => ⟨S, a, x, vs, by rw [List.append_nil], c1, hp, p1, fun v H2 r2 c2 p2 => q v H2 (r1.trans r2) c2 p2⟩⟩
/-- the value of a def that was drawn, told for each -/
theorem JE.ex {α : Type} {φ : α → Prop} {Pf : α → DP} (x : α) (hx : φ x) (h : JE te Ps (Pf x)) : JE te Ps (exP φ Pf) := h.weak fun H v p => ⟨x, hx, p⟩

def slotsOf (Ps : List DP) (n : Nat) : List Sl := Ps.map .pl ++ List.replicate n .no
theorem all2_get {H : Hp} : ∀ {vs : List V} {Ps : List DP} {i : Nat} {P : DP}, All2 H vs Ps → Ps[i]? = some P → ∃ v, vs[i]? = some v ∧ P.p H v
  | _, _, _, _, .nil, h => by simp at h
  | _, _, 0, d, .cons h _, e => by simp at e; subst e; exact ⟨_, rfl, h⟩
  | _, _, i + 1, d, .cons _ t, e => by
    obtain ⟨v, h1, h2⟩ := all2_get (i := i) (P := d) t (by simpa using e)
    exact ⟨v, by simpa using h1, h2⟩
theorem start_get {N : List Str} {vs : List V} {i : Nat} {v : V} (h : vs[i]? = some v) : (start N vs)[i]? = some (some v) := by
  unfold L2.start
  rw [List.getElem?_append_left (by rw [List.length_map]; exact (List.getElem?_eq_some_iff.mp h).1), List.getElem?_map, h]
  rfl
theorem slots_start {S : AS} {B : Option Addr} {H : Hp} {vs : List V} {Ps : List DP} {N : List Str} {n : Nat} (h : All2 (sub H S) vs Ps) (hn : N.length = Ps.length + n) : Slots S B H (start N vs) (slotsOf Ps n) := by
  have hl := h.len
  refine ⟨?_, fun i s e => ?_⟩
  · unfold L2.start slotsOf
    rw [List.length_append, List.length_map, List.length_replicate, List.length_append, List.length_map, List.length_replicate]
    omega
  · unfold slotsOf at e
    by_cases hi : i < Ps.length
    · rw [List.getElem?_append_left (by rw [List.length_map]; exact hi), List.getElem?_map, List.getElem?_eq_getElem hi] at e
      cases e
      obtain ⟨v, h1, h2⟩ := all2_get h (List.getElem?_eq_getElem hi)
      exact .inr ⟨v, start_get h1, h2⟩
    · rw [List.getElem?_append_right (by rw [List.length_map]; omega), List.getElem?_replicate] at e
      split at e
      · cases e
        exact .inl rfl
      · cases e
theorem noown {Ps : List DP} {n i : Nat} {s : Sl} {v : V} {a : Addr} (h1 : (slotsOf Ps n)[i]? = some s) (h2 : owned s v a) : False := by
  unfold slotsOf at h1
  have hm := List.mem_of_getElem? h1
  rcases List.mem_append.mp hm with z | z
  · obtain ⟨P, _, rfl⟩ := List.mem_map.mp z
    exact h2
  · have := List.eq_of_mem_replicate z
    subst this
    exact h2
/-- the body of such a def -/
theorem body_pure {α : Type} {ins : α → List DP} {pre : α → Prop} {out : α → DP} {n : Nat} {N : List Str} {vs : List V} {H : Hp} {Q : VK} (hn : ∀ x : α, N.length = (ins x).length + n) (h : ∀ x : α, pre x → JS t (slotsOf (ins x) n) Nev (out x)) (hs : PureSp ins pre out vs H Q E) :
    t { nx := fun _ H' => Q .non H', rt := Q } (start N vs) H := by
  obtain ⟨S, x, l, p, a, q⟩ := hs
  refine h x p S none H (sub H S) _ _ H ⟨S, fun a z => z, (fun b z => nomatch z), fun a z => .inl z, ⟨l, (fun b z => nomatch z)⟩, .refl H, slots_start a (hn x), fun i s v a h1 _ h3 => (noown h1 h3).elim, fun i j s t v w a _ h1 _ _ _ h3 => (noown h1 h3).elim, .refl _⟩ (fun Qs σ' H' z => z.elim) fun v H' f => q v H' (fun a o e => (f.r a o e).1 (fun z => nomatch z)) f.p
theorem slots_bag {S : AS} {b : Addr} {H : Hp} {us : List V} {Ps : List DP} {N : List Str} {n : Nat} (h : All2 (sub H S) us Ps) (hn : N.length = Ps.length + 1 + n) : Slots S (some b) H (start N (.ref b :: us)) (.bag :: slotsOf Ps n) := by
  have q := slots_start (S := S) (B := some b) (H := H) (N := N.tail) (n := n) h (by rw [List.length_tail]; omega)
  have e : start N (.ref b :: us) = some (.ref b) :: start N.tail us := by
    unfold L2.start
    rw [List.map_cons, List.cons_append, List.length_cons, List.length_tail]
    congr 3
    omega
  rw [e]
  refine ⟨by rw [List.length_cons, List.length_cons, q.len], fun i s g => ?_⟩
  cases i with
  | zero =>
    simp at g
    subst g
    exact .inr ⟨_, rfl, b, rfl, rfl⟩
  | succ i =>
    simp only [List.getElem?_cons_succ] at g ⊢
    exact q.at_ i s g
theorem noownB {Ps : List DP} {n i : Nat} {s : Sl} {v : V} {a : Addr} (h1 : (.bag :: slotsOf Ps n)[i]? = some s) (h2 : owned s v a) : False := by
  cases i with
  | zero =>
    simp at h1
    subst h1
    exact h2
  | succ i => exact noown (by simpa using h1) h2
theorem body_draw {α : Type} {ins : α → List DP} {pre : α → Prop} {out : α → DP} {n : Nat} {N : List Str} {vs : List V} {H : Hp} {Q : VK} (hn : ∀ x : α, N.length = (ins x).length + 1 + n) (h : ∀ x : α, pre x → JS t (.bag :: slotsOf (ins x) n) Nev (out x)) (hs : DrawSp ins pre out vs H Q E) :
    t { nx := fun _ H' => Q .non H', rt := Q } (start N vs) H := by
  obtain ⟨S, b, x, us, rfl, c, p, a, q⟩ := hs
  refine h x p S (some b) H (sub H S) _ _ H ⟨S, fun a z => z, fun b' z => by cases z; exact (c.bag b rfl).1, fun a z => .inl z, c, .refl H, slots_bag a (hn x), fun i s v a h1 _ h3 => (noownB h1 h3).elim, fun i j s t v w a _ h1 _ _ _ h3 => (noownB h1 h3).elim, .refl _⟩ (fun Qs σ' H' z => z.elim) fun v H' f => q v H' f.r f.cond f.p

/-! ### targets -/
def setV (σ : L2.St) : List Nat → List V → L2.St
  | i :: is, v :: vs => setV (σ.set i (some v)) is vs
  | _, _ => σ
def setS (Ps : List Sl) : List Nat → List PyData → List Sl
  | i :: is, d :: ds => setS (Ps.set i (.pl (da d))) is ds
  | _, _ => Ps
def TG (g : TG) (d : PyData) (is : List Nat) (es : List PyData) : Prop := ∀ (G H : Hp) (σ : L2.St) (x : V), Same G H → Da G x d → ∀ Q : L2.St → Hp → Prop, (∀ vs, DaAll G vs es → Q (setV σ is vs) H) → g x σ H Q
def TGs (g : TGs) (ds : List PyData) (is : List Nat) (es : List PyData) : Prop := ∀ (G H : Hp) (σ : L2.St) (xs : List V), Same G H → DaAll G xs ds → ∀ Q : L2.St → Hp → Prop, (∀ vs, DaAll G vs es → Q (setV σ is vs) H) → g xs σ H Q
theorem tg_name {i : Nat} : TG (gName i) d [i] [d] := fun G H σ x e h Q q => q [x] (.cons h .nil)
theorem tgs_nil : TGs gNil [] [] [] := fun G H σ xs e h Q q => by
  cases h
  exact ⟨rfl, q [] .nil⟩
theorem tgs_name {i : Nat} {g : L2.TGs} {is : List Nat} (h : TGs g ds is es) : TGs (gCons (gName i) g) (d :: ds) (i :: is) (d :: es) := fun G H σ xs e hx Q q => by
  cases hx with
  | cons h1 h2 => exact ⟨_, _, rfl, h G H _ _ e h2 Q fun vs hv => q (_ :: vs) (.cons h1 hv)⟩
theorem tg_tup {g : L2.TGs} {n : Nat} {is : List Nat} (h : TGs g ds is es) (hn : ds.length = n) : TG (gTup K n g) (.tuple ds) is es := fun G H σ x e hx Q q => by
  obtain ⟨a, xs, rfl, h1, h2⟩ := Da.tup_inv hx
  exact ⟨a, xs, rfl, SqT.of (e _ _ h1), by rw [h2.len, hn], h G H σ xs e h2 Q q⟩
theorem tg_2 {i j : Nat} : TG (gTup K 2 (gCons (gName i) (gCons (gName j) gNil))) (.tuple [d1, d2]) [i, j] [d1, d2] := tg_tup (tgs_name (tgs_name tgs_nil)) rfl
theorem Slots.setAll {S : AS} {B : Option Addr} {H : Hp} : ∀ {is : List Nat} {vs : List V} {es : List PyData} {σ : L2.St} {Ps : List Sl}, Slots S B H σ Ps → DaAll (sub H S) vs es → Slots S B H (setV σ is vs) (setS Ps is es)
  | [], _, _, _, _, h, a => by cases a <;> exact h
  | i :: is, _, _, _, _, h, .nil => h
  | i :: is, _, _, σ, Ps, h, @DaAll.cons _ v vs d es h1 h2 => by
    show Slots S B H (setV (σ.set i (some v)) is vs) (setS (Ps.set i (.pl (da d))) is es)
    exact Slots.setAll (h.set i (s := .pl (da _)) h1) h2
theorem AtS.setAll {S0 : AS} {B : Option Addr} {H0 G : Hp} {S : AS} {H : Hp} : ∀ {is : List Nat} {vs : List V} {es : List PyData} {σ : L2.St} {Ps : List Sl}, AtS S0 B H0 G S Ps σ H → DaAll (sub H S) vs es → AtS S0 B H0 G S (setS Ps is es) (setV σ is vs) H
  | [], _, _, _, _, h, a => by cases a <;> exact h
  | i :: is, _, _, _, _, h, .nil => h
  | i :: is, _, _, σ, Ps, h, @DaAll.cons _ v vs d es h1 h2 => by
    show AtS S0 B H0 G S (setS (Ps.set i (.pl (da d))) is es) (setV (σ.set i (some v)) is vs) H
    exact AtS.setAll (h.set i (P := da _) h1) h2
theorem wipe_setV {vs : List Nat} : ∀ {is : List Nat} {xs : List V} {σ : L2.St}, (∀ i ∈ is, i ∈ vs) → L2.wipe (setV σ is xs) vs = L2.wipe σ vs
  | [], xs, σ, _ => by cases xs <;> rfl
  | i :: is, [], σ, _ => rfl
  | i :: is, x :: xs, σ, h => by
    show L2.wipe (setV (σ.set i (some x)) is xs) vs = _
    rw [wipe_setV fun j hj => h j (by simp [hj]), wipe_set (h i (by simp))]
theorem js_asgT {g : L2.TG} {is : List Nat} (h : JE te Ps (da d)) (hg : TG g d is es) : JS (tAsg te g) Ps (Is (setS Ps is es)) P := fun S0 B H0 G D σ H ⟨S, x⟩ n r =>
  h S B H σ x.cond x.sl _ fun v H1 r1 c1 p1 => hg (sub H1 S) H1 σ v sub_le p1 _ fun vs hv => n _ _ _ rfl ⟨S, (x.step r1 c1).setAll hv⟩

/-! ### walks -/
def JW (wi : TI) (Ps : List Sl) (ds : List PyData) : Prop := ∀ (S : AS) (B : Option Addr) (H : Hp) (σ : L2.St), Cond S B H → Slots S B H σ Ps → ∀ Rr : It → Hp → Prop,
  (∀ (J : It) (H1 : Hp) (G : Hp → Prop) (Y : Nat → Hp → V → Hp → Prop), R B H H1 → Cond S B H1 → Walk J ds.length G Y → (∀ H', Same (sub H1 S) H' → G H') →
    (∀ i H' x H'', i < ds.length → Same (sub H1 S) H' → Y i H' x H'' → Same H' H'' ∧ ∃ d, ds[i]? = some d ∧ ∀ S' : AS, (∀ a, S' a → ∃ o, H' a = some o) → (∀ a, S' a → S a ∨ H1 a = none) → Da (sub H'' S') x d) → Rr J H1) → wi σ H Rr
theorem known_at {S S' : AS} {H1 H' : Hp} (e : Same (sub H1 S) H') (w : ∀ a, S' a → S a ∨ H1 a = none) : Same (sub H1 S) (sub H' S') := fun a o h => by
  obtain ⟨h1, h2⟩ := sub_some h
  rw [sub_in fun z => (w a z).elim h1 fun q => by rw [h2] at q; cases q]
  exact e a o h
theorem jw_list (h : JE tl Ps (da (.list ds))) : JW (iList K tl) Ps ds := fun S B H σ c s Rr q => h S B H σ c s _ fun v H1 r1 c1 p1 => by
  obtain ⟨a, xs, rfl, h1, h2⟩ := Da.list_inv p1
  refine ⟨a, rfl, ⟨xs, SqL.of (sub_some h1).2⟩, q (Itl K a) H1 _ _ r1 c1 (h2.len ▸ walk_list (K := K) (a := a) (xs := xs)) (fun H' e => SqL.of (e _ _ h1)) fun i H' x H'' hi e y => ?_⟩
  obtain ⟨rfl, hx⟩ := y
  obtain ⟨d, hd, hv⟩ := h2.getv hx
  exact ⟨.refl _, d, hd, fun S' l w => hv.mono (known_at e w)⟩
theorem jw_tup (h : JE tl Ps (da (.tuple ds))) : JW (iTup K tl) Ps ds := fun S B H σ c s Rr q => h S B H σ c s _ fun v H1 r1 c1 p1 => by
  obtain ⟨a, xs, rfl, h1, h2⟩ := Da.tup_inv p1
  refine ⟨a, rfl, ⟨xs, SqT.of (sub_some h1).2⟩, q (Itt K a) H1 _ _ r1 c1 (h2.len ▸ walk_tup (K := K) (a := a) (xs := xs)) (fun H' e => SqT.of (e _ _ h1)) fun i H' x H'' hi e y => ?_⟩
  obtain ⟨rfl, hx⟩ := y
  obtain ⟨d, hd, hv⟩ := h2.getv hx
  exact ⟨.refl _, d, hd, fun S' l w => hv.mono (known_at e w)⟩
theorem jd_1 {x : V} {d1 : PyData} {H : Hp} {vs : List V} (h : DaAll H vs [d1]) : ∃ v, vs = [v] ∧ Da H v d1 := by
  cases h with
  | cons h1 h2 =>
    cases h2
    exact ⟨_, rfl, h1⟩
theorem daAll1 {d1 : PyData} {H : Hp} {vs : List V} (h : DaAll H vs [d1]) : ∃ v, vs = [v] ∧ Da H v d1 := by
  cases h with
  | cons h1 h2 =>
    cases h2
    exact ⟨_, rfl, h1⟩
theorem daAll2 {d1 d2 : PyData} {H : Hp} {vs : List V} (h : DaAll H vs [d1, d2]) : ∃ v w, vs = [v, w] ∧ Da H v d1 ∧ Da H w d2 := by
  cases h with
  | cons h1 h2 =>
    obtain ⟨w, rfl, h3⟩ := daAll1 h2
    exact ⟨_, _, rfl, h1, h3⟩
theorem daAll3 {d1 d2 d3 : PyData} {H : Hp} {vs : List V} (h : DaAll H vs [d1, d2, d3]) : ∃ v w x, vs = [v, w, x] ∧ Da H v d1 ∧ Da H w d2 ∧ Da H x d3 := by
  cases h with
  | cons h1 h2 =>
    obtain ⟨w, x, rfl, h3, h4⟩ := daAll2 h2
    exact ⟨_, _, _, rfl, h1, h3, h4⟩
def irng (n : Nat) (f : Nat → Int) : List PyData := (List.range n).map fun i => .int (f i)
theorem irng_len (n : Nat) (f : Nat → Int) : (irng n f).length = n := by unfold irng; rw [List.length_map, List.length_range]
theorem irng_get {n : Nat} {f : Nat → Int} {i : Nat} (h : i < n) : (irng n f)[i]? = some (.int (f i)) := by
  unfold irng
  rw [List.getElem?_map, List.getElem?_range h]
  rfl
theorem jw_fn {J : It} {n : Nat} {f : Nat → Int} {S : AS} {H1 : Hp} {Rr : It → Hp → Prop} (w : Walk J n (fun _ => True) (YFn fun i => .int (f i)))
    (q : ∀ (G : Hp → Prop) (Y : Nat → Hp → V → Hp → Prop), Walk J (irng n f).length G Y → (∀ H', Same (sub H1 S) H' → G H') → (∀ i H' x H'', i < (irng n f).length → Same (sub H1 S) H' → Y i H' x H'' → Same H' H'' ∧ ∃ d, (irng n f)[i]? = some d ∧ ∀ S' : AS, (∀ a, S' a → ∃ o, H' a = some o) → (∀ a, S' a → S a ∨ H1 a = none) → Da (sub H'' S') x d) → Rr J H1) : Rr J H1 :=
  q (fun _ => True) (YFn fun i => .int (f i)) (by rw [irng_len]; exact w) (fun _ _ => trivial) fun i H' x H'' hi e y => by
    obtain ⟨rfl, rfl⟩ := y
    rw [irng_len] at hi
    exact ⟨.refl _, _, irng_get hi, fun S' l w => .int _⟩
theorem jw_rng1 (h : JD tr Ps [.int j]) (hj : -100000 ≤ j ∧ j ≤ 100000) : JW (iRng1 tr) Ps (irng j.toNat fun i => (i : Int)) := fun S B H σ c s Rr q => h S B H σ c s _ fun vs H1 r1 c1 p1 => by
  obtain ⟨v, rfl, hv⟩ := daAll1 p1
  cases hv
  refine ⟨j, rfl, by omega, by omega, jw_fn (f := fun i => (i : Int)) ?_ fun G Y => q _ H1 G Y r1 c1⟩
  have w := walk_range (lo := 0) (n := j.toNat)
  exact ⟨w.goes, w.stops, fun i H x H' hi g y => by
    obtain ⟨e1, e2⟩ := w.yields i H x H' hi g y
    exact ⟨e1, by rw [e2]; show V.int (0 + (i : Int)) = V.int (i : Int); rw [Int.zero_add]⟩⟩
theorem jw_rng2 (h : JD tr Ps [.int i, .int j]) (hi : -100000 ≤ i ∧ i ≤ 100000) (hj : -100000 ≤ j ∧ j ≤ 100000) : JW (iRng2 tr) Ps (irng (j - i).toNat fun k => i + (k : Int)) := fun S B H σ c s Rr q => h S B H σ c s _ fun vs H1 r1 c1 p1 => by
  obtain ⟨v, w, rfl, hv, hw⟩ := daAll2 p1
  cases hv
  cases hw
  exact ⟨i, j, rfl, ⟨by omega, by omega, by omega, by omega⟩, jw_fn (f := fun k => i + (k : Int)) walk_range fun G Y => q _ H1 G Y r1 c1⟩
theorem jw_rng3 (h : JD tr Ps [.int i, .int j, .int (-1)]) (hi : -100000 ≤ i ∧ i ≤ 100000) (hj : -100000 ≤ j ∧ j ≤ 100000) : JW (iRng3 tr) Ps (irng (i - j).toNat fun k => i - (k : Int)) := fun S B H σ c s Rr q => h S B H σ c s _ fun vs H1 r1 c1 p1 => by
  obtain ⟨v, w, x, rfl, hv, hw, hx⟩ := daAll3 p1
  cases hv
  cases hw
  cases hx
  refine ⟨i, j, -1, (i - j).toNat, rfl, RgC.neg (by omega) (by omega) (by omega) (by omega), jw_fn (f := fun k => i - (k : Int)) ?_ fun G Y => q _ H1 G Y r1 c1⟩
  have w := walk_rangeC (lo := i) (c := -1) (n := (i - j).toNat)
  exact ⟨w.goes, w.stops, fun k H x H' hk g y => by
    obtain ⟨e1, e2⟩ := w.yields k H x H' hk g y
    exact ⟨e1, by rw [e2]; show V.int (i + (k : Int) * -1) = V.int (i - (k : Int)); congr 1; omega⟩⟩
def sgn (c : Nat) : PyData := .str ⟨#[c]⟩
theorem jw_str {z : Str} (h : JE te Ps (dS z)) : JW (iStr te) Ps (z.cps.toList.map sgn) := fun S B H σ c s Rr q => h S B H σ c s _ fun v H1 r1 c1 p1 => by
  cases (show Da _ v (.str z) from p1)
  refine ⟨z, rfl, q (Its z) H1 _ _ r1 c1 (by rw [List.length_map, Array.length_toList]; exact walk_str) (fun _ _ => trivial) fun i H' x H'' hi e y => ?_⟩
  obtain ⟨rfl, u, hu, rfl⟩ := y
  refine ⟨.refl _, sgn u, ?_, fun S' l w => .str _⟩
  rw [List.getElem?_map, Array.getElem?_toList, hu]
  rfl
/-- pairs that are made on the way -/
def prs (ds es : List PyData) : List PyData := (ds.zip es).map fun p => .tuple [p.1, p.2]
theorem prs_len (ds es : List PyData) : (prs ds es).length = min ds.length es.length := by unfold prs; rw [List.length_map, List.length_zip]
theorem jw_pair {J : It} {n : Nat} {xs ys : Nat → Option V} {S : AS} {B : Option Addr} {H1 : Hp} {Rr : It → Hp → Prop} {Gd : Hp → Prop} (hn : n = min ds.length es.length) (c1 : Cond S B H1) (w : Walk J n Gd (YPair xs ys)) (hg : ∀ H', Same (sub H1 S) H' → Gd H')
    (h1 : ∀ i v, i < n → xs i = some v → ∃ d, ds[i]? = some d ∧ Da (sub H1 S) v d) (h2 : ∀ i v, i < n → ys i = some v → ∃ d, es[i]? = some d ∧ Da (sub H1 S) v d)
    (q : ∀ (G : Hp → Prop) (Y : Nat → Hp → V → Hp → Prop), Walk J (prs ds es).length G Y → (∀ H', Same (sub H1 S) H' → G H') → (∀ i H' x H'', i < (prs ds es).length → Same (sub H1 S) H' → Y i H' x H'' → Same H' H'' ∧ ∃ d, (prs ds es)[i]? = some d ∧ ∀ S' : AS, (∀ a, S' a → ∃ o, H' a = some o) → (∀ a, S' a → S a ∨ H1 a = none) → Da (sub H'' S') x d) → Rr J H1) : Rr J H1 :=
  q Gd (YPair xs ys) (by rw [prs_len, ← hn]; exact w) hg fun i H' x H'' hi e y => by
    obtain ⟨T, u, v, rfl, hT, rfl, hx, hy⟩ := y
    rw [prs_len, ← hn] at hi
    obtain ⟨d1, g1, g2⟩ := h1 i u hi hx
    obtain ⟨d2, g3, g4⟩ := h2 i v hi hy
    have sT : Same H' (upd H' T (.tup [u, v])) := same_upd hT
    refine ⟨sT, .tuple [d1, d2], ?_, fun S' l w => ?_⟩
    · unfold prs
      rw [List.getElem?_map, (List.getElem?_zip_eq_some (z := (d1, d2))).mpr ⟨g1, g3⟩]
      rfl
    · have nT : ¬ S' T := fun z => by
        obtain ⟨o, ho⟩ := l T z
        rw [hT] at ho
        cases ho
      have kk := (known_at e w).trans (sub_same (S := S') sT)
      refine .tup (xs := [u, v]) ?_ (.cons (g2.mono kk) (.cons (g4.mono kk) .nil))
      rw [sub_in nT, upd_same]
theorem jw_enum (h : JD tr Ps [.list ds]) : JW (iEnum K tr) Ps (prs (irng ds.length fun i => (i : Int)) ds) := fun S B H σ c s Rr q => h S B H σ c s _ fun vs H1 r1 c1 p1 => by
  obtain ⟨v, rfl, hv⟩ := daAll1 p1
  obtain ⟨a, xs, rfl, h1, h2⟩ := Da.list_inv hv
  refine ⟨a, xs, rfl, SqL.of (sub_some h1).2, jw_pair (B := B) (by rw [irng_len, Nat.min_self]) c1 (h2.len ▸ walk_enum (K := K) (a := a) (xs := xs)) (fun H' e => SqL.of (e _ _ h1)) (fun i v hi e => ?_) (fun i v _ e => h2.getv e) fun G Y => q _ H1 G Y r1 c1⟩
  cases e
  exact ⟨_, irng_get hi, .int _⟩
theorem jw_zip (h : JD tr Ps [.list ds, .list es]) : JW (iZip K tr) Ps (prs ds es) := fun S B H σ c s Rr q => h S B H σ c s _ fun vs H1 r1 c1 p1 => by
  obtain ⟨v, w, rfl, hv, hw⟩ := daAll2 p1
  obtain ⟨a, xs, rfl, h1, h2⟩ := Da.list_inv hv
  obtain ⟨b, ys, rfl, h3, h4⟩ := Da.list_inv hw
  exact ⟨a, b, xs, ys, rfl, SqL.of (sub_some h1).2, SqL.of (sub_some h3).2, jw_pair (B := B) rfl c1 (h2.len ▸ h4.len ▸ walk_zip (K := K) (a := a) (b := b) (xs := xs) (ys := ys) rfl) (fun H' e => ⟨SqL.of (e _ _ h1), SqL.of (e _ _ h3)⟩) (fun i v _ e => h2.getv e) (fun i v _ e => h4.getv e) fun G Y => q _ H1 G Y r1 c1⟩
end
end LK
/-! text K4 -/
namespace LK
open PySem PySem.Spec PyProof.Rows L2
section
variable {K : PySem.W.Frag} {Ps Qs : List Sl} {N N' : NP} {P P1 P2 P3 P4 : DP} {t u tb : TS} {ta te tl : TE} {tr : TA} {tt : TT} {d d1 d2 d3 d4 : PyData} {ds es : List PyData} {b c : Bool} {i j k : Int} {E : XK} {wi : TI} {g : L2.TG}
theorem JW.is (h : JW wi Ps ds) (e : ds = es) : JW wi Ps es := e ▸ h
/-- a for: I holds between the turns -/
theorem js_for (hw : JW wi Ps ds) (I : Nat → NP) (h0 : Wk (I 0) Ps) (hs : ∀ (i : Nat) (d : PyData) (Qs : List Sl), ds[i]? = some d → I i Qs → ∃ is es, TG g d is es ∧ JS tb (setS Qs is es) (Wk (I (i + 1))) P) : JS (tFor wi g tb) Ps (I ds.length) P := fun S0 B H0 G D σ H ⟨S, x⟩ n r => by
  refine hw S B H σ x.cond x.sl _ fun J H1 Gd Y r1 c1 w hg hy => ?_
  have x1 := x.step r1 c1
  have xk : AtS S0 B H0 (sub H1 S) S Ps σ H1 := { x1 with know := .refl _ }
  have kn : ∀ {Qs : List Sl} {σ' : L2.St} {H' : Hp}, At S0 B H0 (sub H1 S) Qs σ' H' → At S0 B H0 G Qs σ' H' := fun ⟨S', y⟩ => ⟨S', { y with know := x1.know.trans y.know }⟩
  refine for_it w (fun i σ' H' => ∃ S' Qs, AtS S0 B H0 (sub H1 S) S' Qs σ' H' ∧ (∀ a, S' a → S a ∨ H1 a = none) ∧ I i Qs) ?_ (fun i σ' H' _ ⟨S', Qs, y, _, _⟩ => hg H' (y.know.trans sub_le)) ?_ ?_
  · obtain ⟨Qs, w0, q0⟩ := h0
    exact ⟨S, Qs, xk.weak w0, fun a z => .inl z, q0⟩
  · rintro i v σ' H' H'' hi ⟨S', Qs, y, nw, q⟩ hv
    obtain ⟨sm, d, hd, hda⟩ := hy i H' v H'' hi (y.know.trans sub_le) hv
    obtain ⟨is, es, tg, body⟩ := hs i d Qs hd q
    have y2 : AtS S0 B H0 (sub H1 S) S' Qs σ' H'' := y.step (.of sm) (y.cond.same sm)
    have dd : Da (sub H'' S') v d := hda S' y.cond.live nw
    refine tg (sub H'' S') H'' σ' v sub_le dd _ fun vs hvs => ?_
    refine body S0 B H0 (sub H1 S) _ _ _ ⟨S', y2.setAll hvs⟩ (fun Rs σ3 H3 wk z => ?_) fun v3 H3 f => r v3 H3 f
    obtain ⟨Rs', w3, q3⟩ := wk
    obtain ⟨S3, z3⟩ := z
    refine ⟨S3, Rs', z3.weak w3, fun a ha => ?_, q3⟩
    by_cases hS : S a
    · exact .inl hS
    · refine .inr ?_
      cases q : H1 a with
      | none => rfl
      | some o =>
        have := z3.know a o (by rw [sub_in hS]; exact q)
        rw [sub_out ha] at this
        cases this
  · rintro σ' H' ⟨S', Qs, y, _, q⟩
    exact n Qs σ' H' q (kn ⟨S', y⟩)
/-- .. told slot by slot -/
theorem js_forI (hw : JW wi Ps ds) (I : Nat → List Sl) (h0 : PsLe Ps (I 0)) (hs : ∀ (i : Nat) (d : PyData), ds[i]? = some d → ∃ is es, TG g d is es ∧ JS tb (setS (I i) is es) (Wk (Is (I (i + 1)))) P) : JS (tFor wi g tb) Ps (Is (I ds.length)) P :=
  js_for hw (fun i => Is (I i)) ⟨_, h0, rfl⟩ fun i d Qs hd q => by
    cases q
    exact hs i d hd
/-- a comprehension -/
theorem jn_lc {α : Type} {xs : List α} {enc v : α → PyData} {f : α → Bool} {vs : List Nat} (hw : JW wi Ps (xs.map enc)) (hz : xs.length ≤ 50000)
    (h : ∀ x ∈ xs, ∃ is es, TG g (enc x) is es ∧ (∀ i ∈ is, i ∈ vs) ∧ JT tt (setS (wipeP Ps vs) is es) (f x) ∧ (f x = true → JE te (setS (wipeP Ps vs) is es) (da (v x)))) :
    JN (tLc wi g tt te vs) Ps (.ol ((xs.filter f).map v)) := fun S B H σ c s Q q => by
  refine hw S B H σ c s _ fun J H1 Gd Y r1 c1 w hg hy => ?_
  have s1 := s.step c r1
  rw [List.length_map] at w hy
  intro D hD
  have nD : ¬ S D := c1.fresh hD
  have nB : B ≠ some D := fun z => nD (c1.bag D z).1
  refine lc_it w (fun i H' => R B H1 H' ∧ Cond (fun a => S a ∨ a = D) B H' ∧ ∃ acc, H' D = some (.lst acc) ∧ DaAll (sub H' fun a => S a ∨ a = D) acc (((xs.take i).filter f).map v) ∧ Same (sub H1 S) (sub H' fun a => S a ∨ a = D)) ?_ (fun i H' _ ⟨_, _, acc, _, _, e⟩ => hg H' (e.trans sub_le)) ?_ ?_
  · have e := same_upd (o := .lst []) hD
    have c' : Cond (fun a => S a ∨ a = D) B (upd H1 D (.lst [])) := ⟨fun a h => by
      by_cases ea : a = D
      · exact ⟨_, by rw [ea, upd_same]⟩
      · obtain ⟨u, hu⟩ := c1.live a (h.resolve_right ea)
        exact ⟨u, by rw [upd_ne ea]; exact hu⟩, fun b h => ⟨.inl (c1.bag b h).1, by
        obtain ⟨x0, x1, x2, c, ns, h1, h2, h3, h4, h5, h6, h7, h8⟩ := (c1.bag b h).2
        exact ⟨x0, x1, x2, c, ns, e _ _ h1, h2, h3, h4, h5, fun z => z.elim h6 (ne_of_none h7 hD), e _ _ h7, h8⟩⟩⟩
    refine ⟨.of e, c', [], upd_same, .nil, fun a u h => ?_⟩
    obtain ⟨h1, h2⟩ := sub_some h
    have na : a ≠ D := ne_of_none h2 hD
    rw [sub_in (by intro z; exact z.elim h1 na), upd_ne na]
    exact h2
  · rintro i x H' H'' hi ⟨r2, c2, acc, hacc, hall, kn⟩ hyv
    obtain ⟨sm, dd, hd, hda⟩ := hy i H' x H'' hi (kn.trans sub_le) hyv
    rw [List.getElem?_map, List.getElem?_eq_getElem hi] at hd
    cases hd
    have hmem : xs[i] ∈ xs := List.getElem_mem hi
    have htake : xs.take (i + 1) = xs.take i ++ [xs[i]] := by rw [List.take_add_one, List.getElem?_eq_getElem hi]; rfl
    obtain ⟨is, es, tg, hsub, ht, he⟩ := h _ hmem
    have c3 : Cond (fun a => S a ∨ a = D) B H'' := c2.same sm
    have kn3 : Same (sub H1 S) (sub H'' fun a => S a ∨ a = D) := kn.trans (sub_same sm)
    have dax := hda (fun a => S a ∨ a = D) c2.live fun a z => z.imp id fun e => by rw [e]; exact hD
    have hD3 : H'' D = some (.lst acc) := sm _ _ hacc
    -- the slots at the turn
    have e3 : Ext S B H1 (fun a => S a ∨ a = D) H'' := ⟨fun a z => .inl z, fun a z => z.imp id fun e => by rw [e]; exact hD, c1, c3, r2.trans (.of sm)⟩
    have sk : Slots (fun a => S a ∨ a = D) B H'' σ Ps := s1.ext e3
    refine tg (sub H'' fun a => S a ∨ a = D) H'' _ x sub_le dax _ fun vv hvv => ?_
    have sk2 := (sk.wipe vs).setAll (is := is) hvv
    refine ⟨by rw [wipe_setV hsub, wipe_idem], ?_⟩
    refine ht _ B H'' _ c3 sk2 _ fun H4 r4 c4 => ?_
    have rr4 : R B H1 H4 := (r2.trans (.of sm)).trans r4
    have kn4 : Same (sub H1 S) (sub H4 fun a => S a ∨ a = D) := kn3.trans (r4.sub c3)
    cases hf : f xs[i] with
    | false =>
      show _
      refine iteF ⟨rr4, c4, acc, (r4 _ _ hD3).1 nB, ?_, kn4⟩
      rw [htake, List.filter_append, List.filter_cons, if_neg (by rw [hf]; decide), List.filter_nil, List.append_nil]
      exact hall.mono ((sub_same sm).trans (r4.sub c3))
    | true =>
      refine iteT ?_
      refine he hf _ B H4 _ c4 (sk2.step c3 r4) _ fun y H5 r5 c5 p5 => ?_
      have rr5 := rr4.trans r5
      have hD5 : H5 D = some (.lst acc) := (r5 _ _ ((r4 _ _ hD3).1 nB)).1 nB
      have kn5 : Same (sub H1 S) (sub H5 fun a => S a ∨ a = D) := kn4.trans (r5.sub c4)
      have hle : (((xs.take i).filter f).map v).length ≤ 50000 := by
        rw [List.length_map]
        have h1 := List.length_filter_le f (xs.take i)
        rw [List.length_take] at h1
        omega
      have ke : sub (upd H5 D (.lst (acc ++ [y]))) (fun a => S a ∨ a = D) = sub H5 fun a => S a ∨ a = D := by
        funext a
        by_cases ha : S a ∨ a = D
        · rw [sub_out (S := fun a => S a ∨ a = D) ha, sub_out (S := fun a => S a ∨ a = D) ha]
        · rw [sub_in (S := fun a => S a ∨ a = D) ha, sub_in (S := fun a => S a ∨ a = D) ha, upd_ne (fun z => ha (.inr z))]
      refine ⟨acc, hD5, ?_, fun a o ho => ?_, ⟨fun a ha => ?_, fun b hb => ⟨(c5.bag b hb).1, ?_⟩⟩, acc ++ [y], upd_same, ?_, by rw [ke]; exact kn5⟩
      · rw [hall.len]
        exact Nat.lt_of_le_of_lt hle (by decide)
      · have na : a ≠ D := ne_of_none ho hD
        rw [upd_ne na]
        exact rr5 a o ho
      · by_cases ea : a = D
        · exact ⟨_, by rw [ea, upd_same]⟩
        · rw [upd_ne ea]
          exact c5.live a ha
      · obtain ⟨x0, x1, x2, c, ns, h1, h2, h3, h4, h5, h6, h7, h8⟩ := (c5.bag b hb).2
        have nb : b ≠ D := fun z => nB (by rw [← z]; exact hb)
        have nc : c ≠ D := fun z => h6 (.inr z)
        exact ⟨x0, x1, x2, c, ns, by rw [upd_ne nb]; exact h1, h2, h3, h4, h5, h6, by rw [upd_ne nc]; exact h7, h8⟩
      · rw [ke, htake, List.filter_append, List.filter_cons, if_pos hf, List.filter_nil, List.map_append]
        exact (hall.mono (((sub_same sm).trans (r4.sub c3)).trans (r5.sub c4))).append (.cons p5 .nil)
  · rintro H' ⟨r2, c2, acc, hacc, hall, kn⟩
    rw [List.take_length] at hall
    exact q _ H' _ ⟨fun a z => .inl z, fun a z => z.imp id fun e => by rw [e]; exact r1.none hD, c, c2, r1.trans r2⟩ ⟨D, acc, rfl, .inr rfl, nB, hacc, hall⟩ fun a z => by cases z; exact r1.none hD
/-- .. that is let go -/
theorem JN.frz {ds : List PyData} (h : JN te Ps (.ol ds)) : JE te Ps (da (.list ds)) := fun S B H σ c s Q q => h S B H σ c s Q fun v H' S' e p f => by
  obtain ⟨a, xs, rfl, h2, h3, h4, h5⟩ := p
  exact q _ H' e.r e.low (.lst (by rw [sub_in (c.fresh (f a rfl))]; exact h4) (h5.mono (sub_mono e.up)))
theorem j_lc {α : Type} {xs : List α} {enc v : α → PyData} {f : α → Bool} {vs : List Nat} (hw : JW wi Ps (xs.map enc)) (hz : xs.length ≤ 50000)
    (h : ∀ x ∈ xs, ∃ is es, TG g (enc x) is es ∧ (∀ i ∈ is, i ∈ vs) ∧ JT tt (setS (wipeP Ps vs) is es) (f x) ∧ (f x = true → JE te (setS (wipeP Ps vs) is es) (da (v x)))) :
    JE (tLc wi g tt te vs) Ps (da (.list ((xs.filter f).map v))) := (jn_lc hw hz h).frz
theorem jt_yes : JT tYes Ps true := fun S B H σ c s Q q => q H (R.refl H) c
/-- .. all of them -/
theorem j_lcA {α : Type} {xs : List α} {enc v : α → PyData} {vs : List Nat} (hw : JW wi Ps (xs.map enc)) (hz : xs.length ≤ 50000)
    (h : ∀ x ∈ xs, ∃ is es, TG g (enc x) is es ∧ (∀ i ∈ is, i ∈ vs) ∧ JE te (setS (wipeP Ps vs) is es) (da (v x))) :
    JE (tLc wi g tYes te vs) Ps (da (.list (xs.map v))) := by
  have e : xs.map v = (xs.filter fun _ => true).map v := by rw [List.filter_eq_self.mpr fun _ _ => rfl]
  rw [e]
  exact j_lc hw hz fun x hx => by
    obtain ⟨is, es, h1, h2, h3⟩ := h x hx
    exact ⟨is, es, h1, h2, jt_yes, fun _ => h3⟩
/-! several names at once -/
theorem js_par {x y : Nat} (h : JA tr Ps [P1, P2]) : JS (tPar x y tr) Ps (Is ((Ps.set x (.pl P1)).set y (.pl P2))) P := fun S0 B H0 G D σ H ⟨S, z⟩ n r =>
  h S B H σ z.cond z.sl _ fun vs H1 r1 c1 p1 => by
    cases p1 with
    | cons h1 t =>
      cases t with
      | cons h2 t =>
        cases t
        exact ⟨_, _, rfl, n _ _ _ rfl ⟨S, ((z.step r1 c1).set x h1).set y h2⟩⟩
theorem js_par3 {x y w : Nat} (h : JA tr Ps [P1, P2, P3]) : JS (tPar3 x y w tr) Ps (Is (((Ps.set x (.pl P1)).set y (.pl P2)).set w (.pl P3))) P := fun S0 B H0 G D σ H ⟨S, z⟩ n r =>
  h S B H σ z.cond z.sl _ fun vs H1 r1 c1 p1 => by
    cases p1 with
    | cons h1 t =>
      cases t with
      | cons h2 t =>
        cases t with
        | cons h3 t =>
          cases t
          exact ⟨_, _, _, rfl, n _ _ _ rfl ⟨S, (((z.step r1 c1).set x h1).set y h2).set w h3⟩⟩
end
end LK
/-! text K5 -/
namespace LK
open PySem PySem.Spec PyProof.Rows L2

/-! ### built-ins under names -/
def rLenX (K : PySem.W.Frag) : List V → Hp → VK → Prop := fun xs H Q => ∃ x n, xs = [x] ∧ LenV K x H n ∧ Q (.int n) H
def rAbsX : List V → Hp → VK → Prop := fun xs H Q => ∃ i, xs = [.int i] ∧ Q (.int (if i < 0 then -i else i)) H
def rIntX : List V → Hp → VK → Prop := fun xs H Q => (∃ i, xs = [.int i] ∧ Q (.int i) H) ∨ ∃ k, xs = [.bl k] ∧ Q (.int (if k then 1 else 0)) H
def rListX (K : PySem.W.Frag) : List V → Hp → VK → Prop := fun xs H Q => ∃ p ys, xs = [.ref p] ∧ (SqL K H p ys ∨ SqT K H p ys) ∧ ∀ l, H l = none → Q (.ref l) (upd H l (.lst ys))
def rTupX (K : PySem.W.Frag) : List V → Hp → VK → Prop := fun xs H Q => ∃ p ys, xs = [.ref p] ∧ ((SqL K H p ys ∧ ∀ l, H l = none → Q (.ref l) (upd H l (.tup ys))) ∨ (SqT K H p ys ∧ Q (.ref p) H))
def rCountX : V → List V → Hp → VK → Prop := fun x xs H Q => ∃ a b, x = .str a ∧ xs = [.str b] ∧ Q (.int (Txt.count a b)) H
def rJoinX (K : PySem.W.Frag) : V → List V → Hp → VK → Prop := fun x xs H Q => ∃ a p, ∃ ys : List Str, x = .str a ∧ xs = [.ref p] ∧ (SqL K H p (ys.map V.str) ∨ SqT K H p (ys.map V.str)) ∧ (ys.map (·.length)).sum + ys.length * a.length ≤ 16777216 ∧ Q (.str (Txt.join a ys)) H
section
variable {X : Cx}
theorem call_lenX : CallR X (.builtin "len") (rLenX X.K) := call_len
theorem call_absX : CallR X (.builtin "abs") rAbsX := call_abs
theorem call_intX : CallR X (.type "int") rIntX := call_int1
theorem call_listX : CallR X (.type "list") (rListX X.K) := call_list_of
theorem call_tupX : CallR X (.type "tuple") (rTupX X.K) := call_tuple_of
theorem mt_countX : MtR X "str.count" rCountX := mt_count
theorem mt_joinX : MtR X "str.join" (rJoinX X.K) := mt_join
theorem pe_countX {o e : Expr} {to te : TE} {apos pos : Pos} (ho : PE X o to) (he : PE X e te) (hs : starEach [e] X.env = [(false, eval e X.env)] := by rfl) (hbase : attributeBase o "count" X.env (eval o X.env) = eval o X.env := by rfl) (hline : (apos.endLine == pos.line) = true := by rfl) :
    PE X (.Call (.Attribute o "count" apos) [e] [] pos) (tM1 rCountX to te) := pe_m1 PySem.F.slot_str_count PySem.F.type_str_count mt_countX ho he hs hbase hline
theorem pe_joinX {o e : Expr} {to te : TE} {apos pos : Pos} (ho : PE X o to) (he : PE X e te) (hs : starEach [e] X.env = [(false, eval e X.env)] := by rfl) (hbase : attributeBase o "join" X.env (eval o X.env) = eval o X.env := by rfl) (hline : (apos.endLine == pos.line) = true := by rfl) :
    PE X (.Call (.Attribute o "join" apos) [e] [] pos) (tM1 (rJoinX X.K) to te) := pe_m1 PySem.F.slot_str_join PySem.F.type_str_join mt_joinX ho he hs hbase hline
end
section
variable {K : PySem.W.Frag} {Ps Qs : List Sl} {N N' : NP} {P P1 P2 P3 P4 : DP} {t u tb : TS} {ta te tl tk tv td : TE} {tr : TA} {tt : TT} {d d1 d2 d3 d4 : PyData} {ds es : List PyData} {b c : Bool} {i j k : Int} {E : XK} {n : Nat}
theorem rc_lenL : RC (rLenX K) [.list ds] (.int (ds.length : Int)) := fun S B H vs c h0 Q q => by
  obtain ⟨v, rfl, h⟩ := daAll1 h0
  obtain ⟨a, xs, rfl, h1, h2⟩ := Da.list_inv h
  exact ⟨_, ds.length, rfl, .inl ⟨xs, SqL.of (sub_some h1).2, h2.len.symm⟩, q _ H (R.refl H) c (.int _)⟩
theorem rc_lenT : RC (rLenX K) [.tuple ds] (.int (ds.length : Int)) := fun S B H vs c h0 Q q => by
  obtain ⟨v, rfl, h⟩ := daAll1 h0
  obtain ⟨a, xs, rfl, h1, h2⟩ := Da.tup_inv h
  exact ⟨_, ds.length, rfl, .inr ⟨xs, SqT.of (sub_some h1).2, h2.len.symm⟩, q _ H (R.refl H) c (.int _)⟩
theorem rc_lenS {z : Str} (hz : z.length ≤ 100000) : RC (rLenX K) [.str z] (.int (z.length : Int)) := fun S B H vs c h0 Q q => by
  obtain ⟨v, rfl, h⟩ := daAll1 h0
  cases h
  exact ⟨_, z.length, rfl, ⟨Nat.le_trans hz (by decide), rfl⟩, q _ H (R.refl H) c (.int _)⟩
theorem j_lenL (h : JE te Ps (da (.list ds))) : JE (tCB (rLenX K) (tCons te tNil)) Ps (dI (ds.length : Int)) := j_cb (jd_cons h jd_nil) rc_lenL
theorem j_lenT (h : JE te Ps (da (.tuple ds))) : JE (tCB (rLenX K) (tCons te tNil)) Ps (dI (ds.length : Int)) := j_cb (jd_cons h jd_nil) rc_lenT
theorem j_lenS {z : Str} (h : JE te Ps (dS z)) (hz : z.length ≤ 100000) : JE (tCB (rLenX K) (tCons te tNil)) Ps (dI (z.length : Int)) := j_cb (jd_cons h jd_nil) (rc_lenS hz)
theorem j_lenO (h : Ps[n]? = some (.ol ds)) : JE (tCB (rLenX K) (tCons (tVar n) tNil)) Ps (dI (ds.length : Int)) := fun S B H σ c s Q q => by
  obtain ⟨v, h1, a, xs, rfl, h2, h3, h4, h5⟩ := s.get h (by intro z; cases z)
  exact ⟨_, h1, _, ds.length, rfl, .inl ⟨xs, SqL.of h4, h5.len.symm⟩, q _ H (R.refl H) c (.int _)⟩
theorem j_abs (h : JE te Ps (dI i)) : JE (tCB rAbsX (tCons te tNil)) Ps (dI (if i < 0 then -i else i)) := j_cb (jd_cons h jd_nil) fun S B H vs c h0 Q q => by
  obtain ⟨v, rfl, h⟩ := daAll1 h0
  cases h
  exact ⟨i, rfl, q _ H (R.refl H) c (.int _)⟩
theorem j_intI (h : JE te Ps (dI i)) : JE (tCB rIntX (tCons te tNil)) Ps (dI i) := j_cb (jd_cons h jd_nil) fun S B H vs c h0 Q q => by
  obtain ⟨v, rfl, h⟩ := daAll1 h0
  cases h
  exact .inl ⟨i, rfl, q _ H (R.refl H) c (.int _)⟩
theorem j_intB (h : JE te Ps (dB b)) : JE (tCB rIntX (tCons te tNil)) Ps (dI (if b then 1 else 0)) := j_cb (jd_cons h jd_nil) fun S B H vs c h0 Q q => by
  obtain ⟨v, rfl, h⟩ := daAll1 h0
  cases h
  exact .inr ⟨b, rfl, q _ H (R.refl H) c (.int _)⟩
theorem j_listL (h : JE te Ps (da (.list ds))) : JE (tCB (rListX K) (tCons te tNil)) Ps (da (.list ds)) := j_cb (jd_cons h jd_nil) fun S B H vs c h0 Q q => by
  obtain ⟨v, rfl, h⟩ := daAll1 h0
  obtain ⟨a, xs, rfl, h1, h2⟩ := Da.list_inv h
  refine ⟨a, xs, rfl, .inl (SqL.of (sub_some h1).2), fun l hl => ?_⟩
  have e := same_upd (o := .lst xs) hl
  exact q _ _ (.of e) (c.same e) (.lst (by rw [sub_in (c.fresh hl), upd_same]) (h2.mono (sub_same e)))
theorem j_listT (h : JE te Ps (da (.tuple ds))) : JE (tCB (rListX K) (tCons te tNil)) Ps (da (.list ds)) := j_cb (jd_cons h jd_nil) fun S B H vs c h0 Q q => by
  obtain ⟨v, rfl, h⟩ := daAll1 h0
  obtain ⟨a, xs, rfl, h1, h2⟩ := Da.tup_inv h
  refine ⟨a, xs, rfl, .inr (SqT.of (sub_some h1).2), fun l hl => ?_⟩
  have e := same_upd (o := .lst xs) hl
  exact q _ _ (.of e) (c.same e) (.lst (by rw [sub_in (c.fresh hl), upd_same]) (h2.mono (sub_same e)))
theorem j_tupL (h : JE te Ps (da (.list ds))) : JE (tCB (rTupX K) (tCons te tNil)) Ps (da (.tuple ds)) := j_cb (jd_cons h jd_nil) fun S B H vs c h0 Q q => by
  obtain ⟨v, rfl, h⟩ := daAll1 h0
  obtain ⟨a, xs, rfl, h1, h2⟩ := Da.list_inv h
  refine ⟨a, xs, rfl, .inl ⟨SqL.of (sub_some h1).2, fun l hl => ?_⟩⟩
  have e := same_upd (o := .tup xs) hl
  exact q _ _ (.of e) (c.same e) (.tup (by rw [sub_in (c.fresh hl), upd_same]) (h2.mono (sub_same e)))
theorem j_tupT (h : JE te Ps (da (.tuple ds))) : JE (tCB (rTupX K) (tCons te tNil)) Ps (da (.tuple ds)) := j_cb (jd_cons h jd_nil) fun S B H vs c h0 Q q => by
  obtain ⟨v, rfl, h⟩ := daAll1 h0
  obtain ⟨a, xs, rfl, h1, h2⟩ := Da.tup_inv h
  exact ⟨a, xs, rfl, .inr ⟨SqT.of (sub_some h1).2, q _ H (R.refl H) c (.tup h1 h2)⟩⟩
theorem j_max {ns : List Int} {m : Int} (h : JE te Ps (da (.list (ns.map .int)))) (hm : m ∈ ns) (hle : ∀ y ∈ ns, y ≤ m) : JE (tCB (rMax K) (tCons te tNil)) Ps (dI m) := j_cb (jd_cons h jd_nil) fun S B H vs c h0 Q q => by
  obtain ⟨v, rfl, h⟩ := daAll1 h0
  obtain ⟨a, xs, rfl, h1, h2⟩ := Da.list_inv h
  rw [h2.ints] at h1
  refine ⟨a, ns, rfl, SqL.of (sub_some h1).2, List.length_pos_of_mem hm, fun m' h3 h4 => ?_⟩
  have e : m' = m := Int.le_antisymm (hle m' h3) (h4 m hm)
  rw [e]
  exact q _ H (R.refl H) c (.int _)
theorem j_min {ns : List Int} {m : Int} (h : JE te Ps (da (.list (ns.map .int)))) (hm : m ∈ ns) (hle : ∀ y ∈ ns, m ≤ y) : JE (tCB (rMin K) (tCons te tNil)) Ps (dI m) := j_cb (jd_cons h jd_nil) fun S B H vs c h0 Q q => by
  obtain ⟨v, rfl, h⟩ := daAll1 h0
  obtain ⟨a, xs, rfl, h1, h2⟩ := Da.list_inv h
  rw [h2.ints] at h1
  refine ⟨a, ns, rfl, SqL.of (sub_some h1).2, List.length_pos_of_mem hm, fun m' h3 h4 => ?_⟩
  have e : m' = m := Int.le_antisymm (h4 m hm) (hle m' h3)
  rw [e]
  exact q _ H (R.refl H) c (.int _)
theorem j_all {bs : List Bool} (h : JE te Ps (da (.list (bs.map .bool)))) : JE (tCB (rAll K) (tCons te tNil)) Ps (dB (bs.all id)) := j_cb (jd_cons h jd_nil) fun S B H vs c h0 Q q => by
  obtain ⟨v, rfl, h⟩ := daAll1 h0
  obtain ⟨a, xs, rfl, h1, h2⟩ := Da.list_inv h
  rw [h2.bls] at h1
  exact ⟨a, bs, rfl, SqL.of (sub_some h1).2, q _ H (R.refl H) c (.bl _)⟩
/-- list(range(n)) -/
theorem j_listRg (h : JE te Ps (dI (n : Int))) (hn : n ≤ 100000) : JE (tLstRg (tRg1 te)) Ps (da (.list (irng n fun i => (i : Int)))) := fun S B H σ c s Q q => h S B H σ c s _ fun v H1 r1 c1 p1 => by
  cases (show Da _ v (.int (n : Int)) from p1)
  refine ⟨n, rfl, RgOk.of_le (by omega) (by omega) (by omega) (by omega), fun l hl => ?_⟩
  have e := same_upd (o := .lst (rgV 0 (n : Int))) hl
  refine q _ _ (r1.trans (.of e)) (c1.same e) (.lst (xs := rgV 0 (n : Int)) (by rw [sub_in (c1.fresh hl), upd_same]) ?_)
  have e1 : rgV 0 (n : Int) = ((List.range n).map fun i => ((i : Nat) : Int)).map V.int := by
    unfold rgV
    rw [List.map_map, show ((n : Int) - 0).toNat = n by omega]
    refine List.map_congr_left fun i _ => ?_
    show V.int (0 + (i : Int)) = V.int (i : Int)
    rw [Int.zero_add]
  have e2 : (irng n fun i => (i : Int)) = ((List.range n).map fun i => ((i : Nat) : Int)).map .int := by
    unfold irng
    rw [List.map_map]
    rfl
  rw [e1, e2]
  exact .of_ints _
/-! isinstance -/
def tyD : PyData → String
  | .none => "NoneType"
  | .bool _ => "bool"
  | .int _ => "int"
  | .str _ => "str"
  | .list _ => "list"
  | .tuple _ => "tuple"
  | .dict _ => "dict"
theorem da_ty {H : Hp} {v : V} (h : Da H v d) : TyX K H v (.type (tyD d)) := by
  cases h with
  | non => exact .base .non
  | bl b => exact .base (.bl b)
  | int i => exact .base (.int i)
  | str x => exact .base (.str x)
  | lst h _ => exact .base (.lst h)
  | tup h _ => exact .base (.tup h)
theorem j_isi {T : String} (h : JE te Ps (da d)) (hk : kitB (tyD d) T = some b) : JE (tCB (rIsi K) (tCons te (tCons (tC (.ty T)) tNil))) Ps (dB b) := fun S B H σ c s Q q => h S B H σ c s _ fun v H1 r1 c1 p1 =>
  ⟨v, .ty T, _, _, b, rfl, .ty T, da_ty (Da.mono sub_le p1), kit_ty hk, q _ H1 r1 c1 (.bl _)⟩
theorem j_isi2 {T U : String} {b1 b2 : Bool} (h : JE te Ps (da d)) (hk : kitB (tyD d) T = some b1) (hk2 : kitB (tyD d) U = some b2) : JE (tCB (rIsiT K) (tCons te (tCons (tTup (tCons (tC (.ty T)) (tCons (tC (.ty U)) tNil))) tNil))) Ps (dB (b1 || b2)) := fun S B H σ c s Q q => h S B H σ c s _ fun v H1 r1 c1 p1 => by
  refine ⟨by show 2 ≤ sizeLine; decide, fun p hp => ?_⟩
  have e := same_upd (o := .tup [V.ty T, V.ty U]) hp
  refine ⟨v, p, _, _, _, b1 || b2, rfl, upd_same, .cons (.ty T) (.cons (.ty U) .nil), da_ty (Da.mono ((sub_le).trans e) p1), ?_, q _ _ (r1.trans (.of e)) (c1.same e) (.bl _)⟩
  cases b1 with
  | true => exact kitAny_cons (kit_ty hk) (fun z => nomatch z) fun _ => rfl
  | false => exact kitAny_cons (kit_ty hk) (fun _ => by
      cases b2 with
      | true => exact kitAny_cons (kit_ty hk2) (fun z => nomatch z) fun _ => rfl
      | false => exact kitAny_cons (kit_ty hk2) (fun _ => kitAny_nil) fun z => nomatch z) fun z => nomatch z
/-! texts -/
theorem j_m1 {r : V → List V → Hp → VK → Prop} {x : Str} (h : JE ta Ps (dS x)) (h2 : JE te Ps (da d)) (hr : ∀ (S : AS) (B : Option Addr) (H : Hp) (v : V), Cond S B H → Da (sub H S) v d → ∀ Q : VK, (∀ v H', R B H H' → Cond S B H' → P.p (sub H' S) v → Q v H') → r (.str x) [v] H Q) : JE (tM1 r ta te) Ps P := fun S B H σ c s Q q =>
  h S B H σ c s _ fun v H1 r1 c1 p1 => by
    cases (show Da _ v (.str x) from p1)
    exact ⟨⟨x, rfl⟩, h2 S B H1 σ c1 (s.step c r1) _ fun w H2 r2 c2 p2 => hr S B H2 w c2 p2 Q fun v H3 r3 c3 p3 => q v H3 ((r1.trans r2).trans r3) c3 p3⟩
theorem j_count {x y : Str} (h : JE ta Ps (dS x)) (h2 : JE te Ps (dS y)) : JE (tM1 rCountX ta te) Ps (dI (Txt.count x y)) := j_m1 h h2 fun S B H v c p Q q => by
  cases p
  exact ⟨x, y, rfl, rfl, q _ H (R.refl H) c (.int _)⟩
theorem j_join {x : Str} {ys : List Str} (h : JE ta Ps (dS x)) (h2 : JE te Ps (da (.list (ys.map .str)))) (hz : (ys.map (·.length)).sum + ys.length * x.length ≤ 16777216) : JE (tM1 (rJoinX K) ta te) Ps (dS (Txt.join x ys)) := j_m1 h h2 fun S B H v c p Q q => by
  obtain ⟨a, xs, rfl, h1, h2⟩ := Da.list_inv p
  rw [h2.strs] at h1
  exact ⟨x, a, ys, rfl, rfl, .inl (SqL.of (sub_some h1).2), hz, q _ H (R.refl H) c (.str _)⟩
/-! ### dicts whose keys are two ints -/
theorem key2 {H : Hp} {y : V} {S : AS} (h : Da (sub H S) y (.tuple [.int i, .int j])) : ∃ b, y = .ref b ∧ H b = some (.tup ((([.inl i, .inl j] : List Key)).map kV)) := by
  obtain ⟨a, xs, rfl, h1, h2⟩ := Da.tup_inv h
  obtain ⟨v, w, rfl, h3, h4⟩ := daAll2 h2
  cases h3
  cases h4
  exact ⟨a, rfl, (sub_some h1).2⟩
/-- where a dict is known: one's own, or one that stands -/
def DctAt (Ps : List Sl) (n : Nat) (f : Int → Int → Option V) : Prop := Ps[n]? = some (.pl (isDT f)) ∨ ∃ m, Ps[n]? = some (.od m f)
theorem dct_at {f : Int → Int → Option V} {S : AS} {B : Option Addr} {H : Hp} {σ : L2.St} (c : Cond S B H) (s : Slots S B H σ Ps) (h : DctAt Ps n f) : ∃ a kvs, σ[n]? = some (some (.ref a)) ∧ B ≠ some a ∧ H a = some (.dT kvs) ∧ ∀ i j, valV kvs [.inl i, .inl j] = f i j := by
  rcases h with h | ⟨m, h⟩
  · obtain ⟨v, h1, a, kvs, rfl, h2, h3⟩ := s.get h (by intro z; cases z)
    obtain ⟨g1, g2⟩ := sub_some h2
    exact ⟨a, kvs, h1, fun z => g1 (c.bag a z).1, g2, h3⟩
  · obtain ⟨v, h1, a, kvs, rfl, h2, h3, h4, h5, h6⟩ := s.get h (by intro z; cases z)
    exact ⟨a, kvs, h1, h3, h4, h6⟩
theorem j_din {f : Int → Int → Option V} (hy : JE te Ps (da (.tuple [.int i, .int j]))) (hd : DctAt Ps n f) : JE (tDIn te (tVar n)) Ps (dB (f i j).isSome) := fun S B H σ c s Q q => hy S B H σ c s _ fun y H1 r1 c1 p1 => by
  obtain ⟨a, kvs, h1, h2, h3, h4⟩ := dct_at c1 (s.step c r1) hd
  obtain ⟨b, rfl, hb⟩ := key2 p1
  refine ⟨_, h1, a, _, rfl, DGet.t h3 hb, ?_⟩
  rw [h4]
  exact q _ H1 r1 c1 (.bl _)
theorem j_dget2 {f : Int → Int → Option V} {g : Int} (hd : DctAt Ps n f) (hy : JE te Ps (da (.tuple [.int i, .int j]))) (hx : JE ta Ps (dI k)) (hf : (f i j).getD (.int k) = .int g) : JE (tDGet2 (tVar n) te ta) Ps (dI g) := fun S B H σ c s Q q => by
  obtain ⟨a, kvs, h1, h2, h3, h4⟩ := dct_at c s hd
  refine ⟨_, h1, a, rfl, .inr ⟨kvs, .inl h3⟩, hy S B H σ c s _ fun y H1 r1 c1 p1 => hx S B H1 σ c1 (s.step c r1) _ fun z H2 r2 c2 p2 => ?_⟩
  cases (show Da _ z (.int k) from p2)
  obtain ⟨b, rfl, hb⟩ := key2 (Da.mono (r2.sub c1) p1)
  have h3' := ((r1.trans r2) _ _ h3).1 h2
  refine ⟨_, DGet.t h3' hb, ?_⟩
  rw [h4, hf]
  exact q _ H2 (r1.trans r2) c2 (.int _)
/-- {} of one's own -/
theorem js_newD : JS (tAsg tDNewT (gName n)) Ps (Is (Ps.set n (.od 0 fun _ _ => none))) P := js_asgN jn_newD
theorem putK_len {κ : Type} [DecidableEq κ] (kvs : List (κ × V)) (k : κ) (v : V) : (putK kvs k v).length ≤ kvs.length + 1 := by
  unfold putK
  split
  · rw [List.length_map]; omega
  · rw [List.length_append]; exact Nat.le_refl _
theorem js_dput {m : Nat} {f : Int → Int → Option V} {w : V} (hi : Ps[n]? = some (.od m f)) (hy : JE te Ps (da (.tuple [.int i, .int j]))) (hv : JE tv Ps P1) (hw : ∀ H v, P1.p H v → v = w) (hz : m < 100000) :
    JS (sDPut (tVar n) te tv) Ps (Is (Ps.set n (.od (m + 1) fun a b => if a = i ∧ b = j then some w else f a b))) P := fun S0 B H0 G D σ H ⟨S, x⟩ nx r =>
  hv S B H σ x.cond x.sl _ fun v H1 r1 c1 p1 => by
    have e := hw _ _ p1
    subst e
    have x1 := x.step r1 c1
    obtain ⟨u, h1, a, kvs, rfl, h2, h3, h4, h5, h6⟩ := x1.sl.get hi (by intro z; cases z)
    refine ⟨_, h1, hy S B H1 σ c1 x1.sl _ fun y H2 r2 c2 p2 => ?_⟩
    have x2 := x1.step r2 c2
    obtain ⟨b, rfl, hb⟩ := key2 p2
    have h4' := (r2 _ _ h4).1 h3
    refine ⟨a, _, rfl, DPut.t h4' hb (Nat.lt_of_le_of_lt h5 (Nat.lt_of_lt_of_le hz (by decide))), nx _ _ _ rfl ⟨S, x2.wr hi h1 (s' := .od (m + 1) fun a b => if a = i ∧ b = j then some v else f a b) rfl ⟨a, _, rfl, h2, h3, upd_same, Nat.le_trans (putK_len _ _ _) (by omega), fun i' j' => ?_⟩ fun b z => .inl z⟩⟩
    show _ = if i' = i ∧ j' = j then some v else f i' j'
    by_cases hk : i' = i ∧ j' = j
    · rw [if_pos hk, hk.1, hk.2, valV_put, if_pos rfl]
    · rw [if_neg hk]
      have nk : ([.inl i', .inl j'] : List Key) ≠ [.inl i, .inl j] := fun z => hk (by simpa using z)
      rw [valV_put, if_neg nk]
      exact h6 i' j'
/-- an own dict goes to what stands -/
theorem js_freezeD {m : Nat} {f : Int → Int → Option V} (hi : Ps[n]? = some (.od m f)) (h : JS t (Ps.set n (.pl (isDT f))) N P) : JS t Ps N P := fun S0 B H0 G D σ H ⟨S, x⟩ nx r => by
  obtain ⟨v, h1, h0⟩ := x.sl.get hi (by intro z; cases z)
  have h0' := h0
  obtain ⟨a, kvs, rfl, h2, h3, h4, h5, h6⟩ := h0
  exact h S0 B H0 G D σ H (x.freeze (P := isDT f) hi h1 h0' fun S' w n' => ⟨a, kvs, rfl, by rw [sub_in fun z => n' a z rfl]; exact h4, h6⟩) nx r
end
end LK
/-! text K6 -/
namespace LK
open PySem PySem.Spec PyProof.Rows L2

/-! ### len of an own instance -/
section
variable {X : Cx}
/-- len(o), o an instance of the class at C with a __len__ of its own -/
def rLenOwn (K : PySem.W.Frag) (C : Addr) (sp : Sp) : List V → Hp → VK → Prop := fun xs H Q => ∃ a dx fs, xs = [.ref a] ∧ H a = some (.ins C dx fs) ∧ sp [.ref a] H (fun v H' => ∃ n : Nat, v = .int n ∧ (n : Int) < 2 ^ 63 ∧ Q (.int n) H') C8.E0
theorem call_lenOwn {C : Addr} {sp : Sp} {k j : Nat} (c : C8.Met X.prog X.w X.K X.mg X.base k C "__len__" sp []) (hr : Room j X.A) (hk : k + 1 ≤ j) : CallR X (.builtin "len") (rLenOwn X.K C sp) := by
  intro pins s σ H xs us Q I r h
  obtain ⟨a, dx, fs, rfl, ha, q⟩ := h
  obtain ⟨u, rfl, ru⟩ := vals1 r
  obtain rfl : u = Value.ref a := ru
  obtain ⟨f, fd, ps, ds, hc, hm, F, b, d⟩ := c.ex
  obtain ⟨mA, O, _⟩ := ins_get I.hok ha
  obtain ⟨od, J, _⟩ := O.look
  obtain ⟨m, Fr⟩ := I.fr
  refine PySem.W.len_K Fr I.ok.mod.kin J hm.at_ hm.fn ?_
  have hr1 : Room k X.A.in1 := (hr.mono hk).in1
  have e1 : Env0 X.prog X.w X.K X.mg X.base X.A.in1 X.stack s H := I.env0.in1
  have r2 : Vals [V.ref a] [Value.ref a] := .cons rfl .nil
  cases d
  have hl : ([Value.ref a] : List Value).length = ps.length := F.len [V.ref a] H _ _ q
  have hb := b s [Value.ref a] I.kIn (by rw [List.append_nil]; exact hl)
  rw [List.append_nil] at hb
  refine wpAny_call (codeAny_mono (F.run X.A.in1 X.stack s H ⟨[.ref a], []⟩ [.ref a] [.ref a] _ C8.E0 hr1 e1 hb r2 q) fun rr s' hq => ?_)
  cases rr with
  | error e => exact False.elim hq
  | ok fl =>
    cases fl with
    | ret u =>
      obtain ⟨v, H', I', rv, n, rfl, hn, q'⟩ := I.after (Q := fun v H' => ∃ n : Nat, v = .int n ∧ (n : Int) < 2 ^ 63 ∧ Q (.int n) H') hq
      obtain ⟨t, rfl⟩ := rv
      exact ⟨⟨by omega, hn⟩, .int n, H', I'.tok _, ⟨_, rfl⟩, q'⟩
    | next => exact False.elim hq
    | brk => exact False.elim hq
    | cont => exact False.elim hq
end
/-! ### xs[i] += e -/
def rGetX (K : PySem.W.Frag) : V → V → Hp → VK → Prop := fun o i H Q => ∃ p xs k v, o = .ref p ∧ i = .int k ∧ 0 ≤ k ∧ SqL K H p xs ∧ xs[k.toNat]? = some v ∧ Q v H
theorem get_list {X : Cx} : PGet X (rGetX X.K) := by
  intro pins s σ H o i ov iv Q I ro ri h
  obtain ⟨p, xs, k, v, rfl, rfl, h0, hq, hv, q⟩ := h
  cases ro
  obtain ⟨t, rfl⟩ := ri
  obtain ⟨its, rv, pl, hz⟩ := I.list hq
  obtain ⟨w, hw, rw'⟩ := rv.get hv
  have hl := rv.length
  have hlt : k.toNat < xs.length := (List.getElem?_eq_some_iff.mp hv).1
  have hn := line63
  exact wpAny_getItem_list pl.isList h0 (by omega) (by simpa using hw) ⟨v, H, I, rw', q⟩

/-! ### enumerate over a text, zip of a text and a list -/
theorem draws_text {prog : Program} {w : World} {A : Around} (hh : A.handled = none) (it : Addr) (x : Str) (t : Tok) : Draws prog w A it [it] x.cps.size (fun i v => ∃ c u, x.cps[i]? = some c ∧ v = .str ⟨#[c]⟩ u) (fun i h => h.IsStrIter it (strIterType x) x t i) := .text hh it x t
/-- the signs with their numbers -/
def ItEs (x : Str) : It :=
  ⟨fun i _ => i < x.cps.size, fun i H v H' => ∃ T c, v = .ref T ∧ H T = none ∧ H' = upd H T (.tup [.int (i : Nat), .str ⟨#[c]⟩]) ∧ x.cps[i]? = some c, fun i _ => i = x.cps.size⟩
theorem turn_enumS {P : Program} {w : World} {K : PySem.W.Frag} {elts : List Expr} {kk : Nat} {tpos : Pos} (x : Str) (t : Tok) (e it : Addr) :
    Turn P w K (.Tuple elts kk tpos) (ItEs x) [e, it] e (fun i h => (∃ old, IsEnum h e it ((i : Nat) : Int) old) ∧ h.IsStrIter it (strIterType x) x t i ∧ e ≠ it) where
  mem := by simp
  obj := fun i h st b hb => by
    obtain ⟨⟨old, he⟩, ⟨o, ho, hc, hd⟩, _⟩ := st
    rcases (show b = e ∨ b = it by simpa using hb) with z | z
    · rw [z]; exact ⟨_, he, fun v q => nomatch q⟩
    · rw [z]; exact ⟨o, ho, fun v q => by rw [hd] at q; cases q⟩
  keep := fun i h h' st k => by
    obtain ⟨⟨old, he⟩, ⟨o, ho, r⟩, hne⟩ := st
    exact ⟨⟨old, k e (by simp) _ he⟩, ⟨o, k it (by simp) o ho, r⟩, hne⟩
  item := by
    intro Y y1 y2 y3 yc i pins s σ H E I hf st hg
    subst y1 y2 y3
    obtain ⟨⟨old, he⟩, hit, hne⟩ := st
    have le : e < s.heap.objs.size := Heap.lt_size he
    have li : it < s.heap.objs.size := by obtain ⟨_, q, _⟩ := hit; exact Heap.lt_size q
    have DT : Draws Y.prog Y.w Y.A.in1 it [it] x.cps.size (fun i v => ∃ c u, x.cps[i]? = some c ∧ v = .str ⟨#[c]⟩ u) (fun i h => h.IsStrIter it (strIterType x) x t i) := draws_text (A := Y.A.in1) (show Y.A.in1.handled = none from I.ok.hd yc) it x t
    refine wpAny_pyNext_enum_itemC DT he hit hg hne (by simpa using hne) fun u h' tk hu ho hit' hT hsz hk => ?_
    obtain ⟨c, tc, hcx, rfl⟩ := hu
    refine ⟨_, rfl, wpAny_letOwnedTupleGo_enum (s := { s with heap := h', toks := tk + 1 }) ho fun g he' sb => ?_⟩
    have hT2 : g.get? s.heap.objs.size = some { cls := .type "tuple", data := .seq #[.int i tk, .str ⟨#[c]⟩ tc] } := (sb.2 _ (Nat.ne_of_gt le)).trans hT
    have mk : ObjOk Y.prog Y.w (upd H s.heap.objs.size (.tup [.int (i : Nat), .str ⟨#[c]⟩])) g s.heap.objs.size (.tup [.int (i : Nat), .str ⟨#[c]⟩]) :=
      ⟨by show 2 ≤ sizeLine; decide, [.int i tk, .str ⟨#[c]⟩ tc], .cons ⟨_, rfl⟩ (.cons ⟨_, rfl⟩ .nil), ⟨_, hT2, rfl, _, rfl⟩⟩
    have J : Inv Y pins σ (upd H s.heap.objs.size (.tup [.int (i : Nat), .str ⟨#[c]⟩])) { s with heap := g, toks := tk + 1 } :=
      I.turnedNew (ch := [e, it]) (fun b ob hb q => (sb.2 b (fun z => hb (by simp [z]))).trans (hk b ob (fun z => hb (by simp [z])) (fun z => hb (by simp [z])) q)) hf (Nat.le_refl _) mk
    refine ⟨.ref s.heap.objs.size, _, J, rfl, ⟨_, c, rfl, I.hok.fresh (Nat.le_refl _), rfl, hcx⟩, ⟨⟨_, by rw [show ((i + 1 : Nat) : Int) = (i : Int) + 1 by omega]; exact he'⟩, ?_, hne⟩, fun b hb => ?_⟩
    · obtain ⟨o, ho', r⟩ := hit'
      exact ⟨o, (sb.2 it (Ne.symm hne)).trans ho', r⟩
    · have lb : b < s.heap.objs.size := by
        rcases (show b = e ∨ b = it by simpa using hb) with z | z
        · rw [z]; exact le
        · rw [z]; exact li
      rw [upd_ne (Nat.ne_of_lt lb)]
      exact (hf b hb).1
  done := by
    intro Y y1 y2 y3 yc i pins s σ H E I hf st hg
    subst y1 y2 y3
    obtain ⟨⟨old, he⟩, hit, hne⟩ := st
    obtain ⟨f0, f1, f2, f3, f4, f5⟩ := hf it (by simp)
    have hi : i = x.cps.size := hg
    rw [hi] at he hit
    have DT : Draws Y.prog Y.w Y.A.in1 it [it] x.cps.size (fun i v => ∃ c u, x.cps[i]? = some c ∧ v = .str ⟨#[c]⟩ u) (fun i h => h.IsStrIter it (strIterType x) x t i) := draws_text (A := Y.A.in1) (show Y.A.in1.handled = none from I.ok.hd yc) it x t
    exact wpAny_pyNext_enum_endD DT he hit fun g hx => ⟨rfl, I.turned (t' := s.toks) (fun b o hb q => hx b o hb q) f0 f1 f3 f4 f5⟩
  self := fun A i s Q E st h => let ⟨⟨_, he⟩, _⟩ := st; wpAny_pyIter_enum he h
def iEnumS (ta : TA) : TI := fun σ H R => ta σ H fun vs H1 => ∃ x, vs = [.str x] ∧ R (ItEs x) H1
theorem pi_enumS {X : Cx} {e : Expr} {ta : TA} {p pos tpos : Pos} {elts : List Expr} {kk : Nat} (hg : Gl X "enumerate") (hm : X.mg "enumerate" = none) (ha : PA X [e] ta) (hs : starEach [e] X.env = [(false, eval e X.env)] := by rfl) :
    PI X (.Tuple elts kk tpos) (.Call (.Name "enumerate" p) [e] [] pos) (iEnumS ta) := by
  refine ⟨fun pins s σ H R I h => ?_⟩
  refine Call_ (ld_blt I hg hm boot_enumerate (PyProof.Rows.callWith_type1 (thn (ha.run pos pins s σ H _ I h) fun us s1 ⟨vs, H1, I1, r1, q1⟩ => ?_) hs rfl))
  obtain ⟨x, ex, q⟩ := q1
  subst ex
  obtain ⟨u, rfl, t, rfl⟩ := vals1 r1
  refine call_enumerate_str fun g he hit hsz hk => wpAny_pyIter_enum he ?_
  have J : Inv X pins σ H1 { s1 with heap := g } := I1.kept (t' := s1.toks) hk
  refine ⟨s1.heap.objs.size + 1, [s1.heap.objs.size + 1, s1.heap.objs.size], _, _, H1, rfl, J, turn_enumS x t (s1.heap.objs.size + 1) s1.heap.objs.size, ⟨⟨.none, he⟩, hit, Nat.succ_ne_self _⟩, fun b hb => ?_, q⟩
  have lb : s1.heap.objs.size ≤ b := by
    rcases (show b = s1.heap.objs.size + 1 ∨ b = s1.heap.objs.size by simpa using hb) with z | z
    · rw [z]; exact Nat.le_add_right _ _
    · rw [z]; exact Nat.le_refl _
  exact I1.fpOk lb (I1.hok.fresh lb)
/-- a text's signs with a list's items -/
def ItZs (K : PySem.W.Frag) (x : Str) (b : Addr) : It :=
  ⟨fun i H => ∃ (ys : List V) (y : V), SqL K H b ys ∧ x.cps.size = ys.length ∧ i < x.cps.size ∧ ys[i]? = some y, fun i H v H' => ∃ T c y, v = .ref T ∧ H T = none ∧ H' = upd H T (.tup [.str ⟨#[c]⟩, y]) ∧ x.cps[i]? = some c ∧ ∀ ys, SqL K H b ys → ys[i]? = some y, fun i H => ∃ ys : List V, SqL K H b ys ∧ i = x.cps.size ∧ i = ys.length⟩
theorem turn_zipS {P : Program} {w : World} {K : PySem.W.Frag} {elts : List Expr} {kk : Nat} {tpos : Pos} {x : Str} {t : Tok} {b z TI TO i1 i2 : Addr} (D : ZipSep2 z TI TO i1 i2 [i1] [i2, b]) :
    Turn P w K (.Tuple elts kk tpos) (ItZs K x b) [z, TI, TO, i1, i2] z (fun i h => IsZip h z TI TO .none ∧ IsTupOf2 h TI (.ref i1) (.ref i2) ∧ (∃ u v, IsTupOf2 h TO u v) ∧ h.IsStrIter i1 (strIterType x) x t i ∧ h.IsListIter i2 b i) where
  mem := by simp
  obj := fun i h st c hc => by
    obtain ⟨hz, hTI, ⟨u, v, hTO⟩, ⟨o1, e1, _, d1⟩, ⟨o2, e2, _, d2⟩⟩ := st
    rcases (show c = z ∨ c = TI ∨ c = TO ∨ c = i1 ∨ c = i2 by simpa using hc) with q | q | q | q | q
    · rw [q]; exact ⟨_, hz, fun v q => nomatch q⟩
    · rw [q]; exact ⟨_, hTI, fun v q => nomatch q⟩
    · rw [q]; exact ⟨_, hTO, fun v q => nomatch q⟩
    · rw [q]; exact ⟨o1, e1, fun v q => by rw [d1] at q; cases q⟩
    · rw [q]; exact ⟨o2, e2, fun v q => by rw [d2] at q; cases q⟩
  keep := fun i h h' st k => by
    obtain ⟨hz, hTI, ⟨u, v, hTO⟩, ⟨o1, e1, r1⟩, h2⟩ := st
    exact ⟨k z (by simp) _ hz, k TI (by simp) _ hTI, ⟨u, v, k TO (by simp) _ hTO⟩, ⟨o1, k i1 (by simp) o1 e1, r1⟩, h2.at fun o q => k i2 (by simp) o q⟩
  item := by
    intro Y y1 y2 y3 yc i pins s σ H E I hf st hg
    subst y1 y2 y3
    obtain ⟨hz, hTI, ⟨u0, v0, hTO⟩, h1, h2⟩ := st
    obtain ⟨ys, y, hqy, hsz0, hix, hy⟩ := hg
    obtain ⟨its, rv, p, _⟩ := I.list hqy
    have hl := rv.length
    have zl : z < s.heap.objs.size := Heap.lt_size hz
    have hne : b ≠ i2 := fun q => by
      obtain ⟨o, e, c, _⟩ := h2
      obtain ⟨o', e', c', _⟩ := p.isList
      rw [← q, e'] at e
      cases e
      rw [c'] at c
      injection c with c
      exact absurd c (by decide)
    have DT : Draws Y.prog Y.w Y.A.in1 i1 [i1] x.cps.size (fun i v => ∃ c u, x.cps[i]? = some c ∧ v = .str ⟨#[c]⟩ u) (fun i h => h.IsStrIter i1 (strIterType x) x t i) := draws_text (A := Y.A.in1) (show Y.A.in1.handled = none from I.ok.hd yc) i1 x t
    have DL : Draws Y.prog Y.w Y.A.in1 i2 [i2, b] its.toArray.size (fun i v => its.toArray[i]? = some v) (fun i h => h.IsListIter i2 b i ∧ h.IsList b its.toArray) := .list (A := Y.A.in1) (show Y.A.in1.handled = none from I.ok.hd yc) i2 b hne its.toArray
    refine wpAny_pyNext_zipD2_item D DT DL hz hTI hTO h1 ⟨h2, p.isList⟩ hix (by simp; omega) fun x1 x2 h' tk p1 p2 z' TO' h1' h2' hT hsz hk => ?_
    obtain ⟨c, tc, hcx, rfl⟩ := p1
    obtain ⟨u2, hu2, ru2⟩ := rv.get hy
    have e2 : x2 = u2 := by
      have p2' : its[i]? = some x2 := by simpa using p2
      rw [hu2] at p2'
      exact (Option.some.inj p2').symm
    subst e2
    refine ⟨_, rfl, wpAny_letOwnedTupleGo_zip (s := { s with heap := h', toks := tk }) z' fun g z'' sb => ?_⟩
    have hT2 : g.get? s.heap.objs.size = some { cls := .type "tuple", data := .seq #[.str ⟨#[c]⟩ tc, x2] } := (sb.2 _ (Nat.ne_of_gt zl)).trans hT
    have mk : ObjOk Y.prog Y.w (upd H s.heap.objs.size (.tup [.str ⟨#[c]⟩, y])) g s.heap.objs.size (.tup [.str ⟨#[c]⟩, y]) :=
      ⟨by show 2 ≤ sizeLine; decide, [.str ⟨#[c]⟩ tc, x2], .cons ⟨_, rfl⟩ (.cons ru2 .nil), ⟨_, hT2, rfl, _, rfl⟩⟩
    have J : Inv Y pins σ (upd H s.heap.objs.size (.tup [.str ⟨#[c]⟩, y])) { s with heap := g, toks := tk } :=
      I.turnedNew (t' := tk) (ch := [z, TI, TO, i1, i2]) (fun d o hb q => (sb.2 d (fun q' => hb (by simp [q']))).trans (hk d o (fun q' => hb (by simp [q'])) (fun q' => hb (by simp [q'])) (fun q' => hb (by simp [q'])) (fun q' => hb (by simp [q'])) q)) hf (Nat.le_refl _) mk
    refine ⟨.ref s.heap.objs.size, _, J, rfl, ⟨_, c, y, rfl, I.hok.fresh (Nat.le_refl _), rfl, hcx, fun l hl => by rw [I.list_inj hl hqy]; exact hy⟩, ⟨z'', ?_, ⟨_, _, (sb.2 _ D.TOz).trans TO'⟩, ?_, ?_⟩, fun d hd => ?_⟩
    · exact (sb.2 _ D.TIz).trans (hk _ _ D.TIz D.TITO D.TIi1 D.TIi2 hTI)
    · obtain ⟨o, ho', r⟩ := h1'
      exact ⟨o, (sb.2 _ (Ne.symm D.zi1)).trans ho', r⟩
    · exact h2'.1.at fun o q => (sb.2 _ (Ne.symm D.zi2)).trans q
    · have lt : d < s.heap.objs.size := by
        rcases (show d = z ∨ d = TI ∨ d = TO ∨ d = i1 ∨ d = i2 by simpa using hd) with q | q | q | q | q
        · rw [q]; exact zl
        · rw [q]; exact Heap.lt_size hTI
        · rw [q]; exact Heap.lt_size hTO
        · rw [q]; obtain ⟨_, e1, _⟩ := h1; exact Heap.lt_size e1
        · rw [q]; obtain ⟨_, e2, _⟩ := h2; exact Heap.lt_size e2
      rw [upd_ne (Nat.ne_of_lt lt)]
      exact (hf d hd).1
  done := by
    intro Y y1 y2 y3 yc i pins s σ H E I hf st hg
    subst y1 y2 y3
    obtain ⟨hz, hTI, ⟨u0, v0, hTO⟩, h1, h2⟩ := st
    obtain ⟨ys, hqy, hi, hi2⟩ := hg
    obtain ⟨its, rv, p, _⟩ := I.list hqy
    have hl := rv.length
    have hne : b ≠ i2 := fun q => by
      obtain ⟨o, e, c, _⟩ := h2
      obtain ⟨o', e', c', _⟩ := p.isList
      rw [← q, e'] at e
      cases e
      rw [c'] at c
      injection c with c
      exact absurd c (by decide)
    have DT : Draws Y.prog Y.w Y.A.in1 i1 [i1] x.cps.size (fun i v => ∃ c u, x.cps[i]? = some c ∧ v = .str ⟨#[c]⟩ u) (fun i h => h.IsStrIter i1 (strIterType x) x t i) := draws_text (A := Y.A.in1) (show Y.A.in1.handled = none from I.ok.hd yc) i1 x t
    have DL : Draws Y.prog Y.w Y.A.in1 i2 [i2, b] its.toArray.size (fun i v => its.toArray[i]? = some v) (fun i h => h.IsListIter i2 b i ∧ h.IsList b its.toArray) := .list (A := Y.A.in1) (show Y.A.in1.handled = none from I.ok.hd yc) i2 b hne its.toArray
    exact wpAny_pyNext_zipD2_end D DT DL hz hTI hTO h1 ⟨h2, p.isList⟩ (by omega) (by simp; omega) (.inl hi) fun h' tk hk => ⟨rfl, I.turnedL (t' := tk) (ch := [z, TI, TO, i1, i2]) (fun c o hb q =>
      hk c o (fun q' => hb (by simp [q'])) (fun q' => hb (by simp [q'])) (fun q' => hb (by simp [q'])) (fun q' => hb (by simp [q'])) q) hf⟩
  self := fun A i s Q E st h => wpAny_pyIter_zip st.1 h
def iZipS (K : PySem.W.Frag) (ta : TA) : TI := fun σ H R => ta σ H fun vs H1 => ∃ x b ys, vs = [.str x, .ref b] ∧ SqL K H1 b ys ∧ R (ItZs K x b) H1
theorem sep5 (n b : Nat) (h : b < n) : ZipSep2 (n + 4) (n + 2) (n + 3) n (n + 1) [n] [n + 1, b] where
  TIz := by intro e; exact absurd (show n + 2 = n + 4 from e) (by omega)
  TOz := by intro e; exact absurd (show n + 3 = n + 4 from e) (by omega)
  TITO := by intro e; exact absurd (show n + 2 = n + 3 from e) (by omega)
  TIi1 := by intro e; exact absurd (show n + 2 = n from e) (by omega)
  mem1 := List.mem_cons_self
  zf1 := by intro e; have e := List.mem_singleton.mp e; exact absurd (show n + 4 = n from e) (by omega)
  Tf1 := by intro e; have e := List.mem_singleton.mp e; exact absurd (show n + 3 = n from e) (by omega)
  TIi2 := by intro e; exact absurd (show n + 2 = n + 1 from e) (by omega)
  mem2 := List.mem_cons_self
  zf2 := by
    intro e
    rcases List.mem_cons.mp e with e | e
    · exact absurd (show n + 4 = n + 1 from e) (by omega)
    · exact absurd (show n + 4 = b from List.mem_singleton.mp e) (by omega)
  Tf2 := by
    intro e
    rcases List.mem_cons.mp e with e | e
    · exact absurd (show n + 3 = n + 1 from e) (by omega)
    · exact absurd (show n + 3 = b from List.mem_singleton.mp e) (by omega)
  sep1_2 := by
    intro e
    rcases List.mem_cons.mp e with e | e
    · exact absurd (show n = n + 1 from e) (by omega)
    · exact absurd (show n = b from List.mem_singleton.mp e) (by omega)
  sep2_1 := by intro e; have e := List.mem_singleton.mp e; exact absurd (show n + 1 = n from e) (by omega)
theorem pi_zipS {X : Cx} {e e2 : Expr} {ta : TA} {p pos tpos : Pos} {elts : List Expr} {kk : Nat} (hg : Gl X "zip") (hm : X.mg "zip" = none) (ha : PA X [e, e2] ta)
    (hs : starEach [e, e2] X.env = (false, eval e X.env) :: starEach [e2] X.env := by rfl) (hpl : (backTo pos (starEach [e2] X.env)).any (·.1) = false := by rfl) :
    PI X (.Tuple elts kk tpos) (.Call (.Name "zip" p) [e, e2] [] pos) (iZipS X.K ta) := by
  refine ⟨fun pins s σ H R I h => ?_⟩
  refine Call_ (ld_blt I hg hm PyProof.Rows.boot_zip (PyProof.Rows.callWith_type1 (thn (ha.run pos pins s σ H _ I h) fun us s1 ⟨vs, H1, I1, r1, q1⟩ => ?_) hs hpl))
  obtain ⟨x, b, ys, ex, hqy, q⟩ := q1
  subst ex
  obtain ⟨u, u2, rfl, ⟨t, rfl⟩, ru⟩ := vals2 r1
  obtain rfl : u2 = Value.ref b := ru
  obtain ⟨its, rv, p1, _⟩ := I1.list hqy
  have lb : b < s1.heap.objs.size := p1.lt
  refine zip_begins2 (begins_text x t) (begins_list b its.toArray) trivial p1.isList fun g hz hTI hTO h1 h2 hsz hk => wpAny_pyIter_zip hz ?_
  have J : Inv X pins σ H1 { s1 with heap := g } := I1.kept (t' := s1.toks) hk
  refine ⟨s1.heap.objs.size + 4, [s1.heap.objs.size + 4, s1.heap.objs.size + 2, s1.heap.objs.size + 3, s1.heap.objs.size, s1.heap.objs.size + 1], _, _, H1, rfl, J, turn_zipS (x := x) (t := t) (sep5 s1.heap.objs.size b lb), ⟨hz, hTI, ⟨_, _, hTO⟩, ⟨_, h1, rfl, rfl⟩, ⟨_, h2, rfl, rfl⟩⟩, fun c hc => ?_, q⟩
  have le : s1.heap.objs.size ≤ c := by
    rcases (show c = s1.heap.objs.size + 4 ∨ c = s1.heap.objs.size + 2 ∨ c = s1.heap.objs.size + 3 ∨ c = s1.heap.objs.size ∨ c = s1.heap.objs.size + 1 by simpa using hc) with z | z | z | z | z
    · rw [z]; exact Nat.le_add_right _ _
    · rw [z]; exact Nat.le_add_right _ _
    · rw [z]; exact Nat.le_add_right _ _
    · rw [z]; exact Nat.le_refl _
    · rw [z]; exact Nat.le_add_right _ _
  exact I1.fpOk le (I1.hok.fresh le)
section
variable {K : PySem.W.Frag} {Ps Qs : List Sl} {N : NP} {P P1 P2 : DP} {t u tb : TS} {ta te tl tk tv td : TE} {tr : TA} {tt : TT} {d d1 d2 d3 d4 : PyData} {ds es : List PyData} {b c : Bool} {i j k : Int} {E : XK} {n : Nat}
theorem jw_enumS {z : Str} (h : JE te Ps (dS z)) : JW (iEnumS (tCons te tNil)) Ps (prs (irng z.cps.size fun i => (i : Int)) (z.cps.toList.map sgn)) := fun S B H σ c s Rr q => h S B H σ c s _ fun v H1 r1 c1 p1 => by
  cases (show Da _ v (.str z) from p1)
  refine ⟨z, rfl, jw_pair (B := B) (xs := fun i => some (.int (i : Nat))) (ys := fun i => (z.cps[i]?).map fun c => .str ⟨#[c]⟩) (n := z.cps.size) (Gd := fun _ => True) (by rw [irng_len, List.length_map, Array.length_toList, Nat.min_self]) c1 ⟨fun i H hi _ => hi, fun H _ => rfl, fun i H x H' hi _ y => ?_⟩ (fun _ _ => trivial) (fun i v hi e => ?_) (fun i v hi e => ?_) fun G Y => q _ H1 G Y r1 c1⟩
  · obtain ⟨T, c, rfl, h1, rfl, h2⟩ := y
    exact ⟨T, _, _, rfl, h1, rfl, rfl, by show (z.cps[i]?).map _ = _; rw [h2]; rfl⟩
  · cases e
    exact ⟨_, irng_get hi, .int _⟩
  · have e' : (z.cps[i]?).map (fun c => V.str ⟨#[c]⟩) = some v := e
    rw [Array.getElem?_eq_getElem hi] at e'
    cases e'
    refine ⟨sgn z.cps[i], ?_, .str _⟩
    rw [List.getElem?_map, Array.getElem?_toList, Array.getElem?_eq_getElem hi]
    rfl
theorem jw_zipS {z : Str} (h : JE te Ps (dS z)) (h2 : JE ta Ps (da (.list es))) (hl : es.length = z.cps.size) : JW (iZipS K (tCons te (tCons ta tNil))) Ps (prs (z.cps.toList.map sgn) es) := fun S B H σ c s Rr q => h S B H σ c s _ fun v H1 r1 c1 p1 => h2 S B H1 σ c1 (s.step c r1) _ fun w H2 r2 c2 p2 => by
  cases (show Da _ v (.str z) from p1)
  obtain ⟨a, xs, rfl, g1, g2⟩ := Da.list_inv p2
  have hq : ∀ H', Same (sub H2 S) H' → SqL K H' a xs := fun H' e => SqL.of (e _ _ g1)
  have hlx : z.cps.size = xs.length := by rw [g2.len, hl]
  refine ⟨z, a, xs, rfl, SqL.of (sub_some g1).2, jw_pair (B := B) (xs := fun i => (z.cps[i]?).map fun c => .str ⟨#[c]⟩) (ys := fun i => xs[i]?) (n := z.cps.size) (Gd := fun H' => SqL K H' a xs) (by rw [List.length_map, Array.length_toList, hl, Nat.min_self]) c2 ⟨fun i H hi g => ?_, fun H g => ⟨xs, g, rfl, hlx⟩, fun i H x H' hi g y => ?_⟩ hq (fun i v hi e => ?_) (fun i v hi e => g2.getv e) fun G Y => q _ H2 G Y (r1.trans r2) c2⟩
  · exact ⟨xs, xs[i]'(by omega), g, hlx, hi, List.getElem?_eq_getElem _⟩
  · obtain ⟨T, c, y', rfl, h1, rfl, h3, h4⟩ := y
    exact ⟨T, _, _, rfl, h1, rfl, by show (z.cps[i]?).map _ = _; rw [h3]; rfl, h4 xs g⟩
  · have e' : (z.cps[i]?).map (fun c => V.str ⟨#[c]⟩) = some v := e
    rw [Array.getElem?_eq_getElem hi] at e'
    cases e'
    refine ⟨sgn z.cps[i], ?_, .str _⟩
    rw [List.getElem?_map, Array.getElem?_toList, Array.getElem?_eq_getElem hi]
    rfl
end
end LK
/-! text K7 -/
namespace LK
open PySem PySem.Spec PyProof.Rows L2
theorem atI_nat {α : Type} {xs : List α} {j : Nat} (h : j < xs.length) : atI xs (j : Int) = xs[j]? := by
  unfold atI ixN
  rw [if_pos (by omega), if_pos (by omega)]
  rfl
theorem atI_get {α : Type} {xs : List α} {j : Nat} {x : α} (h : xs[j]? = some x) : atI xs (j : Int) = some x := by
  rw [atI_nat (List.getElem?_eq_some_iff.mp h).1, h]
theorem ixN_nat {n j : Nat} (h : j < n) : ixN n (j : Int) = some j := by
  unfold ixN
  rw [if_pos (by omega), if_pos (by omega)]
  rfl
theorem InL.get {S : AS} {B : Option Addr} {H : Hp} : ∀ {as : List Addr} {dss : List (List PyData)} {j : Nat} {ds : List PyData}, InL S B H as dss → dss[j]? = some ds → ∃ a xs, as[j]? = some a ∧ S a ∧ B ≠ some a ∧ H a = some (.lst xs) ∧ DaAll (sub H S) xs ds
  | _, _, _, _, .nil, h => by simp at h
  | _, _, 0, _, .cons h1 h2 h3 h4 _, h => by
    simp at h
    subst h
    exact ⟨_, _, rfl, h1, h2, h3, h4⟩
  | _, _, j + 1, _, .cons _ _ _ _ t, h => by
    obtain ⟨a, xs, g1, g2⟩ := InL.get (j := j) t (by simpa using h)
    exact ⟨a, xs, by simpa using g1, g2⟩
theorem InL.put {S : AS} {B : Option Addr} {H : Hp} {a : Addr} {xs : List V} {ds : List PyData} (hS : S a) (hd : DaAll (sub H S) xs ds) : ∀ {as : List Addr} {dss : List (List PyData)} {j : Nat}, InL S B H as dss → as.Nodup → as[j]? = some a → InL S B (upd H a (.lst xs)) as (dss.set j ds)
  | _, _, _, .nil, _, h => by simp at h
  | _, _, 0, .cons h1 h2 h3 h4 t, n, h => by
    simp at h
    subst h
    refine .cons h1 h2 upd_same (by rw [sub_upd hS]; exact hd) (t.ups hS (List.nodup_cons.mp n).1)
  | _, _, j + 1, @InL.cons _ _ _ b as _ _ _ h1 h2 h3 h4 t, n, h => by
    have h' : as[j]? = some a := by simpa using h
    have nb : b ≠ a := fun e => (List.nodup_cons.mp n).1 (e ▸ List.mem_of_getElem? h')
    exact .cons h1 h2 (by rw [upd_ne nb]; exact h3) (by rw [sub_upd hS]; exact h4) (InL.put hS hd t (List.nodup_cons.mp n).2 h')
theorem boxO_ix {K : PySem.W.Frag} {t : Bool} {H : Hp} {p : Addr} {xs : List V} {k : Nat} {v : V} {Q : VK} (h : H p = some (boxO t xs)) (hv : xs[k]? = some v) (q : Q v H) : rIx K (.ref p) (.int (k : Int)) H Q := by
  cases t with
  | true => exact .inr (.inl ⟨p, xs, k, v, rfl, rfl, SqT.of h, atI_get hv, q⟩)
  | false => exact .inl ⟨p, xs, k, v, rfl, rfl, SqL.of h, atI_get hv, q⟩
section
variable {K : PySem.W.Frag} {Ps Qs : List Sl} {N : NP} {P P1 P2 : DP} {t u tb : TS} {ta te t1 t2 tl tk tv td : TE} {tr : TA} {tt : TT} {d d1 d2 d3 d4 : PyData} {ds es : List PyData} {b c : Bool} {i j k : Nat} {E : XK} {n m : Nat} {as : List Addr} {dss : List (List PyData)}
/-- a list of a list, read -/
theorem j_ixIn {x : Int} (hm : Ps[m]? = some (.ll b as dss)) (h1 : JE t1 Ps (dI (j : Int))) (h2 : JE t2 Ps (dI x)) (hj : dss[j]? = some ds) (hx : atI ds x = some d) : JE (tOp (rIx K) (tOp (rIx K) (tVar m) t1) t2) Ps (da d) := fun S B H σ c s Q q => by
  obtain ⟨v, g1, p, rfl, g2, g3, g4, g5, g6, g7⟩ := s.get hm (by intro z; cases z)
  refine ⟨_, g1, h1 S B H σ c s _ fun y H1 r1 c1 p1 => ?_⟩
  cases (show Da _ y (.int j) from p1)
  obtain ⟨a, xs, e1, e2, e3, e4, e5⟩ := g7.get hj
  refine boxO_ix ((r1 _ _ g4).1 g3) (v := .ref a) (by rw [List.getElem?_map, e1]; rfl) ?_
  refine h2 S B H1 σ c1 (s.step c r1) _ fun y H2 r2 c2 p2 => ?_
  cases (show Da _ y (.int x) from p2)
  obtain ⟨w, w1, w2⟩ := atI_da e5 hx
  exact .inl ⟨a, xs, x, w, rfl, rfl, SqL.of (((r1.trans r2) _ _ e4).1 e3), w1, q _ H2 (r1.trans r2) c2 (w2.mono ((r1.trans r2).sub c))⟩
/-- an item of the box, by its address -/
theorem j_ixAl {a : Addr} (hm : Ps[m]? = some (.ll b as dss)) (h1 : JE t1 Ps (dI (j : Int))) (ha : as[j]? = some a) : JE (tOp (rIx K) (tVar m) t1) Ps (cst (.ref a)) := fun S B H σ c s Q q => by
  obtain ⟨v, g1, p, rfl, g2, g3, g4, g5, g6, g7⟩ := s.get hm (by intro z; cases z)
  refine ⟨_, g1, h1 S B H σ c s _ fun y H1 r1 c1 p1 => ?_⟩
  cases (show Da _ y (.int j) from p1)
  exact boxO_ix ((r1 _ _ g4).1 g3) (v := .ref a) (by rw [List.getElem?_map, ha]; rfl) (q _ H1 r1 c1 rfl)
theorem ll_get {a : Addr} {S : AS} {B : Option Addr} {H : Hp} (g7 : InL S B H as dss) (ha : as[j]? = some a) (hj : dss[j]? = some ds) : ∃ xs, S a ∧ B ≠ some a ∧ H a = some (.lst xs) ∧ DaAll (sub H S) xs ds := by
  obtain ⟨a', xs, e1, e2⟩ := g7.get hj
  rw [ha] at e1
  cases e1
  exact ⟨xs, e2⟩
theorem j_lenAl {a : Addr} (hn : Ps[n]? = some (.pl (cst (.ref a)))) (hm : Ps[m]? = some (.ll b as dss)) (ha : as[j]? = some a) (hj : dss[j]? = some ds) : JE (tCB (rLenX K) (tCons (tVar n) tNil)) Ps (dI (ds.length : Int)) := fun S B H σ c s Q q => by
  obtain ⟨v, g1, e⟩ := s.get hn (by intro z; cases z)
  cases (show v = .ref a from e)
  obtain ⟨v, g1', p, rfl, g2, g3, g4, g5, g6, g7⟩ := s.get hm (by intro z; cases z)
  obtain ⟨xs, e2, e3, e4, e5⟩ := ll_get g7 ha hj
  exact ⟨_, g1, _, ds.length, rfl, .inl ⟨xs, SqL.of e4, e5.len.symm⟩, q _ H (R.refl H) c (.int _)⟩
theorem j_slAl {a : Addr} {tl th : TO} {lo hi : Option Int} (hn : Ps[n]? = some (.pl (cst (.ref a)))) (hm : Ps[m]? = some (.ll b as dss)) (ha : as[j]? = some a) (hj : dss[j]? = some ds) (h1 : JO tl Ps lo) (h2 : JO th Ps hi) : JE (tSl (rSlL K) (tVar n) tl th) Ps (da (.list (cutD ds lo hi))) := fun S B H σ c s Q q => by
  obtain ⟨v, g1, e⟩ := s.get hn (by intro z; cases z)
  cases (show v = .ref a from e)
  obtain ⟨v, g1', p, rfl, g2, g3, g4, g5, g6, g7⟩ := s.get hm (by intro z; cases z)
  obtain ⟨xs, e2, e3, e4, e5⟩ := ll_get g7 ha hj
  refine ⟨_, g1, h1 S B H σ c s _ fun H2 r2 c2 => h2 S B H2 σ c2 (s.step c r2) _ fun H3 r3 c3 => ⟨a, xs, rfl, SqL.of (((r2.trans r3) _ _ e4).1 e3), fun p hp => ?_⟩⟩
  have e := same_upd (o := .lst (cutV xs lo hi)) hp
  refine q _ _ ((r2.trans r3).trans (.of e)) (c3.same e) (.lst ?_ ((cutV_da e5 lo hi).mono fun a o z => sub_same e a o ((r2.trans r3).sub c a o z)))
  rw [sub_in (c3.fresh hp), upd_same]
/-- an inner list is written -/
theorem AtS.wrIn {S0 : AS} {B : Option Addr} {H0 G : Hp} {S : AS} {H : Hp} {σ : L2.St} {a : Addr} {xs : List V} (x : AtS S0 B H0 G S Ps σ H) (hm : Ps[m]? = some (.ll b as dss)) (ha : as[j]? = some a) (hd : DaAll (sub H S) xs ds) : AtS S0 B H0 G S (Ps.set m (.ll b as (dss.set j ds))) σ (upd H a (.lst xs)) := by
  obtain ⟨v, g1, p, rfl, g2, g3, g4, g5, g6, g7⟩ := x.sl.get hm (by intro z; cases z)
  have hmem := List.mem_of_getElem? ha
  obtain ⟨e2, e3, _⟩ := g7.mem hmem
  have np : p ≠ a := fun z => g5 (z ▸ hmem)
  exact x.wr hm g1 (s' := .ll b as (dss.set j ds)) (.inr hmem) ⟨p, rfl, g2, g3, by rw [upd_ne np]; exact g4, g5, g6, g7.put e2 hd g6 ha⟩ fun c z => .inl z
theorem js_appAl {a : Addr} (hn : Ps[n]? = some (.pl (cst (.ref a)))) (hm : Ps[m]? = some (.ll b as dss)) (ha : as[j]? = some a) (hj : dss[j]? = some ds) (h : JE te Ps (da d)) (hz : ds.length < 100000) : JS (tDrop (tBM K "list" rAppend (tVar n) (tCons te tNil))) Ps (Is (Ps.set m (.ll b as (dss.set j (ds ++ [d]))))) P := fun S0 B H0 G D σ H ⟨S, x⟩ nx r => by
  obtain ⟨v, g1, e⟩ := x.sl.get hn (by intro z; cases z)
  cases (show v = .ref a from e)
  obtain ⟨v, g1', p, rfl, g2, g3, g4, g5, g6, g7⟩ := x.sl.get hm (by intro z; cases z)
  obtain ⟨xs, e2, e3, e4, e5⟩ := ll_get g7 ha hj
  refine ⟨_, g1, .inl ⟨rfl, xs, SqL.of e4⟩, h S B H σ x.cond x.sl _ fun y H1 r1 c1 p1 => ⟨a, xs, y, rfl, rfl, (r1 _ _ e4).1 e3, by rw [e5.len]; exact Nat.lt_of_lt_of_le hz (by decide), nx _ _ _ rfl ⟨S, (x.step r1 c1).wrIn hm ha ((e5.mono (r1.sub x.cond)).append (.cons p1 .nil))⟩⟩⟩
/-- xs[i].append(e) -/
theorem js_appIn (hm : Ps[m]? = some (.ll b as dss)) (h1 : JE t1 Ps (dI (j : Int))) (hj : dss[j]? = some ds) (h : JE te Ps (da d)) (hz : ds.length < 100000) : JS (tDrop (tBM K "list" rAppend (tOp (rIx K) (tVar m) t1) (tCons te tNil))) Ps (Is (Ps.set m (.ll b as (dss.set j (ds ++ [d]))))) P := fun S0 B H0 G D σ H ⟨S, x⟩ nx r => by
  obtain ⟨v, g1, p, rfl, g2, g3, g4, g5, g6, g7⟩ := x.sl.get hm (by intro z; cases z)
  obtain ⟨a, xs, ha, e2, e3, e4, e5⟩ := g7.get hj
  refine ⟨_, g1, h1 S B H σ x.cond x.sl _ fun y H1 r1 c1 p1 => ?_⟩
  cases (show Da _ y (.int j) from p1)
  have x1 := x.step r1 c1
  have e4' := (r1 _ _ e4).1 e3
  refine boxO_ix ((r1 _ _ g4).1 g3) (v := .ref a) (by rw [List.getElem?_map, ha]; rfl) ?_
  refine ⟨.inl ⟨rfl, xs, SqL.of e4'⟩, h S B H1 σ c1 x1.sl _ fun y H2 r2 c2 p2 => ⟨a, xs, y, rfl, rfl, (r2 _ _ e4').1 e3, by rw [e5.len]; exact Nat.lt_of_lt_of_le hz (by decide), nx _ _ _ rfl ⟨S, (x1.step r2 c2).wrIn hm ha ((e5.mono ((r1.trans r2).sub x.cond)).append (.cons p2 .nil))⟩⟩⟩
/-- xs[i][k] = e -/
theorem js_setIn (hm : Ps[m]? = some (.ll b as dss)) (hv : JE tv Ps (da d)) (h1 : JE t1 Ps (dI (j : Int))) (h2 : JE t2 Ps (dI (k : Int))) (hj : dss[j]? = some ds) (hk : k < ds.length) : JS (tAsg tv (gSub (tOp (rIx K) (tVar m) t1) t2 rSetL)) Ps (Is (Ps.set m (.ll b as (dss.set j (ds.set k d))))) P := fun S0 B H0 G D σ H ⟨S, x⟩ nx r =>
  hv S B H σ x.cond x.sl _ fun y H1 r1 c1 p1 => by
    have x1 := x.step r1 c1
    obtain ⟨v, g1, p, rfl, g2, g3, g4, g5, g6, g7⟩ := x1.sl.get hm (by intro z; cases z)
    obtain ⟨a, xs, ha, e2, e3, e4, e5⟩ := g7.get hj
    refine ⟨_, g1, h1 S B H1 σ c1 x1.sl _ fun z H2 r2 c2 p2 => ?_⟩
    cases (show Da _ z (.int j) from p2)
    have x2 := x1.step r2 c2
    refine boxO_ix ((r2 _ _ g4).1 g3) (v := .ref a) (by rw [List.getElem?_map, ha]; rfl) ?_
    refine h2 S B H2 σ c2 x2.sl _ fun z H3 r3 c3 p3 => ?_
    cases (show Da _ z (.int k) from p3)
    refine ⟨a, xs, k, k, rfl, rfl, ((r2.trans r3) _ _ e4).1 e3, ixN_nat (by rw [e5.len]; exact hk), nx _ _ _ rfl ⟨S, (x2.step r3 c3).wrIn hm ha ((e5.mono ((r2.trans r3).sub c1)).set (Da.mono ((r2.trans r3).sub c1) p1) k)⟩⟩
/-- found.append(e), e a list of its own -/
theorem js_appLL (hm : Ps[m]? = some (.ll false as dss)) (h : JN te Ps (.ol ds)) (hz : as.length < 100000) : JS (tDrop (tBM K "list" rAppend (tVar m) (tCons te tNil))) Ps (fun Qs => ∃ a, a ∉ as ∧ Qs = Ps.set m (.ll false (as ++ [a]) (dss ++ [ds]))) P := fun S0 B H0 G D σ H ⟨S, x⟩ nx r => by
  obtain ⟨v, g1, p, rfl, g2, g3, g4, g5, g6, g7⟩ := x.sl.get hm (by intro z; cases z)
  have g4' : H p = some (.lst (as.map .ref)) := g4
  refine ⟨_, g1, .inl ⟨rfl, _, SqL.of g4'⟩, h S B H σ x.cond x.sl _ fun y H1 S1 e1 p1 f1 => ?_⟩
  obtain ⟨a, xs, rfl, q2, q3, q4, q5⟩ := p1
  have ha : H a = none := f1 a rfl
  have x1 := x.ext e1
  have g4'' := (e1.r _ _ g4').1 g3
  have na : a ∉ as := fun z => by
    obtain ⟨_, _, ys, q⟩ := g7.mem z
    rw [ha] at q
    cases q
  have npa : p ≠ a := ne_of_none g4' ha
  refine ⟨p, as.map .ref, .ref a, rfl, rfl, g4'', by rw [List.length_map]; exact Nat.lt_of_lt_of_le hz (by decide), nx _ _ _ ⟨a, na, rfl⟩ ⟨S1, x1.wr hm g1 (s' := .ll false (as ++ [a]) (dss ++ [ds])) (.inl rfl) ⟨p, rfl, e1.up _ g2, g3, ?_, ?_, ?_, ?_⟩ fun c z => ?_⟩⟩
  · rw [upd_same, List.map_append]; rfl
  · intro z
    rcases List.mem_append.mp z with z | z
    · exact g5 z
    · exact npa (List.mem_singleton.mp z)
  · rw [List.nodup_append]
    refine ⟨g6, by simp, fun x hx y hy e => na ?_⟩
    rw [← List.mem_singleton.mp hy, ← e]
    exact hx
  · have il : InL S1 B (upd H1 p (.lst (as.map .ref ++ [.ref a]))) as dss := (g7.ext e1).ups (e1.up _ g2) g5
    have snoc : ∀ {as : List Addr} {dss : List (List PyData)}, InL S1 B (upd H1 p (.lst (as.map .ref ++ [.ref a]))) as dss → True := fun _ => trivial
    have ap : ∀ {as' : List Addr} {dss' : List (List PyData)} {H' : Hp}, InL S1 B H' as' dss' → B ≠ some a → S1 a → H' a = some (.lst xs) → DaAll (sub H' S1) xs ds → InL S1 B H' (as' ++ [a]) (dss' ++ [ds]) := by
      intro as' dss' H' q h1 h2 h3 h4
      exact InL.rec (motive := fun as' dss' _ => InL S1 B H' (as' ++ [a]) (dss' ++ [ds])) (.cons h2 h1 h3 h4 .nil) (fun e1 e2 e3 e4 _ ih => .cons e1 e2 e3 e4 ih) q
    exact ap il q3 q2 (by rw [upd_ne (Ne.symm npa)]; exact q4) (by rw [sub_upd (e1.up _ g2)]; exact q5)
  · rcases z with z | z
    · exact .inl (.inl z)
    · rcases List.mem_append.mp z with z | z
      · exact .inl (.inr z)
      · rw [List.mem_singleton.mp z]
        exact .inr (x.free ha m)
/-- = an empty box -/
theorem js_newLL0 : JS (tAsg (tLst tNil) (gName m)) Ps (Is (Ps.set m (.ll false [] []))) P := (js_newLs (dss := []) jax_nil (by decide)).imp fun Qs ⟨as, h1, _, h2⟩ => by
  have : as = [] := List.eq_nil_of_length_eq_zero h1
  subst this
  exact h2
/-! ### while -/
theorem js_while {tc : TT} {k : Nat} (I : Nat → NP) (h0 : Wk (I k) Ps) (hs : ∀ (k : Nat) (Qs : List Sl), I k Qs → ∃ b, JT tc Qs b ∧ (b = true → JS tb Qs (Wk fun Rs => ∃ l, l < k ∧ I l Rs) P) ∧ (b = false → N Qs)) : JS (tWhile tc tb) Ps N P := fun S0 B H0 G D σ H ⟨S, x⟩ nx r => by
  obtain ⟨Qs, w0, q0⟩ := h0
  refine ⟨fun k σ' H' => ∃ Rs, I k Rs ∧ At S0 B H0 G Rs σ' H', ⟨k, Qs, q0, S, x.weak w0⟩, ?_⟩
  rintro k σ' H' ⟨Rs, hR, S1, x1⟩
  obtain ⟨b, hc, ht, hf⟩ := hs k Rs hR
  refine hc S1 B H' σ' x1.cond x1.sl _ fun H1 r1 c1 => ?_
  have x2 := x1.step r1 c1
  cases b with
  | true =>
    refine iteT ⟨fun σ H => ∃ l, l < k ∧ ∃ Rs, I l Rs ∧ At S0 B H0 G Rs σ H, fun σ H z => z, ?_⟩
    refine ht rfl S0 B H0 G _ σ' H1 ⟨S1, x2⟩ (fun Us σ2 H2 ⟨Vs, w, l, hl, hI⟩ ⟨S2, y⟩ => ⟨l, hl, Vs, hI, S2, y.weak w⟩) fun v H2 f => r v H2 f
  | false => exact iteF (nx Rs σ' H1 (hf rfl) ⟨S1, x2⟩)
end
end LK
/-! text K8 -/
namespace LK
open PySem PySem.Spec PyProof.Rows L2
/-! ### books -/
abbrev Bk := Int × List (Int × Int)
def chgD (p : Int × Int) : PyData := .tuple [.int p.1, .int p.2]
def chD (b : Bk) : PyData := .tuple (b.2.map chgD)
def prD (b : Bk) : PyData := .tuple (.int b.1 :: b.2.map fun p => .int p.2)
def isBk (C : Addr) (b : Bk) : DP := ⟨fun H v => ∃ a dx x1 x2, v = .ref a ∧ H a = some (.ins C dx [("its_changes", x1), ("its_prices", x2)]) ∧ Da H x1 (chD b) ∧ Da H x2 (prD b), fun e ⟨a, dx, x1, x2, h1, h2, h3, h4⟩ => ⟨a, dx, x1, x2, h1, e _ _ h2, h3.mono e, h4.mono e⟩⟩
section
variable {K : PySem.W.Frag} {Ps Qs : List Sl} {N : NP} {P P1 P2 P3 : DP} {t u tb : TS} {ta te t1 t2 tl tk tv td : TE} {tr : TA} {tt : TT} {d d1 d2 d3 d4 : PyData} {ds es : List PyData} {b c : Bool} {i j k : Int} {E : XK} {n m : Nat} {C : Addr} {bk : Bk}
theorem j_fldC (hc : Cls K C) (hn : NoAttr K C "its_changes") (h : JE te Ps (isBk C bk)) : JE (tFld K te "its_changes") Ps (da (chD bk)) := fun S B H σ c s Q q => h S B H σ c s _ fun v H1 r1 c1 ⟨a, dx, x1, x2, e1, e2, e3, e4⟩ =>
  ⟨a, C, dx, _, x1, e1, (sub_some e2).2, hc, hn, rfl, q _ H1 r1 c1 e3⟩
theorem j_fldP (hc : Cls K C) (hn : NoAttr K C "its_prices") (h : JE te Ps (isBk C bk)) : JE (tFld K te "its_prices") Ps (da (prD bk)) := fun S B H σ c s Q q => h S B H σ c s _ fun v H1 r1 c1 ⟨a, dx, x1, x2, e1, e2, e3, e4⟩ =>
  ⟨a, C, dx, _, x2, e1, (sub_some e2).2, hc, hn, rfl, q _ H1 r1 c1 e4⟩
theorem j_meth {α : Type} {ins : α → List DP} {pre : α → Prop} {out : α → DP} {mn : Str} {Qs : List DP} (x : α) (h : JE te Ps (isBk C bk)) (hm : mn ≠ "its_changes" ∧ mn ≠ "its_prices") (ht : JA tr Ps Qs) (hx : ins x = isBk C bk :: Qs) (hp : pre x) : JE (tMeth C mn (PureSp ins pre out) [] E te tr) Ps (out x) := fun S B H σ c s Q q =>
  h S B H σ c s _ fun v H1 r1 c1 pv => by
    have pv' := pv
    obtain ⟨a, dx, x1, x2, e1, e2, e3, e4⟩ := pv
    refine ⟨a, dx, _, e1, (sub_some e2).2, ?_, ht S B H1 σ c1 (s.step c r1) _ fun vs H2 r2 c2 p2 => ⟨S, x, c2.live, hp, ?_, fun v H3 e3 p3 => q v H3 ((r1.trans r2).trans (.of e3)) (c2.same e3) p3⟩⟩
    · rw [List.lookup_cons, show (mn == ("its_changes" : Str)) = false from beq_eq_false_iff_ne.mpr hm.1, List.lookup_cons, show (mn == ("its_prices" : Str)) = false from beq_eq_false_iff_ne.mpr hm.2]
      rfl
    · rw [hx, List.append_nil]
      exact .cons ((isBk C bk).mono (r2.sub c1) pv') p2
/-- a list or a tuple -/
def seqD (b : Bool) (ds : List PyData) : PyData := if b then .tuple ds else .list ds
/-- what __init__ gets -/
def InitSp (C : Addr) : Sp := fun vs H Q _ => ∃ (S : AS) (bk : Bk) (b : Bool) (a dx : Addr) (u1 u2 : V), vs = [.ref a, u1, u2] ∧ S a ∧ (∀ a, S a → ∃ o, H a = some o) ∧ H a = some (.ins C dx []) ∧ Da (sub H S) u1 (.int bk.1) ∧ Da (sub H S) u2 (seqD b (bk.2.map chgD)) ∧
  (0 ≤ bk.1 ∧ (∀ p ∈ bk.2, 0 ≤ p.2) ∧ bk.2.length ≤ 1000 ∧ ∀ i, i + 1 < bk.2.length → ∀ p q, bk.2[i]? = some p → bk.2[i + 1]? = some q → p.1 < q.1) ∧
  ∀ H' x1 x2, (∀ c o, c ≠ a → H c = some o → H' c = some o) → H' a = some (.ins C dx [("its_changes", x1), ("its_prices", x2)]) → Da (sub H' S) x1 (chD bk) → Da (sub H' S) x2 (prD bk) → Q .non H'
theorem j_mk (h1 : JE t1 Ps (dI bk.1)) (h2 : JE t2 Ps (exP (fun _ : Bool => True) fun b => da (seqD b (bk.2.map chgD))))
    (hb : 0 ≤ bk.1 ∧ (∀ p ∈ bk.2, 0 ≤ p.2) ∧ bk.2.length ≤ 1000 ∧ ∀ i, i + 1 < bk.2.length → ∀ p q, bk.2[i]? = some p → bk.2[i + 1]? = some q → p.1 < q.1) : JE (tMake C (InitSp C) [] E (tCons t1 (tCons t2 tNil))) Ps (isBk C bk) := fun S B H σ c s Q q =>
  h1 S B H σ c s _ fun u1 H1 r1 c1 p1 => h2 S B H1 σ c1 (s.step c r1) _ fun u2 H2 r2 c2 ⟨b, _, p2⟩ x dx hx hdx hne => by
    have n1 : upd H2 dx (.own x) x = none := by rw [upd_ne (Ne.symm hne)]; exact hx
    have s1 := same_upd (o := HO.own x) hdx
    have s2 := same_upd (o := HO.ins C dx []) n1
    have sm : Same H2 (upd (upd H2 dx (.own x)) x (.ins C dx [])) := s1.trans s2
    have nx : ¬ S x := c2.fresh hx
    have kn : Same (sub H2 S) (sub (upd (upd H2 dx (.own x)) x (.ins C dx [])) fun a => S a ∨ a = x) := fun a o ha => by
      obtain ⟨g1, g2⟩ := sub_some ha
      rw [sub_in fun z => z.elim g1 (ne_of_none g2 hx)]
      exact sm a o g2
    refine ⟨fun a => S a ∨ a = x, bk, b, x, dx, u1, u2, rfl, .inr rfl, fun a ha => ?_, upd_same, Da.mono ((r2.sub c1).trans kn) p1, Da.mono kn p2, hb, fun H3 x1 x2 k1 k2 k3 k4 => ⟨rfl, ?_⟩⟩
    · rcases ha with ha | ha
      · obtain ⟨o, ho⟩ := c2.live a ha
        exact ⟨o, sm a o ho⟩
      · exact ⟨_, by rw [ha, upd_same]⟩
    · have s3 : Same H2 H3 := fun a o ha => k1 a o (ne_of_none ha hx) (sm a o ha)
      have ks : Same (sub H3 fun a => S a ∨ a = x) (sub H3 S) := sub_mono fun a z => .inl z
      exact q _ H3 ((r1.trans r2).trans (.of s3)) (c2.same s3) ⟨x, dx, x1, x2, rfl, by rw [sub_in nx]; exact k2, k3.mono ks, k4.mono ks⟩
/-- len of a book -/
theorem j_lenBk {α : Type} {ins : α → List DP} {pre : α → Prop} {out : α → DP} (x : α) (h : JE te Ps (isBk C bk)) (hx : ins x = [isBk C bk]) (hp : pre x) (ho : out x = dI (n : Int)) (hn : n < 1000000) : JE (tCB (rLenOwn K C (PureSp ins pre out)) (tCons te tNil)) Ps (dI (n : Int)) := fun S B H σ c s Q q =>
  h S B H σ c s _ fun v H1 r1 c1 pv => by
    have pv' := pv
    obtain ⟨a, dx, x1, x2, rfl, e2, e3, e4⟩ := pv
    refine ⟨a, dx, _, rfl, (sub_some e2).2, S, x, c1.live, hp, by rw [hx]; exact .cons pv' .nil, fun v H2 e2 p2 => ?_⟩
    rw [ho] at p2
    cases (show Da _ v (.int n) from p2)
    exact ⟨n, rfl, Int.lt_of_lt_of_le (show (n : Int) < 1000000 by omega) (by decide), q _ H2 (r1.trans (.of e2)) (c1.same e2) (.int _)⟩
/-! ### a name that holds one of two defs -/
theorem j_callV {α : Type} {ins : α → List DP} {pre1 pre2 : α → Prop} {out1 out2 : α → DP} {f1 f2 : Addr} (x : α) (hn : Ps[n]? = some (.pl (cst (.ref (if b then f1 else f2))))) (h : JA tr Ps (ins x)) (hp1 : b = true → pre1 x) (hp2 : b = false → pre2 x) : JE (C8.tCallV n f1 f2 (PureSp ins pre1 out1) (PureSp ins pre2 out2) tr) Ps (if b then out1 x else out2 x) := fun S B H σ c s Q q => by
  obtain ⟨v, g1, e⟩ := s.get hn (by intro z; cases z)
  cases (show v = .ref (if b then f1 else f2) from e)
  cases b with
  | true => exact .inl ⟨g1, h S B H σ c s _ fun vs H1 r1 c1 p1 => ⟨S, x, c1.live, hp1 rfl, p1, fun v H2 e2 p2 => q v H2 (r1.trans (.of e2)) (c1.same e2) p2⟩⟩
  | false => exact .inr ⟨g1, h S B H σ c s _ fun vs H1 r1 c1 p1 => ⟨S, x, c1.live, hp2 rfl, p1, fun v H2 e2 p2 => q v H2 (r1.trans (.of e2)) (c1.same e2) p2⟩⟩
/-! ### the dicts of two signs -/
theorem jn_disp (h1 : JE t1 Ps (da d1)) (h2 : JE t2 Ps (da d2)) : JN (tDisp [(tC (.str "L"), t1), (tC (.str "T"), t2)]) Ps (.ok d1 d2) := fun S B H σ c s Q q p hp => by
  have e0 : Ext S B H (fun a => S a ∨ a = p) (upd H p (.dK [])) := .new c hp
  refine h1 _ B _ σ e0.c (s.ext e0) _ fun x H1 r1 c1 p1 => h2 _ B H1 σ c1 ((s.ext e0).step e0.c r1) _ fun y H2 r2 c2 p2 => ?_
  have nb : B ≠ some p := c.nb hp
  refine ⟨((r1.trans r2) p _ upd_same).1 nb, [(.inr "L", x), (.inr "T", y)], rfl, by show 2 ≤ 15; decide, ?_⟩
  have hS : (fun a => S a ∨ a = p) p := .inr rfl
  have r3 : R B H (upd H2 p (.dK (mergeK [] [(.inr "L", x), (.inr "T", y)]))) := fun a o ha => by
    have na : a ≠ p := ne_of_none ha hp
    rw [upd_ne na]
    exact ((e0.r.trans r1).trans r2) a o ha
  have c3 : Cond (fun a => S a ∨ a = p) B (upd H2 p (.dK (mergeK [] [(.inr "L", x), (.inr "T", y)]))) := ⟨fun a ha => by
    by_cases e : a = p
    · exact ⟨_, by rw [e, upd_same]⟩
    · rw [upd_ne e]; exact c2.live a ha, fun b hb => ⟨(c2.bag b hb).1, by
    obtain ⟨x0, x1, x2, cc, ns, g1, g2, g3, g4, g5, g6, g7, g8⟩ := (c2.bag b hb).2
    have n1 : b ≠ p := fun z => nb (by rw [← z]; exact hb)
    have n2 : cc ≠ p := fun z => g6 (.inr z)
    exact ⟨x0, x1, x2, cc, ns, by rw [upd_ne n1]; exact g1, g2, g3, g4, g5, g6, by rw [upd_ne n2]; exact g7, g8⟩⟩⟩
  refine q _ _ (fun a => S a ∨ a = p) ⟨fun a z => .inl z, fun a z => z.imp id fun e => by rw [e]; exact hp, c, c3, r3⟩ ⟨p, x, y, rfl, hS, nb, upd_same, ?_, ?_⟩ fun a z => by cases z; exact hp
  · rw [sub_upd hS]; exact Da.mono (r2.sub c1) p1
  · rw [sub_upd hS]; exact p2
def isLT (x : Str) : Prop := x = "L" ∨ x = "T"
theorem lt_ne : ("L" : Str) ≠ "T" := by decide
theorem valL {x y : V} : valV [((.inr "L" : Key), x), (.inr "T", y)] (.inr "L") = some x := rfl
theorem valT {x y : V} : valV [((.inr "L" : Key), x), (.inr "T", y)] (.inr "T") = some y := rfl
theorem j_dgetLT {z : Str} (hn : Ps[n]? = some (.ok d1 d2)) (h : JE te Ps (dS z)) (hz : isLT z) : JE (tDGet (tVar n) te) Ps (da (if z = "L" then d1 else d2)) := fun S B H σ c s Q q => by
  obtain ⟨v, g1, a, v1, v2, rfl, g2, g3, g4, g5, g6⟩ := s.get hn (by intro z; cases z)
  refine ⟨_, g1, h S B H σ c s _ fun y H1 r1 c1 p1 => ?_⟩
  cases (show Da _ y (.str z) from p1)
  have g4' := (r1 _ _ g4).1 g3
  rcases hz with rfl | rfl
  · exact ⟨a, v1, rfl, DGet.k (k := .inr "L") g4', by rw [if_pos rfl] at q; exact q _ H1 r1 c1 (g5.mono (r1.sub c))⟩
  · exact ⟨a, v2, rfl, DGet.k (k := .inr "T") g4', by rw [if_neg (Ne.symm lt_ne)] at q; exact q _ H1 r1 c1 (g6.mono (r1.sub c))⟩
/-- met[letter] += 1 -/
theorem js_daugLT {z : Str} (hn : Ps[n]? = some (.ok (.int i) (.int j))) (h : JE te Ps (dS z)) (hv : JE tv Ps (dI k)) (hz : isLT z) : JS (sDAug (tVar n) te tv rAdd) Ps (Is (Ps.set n (.ok (.int (if z = "L" then i + k else i)) (.int (if z = "L" then j else j + k))))) P := fun S0 B H0 G D σ H ⟨S, x⟩ nx r => by
  obtain ⟨v, g1, a, v1, v2, rfl, g2, g3, g4, g5, g6⟩ := x.sl.get hn (by intro z; cases z)
  cases g5
  cases g6
  refine ⟨_, g1, h S B H σ x.cond x.sl _ fun y H1 r1 c1 p1 => ?_⟩
  cases (show Da _ y (.str z) from p1)
  have x1 := x.step r1 c1
  have g4' := (r1 _ _ g4).1 g3
  rcases hz with rfl | rfl
  · refine ⟨a, .int i, rfl, DGet.k (k := .inr "L") g4', hv S B H1 σ c1 x1.sl _ fun y2 H2 r2 c2 p2 => ?_⟩
    cases (show Da _ y2 (.int k) from p2)
    refine ⟨i, k, rfl, rfl, _, .inl ⟨_, .inr "L", (r2 _ _ g4').1 g3, rfl, by show 2 < sizeLine; decide, rfl⟩, nx _ _ _ rfl ⟨S, ?_⟩⟩
    exact (x1.step r2 c2).wr hn g1 rfl ⟨a, .int (i + k), .int j, rfl, g2, g3, upd_same, by rw [if_pos rfl]; exact .int _, by rw [if_pos rfl]; exact .int _⟩ fun c z => .inl z
  · refine ⟨a, .int j, rfl, DGet.k (k := .inr "T") g4', hv S B H1 σ c1 x1.sl _ fun y2 H2 r2 c2 p2 => ?_⟩
    cases (show Da _ y2 (.int k) from p2)
    refine ⟨j, k, rfl, rfl, _, .inl ⟨_, .inr "T", (r2 _ _ g4').1 g3, rfl, by show 2 < sizeLine; decide, rfl⟩, nx _ _ _ rfl ⟨S, ?_⟩⟩
    exact (x1.step r2 c2).wr hn g1 rfl ⟨a, .int i, .int (j + k), rfl, g2, g3, upd_same, by rw [if_neg (Ne.symm lt_ne)]; exact .int _, by rw [if_neg (Ne.symm lt_ne)]; exact .int _⟩ fun c z => .inl z
/-! ### a walk over either -/
theorem pi_or {X : Cx} {tg it : Expr} {w1 w2 : TI} (h1 : PI X tg it w1) (h2 : PI X tg it w2) : PI X tg it fun σ H R => w1 σ H R ∨ w2 σ H R := ⟨fun pins s σ H R I h => h.elim (h1.run pins s σ H R I) (h2.run pins s σ H R I)⟩
theorem jw_seq (h : JE te Ps (da (seqD b ds))) : JW (fun σ H R => iList K te σ H R ∨ iTup K te σ H R) Ps ds := fun S B H σ c s Rr q => by
  cases b with
  | true => exact .inr (jw_tup (K := K) h S B H σ c s Rr q)
  | false => exact .inl (jw_list (K := K) h S B H σ c s Rr q)
theorem j_ixSeq (ha : JE ta Ps (da (seqD b ds))) (hb : JE tb' Ps (dI i)) (h : atI ds i = some d) : JE (tOp (rIx K) ta tb') Ps (da d) := by
  cases b with
  | true => exact j_ixT ha hb h
  | false => exact j_ixL ha hb h
theorem j_lenSeq (h : JE te Ps (da (seqD b ds))) : JE (tCB (rLenX K) (tCons te tNil)) Ps (dI (ds.length : Int)) := by
  cases b with
  | true => exact j_lenT h
  | false => exact j_lenL h
theorem j_tupSeq (h : JE te Ps (da (seqD b ds))) : JE (tCB (rTupX K) (tCons te tNil)) Ps (da (.tuple ds)) := by
  cases b with
  | true => exact j_tupT h
  | false => exact j_tupL h
end
end LK
/-! text K9 -/
namespace LK
open PySem PySem.Spec PyProof.Rows L2
/-! ### list comprehensions with two clauses -/
/-- the new list grows at D, all else stands -/
structure LcI (S : AS) (B : Option Addr) (H1 : Hp) (D : Addr) (H : Hp) (ds : List PyData) : Prop where
  r : R B H1 H
  c : Cond (fun a => S a ∨ a = D) B H
  ex : ∃ acc, H D = some (.lst acc) ∧ DaAll (sub H fun a => S a ∨ a = D) acc ds
section
variable {S : AS} {B : Option Addr} {H1 H H' : Hp} {D : Addr} {ds : List PyData} {d : PyData} {y : V}
theorem LcI.ext (c1 : Cond S B H1) (hD : H1 D = none) (I : LcI S B H1 D H ds) : Ext S B H1 (fun a => S a ∨ a = D) H :=
  ⟨fun a z => .inl z, fun a z => z.imp id fun e => by rw [e]; exact hD, c1, I.c, I.r⟩
theorem LcI.start (c1 : Cond S B H1) (hD : H1 D = none) : LcI S B H1 D (upd H1 D (.lst [])) [] := by
  have e : Ext S B H1 _ (upd H1 D (.lst [])) := .new c1 hD
  exact ⟨e.r, e.c, [], upd_same, .nil⟩
theorem LcI.step (c1 : Cond S B H1) (hD : H1 D = none) (I : LcI S B H1 D H ds) (r : R B H H') (c : Cond (fun a => S a ∨ a = D) B H') : LcI S B H1 D H' ds := by
  obtain ⟨acc, h1, h2⟩ := I.ex
  have nB : B ≠ some D := c1.nb hD
  exact ⟨I.r.trans r, c, acc, (r _ _ h1).1 nB, h2.mono (r.sub I.c)⟩
theorem LcI.push (c1 : Cond S B H1) (hD : H1 D = none) (I : LcI S B H1 D H ds) (h : Da (sub H fun a => S a ∨ a = D) y d) (hz : ds.length ≤ 50000) : ∃ acc, H D = some (.lst acc) ∧ acc.length < sizeLine ∧ LcI S B H1 D (upd H D (.lst (acc ++ [y]))) (ds ++ [d]) := by
  obtain ⟨acc, h1, h2⟩ := I.ex
  have nB : B ≠ some D := c1.nb hD
  have hS : (fun a => S a ∨ a = D) D := .inr rfl
  refine ⟨acc, h1, by rw [h2.len]; exact Nat.lt_of_le_of_lt hz (by decide), fun a o ho => ?_, ⟨fun a ha => ?_, fun b hb => ⟨(I.c.bag b hb).1, ?_⟩⟩, acc ++ [y], upd_same, ?_⟩
  · rw [upd_ne (ne_of_none ho hD)]
    exact I.r a o ho
  · by_cases ea : a = D
    · exact ⟨_, by rw [ea, upd_same]⟩
    · rw [upd_ne ea]
      exact I.c.live a ha
  · obtain ⟨x0, x1, x2, c, ns, g1, g2, g3, g4, g5, g6, g7, g8⟩ := (I.c.bag b hb).2
    have nb : b ≠ D := fun z => nB (by rw [← z]; exact hb)
    have nc : c ≠ D := fun z => g6 (.inr z)
    exact ⟨x0, x1, x2, c, ns, by rw [upd_ne nb]; exact g1, g2, g3, g4, g5, g6, by rw [upd_ne nc]; exact g7, g8⟩
  · rw [sub_upd hS]
    exact h2.append (.cons h .nil)
theorem LcI.kn {y : V} (hS : (fun a => S a ∨ a = D) D) {acc : List V} : sub (upd H D (.lst acc)) (fun a => S a ∨ a = D) = sub H fun a => S a ∨ a = D := sub_upd hS
end
section
variable {K : PySem.W.Frag} {Ps Qs : List Sl} {wi wi1 : TI} {g g1 : L2.TG} {tt tt1 : TT} {te : TE} {vs vs1 : List Nat}
theorem jn_lc2 {α β : Type} {xs : List α} {ys : α → List β} {enc : α → PyData} {enc1 : β → PyData} {v : α → β → PyData} {f : α → β → Bool} (hw : JW wi Ps (xs.map enc)) (hz : (xs.flatMap fun x => ((ys x).filter (f x)).map (v x)).length ≤ 50000)
    (h : ∀ x ∈ xs, ∃ is es, TG g (enc x) is es ∧ (∀ i ∈ is, i ∈ vs) ∧ JT tt (setS (wipeP Ps vs) is es) true ∧ JW wi1 (setS (wipeP Ps vs) is es) ((ys x).map enc1) ∧
      ∀ y ∈ ys x, ∃ is1 es1, TG g1 (enc1 y) is1 es1 ∧ (∀ i ∈ is1, i ∈ vs1) ∧ JT tt1 (setS (wipeP (setS (wipeP Ps vs) is es) vs1) is1 es1) (f x y) ∧ (f x y = true → JE te (setS (wipeP (setS (wipeP Ps vs) is es) vs1) is1 es1) (da (v x y)))) :
    JN (tLc2 wi g tt wi1 g1 tt1 te vs vs1) Ps (.ol (xs.flatMap fun x => ((ys x).filter (f x)).map (v x))) := fun S B H σ c s Q q => by
  refine hw S B H σ c s _ fun J H1 Gd Y r1 c1 w hg hy => ?_
  have s1 := s.step c r1
  rw [List.length_map] at w hy
  intro D hD
  have nD : ¬ S D := c1.fresh hD
  have part : ∀ i, ((xs.take i).flatMap fun x => ((ys x).filter (f x)).map (v x)).length ≤ 50000 := fun i => by
    refine Nat.le_trans ?_ hz
    conv => rhs; rw [← List.take_append_drop i xs]
    rw [List.flatMap_append, List.length_append]
    omega
  refine ⟨fun i m H' => m = xs.length - i ∧ i ≤ xs.length ∧ LcI S B H1 D H' ((xs.take i).flatMap fun x => ((ys x).filter (f x)).map (v x)), ⟨_, rfl, Nat.zero_le _, .start c1 hD⟩, ?_⟩
  rintro i m H2 ⟨rfl, hi, I2⟩
  have e2 := I2.ext c1 hD
  have gd : Gd H2 := hg H2 (e2.same.trans sub_le)
  rcases Nat.lt_or_ge i xs.length with lt | ge
  · refine .inr ⟨w.goes i H2 lt gd, fun H' => LcI S B H1 D H' ((xs.take (i + 1)).flatMap fun x => ((ys x).filter (f x)).map (v x)), fun H' z => ⟨xs.length - (i + 1), by omega, rfl, lt, z⟩, fun x H3 hyv => ?_⟩
    obtain ⟨sm, dd, hd, hda⟩ := hy i H2 x H3 lt (e2.same.trans sub_le) (w.yields i H2 x H3 lt gd hyv)
    rw [List.getElem?_map, List.getElem?_eq_getElem lt] at hd
    cases hd
    have c3 := I2.c.same sm
    have I3 := I2.step c1 hD (.of sm) c3
    have e3 := I3.ext c1 hD
    have hmem : xs[i] ∈ xs := List.getElem_mem lt
    have htake : xs.take (i + 1) = xs.take i ++ [xs[i]] := by rw [List.take_add_one, List.getElem?_eq_getElem lt]; rfl
    obtain ⟨is, es, tg, hsub, ht, hw1, hin⟩ := h _ hmem
    have dax := hda (fun a => S a ∨ a = D) I2.c.live fun a z => z.imp id fun e => by rw [e]; exact hD
    refine tg (sub H3 fun a => S a ∨ a = D) H3 _ x sub_le dax _ fun vv hvv => ?_
    have sk := ((s1.ext e3).wipe vs).setAll (is := is) hvv
    refine ⟨by rw [wipe_setV hsub, wipe_idem], ?_⟩
    refine ht _ B H3 _ c3 sk _ fun H4 r4 c4 => iteT ?_
    have sk4 := sk.step c3 r4
    refine hw1 _ B H4 _ c4 sk4 _ fun J1 H5 G1 Y1 r5 c5 w1 hg1 hy1 => ?_
    rw [List.length_map] at w1 hy1
    have I5 := I3.step c1 hD (r4.trans r5) c5
    have hvv5 := hvv.mono ((r4.trans r5).sub c3)
    have total : ∀ j, (((xs.take i).flatMap fun x => ((ys x).filter (f x)).map (v x)) ++ (((ys xs[i]).take j).filter (f xs[i])).map (v xs[i])).length ≤ 50000 := fun j => by
      refine Nat.le_trans ?_ (part (i + 1))
      rw [htake, List.flatMap_append, List.length_append, List.length_append, List.flatMap_singleton]
      have q1 : ((((ys xs[i]).take j).filter (f xs[i])).map (v xs[i])).length ≤ (((ys xs[i]).filter (f xs[i])).map (v xs[i])).length := by
        rw [List.length_map, List.length_map]
        exact ((List.take_sublist j _).filter _).length_le
      omega
    refine ⟨fun j k H' => k = (ys xs[i]).length - j ∧ j ≤ (ys xs[i]).length ∧ LcI S B H1 D H' (((xs.take i).flatMap fun x => ((ys x).filter (f x)).map (v x)) ++ (((ys xs[i]).take j).filter (f xs[i])).map (v xs[i])) ∧ Same (sub H5 fun a => S a ∨ a = D) (sub H' fun a => S a ∨ a = D), ⟨_, rfl, Nat.zero_le _, by rw [List.take_zero, List.filter_nil, List.map_nil, List.append_nil]; exact I5, .refl _⟩, ?_⟩
    rintro j k H6 ⟨rfl, hj, I6, kn6⟩
    have gd6 : G1 H6 := hg1 H6 (kn6.trans sub_le)
    rcases Nat.lt_or_ge j (ys xs[i]).length with lt1 | ge1
    · refine .inr ⟨w1.goes j H6 lt1 gd6, fun H' => LcI S B H1 D H' (((xs.take i).flatMap fun x => ((ys x).filter (f x)).map (v x)) ++ (((ys xs[i]).take (j + 1)).filter (f xs[i])).map (v xs[i])) ∧ Same (sub H5 fun a => S a ∨ a = D) (sub H' fun a => S a ∨ a = D), fun H' z => ⟨(ys xs[i]).length - (j + 1), by omega, rfl, lt1, z⟩, fun x1 H7 hyv1 => ?_⟩
      obtain ⟨sm1, dd1, hd1, hda1⟩ := hy1 j H6 x1 H7 lt1 (kn6.trans sub_le) (w1.yields j H6 x1 H7 lt1 gd6 hyv1)
      rw [List.getElem?_map, List.getElem?_eq_getElem lt1] at hd1
      cases hd1
      have c7 := I6.c.same sm1
      have I7 := I6.step c1 hD (.of sm1) c7
      have e7 := I7.ext c1 hD
      have kn7 := kn6.trans (sub_same (S := fun a => S a ∨ a = D) sm1)
      have hm1 : (ys xs[i])[j] ∈ ys xs[i] := List.getElem_mem lt1
      have ht1 : (ys xs[i]).take (j + 1) = (ys xs[i]).take j ++ [(ys xs[i])[j]] := by rw [List.take_add_one, List.getElem?_eq_getElem lt1]; rfl
      obtain ⟨is1, es1, tg1, hsub1, htt, hte⟩ := hin _ hm1
      have dax1 := hda1 (fun a => S a ∨ a = D) I6.c.live fun a z => .inl z
      refine tg1 (sub H7 fun a => S a ∨ a = D) H7 _ x1 sub_le dax1 _ fun uu huu => ?_
      have sk7 := ((((s1.ext e7).wipe vs).setAll (is := is) (hvv5.mono kn7)).wipe vs1).setAll (is := is1) huu
      refine ⟨by rw [wipe_setV hsub1, wipe_idem], ?_⟩
      refine htt _ B H7 _ c7 sk7 _ fun H8 r8 c8 => ?_
      have I8 := I7.step c1 hD r8 c8
      cases hf : f xs[i] (ys xs[i])[j] with
      | false =>
        refine iteF ⟨?_, kn7.trans (r8.sub c7)⟩
        rw [ht1, List.filter_append, List.filter_cons, if_neg (by rw [hf]; decide), List.filter_nil, List.append_nil]
        exact I8
      | true =>
        refine iteT (hte hf _ B H8 _ c8 (sk7.step c7 r8) _ fun y9 H9 r9 c9 p9 => ?_)
        have I9 := I8.step c1 hD r9 c9
        obtain ⟨acc, a1, a2, a3⟩ := I9.push c1 hD p9 (total j)
        refine ⟨acc, a1, a2, ?_, ?_⟩
        · rw [ht1, List.filter_append, List.filter_cons, if_pos hf, List.filter_nil, List.map_append, ← List.append_assoc]
          exact a3
        · rw [sub_upd (S := fun a => S a ∨ a = D) (.inr rfl)]
          exact (kn7.trans (r8.sub c7)).trans (r9.sub c8)
    · refine .inl ⟨?_, ?_⟩
      · have : j = (ys xs[i]).length := by omega
        rw [this]
        exact w1.stops H6 gd6
      · rw [List.take_of_length_le ge1] at I6
        rw [htake, List.flatMap_append, List.flatMap_singleton]
        exact I6
  · have hi' : i = xs.length := by omega
    refine .inl ⟨by rw [hi']; exact w.stops H2 gd, ?_⟩
    rw [List.take_of_length_le ge] at I2
    obtain ⟨acc, h1, h2⟩ := I2.ex
    exact q _ H2 _ ⟨fun a z => .inl z, fun a z => z.imp id fun e => by rw [e]; exact r1.none hD, c, I2.c, r1.trans I2.r⟩ ⟨D, acc, rfl, .inr rfl, c1.nb hD, h1, h2⟩ fun a z => by cases z; exact r1.none hD
end
end LK
/-! text K10 -/
namespace LK
open PySem PySem.Spec PyProof.Rows L2
/-! ### a dict comprehension with two clauses, its keys tuples (after the library's two-clause list comprehension and its one-clause dict comprehension) -/
theorem turnA_eq (kx vx t0 i0 t1 i1 : Expr) (ifs0 ifs1 : List Expr) (scope : Scope) (pos : Pos) (it acc : Value) (env : Env) :
    compTurn (.DictComp kx vx [⟨t0, i0, ifs0, 0⟩, ⟨t1, i1, ifs1, 0⟩] scope pos) 0 it acc env = (do
      standAt i0.pos
      match ← pyNext it with
      | none => pure (.done .next)
      | some v =>
        letOwnedTupleGo t0 it v
        assign t0 env v
        let mut ok := true
        for c in ifs0 do
          if ok then ok ← isTrue c env (eval c env)
        if ok then
          let x ← eval i1 env
          standAt i1.pos
          let x ← foldedSetIterable i1 env x
          let _ ← runOwn (.compStart (.DictComp kx vx [⟨t0, i0, ifs0, 0⟩, ⟨t1, i1, ifs1, 0⟩] scope pos) 1 (← holding [x] (pyIter x)) acc env) env
        again (.compLoop (.DictComp kx vx [⟨t0, i0, ifs0, 0⟩, ⟨t1, i1, ifs1, 0⟩] scope pos) 0 it acc env)) := by rfl
theorem turnB_eq (kx vx t0 i0 t1 i1 : Expr) (ifs0 ifs1 : List Expr) (scope : Scope) (pos : Pos) (it : Value) (acc : Addr) (env : Env) :
    compTurn (.DictComp kx vx [⟨t0, i0, ifs0, 0⟩, ⟨t1, i1, ifs1, 0⟩] scope pos) 1 it (.ref acc) env = (do
      standAt i1.pos
      match ← pyNext it with
      | none => pure (.done .next)
      | some v =>
        letOwnedTupleGo t1 it v
        assign t1 env v
        let mut ok := true
        for c in ifs1 do
          if ok then ok ← isTrue c env (eval c env)
        if ok then
          (do
            let kv ← eval kx env
            let vv ← holding [kv] (eval vx env)
            standAt { kx.pos with endLine := vx.pos.endLine, endCol := vx.pos.endCol }
            holding [kv, vv] (dictSet acc kv vv))
        again (.compLoop (.DictComp kx vx [⟨t0, i0, ifs0, 0⟩, ⟨t1, i1, ifs1, 0⟩] scope pos) 1 it (.ref acc) env)) := by rfl

section
variable {prog : Program} {w : World} {A : Around} {R : Result → Shared → Prop} {s : Shared} {kx vx t0 i0 t1 i1 : Expr} {ifs0 ifs1 : List Expr} {scope : Scope} {pos : Pos} {it acc : Value} {env : Env}
/-- the loop of the first clause -/
theorem loopA_ok (hs : ∀ x, foldedSetIterable i1 env x = pure x) (I : Nat → Shared → Prop)
    (turn : ∀ n s, I n s → wpAny (model prog w) A (pyNext it) (fun r s₁ => match r with
      | none => R (.ok .next) s₁
      | some v => wpAny (model prog w) A (letOwnedTupleGo t0 it v) (fun _ s₁' => wpAny (model prog w) A (assign t0 env v) (fun _ s₂ =>
          wpAny (model prog w) A (forIn ifs0 true fun c r => if r = true then do let ok ← isTrue c env (eval c env); pure (ForInStep.yield ok) else pure (ForInStep.yield r)) (fun ok s₃ =>
            if ok = true then wpAny (model prog w) A (eval i1 env) (fun x s₄ => wpAny (model prog w) A (pyIter x) (fun it1 s₅ =>
              codeAny (model prog w) A (.compStart (.DictComp kx vx [⟨t0, i0, ifs0, 0⟩, ⟨t1, i1, ifs1, 0⟩] scope pos) 1 it1 acc env) (fun r s' => match r with
                | .ok _ => ∃ m, m < n ∧ I m s'
                | .error _ => False) s₅) (notedBy (model prog w) A env fun e s' => R (.error e) s') s₄) (notedBy (model prog w) A env fun e s' => R (.error e) s') s₃
            else ∃ m, m < n ∧ I m s₃) (notedBy (model prog w) A env fun e s' => R (.error e) s') s₂) (notedBy (model prog w) A env fun e s' => R (.error e) s') s₁') (notedBy (model prog w) A env fun e s' => R (.error e) s') s₁) (notedBy (model prog w) A env fun e s' => R (.error e) s') s)
    (n : Nat) (h : I n s) :
    codeAny (model prog w) A (.compLoop (.DictComp kx vx [⟨t0, i0, ifs0, 0⟩, ⟨t1, i1, ifs1, 0⟩] scope pos) 0 it acc env) R s := by
  refine codeAny_loop rfl I (fun n s hI => ?_) n h
  show wpAny _ A ((compTurn (.DictComp kx vx [⟨t0, i0, ifs0, 0⟩, ⟨t1, i1, ifs1, 0⟩] scope pos) 0 it acc env).onRaise (fun x => do noteFrame x env; theTreesLotGoes x)) _ _ s
  refine wpAny_noted ?_
  rw [turnA_eq]
  refine wpAny_bind (wpAny_standAt (wpAny_bind (wpAny_mono (turn n s hI) (fun r s₁ h₁ => ?_) fun _ _ h' => h')))
  cases r with
  | none => exact wpAny_pure h₁
  | some v =>
    refine wpAny_bind (wpAny_mono h₁ (fun _ s₁' h₁' => ?_) fun _ _ h' => h')
    refine wpAny_bind (wpAny_mono h₁' (fun _ s₂ h₂ => wpAny_bind (wpAny_mono h₂ (fun ok s₃ h₃ => ?_) fun _ _ h' => h')) fun _ _ h' => h')
    cases ok with
    | false => exact wpAny_pure ⟨rfl, h₃⟩
    | true =>
      refine wpAny_bind (wpAny_mono h₃ (fun x s₄ h₄ => ?_) fun _ _ h' => h')
      refine wpAny_bind (wpAny_standAt (wpAny_bind (wpAny_of_eq (hs x) (wpAny_bind (wpAny_holding (wpAny_mono h₄ (fun it1 s₅ h₅ => ?_) fun _ _ h' => h'))))))
      refine wpAny_bind (wpAny_runOwn ?_)
      rw [Around.mark_none]
      refine codeAny_mono h₅ fun r s' hr => ?_
      cases r with
      | ok f =>
        first
          | exact wpAny_pure ⟨rfl, hr⟩
          | exact wpAny_bind (wpAny_pure (wpAny_pure ⟨rfl, hr⟩))
      | error e => exact hr.elim
/-- the loop of the second -/
theorem loopB_ok {acc : Addr} (I : Nat → Shared → Prop)
    (turn : ∀ n s, I n s → wpAny (model prog w) A (pyNext it) (fun r s₁ => match r with
      | none => R (.ok .next) s₁
      | some v => wpAny (model prog w) A (letOwnedTupleGo t1 it v) (fun _ s₁' => wpAny (model prog w) A (assign t1 env v) (fun _ s₂ =>
          wpAny (model prog w) A (forIn ifs1 true fun c r => if r = true then do let ok ← isTrue c env (eval c env); pure (ForInStep.yield ok) else pure (ForInStep.yield r)) (fun ok s₃ =>
            if ok = true then wpAny (model prog w) A (eval kx env) (fun kv s₄ => wpAny (model prog w) A (eval vx env) (fun vv s₅ =>
              wpAny (model prog w) A (dictSet acc kv vv) (fun _ s₆ => ∃ m, m < n ∧ I m s₆) (notedBy (model prog w) A env fun e s' => R (.error e) s') s₅) (notedBy (model prog w) A env fun e s' => R (.error e) s') s₄) (notedBy (model prog w) A env fun e s' => R (.error e) s') s₃
            else ∃ m, m < n ∧ I m s₃) (notedBy (model prog w) A env fun e s' => R (.error e) s') s₂) (notedBy (model prog w) A env fun e s' => R (.error e) s') s₁') (notedBy (model prog w) A env fun e s' => R (.error e) s') s₁) (notedBy (model prog w) A env fun e s' => R (.error e) s') s)
    (n : Nat) (h : I n s) :
    codeAny (model prog w) A (.compLoop (.DictComp kx vx [⟨t0, i0, ifs0, 0⟩, ⟨t1, i1, ifs1, 0⟩] scope pos) 1 it (.ref acc) env) R s := by
  refine codeAny_loop rfl I (fun n s hI => ?_) n h
  show wpAny _ A ((compTurn (.DictComp kx vx [⟨t0, i0, ifs0, 0⟩, ⟨t1, i1, ifs1, 0⟩] scope pos) 1 it (.ref acc) env).onRaise (fun x => do noteFrame x env; theTreesLotGoes x)) _ _ s
  refine wpAny_noted ?_
  rw [turnB_eq]
  refine wpAny_bind (wpAny_standAt (wpAny_bind (wpAny_mono (turn n s hI) (fun r s₁ h₁ => ?_) fun _ _ h' => h')))
  cases r with
  | none => exact wpAny_pure h₁
  | some v =>
    refine wpAny_bind (wpAny_mono h₁ (fun _ s₁' h₁' => ?_) fun _ _ h' => h')
    refine wpAny_bind (wpAny_mono h₁' (fun _ s₂ h₂ => wpAny_bind (wpAny_mono h₂ (fun ok s₃ h₃ => ?_) fun _ _ h' => h')) fun _ _ h' => h')
    cases ok with
    | false => exact wpAny_pure ⟨rfl, h₃⟩
    | true =>
      exact wpAny_bind (wpAny_bind (wpAny_mono h₃ (fun kv s₄ h₄ => wpAny_bind (wpAny_holding (wpAny_mono h₄ (fun vv s₅ h₅ => wpAny_bind (wpAny_standAt (wpAny_holding (wpAny_mono h₅ (fun _ s₆ h₆ => wpAny_pure ⟨rfl, h₆⟩) fun _ _ h' => h')))) fun _ _ h' => h'))) fun _ _ h' => h'))
/-- the second clause's start -/
theorem startB_ok (h0 : codeAny (model prog w) A (.compLoop (.DictComp kx vx [⟨t0, i0, ifs0, 0⟩, ⟨t1, i1, ifs1, 0⟩] scope pos) 1 it acc env) R s)
    (h : wpAny (model prog w) A (pyIter it) (fun it' s' => codeAny (model prog w) A (.compLoop (.DictComp kx vx [⟨t0, i0, ifs0, 0⟩, ⟨t1, i1, ifs1, 0⟩] scope pos) 1 it' acc env) R s')
      (notedBy (model prog w) A env fun x s' => R (.error x) s') s) :
    codeAny (model prog w) A (.compStart (.DictComp kx vx [⟨t0, i0, ifs0, 0⟩, ⟨t1, i1, ifs1, 0⟩] scope pos) 1 it acc env) R s := by
  refine codeAny_of_tree ?_
  show wpAny _ _ ((compStart (.DictComp kx vx [⟨t0, i0, ifs0, 0⟩, ⟨t1, i1, ifs1, 0⟩] scope pos) 1 it acc env).onRaise (fun x => do noteFrame x env; standAt theWindowsPlace)) _ _ s
  refine wpAny_notedAt ?_
  unfold compStart
  show wpAny _ _ (ask >>= _) _ _ s
  refine wpAny_bind (wpAny_askSetting (wpAny_ite ?_))
  split
  · first
      | exact wpAny_bind (wpAny_pure (wpAny_pure (And.intro rfl h0)))
      | exact wpAny_pure (And.intro rfl h0)
  · first
      | exact wpAny_bind (wpAny_rule (wpAny_bind (wpAny_standAt (wpAny_bind (wpAny_mono h (fun it' s' h' => wpAny_pure (And.intro rfl h')) fun _ _ x => x)))))
      | (refine wpAny_bind (wpAny_rule ?_); show wpAny _ _ (standAt i1.pos >>= _) _ _ s; exact wpAny_bind (wpAny_standAt (wpAny_bind (wpAny_mono h (fun it' s' h' => wpAny_pure (And.intro rfl h')) fun _ _ x => x))))
end

section
variable {X : Cx}
/-- d[k] = v in a comprehension, k a tuple -/
theorem set_tup {pins : List (Addr × Obj)} {σ : L2.St} {H : Hp} {s : Shared} {E : Value → Shared → Prop} {D b : Addr} {kvs : List (List Key × V)} {k : List Key} {v : V} {u r : Value} {Q : Unit → Shared → Prop} (hu : X.A.units + 1 < cLine) (I : Inv X pins σ H s) (hD : H D = some (.dT kvs))
    (eb : H b = some (.tup (k.map kV))) (hz : kvs.length < sizeLine) (ry : RelV (.ref b) u) (rv : RelV v r) (h : ∀ s', Inv X pins σ (upd H D (.dT (putK kvs k v))) s' → Q () s') : wpAny (model X.prog X.w) X.A (dictSet D u r) Q E s := by
  cases (show u = Value.ref b from ry)
  obtain ⟨z, hd, xs, rel, dd⟩ := dt_of I.hok hD
  have hx : xs.length ≤ sizeLine := by rw [← Paired.length rel]; exact z
  have hl : (putK kvs k v).length ≤ sizeLine := by have := length_putK kvs k v; omega
  refine wpAny_dictSet_heap (hsz := hx) (show (tupleKind (mixKind X.prog X.w)).room X.A from Nat.lt_of_succ_lt hu) (key_of I.hok eb) dd fun h' dd' hs => h _ ?_
  obtain ⟨q, es, ep, hq, h2, h3, h4, _, h5⟩ := dd'
  refine d_write I (by rw [hD]; exact True.intro) hs ⟨q, hq⟩ ⟨hl, hd, _, (rel.put k eb rv).keeps fun c ys ec => ?_, q, es, ep, hq, h2, h3, h4, h5⟩
  rw [upd_ne (ne_of ec hD (fun z => nomatch z))]
  exact ec
/-- {k: v for tg in iter for tg1 in iter1}, keys tuples; D the new dict -/
def tDc2 (wi : TI) (g : L2.TG) (tt : TT) (wi1 : TI) (g1 : L2.TG) (tt1 : TT) (tk tv : TE) (vs vs1 : List Nat) : TE := fun σ H Q => wi σ H fun J H1 => ∀ D, H1 D = none → ∃ W : Nat → Nat → Hp → Prop, (∃ m, W 0 m (upd H1 D (.dT []))) ∧ ∀ i m H, W i m H →
  (J.stop i H ∧ Q (.ref D) H) ∨ (J.go i H ∧ ∃ Nx : Hp → Prop, (∀ H', Nx H' → ∃ m', m' < m ∧ W (i + 1) m' H') ∧ ∀ x H', J.yld i H x H' → g x (wipe σ vs) H' fun σ2 H2 => wipe σ2 vs = wipe σ vs ∧ tt σ2 H2 fun b H3 =>
    if b = true then wi1 σ2 H3 fun J1 H4 => ∃ W1 : Nat → Nat → Hp → Prop, (∃ m, W1 0 m H4) ∧ ∀ j k H, W1 j k H →
      (J1.stop j H ∧ Nx H) ∨ (J1.go j H ∧ ∃ Nx1 : Hp → Prop, (∀ H', Nx1 H' → ∃ k', k' < k ∧ W1 (j + 1) k' H') ∧ ∀ x H', J1.yld j H x H' → g1 x (wipe σ2 vs1) H' fun σ3 H5 => wipe σ3 vs1 = wipe σ2 vs1 ∧ tt1 σ3 H5 fun b H6 =>
        if b = true then tk σ3 H6 fun y H7 => tv σ3 H7 fun z H8 => ∃ kvs k b, H8 D = some (.dT kvs) ∧ y = .ref b ∧ H8 b = some (.tup (k.map kV)) ∧ kvs.length < sizeLine ∧ Nx1 (upd H8 D (.dT (putK kvs k z))) else Nx1 H6)
    else Nx H3)
theorem dc2_core {pins : List (Addr × Obj)} {s : Shared} {σ : L2.St} {H : Hp} {Q : VK} {kx vx tg iter tg1 iter1 : Expr} {ifs ifs1 : List Expr} {scope : Scope} {own : List (Str × Nat)} {vs1 : List Nat} {pos pos' : Pos} {wi wi1 : TI} {g g1 : L2.TG} {tt tt1 : TT} {tk tv : TE} {use : Option (Value → Sem Unit)} {Qf : Value → Shared → Prop}
    (hc : X.calm = true) (hN : X.N.Nodup) (I : Inv X pins σ H s) (hi : PI X tg iter wi) (ok : BlkOk X.N X.env.scope scope own) (hv : ∀ i ∈ vs1, i ∈ own.map (·.2))
    (hg : ∀ (s : Shared) (H : Hp) (C : Addr) (cl : List (Str × Addr)) (fp : List Addr), PG (X.blk s H scope (compEnvC scope cl C X.env) fp) tg g) (ht : ∀ (s : Shared) (H : Hp) (C : Addr) (cl : List (Str × Addr)) (fp : List Addr), PTs (X.blk s H scope (compEnvC scope cl C X.env) fp) ifs tt)
    (hk : ∀ (s : Shared) (H : Hp) (C : Addr) (cl : List (Str × Addr)) (fp : List Addr), PE (X.blk s H scope (compEnvC scope cl C X.env) fp) kx tk)
    (he : ∀ (s : Shared) (H : Hp) (C : Addr) (cl : List (Str × Addr)) (fp : List Addr), PE (X.blk s H scope (compEnvC scope cl C X.env) fp) vx tv) (hu : ∀ (s : Shared) (H : Hp) (C : Addr) (cl : List (Str × Addr)) (fp : List Addr), (X.blk s H scope (compEnvC scope cl C X.env) fp).A.units + 1 < cLine) (hs : ∀ x, foldedSetIterable iter X.env x = pure x)
    (hi1 : ∀ (s : Shared) (H : Hp) (C : Addr) (cl : List (Str × Addr)) (fp : List Addr), PI (X.blk s H scope (compEnvC scope cl C X.env) fp) tg1 iter1 wi1)
    (hg1 : ∀ (s : Shared) (H : Hp) (C : Addr) (cl : List (Str × Addr)) (fp : List Addr), PG (X.blk s H scope (compEnvC scope cl C X.env) fp) tg1 g1)
    (ht1 : ∀ (s : Shared) (H : Hp) (C : Addr) (cl : List (Str × Addr)) (fp : List Addr), PTs (X.blk s H scope (compEnvC scope cl C X.env) fp) ifs1 tt1)
    (hs1 : ∀ env x, foldedSetIterable iter1 env x = pure x)
    (h : tDc2 wi g tt wi1 g1 tt1 tk tv (own.map (·.2)) vs1 σ H Q)
    (hRR : ∀ D C s' m H', Inv X pins σ H' s' → Q (.ref D) H' → s'.heap.Ns C m → FpOk X pins H' C → compPost (model X.prog X.w) X.A X.xe use Qf (.ref D) C (.ok .next) s') :
    wpAny (model X.prog X.w) X.A (comprehension (.DictComp kx vx [⟨tg, iter, ifs, 0⟩, ⟨tg1, iter1, ifs1, 0⟩] scope pos) scope X.env pos' newDict false (eval iter X.env) use) Qf X.xe s := by
  have hfree : ∀ y ∈ scope.names, y.2 = .free → ∃ c, X.env.cells.lookup y.1 = some c := fun y hy e => by
    rcases ok.free y hy e with k | k
    · exact I.ok.has _ (.inl k)
    · exact I.ok.has _ (.inr k)
  refine wpAny_comprehension_free (use := use) rfl hs (closure_ok hfree) ok.kind (fun y hy e => by rw [ok.uniq y hy, e])
    (thn (hi.run pins s σ H _ I h) fun xv s1 hx => thn hx fun itv s2 h2 => ?_)
  obtain ⟨it, fp, tn, J, H2, e, I2, T, st2, f2, q⟩ := h2
  subst e
  refine wpAny_newObj_type (newEnv_comp ?_)
  generalize hD : s2.heap.objs.size = D
  have noD : H2 D = none := I2.hok.fresh (Nat.le_of_eq hD)
  obtain ⟨W, ⟨m0, w0⟩, round⟩ := q D noD
  -- the new list
  generalize hs3 : ({ s2 with heap := s2.heap.push { cls := .type "dict", data := .dict #[] } } : Shared) = s3
  have I3 : Inv X pins σ (upd H2 D (.dT [])) s3 := by
    rw [← hs3]
    refine I2.laid (t' := s2.toks) (fun b o e => Heap.get?_push_of_some _ e) (Nat.le_of_eq hD) ?_
    rw [← hD]
    exact dt_empty s2.heap I2.big
  have h3 : s3.heap = s2.heap.push { cls := .type "dict", data := .dict #[] } := by rw [← hs3]
  have below : ∀ b ∈ fp, b < s2.heap.objs.size := fun b hb => by
    obtain ⟨o, e, _⟩ := T.obj _ _ st2 b hb
    exact Heap.lt_size e
  have f3 : ∀ b ∈ fp, FpOk X pins (upd H2 D (.dT [])) b ∧ b < s3.heap.objs.size := fun b hb => by
    have hlt := below b hb
    refine ⟨⟨?_, (f2 b hb).2⟩, by rw [h3, Heap.size_push]; exact Nat.lt_succ_of_lt hlt⟩
    rw [upd_ne (by rw [← hD]; exact Nat.ne_of_lt hlt)]
    exact (f2 b hb).1
  have st3 : tn 0 s3.heap := T.keep _ _ _ st2 fun b _ o e => by rw [h3]; exact Heap.get?_push_of_some _ e
  have I4 := block_start I3 ok hN f3
  have pg := hg s3 (upd H2 D (.dT [])) s3.heap.objs.size (cellsFrom (s3.heap.objs.size + 1) scope.names (cloFrom X.env.cells scope.names [])) fp
  have pt := ht s3 (upd H2 D (.dT [])) s3.heap.objs.size (cellsFrom (s3.heap.objs.size + 1) scope.names (cloFrom X.env.cells scope.names [])) fp
  have pk := hk s3 (upd H2 D (.dT [])) s3.heap.objs.size (cellsFrom (s3.heap.objs.size + 1) scope.names (cloFrom X.env.cells scope.names [])) fp
  have pu := hu s3 (upd H2 D (.dT [])) s3.heap.objs.size (cellsFrom (s3.heap.objs.size + 1) scope.names (cloFrom X.env.cells scope.names [])) fp
  have pe := he s3 (upd H2 D (.dT [])) s3.heap.objs.size (cellsFrom (s3.heap.objs.size + 1) scope.names (cloFrom X.env.cells scope.names [])) fp
  have pi1 := hi1 s3 (upd H2 D (.dT [])) s3.heap.objs.size (cellsFrom (s3.heap.objs.size + 1) scope.names (cloFrom X.env.cells scope.names [])) fp
  have pg1 := hg1 s3 (upd H2 D (.dT [])) s3.heap.objs.size (cellsFrom (s3.heap.objs.size + 1) scope.names (cloFrom X.env.cells scope.names [])) fp
  have pt1 := ht1 s3 (upd H2 D (.dT [])) s3.heap.objs.size (cellsFrom (s3.heap.objs.size + 1) scope.names (cloFrom X.env.cells scope.names [])) fp
  show codeAny _ _ (.compStart (.DictComp kx vx [⟨tg, iter, ifs, 0⟩, ⟨tg1, iter1, ifs1, 0⟩] scope pos) 0 (.ref it) (.ref D) (compEnvC scope (cellsFrom (s3.heap.objs.size + 1) scope.names (cloFrom X.env.cells scope.names [])) s3.heap.objs.size X.env)) (compPost (model X.prog X.w) X.A X.xe use Qf (.ref D) s3.heap.objs.size) { s3 with heap := pushCells (s3.heap.push { cls := .type "dict", data := .dict #[] }) scope.names }
  have offH : ∀ b ∈ fp, (upd H2 D (.dT [])) b = none := fun b hb => (f3 b hb).1.1
  generalize hce : compEnvC scope (cellsFrom (s3.heap.objs.size + 1) scope.names (cloFrom X.env.cells scope.names [])) s3.heap.objs.size X.env = ce at I4 pg pt pk pe pu pi1 pg1 pt1 ⊢
  have cL : ce.locals = s3.heap.objs.size := by subst hce; rfl
  generalize hH3 : upd H2 D (.dT []) = H3 at I3 I4 pg pt pk pe pu pi1 pg1 pt1 w0 offH f3
  generalize hs4 : ({ s3 with heap := pushCells (s3.heap.push { cls := .type "dict", data := .dict #[] }) scope.names } : Shared) = s4 at I4 ⊢
  have st4 : tn 0 s4.heap := T.keep _ _ _ st3 fun b _ o e => by rw [← hs4]; exact pushCells_keeps _ _ _ _ (Heap.get?_push_of_some _ e)
  have still : ∀ {σ' : L2.St} {H' : Hp} {s' : Shared}, Inv (X.blk s3 H3 scope ce fp) [] σ' H' s' → (∀ b ∈ fp, H' b = none) → ∀ b ∈ fp, FpOk (X.blk s3 H3 scope ce fp) [] H' b := fun {σ' H' s'} I' hn b hb =>
    ⟨hn b hb, (I'.ok.exf b hb).1, I'.ok.exfs b hb, .inl hb, fun x c e => (I'.ok.exf b hb).2 x c e, fun p hp => absurd (show p ∈ ([] : List (Addr × Obj)) ++ [] from hp) (by simp)⟩
  have outer : codeAny (model X.prog X.w) X.A (.compLoop (.DictComp kx vx [⟨tg, iter, ifs, 0⟩, ⟨tg1, iter1, ifs1, 0⟩] scope pos) 0 (.ref it) (.ref D) ce) (compPost (model X.prog X.w) X.A X.xe use Qf (.ref D) s3.heap.objs.size) s4 := by
    refine loopA_ok (hs1 ce) (fun n s' => ∃ i H', Inv (X.blk s3 H3 scope ce fp) [] (wipe σ (own.map (·.2))) H' s' ∧ tn i s'.heap ∧ (∀ b ∈ fp, H' b = none) ∧ W i n H') ?_ m0 ⟨0, H3, I4, st4, offH, w0⟩
    rintro n s5 ⟨i, H5, I5, st5, n5, w5⟩
    rcases round i n H5 w5 with ⟨stop, qq⟩ | ⟨go, Nx, hNx, step⟩
    · have td := T.done (X.blk s3 H3 scope ce fp) rfl rfl rfl hc i [] s5 _ H5 (fun _ _ => False) I5 (still I5 n5) st5 stop
      refine thnF td fun r s6 ⟨hr, I6⟩ => ?_
      subst hr
      -- back in the def's context
      have I7 : Inv X pins σ H5 s6 := I3.call' (ch := fp) I6.os I6.base I6.hok I6.bare fun b hb => ⟨(f3 b hb).1.2.2.2.1, (f3 b hb).1.2.1, (f3 b hb).1.2.2.2.2.1, (f3 b hb).1.2.2.2.2.2⟩
      have nC : H5 s3.heap.objs.size = none := by
        have z : H5 ce.locals = none := I6.free
        rw [cL] at z
        exact z
      obtain ⟨m, hn, _⟩ := I6.loc
      have hn : s6.heap.Ns ce.locals m := hn
      rw [cL] at hn
      exact hRR D s3.heap.objs.size s6 m H5 I7 qq hn (I3.fpOk (Nat.le_refl _) nC)
    · have ti := T.item (X.blk s3 H3 scope ce fp) rfl rfl rfl hc i [] s5 _ H5 (fun _ _ => False) I5 (still I5 n5) st5 go
      refine thnF ti fun r s6 ⟨u, hr, h6⟩ => ?_
      subst hr
      refine thnF h6 fun _ s7 ⟨x, H7, I7, r7, y7, st7, n7⟩ => ?_
      have I7' := I7.pinned (still I7 n7) (T.obj _ _ st7)
      refine thnF (pg.run _ s7 _ H7 x u _ I7' r7 (step x H7 y7)) fun _ s8 ⟨σ8, H8, I8, hw8, q8⟩ => ?_
      refine thnF (pt.run _ s8 σ8 H8 _ I8 q8) fun b s9 ⟨H9, I9, q9⟩ => ?_
      -- the turn's end, from any slots that know what the block knew at its start
      have closeA : ∀ {σ9 : L2.St} {s' : Shared} {H' : Hp}, Inv (X.blk s3 H3 scope ce fp) ([] ++ pinsAt fp s7.heap) σ9 H' s' → (wipe σ (own.map (·.2))).length = σ9.length → (∀ (j : Nat) v, (wipe σ (own.map (·.2)))[j]? = some (some v) → σ9[j]? = some (some v)) → Nx H' →
          ∃ m, m < n ∧ ∃ i H', Inv (X.blk s3 H3 scope ce fp) [] (wipe σ (own.map (·.2))) H' s' ∧ tn i s'.heap ∧ (∀ b ∈ fp, H' b = none) ∧ W i m H' := fun {σ9 s' H'} I' hl hk nx => by
        obtain ⟨m', hm, w'⟩ := hNx H' nx
        have pinned' : ∀ b ∈ fp, ∀ o, s7.heap.get? b = some o → s'.heap.get? b = some o ∧ H' b = none := fun b hb o e =>
          let z := I'.pin (b, o) (List.mem_append_right _ (List.mem_append_right _ (mem_pinsAt hb e)))
          ⟨z.1, z.2.1⟩
        refine ⟨m', hm, i + 1, H', (I'.unpinned (pins := [])).weak hl hk, T.keep _ _ _ st7 fun b hb o e => (pinned' b hb o e).1, fun b hb => ?_, w'⟩
        obtain ⟨o, e, _⟩ := T.obj _ _ st7 b hb
        exact (pinned' b hb o e).2
      have len8 : (wipe σ (own.map (·.2))).length = σ8.length := by rw [← hw8, wipe_length]
      have keep8 : ∀ (j : Nat) v, (wipe σ (own.map (·.2)))[j]? = some (some v) → σ8[j]? = some (some v) := fun j v e => by
        rw [← hw8] at e
        exact (wipe_some e).1
      have keep9 : ∀ (j : Nat) v, (wipe σ (own.map (·.2)))[j]? = some (some v) → (wipe σ8 vs1)[j]? = some (some v) := fun j v e => by
        rw [← hw8] at e
        obtain ⟨e1, e2⟩ := wipe_some e
        rw [wipe_out fun z => e2 (hv j z)]
        exact e1
      cases b with
      | false =>
        simp only [Bool.false_eq_true, if_false] at q9 ⊢
        exact closeA I9 len8 keep8 q9
      | true =>
        simp only [if_true] at q9 ⊢
        refine thnF (pi1.run _ s9 σ8 H9 _ I9 q9) fun xv s10 hx => thnF hx fun itv s11 h11 => ?_
        obtain ⟨it1, fp1, tn1, J1, H11, e1, I11, T1, st11, f11, W1, ⟨m1, w1⟩, round1⟩ := h11
        subst e1
        -- the inner outer
        have still1 : ∀ {H' : Hp}, (∀ b ∈ fp1, H' b = none) → ∀ b ∈ fp1, FpOk (X.blk s3 H3 scope ce fp) ([] ++ pinsAt fp s7.heap) H' b := fun hn b hb => ⟨hn b hb, (f11 b hb).2⟩
        have inner : codeAny (model X.prog X.w) X.A (.compLoop (.DictComp kx vx [⟨tg, iter, ifs, 0⟩, ⟨tg1, iter1, ifs1, 0⟩] scope pos) 1 (.ref it1) (.ref D) ce)
            (fun r s' => match r with
              | .ok _ => ∃ m, m < n ∧ ∃ i H', Inv (X.blk s3 H3 scope ce fp) [] (wipe σ (own.map (·.2))) H' s' ∧ tn i s'.heap ∧ (∀ b ∈ fp, H' b = none) ∧ W i m H'
              | .error _ => False) s11 := by
          refine loopB_ok (fun k s' => ∃ j H', Inv (X.blk s3 H3 scope ce fp) ([] ++ pinsAt fp s7.heap) (wipe σ8 vs1) H' s' ∧ tn1 j s'.heap ∧ (∀ b ∈ fp1, H' b = none) ∧ W1 j k H') ?_ m1 ⟨0, H11, I11.weak (wipe_length _ _) (fun j v e => (wipe_some e).1), st11, fun b hb => (f11 b hb).1, w1⟩
          rintro k s12 ⟨j, H12, I12, st12, n12, w12⟩
          rcases round1 j k H12 w12 with ⟨stop1, nx1⟩ | ⟨go1, Nx1, hNx1, step1⟩
          · refine thnF (T1.done (X.blk s3 H3 scope ce fp) rfl rfl rfl hc j _ s12 (wipe σ8 vs1) H12 (fun _ _ => False) I12 (still1 n12) st12 stop1) fun r s13 ⟨hr, I13⟩ => ?_
            subst hr
            exact closeA I13 (len8.trans (wipe_length σ8 vs1).symm) keep9 nx1
          · refine thnF (T1.item (X.blk s3 H3 scope ce fp) rfl rfl rfl hc j _ s12 (wipe σ8 vs1) H12 (fun _ _ => False) I12 (still1 n12) st12 go1) fun r s13 ⟨u1, hr, h13⟩ => ?_
            subst hr
            refine thnF h13 fun _ s14 ⟨x1, H14, I14, r14, y14, st14, n14⟩ => ?_
            have I14' := I14.pinned (still1 n14) (T1.obj _ _ st14)
            refine thnF (pg1.run _ s14 (wipe σ8 vs1) H14 x1 u1 _ I14' r14 (step1 x1 H14 y14)) fun _ s15 ⟨σ15, H15, I15, hw15, q15⟩ => ?_
            refine thnF (pt1.run _ s15 σ15 H15 _ I15 q15) fun b1 s16 ⟨H16, I16, q16⟩ => ?_
            have closeB : ∀ {s' : Shared} {H' : Hp}, Inv (X.blk s3 H3 scope ce fp) (([] ++ pinsAt fp s7.heap) ++ pinsAt fp1 s14.heap) σ15 H' s' → Nx1 H' → ∃ m, m < k ∧ ∃ j H', Inv (X.blk s3 H3 scope ce fp) ([] ++ pinsAt fp s7.heap) (wipe σ8 vs1) H' s' ∧ tn1 j s'.heap ∧ (∀ b ∈ fp1, H' b = none) ∧ W1 j m H' := fun {s' H'} I' nx => by
              obtain ⟨m', hm, w'⟩ := hNx1 H' nx
              have pinned' : ∀ b ∈ fp1, ∀ o, s14.heap.get? b = some o → s'.heap.get? b = some o ∧ H' b = none := fun b hb o e =>
                let z := I'.pin (b, o) (List.mem_append_right _ (List.mem_append_right _ (mem_pinsAt hb e)))
                ⟨z.1, z.2.1⟩
              refine ⟨m', hm, j + 1, H', I'.unpinned.weak (by rw [← hw15, wipe_length]) (fun j v e => by rw [← hw15] at e; exact (wipe_some e).1), T1.keep _ _ _ st14 fun b hb o e => (pinned' b hb o e).1, fun b hb => ?_, w'⟩
              obtain ⟨o, e, _⟩ := T1.obj _ _ st14 b hb
              exact (pinned' b hb o e).2
            cases b1 with
            | false =>
              simp only [Bool.false_eq_true, if_false] at q16 ⊢
              exact closeB I16 q16
            | true =>
              simp only [if_true] at q16 ⊢
              refine thnF (pk.run _ s16 σ15 H16 _ I16 q16) fun z s17 ⟨yk, H17, I17, r17, q17⟩ => ?_
              refine thnF (pe.run _ s17 σ15 H17 _ I17 q17) fun z2 s18 ⟨yv, H18, I18, r18, kvs, k, b, hD18, ek, eb, hz18, nx⟩ => ?_
              subst ek
              exact set_tup (X := X.blk s3 H3 scope ce fp) pu I18 hD18 eb hz18 r17 r18 fun s19 I19 => closeB I19 nx
        exact startB_ok inner (T1.self X.A 0 _ _ _ st11 inner)
  exact codeAny_compStart_dict outer (T.self X.A 0 _ _ _ st4 outer)
theorem pe_dc2 {kx vx tg iter tg1 iter1 : Expr} {ifs ifs1 : List Expr} {scope : Scope} {own : List (Str × Nat)} {vs1 : List Nat} {pos : Pos} {wi wi1 : TI} {g g1 : L2.TG} {tt tt1 : TT} {tk tv : TE} (hc : X.calm = true) (hN : X.N.Nodup) (hi : PI X tg iter wi) (ok : BlkOk X.N X.env.scope scope own) (hv : ∀ i ∈ vs1, i ∈ own.map (·.2))
    (hg : ∀ (s : Shared) (H : Hp) (C : Addr) (cl : List (Str × Addr)) (fp : List Addr), PG (X.blk s H scope (compEnvC scope cl C X.env) fp) tg g) (ht : ∀ (s : Shared) (H : Hp) (C : Addr) (cl : List (Str × Addr)) (fp : List Addr), PTs (X.blk s H scope (compEnvC scope cl C X.env) fp) ifs tt)
    (hi1 : ∀ (s : Shared) (H : Hp) (C : Addr) (cl : List (Str × Addr)) (fp : List Addr), PI (X.blk s H scope (compEnvC scope cl C X.env) fp) tg1 iter1 wi1)
    (hg1 : ∀ (s : Shared) (H : Hp) (C : Addr) (cl : List (Str × Addr)) (fp : List Addr), PG (X.blk s H scope (compEnvC scope cl C X.env) fp) tg1 g1) (ht1 : ∀ (s : Shared) (H : Hp) (C : Addr) (cl : List (Str × Addr)) (fp : List Addr), PTs (X.blk s H scope (compEnvC scope cl C X.env) fp) ifs1 tt1)
    (hk : ∀ (s : Shared) (H : Hp) (C : Addr) (cl : List (Str × Addr)) (fp : List Addr), PE (X.blk s H scope (compEnvC scope cl C X.env) fp) kx tk)
    (he : ∀ (s : Shared) (H : Hp) (C : Addr) (cl : List (Str × Addr)) (fp : List Addr), PE (X.blk s H scope (compEnvC scope cl C X.env) fp) vx tv) (hu : ∀ (s : Shared) (H : Hp) (C : Addr) (cl : List (Str × Addr)) (fp : List Addr), (X.blk s H scope (compEnvC scope cl C X.env) fp).A.units + 1 < cLine)
    (hs : ∀ x, foldedSetIterable iter X.env x = pure x := by intro _; rfl) (hs1 : ∀ env x, foldedSetIterable iter1 env x = pure x := by intro _ _; rfl) :
    PE X (.DictComp kx vx [⟨tg, iter, ifs, 0⟩, ⟨tg1, iter1, ifs1, 0⟩] scope pos) (tDc2 wi g tt wi1 g1 tt1 tk tv (own.map (·.2)) vs1) := by
  refine ⟨fun pins s σ H Q I h => ?_⟩
  rw [arm_eval_DictComp]
  refine dc2_core hc hN I hi ok hv hg ht hk he hu hs hi1 hg1 ht1 hs1 h fun D C s' m H' I' q hn f => ⟨m, hn, fun h'' sb => ?_⟩
  obtain ⟨f0, f1, f2, f3, f4, f5⟩ := f
  exact ⟨.ref D, H', I'.turned (t' := s'.toks) (fun b o hb e => (sb.2 b hb).trans e) f0 f1 f3 f4 f5, rfl, q⟩
end
end LK
/-! text K11 -/
namespace LK
open PySem PySem.Spec PyProof.Rows L2
/-! ### dicts of marked pairs -/
/-- what stands in a dict whose keys are the pairs told, each True -/
def DKeys (kvs : List (List Key × V)) (done : List (Nat × Nat)) : Prop := kvs.length ≤ done.length ∧ (∀ p ∈ kvs, p.2 = .bl true ∧ ∃ q ∈ done, p.1 = [.inl (q.1 : Int), .inl (q.2 : Int)]) ∧ ∀ q ∈ done, ∃ p ∈ kvs, p.1 = [.inl (q.1 : Int), .inl (q.2 : Int)]
theorem DKeys.nil : DKeys [] [] := ⟨Nat.le_refl _, fun _ h => (nomatch h), fun _ h => (nomatch h)⟩
theorem mem_putK {κ : Type} [DecidableEq κ] {kvs : List (κ × V)} {k : κ} {v : V} {p : κ × V} (h : p ∈ putK kvs k v) : p = (k, v) ∨ p ∈ kvs := by
  unfold putK at h
  split at h
  · obtain ⟨q, hq, e⟩ := List.mem_map.mp h
    by_cases z : q.1 = k
    · rw [if_pos z, z] at e
      exact .inl e.symm
    · rw [if_neg z] at e
      exact .inr (e ▸ hq)
  · rcases List.mem_append.mp h with z | z
    · exact .inr z
    · exact .inl (List.mem_singleton.mp z)
theorem key_putK {κ : Type} [DecidableEq κ] {kvs : List (κ × V)} {k k' : κ} {v : V} (h : k' = k ∨ ∃ p ∈ kvs, p.1 = k') : ∃ p ∈ putK kvs k v, p.1 = k' := by
  unfold putK
  split
  · rename_i hany
    obtain ⟨q, hq, e⟩ := List.any_eq_true.mp hany
    have e : q.1 = k := by simpa using e
    rcases h with z | ⟨p, hp, z⟩
    · exact ⟨_, List.mem_map.mpr ⟨q, hq, rfl⟩, by rw [if_pos e]; exact e.trans z.symm⟩
    · refine ⟨_, List.mem_map.mpr ⟨p, hp, rfl⟩, ?_⟩
      split <;> exact z
  · rcases h with z | ⟨p, hp, z⟩
    · exact ⟨(k, v), by simp, z.symm⟩
    · exact ⟨p, by simp [hp], z⟩
theorem DKeys.put {kvs : List (List Key × V)} {done : List (Nat × Nat)} (h : DKeys kvs done) (x y : Nat) : DKeys (putK kvs [.inl (x : Int), .inl (y : Int)] (.bl true)) (done ++ [(x, y)]) := by
  obtain ⟨h1, h2, h3⟩ := h
  refine ⟨?_, fun p hp => ?_, fun q hq => ?_⟩
  · have := putK_len kvs [.inl (x : Int), .inl (y : Int)] (.bl true)
    rw [List.length_append, List.length_singleton]
    omega
  · rcases mem_putK hp with rfl | z
    · exact ⟨rfl, (x, y), by simp, rfl⟩
    · obtain ⟨e, q, hq, e2⟩ := h2 p z
      exact ⟨e, q, by simp [hq], e2⟩
  · rcases List.mem_append.mp hq with z | z
    · exact key_putK (.inr (h3 q z))
    · rw [List.mem_singleton.mp z]
      exact key_putK (.inl rfl)
/-- the new dict grows at D, all else stands -/
structure DcI (S : AS) (B : Option Addr) (H1 : Hp) (D : Addr) (H : Hp) (done : List (Nat × Nat)) : Prop where
  r : R B H1 H
  c : Cond (fun a => S a ∨ a = D) B H
  ex : ∃ kvs, H D = some (.dT kvs) ∧ DKeys kvs done
section
variable {S : AS} {B : Option Addr} {H1 H H' : Hp} {D : Addr} {done : List (Nat × Nat)}
theorem DcI.ext (c1 : Cond S B H1) (hD : H1 D = none) (I : DcI S B H1 D H done) : Ext S B H1 (fun a => S a ∨ a = D) H :=
  ⟨fun a z => .inl z, fun a z => z.imp id fun e => by rw [e]; exact hD, c1, I.c, I.r⟩
theorem DcI.start (c1 : Cond S B H1) (hD : H1 D = none) : DcI S B H1 D (upd H1 D (.dT [])) [] := by
  have e : Ext S B H1 _ (upd H1 D (.dT [])) := .new c1 hD
  exact ⟨e.r, e.c, [], upd_same, .nil⟩
theorem DcI.step (c1 : Cond S B H1) (hD : H1 D = none) (I : DcI S B H1 D H done) (r : R B H H') (c : Cond (fun a => S a ∨ a = D) B H') : DcI S B H1 D H' done := by
  obtain ⟨kvs, h1, h2⟩ := I.ex
  exact ⟨I.r.trans r, c, kvs, (r _ _ h1).1 (c1.nb hD), h2⟩
theorem DcI.push (c1 : Cond S B H1) (hD : H1 D = none) (I : DcI S B H1 D H done) (x y : Nat) {b : Addr} (hb : H b = some (.tup ((([.inl (x : Int), .inl (y : Int)] : List Key)).map kV))) (hz : done.length ≤ 50000) :
    ∃ kvs k c, H D = some (.dT kvs) ∧ V.ref b = .ref c ∧ H c = some (.tup (k.map kV)) ∧ kvs.length < sizeLine ∧ DcI S B H1 D (upd H D (.dT (putK kvs k (.bl true)))) (done ++ [(x, y)]) := by
  obtain ⟨kvs, h1, h2⟩ := I.ex
  have nB : B ≠ some D := c1.nb hD
  refine ⟨kvs, [.inl (x : Int), .inl (y : Int)], b, h1, rfl, hb, Nat.lt_of_le_of_lt (Nat.le_trans h2.1 hz) (by decide), fun a o ho => ?_, ⟨fun a ha => ?_, fun b hb => ⟨(I.c.bag b hb).1, ?_⟩⟩, _, upd_same, h2.put x y⟩
  · rw [upd_ne (ne_of_none ho hD)]
    exact I.r a o ho
  · by_cases ea : a = D
    · exact ⟨_, by rw [ea, upd_same]⟩
    · rw [upd_ne ea]
      exact I.c.live a ha
  · obtain ⟨x0, x1, x2, c, ns, g1, g2, g3, g4, g5, g6, g7, g8⟩ := (I.c.bag b hb).2
    have nb : b ≠ D := fun z => nB (by rw [← z]; exact hb)
    have nc : c ≠ D := fun z => g6 (.inr z)
    exact ⟨x0, x1, x2, c, ns, by rw [upd_ne nb]; exact g1, g2, g3, g4, g5, g6, by rw [upd_ne nc]; exact g7, g8⟩
end
/-- an expression whose value is a new dict of marked pairs -/
def JDT (te : TE) (Ps : List Sl) (done : List (Nat × Nat)) : Prop := ∀ (S : AS) (B : Option Addr) (H : Hp) (σ : L2.St), Cond S B H → Slots S B H σ Ps → ∀ Q : VK, (∀ D kvs H', R B H H' → Cond S B H' → H D = none → H' D = some (.dT kvs) → DKeys kvs done → Q (.ref D) H') → te σ H Q
section
variable {K : PySem.W.Frag} {Ps Qs : List Sl} {wi wi1 : TI} {g g1 : L2.TG} {tt tt1 : TT} {tk tv te : TE} {vs vs1 : List Nat} {N : NP} {P : DP}
theorem jdt_dc2 {xs : List Nat} {ys : Nat → List Nat} (hw : JW wi Ps (xs.map fun n : Nat => PyData.int (n : Int))) (hz : (xs.flatMap fun x => (ys x).map fun y => (x, y)).length ≤ 50000)
    (h : ∀ x ∈ xs, ∃ is es, TG g (.int (x : Int)) is es ∧ (∀ i ∈ is, i ∈ vs) ∧ JT tt (setS (wipeP Ps vs) is es) true ∧ JW wi1 (setS (wipeP Ps vs) is es) ((ys x).map fun n : Nat => PyData.int (n : Int)) ∧
      ∀ y ∈ ys x, ∃ is1 es1, TG g1 (.int (y : Int)) is1 es1 ∧ (∀ i ∈ is1, i ∈ vs1) ∧ JT tt1 (setS (wipeP (setS (wipeP Ps vs) is es) vs1) is1 es1) true ∧ JE tk (setS (wipeP (setS (wipeP Ps vs) is es) vs1) is1 es1) (da (.tuple [.int (x : Int), .int (y : Int)])) ∧ JE tv (setS (wipeP (setS (wipeP Ps vs) is es) vs1) is1 es1) (dB true)) :
    JDT (tDc2 wi g tt wi1 g1 tt1 tk tv vs vs1) Ps (xs.flatMap fun x => (ys x).map fun y => (x, y)) := fun S B H σ c s Q q => by
  refine hw S B H σ c s _ fun J H1 Gd Y r1 c1 w hg hy => ?_
  have s1 := s.step c r1
  rw [List.length_map] at w hy
  intro D hD
  have nD : ¬ S D := c1.fresh hD
  have part : ∀ i, ((xs.take i).flatMap fun x => (ys x).map fun y => (x, y)).length ≤ 50000 := fun i => by
    refine Nat.le_trans ?_ hz
    conv => rhs; rw [← List.take_append_drop i xs]
    rw [List.flatMap_append, List.length_append]
    omega
  refine ⟨fun i m H' => m = xs.length - i ∧ i ≤ xs.length ∧ DcI S B H1 D H' ((xs.take i).flatMap fun x => (ys x).map fun y => (x, y)), ⟨_, rfl, Nat.zero_le _, .start c1 hD⟩, ?_⟩
  rintro i m H2 ⟨rfl, hi, I2⟩
  have e2 := I2.ext c1 hD
  have gd : Gd H2 := hg H2 (e2.same.trans sub_le)
  rcases Nat.lt_or_ge i xs.length with lt | ge
  · refine .inr ⟨w.goes i H2 lt gd, fun H' => DcI S B H1 D H' ((xs.take (i + 1)).flatMap fun x => (ys x).map fun y => (x, y)), fun H' z => ⟨xs.length - (i + 1), by omega, rfl, lt, z⟩, fun x H3 hyv => ?_⟩
    obtain ⟨sm, dd, hd, hda⟩ := hy i H2 x H3 lt (e2.same.trans sub_le) (w.yields i H2 x H3 lt gd hyv)
    rw [List.getElem?_map, List.getElem?_eq_getElem lt] at hd
    cases hd
    have c3 := I2.c.same sm
    have I3 := I2.step c1 hD (.of sm) c3
    have e3 := I3.ext c1 hD
    have hmem : xs[i] ∈ xs := List.getElem_mem lt
    have htake : xs.take (i + 1) = xs.take i ++ [xs[i]] := by rw [List.take_add_one, List.getElem?_eq_getElem lt]; rfl
    obtain ⟨is, es, tg, hsub, ht, hw1, hin⟩ := h _ hmem
    have dax := hda (fun a => S a ∨ a = D) I2.c.live fun a z => z.imp id fun e => by rw [e]; exact hD
    refine tg (sub H3 fun a => S a ∨ a = D) H3 _ x sub_le dax _ fun vv hvv => ?_
    have sk := ((s1.ext e3).wipe vs).setAll (is := is) hvv
    refine ⟨by rw [wipe_setV hsub, wipe_idem], ?_⟩
    refine ht _ B H3 _ c3 sk _ fun H4 r4 c4 => iteT ?_
    have sk4 := sk.step c3 r4
    refine hw1 _ B H4 _ c4 sk4 _ fun J1 H5 G1 Y1 r5 c5 w1 hg1 hy1 => ?_
    rw [List.length_map] at w1 hy1
    have I5 := I3.step c1 hD (r4.trans r5) c5
    have hvv5 := hvv.mono ((r4.trans r5).sub c3)
    have total : ∀ j, (((xs.take i).flatMap fun x => (ys x).map fun y => (x, y)) ++ ((ys xs[i]).take j).map fun y => (xs[i], y)).length ≤ 50000 := fun j => by
      refine Nat.le_trans ?_ (part (i + 1))
      rw [htake, List.flatMap_append, List.length_append, List.length_append, List.flatMap_singleton, List.length_map, List.length_map, List.length_take]
      omega
    refine ⟨fun j k H' => k = (ys xs[i]).length - j ∧ j ≤ (ys xs[i]).length ∧ DcI S B H1 D H' (((xs.take i).flatMap fun x => (ys x).map fun y => (x, y)) ++ ((ys xs[i]).take j).map fun y => (xs[i], y)) ∧ Same (sub H5 fun a => S a ∨ a = D) (sub H' fun a => S a ∨ a = D), ⟨_, rfl, Nat.zero_le _, by rw [List.take_zero, List.map_nil, List.append_nil]; exact I5, .refl _⟩, ?_⟩
    rintro j k H6 ⟨rfl, hj, I6, kn6⟩
    have gd6 : G1 H6 := hg1 H6 (kn6.trans sub_le)
    rcases Nat.lt_or_ge j (ys xs[i]).length with lt1 | ge1
    · refine .inr ⟨w1.goes j H6 lt1 gd6, fun H' => DcI S B H1 D H' (((xs.take i).flatMap fun x => (ys x).map fun y => (x, y)) ++ ((ys xs[i]).take (j + 1)).map fun y => (xs[i], y)) ∧ Same (sub H5 fun a => S a ∨ a = D) (sub H' fun a => S a ∨ a = D), fun H' z => ⟨(ys xs[i]).length - (j + 1), by omega, rfl, lt1, z⟩, fun x1 H7 hyv1 => ?_⟩
      obtain ⟨sm1, dd1, hd1, hda1⟩ := hy1 j H6 x1 H7 lt1 (kn6.trans sub_le) (w1.yields j H6 x1 H7 lt1 gd6 hyv1)
      rw [List.getElem?_map, List.getElem?_eq_getElem lt1] at hd1
      cases hd1
      have c7 := I6.c.same sm1
      have I7 := I6.step c1 hD (.of sm1) c7
      have e7 := I7.ext c1 hD
      have kn7 := kn6.trans (sub_same (S := fun a => S a ∨ a = D) sm1)
      have hm1 : (ys xs[i])[j] ∈ ys xs[i] := List.getElem_mem lt1
      have ht1 : (ys xs[i]).take (j + 1) = (ys xs[i]).take j ++ [(ys xs[i])[j]] := by rw [List.take_add_one, List.getElem?_eq_getElem lt1]; rfl
      obtain ⟨is1, es1, tg1, hsub1, htt, htk, htv⟩ := hin _ hm1
      have dax1 := hda1 (fun a => S a ∨ a = D) I6.c.live fun a z => .inl z
      refine tg1 (sub H7 fun a => S a ∨ a = D) H7 _ x1 sub_le dax1 _ fun uu huu => ?_
      have sk7 := ((((s1.ext e7).wipe vs).setAll (is := is) (hvv5.mono kn7)).wipe vs1).setAll (is := is1) huu
      refine ⟨by rw [wipe_setV hsub1, wipe_idem], ?_⟩
      refine htt _ B H7 _ c7 sk7 _ fun H8 r8 c8 => iteT ?_
      have I8 := I7.step c1 hD r8 c8
      refine htk _ B H8 _ c8 (sk7.step c7 r8) _ fun y9 H9 r9 c9 p9 => htv _ B H9 _ c9 ((sk7.step c7 r8).step c8 r9) _ fun z9 H10 r10 c10 p10 => ?_
      cases (show Da _ z9 (.bool true) from p10)
      have I10 := (I8.step c1 hD r9 c9).step c1 hD r10 c10
      obtain ⟨b, rfl, hb⟩ := key2 (Da.mono (r10.sub c9) p9)
      obtain ⟨kvs, kk, cc, a1, a2, a3, a4, a5⟩ := I10.push c1 hD _ _ hb (total j)
      refine ⟨kvs, kk, cc, a1, a2, a3, a4, ?_, ?_⟩
      · rw [ht1, List.map_append, ← List.append_assoc]
        exact a5
      · rw [sub_upd (S := fun a => S a ∨ a = D) (.inr rfl)]
        exact ((kn7.trans (r8.sub c7)).trans (r9.sub c8)).trans (r10.sub c9)
    · refine .inl ⟨?_, ?_⟩
      · have : j = (ys xs[i]).length := by omega
        rw [this]
        exact w1.stops H6 gd6
      · rw [List.take_of_length_le ge1] at I6
        rw [htake, List.flatMap_append, List.flatMap_singleton]
        exact I6
  · have hi' : i = xs.length := by omega
    refine .inl ⟨by rw [hi']; exact w.stops H2 gd, ?_⟩
    rw [List.take_of_length_le ge] at I2
    obtain ⟨kvs, h1, h2⟩ := I2.ex
    have e := I2.ext c1 hD
    exact q D kvs H2 (r1.trans I2.r) e.low (r1.none hD) h1 h2
end
/-! ### d.update(d2) -/
def h8 (q : Nat × Nat) : Int := reduceHash (Builtin.Tuple.tupleHashOf [hashInt (q.1 : Int), hashInt (q.2 : Int)])
def all8 : List (Nat × Nat) := (List.range 8).flatMap fun i => (List.range 8).map fun j => (i, j)
theorem h8_nodup : (all8.map h8).Nodup := by decide +kernel
theorem all8_mem {q : Nat × Nat} (h : q.1 < 8 ∧ q.2 < 8) : q ∈ all8 := by
  unfold all8
  rw [List.mem_flatMap]
  exact ⟨q.1, List.mem_range.mpr h.1, List.mem_map.mpr ⟨q.2, List.mem_range.mpr h.2, rfl⟩⟩
theorem inj_of_nodup {α β : Type} {f : α → β} : ∀ {l : List α}, (l.map f).Nodup → ∀ x ∈ l, ∀ y ∈ l, f x = f y → x = y
  | [], _, x, h, _, _, _ => nomatch h
  | a :: l, n, x, hx, y, hy, e => by
    rw [List.map_cons, List.nodup_cons] at n
    rcases List.mem_cons.mp hx with hx | hx
    · rcases List.mem_cons.mp hy with hy | hy
      · rw [hx, hy]
      · exact absurd (List.mem_map.mpr ⟨y, hy, by rw [← e, hx]⟩) n.1
    · rcases List.mem_cons.mp hy with hy | hy
      · exact absurd (List.mem_map.mpr ⟨x, hx, by rw [e, hy]⟩) n.1
      · exact inj_of_nodup n.2 x hx y hy e
def putAllT (kvs more : List (List Key × V)) : List (List Key × V) := more.foldl (fun acc p => putK acc p.1 p.2) kvs
def rUpd : V → List V → Hp → VK → Prop := fun x vs H Q => ∃ a b kvs more, x = .ref a ∧ vs = [.ref b] ∧ a ≠ b ∧ H a = some (.dT kvs) ∧ H b = some (.dT more) ∧ (∀ p ∈ more, ∃ q : Nat × Nat, q.1 < 8 ∧ q.2 < 8 ∧ p.1 = [.inl (q.1 : Int), .inl (q.2 : Int)]) ∧ kvs.length + more.length ≤ 100000 ∧ Q .non (upd H a (.dT (putAllT kvs more)))
theorem kt_all {H : Hp} : ∀ {more : List (List Key × V)} {ys : List (List Key × Addr × Value)} {kvs : List (List Key × V)} {xs : List (List Key × Addr × Value)}, KT H more ys → KT H kvs xs → KT H (putAllT kvs more) (storedAllH xs ys) := by
  intro more ys kvs xs r
  induction r generalizing kvs xs with
  | nil => intro q; exact q
  | @cons p q ps qs h t ih =>
    intro r0
    show KT H (putAllT (putK kvs p.1 p.2) ps) (storedAllH (storedH xs q.1 q.2.1 q.2.2) qs)
    have := r0.put p.1 h.2.1 h.2.2
    rw [h.1] at this
    rw [h.1]
    exact ih this
theorem putAllT_len : ∀ (more kvs : List (List Key × V)), (putAllT kvs more).length ≤ kvs.length + more.length
  | [], kvs => Nat.le_refl _
  | p :: r, kvs => by
    have h1 := putAllT_len r (putK kvs p.1 p.2)
    have h2 := putK_len kvs p.1 p.2
    show (putAllT (putK kvs p.1 p.2) r).length ≤ _
    rw [List.length_cons]
    omega
theorem kt_mem {H : Hp} {more : List (List Key × V)} {ys : List (List Key × Addr × Value)} (r : KT H more ys) : ∀ y ∈ ys, ∃ p ∈ more, p.1 = y.1 ∧ H y.2.1 = some (.tup (p.1.map kV)) := by
  induction r with
  | nil => intro y h; exact nomatch h
  | @cons p q ps qs h t ih =>
    intro y hy
    rcases List.mem_cons.mp hy with rfl | hy
    · exact ⟨p, List.mem_cons_self, h.1, h.2.1⟩
    · obtain ⟨p', h1, h2⟩ := ih y hy
      exact ⟨p', List.mem_cons_of_mem _ h1, h2⟩
theorem nodup_hash {κ : Type} {f : κ → Int} : ∀ {l : List κ}, l.Nodup → (∀ x ∈ l, ∀ y ∈ l, f x = f y → x = y) → (l.map f).Nodup
  | [], _, _ => List.nodup_nil
  | a :: l, n, h => by
    rw [List.map_cons, List.nodup_cons]
    refine ⟨fun z => ?_, nodup_hash (List.nodup_cons.mp n).2 fun x hx y hy => h x (List.mem_cons_of_mem _ hx) y (List.mem_cons_of_mem _ hy)⟩
    obtain ⟨y, hy, e⟩ := List.mem_map.mp z
    exact (List.nodup_cons.mp n).1 (h y (List.mem_cons_of_mem _ hy) a List.mem_cons_self e ▸ hy)
theorem mt_upd {X : Cx} (hu : X.A.units + 1 < cLine) : MtR X "dict.update" rUpd := by
  intro pins s σ H x vs v us Q I rx rv h
  obtain ⟨a, b, kvs, more, rfl, rfl, hab, ha, hb, hsm, hz, q⟩ := h
  cases rx
  obtain ⟨u, rfl, ru⟩ := rv.one
  cases ru
  obtain ⟨za, hda, xs, ra, da⟩ := dt_of I.hok ha
  obtain ⟨zb, hdb, ys, rb, db⟩ := dt_of I.hok hb
  have la := Paired.length ra
  have lb := Paired.length rb
  refine call_update_dictH (tupleKind_room_in1 hu) hab hdb da db (.inr ⟨fun y hy => ?_, ?_⟩) (by rw [← la, ← lb]; exact Nat.le_trans hz (by decide)) fun g d1 d2 hs => ?_
  · obtain ⟨p, hp, e1, e2⟩ := kt_mem rb y hy
    obtain ⟨_, its, r, o, h1, h2, _⟩ := (show ObjOk X.prog X.w H s.heap _ (.tup (p.1.map kV)) from I.hok _ _ e2)
    exact ⟨o, h1, h2⟩
  · obtain ⟨o, es, ep, g1, g2, g3, g4, g5, g6⟩ := db
    rw [show (fun x : List Key × Addr × Value => (tupleKind (mixKind X.prog X.w)).hash x.1) = (tupleKind (mixKind X.prog X.w)).hash ∘ (·.1) from rfl, ← List.map_map]
    refine nodup_hash g6 fun k1 h1 k2 h2 e => ?_
    obtain ⟨y1, hy1, rfl⟩ := List.mem_map.mp h1
    obtain ⟨y2, hy2, rfl⟩ := List.mem_map.mp h2
    obtain ⟨p1, m1, e1, _⟩ := kt_mem rb y1 hy1
    obtain ⟨p2, m2, e2, _⟩ := kt_mem rb y2 hy2
    obtain ⟨q1, a1, a2, a3⟩ := hsm p1 m1
    obtain ⟨q2, b1, b2, b3⟩ := hsm p2 m2
    rw [← e1, ← e2, a3, b3] at e ⊢
    have e' : h8 q1 = h8 q2 := e
    rw [inj_of_nodup h8_nodup q1 (all8_mem ⟨a1, a2⟩) q2 (all8_mem ⟨b1, b2⟩) e']
  · have hl : (putAllT kvs more).length ≤ sizeLine := Nat.le_trans (putAllT_len more kvs) (Nat.le_trans hz (by decide))
    obtain ⟨o, es, ep, g1, g2, g3, g4, _, g6⟩ := d1
    have ok : ObjOk X.prog X.w (upd H a (.dT (putAllT kvs more))) g a (.dT (putAllT kvs more)) := ⟨hl, hda, _, (kt_all rb ra).keeps fun c ys ec => by
      rw [upd_ne (ne_of ec ha (fun z => nomatch z))]
      exact ec, o, es, ep, g1, g2, g3, g4, g6⟩
    exact ⟨.non, _, d_write (t' := s.toks) I (by rw [ha]; exact True.intro) hs ⟨o, g1⟩ ok, rfl, q⟩
theorem valV_all {w : V} : ∀ {more kvs : List (List Key × V)} {k : List Key}, (∀ p ∈ more, p.2 = w) → valV (putAllT kvs more) k = open Classical in if ∃ p ∈ more, p.1 = k then some w else valV kvs k := by
  intro more
  induction more with
  | nil => intro kvs k _; rw [if_neg (by rintro ⟨p, h, _⟩; exact nomatch h)]; rfl
  | cons p r ih =>
    intro kvs k h
    show valV (putAllT (putK kvs p.1 p.2) r) k = _
    rw [ih fun x hx => h x (List.mem_cons_of_mem _ hx), valV_put, h p List.mem_cons_self]
    by_cases h1 : ∃ x ∈ r, x.1 = k
    · obtain ⟨x, hx, e⟩ := h1
      rw [if_pos ⟨x, hx, e⟩, if_pos ⟨x, List.mem_cons_of_mem _ hx, e⟩]
    · rw [if_neg h1]
      by_cases h2 : k = p.1
      · rw [if_pos h2, if_pos ⟨p, List.mem_cons_self, h2.symm⟩]
      · rw [if_neg h2, if_neg]
        rintro ⟨x, hx, e⟩
        rcases List.mem_cons.mp hx with rfl | hx
        · exact h2 e.symm
        · exact h1 ⟨x, hx, e⟩
section
variable {K : PySem.W.Frag} {Ps Qs : List Sl} {te : TE} {N : NP} {P : DP} {n m : Nat} {f : Int → Int → Option V} {done : List (Nat × Nat)}
theorem js_upd {m' : Nat} (hi : Ps[n]? = some (.od m f)) (h : JDT te Ps done) (hd : ∀ q ∈ done, q.1 < 8 ∧ q.2 < 8) (hm : m + done.length ≤ m') (hz : m' ≤ 100000) :
    JS (tDrop (tBM K "dict" rUpd (tVar n) (tCons te tNil))) Ps (Is (Ps.set n (.od m' fun i j => if ∃ q ∈ done, i = (q.1 : Int) ∧ j = (q.2 : Int) then some (.bl true) else f i j))) P := fun S0 B H0 G D σ H ⟨S, x⟩ nx r => by
  obtain ⟨u, h1, a, kvs, rfl, h2, h3, h4, h5, h6⟩ := x.sl.get hi (by intro z; cases z)
  refine ⟨_, h1, .inr (.inr (.inl ⟨rfl, .inr ⟨kvs, h4⟩⟩)), h S B H σ x.cond x.sl _ fun b more H1 r1 c1 hb0 hb1 hk => ?_⟩
  have x1 := x.step r1 c1
  have h4' := (r1 _ _ h4).1 h3
  have hab : a ≠ b := ne_of_none h4 hb0
  obtain ⟨k1, k2, k3⟩ := hk
  refine ⟨a, b, kvs, more, rfl, rfl, hab, h4', hb1, fun p hp => ?_, by omega, nx _ _ _ rfl ⟨S, x1.wr hi h1 (s' := .od m' fun i j => if ∃ q ∈ done, i = (q.1 : Int) ∧ j = (q.2 : Int) then some (.bl true) else f i j) rfl ⟨a, _, rfl, h2, h3, upd_same, ?_, fun i j => ?_⟩ fun c z => .inl z⟩⟩
  · obtain ⟨_, q, hq, e⟩ := k2 p hp
    exact ⟨q, (hd q hq).1, (hd q hq).2, e⟩
  · have := putAllT_len more kvs
    omega
  · rw [valV_all fun p hp => (k2 p hp).1]
    show _ = if ∃ q ∈ done, i = (q.1 : Int) ∧ j = (q.2 : Int) then some (V.bl true) else f i j
    by_cases e : ∃ q ∈ done, i = (q.1 : Int) ∧ j = (q.2 : Int)
    · obtain ⟨q, hq, e1, e2⟩ := e
      obtain ⟨p, hp, e3⟩ := k3 q hq
      rw [if_pos ⟨p, hp, by rw [e3, e1, e2]⟩, if_pos ⟨q, hq, e1, e2⟩]
    · rw [if_neg e, if_neg, h6]
      rintro ⟨p, hp, e3⟩
      obtain ⟨_, q, hq, e4⟩ := k2 p hp
      rw [e4] at e3
      injection e3 with e5 e6
      injection e6 with e6 _
      injection e5 with e5
      injection e6 with e6
      exact e ⟨q, hq, e5.symm, e6.symm⟩
end
end LK
/-! text K12 -/
namespace LK
open PySem PySem.Spec PyProof.Rows L2
/-! ### rules within a comprehension's block, told of the def's own frame -/
section
variable {X : Cx} {s : Shared} {H : Hp} {sc : Scope} {ce : Env} {fp : List Addr}
theorem ix_seqB : IxR (X.blk s H sc ce fp) (rIx X.K) := ix_seq
theorem call_isiB : CallR (X.blk s H sc ce fp) (.builtin "isinstance") (rIsi X.K) := call_isi
theorem call_lenXB : CallR (X.blk s H sc ce fp) (.builtin "len") (rLenX X.K) := call_lenX
theorem sl_listB : SlR (X.blk s H sc ce fp) (rSlL X.K) := sl_list
theorem op_inDB (hu : (X.blk s H sc ce fp).A.units + 65 < cLine) : OpR (X.blk s H sc ce fp) (compareOp .In) (rInD X.K) := op_inD hu
theorem op_notInDB (hu : (X.blk s H sc ce fp).A.units + 65 < cLine) : OpR (X.blk s H sc ce fp) (compareOp .NotIn) (rNotInD X.K) := op_notInD hu
theorem pi_listB {tg l : Expr} {tl : TE} (h : PE (X.blk s H sc ce fp) l tl) : PI (X.blk s H sc ce fp) tg l (iList X.K tl) := pi_list h
theorem pi_zipSB {e e2 : Expr} {ta : TA} {p pos tpos : Pos} {elts : List Expr} {kk : Nat} (hg : Gl (X.blk s H sc ce fp) "zip") (hm : (X.blk s H sc ce fp).mg "zip" = none) (ha : PA (X.blk s H sc ce fp) [e, e2] ta)
    (hs : starEach [e, e2] (X.blk s H sc ce fp).env = (false, eval e (X.blk s H sc ce fp).env) :: starEach [e2] (X.blk s H sc ce fp).env := by rfl) (hpl : (backTo pos (starEach [e2] (X.blk s H sc ce fp).env)).any (·.1) = false := by rfl) :
    PI (X.blk s H sc ce fp) (.Tuple elts kk tpos) (.Call (.Name "zip" p) [e, e2] [] pos) (iZipS X.K ta) := pi_zipS hg hm ha hs hpl
theorem pg_tupB {es : List Expr} {k : Nat} {t : L2.TGs} {n : Nat} {pos : Pos} (hc : (X.blk s H sc ce fp).calm = true) (h : PGs (X.blk s H sc ce fp) es t)
    (hn : (assignEach es (X.blk s H sc ce fp).env).length = n := by rfl) (hst : (assignEach es (X.blk s H sc ce fp).env).findIdx? (·.1) = none := by rfl) : PG (X.blk s H sc ce fp) (.Tuple es k pos) (gTup X.K n t) := pg_tup hc h hn hst
variable {s' : Shared} {H' : Hp} {sc' : Scope} {ce' : Env} {fp' : List Addr}
theorem pg_tupBB {es : List Expr} {k : Nat} {t : L2.TGs} {n : Nat} {pos : Pos} (hc : ((X.blk s H sc ce fp).blk s' H' sc' ce' fp').calm = true) (h : PGs ((X.blk s H sc ce fp).blk s' H' sc' ce' fp') es t)
    (hn : (assignEach es ((X.blk s H sc ce fp).blk s' H' sc' ce' fp').env).length = n := by rfl) (hst : (assignEach es ((X.blk s H sc ce fp).blk s' H' sc' ce' fp').env).findIdx? (·.1) = none := by rfl) : PG ((X.blk s H sc ce fp).blk s' H' sc' ce' fp') (.Tuple es k pos) (gTup X.K n t) := pg_tup hc h hn hst
end
end LK
/-! text W0 -/
namespace LK
open PySem PySem.Spec PyProof.Rows L2
def topS (i : Nat) : Stmt := PySem.Challenge.pw_labeltill_k48_whole_least_plans.main.body.getD i (.Pass ⟨0, 0, 0, 0⟩)
/-- what the module's names leave of the built-ins -/
structure Top (mg : Str → Option Value) : Prop where
  isinstance_ : mg "isinstance" = none
  int_ : mg "int" = none
  bool_ : mg "bool" = none
  tuple_ : mg "tuple" = none
  list_ : mg "list" = none
  str_ : mg "str" = none
  all_ : mg "all" = none
  len_ : mg "len" = none
  range_ : mg "range" = none
  max_ : mg "max" = none
  min_ : mg "min" = none
  enumerate_ : mg "enumerate" = none
  zip_ : mg "zip" = none
  abs_ : mg "abs" = none
/-- a def of the module -/
structure Def1 (K : PySem.W.Frag) (mg : Str → Option Value) (x : Str) (st : Stmt) : Prop where
  ex : ∃ f fd, FunD K x x (defArgs st) (defBody st) (defScope st) [] [] f fd ∧ mg x = some (.ref f)
theorem hu65 {A : Around} {k : Nat} (hr : Room (k + 1) A) : A.units + 65 < cLine := by
  have := hr.un
  omega
section
variable {P : Program} {w : World} {K : PySem.W.Frag} {mg : Str → Option Value} {base : Heap}
abbrev XX (P : Program) (w : World) (K : PySem.W.Frag) (mg : Str → Option Value) (base : Heap) (N : List Str) (x : Str) (st : Stmt) (f : Addr) (cdv : Value) (A : Around) (outer : List Env) (s : Shared) (H : Hp) (E : XK) : Cx :=
  (cxOf C8.CX0 P w K mg base N x (defScope st) f cdv A outer s H E).nox
theorem mkPure {α : Type} {ins : α → List DP} {pre : α → Prop} {out : α → DP} {x : Str} {st : Stmt} {N ps : List Str} {k n : Nat} (D : Def1 K mg x st) (S : FnScope N ps (defScope st))
    (hb : ∀ (kV doc pm : Value) (an : Option Addr) (cdv ct : Value) (us : List Value), us.length = ps.length → bindArgs (PySem.W.fnOf x x (defArgs st) (defBody st) (defScope st) .none kV doc pm an cdv ct) ⟨us, []⟩ = pure (ps.zip us))
    (hl : ∀ y : α, (ins y).length = ps.length) (hn : N.length = ps.length + n)
    (hbody : ∀ (f : Addr) (cdv : Value) (A : Around) (outer : List Env) (s : Shared) (H : Hp) (E : XK), Room k (XX P w K mg base N x st f cdv A outer s H E).A →
      ∃ t, PSs (XX P w K mg base N x st f cdv A outer s H E) (defBody st) t ∧ ∀ y : α, pre y → JS t (slotsOf (ins y) n) Nev (out y)) : C8.Cal P w K mg base (k + 1) x (PureSp ins pre out) [] := by
  obtain ⟨f, fd, F, hm⟩ := D.ex
  refine ⟨f, fd, ps, [], F.ok S (fun vs H Q E h => ?_) (fun cdv A outer s H vs Q E hr hs => ?_), hm, F.kp, F.bindsN hb, .nil⟩
  · obtain ⟨S', y, _, _, a, _⟩ := h
    rw [a.len, hl y]
  · obtain ⟨t, h1, h2⟩ := hbody f cdv A outer s H E hr
    exact ⟨t, h1.nox, body_pure (fun y => by rw [hl y, hn]) h2 hs⟩
theorem mkDraw {α : Type} {ins : α → List DP} {pre : α → Prop} {out : α → DP} {x : Str} {st : Stmt} {N ps : List Str} {k n : Nat} (D : Def1 K mg x st) (S : FnScope N ps (defScope st))
    (hb : ∀ (kV doc pm : Value) (an : Option Addr) (cdv ct : Value) (us : List Value), us.length = ps.length → bindArgs (PySem.W.fnOf x x (defArgs st) (defBody st) (defScope st) .none kV doc pm an cdv ct) ⟨us, []⟩ = pure (ps.zip us))
    (hl : ∀ y : α, (ins y).length + 1 = ps.length) (hn : N.length = ps.length + n)
    (hbody : ∀ (f : Addr) (cdv : Value) (A : Around) (outer : List Env) (s : Shared) (H : Hp) (E : XK), Room k (XX P w K mg base N x st f cdv A outer s H E).A →
      ∃ t, PSs (XX P w K mg base N x st f cdv A outer s H E) (defBody st) t ∧ ∀ y : α, pre y → JS t (.bag :: slotsOf (ins y) n) Nev (out y)) : C8.Cal P w K mg base (k + 1) x (DrawSp ins pre out) [] := by
  obtain ⟨f, fd, F, hm⟩ := D.ex
  refine ⟨f, fd, ps, [], F.ok S (fun vs H Q E h => ?_) (fun cdv A outer s H vs Q E hr hs => ?_), hm, F.kp, F.bindsN hb, .nil⟩
  · obtain ⟨S', b, y, us, rfl, _, _, a, _⟩ := h
    rw [List.length_cons, a.len, hl y]
  · obtain ⟨t, h1, h2⟩ := hbody f cdv A outer s H E hr
    exact ⟨t, h1.nox, body_draw (fun y => by rw [hl y, hn]) h2 hs⟩
end
end LK
/-! text W1 -/
namespace LK
open PySem PySem.Spec PyProof.Rows L2
def isIntX : PyData → Bool
  | .none => false
  | .bool _ => true
  | .int _ => true
  | .str _ => false
  | .list _ => false
  | .tuple _ => false
  | .dict _ => false
theorem isIntX_k (d : PyData) : kitB (tyD d) "int" = some (isIntX d) := by
  cases d with
  | none => exact (show kitB "NoneType" "int" = some false from by decide +kernel)
  | bool _ => exact (show kitB "bool" "int" = some true from by decide +kernel)
  | int _ => exact (show kitB "int" "int" = some true from by decide +kernel)
  | str _ => exact (show kitB "str" "int" = some false from by decide +kernel)
  | list _ => exact (show kitB "list" "int" = some false from by decide +kernel)
  | tuple _ => exact (show kitB "tuple" "int" = some false from by decide +kernel)
  | dict _ => exact (show kitB "dict" "int" = some false from by decide +kernel)
def isBoolX : PyData → Bool
  | .none => false
  | .bool _ => true
  | .int _ => false
  | .str _ => false
  | .list _ => false
  | .tuple _ => false
  | .dict _ => false
theorem isBoolX_k (d : PyData) : kitB (tyD d) "bool" = some (isBoolX d) := by
  cases d with
  | none => exact (show kitB "NoneType" "bool" = some false from by decide +kernel)
  | bool _ => exact (show kitB "bool" "bool" = some true from by decide +kernel)
  | int _ => exact (show kitB "int" "bool" = some false from by decide +kernel)
  | str _ => exact (show kitB "str" "bool" = some false from by decide +kernel)
  | list _ => exact (show kitB "list" "bool" = some false from by decide +kernel)
  | tuple _ => exact (show kitB "tuple" "bool" = some false from by decide +kernel)
  | dict _ => exact (show kitB "dict" "bool" = some false from by decide +kernel)
def isTupX : PyData → Bool
  | .none => false
  | .bool _ => false
  | .int _ => false
  | .str _ => false
  | .list _ => false
  | .tuple _ => true
  | .dict _ => false
theorem isTupX_k (d : PyData) : kitB (tyD d) "tuple" = some (isTupX d) := by
  cases d with
  | none => exact (show kitB "NoneType" "tuple" = some false from by decide +kernel)
  | bool _ => exact (show kitB "bool" "tuple" = some false from by decide +kernel)
  | int _ => exact (show kitB "int" "tuple" = some false from by decide +kernel)
  | str _ => exact (show kitB "str" "tuple" = some false from by decide +kernel)
  | list _ => exact (show kitB "list" "tuple" = some false from by decide +kernel)
  | tuple _ => exact (show kitB "tuple" "tuple" = some true from by decide +kernel)
  | dict _ => exact (show kitB "dict" "tuple" = some false from by decide +kernel)
def isListX : PyData → Bool
  | .none => false
  | .bool _ => false
  | .int _ => false
  | .str _ => false
  | .list _ => true
  | .tuple _ => false
  | .dict _ => false
theorem isListX_k (d : PyData) : kitB (tyD d) "list" = some (isListX d) := by
  cases d with
  | none => exact (show kitB "NoneType" "list" = some false from by decide +kernel)
  | bool _ => exact (show kitB "bool" "list" = some false from by decide +kernel)
  | int _ => exact (show kitB "int" "list" = some false from by decide +kernel)
  | str _ => exact (show kitB "str" "list" = some false from by decide +kernel)
  | list _ => exact (show kitB "list" "list" = some true from by decide +kernel)
  | tuple _ => exact (show kitB "tuple" "list" = some false from by decide +kernel)
  | dict _ => exact (show kitB "dict" "list" = some false from by decide +kernel)
def isStrX : PyData → Bool
  | .none => false
  | .bool _ => false
  | .int _ => false
  | .str _ => true
  | .list _ => false
  | .tuple _ => false
  | .dict _ => false
theorem isStrX_k (d : PyData) : kitB (tyD d) "str" = some (isStrX d) := by
  cases d with
  | none => exact (show kitB "NoneType" "str" = some false from by decide +kernel)
  | bool _ => exact (show kitB "bool" "str" = some false from by decide +kernel)
  | int _ => exact (show kitB "int" "str" = some false from by decide +kernel)
  | str _ => exact (show kitB "str" "str" = some true from by decide +kernel)
  | list _ => exact (show kitB "list" "str" = some false from by decide +kernel)
  | tuple _ => exact (show kitB "tuple" "str" = some false from by decide +kernel)
  | dict _ => exact (show kitB "dict" "str" = some false from by decide +kernel)
section
variable {P : Program} {w : World} {K : PySem.W.Frag} {mg : Str → Option Value} {base : Heap}
/-! is_integer -/
def isIntD : PyData → Bool
  | .int _ => true
  | _ => false
abbrev spIsInteger : Sp := PureSp (fun d : PyData => [da d]) (fun _ => True) (fun d => dB (isIntD d))
theorem isInt_eq (d : PyData) : (isIntX d && !isBoolX d) = isIntD d := by cases d <;> rfl
theorem cal_is_integer (T : Top mg) (D : Def1 K mg "is_integer" (topS 8)) : C8.Cal P w K mg base 1 "is_integer" spIsInteger [] :=
  mkPure (N := ["thing"]) (ps := ["thing"]) (n := 0) D (C8.fnScope_by (by decide +kernel)) (fun _ _ _ _ _ _ us hl => match us, hl with | [_], _ => rfl) (fun _ => rfl) rfl fun f cdv A outer s H E hr =>
    ⟨_, (pss_one (ps_ret (pe_and (pe_callB call_isi (by rfl) T.isinstance_ (by decide +kernel) (pa_cons (pv 0) (pa_cons (pe_bltn (v := .ty "int") (u := .type "int") (by rfl) T.int_ (by decide +kernel) rfl) pa_nil))) (pe_one (pe_not (pe_callB call_isi (by rfl) T.isinstance_ (by decide +kernel) (pa_cons (pv 0) (pa_cons (pe_bltn (v := .ty "bool") (u := .type "bool") (by rfl) T.bool_ (by decide +kernel) rfl) pa_nil)))))))),
      fun d _ => (js_ret (j_andV (j_isi (j_var rfl) (isIntX_k d)) fun _ => j_notV (j_isi (j_var rfl) (isBoolX_k d)))).out (by rw [isInt_eq])⟩
end
end LK
/-! text W2 -/
namespace LK
open PySem PySem.Spec PyProof.Rows L2
section
variable {P : Program} {w : World} {K : PySem.W.Frag} {mg : Str → Option Value} {base : Heap} {C : Addr}
/-- a method's text -/
structure Met1 (K : PySem.W.Frag) (C : Addr) (m qual : Str) (st : Stmt) : Prop where
  ex : ∃ f fd, Cls K C ∧ Meth K C m f ∧ FunD K m qual (defArgs st) (defBody st) (defScope st) [] [] f fd
abbrev XQ (P : Program) (w : World) (K : PySem.W.Frag) (mg : Str → Option Value) (base : Heap) (N : List Str) (x : Str) (st : Stmt) (f : Addr) (cdv : Value) (A : Around) (outer : List Env) (s : Shared) (H : Hp) (E : XK) : Cx := XX P w K mg base N x st f cdv A outer s H E
theorem mkMet {α : Type} {ins : α → List DP} {pre : α → Prop} {out : α → DP} {m qual : Str} {st : Stmt} {N ps : List Str} {k n : Nat} (D : Met1 K C m qual st) (S : FnScope N ps (defScope st))
    (hb : ∀ (kV doc pm : Value) (an : Option Addr) (cdv ct : Value) (us : List Value), us.length = ps.length → bindArgs (PySem.W.fnOf m qual (defArgs st) (defBody st) (defScope st) .none kV doc pm an cdv ct) ⟨us, []⟩ = pure (ps.zip us))
    (hl : ∀ y : α, (ins y).length = ps.length) (hn : N.length = ps.length + n)
    (hbody : ∀ (f : Addr) (cdv : Value) (A : Around) (outer : List Env) (s : Shared) (H : Hp) (E : XK), Room k (XX P w K mg base N qual st f cdv A outer s H E).A →
      ∃ t, PSs (XX P w K mg base N qual st f cdv A outer s H E) (defBody st) t ∧ ∀ y : α, pre y → JS t (slotsOf (ins y) n) Nev (out y)) : C8.Met P w K mg base (k + 1) C m (PureSp ins pre out) [] := by
  obtain ⟨f, fd, hc, hm, F⟩ := D.ex
  refine ⟨f, fd, ps, [], hc, hm, F.ok S (fun vs H Q E h => ?_) (fun cdv A outer s H vs Q E hr hs => ?_), F.bindsN hb, .nil⟩
  · obtain ⟨S', y, _, _, a, _⟩ := h
    rw [a.len, hl y]
  · obtain ⟨t, h1, h2⟩ := hbody f cdv A outer s H E hr
    exact ⟨t, h1.nox, body_pure (fun y => by rw [hl y, hn]) h2 hs⟩
/-- the class's text -/
structure Init1 (K : PySem.W.Frag) (mg : Str → Option Value) (C : Addr) (st : Stmt) : Prop where
  ex : ∃ f fd dv, Mk K C f ∧ mg "Book" = some (.ref C) ∧ FunD K "__init__" "Book.__init__" (defArgs st) (defBody st) (defScope st) [dv] [] f fd
def isPrD : PyData → Bool
  | .int i => decide (0 ≤ i)
  | _ => false
theorem jc_is_integer {Ps : List Sl} {E : XK} {tr : TA} (x : PyData) (h : JA tr Ps [da x]) : JE (tCall spIsInteger [] E tr) Ps (dB (isIntD x)) := j_call x h trivial
abbrev sp_is_price : Sp := PureSp (fun x : PyData => [da x]) (fun x => True) (fun x => dB (isPrD x))
theorem jc_is_price {Ps : List Sl} {E : XK} {tr : TA} (x : PyData) (h : JA tr Ps ([da x])) (hp : True) : JE (tCall sp_is_price [] E tr) Ps (dB (isPrD x)) := j_call x h hp
theorem cal_is_price (D : Def1 K mg "is_price" (topS 9)) (c_is_integer : C8.Cal P w K mg base 1 "is_integer" spIsInteger []) : C8.Cal P w K mg base 2 "is_price" sp_is_price [] :=
  mkPure (N := ["thing"]) (ps := ["thing"]) (n := 0) D (C8.fnScope_by (by decide +kernel)) (fun _ _ _ _ _ _ us hl => match us, hl with | [_], _ => rfl) (fun _ => rfl) rfl fun f cdv A outer s H E hr => by
    have nd : (["thing"] : List Str).Nodup := by decide +kernel
    have hu : (XX P w K mg base ["thing"] "is_price" (topS 9) f cdv A outer s H E).A.units + 1 < cLine := by have := hr.un; omega
    exact ⟨_, (pss_one (ps_ret (pe_and (C8.pe_c c_is_integer hr (by decide) (by rfl) (pa_cons (pv 0) pa_nil)) (pe_one (pe_cmpR op_ge (pv 0) pe_int (nomark _)))))),
      fun d _ => (js_ret (j_andV (b := isIntD d) (c := isPrD d) (jc_is_integer d (ja_cons (j_var rfl) ja_nil)) fun hi => by
        cases d with
        | int i => exact j_B0 (j_var rfl) j_int
        | _ => cases hi)).out (by cases d <;> rfl)⟩
abbrev sp_is_change : Sp := PureSp (fun x : Int × Int => [da (chgD x)]) (fun x => True) (fun x => dB (decide (0 ≤ x.2)))
theorem jc_is_change {Ps : List Sl} {E : XK} {tr : TA} (x : Int × Int) (h : JA tr Ps ([da (chgD x)])) (hp : True) : JE (tCall sp_is_change [] E tr) Ps (dB (decide (0 ≤ x.2))) := j_call x h hp
theorem cal_is_change (D : Def1 K mg "is_change" (topS 10)) (T : Top mg) (c_is_integer : C8.Cal P w K mg base 1 "is_integer" spIsInteger []) (c_is_price : C8.Cal P w K mg base 2 "is_price" sp_is_price []) : C8.Cal P w K mg base 3 "is_change" sp_is_change [] :=
  mkPure (N := ["thing"]) (ps := ["thing"]) (n := 0) D (C8.fnScope_by (by decide +kernel)) (fun _ _ _ _ _ _ us hl => match us, hl with | [_], _ => rfl) (fun _ => rfl) rfl fun f cdv A outer s H E hr => by
    have nd : (["thing"] : List Str).Nodup := by decide +kernel
    have hu : (XX P w K mg base ["thing"] "is_change" (topS 10) f cdv A outer s H E).A.units + 1 < cLine := by have := hr.un; omega
    exact ⟨_, (pss_one (ps_ret (pe_and (pe_callB call_isi (by rfl) T.isinstance_ (by decide +kernel) (pa_cons (pv 0) (pa_cons (pe_bltn (v := .ty "tuple") (u := .type "tuple") (by rfl) T.tuple_ (by decide +kernel) rfl) pa_nil))) (pe_and (pe_cmpR op_eq (pe_callB call_lenX (by rfl) T.len_ (by decide +kernel) (pa_cons (pv 0) pa_nil)) pe_int (nomark _)) (pe_and (C8.pe_c c_is_integer hr (by decide) (by rfl) (pa_cons (pe_ix ix_seq (pv 0) pe_int (fun _ _ => rfl)) pa_nil)) (pe_one (C8.pe_c c_is_price hr (by decide) (by rfl) (pa_cons (pe_ix ix_seq (pv 0) pe_int (fun _ _ => rfl)) pa_nil)))))))),
      fun p _ => (js_ret (j_andV (j_isi (j_var rfl) (isTupX_k _)) fun _ => j_andV (j_eqI (j_lenT (j_var rfl)) j_int) fun _ => j_andV (jc_is_integer (.int p.1) (ja_cons (j_ixT (j_var rfl) j_int rfl) ja_nil)) fun _ => jc_is_price (.int p.2) (ja_cons (j_ixT (j_var rfl) j_int rfl) ja_nil) trivial)).out (by
        show dB (true && (decide ((2 : Int) = 2) && (true && decide (0 ≤ p.2)))) = _
        simp)⟩
def momD (b : Bk) : PyData := .list (b.2.map fun p => .int p.1)
def prsD (b : Bk) : PyData := .list (.int b.1 :: b.2.map fun p => .int p.2)
abbrev spm_moments (C : Addr) : Sp := PureSp (fun x : Bk => [isBk C x]) (fun x => x.2.length ≤ 1000) (fun x => da (momD x))
theorem jm_moments {Ps : List Sl} {E : XK} {te : TE} {tr : TA} (x : Bk) (h0 : JE te Ps (isBk C x)) (h : JA tr Ps ([])) (hp : x.2.length ≤ 1000) : JE (tMeth C "moments" (spm_moments C) [] E te tr) Ps (da (momD x)) := j_meth x h0 (by decide) h rfl hp
theorem m_moments (D : Met1 K C "moments" "Book.moments" (inClass (topS 13) 6)) (cC : Cls K C) (nC : NoAttr K C "its_changes") (nP : NoAttr K C "its_prices") : C8.Met P w K mg base 1 C "moments" (spm_moments C) [] :=
  mkMet (N := ["self", "moment", "price"]) (ps := ["self"]) (n := 2) D (C8.fnScope_by (by decide +kernel)) (fun _ _ _ _ _ _ us hl => match us, hl with | [_], _ => rfl) (fun _ => rfl) rfl fun f cdv A outer s H E hr => by
    have nd : (["self", "moment", "price"] : List Str).Nodup := by decide +kernel
    have hu : (XX P w K mg base ["self", "moment", "price"] "Book.moments" (inClass (topS 13) 6) f cdv A outer s H E).A.units + 1 < cLine := by have := hr.un; omega
    exact ⟨_, (pss_one (ps_ret (pe_lc (own := [("moment", 1), ("price", 2)]) rfl nd (pi_tup (pe_fld (pv 0) rfl)) (blkOk_by (N := ["self", "moment", "price"]) (sc := defScope (inClass (topS 13) 6)) (by decide +kernel)) (fun _ _ _ _ _ => (pg_tupB (n := 2) (by rfl) (pgs_cons (pg_name (i := 1) nd rfl (.inl rfl)) (pgs_cons (pg_name (i := 2) nd rfl (.inl rfl)) pgs_nil)))) (fun _ _ _ _ _ => pts_nil) (fun _ _ _ _ _ => (pv 1))))),
      fun b hb => js_ret (j_lcA (jw_tup (j_fldC cC nC (j_var rfl))) (by omega) fun p _ => ⟨[1, 2], [.int p.1, .int p.2], tg_2, by simp, j_var rfl⟩)⟩
abbrev spm_prices (C : Addr) : Sp := PureSp (fun x : Bk => [isBk C x]) (fun x => True) (fun x => da (prsD x))
theorem jm_prices {Ps : List Sl} {E : XK} {te : TE} {tr : TA} (x : Bk) (h0 : JE te Ps (isBk C x)) (h : JA tr Ps ([])) (hp : True) : JE (tMeth C "prices" (spm_prices C) [] E te tr) Ps (da (prsD x)) := j_meth x h0 (by decide) h rfl hp
theorem m_prices (D : Met1 K C "prices" "Book.prices" (inClass (topS 13) 7)) (T : Top mg) (cC : Cls K C) (nC : NoAttr K C "its_changes") (nP : NoAttr K C "its_prices") : C8.Met P w K mg base 1 C "prices" (spm_prices C) [] :=
  mkMet (N := ["self"]) (ps := ["self"]) (n := 0) D (C8.fnScope_by (by decide +kernel)) (fun _ _ _ _ _ _ us hl => match us, hl with | [_], _ => rfl) (fun _ => rfl) rfl fun f cdv A outer s H E hr => by
    have nd : (["self"] : List Str).Nodup := by decide +kernel
    have hu : (XX P w K mg base ["self"] "Book.prices" (inClass (topS 13) 7) f cdv A outer s H E).A.units + 1 < cLine := by have := hr.un; omega
    exact ⟨_, (pss_one (ps_ret (pe_callTy call_listX (by rfl) T.list_ (by decide +kernel) (pa_cons (pe_fld (pv 0) rfl) pa_nil)))),
      fun b _ => js_ret (j_listT (j_fldP cC nP (j_var rfl)))⟩
abbrev spm_len (C : Addr) : Sp := PureSp (fun x : Bk => [isBk C x]) (fun x => True) (fun x => dI ((x.2.length + 1 : Nat) : Int))
theorem m_len (D : Met1 K C "__len__" "Book.__len__" (inClass (topS 13) 1)) (T : Top mg) (cC : Cls K C) (nC : NoAttr K C "its_changes") (nP : NoAttr K C "its_prices") : C8.Met P w K mg base 1 C "__len__" (spm_len C) [] :=
  mkMet (N := ["self"]) (ps := ["self"]) (n := 0) D (C8.fnScope_by (by decide +kernel)) (fun _ _ _ _ _ _ us hl => match us, hl with | [_], _ => rfl) (fun _ => rfl) rfl fun f cdv A outer s H E hr => by
    have nd : (["self"] : List Str).Nodup := by decide +kernel
    have hu : (XX P w K mg base ["self"] "Book.__len__" (inClass (topS 13) 1) f cdv A outer s H E).A.units + 1 < cLine := by have := hr.un; omega
    exact ⟨_, (pss_one (ps_ret (pe_callB call_lenX (by rfl) T.len_ (by decide +kernel) (pa_cons (pe_fld (pv 0) rfl) pa_nil)))),
      fun b _ => (js_ret (j_lenT (j_fldP cC nP (j_var rfl)))).out (by rw [List.length_cons, List.length_map])⟩
theorem j_lenB {Ps : List Sl} {te : TE} (x : Bk) (h : JE te Ps (isBk C x)) (hz : x.2.length ≤ 1000) : JE (tCB (rLenOwn K C (spm_len C)) (tCons te tNil)) Ps (dI ((x.2.length + 1 : Nat) : Int)) := j_lenBk x h rfl trivial rfl (by omega)
theorem putF_two (x y : V) : putF "its_prices" y (putF "its_changes" x []) = [(("its_changes" : Str), x), (("its_prices" : Str), y)] := by
  show (if ("its_changes" : Str) = "its_prices" then _ else (("its_changes" : Str), x) :: putF "its_prices" y []) = _
  rw [if_neg (by decide)]
  rfl
theorem fld_run {Ps : List Sl} {tv : TE} {P1 : DP} {S : AS} {B : Option Addr} {H : Hp} {σ : L2.St} {a : Addr} {f : Str} {D : Ends} (h : JE tv Ps P1) (c : Cond S B H) (s : Slots S B H σ Ps) (hv : σ[0]? = some (some (.ref a)))
    (k : ∀ y H', R B H H' → Cond S B H' → P1.p (sub H' S) y → ∃ dx fs, H' a = some (.ins C dx fs) ∧ Cls K C ∧ NoAttr K C f ∧ fs.length < 1000 ∧ D.nx σ (upd H' a (.ins C dx (putF f y fs)))) : sFld K (tVar 0) tv f D σ H :=
  h S B H σ c s _ fun y H' r' c' p' => by
    obtain ⟨dx, fs, h1, h2, h3, h4, h5⟩ := k y H' r' c' p'
    exact ⟨_, hv, a, C, dx, fs, rfl, h1, h2, h3, h4, h5⟩
def nevP : DP := ⟨fun _ _ => False, fun _ h => h⟩
theorem Slots.wr {S : AS} {B : Option Addr} {H : Hp} {σ : L2.St} {Ps : List Sl} {q : Addr} {o : HO} (x : Slots S B H σ Ps) (hq : S q) (n : ∀ s ∈ Ps, ∀ v, ¬ owned s v q) : Slots S B (upd H q o) σ Ps :=
  ⟨x.len, fun i s e => (x.at_ i s e).imp id fun ⟨v, h1, h2⟩ => ⟨v, h1, h2.wr hq (n s (List.mem_of_getElem? e) v)⟩⟩
theorem Cond.wr0 {S : AS} {H : Hp} {q : Addr} {o : HO} (c : Cond S none H) : Cond S none (upd H q o) := ⟨fun a h => by
  by_cases e : a = q
  · exact ⟨o, by rw [e, upd_same]⟩
  · rw [upd_ne e]; exact c.live a h, fun b h => nomatch h⟩
theorem mkBook (D : Init1 K mg C (inClass (topS 13) 0)) (T : Top mg) (c_is_price : C8.Cal P w K mg base 2 "is_price" sp_is_price []) (c_is_change : C8.Cal P w K mg base 3 "is_change" sp_is_change []) (cC : Cls K C) (nC : NoAttr K C "its_changes") (nP : NoAttr K C "its_prices") : C8.Mak P w K mg base 4 "Book" C (InitSp C) [] := by
  obtain ⟨f, fd, dv, M, hm, F⟩ := D.ex
  obtain ⟨ds, hds, hb⟩ := F.binds1 (ps := ["self", "first", "changes"]) 3 1 (by simp) rfl fun T kV doc pm an cdv ct us its hl hi => match us, its, hl, hi with | [_, _, _], [_], _, _ => ⟨_, rfl, rfl⟩
  refine ⟨f, fd, ["self", "first", "changes"], ds, M, F.ok (N := ["self", "first", "changes", "index", "change", "moment", "price"]) (k := 3) (C8.fnScope_by (by decide +kernel)) (fun vs H Q E h => ?_) (fun cdv A outer s H vs Q E hr hs => ?_), hm, hb, hds⟩
  · obtain ⟨S, bk, b, a, dx, u1, u2, rfl, _⟩ := h
    rfl
  · obtain ⟨S, bk, b, a, dx, u1, u2, rfl, hS, hl, ha, h1, h2, ⟨p1, p2, p3, p4⟩, q⟩ := hs
    have nd : (["self", "first", "changes", "index", "change", "moment", "price"] : List Str).Nodup := by decide +kernel
    suffices h : ∃ t, PSs (XX P w K mg base ["self", "first", "changes", "index", "change", "moment", "price"] "Book.__init__" (inClass (topS 13) 0) f cdv A outer s H E) (defBody (inClass (topS 13) 0)) t ∧ t { nx := fun _ H' => Q .non H', rt := Q } (start ["self", "first", "changes", "index", "change", "moment", "price"] [.ref a, u1, u2]) H by
      obtain ⟨t, h1, h2⟩ := h
      exact ⟨t, h1.nox, h2⟩
    refine ⟨_, (pss_cons (ps_if (pt_not (pt_val (C8.pe_c c_is_price hr (by decide) (by rfl) (pa_cons (pv 1) pa_nil)))) (pss_one ps_never) pss_nil) (pss_cons (ps_if (PW.pt (pw_or (pt_not (pt_val (pe_callB call_isiT (by rfl) T.isinstance_ (by decide +kernel) (pa_cons (pv 2) (pa_cons (pe_tup (pa_cons (pe_bltn (v := .ty "list") (u := .type "list") (by rfl) T.list_ (by decide +kernel) rfl) (pa_cons (pe_bltn (v := .ty "tuple") (u := .type "tuple") (by rfl) T.tuple_ (by decide +kernel) rfl) pa_nil))) pa_nil))))) (pw_or1 (pt_not (pt_val (pe_callB (cr_all rfl) (by rfl) T.all_ (by decide +kernel) (pa_cons (pe_lc (own := [("change", 4)]) rfl nd (pi_or (pi_list (pv 2)) (pi_tup (pv 2))) (blkOk_by (N := ["self", "first", "changes", "index", "change", "moment", "price"]) (sc := defScope (inClass (topS 13) 0)) (by decide +kernel)) (fun _ _ _ _ _ => (pg_name (i := 4) nd rfl (.inl rfl))) (fun _ _ _ _ _ => pts_nil) (fun _ _ _ _ _ => (C8.pe_c c_is_change hr (by decide) (by rfl) (pa_cons (pv 4) pa_nil)))) pa_nil))))))) (pss_one ps_never) pss_nil) (pss_cons (ps_for PassesOwn.never rfl (pi_range2 (by rfl) T.range_ (pa_cons pe_int (pa_cons (pe_callB call_lenX (by rfl) T.len_ (by decide +kernel) (pa_cons (pv 2) pa_nil)) pa_nil))) (pg_name (i := 3) nd rfl (.inl rfl)) (pss_one (ps_if (pt_cmpR op_le (pe_ix ix_seq (pe_ix ix_seq (pv 2) (pv 3) (fun _ _ => rfl)) pe_int (fun _ _ => rfl)) (pe_ix ix_seq (pe_ix ix_seq (pv 2) (pe_op op_sub (pv 3) pe_int) (fun _ _ => rfl)) pe_int (fun _ _ => rfl)) (nomark _)) (pss_one ps_never) pss_nil))) (pss_cons (ps_fld (pv 0) (pe_callTy call_tupX (by rfl) T.tuple_ (by decide +kernel) (pa_cons (pv 2) pa_nil)) rfl) (pss_one (ps_fld (pv 0) (pe_tup (pa_cons (pv 1) (StX.pa_star (by exact pe_lc (own := [("moment", 5), ("price", 6)]) rfl nd (pi_or (pi_list (pv 2)) (pi_tup (pv 2))) (blkOk_by (N := ["self", "first", "changes", "index", "change", "moment", "price"]) (sc := defScope (inClass (topS 13) 0)) (by decide +kernel)) (fun _ _ _ _ _ => (pg_tupB (n := 2) (by rfl) (pgs_cons (pg_name (i := 5) nd rfl (.inl rfl)) (pgs_cons (pg_name (i := 6) nd rfl (.inl rfl)) pgs_nil)))) (fun _ _ _ _ _ => pts_nil) (fun _ _ _ _ _ => (pv 6))) pa_nil))) rfl)))))), ?_⟩
    let Ps : List Sl := slotsOf [cst (.ref a), da (.int bk.1), da (seqD b (bk.2.map chgD))] 4
    have hat : At S none H (sub H S) Ps (start ["self", "first", "changes", "index", "change", "moment", "price"] [.ref a, u1, u2]) H := ⟨S, fun a z => z, (fun b z => nomatch z), fun a z => .inl z, ⟨hl, (fun b z => nomatch z)⟩, .refl H, slots_start (.cons rfl (.cons h1 (.cons h2 .nil))) rfl, fun i s v a h1 _ h3 => (noown h1 h3).elim, fun i j s t v w a _ h1 _ _ _ h3 => (noown h1 h3).elim, .refl _⟩
    have ty : JE (tVar 2) Ps (da (seqD b (bk.2.map chgD))) := j_var rfl
    refine (js_if (N := Is Ps) (P := nevP) (b := false) ((jt_not (jt_test (jc_is_price (.int bk.1) (ja_cons (j_var rfl) ja_nil) trivial))).is (by show (!decide (0 ≤ bk.1)) = false; simp [p1])) (fun z => nomatch z) fun _ => js_next) S none H (sub H S) _ _ H hat (fun Qs σ1 H1 e x1 => ?_) (fun v H' f => f.p.elim)
    cases e
    have fl : (∀ p ∈ bk.2, decide (0 ≤ p.2) = true) := fun p hp => by simp [p2 p hp]
    refine (js_if (N := Is Ps) (P := nevP) (b := false) ((jt_or (jt_not (jt_test (j_isi2 ty (isListX_k _) (isTupX_k _)))) fun _ => jt_not (jt_test (j_all (bs := bk.2.map fun p => decide (0 ≤ p.2)) ((j_lcA (v := fun p => .bool (decide (0 ≤ p.2))) (xs := bk.2) (enc := chgD) (jw_seq (K := K) ty) (by omega) fun p _ => ⟨[4], [chgD p], tg_name, by simp, jc_is_change p (ja_cons (j_var rfl) ja_nil) trivial⟩).dat (by rw [List.map_map]; rfl))))).is ?_) (fun z => nomatch z) fun _ => js_next) S none H (sub H S) _ σ1 H1 x1 (fun Qs σ2 H2 e x2 => ?_) (fun v H' f => f.p.elim)
    · have : (bk.2.map fun p => decide (0 ≤ p.2)).all id = true := by
        rw [List.all_map, List.all_eq_true]
        exact fl
      rw [this]
      cases b <;> rfl
    cases e
    refine (js_forI (P := nevP) (jw_rng2 (i := 1) (j := (bk.2.length : Int)) (jd_cons j_int (jd_cons ((j_lenSeq (b := b) (ds := bk.2.map chgD) ty).eq (by rw [List.length_map])) jd_nil)) (by omega) (by omega)) (fun _ => Ps) (PsLe.refl _) fun i d hd => ⟨[3], [d], tg_name, ?_⟩) S none H (sub H S) _ σ2 H2 x2 (fun Qs σ3 H3 e x3 => ?_) (fun v H' f => f.p.elim)
    · obtain ⟨hi, hd'⟩ := List.getElem?_eq_some_iff.mp hd
      rw [irng_len] at hi
      rw [irng_get hi] at hd
      cases hd
      have hi2 : i + 1 < bk.2.length := by omega
      have g1 : (bk.2.map chgD)[i + 1]? = some (chgD bk.2[i + 1]) := by rw [List.getElem?_map, List.getElem?_eq_getElem hi2]; rfl
      have g2 : (bk.2.map chgD)[i]? = some (chgD (bk.2[i]'(by omega))) := by rw [List.getElem?_map, List.getElem?_eq_getElem (by omega)]; rfl
      have lt := p4 i hi2 _ _ (List.getElem?_eq_getElem (by omega)) (List.getElem?_eq_getElem hi2)
      refine js_if (b := false) ((jt_test (j_B0 (j_ixT (ds := [.int bk.2[i + 1].1, .int bk.2[i + 1].2]) (j_ixSeq (b := b) (ds := bk.2.map chgD) (d := chgD bk.2[i + 1]) (i := 1 + (i : Int)) (j_var rfl) (j_var rfl) ?_) j_int rfl) (j_ixT (ds := [.int (bk.2[i]'(by omega)).1, .int (bk.2[i]'(by omega)).2]) (j_ixSeq (b := b) (ds := bk.2.map chgD) (d := chgD (bk.2[i]'(by omega))) (i := 1 + (i : Int) - 1) (j_var rfl) (j_I0 (j_var rfl) j_int) ?_) j_int rfl))).is (decide_eq_false (by omega))) (fun z => nomatch z) fun _ => js_next.imp fun Qs q => ⟨Ps, q ▸ (by repeat first | exact True.intro | refine And.intro (Or.inr rfl) ?_ | refine And.intro (Or.inl rfl) ?_), rfl⟩
      · rw [show (1 + (i : Int)) = ((i + 1 : Nat) : Int) by omega]; exact atI_get g1
      · rw [show (1 + (i : Int) - 1) = ((i : Nat) : Int) by omega]; exact atI_get g2
    cases e
    obtain ⟨S', x3⟩ := x3
    have ow : ∀ s ∈ Ps, ∀ v a, ¬ owned s v a := by
      intro s hs v a
      simp only [Ps, slotsOf, List.mem_append, List.mem_map, List.mem_replicate] at hs
      rcases hs with ⟨P, _, rfl⟩ | ⟨_, rfl⟩ <;> exact id
    obtain ⟨v0, hv0, e0⟩ := x3.sl.get (i := 0) rfl (by intro z; cases z)
    cases (show v0 = .ref a from e0)
    have hS' : S' a := x3.up a hS
    refine fld_run (C := C) (j_tupSeq (K := K) (b := b) (ds := bk.2.map chgD) (Ps := Ps) (j_var rfl)) x3.cond x3.sl hv0 fun y1 H4 r4 c4 q4 => ⟨dx, [], ?_, cC, nC, by show 0 < 1000; decide, ?_⟩
    · exact (r4 _ _ ((x3.r _ _ ha).1 (fun z => nomatch z))).1 (fun z => nomatch z)
    have sl5 : Slots S' none (upd H4 a (.ins C dx (putF "its_changes" y1 []))) σ3 Ps := (x3.sl.step x3.cond r4).wr hS' fun s hs v => ow s hs v a
    have c5 : Cond S' none (upd H4 a (.ins C dx (putF "its_changes" y1 []))) := c4.wr0
    refine fld_run (C := C) (j_tup (ds := .int bk.1 :: (bk.2.map fun p => .int p.2)) (jd_cons (j_var rfl) ((jd_star (K := K) (es := bk.2.map fun p => .int p.2) (j_lcA (xs := bk.2) (enc := chgD) (v := fun p => .int p.2) (jw_seq (K := K) (b := b) (j_var rfl)) (by omega) fun p _ => ⟨[5, 6], [.int p.1, .int p.2], tg_2, by simp, j_var rfl⟩) jd_nil).is (List.append_nil _))) (by rw [List.length_cons, List.length_map]; omega)) c5 sl5 hv0 fun y2 H6 r6 c6 q6 => ⟨dx, [("its_changes", y1)], ?_, cC, nP, by show 1 < 1000; decide, ?_⟩
    · exact (r6 _ _ upd_same).1 (fun z => nomatch z)
    refine q _ y1 y2 (fun c o nc hc => ?_) ?_ ?_ ?_
    · rw [upd_ne nc]
      have h3 := (r4 _ _ ((x3.r _ _ hc).1 (fun z => nomatch z))).1 (fun z => nomatch z)
      exact (r6 _ _ (by rw [upd_ne nc]; exact h3)).1 (fun z => nomatch z)
    · rw [upd_same]
      exact congrArg (fun z => some (HO.ins C dx z)) (putF_two y1 y2)
    · have k1 : Same (sub H4 S') (sub (upd H4 a (.ins C dx (putF "its_changes" y1 []))) S') := by rw [sub_upd hS']; exact .refl _
      refine Da.mono ((k1.trans (r6.sub c5)).trans ?_) q4
      rw [← sub_upd (H := H6) (o := .ins C dx (putF "its_prices" y2 [("its_changes", y1)])) hS']
      exact sub_mono x3.up
    · refine Da.mono ?_ q6
      rw [← sub_upd (H := H6) (o := .ins C dx (putF "its_prices" y2 [("its_changes", y1)])) hS']
      exact sub_mono x3.up
end
end LK
/-! text M0 -/
namespace LK
open PySem PySem.Spec PyProof.Rows L2
/-! ### what the program's functions compute, in plain Lean -/
abbrev Pln := List Int × List Int
abbrev Cel := Nat × Nat
abbrev Pr2 := Int × Int
def intsD (l : List Int) : PyData := .list (l.map .int)
def p2D (p : Pr2) : PyData := .tuple [.int p.1, .int p.2]
def celD (c : Cel) : PyData := .tuple [.int (c.1 : Int), .int (c.2 : Int)]
def plnD (P : Pln) : PyData := .tuple [intsD P.1, intsD P.2]
def prL (b : Bk) : List Int := b.1 :: b.2.map (·.2)
def msL (b : Bk) : List Int := b.2.map (·.1)
/-- pairs in their order -/
def sentB (ms xs : List Int) : Bool := decide (xs.length = ms.length) && ((ms.zip xs).all fun p => decide (p.1 ≤ p.2)) && ((xs.zip (xs.drop 1)).all fun p => decide (p.1 ≤ p.2))
def planB (ms : List Int) (P : Pln) : Bool := sentB ms P.1 && sentB ms P.2
def badC (p : List Int) : List Cel := (List.range p.length).flatMap fun i => ((List.range p.length).filter fun j => decide (p.getD i 0 < p.getD j 0)).map fun j => (i, j)
def llB (L T G : Pr2) (P : Pln) (c : Cel) : Bool := !(decide (P.1.length ≤ c.1) || decide (c.2 = 0)) && decide (P.1.getD c.1 0 + L.2 + G.2 < P.2.getD (c.2 - 1) 0 + T.1)
def tlB (L T G : Pr2) (P : Pln) (c : Cel) : Bool := !(decide (c.1 = 0) || decide (P.2.length ≤ c.2)) && decide (P.2.getD c.2 0 + T.2 < P.1.getD (c.1 - 1) 0 + L.1 + G.1)
/-- orders: true a change of the till, false one of the label -/
abbrev Ord := List Bool
def code (b : Bool) : Nat := if b then 84 else 76
def ordS (o : Ord) : Str := SX.S (o.map code)
def letS (b : Bool) : Str := SX.S [code b]
def cn (b : Bool) (o : Ord) : Nat := o.count b
def celAt (o : Ord) (k : Nat) : Cel := (cn false (o.take k), cn true (o.take k))
def celsOf (o : Ord) : List Cel := (List.range (o.length + 1)).map (celAt o)
def ordB (n : Nat) (o : Ord) : Bool := decide (o.length = 2 * n) && (decide (cn false o = n) && decide (cn true o = n))
def goodB (b : Bk) (o : Ord) : Bool := ordB b.2.length o && (celsOf o).all fun c => !decide (c ∈ badC (prL b))
def spots (b : Bool) (o : Ord) : List Nat := (List.range o.length).filter fun i => decide (o[i]? = some b)
def place (o : Ord) (b : Bool) (k : Nat) : Nat := (spots b o).getD (k - 1) 0
def lfB (o : Ord) (c : Cel) : Bool := decide (0 < c.2) && decide (c.1 < cn false (o.take (place o true c.2)))
def folB (b : Bk) (L T G : Pr2) (P : Pln) (o : Ord) : Bool := (badC (prL b)).all fun c => if lfB o c then llB L T G P c else tlB L T G P c
/-- the ways on from the cell n - a, n - b -/
def wy (bar : Nat → Nat → Bool) (n : Nat) : Nat → Nat → Nat
  | 0, 0 => if bar n n then 0 else 1
  | a + 1, 0 => if bar (n - (a + 1)) n then 0 else wy bar n a 0
  | 0, b + 1 => if bar n (n - (b + 1)) then 0 else wy bar n 0 b
  | a + 1, b + 1 => if bar (n - (a + 1)) (n - (b + 1)) then 0 else wy bar n a (b + 1) + wy bar n (a + 1) b
/-- what a plan bars -/
def inBar (L T G : Pr2) (P : Pln) (n : Nat) (d c : Cel) : Bool := if llB L T G P d then decide (c.1 ≤ d.1 ∧ d.2 ≤ c.2 ∧ c.2 ≤ n) else decide (d.1 ≤ c.1 ∧ c.1 ≤ n ∧ c.2 ≤ d.2)
def barL (L T G : Pr2) (P : Pln) (n : Nat) (ds : List Cel) (x y : Nat) : Bool := ds.any fun d => inBar L T G P n d (x, y)
/-- the order that is found, its first k letters -/
def gro (pos : Cel → Bool) : Nat → Ord
  | 0 => []
  | k + 1 => gro pos k ++ [!pos (cn false (gro pos k) + 1, cn true (gro pos k))]
def wpos (b : Bk) (L T G : Pr2) (P : Pln) (c : Cel) : Bool := decide (c.1 ≤ b.2.length ∧ c.2 ≤ b.2.length) && decide (0 < wy (barL L T G P b.2.length (badC (prL b))) b.2.length (b.2.length - c.1) (b.2.length - c.2))
def foundO (b : Bk) (L T G : Pr2) (P : Pln) : Ord := gro (wpos b L T G P) (2 * b.2.length)
/-- forces -/
abbrev Frc := List (Nat × Int)
def baseF (o : Ord) : List Frc := (List.range o.length).map fun k => ((List.range k).filter fun s => decide (o[s]? = o[k]?)).map fun s => (s, 0)
def putF2 (fs : List Frc) (h : Nat) (x : Nat × Int) : List Frc := fs.set h (fs.getD h [] ++ [x])
def hereF (o : Ord) (c : Cel) : Nat := if lfB o c then place o true c.2 else place o false c.1
def thereF (L T G : Pr2) (o : Ord) (c : Cel) : Nat × Int := if lfB o c then (place o false (c.1 + 1), L.2 + G.2 - T.1 + 1) else (place o true (c.2 + 1), T.2 - L.1 - G.1 + 1)
def frcs (b : Bk) (L T G : Pr2) (o : Ord) : List Frc := (badC (prL b)).foldl (fun fs c => putF2 fs (hereF o c) (thereF L T G o c)) (baseF o)
def ownL (ms : List Int) (o : Ord) : List Int := (List.range o.length).map fun k => ms.getD (cn (o.getD k false) (o.take k)) 0
def maxL (x : Int) (l : List Int) : Int := l.foldl max x
def lmGo (own : List Int) (fs : List Frc) : Nat → List Int
  | 0 => []
  | k + 1 => lmGo own fs k ++ [maxL (own.getD k 0) ((fs.getD k []).map fun p => (lmGo own fs k).getD p.1 0 + p.2)]
def lmL (b : Bk) (L T G : Pr2) (o : Ord) : List Int := lmGo (ownL (msL b) o) (frcs b L T G o) o.length
def side (o : Ord) (m : List Int) (x : Bool) : List Int := ((o.zip m).filter fun p => decide (p.1 = x)).map (·.2)
def splitM (o : Ord) (m : List Int) : Pln := (side o m false, side o m true)
def leastP (b : Bk) (L T G : Pr2) (o : Ord) : Pln := splitM o (lmL b L T G o)
def minN (l : List Nat) : Nat := l.foldl min (l.headD 0)
def fbAt (own m : List Int) (f : Frc) (k : Nat) : Option Nat := if m.getD k 0 = own.getD k 0 then none else some (minN ((f.filter fun p => decide (m.getD p.1 0 + p.2 = m.getD k 0)).map (·.1)))
def fbL (b : Bk) (L T G : Pr2) (o : Ord) : List (Option Nat) := (List.range o.length).map fun k => fbAt (ownL (msL b) o) (lmL b L T G o) ((frcs b L T G o).getD k []) k
def optD : Option Nat → PyData
  | none => .none
  | some k => .int (k : Int)
def frcD (f : Frc) : List PyData := f.map fun p => .tuple [.int (p.1 : Int), .int p.2]
/-! ### texts -/
theorem L_is : ("L" : Str) = letS false := by rfl
theorem T_is : ("T" : Str) = letS true := by rfl
theorem ordS_len (o : Ord) : (ordS o).length = o.length := by unfold ordS; rw [SX.S_len, List.length_map]
theorem ordS_cps (o : Ord) : (ordS o).cps.toList = o.map code := by unfold ordS; rfl
theorem ordS_size (o : Ord) : (ordS o).cps.size = o.length := by rw [← Array.length_toList, ordS_cps, List.length_map]
theorem code_inj {a b : Bool} (h : code a = code b) : a = b := by cases a <;> cases b <;> first | rfl | cases h
theorem cnt_code (b : Bool) : ∀ o : Ord, PyProof.Rows.cnt (code b) (o.map code) = (cn b o : Int)
  | [] => rfl
  | x :: o => by
    rw [List.map_cons, PyProof.Rows.cnt_cons, cnt_code b o]
    unfold cn
    rw [List.count_cons]
    by_cases h : x = b
    · rw [if_pos (by rw [h]), h, if_pos (by simp)]
      omega
    · rw [if_neg (fun z => h (code_inj z)), if_neg (by simpa using h)]
      omega
theorem count_ord (o : Ord) (b : Bool) : Txt.count (ordS o) (letS b) = (cn b o : Int) := by
  have e := PyProof.Rows.count_cnt (ordS o) (code b)
  rw [ordS_cps, cnt_code] at e
  exact e
theorem take_ord (o : Ord) (k : Nat) : Txt.slice (ordS o) none (some (k : Int)) = ordS (o.take k) := by
  unfold ordS
  rw [SX.slice_to (by omega), Int.toNat_natCast, List.map_take]
theorem cat_ord (a b : Ord) : ordS a ++ ordS b = ordS (a ++ b) := by unfold ordS; rw [SX.S_cat, List.map_append]
theorem letS_eq {a b : Bool} : (letS a = letS b) ↔ a = b := ⟨fun h => by
  have := SX.S_inj h
  exact code_inj (by injection this), fun h => by rw [h]⟩
theorem sgn_code (b : Bool) : sgn (code b) = .str (letS b) := rfl
theorem letS_ord (b : Bool) : letS b = ordS [b] := rfl
theorem ordS_nil : ("" : Str) = ordS [] := by rfl
theorem letS_lt (b : Bool) : isLT (letS b) := by
  cases b
  · exact .inl L_is.symm
  · exact .inr T_is.symm
theorem letS_isL (b : Bool) : (letS b = "L") ↔ b = false := by rw [L_is, letS_eq]
/-! ### data that may be compared -/
theorem shp_int (i : Int) : SeqAt.shaped (.int i) = true := rfl
theorem shp_cel (c : Cel) : SeqAt.shaped (celD c) = true := rfl
theorem mem_badC {p : List Int} {c : Cel} : c ∈ badC p ↔ c.1 < p.length ∧ c.2 < p.length ∧ p.getD c.1 0 < p.getD c.2 0 := by
  unfold badC
  rw [List.mem_flatMap]
  constructor
  · rintro ⟨i, hi, h⟩
    obtain ⟨j, hj, rfl⟩ := List.mem_map.mp h
    obtain ⟨h1, h2⟩ := List.mem_filter.mp hj
    exact ⟨List.mem_range.mp hi, List.mem_range.mp h1, of_decide_eq_true h2⟩
  · rintro ⟨h1, h2, h3⟩
    exact ⟨c.1, List.mem_range.mpr h1, List.mem_map.mpr ⟨c.2, List.mem_filter.mpr ⟨List.mem_range.mpr h2, decide_eq_true h3⟩, rfl⟩⟩
theorem prL_len (b : Bk) : (prL b).length = b.2.length + 1 := by unfold prL; rw [List.length_cons, List.length_map]
theorem bad_le {b : Bk} {c : Cel} (h : c ∈ badC (prL b)) : c.1 ≤ b.2.length ∧ c.2 ≤ b.2.length := by
  have := mem_badC.mp h
  rw [prL_len] at this
  omega
theorem eqv_cel (a b : Cel) : PyData.eqv (celD a) (celD b) = decide (a = b) := by
  show (((a.1 : Int) == (b.1 : Int)) && (((a.2 : Int) == (b.2 : Int)) && true)) = _
  rw [Bool.and_true]
  cases h : decide (a = b)
  · have h := of_decide_eq_false h
    by_cases h1 : a.1 = b.1
    · have : a.2 ≠ b.2 := fun e => h (Prod.ext h1 e)
      have : ((a.2 : Int) == (b.2 : Int)) = false := by simpa using fun e => this (by exact_mod_cast e)
      rw [this, Bool.and_false]
    · have : ((a.1 : Int) == (b.1 : Int)) = false := by simpa using fun e => h1 (by exact_mod_cast e)
      rw [this, Bool.false_and]
  · have h := of_decide_eq_true h
    subst h
    simp
theorem lay_all : ∀ {ds : List PyData}, (∀ d ∈ ds, d.canLay0 = true ∧ d.depth ≤ 60) → PyData.canLayAll0 ds = true ∧ PyData.depthAll ds ≤ 60
  | [], _ => ⟨rfl, by simp [PyData.depthAll]⟩
  | d :: ds, h => by
    obtain ⟨h1, h2⟩ := h d List.mem_cons_self
    obtain ⟨h3, h4⟩ := lay_all fun x hx => h x (List.mem_cons_of_mem _ hx)
    refine ⟨by simp only [PyData.canLayAll0, h1, h3, Bool.and_self], ?_⟩
    simp only [PyData.depthAll]
    omega
theorem shp_list {ds : List PyData} (h : ∀ d ∈ ds, d.canLay0 = true ∧ d.depth ≤ 60) : SeqAt.shaped (.list ds) = true := by
  obtain ⟨h1, h2⟩ := lay_all h
  show (PyData.canLayAll0 ds && decide (PyData.depthAll ds + 1 ≤ 64)) = true
  rw [h1, Bool.true_and, decide_eq_true_eq]
  omega
theorem lay_cel (c : Cel) : (celD c).canLay0 = true ∧ (celD c).depth ≤ 60 := ⟨rfl, by show max 0 (max 0 0) + 1 ≤ 60; decide⟩
theorem shp_cels (cs : List Cel) : SeqAt.shaped (.list (cs.map celD)) = true := shp_list fun d hd => by
  obtain ⟨c, _, rfl⟩ := List.mem_map.mp hd
  exact lay_cel c
theorem any_cel (cs : List Cel) (c : Cel) : ((cs.map celD).any fun z => PyData.eqv z (celD c)) = decide (c ∈ cs) := by
  rw [List.any_map]
  have : ((fun z => PyData.eqv z (celD c)) ∘ celD) = fun a => decide (a = c) := funext fun a => eqv_cel a c
  rw [this]
  cases h : decide (c ∈ cs)
  · have h := of_decide_eq_false h
    rw [Bool.eq_false_iff]
    intro z
    obtain ⟨a, ha, e⟩ := List.any_eq_true.mp z
    exact h (of_decide_eq_true e ▸ ha)
  · have h := of_decide_eq_true h
    exact List.any_eq_true.mpr ⟨c, h, decide_eq_true rfl⟩
/-! ### lists of ints, by index -/
theorem atI_ints {l : List Int} {i : Int} (h0 : 0 ≤ i) (h1 : i < l.length) : atI (l.map PyData.int) i = some (.int (l.getD i.toNat 0)) := by
  obtain ⟨n, rfl⟩ := Int.eq_ofNat_of_zero_le h0
  have hn : n < l.length := by omega
  refine atI_get ?_
  rw [List.getElem?_map, List.getElem?_eq_getElem hn, List.getD_eq_getElem?_getD, Int.toNat_natCast, List.getElem?_eq_getElem hn]
  rfl
theorem atI_nats {l : List Int} {n : Nat} (h : n < l.length) : atI (l.map PyData.int) (n : Int) = some (.int (l.getD n 0)) := by
  rw [atI_ints (by omega) (by omega), Int.toNat_natCast]
theorem atI_map {α : Type} {l : List α} {f : α → PyData} {n : Nat} {x : α} (h : l[n]? = some x) : atI (l.map f) (n : Int) = some (f x) := by
  refine atI_get ?_
  rw [List.getElem?_map, h]
  rfl
/-! ### orders -/
def movC (c : Cel) (b : Bool) : Cel := if b then (c.1, c.2 + 1) else (c.1 + 1, c.2)
theorem cn_snoc (x b : Bool) (o : Ord) : cn x (o ++ [b]) = cn x o + if b = x then 1 else 0 := by
  unfold cn
  rw [List.count_append, List.count_singleton]
  by_cases h : b = x
  · subst h; simp
  · rw [if_neg (by simpa using h), if_neg h]
theorem take_succ {o : Ord} {k : Nat} {b : Bool} (h : o[k]? = some b) : o.take (k + 1) = o.take k ++ [b] := by rw [List.take_add_one, h]; rfl
theorem celAt_succ {o : Ord} {k : Nat} {b : Bool} (h : o[k]? = some b) : celAt o (k + 1) = movC (celAt o k) b := by
  unfold celAt movC
  rw [take_succ h, cn_snoc, cn_snoc]
  cases b <;> rfl
theorem celAt_zero (o : Ord) : celAt o 0 = (0, 0) := rfl
theorem spots_len (b : Bool) (o : Ord) : (spots b o).length = cn b o := by
  unfold spots
  have key : ∀ k, k ≤ o.length → ((List.range k).filter fun i => decide (o[i]? = some b)).length = cn b (o.take k) := by
    intro k
    induction k with
    | zero => intro _; rfl
    | succ k ih =>
      intro hk
      have hk' : k < o.length := hk
      have e : o[k]? = some o[k] := List.getElem?_eq_getElem hk'
      rw [List.range_succ, List.filter_append, List.length_append, ih (by omega), take_succ e, cn_snoc]
      congr 1
      rw [List.filter_cons, e]
      by_cases h : o[k] = b
      · rw [if_pos (by simp [h]), if_pos h]; rfl
      · rw [if_neg (by simpa using h), if_neg h]; rfl
  rw [key o.length (Nat.le_refl _), List.take_length]
theorem place_at {o : Ord} {b : Bool} {k : Nat} (h0 : 1 ≤ k) (h : k ≤ cn b o) : (spots b o)[k - 1]? = some (place o b k) := by
  unfold place
  have hl : k - 1 < (spots b o).length := by rw [spots_len]; omega
  rw [List.getD_eq_getElem?_getD, List.getElem?_eq_getElem hl]
  rfl
theorem place_lt {o : Ord} {b : Bool} {k : Nat} (h0 : 1 ≤ k) (h : k ≤ cn b o) : place o b k < o.length ∧ o[place o b k]? = some b := by
  have := List.mem_of_getElem? (place_at h0 h)
  unfold spots at this
  obtain ⟨h1, h2⟩ := List.mem_filter.mp this
  exact ⟨List.mem_range.mp h1, of_decide_eq_true h2⟩
def encS (o : Ord) (i : Nat) : PyData := .tuple [.int (i : Int), .str (letS (o.getD i false))]
theorem prs_enum (o : Ord) : prs (irng (ordS o).cps.size fun i => (i : Int)) ((ordS o).cps.toList.map sgn) = (List.range o.length).map (encS o) := by
  unfold prs irng
  refine List.ext_getElem? fun i => ?_
  rw [List.getElem?_map, List.getElem?_map, ordS_size]
  by_cases hi : i < o.length
  · have e1 : ((List.range o.length).map fun i : Nat => PyData.int (i : Int))[i]? = some (.int (i : Int)) := by rw [List.getElem?_map, List.getElem?_range hi]; rfl
    have e2 : ((ordS o).cps.toList.map sgn)[i]? = some (.str (letS o[i])) := by rw [ordS_cps, List.map_map, List.getElem?_map, List.getElem?_eq_getElem hi]; rfl
    rw [(List.getElem?_zip_eq_some (z := (PyData.int (i : Int), PyData.str (letS o[i])))).mpr ⟨e1, e2⟩, List.getElem?_range hi]
    show some _ = some _
    unfold encS
    rw [List.getD_eq_getElem?_getD, List.getElem?_eq_getElem hi]
    rfl
  · rw [List.getElem?_eq_none (by rw [List.length_zip, List.length_map, List.length_range]; omega), List.getElem?_eq_none (by rw [List.length_range]; omega)]
    rfl
theorem ord_sgn {o : Ord} {i : Nat} {d : PyData} (h : ((ordS o).cps.toList.map sgn)[i]? = some d) : ∃ b, o[i]? = some b ∧ d = .str (letS b) := by
  rw [ordS_cps, List.map_map, List.getElem?_map] at h
  cases e : o[i]? with
  | none => rw [e] at h; cases h
  | some b => rw [e] at h; cases h; exact ⟨b, rfl, rfl⟩
theorem celD_mov (c : Cel) (b : Bool) : celD (movC c b) = if b then .tuple [.int (c.1 : Int), .int ((c.2 : Int) + 1)] else .tuple [.int ((c.1 : Int) + 1), .int (c.2 : Int)] := by
  unfold movC celD
  cases b
  · show PyData.tuple [.int ((c.1 + 1 : Nat) : Int), .int (c.2 : Int)] = _
    rw [Int.natCast_add]
    rfl
  · show PyData.tuple [.int (c.1 : Int), .int ((c.2 + 1 : Nat) : Int)] = _
    rw [Int.natCast_add]
    rfl
section
variable {Ps Qs : List Sl} {N : NP} {P : DP} {t u : TS} {tt : TT} {b : Bool}
/-- an if that hands back, then the rest -/
theorem js_guard (h : JT tt Ps b) (h1 : b = true → JS t Ps Nev P) (h2 : b = false → JS u Ps N P) : JS (tSeq (tIfS tt t tNext) u) Ps N P :=
  js_seq (N' := fun Qs => Qs = Ps ∧ b = false) (js_if h (fun e => (h1 e).imp fun Qs q => q.elim) fun e => js_next.imp fun Qs q => ⟨q, e⟩) fun Qs q => q.1 ▸ h2 q.2
theorem jn_lst {tr : TA} {ds : List PyData} (h : JD tr Ps ds) (hz : ds.length ≤ 100000) : JN (tLst tr) Ps (.ol ds) := fun S B H σ c s Q q =>
  h S B H σ c s _ fun vs H1 r1 c1 p1 => ⟨by rw [p1.len]; exact Nat.le_trans hz (by decide), fun p hp => by
    have e5 : Ext S B H1 _ (upd H1 p (.lst vs)) := .new c1 hp
    exact q _ _ _ ((Ext.of c r1 c1).trans e5) ⟨p, vs, rfl, .inr rfl, c1.nb hp, upd_same, p1.mono e5.same⟩ fun a z => by cases z; exact r1.none hp⟩
theorem j_neg {te : TE} {i : Int} (h : JE te Ps (dI i)) : JE (tUn (rU fun i => .int (-i)) te) Ps (dI (-i)) := fun S B H σ c s Q q => h S B H σ c s _ fun v H1 r1 c1 p1 => by
  cases (show Da _ v (.int i) from p1)
  exact ⟨i, rfl, q _ H1 r1 c1 (.int _)⟩
theorem atI_last {ds : List PyData} {d : PyData} : atI (ds ++ [d]) (-1) = some d := by
  unfold atI ixN
  rw [if_neg (by omega), if_pos (by rw [List.length_append, List.length_singleton]; omega)]
  show (ds ++ [d])[((-1 : Int) + ((ds ++ [d]).length : Nat)).toNat]? = some d
  rw [show ((-1 : Int) + ((ds ++ [d]).length : Nat)).toNat = ds.length by rw [List.length_append, List.length_singleton]; omega]
  simp
end
/-- a body that falls off its end -/
theorem body_pure0 {α : Type} {ins : α → List DP} {pre : α → Prop} {n : Nat} {N : List Str} {vs : List V} {H : Hp} {Q : VK} {t : TS} {E : XK} (hn : ∀ x : α, N.length = (ins x).length + n) (h : ∀ x : α, pre x → JS t (slotsOf (ins x) n) (fun _ => True) (da .none)) (hs : PureSp ins pre (fun _ => da .none) vs H Q E) :
    t { nx := fun _ H' => Q .non H', rt := Q } (start N vs) H := by
  obtain ⟨S, x, l, p, a, q⟩ := hs
  refine h x p S none H (sub H S) _ _ H ⟨S, fun a z => z, (fun b z => nomatch z), fun a z => .inl z, ⟨l, (fun b z => nomatch z)⟩, .refl H, slots_start a (hn x), fun i s v a h1 _ h3 => (noown h1 h3).elim, fun i j s t v w a _ h1 _ _ _ h3 => (noown h1 h3).elim, .refl _⟩ (fun Qs σ' H' _ ⟨S', y⟩ => q .non H' (fun a o e => (y.r a o e).1 (fun z => nomatch z)) .non) fun v H' f => q v H' (fun a o e => (f.r a o e).1 (fun z => nomatch z)) f.p
end LK
/-! text M1 -/
namespace LK
open PySem PySem.Spec PyProof.Rows L2
/-! ### places in an order -/
theorem cn_take_le (x : Bool) (o : Ord) (k : Nat) : cn x (o.take k) ≤ cn x o := by
  conv => rhs; rw [← List.take_append_drop k o]
  unfold cn
  rw [List.count_append]
  omega
theorem cn_mono (x : Bool) (o : Ord) {i j : Nat} (h : i ≤ j) : cn x (o.take i) ≤ cn x (o.take j) := by
  have := cn_take_le x (o.take j) i
  rw [List.take_take, Nat.min_eq_left h] at this
  exact this
theorem cn_step (x : Bool) (o : Ord) (k : Nat) : cn x (o.take (k + 1)) ≤ cn x (o.take k) + 1 := by
  cases h : o[k]? with
  | none =>
    have : o.length ≤ k := List.getElem?_eq_none_iff.mp h
    rw [List.take_of_length_le (by omega), List.take_of_length_le this]
    omega
  | some b =>
    rw [take_succ h, cn_snoc]
    split <;> omega
theorem cn_at {o : Ord} {k : Nat} {b : Bool} (h : o[k]? = some b) : cn b (o.take (k + 1)) = cn b (o.take k) + 1 := by
  rw [take_succ h, cn_snoc, if_pos rfl]
theorem cn_at' {o : Ord} {k : Nat} {b : Bool} (h : o[k]? = some b) : cn (!b) (o.take (k + 1)) = cn (!b) (o.take k) := by
  rw [take_succ h, cn_snoc, if_neg (by cases b <;> decide)]
  rfl
theorem lt_of_cn {x : Bool} {o : Ord} {i j : Nat} (h : cn x (o.take i) < cn x (o.take j)) : i < j := by
  rcases Nat.lt_or_ge i j with z | z
  · exact z
  · have := cn_mono x o z
    omega
theorem spots_take (b : Bool) (o : Ord) : ∀ k, k ≤ o.length → ((List.range k).filter fun i => decide (o[i]? = some b)).length = cn b (o.take k) := by
  intro k
  induction k with
  | zero => intro _; rfl
  | succ k ih =>
    intro hk
    have hk' : k < o.length := hk
    have e : o[k]? = some o[k] := List.getElem?_eq_getElem hk'
    rw [List.range_succ, List.filter_append, List.length_append, ih (by omega), take_succ e, cn_snoc]
    congr 1
    rw [List.filter_cons, e]
    by_cases h : o[k] = b
    · rw [if_pos (by simp [h]), if_pos h]; rfl
    · rw [if_neg (by simpa using h), if_neg h]; rfl
theorem spots_at {o : Ord} {b : Bool} {i : Nat} (h : o[i]? = some b) : (spots b o)[cn b (o.take i)]? = some i := by
  have hi : i < o.length := (List.getElem?_eq_some_iff.mp h).1
  have e : o.length = (i + 1) + (o.length - (i + 1)) := by omega
  unfold spots
  rw [e, List.range_add, List.filter_append, List.range_succ, List.filter_append]
  have h1 : List.filter (fun i => decide (o[i]? = some b)) [i] = [i] := by rw [List.filter_cons, if_pos (by simp [h])]; rfl
  rw [h1]
  have hl := spots_take b o i (by omega)
  rw [List.append_assoc, List.getElem?_append_right (by omega), hl, Nat.sub_self]
  rfl
theorem spots_nodup (b : Bool) (o : Ord) : (spots b o).Nodup := List.Pairwise.filter _ List.nodup_range
theorem place_cn {o : Ord} {b : Bool} {k : Nat} (h0 : 1 ≤ k) (h : k ≤ cn b o) : cn b (o.take (place o b k)) = k - 1 := by
  have h1 := place_at h0 h
  have h2 := spots_at (place_lt h0 h).2
  have hn := spots_nodup b o
  obtain ⟨l1, e1⟩ := List.getElem?_eq_some_iff.mp h1
  obtain ⟨l2, e2⟩ := List.getElem?_eq_some_iff.mp h2
  exact (List.getElem_inj hn).mp (e2.trans e1.symm)
theorem place_is {o : Ord} {b : Bool} {i : Nat} (h : o[i]? = some b) : place o b (cn b (o.take i) + 1) = i := by
  unfold place
  rw [Nat.add_sub_cancel, List.getD_eq_getElem?_getD, spots_at h]
  rfl
theorem ivt {f : Nat → Nat} (hs : ∀ k, f (k + 1) ≤ f k + 1) {v a : Nat} (h1 : f a ≤ v) : ∀ {b : Nat}, a ≤ b → v ≤ f b → ∃ k, a ≤ k ∧ k ≤ b ∧ f k = v := by
  intro b
  induction b with
  | zero => 
    intro h2 h3
    have : a = 0 := by omega
    subst this
    exact ⟨0, Nat.le_refl _, Nat.le_refl _, by omega⟩
  | succ b ih =>
    intro h2 h3
    by_cases e : f (b + 1) = v
    · exact ⟨b + 1, h2, Nat.le_refl _, e⟩
    · by_cases ea : a = b + 1
      · subst ea; omega
      · have := hs b
        obtain ⟨k, g1, g2, g3⟩ := ih (by omega) (by omega)
        exact ⟨k, g1, by omega, g3⟩
/-! ### good orders and bad cells -/
structure Good (b : Bk) (o : Ord) : Prop where
  len : o.length = 2 * b.2.length
  cl : cn false o = b.2.length
  ct : cn true o = b.2.length
  av : ∀ k ≤ o.length, ∀ c ∈ badC (prL b), celAt o k ≠ c
theorem good_iff {b : Bk} {o : Ord} : goodB b o = true ↔ Good b o := by
  unfold goodB ordB
  rw [Bool.and_eq_true, Bool.and_eq_true, Bool.and_eq_true, decide_eq_true_eq, decide_eq_true_eq, decide_eq_true_eq, List.all_eq_true]
  constructor
  · rintro ⟨⟨h1, h2, h3⟩, h4⟩
    refine ⟨h1, h2, h3, fun k hk c hc e => ?_⟩
    have := h4 (celAt o k) (List.mem_map.mpr ⟨k, List.mem_range.mpr (by omega), rfl⟩)
    rw [e] at this
    simp [hc] at this
  · rintro ⟨h1, h2, h3, h4⟩
    refine ⟨⟨h1, h2, h3⟩, fun c hc => ?_⟩
    obtain ⟨k, hk, rfl⟩ := List.mem_map.mp hc
    have := List.mem_range.mp hk
    simp only [Bool.not_eq_true', decide_eq_false_iff_not]
    exact fun z => h4 k (by omega) _ z rfl
theorem cn_total (o : Ord) (k : Nat) (h : k ≤ o.length) : cn false (o.take k) + cn true (o.take k) = k := by
  induction k with
  | zero => rfl
  | succ k ih =>
    have e : o[k]? = some o[k] := List.getElem?_eq_getElem (by omega)
    have := ih (by omega)
    rw [take_succ e, cn_snoc, cn_snoc]
    cases o[k] <;> simp <;> omega
theorem bad_lt {b : Bk} {c : Cel} (h : c ∈ badC (prL b)) : c.1 ≠ c.2 := fun e => by
  have := (mem_badC.mp h).2.2
  rw [e] at this
  omega
section
variable {b : Bk} {o : Ord} {c : Cel}
theorem lf_iff : lfB o c = true ↔ 0 < c.2 ∧ c.1 < cn false (o.take (place o true c.2)) := by
  unfold lfB
  rw [Bool.and_eq_true, decide_eq_true_eq, decide_eq_true_eq]
/-- the label first: it is past the cell when the till comes -/
theorem lf_pos (g : Good b o) (hc : c ∈ badC (prL b)) (h : lfB o c = true) : 1 ≤ c.2 ∧ c.2 ≤ b.2.length ∧ c.1 + 1 ≤ b.2.length ∧ place o false (c.1 + 1) < place o true c.2 := by
  obtain ⟨h1, h2⟩ := lf_iff.mp h
  have hl := bad_le hc
  have h3 := cn_take_le false o (place o true c.2)
  rw [g.cl] at h3
  refine ⟨h1, hl.2, by omega, ?_⟩
  have := place_cn (o := o) (b := false) (k := c.1 + 1) (by omega) (by rw [g.cl]; omega)
  exact lt_of_cn (x := false) (by rw [this]; omega)
/-- the till first -/
theorem tf_pos (g : Good b o) (hc : c ∈ badC (prL b)) (h : lfB o c = false) : 1 ≤ c.1 ∧ c.1 ≤ b.2.length ∧ c.2 + 1 ≤ b.2.length ∧ place o true (c.2 + 1) < place o false c.1 := by
  have hl := bad_le hc
  -- where the till comes to the cell's row
  obtain ⟨k1, hk1, e1, e2⟩ : ∃ k1, k1 ≤ o.length ∧ cn true (o.take k1) = c.2 ∧ cn false (o.take k1) ≤ c.1 := by
    by_cases h0 : c.2 = 0
    · exact ⟨0, by omega, by rw [h0]; rfl, Nat.zero_le _⟩
    · have hp : 1 ≤ c.2 := by omega
      have hq : c.2 ≤ cn true o := by rw [g.ct]; exact hl.2
      obtain ⟨l1, l2⟩ := place_lt hp hq
      have l3 := place_cn hp hq
      refine ⟨place o true c.2 + 1, by omega, by rw [cn_at l2, l3]; omega, ?_⟩
      have l4 := cn_at' l2
      have l5 : ¬ c.1 < cn false (o.take (place o true c.2)) := fun z => by
        rw [lf_iff.mpr ⟨by omega, z⟩] at h
        cases h
      have l6 : cn false (o.take (place o true c.2 + 1)) = cn false (o.take (place o true c.2)) := l4
      omega
  -- the label does not come to the cell's column while the till stays
  have key : ∀ r, r ≤ o.length → cn true (o.take r) = c.2 → cn false (o.take r) < c.1 := fun r hr er => by
    rcases Nat.lt_or_ge (cn false (o.take r)) c.1 with z | z
    · exact z
    · exfalso
      have hkr : k1 ≤ r := by
        rcases Nat.lt_or_ge r k1 with y | y
        · have t1 := cn_total o k1 hk1
          have t2 := cn_total o r hr
          have t3 := cn_mono false o (Nat.le_of_lt y)
          have t4 := cn_mono true o (Nat.le_of_lt y)
          omega
        · exact y
      obtain ⟨k, g1, g2, g3⟩ := ivt (f := fun k => cn false (o.take k)) (fun k => cn_step false o k) e2 hkr z
      have t1 := cn_mono true o g1
      have t2 := cn_mono true o g2
      exact g.av k (by omega) c hc (Prod.ext g3 (by show cn true (o.take k) = c.2; omega))
  have hend := key o.length (Nat.le_refl _)
  rw [List.take_length, g.ct, g.cl] at hend
  have hc2 : c.2 + 1 ≤ b.2.length := by
    rcases Nat.lt_or_ge c.2 b.2.length with z | z
    · exact z
    · have := hend (by omega)
      omega
  have hr0 : c.2 + 1 ≤ cn true o := by rw [g.ct]; exact hc2
  obtain ⟨r1, r2⟩ := place_lt (by omega) hr0
  have r3 := place_cn (by omega) hr0
  have r4 := key _ (Nat.le_of_lt r1) r3
  refine ⟨by omega, hl.1, hc2, ?_⟩
  have hs0 : c.1 ≤ cn false o := by rw [g.cl]; exact hl.1
  obtain ⟨s1, s2⟩ := place_lt (by omega : 1 ≤ c.1) hs0
  have s3 := place_cn (by omega : 1 ≤ c.1) hs0
  have s4 := cn_at s2
  rcases Nat.lt_or_ge (place o true (c.2 + 1)) (place o false c.1) with z | z
  · exact z
  · exfalso
    have ne : place o false c.1 ≠ place o true (c.2 + 1) := fun e => by
      rw [e, r2] at s2
      cases s2
    have := cn_mono false o (show place o false c.1 + 1 ≤ place o true (c.2 + 1) by omega)
    omega
end
/-! ### forces -/
theorem putF2_len (fs : List Frc) (h : Nat) (x : Nat × Int) : (putF2 fs h x).length = fs.length := by unfold putF2; rw [List.length_set]
theorem putF2_get (fs : List Frc) (h : Nat) (x : Nat × Int) (hh : h < fs.length) (i : Nat) : (putF2 fs h x).getD i [] = if i = h then fs.getD i [] ++ [x] else fs.getD i [] := by
  unfold putF2
  by_cases e : i = h
  · subst e
    rw [if_pos rfl, List.getD_eq_getElem?_getD, List.getElem?_set_self hh]
    rfl
  · rw [if_neg e, List.getD_eq_getElem?_getD, List.getElem?_set_ne (Ne.symm e), ← List.getD_eq_getElem?_getD]
theorem baseF_len (o : Ord) : (baseF o).length = o.length := by unfold baseF; rw [List.length_map, List.length_range]
theorem baseF_get (o : Ord) {k : Nat} (h : k < o.length) : (baseF o).getD k [] = ((List.range k).filter fun s => decide (o[s]? = o[k]?)).map fun s => (s, 0) := by
  unfold baseF
  rw [List.getD_eq_getElem?_getD, List.getElem?_map, List.getElem?_range h]
  rfl
def foldF (L T G : Pr2) (o : Ord) (l : List Cel) (fs : List Frc) : List Frc := l.foldl (fun fs c => putF2 fs (hereF o c) (thereF L T G o c)) fs
theorem foldF_len (L T G : Pr2) (o : Ord) : ∀ (l : List Cel) (fs : List Frc), (foldF L T G o l fs).length = fs.length
  | [], fs => rfl
  | c :: l, fs => by
    show (foldF L T G o l (putF2 fs (hereF o c) (thereF L T G o c))).length = _
    rw [foldF_len L T G o l, putF2_len]
theorem frcs_len (b : Bk) (L T G : Pr2) (o : Ord) : (frcs b L T G o).length = o.length := by
  show (foldF L T G o (badC (prL b)) (baseF o)).length = _
  rw [foldF_len, baseF_len]
theorem foldF_mem (L T G : Pr2) (o : Ord) {p : Nat × Int} {i : Nat} : ∀ (l : List Cel) (fs : List Frc), (∀ c ∈ l, hereF o c < fs.length) → (p ∈ (foldF L T G o l fs).getD i [] ↔ p ∈ fs.getD i [] ∨ ∃ c ∈ l, hereF o c = i ∧ thereF L T G o c = p)
  | [], fs, _ => ⟨fun h => .inl h, fun h => h.elim id fun ⟨_, h, _⟩ => (nomatch h)⟩
  | c :: l, fs, h => by
    show p ∈ (foldF L T G o l (putF2 fs (hereF o c) (thereF L T G o c))).getD i [] ↔ _
    rw [foldF_mem L T G o l _ fun x hx => by rw [putF2_len]; exact h x (List.mem_cons_of_mem _ hx), putF2_get _ _ _ (h c List.mem_cons_self)]
    constructor
    · rintro (z | ⟨x, hx, z⟩)
      · split at z
        · rename_i e
          rcases List.mem_append.mp z with z | z
          · exact .inl z
          · exact .inr ⟨c, List.mem_cons_self, e.symm, (List.mem_singleton.mp z).symm⟩
        · exact .inl z
      · exact .inr ⟨x, List.mem_cons_of_mem _ hx, z⟩
    · rintro (z | ⟨x, hx, z1, z2⟩)
      · left
        split
        · exact List.mem_append.mpr (.inl z)
        · exact z
      · rcases List.mem_cons.mp hx with rfl | hx
        · left
          rw [if_pos z1.symm]
          exact List.mem_append.mpr (.inr (List.mem_singleton.mpr z2.symm))
        · exact .inr ⟨x, hx, z1, z2⟩
section
variable {b : Bk} {o : Ord} {L T G : Pr2}
theorem here_lt (g : Good b o) {c : Cel} (hc : c ∈ badC (prL b)) : hereF o c < o.length ∧ (thereF L T G o c).1 < hereF o c := by
  unfold hereF thereF
  cases h : lfB o c with
  | true =>
    obtain ⟨h1, h2, h3, h4⟩ := lf_pos g hc h
    exact ⟨(place_lt h1 (by rw [g.ct]; exact h2)).1, h4⟩
  | false =>
    obtain ⟨h1, h2, h3, h4⟩ := tf_pos g hc h
    exact ⟨(place_lt h1 (by rw [g.cl]; exact h2)).1, h4⟩
theorem frcs_mem (g : Good b o) {p : Nat × Int} {i : Nat} (hi : i < o.length) : p ∈ (frcs b L T G o).getD i [] ↔ (p.1 < i ∧ o[p.1]? = o[i]? ∧ p.2 = 0) ∨ ∃ c ∈ badC (prL b), hereF o c = i ∧ thereF L T G o c = p := by
  show p ∈ (foldF L T G o (badC (prL b)) (baseF o)).getD i [] ↔ _
  rw [foldF_mem L T G o _ _ fun c hc => by rw [baseF_len]; exact (here_lt (L := L) (T := T) (G := G) g hc).1, baseF_get o hi]
  refine or_congr ?_ Iff.rfl
  rw [List.mem_map]
  constructor
  · rintro ⟨s, hs, rfl⟩
    obtain ⟨h1, h2⟩ := List.mem_filter.mp hs
    exact ⟨List.mem_range.mp h1, of_decide_eq_true h2, rfl⟩
  · rintro ⟨h1, h2, h3⟩
    exact ⟨p.1, List.mem_filter.mpr ⟨List.mem_range.mpr h1, decide_eq_true h2⟩, by rw [← h3]⟩
theorem frcs_lt (g : Good b o) {p : Nat × Int} {i : Nat} (hi : i < o.length) (h : p ∈ (frcs b L T G o).getD i []) : p.1 < i := by
  rcases (frcs_mem g hi).mp h with ⟨h1, _⟩ | ⟨c, hc, h1, h2⟩
  · exact h1
  · have := (here_lt (L := L) (T := T) (G := G) g hc).2
    rw [h1, h2] at this
    exact this
end
/-! ### the least moments -/
theorem maxL_ge : ∀ (l : List Int) (x : Int), x ≤ maxL x l ∧ ∀ y ∈ l, y ≤ maxL x l
  | [], x => ⟨Int.le_refl _, fun _ h => (nomatch h)⟩
  | a :: l, x => by
    obtain ⟨h1, h2⟩ := maxL_ge l (max x a)
    refine ⟨Int.le_trans (Int.le_max_left _ _) h1, fun y hy => ?_⟩
    rcases List.mem_cons.mp hy with rfl | hy
    · exact Int.le_trans (Int.le_max_right _ _) h1
    · exact h2 y hy
theorem maxL_mem : ∀ (l : List Int) (x : Int), maxL x l = x ∨ maxL x l ∈ l
  | [], x => .inl rfl
  | a :: l, x => by
    have e : maxL x (a :: l) = maxL (max x a) l := rfl
    rcases maxL_mem l (max x a) with h | h
    · rw [e, h]
      rcases Int.le_total x a with z | z
      · rw [Int.max_eq_right z]; exact .inr List.mem_cons_self
      · rw [Int.max_eq_left z]; exact .inl rfl
    · rw [e]; exact .inr (List.mem_cons_of_mem _ h)
theorem lmGo_len (own : List Int) (fs : List Frc) : ∀ k, (lmGo own fs k).length = k
  | 0 => rfl
  | k + 1 => by unfold lmGo; rw [List.length_append, lmGo_len own fs k]; rfl
theorem lmGo_get (own : List Int) (fs : List Frc) {i : Nat} : ∀ {k : Nat}, i < k → (lmGo own fs k).getD i 0 = maxL (own.getD i 0) ((fs.getD i []).map fun p => (lmGo own fs i).getD p.1 0 + p.2)
  | 0, h => by omega
  | k + 1, h => by
    have hl := lmGo_len own fs k
    have e : lmGo own fs (k + 1) = lmGo own fs k ++ [maxL (own.getD k 0) ((fs.getD k []).map fun p => (lmGo own fs k).getD p.1 0 + p.2)] := rfl
    rw [e, List.getD_eq_getElem?_getD]
    rcases Nat.lt_or_ge i k with z | z
    · rw [List.getElem?_append_left (by omega), ← List.getD_eq_getElem?_getD]
      exact lmGo_get own fs z
    · have : i = k := by omega
      subst this
      rw [List.getElem?_append_right (by omega), hl, Nat.sub_self]
      rfl
theorem lmGo_prefix (own : List Int) (fs : List Frc) {i j k : Nat} (h1 : i < j) (h2 : i < k) : (lmGo own fs j).getD i 0 = (lmGo own fs k).getD i 0 := by rw [lmGo_get own fs h1, lmGo_get own fs h2]
theorem lmL_len (b : Bk) (L T G : Pr2) (o : Ord) : (lmL b L T G o).length = o.length := lmGo_len _ _ _
theorem lmL_get {b : Bk} {L T G : Pr2} {o : Ord} (g : Good b o) {i : Nat} (h : i < o.length) : (lmL b L T G o).getD i 0 = maxL ((ownL (msL b) o).getD i 0) (((frcs b L T G o).getD i []).map fun p => (lmL b L T G o).getD p.1 0 + p.2) := by
  unfold lmL
  rw [lmGo_get _ _ h]
  congr 1
  refine List.map_congr_left fun p hp => ?_
  have := frcs_lt g h hp
  rw [lmGo_prefix _ _ this (show p.1 < o.length by omega)]
theorem minN_spec {l : List Nat} (h : l ≠ []) : minN l ∈ l ∧ ∀ y ∈ l, minN l ≤ y := by
  have key : ∀ (l : List Nat) (x : Nat), (l.foldl min x = x ∨ l.foldl min x ∈ l) ∧ l.foldl min x ≤ x ∧ ∀ y ∈ l, l.foldl min x ≤ y := by
    intro l
    induction l with
    | nil => intro x; exact ⟨.inl rfl, Nat.le_refl _, fun _ h => (nomatch h)⟩
    | cons a l ih =>
      intro x
      obtain ⟨h1, h2, h3⟩ := ih (min x a)
      have e : (a :: l).foldl min x = l.foldl min (min x a) := rfl
      rw [e]
      refine ⟨?_, by omega, fun y hy => ?_⟩
      · rcases h1 with h1 | h1
        · rw [h1]
          rcases Nat.le_total x a with z | z
          · rw [Nat.min_eq_left z]; exact .inl rfl
          · rw [Nat.min_eq_right z]; exact .inr List.mem_cons_self
        · exact .inr (List.mem_cons_of_mem _ h1)
      · rcases List.mem_cons.mp hy with rfl | hy
        · omega
        · exact h3 y hy
  cases l with
  | nil => exact absurd rfl h
  | cons a l =>
    obtain ⟨h1, h2, h3⟩ := key (a :: l) a
    refine ⟨?_, h3⟩
    rcases h1 with h1 | h1
    · show (a :: l).foldl min a ∈ _
      rw [h1]; exact List.mem_cons_self
    · exact h1
end LK
/-! text W3 -/
namespace LK
open PySem PySem.Spec PyProof.Rows L2
section
variable {P : Program} {w : World} {K : PySem.W.Frag} {mg : Str → Option Value} {base : Heap} {C : Addr}
theorem mkPure0 {α : Type} {ins : α → List DP} {pre : α → Prop} {x : Str} {st : Stmt} {N ps : List Str} {k n : Nat} (D : Def1 K mg x st) (S : FnScope N ps (defScope st))
    (hb : ∀ (kV doc pm : Value) (an : Option Addr) (cdv ct : Value) (us : List Value), us.length = ps.length → bindArgs (PySem.W.fnOf x x (defArgs st) (defBody st) (defScope st) .none kV doc pm an cdv ct) ⟨us, []⟩ = pure (ps.zip us))
    (hl : ∀ y : α, (ins y).length = ps.length) (hn : N.length = ps.length + n)
    (hbody : ∀ (f : Addr) (cdv : Value) (A : Around) (outer : List Env) (s : Shared) (H : Hp) (E : XK), Room k (XX P w K mg base N x st f cdv A outer s H E).A →
      ∃ t, PSs (XX P w K mg base N x st f cdv A outer s H E) (defBody st) t ∧ ∀ y : α, pre y → JS t (slotsOf (ins y) n) (fun _ => True) (da .none)) : C8.Cal P w K mg base (k + 1) x (PureSp ins pre fun _ => da .none) [] := by
  obtain ⟨f, fd, F, hm⟩ := D.ex
  refine ⟨f, fd, ps, [], F.ok S (fun vs H Q E h => ?_) (fun cdv A outer s H vs Q E hr hs => ?_), hm, F.kp, F.bindsN hb, .nil⟩
  · obtain ⟨S', y, _, _, a, _⟩ := h
    rw [a.len, hl y]
  · obtain ⟨t, h1, h2⟩ := hbody f cdv A outer s H E hr
    exact ⟨t, h1.nox, body_pure0 (fun y => by rw [hl y, hn]) h2 hs⟩
abbrev sp_are_moments : Sp := PureSp (fun x : List Int × Nat => [da (intsD x.1), dI (x.2 : Int)]) (fun x => x.1.length ≤ 1000) (fun x => dB (decide (x.1.length = x.2)))
theorem jc_are_moments {Ps : List Sl} {E : XK} {tr : TA} (x : List Int × Nat) (h : JA tr Ps ([da (intsD x.1), dI (x.2 : Int)])) (hp : x.1.length ≤ 1000) : JE (tCall sp_are_moments [] E tr) Ps (dB (decide (x.1.length = x.2))) := j_call x h hp
theorem cal_are_moments (D : Def1 K mg "are_moments" (topS 15)) (T : Top mg) (c_is_integer : C8.Cal P w K mg base 1 "is_integer" spIsInteger []) : C8.Cal P w K mg base 2 "are_moments" sp_are_moments [] :=
  mkPure (N := ["thing", "many", "one"]) (ps := ["thing", "many"]) (n := 1) D (C8.fnScope_by (by decide +kernel)) (fun _ _ _ _ _ _ us hl => match us, hl with | [_, _], _ => rfl) (fun _ => rfl) rfl fun f cdv A outer s H E hr => by
    have nd : (["thing", "many", "one"] : List Str).Nodup := by decide +kernel
    have hu : (XX P w K mg base ["thing", "many", "one"] "are_moments" (topS 15) f cdv A outer s H E).A.units + 1 < cLine := by have := hr.un; omega
    exact ⟨_, (pss_one (ps_ret (pe_and (pe_callB call_isiT (by rfl) T.isinstance_ (by decide +kernel) (pa_cons (pv 0) (pa_cons (pe_tup (pa_cons (pe_bltn (v := .ty "list") (u := .type "list") (by rfl) T.list_ (by decide +kernel) rfl) (pa_cons (pe_bltn (v := .ty "tuple") (u := .type "tuple") (by rfl) T.tuple_ (by decide +kernel) rfl) pa_nil))) pa_nil))) (pe_and (pe_cmpR op_eq (pe_callB call_lenX (by rfl) T.len_ (by decide +kernel) (pa_cons (pv 0) pa_nil)) (pv 1) (nomark _)) (pe_one (pe_callB (cr_all rfl) (by rfl) T.all_ (by decide +kernel) (pa_cons (pe_lc (own := [("one", 2)]) rfl nd (pi_list (pv 0)) (blkOk_by (N := ["thing", "many", "one"]) (sc := defScope (topS 15)) (by decide +kernel)) (fun _ _ _ _ _ => (pg_name (i := 2) nd rfl (.inl rfl))) (fun _ _ _ _ _ => pts_nil) (fun _ _ _ _ _ => (C8.pe_c c_is_integer hr (by decide) (by rfl) (pa_cons (pv 2) pa_nil)))) pa_nil))))))),
      fun x hx => (js_ret (j_andV (j_isi2 (j_var rfl) (isListX_k _) (isTupX_k _)) fun _ => j_andV (j_eqI (j_lenL (j_var rfl)) (j_var rfl)) fun _ => j_all (bs := x.1.map fun _ => true) ((j_lcA (xs := x.1) (enc := .int) (v := fun i => .bool (isIntD (.int i))) (jw_list (j_var rfl)) (by omega) fun i _ => ⟨[2], [.int i], tg_name, by simp, jc_is_integer (.int i) (ja_cons (j_var rfl) ja_nil)⟩).dat (by rw [List.map_map]; rfl)))).out (by
        rw [List.length_map]
        have : (x.1.map fun _ => true).all id = true := by simp
        rw [this]
        show dB (true && (decide ((x.1.length : Int) = (x.2 : Int)) && true)) = _
        rw [Bool.true_and, Bool.and_true]
        congr 1
        exact decide_eq_decide.mpr Int.ofNat_inj)⟩
abbrev sp_are_sent (C : Addr) : Sp := PureSp (fun x : Bk × List Int => [isBk C x.1, da (intsD x.2)]) (fun x => x.1.2.length ≤ 7 ∧ x.2.length ≤ 1000) (fun x => dB (sentB (msL x.1) x.2))
theorem jc_are_sent {Ps : List Sl} {E : XK} {tr : TA} (x : Bk × List Int) (h : JA tr Ps ([isBk C x.1, da (intsD x.2)])) (hp : x.1.2.length ≤ 7 ∧ x.2.length ≤ 1000) : JE (tCall (sp_are_sent C) [] E tr) Ps (dB (sentB (msL x.1) x.2)) := j_call x h hp
theorem cal_are_sent (D : Def1 K mg "are_sent" (topS 18)) (T : Top mg) (c_are_moments : C8.Cal P w K mg base 2 "are_moments" sp_are_moments []) (m_moments : C8.Met P w K mg base 1 C "moments" (spm_moments C) []) : C8.Cal P w K mg base 3 "are_sent" (sp_are_sent C) [] :=
  mkPure (N := ["book", "sent", "moments", "own", "one", "other"]) (ps := ["book", "sent"]) (n := 4) D (C8.fnScope_by (by decide +kernel)) (fun _ _ _ _ _ _ us hl => match us, hl with | [_, _], _ => rfl) (fun _ => rfl) rfl fun f cdv A outer s H E hr => by
    have nd : (["book", "sent", "moments", "own", "one", "other"] : List Str).Nodup := by decide +kernel
    have hu : (XX P w K mg base ["book", "sent", "moments", "own", "one", "other"] "are_sent" (topS 18) f cdv A outer s H E).A.units + 1 < cLine := by have := hr.un; omega
    exact ⟨_, (pss_cons (ps_set (i := 2) nd rfl (.inl rfl) (C8.pe_mt0 m_moments hr (by decide) (pv 0))) (pss_cons (ps_if (PW.pt (pw_or (pt_not (pt_val (C8.pe_c c_are_moments hr (by decide) (by rfl) (pa_cons (pv 1) (pa_cons (pe_callB call_lenX (by rfl) T.len_ (by decide +kernel) (pa_cons (pv 2) pa_nil)) pa_nil))))) (pw_or1 (pt_not (pt_val (pe_callB (cr_all rfl) (by rfl) T.all_ (by decide +kernel) (pa_cons (pe_lc (own := [("own", 3), ("one", 4)]) rfl nd (pi_zip (by rfl) T.zip_ (pa_cons (pv 2) (pa_cons (pv 1) pa_nil))) (blkOk_by (N := ["book", "sent", "moments", "own", "one", "other"]) (sc := defScope (topS 18)) (by decide +kernel)) (fun _ _ _ _ _ => (pg_tupB (n := 2) (by rfl) (pgs_cons (pg_name (i := 3) nd rfl (.inl rfl)) (pgs_cons (pg_name (i := 4) nd rfl (.inl rfl)) pgs_nil)))) (fun _ _ _ _ _ => pts_nil) (fun _ _ _ _ _ => (pe_cmpR op_le (pv 3) (pv 4) (nomark _)))) pa_nil))))))) (pss_one (ps_ret pe_bl)) pss_nil) (pss_one (ps_ret (pe_callB (cr_all rfl) (by rfl) T.all_ (by decide +kernel) (pa_cons (pe_lc (own := [("one", 4), ("other", 5)]) rfl nd (pi_zip (by rfl) T.zip_ (pa_cons (pv 1) (pa_cons (pe_slice sl_list (pv 1) (po_some pe_int) po_none) pa_nil))) (blkOk_by (N := ["book", "sent", "moments", "own", "one", "other"]) (sc := defScope (topS 18)) (by decide +kernel)) (fun _ _ _ _ _ => (pg_tupB (n := 2) (by rfl) (pgs_cons (pg_name (i := 4) nd rfl (.inl rfl)) (pgs_cons (pg_name (i := 5) nd rfl (.inl rfl)) pgs_nil)))) (fun _ _ _ _ _ => pts_nil) (fun _ _ _ _ _ => (pe_cmpR op_le (pv 4) (pv 5) (nomark _)))) pa_nil)))))),
      fun ⟨b, xs⟩ ⟨hb, hx⟩ => by
        have hb : b.2.length ≤ 7 := hb
        have hx : xs.length ≤ 1000 := hx
        have e1 : momD b = intsD (msL b) := by unfold momD intsD msL; rw [List.map_map]; rfl
        refine js_then (js_asg ((jm_moments b (j_var rfl) ja_nil (by show b.2.length ≤ 1000; omega)).dat e1)) ?_
        have hl : (msL b).length = b.2.length := by unfold msL; rw [List.length_map]
        refine js_guard (b := !decide (xs.length = (msL b).length) || !((msL b).zip xs).all fun p => decide (p.1 ≤ p.2)) (jt_or (jt_not (jt_test (jc_are_moments (xs, (msL b).length) (ja_cons (j_var rfl) (ja_cons ((j_lenL (j_var rfl)).eq (by rw [List.length_map])) ja_nil)) hx))) fun _ => jt_not (jt_test ((j_all (bs := ((msL b).zip xs).map fun p => decide (p.1 ≤ p.2)) ((j_lcA (xs := (msL b).zip xs) (enc := fun p => .tuple [.int p.1, .int p.2]) (v := fun p => .bool (decide (p.1 ≤ p.2))) ((jw_zip (jd_cons (j_var rfl) (jd_cons (j_var rfl) jd_nil))).is ?_) (by rw [List.length_zip]; omega) fun p _ => ⟨[3, 4], [.int p.1, .int p.2], tg_2, by simp, j_B0 (j_var rfl) (j_var rfl)⟩).dat (by rw [List.map_map]; rfl))).eq (by rw [List.all_map]; try rfl)))) (fun h => (js_ret j_bl).out ?_) fun h => (js_ret ((j_all (bs := (xs.zip (xs.drop 1)).map fun p => decide (p.1 ≤ p.2)) ((j_lcA (xs := xs.zip (xs.drop 1)) (enc := fun p => .tuple [.int p.1, .int p.2]) (v := fun p => .bool (decide (p.1 ≤ p.2))) ((jw_zip (jd_cons (j_var rfl) (jd_cons (j_slL (j_var rfl) (jo_some j_int) jo_none) jd_nil))).is ?_) (by rw [List.length_zip]; omega) fun p _ => ⟨[4, 5], [.int p.1, .int p.2], tg_2, by simp, j_B0 (j_var rfl) (j_var rfl)⟩).dat (by rw [List.map_map]; rfl))).eq (by rw [List.all_map]; try rfl))).out ?_
        · unfold prs
          rw [List.zip_map, List.map_map]
          rfl
        · show dB false = dB (sentB (msL b) xs)
          unfold sentB
          rw [← Bool.not_and, Bool.not_eq_true'] at h
          rw [h, Bool.false_and]
        · unfold prs cutD
          have e2 : HT.sIx (xs.map PyData.int).length 0 (some 1) = min 1 xs.length := by rw [List.length_map]; unfold HT.sIx; simp <;> omega
          have e3 : HT.sIx (xs.map PyData.int).length (xs.map PyData.int).length none = xs.length := by rw [List.length_map]; rfl
          rw [e2, e3]
          have e4 : ((xs.map PyData.int).drop (min 1 xs.length)).take (xs.length - min 1 xs.length) = (xs.drop 1).map .int := by
            rw [List.take_of_length_le (by rw [List.length_drop, List.length_map]; omega), ← List.map_drop]
            rcases xs with _ | ⟨a, r⟩
            · rfl
            · simp
          rw [e4, List.zip_map, List.map_map]
          rfl
        · show dB _ = dB (sentB (msL b) xs)
          unfold sentB
          rw [← Bool.not_and, Bool.not_eq_false'] at h
          rw [h, Bool.true_and]
          rfl⟩
abbrev sp_is_plan (C : Addr) : Sp := PureSp (fun x : Bk × Pln => [isBk C x.1, da (plnD x.2)]) (fun x => x.1.2.length ≤ 7 ∧ x.2.1.length ≤ 1000 ∧ x.2.2.length ≤ 1000) (fun x => dB (planB (msL x.1) x.2))
theorem jc_is_plan {Ps : List Sl} {E : XK} {tr : TA} (x : Bk × Pln) (h : JA tr Ps ([isBk C x.1, da (plnD x.2)])) (hp : x.1.2.length ≤ 7 ∧ x.2.1.length ≤ 1000 ∧ x.2.2.length ≤ 1000) : JE (tCall (sp_is_plan C) [] E tr) Ps (dB (planB (msL x.1) x.2)) := j_call x h hp
theorem cal_is_plan (D : Def1 K mg "is_plan" (topS 17)) (T : Top mg) (c_are_sent : C8.Cal P w K mg base 3 "are_sent" (sp_are_sent C) []) : C8.Cal P w K mg base 4 "is_plan" (sp_is_plan C) [] :=
  mkPure (N := ["book", "thing", "sent"]) (ps := ["book", "thing"]) (n := 1) D (C8.fnScope_by (by decide +kernel)) (fun _ _ _ _ _ _ us hl => match us, hl with | [_, _], _ => rfl) (fun _ => rfl) rfl fun f cdv A outer s H E hr => by
    have nd : (["book", "thing", "sent"] : List Str).Nodup := by decide +kernel
    have hu : (XX P w K mg base ["book", "thing", "sent"] "is_plan" (topS 17) f cdv A outer s H E).A.units + 1 < cLine := by have := hr.un; omega
    exact ⟨_, (pss_cons (ps_if (PW.pt (pw_or (pt_not (pt_val (pe_callB call_isi (by rfl) T.isinstance_ (by decide +kernel) (pa_cons (pv 1) (pa_cons (pe_bltn (v := .ty "tuple") (u := .type "tuple") (by rfl) T.tuple_ (by decide +kernel) rfl) pa_nil))))) (pw_or1 (pt_cmpR op_ne (pe_callB call_lenX (by rfl) T.len_ (by decide +kernel) (pa_cons (pv 1) pa_nil)) pe_int (nomark _))))) (pss_one (ps_ret pe_bl)) pss_nil) (pss_one (ps_ret (pe_callB (cr_all rfl) (by rfl) T.all_ (by decide +kernel) (pa_cons (pe_lc (own := [("sent", 2)]) rfl nd (pi_tup (pv 1)) (blkOk_by (N := ["book", "thing", "sent"]) (sc := defScope (topS 17)) (by decide +kernel)) (fun _ _ _ _ _ => (pg_name (i := 2) nd rfl (.inl rfl))) (fun _ _ _ _ _ => pts_nil) (fun _ _ _ _ _ => (pe_and (pe_callB call_isiB (by rfl) T.isinstance_ (by decide +kernel) (pa_cons (pv 2) (pa_cons (pe_bltn (v := .ty "list") (u := .type "list") (by rfl) T.list_ (by decide +kernel) rfl) pa_nil))) (pe_one (C8.pe_c c_are_sent hr (by decide) (by rfl) (pa_cons (pv 0) (pa_cons (pv 2) pa_nil))))))) pa_nil))))),
      fun ⟨b, P⟩ ⟨hb, h1, h2⟩ => by
        refine js_guard (b := false) ((jt_or (jt_not (jt_test (j_isi (j_var rfl) (isTupX_k _)))) fun _ => jt_test (j_neI (j_lenT (j_var rfl)) j_int)).is rfl) (fun z => nomatch z) fun _ => (js_ret ((j_all (bs := [sentB (msL b) P.1, sentB (msL b) P.2]) ((j_lcA (xs := [P.1, P.2]) (enc := intsD) (v := fun l => .bool (sentB (msL b) l)) (jw_tup (j_var rfl)) (by show 2 ≤ 50000; decide) fun l hl => ⟨[2], [intsD l], tg_name, by simp, (j_andV (j_isi (j_var rfl) (isListX_k _)) fun _ => jc_are_sent (b, l) (ja_cons (j_var rfl) (ja_cons (j_var rfl) ja_nil)) ⟨hb, ?_⟩).eq (by show dB (true && _) = _; rw [Bool.true_and])⟩).dat rfl)).eq ?_)).out rfl
        · rcases List.mem_cons.mp hl with rfl | hl
          · exact h1
          · rw [List.mem_singleton.mp hl]; exact h2
        · show dB (sentB (msL b) P.1 && (sentB (msL b) P.2 && true)) = _
          rw [Bool.and_true]
          rfl⟩
abbrev sp_bad_cells (C : Addr) : Sp := PureSp (fun x : Bk => [isBk C x]) (fun x => x.2.length ≤ 7) (fun x => da (.list ((badC (prL x)).map celD)))
theorem jc_bad_cells {Ps : List Sl} {E : XK} {tr : TA} (x : Bk) (h : JA tr Ps ([isBk C x])) (hp : x.2.length ≤ 7) : JE (tCall (sp_bad_cells C) [] E tr) Ps (da (.list ((badC (prL x)).map celD))) := j_call x h hp
theorem cal_bad_cells (D : Def1 K mg "bad_cells" (topS 19)) (T : Top mg) (m_prices : C8.Met P w K mg base 1 C "prices" (spm_prices C) []) : C8.Cal P w K mg base 2 "bad_cells" (sp_bad_cells C) [] :=
  mkPure (N := ["book", "prices", "numbers", "one", "other"]) (ps := ["book"]) (n := 4) D (C8.fnScope_by (by decide +kernel)) (fun _ _ _ _ _ _ us hl => match us, hl with | [_], _ => rfl) (fun _ => rfl) rfl fun f cdv A outer s H E hr => by
    have nd : (["book", "prices", "numbers", "one", "other"] : List Str).Nodup := by decide +kernel
    have hu : (XX P w K mg base ["book", "prices", "numbers", "one", "other"] "bad_cells" (topS 19) f cdv A outer s H E).A.units + 1 < cLine := by have := hr.un; omega
    exact ⟨_, (pss_cons (ps_set (i := 1) nd rfl (.inr rfl) (C8.pe_mt0 m_prices hr (by decide) (pv 0))) (pss_cons (ps_set (i := 2) nd rfl (.inr rfl) (pe_listRg rfl (by rfl) T.list_ (prg_1 (by rfl) T.range_ (pe_callB call_lenX (by rfl) T.len_ (by decide +kernel) (pa_cons (pv 1) pa_nil))))) (pss_one (ps_ret (pe_lc2 (own := [("one", 3), ("other", 4)]) (vs1 := [4]) rfl nd (pi_list (pv 2)) (blkOk_by (N := ["book", "prices", "numbers", "one", "other"]) (sc := defScope (topS 19)) (by decide +kernel)) (by decide) (fun _ _ _ _ _ => (pg_name (i := 3) nd rfl (.inl rfl))) (fun _ _ _ _ _ => pts_nil) (fun _ _ _ _ _ => (pi_listB (pv 2))) (fun _ _ _ _ _ => (pg_name (i := 4) nd rfl (.inl rfl))) (fun _ _ _ _ _ => pts_one (pt_cmpR op_gt (pe_ix ix_seqB (pv 1) (pv 4) (fun _ _ => rfl)) (pe_ix ix_seqB (pv 1) (pv 3) (fun _ _ => rfl)) (nomark _))) (fun _ _ _ _ _ => (pe_tup (pa_cons (pv 3) (pa_cons (pv 4) pa_nil))))))))),
      fun b hb => by
        have e1 : prsD b = intsD (prL b) := by unfold prsD intsD prL; rw [List.map_cons, List.map_map]; rfl
        have hl : (prL b).length = b.2.length + 1 := by unfold prL; rw [List.length_cons, List.length_map]
        refine js_then (js_asg ((jm_prices b (j_var rfl) ja_nil trivial).dat e1)) (js_then (js_asg (j_listRg (n := (prL b).length) ((j_lenL (j_var rfl)).eq (by rw [List.length_map])) (by omega))) ?_)
        have hr0 : ∀ i, i ∈ List.range (prL b).length → i < (prL b).length := fun i h => List.mem_range.mp h
        refine (js_ret (jn_lc2 (xs := List.range (prL b).length) (ys := fun _ => List.range (prL b).length) (enc := fun i : Nat => .int (i : Int)) (enc1 := fun i : Nat => .int (i : Int)) (v := fun i j => celD (i, j)) (f := fun i j => decide ((prL b).getD i 0 < (prL b).getD j 0)) (jw_list (j_var rfl)) ?_ fun i hi => ⟨[3], [.int (i : Int)], tg_name, by simp, jt_yes, jw_list (j_var rfl), fun j hj => ⟨[4], [.int (j : Int)], tg_name, by simp, jt_test (j_B0 (j_ixL (j_var rfl) (j_var rfl) (atI_nats (hr0 j hj))) (j_ixL (j_var rfl) (j_var rfl) (atI_nats (hr0 i hi)))), fun _ => j_tup (jd_cons (j_var rfl) (jd_cons (j_var rfl) jd_nil)) (by show 2 ≤ 100000; decide)⟩⟩).frz).out ?_
        · rw [List.length_flatMap]
          have : ∀ i ∈ List.range (prL b).length, (((List.range (prL b).length).filter fun j => decide ((prL b).getD i 0 < (prL b).getD j 0)).map fun j => celD (i, j)).length ≤ 8 := fun i _ => by
            rw [List.length_map]
            have := List.length_filter_le (fun j => decide ((prL b).getD i 0 < (prL b).getD j 0)) (List.range (prL b).length)
            rw [List.length_range] at this
            omega
          have h2 : ∀ (l : List Nat) (f : Nat → Nat), (∀ i ∈ l, f i ≤ 8) → (l.map f).sum ≤ 8 * l.length := by
            intro l f h
            induction l with
            | nil => simp
            | cons a l ih =>
              rw [List.map_cons, List.sum_cons, List.length_cons]
              have h1 := h a List.mem_cons_self
              have h2 := ih fun i hi => h i (List.mem_cons_of_mem _ hi)
              omega
          have h3 := h2 _ _ this
          rw [List.length_range] at h3
          omega
        · unfold badC
          rw [List.map_flatMap]
          congr 3
          funext i
          rw [List.map_map]
          rfl⟩
abbrev sp_label_leaves : Sp := PureSp (fun x : Pr2 × Pr2 × Pr2 × Pln × Cel => [da (p2D x.1), da (p2D x.2.1), da (p2D x.2.2.1), da (plnD x.2.2.2.1), da (celD x.2.2.2.2)]) (fun x => x.2.2.2.2.2 ≤ x.2.2.2.1.2.length) (fun x => dB (llB x.1 x.2.1 x.2.2.1 x.2.2.2.1 x.2.2.2.2))
theorem jc_label_leaves {Ps : List Sl} {E : XK} {tr : TA} (x : Pr2 × Pr2 × Pr2 × Pln × Cel) (h : JA tr Ps ([da (p2D x.1), da (p2D x.2.1), da (p2D x.2.2.1), da (plnD x.2.2.2.1), da (celD x.2.2.2.2)])) (hp : x.2.2.2.2.2 ≤ x.2.2.2.1.2.length) : JE (tCall sp_label_leaves [] E tr) Ps (dB (llB x.1 x.2.1 x.2.2.1 x.2.2.2.1 x.2.2.2.2)) := j_call x h hp
theorem cal_label_leaves (D : Def1 K mg "label_leaves" (topS 20)) (T : Top mg) : C8.Cal P w K mg base 1 "label_leaves" sp_label_leaves [] :=
  mkPure (N := ["label", "till", "gap", "plan", "cell", "one", "other"]) (ps := ["label", "till", "gap", "plan", "cell"]) (n := 2) D (C8.fnScope_by (by decide +kernel)) (fun _ _ _ _ _ _ us hl => match us, hl with | [_, _, _, _, _], _ => rfl) (fun _ => rfl) rfl fun f cdv A outer s H E hr => by
    have nd : (["label", "till", "gap", "plan", "cell", "one", "other"] : List Str).Nodup := by decide +kernel
    have hu : (XX P w K mg base ["label", "till", "gap", "plan", "cell", "one", "other"] "label_leaves" (topS 20) f cdv A outer s H E).A.units + 1 < cLine := by have := hr.un; omega
    exact ⟨_, (pss_cons (ps_asg (pv 4) (pg_tup (n := 2) (by rfl) (pgs_cons (pg_name (i := 5) nd rfl (.inl rfl)) (pgs_cons (pg_name (i := 6) nd rfl (.inl rfl)) pgs_nil)))) (pss_cons (ps_if (PW.pt (pw_or (pt_cmpR op_ge (pv 5) (pe_callB call_lenX (by rfl) T.len_ (by decide +kernel) (pa_cons (pe_ix ix_seq (pv 3) pe_int (fun _ _ => rfl)) pa_nil)) (nomark _)) (pw_or1 (pt_cmpR op_eq (pv 6) pe_int (nomark _))))) (pss_one (ps_ret pe_bl)) pss_nil) (pss_one (ps_ret (pe_cmpR op_gt (pe_op op_add (pe_ix ix_seq (pe_ix ix_seq (pv 3) pe_int (fun _ _ => rfl)) (pe_op op_sub (pv 6) pe_int) (fun _ _ => rfl)) (pe_ix ix_seq (pv 1) pe_int (fun _ _ => rfl))) (pe_op op_add (pe_op op_add (pe_ix ix_seq (pe_ix ix_seq (pv 3) pe_int (fun _ _ => rfl)) (pv 5) (fun _ _ => rfl)) (pe_ix ix_seq (pv 0) pe_int (fun _ _ => rfl))) (pe_ix ix_seq (pv 2) pe_int (fun _ _ => rfl))) (nomark _)))))),
      fun ⟨L, T, G, P, c⟩ hp => by
        refine js_then (js_asgT (j_var rfl) tg_2) (js_guard (b := decide (P.1.length ≤ c.1) || decide (c.2 = 0)) ((jt_or (jt_test (j_B0 (j_var rfl) (j_lenL (j_ixT (j_var rfl) j_int rfl)))) fun _ => jt_test (j_eqI (j_var rfl) j_int)).is ?_) (fun h => (js_ret j_bl).out ?_) fun h => ?_)
        · rw [List.length_map]
          congr 1
          · exact decide_eq_decide.mpr Int.ofNat_le
          · exact decide_eq_decide.mpr Int.natCast_eq_zero
        · show dB false = dB (llB L T G P c)
          unfold llB
          rw [h]
          rfl
        · rw [Bool.or_eq_false_iff, decide_eq_false_iff_not, decide_eq_false_iff_not] at h
          have hp : c.2 ≤ P.2.length := hp
          refine (js_ret (j_B0 (j_I0 (j_ixL (j_ixT (j_var rfl) j_int rfl) (j_I0 (j_var rfl) j_int) (atI_ints (l := P.2) (i := (c.2 : Int) - 1) (by omega) (by omega))) (j_ixT (j_var rfl) j_int rfl)) (j_I0 (j_I0 (j_ixL (j_ixT (j_var rfl) j_int rfl) (j_var rfl) (atI_nats (l := P.1) (n := c.1) (by omega))) (j_ixT (j_var rfl) j_int rfl)) (j_ixT (j_var rfl) j_int rfl)))).out ?_
          show dB _ = dB (llB L T G P c)
          unfold llB
          rw [show (decide (P.1.length ≤ c.1) || decide (c.2 = 0)) = false by rw [Bool.or_eq_false_iff, decide_eq_false_iff_not, decide_eq_false_iff_not]; exact h, Bool.not_false, Bool.true_and, show ((c.2 : Int) - 1).toNat = c.2 - 1 by omega]⟩
abbrev sp_till_leaves : Sp := PureSp (fun x : Pr2 × Pr2 × Pr2 × Pln × Cel => [da (p2D x.1), da (p2D x.2.1), da (p2D x.2.2.1), da (plnD x.2.2.2.1), da (celD x.2.2.2.2)]) (fun x => x.2.2.2.2.1 ≤ x.2.2.2.1.1.length) (fun x => dB (tlB x.1 x.2.1 x.2.2.1 x.2.2.2.1 x.2.2.2.2))
theorem jc_till_leaves {Ps : List Sl} {E : XK} {tr : TA} (x : Pr2 × Pr2 × Pr2 × Pln × Cel) (h : JA tr Ps ([da (p2D x.1), da (p2D x.2.1), da (p2D x.2.2.1), da (plnD x.2.2.2.1), da (celD x.2.2.2.2)])) (hp : x.2.2.2.2.1 ≤ x.2.2.2.1.1.length) : JE (tCall sp_till_leaves [] E tr) Ps (dB (tlB x.1 x.2.1 x.2.2.1 x.2.2.2.1 x.2.2.2.2)) := j_call x h hp
theorem cal_till_leaves (D : Def1 K mg "till_leaves" (topS 21)) (T : Top mg) : C8.Cal P w K mg base 1 "till_leaves" sp_till_leaves [] :=
  mkPure (N := ["label", "till", "gap", "plan", "cell", "one", "other"]) (ps := ["label", "till", "gap", "plan", "cell"]) (n := 2) D (C8.fnScope_by (by decide +kernel)) (fun _ _ _ _ _ _ us hl => match us, hl with | [_, _, _, _, _], _ => rfl) (fun _ => rfl) rfl fun f cdv A outer s H E hr => by
    have nd : (["label", "till", "gap", "plan", "cell", "one", "other"] : List Str).Nodup := by decide +kernel
    have hu : (XX P w K mg base ["label", "till", "gap", "plan", "cell", "one", "other"] "till_leaves" (topS 21) f cdv A outer s H E).A.units + 1 < cLine := by have := hr.un; omega
    exact ⟨_, (pss_cons (ps_asg (pv 4) (pg_tup (n := 2) (by rfl) (pgs_cons (pg_name (i := 5) nd rfl (.inl rfl)) (pgs_cons (pg_name (i := 6) nd rfl (.inl rfl)) pgs_nil)))) (pss_cons (ps_if (PW.pt (pw_or (pt_cmpR op_eq (pv 5) pe_int (nomark _)) (pw_or1 (pt_cmpR op_ge (pv 6) (pe_callB call_lenX (by rfl) T.len_ (by decide +kernel) (pa_cons (pe_ix ix_seq (pv 3) pe_int (fun _ _ => rfl)) pa_nil)) (nomark _))))) (pss_one (ps_ret pe_bl)) pss_nil) (pss_one (ps_ret (pe_cmpR op_gt (pe_op op_add (pe_op op_add (pe_ix ix_seq (pe_ix ix_seq (pv 3) pe_int (fun _ _ => rfl)) (pe_op op_sub (pv 5) pe_int) (fun _ _ => rfl)) (pe_ix ix_seq (pv 0) pe_int (fun _ _ => rfl))) (pe_ix ix_seq (pv 2) pe_int (fun _ _ => rfl))) (pe_op op_add (pe_ix ix_seq (pe_ix ix_seq (pv 3) pe_int (fun _ _ => rfl)) (pv 6) (fun _ _ => rfl)) (pe_ix ix_seq (pv 1) pe_int (fun _ _ => rfl))) (nomark _)))))),
      fun ⟨L, T, G, P, c⟩ hp => by
        refine js_then (js_asgT (j_var rfl) tg_2) (js_guard (b := decide (c.1 = 0) || decide (P.2.length ≤ c.2)) ((jt_or (jt_test (j_eqI (j_var rfl) j_int)) fun _ => jt_test (j_B0 (j_var rfl) (j_lenL (j_ixT (j_var rfl) j_int rfl)))).is ?_) (fun h => (js_ret j_bl).out ?_) fun h => ?_)
        · rw [List.length_map]
          congr 1
          · exact decide_eq_decide.mpr Int.natCast_eq_zero
          · exact decide_eq_decide.mpr Int.ofNat_le
        · show dB false = dB (tlB L T G P c)
          unfold tlB
          rw [h]
          rfl
        · rw [Bool.or_eq_false_iff, decide_eq_false_iff_not, decide_eq_false_iff_not] at h
          have hp : c.1 ≤ P.1.length := hp
          refine (js_ret (j_B0 (j_I0 (j_I0 (j_ixL (j_ixT (j_var rfl) j_int rfl) (j_I0 (j_var rfl) j_int) (atI_ints (l := P.1) (i := (c.1 : Int) - 1) (by omega) (by omega))) (j_ixT (j_var rfl) j_int rfl)) (j_ixT (j_var rfl) j_int rfl)) (j_I0 (j_ixL (j_ixT (j_var rfl) j_int rfl) (j_var rfl) (atI_nats (l := P.2) (n := c.2) (by omega))) (j_ixT (j_var rfl) j_int rfl)))).out ?_
          show dB _ = dB (tlB L T G P c)
          unfold tlB
          rw [show (decide (c.1 = 0) || decide (P.2.length ≤ c.2)) = false by rw [Bool.or_eq_false_iff, decide_eq_false_iff_not, decide_eq_false_iff_not]; exact h, Bool.not_false, Bool.true_and, show ((c.1 : Int) - 1).toNat = c.1 - 1 by omega]⟩
abbrev sp_can_meet : Sp := PureSp (fun x : Pr2 × Pr2 × Pr2 × Pln × Cel => [da (p2D x.1), da (p2D x.2.1), da (p2D x.2.2.1), da (plnD x.2.2.2.1), da (celD x.2.2.2.2)]) (fun x => x.2.2.2.2.2 ≤ x.2.2.2.1.2.length ∧ x.2.2.2.2.1 ≤ x.2.2.2.1.1.length) (fun x => dB (!llB x.1 x.2.1 x.2.2.1 x.2.2.2.1 x.2.2.2.2 && !tlB x.1 x.2.1 x.2.2.1 x.2.2.2.1 x.2.2.2.2))
theorem jc_can_meet {Ps : List Sl} {E : XK} {tr : TA} (x : Pr2 × Pr2 × Pr2 × Pln × Cel) (h : JA tr Ps ([da (p2D x.1), da (p2D x.2.1), da (p2D x.2.2.1), da (plnD x.2.2.2.1), da (celD x.2.2.2.2)])) (hp : x.2.2.2.2.2 ≤ x.2.2.2.1.2.length ∧ x.2.2.2.2.1 ≤ x.2.2.2.1.1.length) : JE (tCall sp_can_meet [] E tr) Ps (dB (!llB x.1 x.2.1 x.2.2.1 x.2.2.2.1 x.2.2.2.2 && !tlB x.1 x.2.1 x.2.2.1 x.2.2.2.1 x.2.2.2.2)) := j_call x h hp
theorem cal_can_meet (D : Def1 K mg "can_meet" (topS 22)) (c_label_leaves : C8.Cal P w K mg base 1 "label_leaves" sp_label_leaves []) (c_till_leaves : C8.Cal P w K mg base 1 "till_leaves" sp_till_leaves []) : C8.Cal P w K mg base 2 "can_meet" sp_can_meet [] :=
  mkPure (N := ["label", "till", "gap", "plan", "cell"]) (ps := ["label", "till", "gap", "plan", "cell"]) (n := 0) D (C8.fnScope_by (by decide +kernel)) (fun _ _ _ _ _ _ us hl => match us, hl with | [_, _, _, _, _], _ => rfl) (fun _ => rfl) rfl fun f cdv A outer s H E hr => by
    have nd : (["label", "till", "gap", "plan", "cell"] : List Str).Nodup := by decide +kernel
    have hu : (XX P w K mg base ["label", "till", "gap", "plan", "cell"] "can_meet" (topS 22) f cdv A outer s H E).A.units + 1 < cLine := by have := hr.un; omega
    exact ⟨_, (pss_one (ps_ret (pe_and (pe_not (C8.pe_c c_label_leaves hr (by decide) (by rfl) (pa_cons (pv 0) (pa_cons (pv 1) (pa_cons (pv 2) (pa_cons (pv 3) (pa_cons (pv 4) pa_nil))))))) (pe_one (pe_not (C8.pe_c c_till_leaves hr (by decide) (by rfl) (pa_cons (pv 0) (pa_cons (pv 1) (pa_cons (pv 2) (pa_cons (pv 3) (pa_cons (pv 4) pa_nil))))))))))),
      fun x hp => js_ret (j_andV (j_notV (jc_label_leaves x (ja_cons (j_var rfl) (ja_cons (j_var rfl) (ja_cons (j_var rfl) (ja_cons (j_var rfl) (ja_cons (j_var rfl) ja_nil))))) hp.1)) fun _ => j_notV (jc_till_leaves x (ja_cons (j_var rfl) (ja_cons (j_var rfl) (ja_cons (j_var rfl) (ja_cons (j_var rfl) (ja_cons (j_var rfl) ja_nil))))) hp.2))⟩
end
end LK
/-! text W4 -/
namespace LK
open PySem PySem.Spec PyProof.Rows L2
section
variable {P : Program} {w : World} {K : PySem.W.Frag} {mg : Str → Option Value} {base : Heap} {C : Addr}
abbrev sp_harm (C : Addr) : Sp := PureSp (fun x : Bk × Pr2 × Pr2 × Pr2 × Pln => [isBk C x.1, da (p2D x.2.1), da (p2D x.2.2.1), da (p2D x.2.2.2.1), da (plnD x.2.2.2.2)]) (fun x => x.1.2.length ≤ 7 ∧ x.2.2.2.2.1.length = x.1.2.length ∧ x.2.2.2.2.2.length = x.1.2.length ∧ ∀ c ∈ badC (prL x.1), (!llB x.2.1 x.2.2.1 x.2.2.2.1 x.2.2.2.2 c && !tlB x.2.1 x.2.2.1 x.2.2.2.1 x.2.2.2.2 c) = false) (fun x => da .none)
theorem jc_harm {Ps : List Sl} {E : XK} {tr : TA} (x : Bk × Pr2 × Pr2 × Pr2 × Pln) (h : JA tr Ps ([isBk C x.1, da (p2D x.2.1), da (p2D x.2.2.1), da (p2D x.2.2.2.1), da (plnD x.2.2.2.2)])) (hp : x.1.2.length ≤ 7 ∧ x.2.2.2.2.1.length = x.1.2.length ∧ x.2.2.2.2.2.length = x.1.2.length ∧ ∀ c ∈ badC (prL x.1), (!llB x.2.1 x.2.2.1 x.2.2.2.1 x.2.2.2.2 c && !tlB x.2.1 x.2.2.1 x.2.2.2.1 x.2.2.2.2 c) = false) : JE (tCall (sp_harm C) [] E tr) Ps (da .none) := j_call x h hp
theorem cal_harm (D : Def1 K mg "harm" (topS 24)) (c_bad_cells : C8.Cal P w K mg base 2 "bad_cells" (sp_bad_cells C) []) (c_can_meet : C8.Cal P w K mg base 2 "can_meet" sp_can_meet []) : C8.Cal P w K mg base 3 "harm" (sp_harm C) [] :=
  mkPure (N := ["book", "label", "till", "gap", "plan", "cell"]) (ps := ["book", "label", "till", "gap", "plan"]) (n := 1) D (C8.fnScope_by (by decide +kernel)) (fun _ _ _ _ _ _ us hl => match us, hl with | [_, _, _, _, _], _ => rfl) (fun _ => rfl) rfl fun f cdv A outer s H E hr => by
    have nd : (["book", "label", "till", "gap", "plan", "cell"] : List Str).Nodup := by decide +kernel
    have hu : (XX P w K mg base ["book", "label", "till", "gap", "plan", "cell"] "harm" (topS 24) f cdv A outer s H E).A.units + 1 < cLine := by have := hr.un; omega
    exact ⟨_, (pss_cons (ps_for PassesOwn.never rfl (pi_list (C8.pe_c c_bad_cells hr (by decide) (by rfl) (pa_cons (pv 0) pa_nil))) (pg_name (i := 5) nd rfl (.inl rfl)) (pss_one (ps_if (pt_val (C8.pe_c c_can_meet hr (by decide) (by rfl) (pa_cons (pv 1) (pa_cons (pv 2) (pa_cons (pv 3) (pa_cons (pv 4) (pa_cons (pv 5) pa_nil))))))) (pss_one ps_never) pss_nil))) (pss_one (ps_ret pe_non))),
      fun ⟨b, L, T, G, Q⟩ ⟨hb, h1, h2, hs⟩ => by
        have h1 : Q.1.length = b.2.length := h1
        have h2 : Q.2.length = b.2.length := h2
        refine js_then (js_forI (jw_list (jc_bad_cells b (ja_cons (j_var rfl) ja_nil) hb)) (fun _ => slotsOf [isBk C b, da (p2D L), da (p2D T), da (p2D G), da (plnD Q)] 1) (PsLe.refl _) fun i d hd => ⟨[5], [d], tg_name, ?_⟩) (js_ret j_non)
        rw [List.getElem?_map] at hd
        cases e : (badC (prL b))[i]? with
        | none => rw [e] at hd; cases hd
        | some c =>
          rw [e] at hd
          cases hd
          have hc := List.mem_of_getElem? e
          have hl := bad_le hc
          refine js_if (b := false) ((jt_test (jc_can_meet (L, T, G, Q, c) (ja_cons (j_var rfl) (ja_cons (j_var rfl) (ja_cons (j_var rfl) (ja_cons (j_var rfl) (ja_cons (j_var rfl) ja_nil))))) ⟨by show c.2 ≤ Q.2.length; omega, by show c.1 ≤ Q.1.length; omega⟩)).is (hs c hc)) (fun z => nomatch z) fun _ => js_next.imp fun Rs q => ⟨_, q ▸ (by repeat first | exact True.intro | refine And.intro (Or.inr rfl) ?_ | refine And.intro (Or.inl rfl) ?_), rfl⟩⟩
abbrev sp_is_safe (C : Addr) : Sp := PureSp (fun x : Bk × Pr2 × Pr2 × Pr2 × Pln => [isBk C x.1, da (p2D x.2.1), da (p2D x.2.2.1), da (p2D x.2.2.2.1), da (plnD x.2.2.2.2)]) (fun x => x.1.2.length ≤ 7 ∧ x.2.2.2.2.1.length = x.1.2.length ∧ x.2.2.2.2.2.length = x.1.2.length ∧ ∀ c ∈ badC (prL x.1), (!llB x.2.1 x.2.2.1 x.2.2.2.1 x.2.2.2.2 c && !tlB x.2.1 x.2.2.1 x.2.2.2.1 x.2.2.2.2 c) = false) (fun x => dB true)
theorem jc_is_safe {Ps : List Sl} {E : XK} {tr : TA} (x : Bk × Pr2 × Pr2 × Pr2 × Pln) (h : JA tr Ps ([isBk C x.1, da (p2D x.2.1), da (p2D x.2.2.1), da (p2D x.2.2.2.1), da (plnD x.2.2.2.2)])) (hp : x.1.2.length ≤ 7 ∧ x.2.2.2.2.1.length = x.1.2.length ∧ x.2.2.2.2.2.length = x.1.2.length ∧ ∀ c ∈ badC (prL x.1), (!llB x.2.1 x.2.2.1 x.2.2.2.1 x.2.2.2.2 c && !tlB x.2.1 x.2.2.1 x.2.2.2.1 x.2.2.2.2 c) = false) : JE (tCall (sp_is_safe C) [] E tr) Ps (dB true) := j_call x h hp
theorem cal_is_safe (D : Def1 K mg "is_safe" (topS 23)) (c_harm : C8.Cal P w K mg base 3 "harm" (sp_harm C) []) : C8.Cal P w K mg base 4 "is_safe" (sp_is_safe C) [] :=
  mkPure (N := ["book", "label", "till", "gap", "plan"]) (ps := ["book", "label", "till", "gap", "plan"]) (n := 0) D (C8.fnScope_by (by decide +kernel)) (fun _ _ _ _ _ _ us hl => match us, hl with | [_, _, _, _, _], _ => rfl) (fun _ => rfl) rfl fun f cdv A outer s H E hr => by
    have nd : (["book", "label", "till", "gap", "plan"] : List Str).Nodup := by decide +kernel
    have hu : (XX P w K mg base ["book", "label", "till", "gap", "plan"] "is_safe" (topS 23) f cdv A outer s H E).A.units + 1 < cLine := by have := hr.un; omega
    exact ⟨_, (pss_one (ps_ret (pe_cmp (pc_isN (C8.pe_c c_harm hr (by decide) (by rfl) (pa_cons (pv 0) (pa_cons (pv 1) (pa_cons (pv 2) (pa_cons (pv 3) (pa_cons (pv 4) pa_nil))))))) (by rfl)))),
      fun x hx => js_ret (j_isN (jc_harm x (ja_cons (j_var rfl) (ja_cons (j_var rfl) (ja_cons (j_var rfl) (ja_cons (j_var rfl) (ja_cons (j_var rfl) ja_nil))))) hx))⟩
abbrev sp_moved_on : Sp := PureSp (fun x : Cel × Bool => [da (celD x.1), dS (letS x.2)]) (fun x => True) (fun x => da (celD (movC x.1 x.2)))
theorem jc_moved_on {Ps : List Sl} {E : XK} {tr : TA} (x : Cel × Bool) (h : JA tr Ps ([da (celD x.1), dS (letS x.2)])) (hp : True) : JE (tCall sp_moved_on [] E tr) Ps (da (celD (movC x.1 x.2))) := j_call x h hp
theorem cal_moved_on (D : Def1 K mg "moved_on" (topS 27)) : C8.Cal P w K mg base 1 "moved_on" sp_moved_on [] :=
  mkPure (N := ["cell", "letter"]) (ps := ["cell", "letter"]) (n := 0) D (C8.fnScope_by (by decide +kernel)) (fun _ _ _ _ _ _ us hl => match us, hl with | [_, _], _ => rfl) (fun _ => rfl) rfl fun f cdv A outer s H E hr => by
    have nd : (["cell", "letter"] : List Str).Nodup := by decide +kernel
    have hu : (XX P w K mg base ["cell", "letter"] "moved_on" (topS 27) f cdv A outer s H E).A.units + 1 < cLine := by have := hr.un; omega
    exact ⟨_, (pss_one (ps_ret (pe_ifExp (pt_cmpR op_eq (pv 1) pe_str (nomark _)) (pe_tup (pa_cons (pe_op op_add (pe_ix ix_seq (pv 0) pe_int (fun _ _ => rfl)) pe_int) (pa_cons (pe_ix ix_seq (pv 0) pe_int (fun _ _ => rfl)) pa_nil))) (pe_tup (pa_cons (pe_ix ix_seq (pv 0) pe_int (fun _ _ => rfl)) (pa_cons (pe_op op_add (pe_ix ix_seq (pv 0) pe_int (fun _ _ => rfl)) pe_int) pa_nil)))))),
      fun ⟨c, b⟩ _ => by
        refine js_ret (j_if (b := decide (letS b = "L")) (jt_test (j_eqS (j_var rfl) j_str)) (fun h => ?_) fun h => ?_)
        · have hb := (letS_isL b).mp (of_decide_eq_true h)
          subst hb
          refine (j_tup (jd_cons (j_I0 (j_ixT (j_var rfl) j_int rfl) j_int) (jd_cons (j_ixT (j_var rfl) j_int rfl) jd_nil)) (by show 2 ≤ 100000; decide)).dat ?_
          rw [celD_mov]
          rfl
        · have hb : b = true := by
            cases b
            · exact absurd ((letS_isL false).mpr rfl) (of_decide_eq_false h)
            · rfl
          subst hb
          refine (j_tup (jd_cons (j_ixT (j_var rfl) j_int rfl) (jd_cons (j_I0 (j_ixT (j_var rfl) j_int rfl) j_int) jd_nil)) (by show 2 ≤ 100000; decide)).dat ?_
          rw [celD_mov]
          rfl⟩
abbrev sp_is_order (C : Addr) : Sp := PureSp (fun x : Bk × Ord => [isBk C x.1, dS (ordS x.2)]) (fun x => x.1.2.length ≤ 7 ∧ x.2.length ≤ 1000) (fun x => dB (ordB x.1.2.length x.2))
theorem jc_is_order {Ps : List Sl} {E : XK} {tr : TA} (x : Bk × Ord) (h : JA tr Ps ([isBk C x.1, dS (ordS x.2)])) (hp : x.1.2.length ≤ 7 ∧ x.2.length ≤ 1000) : JE (tCall (sp_is_order C) [] E tr) Ps (dB (ordB x.1.2.length x.2)) := j_call x h hp
theorem cal_is_order (D : Def1 K mg "is_order" (topS 28)) (T : Top mg) (m_len : C8.Met P w K mg base 1 C "__len__" (spm_len C) []) : C8.Cal P w K mg base 3 "is_order" (sp_is_order C) [] :=
  mkPure (N := ["book", "thing", "many"]) (ps := ["book", "thing"]) (n := 1) D (C8.fnScope_by (by decide +kernel)) (fun _ _ _ _ _ _ us hl => match us, hl with | [_, _], _ => rfl) (fun _ => rfl) rfl fun f cdv A outer s H E hr => by
    have nd : (["book", "thing", "many"] : List Str).Nodup := by decide +kernel
    have hu : (XX P w K mg base ["book", "thing", "many"] "is_order" (topS 28) f cdv A outer s H E).A.units + 1 < cLine := by have := hr.un; omega
    exact ⟨_, (pss_cons (ps_set (i := 2) nd rfl (.inl rfl) (pe_op op_sub (pe_callB (call_lenOwn m_len hr (by decide)) (by rfl) T.len_ (by decide +kernel) (pa_cons (pv 0) pa_nil)) pe_int)) (pss_cons (ps_if (PW.pt (pw_or (pt_not (pt_val (pe_callB call_isi (by rfl) T.isinstance_ (by decide +kernel) (pa_cons (pv 1) (pa_cons (pe_bltn (v := .ty "str") (u := .type "str") (by rfl) T.str_ (by decide +kernel) rfl) pa_nil))))) (pw_or1 (pt_cmpR op_ne (pe_callB call_lenX (by rfl) T.len_ (by decide +kernel) (pa_cons (pv 1) pa_nil)) (pe_op op_mul pe_int (pv 2)) (nomark _))))) (pss_one (ps_ret pe_bl)) pss_nil) (pss_one (ps_ret (pe_and (pe_cmpR op_eq (pe_countX (pv 1) pe_str) (pv 2) (nomark _)) (pe_one (pe_cmpR op_eq (pe_countX (pv 1) pe_str) (pv 2) (nomark _)))))))),
      fun ⟨b, o⟩ ⟨hb, ho⟩ => by
        have hb : b.2.length ≤ 7 := hb
        have ho : o.length ≤ 1000 := ho
        have hs : (ordS o).length ≤ 100000 := by rw [ordS_len]; omega
        refine js_then (js_asg ((j_I0 (j_lenB b (j_var rfl) (by omega)) j_int).dat (e := .int (b.2.length : Int)) (by rw [Int.natCast_add]; show PyData.int ((b.2.length : Int) + 1 - 1) = _; rw [Int.add_sub_cancel]))) ?_
        refine js_guard (b := !decide (o.length = 2 * b.2.length)) ((jt_or (jt_not (jt_test (j_isi (j_var rfl) (isStrX_k _)))) fun _ => jt_test (j_neI (j_lenS (j_var rfl) hs) (j_I j_int (j_var rfl) (by unfold CMul; omega)))).is ?_) (fun h => (js_ret j_bl).out ?_) fun h => (js_ret (j_andV ((j_eqI (j_count (j_var rfl) j_str) (j_var rfl)).eq (P' := dB (decide (cn false o = b.2.length))) ?_) fun _ => (j_eqI (j_count (j_var rfl) j_str) (j_var rfl)).eq (P' := dB (decide (cn true o = b.2.length))) ?_)).out ?_
        · show (false || !decide (((ordS o).length : Int) = 2 * (b.2.length : Int))) = _
          rw [Bool.false_or, ordS_len]
          congr 1
          exact decide_eq_decide.mpr ⟨fun h => by omega, fun h => by omega⟩
        · show dB false = dB (ordB b.2.length o)
          unfold ordB
          rw [Bool.not_eq_true'] at h
          rw [h]
          rfl
        · rw [show ("L" : Str) = letS false from L_is, count_ord]
          exact congrArg dB (decide_eq_decide.mpr Int.ofNat_inj)
        · rw [show ("T" : Str) = letS true from T_is, count_ord]
          exact congrArg dB (decide_eq_decide.mpr Int.ofNat_inj)
        · show _ = dB (ordB b.2.length o)
          unfold ordB
          rw [Bool.not_eq_false'] at h
          rw [h]
          rfl⟩
abbrev sp_cells_of : Sp := PureSp (fun x : Ord => [dS (ordS x)]) (fun x => x.length ≤ 1000) (fun x => da (.list ((celsOf x).map celD)))
theorem jc_cells_of {Ps : List Sl} {E : XK} {tr : TA} (x : Ord) (h : JA tr Ps ([dS (ordS x)])) (hp : x.length ≤ 1000) : JE (tCall sp_cells_of [] E tr) Ps (da (.list ((celsOf x).map celD))) := j_call x h hp
theorem cal_cells_of (D : Def1 K mg "cells_of" (topS 29)) (c_moved_on : C8.Cal P w K mg base 1 "moved_on" sp_moved_on []) : C8.Cal P w K mg base 2 "cells_of" sp_cells_of [] :=
  mkPure (N := ["order", "found", "letter"]) (ps := ["order"]) (n := 2) D (C8.fnScope_by (by decide +kernel)) (fun _ _ _ _ _ _ us hl => match us, hl with | [_], _ => rfl) (fun _ => rfl) rfl fun f cdv A outer s H E hr => by
    have nd : (["order", "found", "letter"] : List Str).Nodup := by decide +kernel
    have hu : (XX P w K mg base ["order", "found", "letter"] "cells_of" (topS 29) f cdv A outer s H E).A.units + 1 < cLine := by have := hr.un; omega
    exact ⟨_, (pss_cons (ps_set (i := 1) nd rfl (.inl rfl) (pe_lst (pa_cons (pe_tup (pa_cons pe_int (pa_cons pe_int pa_nil))) pa_nil))) (pss_cons (ps_for PassesOwn.never rfl (pi_str (pv 0)) (pg_name (i := 2) nd rfl (.inl rfl)) (pss_one (ps_expr (pe_bm PySem.F.plainAttrs_list PySem.F.slot_list_append PySem.F.type_list_append mt_append (pv 1) (pa_cons (C8.pe_c c_moved_on hr (by decide) (by rfl) (pa_cons (pe_ix ix_seq (pv 1) (pe_un un_neg pe_int) (fun _ _ => rfl)) (pa_cons (pv 2) pa_nil))) pa_nil))))) (pss_one (ps_ret (pv 1))))),
      fun o ho => by
        have ho : o.length ≤ 1000 := ho
        have hl : ((ordS o).cps.toList.map sgn).length = o.length := by rw [List.length_map, ordS_cps, List.length_map]
        refine js_then (js_asgN (jn_lst (ds := [celD (0, 0)]) (jd_cons (j_tup (jd_cons j_int (jd_cons j_int jd_nil)) (by show 2 ≤ 100000; decide)) jd_nil) (by show 1 ≤ 100000; decide))) ?_
        refine js_then (js_forI (jw_str (z := ordS o) (j_var rfl)) (fun i => [.pl (dS (ordS o)), .ol ((List.range i).map (fun k => celD (celAt o k)) ++ [celD (celAt o i)]), .no]) (PsLe.refl _) fun i d hd => ⟨[2], [d], tg_name, ?_⟩) (js_freeze (i := 1) rfl ((js_ret (j_var rfl)).out ?_))
        · obtain ⟨b, hb, rfl⟩ := ord_sgn hd
          have hi : i < o.length := (List.getElem?_eq_some_iff.mp hb).1
          refine (js_app (i := 1) rfl ((jc_moved_on (celAt o i, b) (ja_cons (j_ixO (n := 1) rfl (j_neg j_int) atI_last) (ja_cons (j_var rfl) ja_nil)) trivial).dat (e := celD (celAt o (i + 1))) (by rw [celAt_succ hb])) (by rw [List.length_append, List.length_map, List.length_range, List.length_singleton]; omega)).imp fun Rs q => ⟨_, q ▸ ?_, rfl⟩
          rw [List.range_succ, List.map_append]
          exact (by repeat first | exact True.intro | refine And.intro (Or.inr rfl) ?_ | refine And.intro (Or.inl rfl) ?_)
        · rw [hl]
          unfold celsOf
          rw [List.map_map, List.range_succ, List.map_append]
          rfl⟩
abbrev sp_is_good (C : Addr) : Sp := PureSp (fun x : Bk × Ord => [isBk C x.1, dS (ordS x.2)]) (fun x => x.1.2.length ≤ 7 ∧ x.2.length ≤ 1000) (fun x => dB (goodB x.1 x.2))
theorem jc_is_good {Ps : List Sl} {E : XK} {tr : TA} (x : Bk × Ord) (h : JA tr Ps ([isBk C x.1, dS (ordS x.2)])) (hp : x.1.2.length ≤ 7 ∧ x.2.length ≤ 1000) : JE (tCall (sp_is_good C) [] E tr) Ps (dB (goodB x.1 x.2)) := j_call x h hp
theorem cal_is_good (D : Def1 K mg "is_good" (topS 30)) (T : Top mg) (c_is_order : C8.Cal P w K mg base 3 "is_order" (sp_is_order C) []) (c_bad_cells : C8.Cal P w K mg base 2 "bad_cells" (sp_bad_cells C) []) (c_cells_of : C8.Cal P w K mg base 2 "cells_of" sp_cells_of []) : C8.Cal P w K mg base 4 "is_good" (sp_is_good C) [] :=
  mkPure (N := ["book", "thing", "bad", "cell"]) (ps := ["book", "thing"]) (n := 2) D (C8.fnScope_by (by decide +kernel)) (fun _ _ _ _ _ _ us hl => match us, hl with | [_, _], _ => rfl) (fun _ => rfl) rfl fun f cdv A outer s H E hr => by
    have nd : (["book", "thing", "bad", "cell"] : List Str).Nodup := by decide +kernel
    have hu : (XX P w K mg base ["book", "thing", "bad", "cell"] "is_good" (topS 30) f cdv A outer s H E).A.units + 1 < cLine := by have := hr.un; omega
    exact ⟨_, (pss_cons (ps_if (pt_not (pt_val (C8.pe_c c_is_order hr (by decide) (by rfl) (pa_cons (pv 0) (pa_cons (pv 1) pa_nil))))) (pss_one (ps_ret pe_bl)) pss_nil) (pss_cons (ps_set (i := 2) nd rfl (.inr rfl) (C8.pe_c c_bad_cells hr (by decide) (by rfl) (pa_cons (pv 0) pa_nil))) (pss_one (ps_ret (pe_callB (cr_all rfl) (by rfl) T.all_ (by decide +kernel) (pa_cons (pe_lc (own := [("cell", 3)]) rfl nd (pi_list (C8.pe_c c_cells_of hr (by decide) (by rfl) (pa_cons (pv 1) pa_nil))) (blkOk_by (N := ["book", "thing", "bad", "cell"]) (sc := defScope (topS 30)) (by decide +kernel)) (fun _ _ _ _ _ => (pg_name (i := 3) nd rfl (.inl rfl))) (fun _ _ _ _ _ => pts_nil) (fun _ _ _ _ _ => (pe_cmpR (op_notInDB (hu65 hr)) (pv 3) (pv 2) (by rfl)))) pa_nil)))))),
      fun ⟨b, o⟩ ⟨hb, ho⟩ => by
        have ho : o.length ≤ 1000 := ho
        refine js_guard (b := !ordB b.2.length o) (jt_not (jt_test (jc_is_order (b, o) (ja_cons (j_var rfl) (ja_cons (j_var rfl) ja_nil)) ⟨hb, ho⟩))) (fun h => (js_ret j_bl).out ?_) fun h => js_then (js_asg (jc_bad_cells b (ja_cons (j_var rfl) ja_nil) hb)) ((js_ret (j_all (bs := (celsOf o).map fun c => !decide (c ∈ badC (prL b))) ((j_lcA (xs := celsOf o) (enc := celD) (v := fun c => .bool (!decide (c ∈ badC (prL b)))) (jw_list (jc_cells_of o (ja_cons (j_var rfl) ja_nil) ho)) (by unfold celsOf; rw [List.length_map, List.length_range]; omega) fun c _ => ⟨[3], [celD c], tg_name, by simp, (j_notInD (j_var rfl) (j_var rfl) (shp_cel c) (shp_cels _)).eq (by rw [any_cel])⟩).dat (by rw [List.map_map]; rfl)))).out ?_)
        · show dB false = dB (goodB b o)
          unfold goodB
          rw [Bool.not_eq_true'] at h
          rw [h]
          rfl
        · show _ = dB (goodB b o)
          unfold goodB
          rw [Bool.not_eq_false'] at h
          rw [h, Bool.true_and, List.all_map]
          rfl⟩
abbrev sp_need_good (C : Addr) : Sp := PureSp (fun x : Bk × Ord => [isBk C x.1, dS (ordS x.2)]) (fun x => x.1.2.length ≤ 7 ∧ x.2.length ≤ 1000 ∧ goodB x.1 x.2 = true) (fun x => da .none)
theorem jc_need_good {Ps : List Sl} {E : XK} {tr : TA} (x : Bk × Ord) (h : JA tr Ps ([isBk C x.1, dS (ordS x.2)])) (hp : x.1.2.length ≤ 7 ∧ x.2.length ≤ 1000 ∧ goodB x.1 x.2 = true) : JE (tCall (sp_need_good C) [] E tr) Ps (da .none) := j_call x h hp
theorem cal_need_good (D : Def1 K mg "need_good" (topS 31)) (c_is_good : C8.Cal P w K mg base 4 "is_good" (sp_is_good C) []) : C8.Cal P w K mg base 5 "need_good" (sp_need_good C) [] :=
  mkPure0 (N := ["book", "order"]) (ps := ["book", "order"]) (n := 0) D (C8.fnScope_by (by decide +kernel)) (fun _ _ _ _ _ _ us hl => match us, hl with | [_, _], _ => rfl) (fun _ => rfl) rfl fun f cdv A outer s H E hr => by
    have nd : (["book", "order"] : List Str).Nodup := by decide +kernel
    have hu : (XX P w K mg base ["book", "order"] "need_good" (topS 31) f cdv A outer s H E).A.units + 1 < cLine := by have := hr.un; omega
    exact ⟨_, (pss_one (ps_if (pt_not (pt_val (C8.pe_c c_is_good hr (by decide) (by rfl) (pa_cons (pv 0) (pa_cons (pv 1) pa_nil))))) (pss_one ps_never) pss_nil)),
      fun x hx => js_if (b := false) ((jt_not (jt_test (jc_is_good x (ja_cons (j_var rfl) (ja_cons (j_var rfl) ja_nil)) ⟨hx.1, hx.2.1⟩))).is (by rw [hx.2.2]; rfl)) (fun z => nomatch z) fun _ => js_next.imp fun _ _ => trivial⟩
abbrev sp_place_of : Sp := PureSp (fun x : Ord × Bool × Nat => [dS (ordS x.1), dS (letS x.2.1), dI (x.2.2 : Int)]) (fun x => 1 ≤ x.2.2 ∧ x.2.2 ≤ cn x.2.1 x.1 ∧ x.1.length ≤ 1000) (fun x => dI (place x.1 x.2.1 x.2.2 : Int))
theorem jc_place_of {Ps : List Sl} {E : XK} {tr : TA} (x : Ord × Bool × Nat) (h : JA tr Ps ([dS (ordS x.1), dS (letS x.2.1), dI (x.2.2 : Int)])) (hp : 1 ≤ x.2.2 ∧ x.2.2 ≤ cn x.2.1 x.1 ∧ x.1.length ≤ 1000) : JE (tCall sp_place_of [] E tr) Ps (dI (place x.1 x.2.1 x.2.2 : Int)) := j_call x h hp
theorem cal_place_of (D : Def1 K mg "place_of" (topS 34)) (T : Top mg) : C8.Cal P w K mg base 1 "place_of" sp_place_of [] :=
  mkPure (N := ["order", "letter", "many", "at", "sign"]) (ps := ["order", "letter", "many"]) (n := 2) D (C8.fnScope_by (by decide +kernel)) (fun _ _ _ _ _ _ us hl => match us, hl with | [_, _, _], _ => rfl) (fun _ => rfl) rfl fun f cdv A outer s H E hr => by
    have nd : (["order", "letter", "many", "at", "sign"] : List Str).Nodup := by decide +kernel
    have hu : (XX P w K mg base ["order", "letter", "many", "at", "sign"] "place_of" (topS 34) f cdv A outer s H E).A.units + 1 < cLine := by have := hr.un; omega
    exact ⟨_, (pss_one (ps_ret (pe_ix ix_seq (pe_lc (own := [("at", 3), ("sign", 4)]) rfl nd (pi_enumS (by rfl) T.enumerate_ (pa_cons (pv 0) pa_nil)) (blkOk_by (N := ["order", "letter", "many", "at", "sign"]) (sc := defScope (topS 34)) (by decide +kernel)) (fun _ _ _ _ _ => (pg_tupB (n := 2) (by rfl) (pgs_cons (pg_name (i := 3) nd rfl (.inl rfl)) (pgs_cons (pg_name (i := 4) nd rfl (.inl rfl)) pgs_nil)))) (fun _ _ _ _ _ => pts_one (pt_cmpR op_eq (pv 4) (pv 1) (nomark _))) (fun _ _ _ _ _ => (pv 3))) (pe_op op_sub (pv 2) pe_int) (fun _ _ => rfl)))),
      fun ⟨o, b, k⟩ ⟨h0, h1, ho⟩ => by
        have h0 : 1 ≤ k := h0
        have h1 : k ≤ cn b o := h1
        have ho : o.length ≤ 1000 := ho
        have hp := place_at h0 h1
        refine js_ret (j_ixL ((j_lc (xs := List.range o.length) (enc := encS o) (v := fun i => .int (i : Int)) (f := fun i => decide (letS (o.getD i false) = letS b)) ((jw_enumS (j_var rfl)).is (prs_enum o)) (by rw [List.length_range]; omega) fun i _ => ⟨[3, 4], [.int (i : Int), .str (letS (o.getD i false))], tg_2, by simp, jt_test (j_eqS (j_var rfl) (j_var rfl)), fun _ => j_var rfl⟩).dat (e := .list ((spots b o).map fun i : Nat => PyData.int (i : Int))) ?_) (j_I0 (j_var rfl) j_int) ?_)
        · unfold spots
          congr 2
          refine List.filter_congr fun i hi => ?_
          have hi := List.mem_range.mp hi
          refine decide_eq_decide.mpr ?_
          rw [letS_eq, List.getD_eq_getElem?_getD, List.getElem?_eq_getElem hi]
          exact ⟨fun h => by rw [← h]; rfl, fun h => by injection h⟩
        · rw [show (k : Int) - 1 = ((k - 1 : Nat) : Int) by omega]
          exact atI_map hp⟩
abbrev sp_label_first : Sp := PureSp (fun x : Ord × Cel => [dS (ordS x.1), da (celD x.2)]) (fun x => x.2.2 ≤ cn true x.1 ∧ x.1.length ≤ 1000) (fun x => dB (lfB x.1 x.2))
theorem jc_label_first {Ps : List Sl} {E : XK} {tr : TA} (x : Ord × Cel) (h : JA tr Ps ([dS (ordS x.1), da (celD x.2)])) (hp : x.2.2 ≤ cn true x.1 ∧ x.1.length ≤ 1000) : JE (tCall sp_label_first [] E tr) Ps (dB (lfB x.1 x.2)) := j_call x h hp
theorem cal_label_first (D : Def1 K mg "label_first" (topS 33)) (c_place_of : C8.Cal P w K mg base 1 "place_of" sp_place_of []) : C8.Cal P w K mg base 2 "label_first" sp_label_first [] :=
  mkPure (N := ["order", "cell", "one", "other"]) (ps := ["order", "cell"]) (n := 2) D (C8.fnScope_by (by decide +kernel)) (fun _ _ _ _ _ _ us hl => match us, hl with | [_, _], _ => rfl) (fun _ => rfl) rfl fun f cdv A outer s H E hr => by
    have nd : (["order", "cell", "one", "other"] : List Str).Nodup := by decide +kernel
    have hu : (XX P w K mg base ["order", "cell", "one", "other"] "label_first" (topS 33) f cdv A outer s H E).A.units + 1 < cLine := by have := hr.un; omega
    exact ⟨_, (pss_cons (ps_asg (pv 1) (pg_tup (n := 2) (by rfl) (pgs_cons (pg_name (i := 2) nd rfl (.inl rfl)) (pgs_cons (pg_name (i := 3) nd rfl (.inl rfl)) pgs_nil)))) (pss_one (ps_ret (pe_and (pe_cmpR op_gt (pv 3) pe_int (nomark _)) (pe_one (pe_cmpR op_gt (pe_countX (pe_slice C8.sl_txt (pv 0) po_none (po_some (C8.pe_c c_place_of hr (by decide) (by rfl) (pa_cons (pv 0) (pa_cons pe_str (pa_cons (pv 3) pa_nil)))))) pe_str) (pv 2) (nomark _))))))),
      fun ⟨o, c⟩ ⟨hc, ho⟩ => by
        have hc : c.2 ≤ cn true o := hc
        have ho : o.length ≤ 1000 := ho
        refine js_then (js_asgT (j_var rfl) tg_2) ((js_ret (j_andV ((j_B0 (j_var rfl) j_int).eq (P' := dB (decide (0 < c.2))) ?_) fun h => (j_B0 (j_count ((j_slS (j_var rfl) jo_none (jo_some (jc_place_of (o, true, c.2) (ja_cons (j_var rfl) (ja_cons (j_str (x := "T")) (ja_cons (j_var rfl) ja_nil))) ⟨?_, hc, ho⟩)) (by rw [ordS_len]; omega)).eq (P' := dS (ordS (o.take (place o true c.2)))) (by rw [take_ord])) j_str) (j_var rfl)).eq (P' := dB (decide (c.1 < cn false (o.take (place o true c.2))))) ?_)).out ?_)
        · exact congrArg dB (decide_eq_decide.mpr (by show (0 : Int) < (c.2 : Int) ↔ _; omega))
        · have := of_decide_eq_true h
          show 1 ≤ c.2
          omega
        · rw [show ("L" : Str) = letS false from L_is, count_ord]
          exact congrArg dB (decide_eq_decide.mpr Int.ofNat_lt)
        · rfl⟩
theorem good_len {b : Bk} {o : Ord} (h : goodB b o = true) : o.length = 2 * b.2.length ∧ cn false o = b.2.length ∧ cn true o = b.2.length := by
  unfold goodB ordB at h
  rw [Bool.and_eq_true, Bool.and_eq_true, Bool.and_eq_true] at h
  obtain ⟨⟨h1, h2, h3⟩, _⟩ := h
  exact ⟨of_decide_eq_true h1, of_decide_eq_true h2, of_decide_eq_true h3⟩
abbrev sp_follows (C : Addr) : Sp := PureSp (fun x : Bk × Pr2 × Pr2 × Pr2 × Pln × Ord => [isBk C x.1, da (p2D x.2.1), da (p2D x.2.2.1), da (p2D x.2.2.2.1), da (plnD x.2.2.2.2.1), dS (ordS x.2.2.2.2.2)]) (fun x => x.1.2.length ≤ 7 ∧ x.2.2.2.2.1.1.length = x.1.2.length ∧ x.2.2.2.2.1.2.length = x.1.2.length ∧ goodB x.1 x.2.2.2.2.2 = true) (fun x => dB (folB x.1 x.2.1 x.2.2.1 x.2.2.2.1 x.2.2.2.2.1 x.2.2.2.2.2))
theorem jc_follows {Ps : List Sl} {E : XK} {tr : TA} (x : Bk × Pr2 × Pr2 × Pr2 × Pln × Ord) (h : JA tr Ps ([isBk C x.1, da (p2D x.2.1), da (p2D x.2.2.1), da (p2D x.2.2.2.1), da (plnD x.2.2.2.2.1), dS (ordS x.2.2.2.2.2)])) (hp : x.1.2.length ≤ 7 ∧ x.2.2.2.2.1.1.length = x.1.2.length ∧ x.2.2.2.2.1.2.length = x.1.2.length ∧ goodB x.1 x.2.2.2.2.2 = true) : JE (tCall (sp_follows C) [] E tr) Ps (dB (folB x.1 x.2.1 x.2.2.1 x.2.2.2.1 x.2.2.2.2.1 x.2.2.2.2.2)) := j_call x h hp
theorem cal_follows (D : Def1 K mg "follows" (topS 35)) (c_need_good : C8.Cal P w K mg base 5 "need_good" (sp_need_good C) []) (c_bad_cells : C8.Cal P w K mg base 2 "bad_cells" (sp_bad_cells C) []) (c_label_first : C8.Cal P w K mg base 2 "label_first" sp_label_first []) (c_label_leaves : C8.Cal P w K mg base 1 "label_leaves" sp_label_leaves []) (c_till_leaves : C8.Cal P w K mg base 1 "till_leaves" sp_till_leaves []) : C8.Cal P w K mg base 6 "follows" (sp_follows C) [] :=
  mkPure (N := ["book", "label", "till", "gap", "plan", "order", "cell", "leaves"]) (ps := ["book", "label", "till", "gap", "plan", "order"]) (n := 2) D (C8.fnScope_by (by decide +kernel)) (fun _ _ _ _ _ _ us hl => match us, hl with | [_, _, _, _, _, _], _ => rfl) (fun _ => rfl) rfl fun f cdv A outer s H E hr => by
    have nd : (["book", "label", "till", "gap", "plan", "order", "cell", "leaves"] : List Str).Nodup := by decide +kernel
    have hu : (XX P w K mg base ["book", "label", "till", "gap", "plan", "order", "cell", "leaves"] "follows" (topS 35) f cdv A outer s H E).A.units + 1 < cLine := by have := hr.un; omega
    obtain ⟨f1, fd1, ps1, ds1, F1, hm1, kp1, b1, d1⟩ := c_label_leaves.ex
    cases d1
    obtain ⟨f2, fd2, ps2, ds2, F2, hm2, kp2, b2, d2⟩ := c_till_leaves.ex
    cases d2
    have at1 : C8.CalAt P w K mg base 1 f1 sp_label_leaves := ⟨fd1, ps1, F1, kp1, b1⟩
    have at2 : C8.CalAt P w K mg base 1 f2 sp_till_leaves := ⟨fd2, ps2, F2, kp2, b2⟩
    have g_label_leaves : ∃ u, mg "label_leaves" = some u ∧ RelV (V.ref f1) u := ⟨_, hm1, rfl⟩
    have g_till_leaves : ∃ u, mg "till_leaves" = some u ∧ RelV (V.ref f2) u := ⟨_, hm2, rfl⟩
    exact ⟨_, (pss_cons (ps_expr (C8.pe_c c_need_good hr (by decide) (by rfl) (pa_cons (pv 0) (pa_cons (pv 5) pa_nil)))) (pss_cons (ps_for PassesOwn.never rfl (pi_list (C8.pe_c c_bad_cells hr (by decide) (by rfl) (pa_cons (pv 0) pa_nil))) (pg_name (i := 6) nd rfl (.inl rfl)) (pss_cons (ps_set (i := 7) nd rfl (.inl rfl) (pe_ifExp (pt_val (C8.pe_c c_label_first hr (by decide) (by rfl) (pa_cons (pv 5) (pa_cons (pv 6) pa_nil)))) (C8.pe_gc (by rfl) g_label_leaves) (C8.pe_gc (by rfl) g_till_leaves))) (pss_one (ps_if (pt_not (pt_val (C8.pe_cv (i := 7) at1 at2 hr (by decide) (by decide) (by rfl) (.inl rfl) (pa_cons (pv 1) (pa_cons (pv 2) (pa_cons (pv 3) (pa_cons (pv 4) (pa_cons (pv 6) pa_nil)))))))) (pss_one (ps_ret pe_bl)) pss_nil)))) (pss_one (ps_ret pe_bl)))),
      fun ⟨b, L, T, G, Q, o⟩ ⟨hb, h1, h2, hg⟩ => by
        have hb : b.2.length ≤ 7 := hb
        have h1 : Q.1.length = b.2.length := h1
        have h2 : Q.2.length = b.2.length := h2
        obtain ⟨g1, g2, g3⟩ := good_len (b := b) (o := o) hg
        refine js_then (js_drop (jc_need_good (b, o) (ja_cons (j_var rfl) (ja_cons (j_var rfl) ja_nil)) ⟨hb, by show o.length ≤ 1000; omega, hg⟩)) ?_
        refine js_seq (js_for (P := dB (folB b L T G Q o)) (jw_list (jc_bad_cells b (ja_cons (j_var rfl) ja_nil) hb)) (fun i Qs => Qs = slotsOf [isBk C b, da (p2D L), da (p2D T), da (p2D G), da (plnD Q), dS (ordS o)] 2 ∧ ∀ j < i, ∀ c, (badC (prL b))[j]? = some c → (if lfB o c then llB L T G Q c else tlB L T G Q c) = true) ⟨_, PsLe.refl _, rfl, fun j hj => by omega⟩ fun i d Qs hd hQ => ?_) fun Qs hQ => ?_
        · obtain ⟨rfl, hI⟩ := hQ
          rw [List.getElem?_map] at hd
          cases e : (badC (prL b))[i]? with
          | none => rw [e] at hd; cases hd
          | some c =>
            rw [e] at hd
            cases hd
            have hc := List.mem_of_getElem? e
            have hl := bad_le hc
            refine ⟨[6], [celD c], tg_name, ?_⟩
            refine js_then (js_asg (j_if (P := cst (.ref (if lfB o c then f1 else f2))) (jt_test (jc_label_first (o, c) (ja_cons (j_var rfl) (ja_cons (j_var rfl) ja_nil)) ⟨by show c.2 ≤ cn true o; omega, by show o.length ≤ 1000; omega⟩)) (fun h => j_cst.eq (by rw [h]; rfl)) fun h => j_cst.eq (by rw [h]; rfl))) ?_
            refine js_if (b := !(if lfB o c then llB L T G Q c else tlB L T G Q c)) (jt_not (jt_test ((j_callV (b := lfB o c) (n := 7) (out1 := fun x : Pr2 × Pr2 × Pr2 × Pln × Cel => dB (llB x.1 x.2.1 x.2.2.1 x.2.2.2.1 x.2.2.2.2)) (out2 := fun x : Pr2 × Pr2 × Pr2 × Pln × Cel => dB (tlB x.1 x.2.1 x.2.2.1 x.2.2.2.1 x.2.2.2.2)) (L, T, G, Q, c) rfl (ja_cons (j_var rfl) (ja_cons (j_var rfl) (ja_cons (j_var rfl) (ja_cons (j_var rfl) (ja_cons (j_var rfl) ja_nil))))) (fun _ => by show c.2 ≤ Q.2.length; omega) (fun _ => by show c.1 ≤ Q.1.length; omega)).eq (by split <;> rfl)))) (fun h => (js_ret j_bl).out ?_) fun h => js_next.imp fun Rs q => ⟨_, q ▸ (by repeat first | exact True.intro | refine And.intro (Or.inr rfl) ?_ | refine And.intro (Or.inl rfl) ?_), rfl, fun j hj c' e' => ?_⟩
            · refine congrArg dB ?_
              rw [Bool.not_eq_true'] at h
              unfold folB
              symm
              rw [Bool.eq_false_iff]
              intro z
              rw [List.all_eq_true] at z
              rw [z c hc] at h
              cases h
            · rw [Bool.not_eq_false'] at h
              by_cases hji : j = i
              · subst hji
                rw [e] at e'
                cases e'
                exact h
              · exact hI j (by omega) c' e'
        · obtain ⟨rfl, hI⟩ := hQ
          refine (js_ret j_bl).out (congrArg dB ?_)
          symm
          unfold folB
          rw [List.all_eq_true]
          intro c hc
          obtain ⟨j, hj, e⟩ := List.getElem_of_mem hc
          exact hI j (by rw [List.length_map]; exact hj) c (by rw [List.getElem?_eq_getElem hj, e])⟩
end
end LK
/-! text W5 -/
namespace LK
open PySem PySem.Spec PyProof.Rows L2
section
variable {P : Program} {w : World} {K : PySem.W.Frag} {mg : Str → Option Value} {base : Heap} {C : Addr}
/-! ### ways on -/
def barF (bar : Nat → Nat → Bool) : Int → Int → Option V := fun x y => if 0 ≤ x ∧ 0 ≤ y ∧ bar x.toNat y.toNat = true then some (.bl true) else none
def wayF (bar : Nat → Nat → Bool) (n : Nat) (i j : Nat) : Int → Int → Option V := fun x y =>
  if 0 ≤ x ∧ x ≤ n ∧ 0 ≤ y ∧ y ≤ n ∧ ((n : Int) - x < i ∨ ((n : Int) - x = i ∧ (n : Int) - y < j)) then some (.int (wy bar n ((n : Int) - x).toNat ((n : Int) - y).toNat)) else none
def wayD (bar : Nat → Nat → Bool) (n : Nat) : DP := isDT (wayF bar n (n + 1) 0)
theorem wayF_0 (bar : Nat → Nat → Bool) (n : Nat) : wayF bar n 0 0 = fun _ _ => none := by
  funext x y
  unfold wayF
  rw [if_neg (by omega)]
theorem wayF_row (bar : Nat → Nat → Bool) (n i : Nat) : wayF bar n i (n + 1) = wayF bar n (i + 1) 0 := by
  funext x y
  unfold wayF
  by_cases h : 0 ≤ x ∧ x ≤ n ∧ 0 ≤ y ∧ y ≤ n ∧ ((n : Int) - x < i ∨ ((n : Int) - x = i ∧ (n : Int) - y < ((n + 1 : Nat) : Int)))
  · rw [if_pos h, if_pos (by omega)]
  · rw [if_neg h, if_neg (by omega)]
theorem wayF_step (bar : Nat → Nat → Bool) (n i j : Nat) (hi : i ≤ n) (hj : j ≤ n) : (fun a b : Int => if a = (n : Int) - (i : Int) ∧ b = (n : Int) - (j : Int) then some (V.int (wy bar n i j)) else wayF bar n i j a b) = wayF bar n i (j + 1) := by
  funext x y
  show (if x = (n : Int) - (i : Int) ∧ y = (n : Int) - (j : Int) then some (V.int (wy bar n i j)) else wayF bar n i j x y) = _
  by_cases e : x = (n : Int) - (i : Int) ∧ y = (n : Int) - (j : Int)
  · rw [if_pos e]
    unfold wayF
    rw [if_pos (by omega), e.1, e.2, show ((n : Int) - ((n : Int) - (i : Int))).toNat = i by omega, show ((n : Int) - ((n : Int) - (j : Int))).toNat = j by omega]
  · rw [if_neg e]
    unfold wayF
    by_cases h : 0 ≤ x ∧ x ≤ n ∧ 0 ≤ y ∧ y ≤ n ∧ ((n : Int) - x < i ∨ ((n : Int) - x = i ∧ (n : Int) - y < j))
    · rw [if_pos h, if_pos (by omega)]
    · rw [if_neg h, if_neg (by omega)]
theorem wayF_get (bar : Nat → Nat → Bool) (n i j : Nat) {a b : Nat} (ha : a ≤ n) (hb : b ≤ n) (h : a < i ∨ (a = i ∧ b < j)) : (wayF bar n i j ((n : Int) - (a : Int)) ((n : Int) - (b : Int))).getD (.int 0) = .int (wy bar n a b) := by
  unfold wayF
  rw [if_pos (by omega), show ((n : Int) - ((n : Int) - (a : Int))).toNat = a by omega, show ((n : Int) - ((n : Int) - (b : Int))).toNat = b by omega]
  rfl
theorem wayF_out (bar : Nat → Nat → Bool) (n i j : Nat) {x y : Int} (h : n < x ∨ n < y) : (wayF bar n i j x y).getD (.int 0) = .int 0 := by
  unfold wayF
  rw [if_neg (by omega)]
  rfl
theorem wy_bar {bar : Nat → Nat → Bool} {n i j : Nat} (h : bar (n - i) (n - j) = true) : wy bar n i j = 0 := by
  cases i <;> cases j <;> (unfold wy; simp_all)
theorem wy_00 {bar : Nat → Nat → Bool} {n : Nat} (h : bar n n = false) : wy bar n 0 0 = 1 := by unfold wy; simp [h]
theorem wy_else {bar : Nat → Nat → Bool} {n i j : Nat} (h : bar (n - i) (n - j) = false) (h0 : ¬ (i = 0 ∧ j = 0)) : wy bar n i j = (if i = 0 then 0 else wy bar n (i - 1) j) + (if j = 0 then 0 else wy bar n i (j - 1)) := by
  cases i <;> cases j
  · exact absurd ⟨rfl, rfl⟩ h0
  · rename_i j; conv => lhs; unfold wy
    simp_all
  · rename_i i; conv => lhs; unfold wy
    simp_all
  · rename_i i j; conv => lhs; unfold wy
    simp_all
abbrev sp_ways_on (C : Addr) : Sp := PureSp (fun x : Bk × (Nat → Nat → Bool) => [isBk C x.1, isDT (barF x.2)]) (fun x => x.1.2.length ≤ 7) (fun x => wayD x.2 x.1.2.length)
theorem jc_ways_on {Ps : List Sl} {E : XK} {tr : TA} (x : Bk × (Nat → Nat → Bool)) (h : JA tr Ps ([isBk C x.1, isDT (barF x.2)])) (hp : x.1.2.length ≤ 7) : JE (tCall (sp_ways_on C) [] E tr) Ps (wayD x.2 x.1.2.length) := j_call x h hp
theorem cal_ways_on (D : Def1 K mg "ways_on" (topS 32)) (T : Top mg) (m_len : C8.Met P w K mg base 1 C "__len__" (spm_len C) []) : C8.Cal P w K mg base 3 "ways_on" (sp_ways_on C) [] :=
  mkPure (N := ["book", "barred", "last", "found", "one", "other", "cell"]) (ps := ["book", "barred"]) (n := 5) D (C8.fnScope_by (by decide +kernel)) (fun _ _ _ _ _ _ us hl => match us, hl with | [_, _], _ => rfl) (fun _ => rfl) rfl fun f cdv A outer s H E hr => by
    have nd : (["book", "barred", "last", "found", "one", "other", "cell"] : List Str).Nodup := by decide +kernel
    have hu : (XX P w K mg base ["book", "barred", "last", "found", "one", "other", "cell"] "ways_on" (topS 32) f cdv A outer s H E).A.units + 1 < cLine := by have := hr.un; omega
    exact ⟨_, (pss_cons (ps_par (by rfl) nd (i := 2) (j := 3) rfl rfl (by decide) rfl rfl (pa_cons (pe_op op_sub (pe_callB (call_lenOwn m_len hr (by decide)) (by rfl) T.len_ (by decide +kernel) (pa_cons (pv 0) pa_nil)) pe_int) (pa_cons pe_dnewT pa_nil)) (by rfl)) (pss_cons (ps_for PassesOwn.never rfl (pi_range3 (by rfl) T.range_ (pa_cons (pv 2) (pa_cons (pe_un un_neg pe_int) (pa_cons (pe_un un_neg pe_int) pa_nil)))) (pg_name (i := 4) nd rfl (.inl rfl)) (pss_one (ps_for PassesOwn.never rfl (pi_range3 (by rfl) T.range_ (pa_cons (pv 2) (pa_cons (pe_un un_neg pe_int) (pa_cons (pe_un un_neg pe_int) pa_nil)))) (pg_name (i := 5) nd rfl (.inl rfl)) (pss_cons (ps_set (i := 6) nd rfl (.inl rfl) (pe_tup (pa_cons (pv 4) (pa_cons (pv 5) pa_nil)))) (pss_one (ps_if (pt_cmp (pc_din hu (pv 6) (pv 1)) (by rfl)) (pss_one (ps_dput hu (pv 3) (pv 6) pe_int rfl)) (pss_one (ps_if (pt_cmpR (op_eqD hr.units) (pv 6) (pe_tup (pa_cons (pv 2) (pa_cons (pv 2) pa_nil))) (nomark _)) (pss_one (ps_dput hu (pv 3) (pv 6) pe_int rfl)) (pss_one (ps_dput hu (pv 3) (pv 6) (pe_op op_add (pe_dget2 hu (pv 3) (pe_tup (pa_cons (pe_op op_add (pv 4) pe_int) (pa_cons (pv 5) pa_nil))) pe_int ⟨rfl, rfl, rfl, rfl⟩) (pe_dget2 hu (pv 3) (pe_tup (pa_cons (pv 4) (pa_cons (pe_op op_add (pv 5) pe_int) pa_nil))) pe_int ⟨rfl, rfl, rfl, rfl⟩)) rfl)))))))))) (pss_one (ps_ret (pv 3))))),
      fun ⟨b, bar⟩ hb => by
        have hb : b.2.length ≤ 7 := hb
        generalize hn : b.2.length = n at hb
        have r0 : irng ((n : Int) - (-1)).toNat (fun k => (n : Int) - (k : Int)) = irng (n + 1) fun k => (n : Int) - (k : Int) := by rw [show ((n : Int) - (-1)).toNat = n + 1 by omega]
        have rl : (irng (n + 1) fun k => (n : Int) - (k : Int)).length = n + 1 := irng_len _ _
        refine js_then (js_parN (s1 := .pl (dI (n : Int))) (s2 := .od 0 fun _ _ => none) (jax_cons (jn_pl ((j_I0 (j_lenB b (j_var rfl) (by omega)) j_int).dat (e := .int (n : Int)) (by rw [hn, Int.natCast_add]; show PyData.int ((n : Int) + 1 - 1) = _; rw [Int.add_sub_cancel]))) (jax_cons jn_newD jax_nil)) (by decide)) ?_
        refine js_then (js_forI (jw_rng3 (i := (n : Int)) (j := -1) (jd_cons (j_var rfl) (jd_cons (j_neg j_int) (jd_cons (j_neg j_int) jd_nil))) (by omega) (by omega)) (fun i => [.pl (isBk C b), .pl (isDT (barF bar)), .pl (dI (n : Int)), .od ((n + 1) * i) (wayF bar n i 0), .no, .no, .no]) (by rw [Nat.mul_zero, wayF_0]; exact (by repeat first | exact True.intro | refine And.intro (Or.inr rfl) ?_ | refine And.intro (Or.inl rfl) ?_)) fun i d hd => ?_) ?_
        · rw [r0] at hd
          obtain ⟨hi, _⟩ := List.getElem?_eq_some_iff.mp hd
          rw [rl] at hi
          rw [irng_get hi] at hd
          cases hd
          refine ⟨[4], [_], tg_name, ?_⟩
          refine JS.imp (js_forI (jw_rng3 (i := (n : Int)) (j := -1) (jd_cons (j_var rfl) (jd_cons (j_neg j_int) (jd_cons (j_neg j_int) jd_nil))) (by omega) (by omega)) (fun j => [.pl (isBk C b), .pl (isDT (barF bar)), .pl (dI (n : Int)), .od ((n + 1) * i + j) (wayF bar n i j), .pl (dI ((n : Int) - (i : Int))), .no, .no]) (by repeat first | exact True.intro | refine And.intro (Or.inr rfl) ?_ | refine And.intro (Or.inl rfl) ?_) fun j d hd => ?_) fun Qs q => ?_
          · rw [r0] at hd
            obtain ⟨hj, _⟩ := List.getElem?_eq_some_iff.mp hd
            rw [rl] at hj
            rw [irng_get hj] at hd
            cases hd
            refine ⟨[5], [_], tg_name, ?_⟩
            have e1 : barF bar ((n : Int) - (i : Int)) ((n : Int) - (j : Int)) = if bar (n - i) (n - j) = true then some (V.bl true) else none := by
              unfold barF
              rw [show ((n : Int) - (i : Int)).toNat = n - i by omega, show ((n : Int) - (j : Int)).toNat = n - j by omega]
              by_cases h : bar (n - i) (n - j) = true
              · rw [if_pos h, if_pos ⟨by omega, by omega, h⟩]
              · rw [if_neg h, if_neg fun z => h z.2.2]
            have done : ∀ {w : V}, w = .int (wy bar n i j) → ∀ Qs, Is (([.pl (isBk C b), .pl (isDT (barF bar)), .pl (dI (n : Int)), .od ((n + 1) * i + j) (wayF bar n i j), .pl (dI ((n : Int) - (i : Int))), .pl (dI ((n : Int) - (j : Int))), .pl (da (.tuple [.int ((n : Int) - (i : Int)), .int ((n : Int) - (j : Int))]))] : List Sl).set 3 (.od ((n + 1) * i + j + 1) fun a b => if a = (n : Int) - (i : Int) ∧ b = (n : Int) - (j : Int) then some w else wayF bar n i j a b)) Qs → Wk (Is [.pl (isBk C b), .pl (isDT (barF bar)), .pl (dI (n : Int)), .od ((n + 1) * i + (j + 1)) (wayF bar n i (j + 1)), .pl (dI ((n : Int) - (i : Int))), .no, .no]) Qs := by
              intro w hw Qs q
              subst hw
              rw [wayF_step bar n i j (by omega) (by omega)] at q
              exact ⟨_, q ▸ (by repeat first | exact True.intro | refine And.intro (Or.inr rfl) ?_ | refine And.intro (Or.inl rfl) ?_), rfl⟩
            have hz : (n + 1) * i + j < 100000 := by
              have := Nat.mul_le_mul (show n + 1 ≤ 8 by omega) (show i ≤ 8 by omega)
              omega
            have w0 : ∀ {k : Int} (H : Hp) (v : V), (dI k).p H v → v = .int k := fun H v h => by cases (show Da H v (.int _) from h); rfl
            refine js_then (js_asg (j_tup (jd_cons (j_var rfl) (jd_cons (j_var rfl) jd_nil)) (by show 2 ≤ 100000; decide))) ?_
            refine js_if (b := bar (n - i) (n - j)) ((jt_test (j_din (n := 1) (f := barF bar) (j_var rfl) (.inl rfl))).is ?_) (fun h => (js_dput (n := 3) (w := .int 0) rfl (j_var rfl) j_int w0 hz).imp (done (by rw [wy_bar h]; rfl))) fun h => ?_
            · rw [e1]
              cases bar (n - i) (n - j) <;> rfl
            refine js_if (b := decide (i = 0 ∧ j = 0)) ((jt_test (j_eqD (j_var rfl) (j_tup (jd_cons (j_var rfl) (jd_cons (j_var rfl) jd_nil)) (by show 2 ≤ 100000; decide)) rfl rfl)).is ?_) (fun h0 => (js_dput (n := 3) (w := .int 1) rfl (j_var rfl) j_int w0 hz).imp (done ?_)) fun h0 => (js_dput (n := 3) (w := .int ((if i = 0 then 0 else (wy bar n (i - 1) j : Int)) + (if j = 0 then 0 else (wy bar n i (j - 1) : Int)))) rfl (j_var rfl) (j_I0 (i := if i = 0 then 0 else (wy bar n (i - 1) j : Int)) (j := if j = 0 then 0 else (wy bar n i (j - 1) : Int)) (j_dget2 (n := 3) (i := (n : Int) - (i : Int) + 1) (j := (n : Int) - (j : Int)) (k := 0) (f := wayF bar n i j) (.inr ⟨_, rfl⟩) (j_tup (jd_cons (j_I0 (j_var rfl) j_int) (jd_cons (j_var rfl) jd_nil)) (by show 2 ≤ 100000; decide)) j_int ?_) (j_dget2 (n := 3) (i := (n : Int) - (i : Int)) (j := (n : Int) - (j : Int) + 1) (k := 0) (f := wayF bar n i j) (.inr ⟨_, rfl⟩) (j_tup (jd_cons (j_var rfl) (jd_cons (j_I0 (j_var rfl) j_int) jd_nil)) (by show 2 ≤ 100000; decide)) j_int ?_)) w0 hz).imp (done ?_)
            · show ((((n : Int) - (i : Int)) == (n : Int)) && ((((n : Int) - (j : Int)) == (n : Int)) && true)) = _
              rw [Bool.and_true]
              cases hd : decide (i = 0 ∧ j = 0)
              · have hd := of_decide_eq_false hd
                rw [Bool.and_eq_false_iff]
                by_cases hi0 : i = 0
                · exact .inr (by rw [beq_eq_false_iff_ne]; omega)
                · exact .inl (by rw [beq_eq_false_iff_ne]; omega)
              · have hd := of_decide_eq_true hd
                rw [hd.1, hd.2]
                simp
            · obtain ⟨rfl, rfl⟩ := of_decide_eq_true h0
              rw [wy_00 (by simpa using h)]
              rfl
            · by_cases hi0 : i = 0
              · rw [if_pos hi0]
                exact wayF_out _ _ _ _ (.inl (by omega))
              · rw [if_neg hi0, show (n : Int) - (i : Int) + 1 = (n : Int) - ((i - 1 : Nat) : Int) by omega]
                exact wayF_get _ _ _ _ (by omega) (by omega) (.inl (by omega))
            · by_cases hj0 : j = 0
              · rw [if_pos hj0]
                exact wayF_out _ _ _ _ (.inr (by omega))
              · rw [if_neg hj0, show (n : Int) - (j : Int) + 1 = (n : Int) - ((j - 1 : Nat) : Int) by omega]
                exact wayF_get _ _ _ _ (by omega) (by omega) (.inr ⟨rfl, by omega⟩)
            · rw [wy_else h (of_decide_eq_false h0)]
              congr 1
              rw [Int.natCast_add]
              congr 1
              · split <;> rfl
              · split <;> rfl
          · rw [r0, rl, wayF_row] at q
            have q : Qs = _ := q
            exact ⟨[.pl (isBk C b), .pl (isDT (barF bar)), .pl (dI (n : Int)), .od ((n + 1) * (i + 1)) (wayF bar n (i + 1) 0), .no, .no, .no], q ▸ (by repeat first | exact True.intro | refine And.intro (Or.inr rfl) ?_ | refine And.intro (Or.inl rfl) ?_), rfl⟩
        · rw [r0, rl]
          refine js_freezeD (n := 3) rfl ((js_ret (j_var rfl)).out ?_)
          show _ = wayD bar n
          rfl⟩
end
end LK
/-! text W6 -/
namespace LK
open PySem PySem.Spec PyProof.Rows L2
section
variable {P : Program} {w : World} {K : PySem.W.Frag} {mg : Str → Option Value} {base : Heap} {C : Addr}
theorem irng_nats (n m : Nat) : (irng m fun k => (n : Int) + (k : Int)) = ((List.range m).map (n + ·)).map fun k : Nat => PyData.int (k : Int) := by
  unfold irng
  rw [List.map_map]
  exact List.map_congr_left fun i _ => rfl
theorem irng_nat0 (m : Nat) : (irng m fun k => (k : Int)) = (List.range m).map fun k : Nat => PyData.int (k : Int) := rfl
def llDone (n : Nat) (c : Cel) : List (Nat × Nat) := (List.range (c.1 + 1)).flatMap fun x => ((List.range (n + 1 - c.2)).map (c.2 + ·)).map fun y => (x, y)
def tlDone (n : Nat) (c : Cel) : List (Nat × Nat) := ((List.range (n + 1 - c.1)).map (c.1 + ·)).flatMap fun x => (List.range (c.2 + 1)).map fun y => (x, y)
theorem mem_llDone {n : Nat} {c : Cel} {q : Nat × Nat} : q ∈ llDone n c ↔ q.1 ≤ c.1 ∧ c.2 ≤ q.2 ∧ q.2 ≤ n := by
  unfold llDone
  simp only [List.mem_flatMap, List.mem_map, List.mem_range]
  constructor
  · rintro ⟨x, hx, y, ⟨k, hk, rfl⟩, rfl⟩
    exact ⟨by omega, by show c.2 ≤ c.2 + k; omega, by show c.2 + k ≤ n; omega⟩
  · rintro ⟨h1, h2, h3⟩
    exact ⟨q.1, by omega, q.2, ⟨q.2 - c.2, by omega, by omega⟩, rfl⟩
theorem mem_tlDone {n : Nat} {c : Cel} {q : Nat × Nat} : q ∈ tlDone n c ↔ c.1 ≤ q.1 ∧ q.1 ≤ n ∧ q.2 ≤ c.2 := by
  unfold tlDone
  simp only [List.mem_flatMap, List.mem_map, List.mem_range]
  constructor
  · rintro ⟨x, ⟨k, hk, rfl⟩, y, hy, rfl⟩
    exact ⟨by show c.1 ≤ c.1 + k; omega, by show c.1 + k ≤ n; omega, by show y ≤ c.2; omega⟩
  · rintro ⟨h1, h2, h3⟩
    exact ⟨q.1, ⟨q.1 - c.1, by omega, by omega⟩, q.2, by omega, rfl⟩
theorem flat_len {α : Type} : ∀ (l : List Nat) (f : Nat → List α) (m : Nat), (∀ x ∈ l, (f x).length ≤ m) → (l.flatMap f).length ≤ m * l.length
  | [], _, _, _ => by simp
  | a :: l, f, m, h => by
    rw [List.flatMap_cons, List.length_append, List.length_cons]
    have h1 := h a List.mem_cons_self
    have h2 := flat_len l f m fun x hx => h x (List.mem_cons_of_mem _ hx)
    rw [Nat.mul_add]
    omega
theorem len_llDone {n : Nat} {c : Cel} (hn : n ≤ 7) (h1 : c.1 ≤ n) : (llDone n c).length ≤ 64 := by
  have := flat_len (List.range (c.1 + 1)) (fun x => ((List.range (n + 1 - c.2)).map (c.2 + ·)).map fun y => (x, y)) 8 fun x _ => by rw [List.length_map, List.length_map, List.length_range]; omega
  rw [List.length_range] at this
  unfold llDone
  omega
theorem len_tlDone {n : Nat} {c : Cel} (hn : n ≤ 7) (h1 : c.2 ≤ n) : (tlDone n c).length ≤ 64 := by
  have := flat_len ((List.range (n + 1 - c.1)).map (c.1 + ·)) (fun x => (List.range (c.2 + 1)).map fun y => (x, y)) 8 fun x _ => by rw [List.length_map, List.length_range]; omega
  rw [List.length_map, List.length_range] at this
  unfold tlDone
  omega
theorem barF_step (L T G : Pr2) (P : Pln) (n : Nat) (l : List Cel) (c : Cel) (done : List (Nat × Nat)) (h : ∀ q, q ∈ done ↔ inBar L T G P n c q = true) : (fun i j : Int => if ∃ q ∈ done, i = (q.1 : Int) ∧ j = (q.2 : Int) then some (V.bl true) else barF (barL L T G P n l) i j) = barF (barL L T G P n (l ++ [c])) := by
  funext x y
  unfold barF
  show (if ∃ q ∈ done, x = (q.1 : Int) ∧ y = (q.2 : Int) then some (V.bl true) else (if 0 ≤ x ∧ 0 ≤ y ∧ barL L T G P n l x.toNat y.toNat = true then some (.bl true) else none)) = _
  have e : barL L T G P n (l ++ [c]) x.toNat y.toNat = (barL L T G P n l x.toNat y.toNat || inBar L T G P n c (x.toNat, y.toNat)) := by
    unfold barL
    rw [List.any_append, List.any_cons, List.any_nil, Bool.or_false]
  by_cases h1 : ∃ q ∈ done, x = (q.1 : Int) ∧ y = (q.2 : Int)
  · rw [if_pos h1]
    obtain ⟨q, hq, rfl, rfl⟩ := h1
    have := (h q).mp hq
    rw [if_pos ⟨by omega, by omega, by rw [e, Int.toNat_natCast, Int.toNat_natCast]; rw [show inBar L T G P n c (q.1, q.2) = true from this, Bool.or_true]⟩]
  · rw [if_neg h1]
    by_cases h2 : 0 ≤ x ∧ 0 ≤ y ∧ barL L T G P n l x.toNat y.toNat = true
    · rw [if_pos h2, if_pos ⟨h2.1, h2.2.1, by rw [e, h2.2.2, Bool.true_or]⟩]
    · rw [if_neg h2, if_neg]
      rintro ⟨g1, g2, g3⟩
      rw [e, Bool.or_eq_true] at g3
      rcases g3 with g3 | g3
      · exact h2 ⟨g1, g2, g3⟩
      · exact h1 ⟨(x.toNat, y.toNat), (h _).mpr g3, by show x = (x.toNat : Int); omega, by show y = (y.toNat : Int); omega⟩
theorem barF_nil (L T G : Pr2) (P : Pln) (n : Nat) : barF (barL L T G P n []) = fun _ _ => none := by
  funext x y
  unfold barF
  rw [if_neg]
  rintro ⟨_, _, h⟩
  cases h
theorem gro_len (pos : Cel → Bool) : ∀ k, (gro pos k).length = k
  | 0 => rfl
  | k + 1 => by unfold gro; rw [List.length_append, gro_len pos k]; rfl
def groC (pos : Cel → Bool) (k : Nat) : Cel := (cn false (gro pos k), cn true (gro pos k))
theorem groC_succ (pos : Cel → Bool) (k : Nat) : groC pos (k + 1) = movC (groC pos k) (!pos (movC (groC pos k) false)) := by
  unfold groC movC
  show (cn false (gro pos k ++ [_]), cn true (gro pos k ++ [_])) = _
  rw [cn_snoc, cn_snoc]
  show _ = if (!pos (cn false (gro pos k) + 1, cn true (gro pos k))) = true then _ else _
  cases pos (cn false (gro pos k) + 1, cn true (gro pos k)) <;> rfl
theorem movC_sum (c : Cel) (b : Bool) : (movC c b).1 + (movC c b).2 = c.1 + c.2 + 1 := by
  cases b
  · show (c.1 + 1) + c.2 = _; omega
  · show c.1 + (c.2 + 1) = _; omega
theorem badC_len {p : List Int} (h : p.length ≤ 8) : (badC p).length ≤ 64 := by
  have := flat_len (List.range p.length) (fun i => ((List.range p.length).filter fun j => decide (p.getD i 0 < p.getD j 0)).map fun j => (i, j)) 8 fun x _ => by
    rw [List.length_map]
    have := List.length_filter_le (fun j => decide (p.getD x 0 < p.getD j 0)) (List.range p.length)
    rw [List.length_range] at this
    omega
  rw [List.length_range] at this
  unfold badC
  omega
theorem groC_sum (pos : Cel → Bool) : ∀ k, (groC pos k).1 + (groC pos k).2 = k
  | 0 => rfl
  | k + 1 => by
    have := groC_sum pos k
    rw [groC_succ, movC_sum]
    omega
/-- the number of ways on from a cell, 0 outside -/
def wayN (bar : Nat → Nat → Bool) (n : Nat) (c : Cel) : Int := if c.1 ≤ n ∧ c.2 ≤ n then (wy bar n (n - c.1) (n - c.2) : Int) else 0
theorem wayF_cel (bar : Nat → Nat → Bool) (n : Nat) (c : Cel) : (wayF bar n (n + 1) 0 (c.1 : Int) (c.2 : Int)).getD (.int 0) = .int (wayN bar n c) := by
  unfold wayN
  by_cases h : c.1 ≤ n ∧ c.2 ≤ n
  · rw [if_pos h]
    have := wayF_get bar n (n + 1) 0 (a := n - c.1) (b := n - c.2) (by omega) (by omega) (.inl (by omega))
    rw [show (n : Int) - ((n - c.1 : Nat) : Int) = (c.1 : Int) by omega, show (n : Int) - ((n - c.2 : Nat) : Int) = (c.2 : Int) by omega] at this
    exact this
  · rw [if_neg h]
    exact wayF_out _ _ _ _ (by omega)
theorem wayN_pos (b : Bk) (L T G : Pr2) (P : Pln) (c : Cel) : decide (0 < wayN (barL L T G P b.2.length (badC (prL b))) b.2.length c) = wpos b L T G P c := by
  unfold wayN wpos
  by_cases h : c.1 ≤ b.2.length ∧ c.2 ≤ b.2.length
  · rw [if_pos h, decide_eq_true h, Bool.true_and]
    exact decide_eq_decide.mpr (by omega)
  · rw [if_neg h, decide_eq_false h, Bool.false_and]
    rfl
abbrev sp_order_followed (C : Addr) : Sp := PureSp (fun x : Bk × Pr2 × Pr2 × Pr2 × Pln => [isBk C x.1, da (p2D x.2.1), da (p2D x.2.2.1), da (p2D x.2.2.2.1), da (plnD x.2.2.2.2)]) (fun x => x.1.2.length ≤ 7 ∧ x.2.2.2.2.1.length = x.1.2.length ∧ x.2.2.2.2.2.length = x.1.2.length ∧ ∀ c ∈ badC (prL x.1), (!llB x.2.1 x.2.2.1 x.2.2.2.1 x.2.2.2.2 c && !tlB x.2.1 x.2.2.1 x.2.2.2.1 x.2.2.2.2 c) = false) (fun x => dS (ordS (foundO x.1 x.2.1 x.2.2.1 x.2.2.2.1 x.2.2.2.2)))
theorem jc_order_followed {Ps : List Sl} {E : XK} {tr : TA} (x : Bk × Pr2 × Pr2 × Pr2 × Pln) (h : JA tr Ps ([isBk C x.1, da (p2D x.2.1), da (p2D x.2.2.1), da (p2D x.2.2.2.1), da (plnD x.2.2.2.2)])) (hp : x.1.2.length ≤ 7 ∧ x.2.2.2.2.1.length = x.1.2.length ∧ x.2.2.2.2.2.length = x.1.2.length ∧ ∀ c ∈ badC (prL x.1), (!llB x.2.1 x.2.2.1 x.2.2.2.1 x.2.2.2.2 c && !tlB x.2.1 x.2.2.1 x.2.2.2.1 x.2.2.2.2 c) = false) : JE (tCall (sp_order_followed C) [] E tr) Ps (dS (ordS (foundO x.1 x.2.1 x.2.2.1 x.2.2.2.1 x.2.2.2.2))) := j_call x h hp
theorem cal_order_followed (D : Def1 K mg "order_followed" (topS 36)) (T : Top mg) (m_len : C8.Met P w K mg base 1 C "__len__" (spm_len C) []) (c_bad_cells : C8.Cal P w K mg base 2 "bad_cells" (sp_bad_cells C) []) (c_label_leaves : C8.Cal P w K mg base 1 "label_leaves" sp_label_leaves []) (c_till_leaves : C8.Cal P w K mg base 1 "till_leaves" sp_till_leaves []) (c_ways_on : C8.Cal P w K mg base 3 "ways_on" (sp_ways_on C) []) (c_moved_on : C8.Cal P w K mg base 1 "moved_on" sp_moved_on []) : C8.Cal P w K mg base 4 "order_followed" (sp_order_followed C) [] :=
  mkPure (N := ["book", "label", "till", "gap", "plan", "barred", "last", "one", "other", "ways", "cell", "found", "letter", "i", "j"]) (ps := ["book", "label", "till", "gap", "plan"]) (n := 10) D (C8.fnScope_by (by decide +kernel)) (fun _ _ _ _ _ _ us hl => match us, hl with | [_, _, _, _, _], _ => rfl) (fun _ => rfl) rfl fun f cdv A outer s H E hr => by
    have nd : (["book", "label", "till", "gap", "plan", "barred", "last", "one", "other", "ways", "cell", "found", "letter", "i", "j"] : List Str).Nodup := by decide +kernel
    have hu : (XX P w K mg base ["book", "label", "till", "gap", "plan", "barred", "last", "one", "other", "ways", "cell", "found", "letter", "i", "j"] "order_followed" (topS 36) f cdv A outer s H E).A.units + 1 < cLine := by have := hr.un; omega
    exact ⟨_, (pss_cons (ps_asg (pe_tup (pa_cons pe_dnewT (pa_cons (pe_op op_sub (pe_callB (call_lenOwn m_len hr (by decide)) (by rfl) T.len_ (by decide +kernel) (pa_cons (pv 0) pa_nil)) pe_int) pa_nil))) (pg_tup (n := 2) (by rfl) (pgs_cons (pg_name (i := 5) nd rfl (.inl rfl)) (pgs_cons (pg_name (i := 6) nd rfl (.inr rfl)) pgs_nil)))) (pss_cons (ps_for PassesOwn.never rfl (pi_list (C8.pe_c c_bad_cells hr (by decide) (by rfl) (pa_cons (pv 0) pa_nil))) (pg_tup (n := 2) (by rfl) (pgs_cons (pg_name (i := 7) nd rfl (.inl rfl)) (pgs_cons (pg_name (i := 8) nd rfl (.inr rfl)) pgs_nil))) (pss_one (ps_if (pt_val (C8.pe_c c_label_leaves hr (by decide) (by rfl) (pa_cons (pv 1) (pa_cons (pv 2) (pa_cons (pv 3) (pa_cons (pv 4) (pa_cons (pe_tup (pa_cons (pv 7) (pa_cons (pv 8) pa_nil))) pa_nil))))))) (pss_one (ps_expr (pe_bm PySem.F.plainAttrs_dict PySem.F.slot_dict_update PySem.F.type_dict_update (mt_upd hu) (pv 5) (pa_cons (pe_dc2 (own := [("i", 13), ("j", 14)]) (vs1 := [14]) rfl nd (pi_range1 (by rfl) T.range_ (pa_cons (pe_op op_add (pv 7) pe_int) pa_nil)) (blkOk_by (N := ["book", "label", "till", "gap", "plan", "barred", "last", "one", "other", "ways", "cell", "found", "letter", "i", "j"]) (sc := defScope (topS 36)) (by decide +kernel)) (by decide) (fun _ _ _ _ _ => (pg_name (i := 13) nd rfl (.inl rfl))) (fun _ _ _ _ _ => pts_nil) (fun _ _ _ _ _ => (pi_range2 (by rfl) T.range_ (pa_cons (pv 8) (pa_cons (pe_op op_add (pv 6) pe_int) pa_nil)))) (fun _ _ _ _ _ => (pg_name (i := 14) nd rfl (.inl rfl))) (fun _ _ _ _ _ => pts_nil) (fun _ _ _ _ _ => (pe_tup (pa_cons (pv 13) (pa_cons (pv 14) pa_nil)))) (fun _ _ _ _ _ => pe_bl) (fun _ _ _ _ _ => by have := hr.un; omega)) pa_nil)))) (pss_one (ps_if (pt_val (C8.pe_c c_till_leaves hr (by decide) (by rfl) (pa_cons (pv 1) (pa_cons (pv 2) (pa_cons (pv 3) (pa_cons (pv 4) (pa_cons (pe_tup (pa_cons (pv 7) (pa_cons (pv 8) pa_nil))) pa_nil))))))) (pss_one (ps_expr (pe_bm PySem.F.plainAttrs_dict PySem.F.slot_dict_update PySem.F.type_dict_update (mt_upd hu) (pv 5) (pa_cons (pe_dc2 (own := [("i", 13), ("j", 14)]) (vs1 := [14]) rfl nd (pi_range2 (by rfl) T.range_ (pa_cons (pv 7) (pa_cons (pe_op op_add (pv 6) pe_int) pa_nil))) (blkOk_by (N := ["book", "label", "till", "gap", "plan", "barred", "last", "one", "other", "ways", "cell", "found", "letter", "i", "j"]) (sc := defScope (topS 36)) (by decide +kernel)) (by decide) (fun _ _ _ _ _ => (pg_name (i := 13) nd rfl (.inl rfl))) (fun _ _ _ _ _ => pts_nil) (fun _ _ _ _ _ => (pi_range1 (by rfl) T.range_ (pa_cons (pe_op op_add (pv 8) pe_int) pa_nil))) (fun _ _ _ _ _ => (pg_name (i := 14) nd rfl (.inl rfl))) (fun _ _ _ _ _ => pts_nil) (fun _ _ _ _ _ => (pe_tup (pa_cons (pv 13) (pa_cons (pv 14) pa_nil)))) (fun _ _ _ _ _ => pe_bl) (fun _ _ _ _ _ => by have := hr.un; omega)) pa_nil)))) (pss_one ps_never)))))) (pss_cons (ps_par3 (by rfl) nd (i := 9) (j := 10) (l := 11) rfl rfl rfl (by decide) (by decide) (by decide) rfl rfl rfl (pa_cons (C8.pe_c c_ways_on hr (by decide) (by rfl) (pa_cons (pv 0) (pa_cons (pv 5) pa_nil))) (pa_cons (pe_tup (pa_cons pe_int (pa_cons pe_int pa_nil))) (pa_cons pe_str pa_nil))) (by rfl)) (pss_cons (ps_while PassesOwn.never (pt_cmpR op_lt (pe_callB call_lenX (by rfl) T.len_ (by decide +kernel) (pa_cons (pv 11) pa_nil)) (pe_op op_mul pe_int (pv 6)) (nomark _)) (pss_cons (ps_set (i := 12) nd rfl (.inl rfl) (pe_ifExp (pt_cmpR op_gt (pe_dget2 hu (pv 9) (C8.pe_c c_moved_on hr (by decide) (by rfl) (pa_cons (pv 10) (pa_cons pe_str pa_nil))) pe_int ⟨rfl, rfl, rfl, rfl⟩) pe_int (nomark _)) pe_str pe_str)) (pss_one (ps_par (by rfl) nd (i := 10) (j := 11) rfl rfl (by decide) rfl rfl (pa_cons (C8.pe_c c_moved_on hr (by decide) (by rfl) (pa_cons (pv 10) (pa_cons (pv 12) pa_nil))) (pa_cons (pe_op op_add_str (pv 11) (pv 12)) pa_nil)) (by rfl))))) (pss_one (ps_ret (pv 11))))))),
      fun ⟨b, L, T, G, Q⟩ ⟨hb, h1, h2, hs⟩ => by
        have hb : b.2.length ≤ 7 := hb
        have h1 : Q.1.length = b.2.length := h1
        have h2 : Q.2.length = b.2.length := h2
        have hs : ∀ c ∈ badC (prL b), (!llB L T G Q c && !tlB L T G Q c) = false := hs
        have hbl : ∀ c ∈ badC (prL b), c.1 ≤ b.2.length ∧ c.2 ≤ b.2.length := fun c hc => bad_le hc
        have hblen : (badC (prL b)).length ≤ 64 := badC_len (by rw [prL_len]; omega)
        obtain ⟨n, hn⟩ : ∃ n, n = b.2.length := ⟨_, rfl⟩
        rw [← hn] at hb h1 h2 hbl
        refine js_then (js_asgTN (is := [5, 6]) (ss := [.od 0 fun _ _ => none, .pl (dI (n : Int))]) (n := 2) (jax_cons jn_newD (jax_cons (jn_pl ((j_I0 (j_lenB b (j_var rfl) (by omega)) j_int).dat (e := .int (n : Int)) (by rw [hn, Int.natCast_add]; show PyData.int ((b.2.length : Int) + 1 - 1) = _; rw [Int.add_sub_cancel]))) jax_nil)) (by decide) rfl rfl (by decide)) ?_
        refine js_then (js_forI (jw_list (jc_bad_cells b (ja_cons (j_var rfl) ja_nil) (by show b.2.length ≤ 7; omega))) (fun i => [.pl (isBk C b), .pl (da (p2D L)), .pl (da (p2D T)), .pl (da (p2D G)), .pl (da (plnD Q)), .od (64 * i) (barF (barL L T G Q n ((badC (prL b)).take i))), .pl (dI (n : Int)), .no, .no, .no, .no, .no, .no, .no, .no]) (by rw [List.take_zero, barF_nil]; exact (by repeat first | exact True.intro | refine And.intro (Or.inr rfl) ?_ | refine And.intro (Or.inl rfl) ?_)) fun i d hd => ?_) ?_
        · rw [List.getElem?_map] at hd
          cases e : (badC (prL b))[i]? with
          | none => rw [e] at hd; cases hd
          | some c =>
            rw [e] at hd
            cases hd
            have hc := List.mem_of_getElem? e
            have hi : i < (badC (prL b)).length := (List.getElem?_eq_some_iff.mp e).1
            obtain ⟨hc1, hc2⟩ := hbl c hc
            have htake : (badC (prL b)).take (i + 1) = (badC (prL b)).take i ++ [c] := by rw [List.take_add_one, e]; rfl
            have args : JA (tCons (tVar 1) (tCons (tVar 2) (tCons (tVar 3) (tCons (tVar 4) (tCons (tTup (tCons (tVar 7) (tCons (tVar 8) tNil))) tNil))))) [.pl (isBk C b), .pl (da (p2D L)), .pl (da (p2D T)), .pl (da (p2D G)), .pl (da (plnD Q)), .od (64 * i) (barF (barL L T G Q n ((badC (prL b)).take i))), .pl (dI (n : Int)), .pl (dI (c.1 : Int)), .pl (dI (c.2 : Int)), .no, .no, .no, .no, .no, .no] [da (p2D L), da (p2D T), da (p2D G), da (plnD Q), da (celD c)] := ja_cons (j_var rfl) (ja_cons (j_var rfl) (ja_cons (j_var rfl) (ja_cons (j_var rfl) (ja_cons (j_tup (jd_cons (j_var rfl) (jd_cons (j_var rfl) jd_nil)) (by show 2 ≤ 100000; decide)) ja_nil))))
            refine ⟨[7, 8], [.int (c.1 : Int), .int (c.2 : Int)], tg_2, ?_⟩
            have fin : ∀ (done : List (Nat × Nat)), (∀ q, q ∈ done ↔ inBar L T G Q n c q = true) → ∀ Qs, Is (([.pl (isBk C b), .pl (da (p2D L)), .pl (da (p2D T)), .pl (da (p2D G)), .pl (da (plnD Q)), .od (64 * i) (barF (barL L T G Q n ((badC (prL b)).take i))), .pl (dI (n : Int)), .pl (dI (c.1 : Int)), .pl (dI (c.2 : Int)), .no, .no, .no, .no, .no, .no] : List Sl).set 5 (.od (64 * (i + 1)) fun x y => if ∃ q ∈ done, x = (q.1 : Int) ∧ y = (q.2 : Int) then some (.bl true) else barF (barL L T G Q n ((badC (prL b)).take i)) x y)) Qs → Wk (Is [.pl (isBk C b), .pl (da (p2D L)), .pl (da (p2D T)), .pl (da (p2D G)), .pl (da (plnD Q)), .od (64 * (i + 1)) (barF (barL L T G Q n ((badC (prL b)).take (i + 1)))), .pl (dI (n : Int)), .no, .no, .no, .no, .no, .no, .no, .no]) Qs := by
              intro done hm Rs q
              rw [barF_step L T G Q n _ c done hm, ← htake] at q
              exact ⟨_, q ▸ (by repeat first | exact True.intro | refine And.intro (Or.inr rfl) ?_ | refine And.intro (Or.inl rfl) ?_), rfl⟩
            refine js_if (b := llB L T G Q c) (jt_test (jc_label_leaves (L, T, G, Q, c) args (by show c.2 ≤ Q.2.length; omega))) (fun hl => ?_) fun hl => ?_
            · refine JS.imp (js_upd (n := 5) (m := 64 * i) (m' := 64 * (i + 1)) (done := llDone n c) rfl (jdt_dc2 (xs := List.range (c.1 + 1)) (ys := fun _ => (List.range (n + 1 - c.2)).map (c.2 + ·)) ((jw_rng1 (j := (c.1 : Int) + 1) (jd_cons (j_I0 (j_var rfl) j_int) jd_nil) (by omega)).is ?_) (by have := len_llDone (c := c) hb hc1; unfold llDone at this; omega) fun x hx => ⟨[13], [.int (x : Int)], tg_name, by simp, jt_yes, (jw_rng2 (i := (c.2 : Int)) (j := (n : Int) + 1) (jd_cons (j_var rfl) (jd_cons (j_I0 (j_var rfl) j_int) jd_nil)) (by omega) (by omega)).is ?_, fun y hy => ⟨[14], [.int (y : Int)], tg_name, by simp, jt_yes, j_tup (jd_cons (j_var rfl) (jd_cons (j_var rfl) jd_nil)) (by show 2 ≤ 100000; decide), j_bl⟩⟩) ?_ (by have := len_llDone (c := c) hb hc1; omega) (by omega)) (fin _ fun q => ?_)
              · rw [show ((c.1 : Int) + 1).toNat = c.1 + 1 by omega]; rfl
              · rw [show ((n : Int) + 1 - (c.2 : Int)).toNat = n + 1 - c.2 by omega]; exact irng_nats _ _
              · intro q hq
                have := mem_llDone.mp hq
                omega
              · rw [mem_llDone]
                unfold inBar
                rw [if_pos hl, decide_eq_true_eq]
            · refine js_if (b := true) ((jt_test (jc_till_leaves (L, T, G, Q, c) args (by show c.1 ≤ Q.1.length; omega))).is ?_) (fun _ => ?_) (fun z => nomatch z)
              · have := hs c hc
                rw [hl] at this
                simpa using this
              · refine JS.imp (js_upd (n := 5) (m := 64 * i) (m' := 64 * (i + 1)) (done := tlDone n c) rfl (jdt_dc2 (xs := (List.range (n + 1 - c.1)).map (c.1 + ·)) (ys := fun _ => List.range (c.2 + 1)) ((jw_rng2 (i := (c.1 : Int)) (j := (n : Int) + 1) (jd_cons (j_var rfl) (jd_cons (j_I0 (j_var rfl) j_int) jd_nil)) (by omega) (by omega)).is ?_) (by have := len_tlDone (c := c) hb hc2; unfold tlDone at this; omega) fun x hx => ⟨[13], [.int (x : Int)], tg_name, by simp, jt_yes, (jw_rng1 (j := (c.2 : Int) + 1) (jd_cons (j_I0 (j_var rfl) j_int) jd_nil) (by omega)).is ?_, fun y hy => ⟨[14], [.int (y : Int)], tg_name, by simp, jt_yes, j_tup (jd_cons (j_var rfl) (jd_cons (j_var rfl) jd_nil)) (by show 2 ≤ 100000; decide), j_bl⟩⟩) ?_ (by have := len_tlDone (c := c) hb hc2; omega) (by omega)) (fin _ fun q => ?_)
                · rw [show ((n : Int) + 1 - (c.1 : Int)).toNat = n + 1 - c.1 by omega]; exact irng_nats _ _
                · rw [show ((c.2 : Int) + 1).toNat = c.2 + 1 by omega]; rfl
                · intro q hq
                  have := mem_tlDone.mp hq
                  omega
                · rw [mem_tlDone]
                  unfold inBar
                  rw [if_neg (by rw [hl]; decide), decide_eq_true_eq]
        · rw [show ((badC (prL b)).map celD).length = (badC (prL b)).length from List.length_map .., List.take_length]
          refine js_freezeD (n := 5) rfl ?_
          let bar := barL L T G Q n (badC (prL b))
          let pos := wpos b L T G Q
          refine js_then (js_par3 (P1 := wayD bar n) (P2 := da (celD (0, 0))) (P3 := dS (ordS [])) (ja_cons ((jc_ways_on (b, bar) (ja_cons (j_var rfl) (ja_cons (j_var rfl) ja_nil)) (by show b.2.length ≤ 7; omega)).eq (by rw [hn])) (ja_cons (j_tup (jd_cons j_int (jd_cons j_int jd_nil)) (by show 2 ≤ 100000; decide)) (ja_cons (j_str.eq (by rw [← ordS_nil])) ja_nil)))) ?_
          refine js_seq (N' := Is [.pl (isBk C b), .pl (da (p2D L)), .pl (da (p2D T)), .pl (da (p2D G)), .pl (da (plnD Q)), .pl (isDT (barF bar)), .pl (dI (n : Int)), .no, .no, .pl (wayD bar n), .pl (da (celD (groC pos (2 * n)))), .pl (dS (ordS (gro pos (2 * n)))), .no, .no, .no]) (js_while (k := 2 * n) (fun k Qs => ∃ t, k = 2 * n - t ∧ t ≤ 2 * n ∧ Qs = [.pl (isBk C b), .pl (da (p2D L)), .pl (da (p2D T)), .pl (da (p2D G)), .pl (da (plnD Q)), .pl (isDT (barF bar)), .pl (dI (n : Int)), .no, .no, .pl (wayD bar n), .pl (da (celD (groC pos t))), .pl (dS (ordS (gro pos t))), .no, .no, .no]) ⟨_, (by repeat first | exact True.intro | refine And.intro (Or.inr rfl) ?_ | refine And.intro (Or.inl rfl) ?_), 0, rfl, Nat.zero_le _, rfl⟩ fun k Qs hQ => ?_) fun Qs q => ?_
          · obtain ⟨t, rfl, ht, rfl⟩ := hQ
            refine ⟨decide (t < 2 * n), (jt_test (j_B0 (j_lenS (z := ordS (gro pos t)) (j_var rfl) (by rw [ordS_len, gro_len]; omega)) (j_I j_int (j_var rfl) (by unfold CMul; omega)))).is ?_, fun h => ?_, fun h => ?_⟩
            · rw [ordS_len, gro_len]
              exact decide_eq_decide.mpr (by omega)
            · have h := of_decide_eq_true h
              refine js_then (js_asg (j_if (b := pos (movC (groC pos t) false)) (P := dS (letS (!pos (movC (groC pos t) false)))) ((jt_test (j_B0 (j_dget2 (n := 9) (k := 0) (g := wayN bar n (movC (groC pos t) false)) (i := ((movC (groC pos t) false).1 : Int)) (j := ((movC (groC pos t) false).2 : Int)) (f := wayF bar n (n + 1) 0) (.inl rfl) (jc_moved_on (groC pos t, false) (ja_cons (j_var rfl) (ja_cons (j_str.eq (by rw [L_is])) ja_nil)) trivial) j_int (wayF_cel bar n _)) j_int)).is ?_) (fun hp => j_str.eq (by rw [hp]; rfl)) fun hp => j_str.eq (by rw [hp]; rfl))) ?_
              · have := wayN_pos b L T G Q (movC (groC pos t) false)
                rw [← hn] at this
                exact this
              · refine (js_par (P1 := da (celD (groC pos (t + 1)))) (P2 := dS (ordS (gro pos (t + 1)))) (ja_cons ((jc_moved_on (groC pos t, !pos (movC (groC pos t) false)) (ja_cons (j_var rfl) (ja_cons (j_var rfl) ja_nil)) trivial).dat (by rw [groC_succ])) (ja_cons ((j_catS (j_var rfl) (j_var rfl) ?_).eq ?_) ja_nil))).imp fun Rs q => ⟨_, q ▸ (by repeat first | exact True.intro | refine And.intro (Or.inr rfl) ?_ | refine And.intro (Or.inl rfl) ?_), 2 * n - (t + 1), by omega, t + 1, rfl, by omega, rfl⟩
                · rw [ordS_len, gro_len]
                  show t + 1 ≤ 100000
                  omega
                · rw [letS_ord, cat_ord]
                  rfl
            · have h := of_decide_eq_false h
              have : t = 2 * n := by omega
              subst this
              rfl
          · cases q
            refine (js_ret (j_var rfl)).out ?_
            show _ = dS (ordS (foundO b L T G Q))
            unfold foundO
            rw [← hn]⟩
end
end LK
/-! text M2 -/
namespace LK
open PySem PySem.Spec PyProof.Rows L2
/-! ### paths by ways on -/
theorem celAt_le (o : Ord) (k : Nat) : (celAt o k).1 ≤ cn false o ∧ (celAt o k).2 ≤ cn true o := ⟨cn_take_le false o k, cn_take_le true o k⟩
theorem wy_of_path {bar : Nat → Nat → Bool} {n : Nat} {o : Ord} (h1 : cn false o = n) (h2 : cn true o = n) (hb : ∀ k ≤ o.length, bar (celAt o k).1 (celAt o k).2 = false) : ∀ j k, k + j = o.length → 0 < wy bar n (n - (celAt o k).1) (n - (celAt o k).2)
  | 0, k, hk => by
    have e1 : (celAt o k).1 = n := by unfold celAt; rw [List.take_of_length_le (by omega)]; exact h1
    have e2 : (celAt o k).2 = n := by unfold celAt; rw [List.take_of_length_le (by omega)]; exact h2
    have := hb k (by omega)
    rw [e1, e2] at this
    rw [e1, e2, Nat.sub_self, wy_00 this]
    decide
  | j + 1, k, hk => by
    have e : o[k]? = some o[k] := List.getElem?_eq_getElem (by omega)
    have ih := wy_of_path h1 h2 hb j (k + 1) (by omega)
    have hs := celAt_succ e
    have hl := celAt_le o (k + 1)
    have hl0 := celAt_le o k
    rw [h1, h2] at hl hl0
    have hbk := hb k (by omega)
    have hb' : bar (n - (n - (celAt o k).1)) (n - (n - (celAt o k).2)) = false := by
      rw [show n - (n - (celAt o k).1) = (celAt o k).1 by omega, show n - (n - (celAt o k).2) = (celAt o k).2 by omega]
      exact hbk
    cases eb : o[k] with
    | false =>
      rw [eb] at hs
      have q1 : (celAt o (k + 1)).1 = (celAt o k).1 + 1 := by rw [hs]; rfl
      have q2 : (celAt o (k + 1)).2 = (celAt o k).2 := by rw [hs]; rfl
      rw [q1, q2] at ih
      rw [q1] at hl
      rw [wy_else hb' (by omega), if_neg (by omega), show n - (celAt o k).1 - 1 = n - ((celAt o k).1 + 1) by omega]
      omega
    | true =>
      rw [eb] at hs
      have q1 : (celAt o (k + 1)).1 = (celAt o k).1 := by rw [hs]; rfl
      have q2 : (celAt o (k + 1)).2 = (celAt o k).2 + 1 := by rw [hs]; rfl
      rw [q1, q2] at ih
      rw [q2] at hl
      rw [wy_else hb' (by omega), if_neg (show ¬ n - (celAt o k).2 = 0 by omega), show n - (celAt o k).2 - 1 = n - ((celAt o k).2 + 1) by omega]
      omega
theorem wy_free {bar : Nat → Nat → Bool} {n : Nat} {c : Cel} (h1 : c.1 ≤ n) (h2 : c.2 ≤ n) (h : 0 < wy bar n (n - c.1) (n - c.2)) : bar c.1 c.2 = false := by
  cases e : bar c.1 c.2 with
  | false => rfl
  | true =>
    have e' : bar (n - (n - c.1)) (n - (n - c.2)) = true := by rw [show n - (n - c.1) = c.1 by omega, show n - (n - c.2) = c.2 by omega]; exact e
    rw [wy_bar e'] at h
    omega
/-- is a cell in the frame and are there ways on -/
def posW (bar : Nat → Nat → Bool) (n : Nat) (c : Cel) : Prop := c.1 ≤ n ∧ c.2 ≤ n ∧ 0 < wy bar n (n - c.1) (n - c.2)
theorem posW_next {bar : Nat → Nat → Bool} {n : Nat} {c : Cel} (h : posW bar n c) (hs : c.1 + c.2 < 2 * n) : posW bar n (movC c false) ∨ posW bar n (movC c true) := by
  obtain ⟨h1, h2, h3⟩ := h
  have hf := wy_free h1 h2 h3
  have hb' : bar (n - (n - c.1)) (n - (n - c.2)) = false := by
    rw [show n - (n - c.1) = c.1 by omega, show n - (n - c.2) = c.2 by omega]
    exact hf
  rw [wy_else hb' (by omega)] at h3
  by_cases z1 : n - c.1 = 0
  · rw [if_pos z1] at h3
    have z2 : ¬ n - c.2 = 0 := by omega
    rw [if_neg z2] at h3
    exact .inr ⟨h1, by show c.2 + 1 ≤ n; omega, by show 0 < wy bar n (n - c.1) (n - (c.2 + 1)); rw [show n - (c.2 + 1) = n - c.2 - 1 by omega]; omega⟩
  · rw [if_neg z1] at h3
    by_cases z3 : 0 < wy bar n (n - c.1 - 1) (n - c.2)
    · exact .inl ⟨by show c.1 + 1 ≤ n; omega, h2, by show 0 < wy bar n (n - (c.1 + 1)) (n - c.2); rw [show n - (c.1 + 1) = n - c.1 - 1 by omega]; exact z3⟩
    · by_cases z2 : n - c.2 = 0
      · rw [if_pos z2] at h3
        omega
      · rw [if_neg z2] at h3
        exact .inr ⟨h1, by show c.2 + 1 ≤ n; omega, by show 0 < wy bar n (n - c.1) (n - (c.2 + 1)); rw [show n - (c.2 + 1) = n - c.2 - 1 by omega]; omega⟩
theorem good_of_pos {b : Bk} {o : Ord} {bar : Nat → Nat → Bool} (hl : o.length = 2 * b.2.length) (hb : ∀ c ∈ badC (prL b), bar c.1 c.2 = true) (h : ∀ k ≤ o.length, posW bar b.2.length (celAt o k)) : Good b o := by
  have he := h o.length (Nat.le_refl _)
  have e0 : celAt o o.length = (cn false o, cn true o) := by unfold celAt; rw [List.take_length]
  have ht := cn_total o o.length (Nat.le_refl _)
  rw [List.take_length] at ht
  rw [e0] at he
  obtain ⟨g1, g2, _⟩ := he
  have g1 : cn false o ≤ b.2.length := g1
  have g2 : cn true o ≤ b.2.length := g2
  refine ⟨hl, by omega, by omega, fun k hk c hc e => ?_⟩
  obtain ⟨p1, p2, p3⟩ := h k hk
  have := wy_free p1 p2 p3
  rw [e, hb c hc] at this
  cases this
theorem pos_of_good {b : Bk} {o : Ord} {bar : Nat → Nat → Bool} (g : Good b o) (hb : ∀ k ≤ o.length, bar (celAt o k).1 (celAt o k).2 = false) (k : Nat) (hk : k ≤ o.length) : posW bar b.2.length (celAt o k) := by
  have := celAt_le o k
  rw [g.cl, g.ct] at this
  exact ⟨this.1, this.2, wy_of_path g.cl g.ct hb (o.length - k) k (by omega)⟩
/-! ### label first, told by cells -/
theorem lfE_eq {b : Bk} {o : Ord} {c : Cel} (g : Good b o) (hc : c ∈ badC (prL b)) : (decide (0 < ((celsOf o).filter fun d => decide (d.2 < c.2) && decide (c.1 < d.1)).length)) = lfB o c := by
  have hl := bad_le hc
  rw [Bool.eq_iff_iff, decide_eq_true_eq, List.length_pos_iff_exists_mem, lf_iff]
  constructor
  · rintro ⟨d, hd⟩
    obtain ⟨h1, h2⟩ := List.mem_filter.mp hd
    rw [Bool.and_eq_true, decide_eq_true_eq, decide_eq_true_eq] at h2
    obtain ⟨k, hk, rfl⟩ := List.mem_map.mp h1
    have hk := List.mem_range.mp hk
    have h0 : 0 < c.2 := by omega
    have hq : c.2 ≤ cn true o := by rw [g.ct]; exact hl.2
    obtain ⟨l1, l2⟩ := place_lt (show 1 ≤ c.2 from h0) hq
    have l3 := place_cn (show 1 ≤ c.2 from h0) hq
    have l4 := cn_at l2
    have hle : k ≤ place o true c.2 := by
      rcases Nat.lt_or_ge (place o true c.2) k with z | z
      · have := cn_mono true o (show place o true c.2 + 1 ≤ k from z)
        have h3 : cn true (o.take k) < c.2 := h2.1
        omega
      · exact z
    have := cn_mono false o hle
    have h4 : c.1 < cn false (o.take k) := h2.2
    exact ⟨h0, by omega⟩
  · rintro ⟨h0, h1⟩
    have hq : c.2 ≤ cn true o := by rw [g.ct]; exact hl.2
    obtain ⟨l1, l2⟩ := place_lt (show 1 ≤ c.2 from h0) hq
    have l3 := place_cn (show 1 ≤ c.2 from h0) hq
    refine ⟨celAt o (place o true c.2), List.mem_filter.mpr ⟨List.mem_map.mpr ⟨_, List.mem_range.mpr (by omega), rfl⟩, ?_⟩⟩
    rw [Bool.and_eq_true, decide_eq_true_eq, decide_eq_true_eq]
    exact ⟨by show cn true (o.take (place o true c.2)) < c.2; omega, h1⟩
end LK
/-! text W7 -/
namespace LK
open PySem PySem.Spec PyProof.Rows L2
section
variable {P : Program} {w : World} {K : PySem.W.Frag} {mg : Str → Option Value} {base : Heap} {C : Addr}
def frcsD (fs : List Frc) : PyData := .list (fs.map fun f => .list (frcD f))
theorem frcD_put (fs : List Frc) (h : Nat) (x : Nat × Int) : (fs.map frcD).set h (frcD (fs.getD h []) ++ [.tuple [.int (x.1 : Int), .int x.2]]) = (putF2 fs h x).map frcD := by
  unfold putF2
  rw [List.map_set]
  congr 1
  unfold frcD
  rw [List.map_append]
  rfl
theorem atI_code {o : Ord} {s : Nat} {b : Bool} (h : o[s]? = some b) : atI (ordS o).cps.toList (s : Int) = some (code b) := by
  refine atI_get ?_
  rw [ordS_cps, List.getElem?_map, h]
  rfl
theorem ord_enc {o : Ord} {i : Nat} {d : PyData} (h : (prs (irng (ordS o).cps.size fun i => (i : Int)) ((ordS o).cps.toList.map sgn))[i]? = some d) : ∃ b, o[i]? = some b ∧ d = .tuple [.int (i : Int), .str (letS b)] := by
  rw [prs_enum, List.getElem?_map] at h
  cases e : (List.range o.length)[i]? with
  | none => rw [e] at h; cases h
  | some k =>
    rw [e] at h
    cases h
    obtain ⟨hi, hk⟩ := List.getElem?_eq_some_iff.mp e
    rw [List.getElem_range] at hk
    subst hk
    rw [List.length_range] at hi
    refine ⟨o[i], List.getElem?_eq_getElem hi, ?_⟩
    unfold encS
    rw [List.getD_eq_getElem?_getD, List.getElem?_eq_getElem hi]
    rfl
theorem foldF_glen (L T G : Pr2) (o : Ord) (h : Nat) : ∀ (l : List Cel) (fs : List Frc), (∀ c ∈ l, hereF o c < fs.length) → ((foldF L T G o l fs).getD h []).length ≤ (fs.getD h []).length + l.length
  | [], fs, _ => Nat.le_refl _
  | c :: l, fs, hl => by
    show ((foldF L T G o l (putF2 fs (hereF o c) (thereF L T G o c))).getD h []).length ≤ _
    have := foldF_glen L T G o h l (putF2 fs (hereF o c) (thereF L T G o c)) fun x hx => by rw [putF2_len]; exact hl x (List.mem_cons_of_mem _ hx)
    rw [putF2_get _ _ _ (hl c List.mem_cons_self)] at this
    rw [List.length_cons]
    split at this
    · rw [List.length_append, List.length_singleton] at this
      omega
    · omega
theorem prs_enum_len (o : Ord) : (prs (irng (ordS o).cps.size fun i => (i : Int)) ((ordS o).cps.toList.map sgn)).length = o.length := by rw [prs_enum, List.length_map, List.length_range]
abbrev sp_forces (C : Addr) : Sp := PureSp (fun x : Bk × Pr2 × Pr2 × Pr2 × Ord => [isBk C x.1, da (p2D x.2.1), da (p2D x.2.2.1), da (p2D x.2.2.2.1), dS (ordS x.2.2.2.2)]) (fun x => x.1.2.length ≤ 7 ∧ goodB x.1 x.2.2.2.2 = true) (fun x => da (frcsD (frcs x.1 x.2.1 x.2.2.1 x.2.2.2.1 x.2.2.2.2)))
theorem jc_forces {Ps : List Sl} {E : XK} {tr : TA} (x : Bk × Pr2 × Pr2 × Pr2 × Ord) (h : JA tr Ps ([isBk C x.1, da (p2D x.2.1), da (p2D x.2.2.1), da (p2D x.2.2.2.1), dS (ordS x.2.2.2.2)])) (hp : x.1.2.length ≤ 7 ∧ goodB x.1 x.2.2.2.2 = true) : JE (tCall (sp_forces C) [] E tr) Ps (da (frcsD (frcs x.1 x.2.1 x.2.2.1 x.2.2.2.1 x.2.2.2.2))) := j_call x h hp
theorem cal_forces (D : Def1 K mg "forces" (topS 38)) (T : Top mg) (c_bad_cells : C8.Cal P w K mg base 2 "bad_cells" (sp_bad_cells C) []) (c_label_first : C8.Cal P w K mg base 2 "label_first" sp_label_first []) (c_place_of : C8.Cal P w K mg base 1 "place_of" sp_place_of []) : C8.Cal P w K mg base 3 "forces" (sp_forces C) [] :=
  mkPure (N := ["book", "label", "till", "gap", "order", "found", "at", "letter", "one", "other", "here", "there", "spot"]) (ps := ["book", "label", "till", "gap", "order"]) (n := 8) D (C8.fnScope_by (by decide +kernel)) (fun _ _ _ _ _ _ us hl => match us, hl with | [_, _, _, _, _], _ => rfl) (fun _ => rfl) rfl fun f cdv A outer s H E hr => by
    have nd : (["book", "label", "till", "gap", "order", "found", "at", "letter", "one", "other", "here", "there", "spot"] : List Str).Nodup := by decide +kernel
    have hu : (XX P w K mg base ["book", "label", "till", "gap", "order", "found", "at", "letter", "one", "other", "here", "there", "spot"] "forces" (topS 38) f cdv A outer s H E).A.units + 1 < cLine := by have := hr.un; omega
    exact ⟨_, (pss_cons (ps_set (i := 5) nd rfl (.inl rfl) (pe_lst pa_nil)) (pss_cons (ps_for PassesOwn.never rfl (pi_enumS (by rfl) T.enumerate_ (pa_cons (pv 4) pa_nil)) (pg_tup (n := 2) (by rfl) (pgs_cons (pg_name (i := 6) nd rfl (.inl rfl)) (pgs_cons (pg_name (i := 7) nd rfl (.inr rfl)) pgs_nil))) (pss_one (ps_expr (pe_bm PySem.F.plainAttrs_list PySem.F.slot_list_append PySem.F.type_list_append mt_append (pv 5) (pa_cons (pe_lc (own := [("spot", 12)]) rfl nd (pi_range1 (by rfl) T.range_ (pa_cons (pv 6) pa_nil)) (blkOk_by (N := ["book", "label", "till", "gap", "order", "found", "at", "letter", "one", "other", "here", "there", "spot"]) (sc := defScope (topS 38)) (by decide +kernel)) (fun _ _ _ _ _ => (pg_name (i := 12) nd rfl (.inl rfl))) (fun _ _ _ _ _ => pts_one (pt_cmpR op_eq (pe_ix ix_seqB (pv 4) (pv 12) (fun _ _ => rfl)) (pv 7) (nomark _))) (fun _ _ _ _ _ => (pe_tup (pa_cons (pv 12) (pa_cons pe_int pa_nil))))) pa_nil))))) (pss_cons (ps_for PassesOwn.never rfl (pi_list (C8.pe_c c_bad_cells hr (by decide) (by rfl) (pa_cons (pv 0) pa_nil))) (pg_tup (n := 2) (by rfl) (pgs_cons (pg_name (i := 8) nd rfl (.inl rfl)) (pgs_cons (pg_name (i := 9) nd rfl (.inl rfl)) pgs_nil))) (pss_one (ps_if (pt_val (C8.pe_c c_label_first hr (by decide) (by rfl) (pa_cons (pv 4) (pa_cons (pe_tup (pa_cons (pv 8) (pa_cons (pv 9) pa_nil))) pa_nil)))) (pss_cons (ps_par (by rfl) nd (i := 10) (j := 11) rfl rfl (by decide) rfl rfl (pa_cons (C8.pe_c c_place_of hr (by decide) (by rfl) (pa_cons (pv 4) (pa_cons pe_str (pa_cons (pv 9) pa_nil)))) (pa_cons (C8.pe_c c_place_of hr (by decide) (by rfl) (pa_cons (pv 4) (pa_cons pe_str (pa_cons (pe_op op_add (pv 8) pe_int) pa_nil)))) pa_nil)) (by rfl)) (pss_one (ps_expr (pe_bm PySem.F.plainAttrs_list PySem.F.slot_list_append PySem.F.type_list_append mt_append (pe_ix ix_seq (pv 5) (pv 10) (fun _ _ => rfl)) (pa_cons (pe_tup (pa_cons (pv 11) (pa_cons (pe_op op_add (pe_op op_sub (pe_op op_add (pe_ix ix_seq (pv 1) pe_int (fun _ _ => rfl)) (pe_ix ix_seq (pv 3) pe_int (fun _ _ => rfl))) (pe_ix ix_seq (pv 2) pe_int (fun _ _ => rfl))) pe_int) pa_nil))) pa_nil))))) (pss_cons (ps_par (by rfl) nd (i := 10) (j := 11) rfl rfl (by decide) rfl rfl (pa_cons (C8.pe_c c_place_of hr (by decide) (by rfl) (pa_cons (pv 4) (pa_cons pe_str (pa_cons (pv 8) pa_nil)))) (pa_cons (C8.pe_c c_place_of hr (by decide) (by rfl) (pa_cons (pv 4) (pa_cons pe_str (pa_cons (pe_op op_add (pv 9) pe_int) pa_nil)))) pa_nil)) (by rfl)) (pss_one (ps_expr (pe_bm PySem.F.plainAttrs_list PySem.F.slot_list_append PySem.F.type_list_append mt_append (pe_ix ix_seq (pv 5) (pv 10) (fun _ _ => rfl)) (pa_cons (pe_tup (pa_cons (pv 11) (pa_cons (pe_op op_add (pe_op op_sub (pe_op op_sub (pe_ix ix_seq (pv 2) pe_int (fun _ _ => rfl)) (pe_ix ix_seq (pv 1) pe_int (fun _ _ => rfl))) (pe_ix ix_seq (pv 3) pe_int (fun _ _ => rfl))) pe_int) pa_nil))) pa_nil)))))))) (pss_one (ps_ret (pv 5)))))),
      fun ⟨b, L, T, G, o⟩ ⟨hb, hg⟩ => by
        have hb : b.2.length ≤ 7 := hb
        have g : Good b o := good_iff.mp hg
        have ho : o.length ≤ 14 := by rw [g.len]; omega
        refine js_then js_newLL0 (js_seq (js_for (jw_enumS (z := ordS o) (j_var rfl)) (fun i Qs => ∃ as : List Addr, as.length = i ∧ Qs = [.pl (isBk C b), .pl (da (p2D L)), .pl (da (p2D T)), .pl (da (p2D G)), .pl (dS (ordS o)), .ll false as (((baseF o).take i).map frcD), .no, .no, .no, .no, .no, .no, .no]) ⟨_, (by repeat first | exact True.intro | refine And.intro (Or.inr rfl) ?_ | refine And.intro (Or.inl rfl) ?_), [], rfl, rfl⟩ fun i d Qs hd hQ => ?_) fun Qs hQ => ?_)
        · obtain ⟨as, hl, rfl⟩ := hQ
          obtain ⟨x, hx, rfl⟩ := ord_enc hd
          have hi : i < o.length := (List.getElem?_eq_some_iff.mp hx).1
          refine ⟨[6, 7], [.int (i : Int), .str (letS x)], tg_2, ?_⟩
          refine (js_appLL (m := 5) (as := as) (ds := frcD (((List.range i).filter fun s => decide (o[s]? = o[i]?)).map fun s => (s, 0))) rfl ?_ (by omega)).imp fun Rs hR => ?_
          · have e : frcD (((List.range i).filter fun s => decide (o[s]? = o[i]?)).map fun s => (s, 0)) = ((List.range i).filter fun s => decide (o[s]? = o[i]?)).map fun s : Nat => PyData.tuple [.int (s : Int), .int 0] := by unfold frcD; rw [List.map_map]; rfl
            rw [e]
            refine jn_lc (xs := List.range i) (enc := fun s : Nat => .int (s : Int)) (v := fun s : Nat => .tuple [.int (s : Int), .int 0]) (f := fun s => decide (o[s]? = o[i]?)) ((jw_rng1 (j := (i : Int)) (jd_cons (j_var rfl) jd_nil) (by omega)).is (by rw [Int.toNat_natCast]; rfl)) (by rw [List.length_range]; omega) fun s hs => ⟨[12], [.int (s : Int)], tg_name, by simp, ?_, fun _ => j_tup (jd_cons (j_var rfl) (jd_cons j_int jd_nil)) (by show 2 ≤ 100000; decide)⟩
            have hs := List.mem_range.mp hs
            have es : o[s]? = some (o[s]'(by omega)) := List.getElem?_eq_getElem (by omega)
            refine (jt_test (j_eqS (j_ixS (z := ordS o) (i := (s : Int)) (j_var rfl) (j_var rfl) (atI_code es) (by rw [ordS_len]; omega)) (j_var rfl))).is ?_
            refine decide_eq_decide.mpr ?_
            show letS _ = letS x ↔ _
            rw [letS_eq, es, hx]
            exact ⟨fun h => by rw [h], fun h => by injection h⟩
          · obtain ⟨a, _, rfl⟩ := hR
            refine ⟨_, ?_, as ++ [a], by rw [List.length_append, hl]; rfl, rfl⟩
            rw [show (baseF o).take (i + 1) = (baseF o).take i ++ [((List.range i).filter fun s => decide (o[s]? = o[i]?)).map fun s => (s, 0)] by
              rw [List.take_add_one]
              unfold baseF
              rw [List.getElem?_map, List.getElem?_range hi]
              rfl, List.map_append]
            exact (by repeat first | exact True.intro | refine And.intro (Or.inr rfl) ?_ | refine And.intro (Or.inl rfl) ?_)
        · obtain ⟨as, hl, rfl⟩ := hQ
          rw [prs_enum_len, List.take_of_length_le (by rw [baseF_len]; omega)]
          refine js_seq (js_forI (jw_list (jc_bad_cells b (ja_cons (j_var rfl) ja_nil) hb)) (fun i => [.pl (isBk C b), .pl (da (p2D L)), .pl (da (p2D T)), .pl (da (p2D G)), .pl (dS (ordS o)), .ll false as ((foldF L T G o ((badC (prL b)).take i) (baseF o)).map frcD), .no, .no, .no, .no, .no, .no, .no]) (by repeat first | exact True.intro | refine And.intro (Or.inr rfl) ?_ | refine And.intro (Or.inl rfl) ?_) fun i d hd => ?_) fun Qs hQ => ?_
          · rw [List.getElem?_map] at hd
            cases e : (badC (prL b))[i]? with
            | none => rw [e] at hd; cases hd
            | some c =>
              rw [e] at hd
              cases hd
              have hc := List.mem_of_getElem? e
              have hle := bad_le hc
              have hh := here_lt (L := L) (T := T) (G := G) g hc
              have hfl : (foldF L T G o ((badC (prL b)).take i) (baseF o)).length = o.length := by rw [foldF_len, baseF_len]
              have hget : ((foldF L T G o ((badC (prL b)).take i) (baseF o)).map frcD)[hereF o c]? = some (frcD ((foldF L T G o ((badC (prL b)).take i) (baseF o)).getD (hereF o c) [])) := by
                rw [List.getElem?_map, List.getElem?_eq_getElem (by omega), List.getD_eq_getElem?_getD, List.getElem?_eq_getElem (by omega)]
                rfl
              have hstep : foldF L T G o ((badC (prL b)).take (i + 1)) (baseF o) = putF2 (foldF L T G o ((badC (prL b)).take i) (baseF o)) (hereF o c) (thereF L T G o c) := by
                rw [List.take_add_one, e]
                unfold foldF
                rw [List.foldl_append]
                rfl
              have hzz : ∀ x : List PyData, x.length < 100000 ∨ 100000 ≤ x.length := fun x => Nat.lt_or_ge _ _
              have hfin : ∀ (y z : PyData) Rs, Is (([.pl (isBk C b), .pl (da (p2D L)), .pl (da (p2D T)), .pl (da (p2D G)), .pl (dS (ordS o)), .ll false as ((foldF L T G o ((badC (prL b)).take i) (baseF o)).map frcD), .no, .no, .pl (da (.int (c.1 : Int))), .pl (da (.int (c.2 : Int))), .pl (da y), .pl (da z), .no] : List Sl).set 5 (.ll false as (((foldF L T G o ((badC (prL b)).take i) (baseF o)).map frcD).set (hereF o c) (frcD ((foldF L T G o ((badC (prL b)).take i) (baseF o)).getD (hereF o c) []) ++ [.tuple [.int ((thereF L T G o c).1 : Int), .int (thereF L T G o c).2]])))) Rs → Wk (Is [.pl (isBk C b), .pl (da (p2D L)), .pl (da (p2D T)), .pl (da (p2D G)), .pl (dS (ordS o)), .ll false as ((foldF L T G o ((badC (prL b)).take (i + 1)) (baseF o)).map frcD), .no, .no, .no, .no, .no, .no, .no]) Rs := fun y z Rs q => by
                rw [frcD_put, ← hstep] at q
                exact ⟨_, q ▸ (by repeat first | exact True.intro | refine And.intro (Or.inr rfl) ?_ | refine And.intro (Or.inl rfl) ?_), rfl⟩
              have hsz : (frcD ((foldF L T G o ((badC (prL b)).take i) (baseF o)).getD (hereF o c) [])).length < 100000 := by
                have h1 := foldF_glen L T G o (hereF o c) ((badC (prL b)).take i) (baseF o) fun x hx => by rw [baseF_len]; exact (here_lt (L := L) (T := T) (G := G) g (List.mem_of_mem_take hx)).1
                have h2 : ((badC (prL b)).take i).length ≤ 64 := Nat.le_trans (by rw [List.length_take]; omega) (badC_len (p := prL b) (by rw [prL_len]; omega))
                rw [baseF_get o hh.1, List.length_map] at h1
                have h3 := List.length_filter_le (fun s => decide (o[s]? = o[hereF o c]?)) (List.range (hereF o c))
                rw [List.length_range] at h3
                unfold frcD
                rw [List.length_map]
                omega
              refine ⟨[8, 9], [.int (c.1 : Int), .int (c.2 : Int)], tg_2, ?_⟩
              refine js_if (b := lfB o c) (jt_test (jc_label_first (o, c) (ja_cons (j_var rfl) (ja_cons (j_tup (jd_cons (j_var rfl) (jd_cons (j_var rfl) jd_nil)) (by show 2 ≤ 100000; decide)) ja_nil)) ⟨by show c.2 ≤ cn true o; rw [g.ct]; omega, by show o.length ≤ 1000; omega⟩)) (fun hlf => ?_) fun hlf => ?_
              · obtain ⟨q1, q2, q3, q4⟩ := lf_pos g hc hlf
                have eh : hereF o c = place o true c.2 := by unfold hereF; rw [if_pos hlf]
                have et : thereF L T G o c = (place o false (c.1 + 1), L.2 + G.2 - T.1 + 1) := by unfold thereF; rw [if_pos hlf]
                refine js_then (js_par (P1 := dI (hereF o c : Int)) (P2 := dI (place o false (c.1 + 1) : Int)) (ja_cons ((jc_place_of (o, true, c.2) (ja_cons (j_var rfl) (ja_cons (j_str.eq (by rw [T_is])) (ja_cons (j_var rfl) ja_nil))) ⟨q1, by show c.2 ≤ cn true o; rw [g.ct]; exact q2, by show o.length ≤ 1000; omega⟩).eq (by rw [eh])) (ja_cons (jc_place_of (o, false, c.1 + 1) (ja_cons (j_var rfl) (ja_cons (j_str.eq (by rw [L_is])) (ja_cons ((j_I0 (j_var rfl) j_int).dat (by show PyData.int ((c.1 : Int) + 1) = .int ((c.1 + 1 : Nat) : Int); rw [Int.natCast_add]; rfl)) ja_nil))) ⟨by show 1 ≤ c.1 + 1; omega, by show c.1 + 1 ≤ cn false o; rw [g.cl]; exact q3, by show o.length ≤ 1000; omega⟩) ja_nil))) ?_
                refine (js_appIn (m := 5) (j := hereF o c) (as := as) rfl (j_var rfl) hget ((j_tup (jd_cons (j_var rfl) (jd_cons (j_I0 (j_I0 (j_I0 (j_ixT (j_var rfl) j_int rfl) (j_ixT (j_var rfl) j_int rfl)) (j_ixT (j_var rfl) j_int rfl)) j_int) jd_nil)) (by show 2 ≤ 100000; decide)).dat (e := .tuple [.int ((thereF L T G o c).1 : Int), .int (thereF L T G o c).2]) (by rw [et])) hsz).imp (hfin _ _)
              · obtain ⟨q1, q2, q3, q4⟩ := tf_pos g hc hlf
                have eh : hereF o c = place o false c.1 := by unfold hereF; rw [if_neg (by rw [hlf]; decide)]
                have et : thereF L T G o c = (place o true (c.2 + 1), T.2 - L.1 - G.1 + 1) := by unfold thereF; rw [if_neg (by rw [hlf]; decide)]
                refine js_then (js_par (P1 := dI (hereF o c : Int)) (P2 := dI (place o true (c.2 + 1) : Int)) (ja_cons ((jc_place_of (o, false, c.1) (ja_cons (j_var rfl) (ja_cons (j_str.eq (by rw [L_is])) (ja_cons (j_var rfl) ja_nil))) ⟨q1, by show c.1 ≤ cn false o; rw [g.cl]; exact q2, by show o.length ≤ 1000; omega⟩).eq (by rw [eh])) (ja_cons (jc_place_of (o, true, c.2 + 1) (ja_cons (j_var rfl) (ja_cons (j_str.eq (by rw [T_is])) (ja_cons ((j_I0 (j_var rfl) j_int).dat (by show PyData.int ((c.2 : Int) + 1) = .int ((c.2 + 1 : Nat) : Int); rw [Int.natCast_add]; rfl)) ja_nil))) ⟨by show 1 ≤ c.2 + 1; omega, by show c.2 + 1 ≤ cn true o; rw [g.ct]; exact q3, by show o.length ≤ 1000; omega⟩) ja_nil))) ?_
                refine (js_appIn (m := 5) (j := hereF o c) (as := as) rfl (j_var rfl) hget ((j_tup (jd_cons (j_var rfl) (jd_cons (j_I0 (j_I0 (j_I0 (j_ixT (j_var rfl) j_int rfl) (j_ixT (j_var rfl) j_int rfl)) (j_ixT (j_var rfl) j_int rfl)) j_int) jd_nil)) (by show 2 ≤ 100000; decide)).dat (e := .tuple [.int ((thereF L T G o c).1 : Int), .int (thereF L T G o c).2]) (by rw [et])) hsz).imp (hfin _ _)
          · cases hQ
            refine js_freezeLL (i := 5) rfl ((js_ret (j_var rfl)).out ?_)
            show da (.list _) = da (frcsD (frcs b L T G o))
            unfold frcsD
            rw [List.length_map, List.take_length, List.map_map]
            rfl⟩
end
end LK
/-! text W8 -/
namespace LK
open PySem PySem.Spec PyProof.Rows L2
section
variable {P : Program} {w : World} {K : PySem.W.Frag} {mg : Str → Option Value} {base : Heap} {C : Addr}
theorem ownL_len (ms : List Int) (o : Ord) : (ownL ms o).length = o.length := by unfold ownL; rw [List.length_map, List.length_range]
theorem ownL_get (ms : List Int) {o : Ord} {k : Nat} {b : Bool} (h : o[k]? = some b) : (ownL ms o)[k]? = some (ms.getD (cn b (o.take k)) 0) := by
  have hk : k < o.length := (List.getElem?_eq_some_iff.mp h).1
  unfold ownL
  rw [List.getElem?_map, List.getElem?_range hk]
  show some (ms.getD (cn (o.getD k false) (o.take k)) 0) = _
  rw [List.getD_eq_getElem?_getD (l := o), h]
  rfl
theorem take_snoc {α : Type} {l : List α} {k : Nat} {x : α} (h : l[k]? = some x) : l.take (k + 1) = l.take k ++ [x] := by rw [List.take_add_one, h]; rfl
theorem cn_lt {o : Ord} {k : Nat} {b : Bool} (h : o[k]? = some b) : cn b (o.take k) < cn b o := by
  have h1 := cn_at h
  have h2 := cn_take_le b o (k + 1)
  omega
abbrev sp_letter_moments (C : Addr) : Sp := PureSp (fun x : Bk × Ord => [isBk C x.1, dS (ordS x.2)]) (fun x => x.1.2.length ≤ 7 ∧ goodB x.1 x.2 = true) (fun x => da (intsD (ownL (msL x.1) x.2)))
theorem jc_letter_moments {Ps : List Sl} {E : XK} {tr : TA} (x : Bk × Ord) (h : JA tr Ps ([isBk C x.1, dS (ordS x.2)])) (hp : x.1.2.length ≤ 7 ∧ goodB x.1 x.2 = true) : JE (tCall (sp_letter_moments C) [] E tr) Ps (da (intsD (ownL (msL x.1) x.2))) := j_call x h hp
theorem cal_letter_moments (D : Def1 K mg "letter_moments" (topS 39)) (T : Top mg) (m_moments : C8.Met P w K mg base 1 C "moments" (spm_moments C) []) : C8.Cal P w K mg base 2 "letter_moments" (sp_letter_moments C) [] :=
  mkPure (N := ["book", "order", "moments", "met", "found", "letter"]) (ps := ["book", "order"]) (n := 4) D (C8.fnScope_by (by decide +kernel)) (fun _ _ _ _ _ _ us hl => match us, hl with | [_, _], _ => rfl) (fun _ => rfl) rfl fun f cdv A outer s H E hr => by
    have nd : (["book", "order", "moments", "met", "found", "letter"] : List Str).Nodup := by decide +kernel
    have hu : (XX P w K mg base ["book", "order", "moments", "met", "found", "letter"] "letter_moments" (topS 39) f cdv A outer s H E).A.units + 1 < cLine := by have := hr.un; omega
    exact ⟨_, (pss_cons (ps_par (by rfl) nd (i := 2) (j := 3) rfl rfl (by decide) rfl rfl (pa_cons (C8.pe_mt0 m_moments hr (by decide) (pv 0)) (pa_cons (pe_disp (pps_cons pe_str pe_int (pps_cons pe_str pe_int pps_nil)) (by rfl) (by rfl) (fun z => by cases z) (by decide)) pa_nil)) (by rfl)) (pss_cons (ps_set (i := 4) nd rfl (.inl rfl) (pe_lst pa_nil)) (pss_cons (ps_for PassesOwn.never rfl (pi_str (pv 1)) (pg_name (i := 5) nd rfl (.inl rfl)) (pss_cons (ps_expr (pe_bm PySem.F.plainAttrs_list PySem.F.slot_list_append PySem.F.type_list_append mt_append (pv 4) (pa_cons (pe_ix ix_seq (pv 2) (pe_dget hu (pv 3) (pv 5) (fun _ _ => rfl)) (fun _ _ => rfl)) pa_nil))) (pss_one (ps_daug hu (pv 3) (pv 5) pe_int in_add (fun _ _ _ => rfl))))) (pss_one (ps_ret (pv 4)))))),
      fun ⟨b, o⟩ ⟨hb, hg⟩ => by
        have hb : b.2.length ≤ 7 := hb
        have g : Good b o := good_iff.mp hg
        have ho : o.length ≤ 14 := by rw [g.len]; omega
        have e1 : momD b = intsD (msL b) := by unfold momD intsD msL; rw [List.map_map]; rfl
        have hl : ((ordS o).cps.toList.map sgn).length = o.length := by rw [List.length_map, ordS_cps, List.length_map]
        have hml : (msL b).length = b.2.length := by unfold msL; rw [List.length_map]
        refine js_then (js_parN (s1 := .pl (da (intsD (msL b)))) (s2 := .ok (.int 0) (.int 0)) (jax_cons (jn_pl ((jm_moments b (j_var rfl) ja_nil (by show b.2.length ≤ 1000; omega)).dat e1)) (jax_cons (jn_disp j_int j_int) jax_nil)) (by decide)) (js_then js_newL ?_)
        refine js_then (js_forI (jw_str (z := ordS o) (j_var rfl)) (fun i => [.pl (isBk C b), .pl (dS (ordS o)), .pl (da (intsD (msL b))), .ok (.int (cn false (o.take i) : Int)) (.int (cn true (o.take i) : Int)), .ol (((ownL (msL b) o).take i).map .int), .no]) (by repeat first | exact True.intro | refine And.intro (Or.inr rfl) ?_ | refine And.intro (Or.inl rfl) ?_) fun i d hd => ⟨[5], [d], tg_name, ?_⟩) (js_freeze (i := 4) rfl ((js_ret (j_var rfl)).out ?_))
        · obtain ⟨x, hx, rfl⟩ := ord_sgn hd
          have hlt : cn x (o.take i) < (msL b).length := by
            have := cn_lt hx
            rw [hml]
            cases x
            · rw [g.cl] at this; exact this
            · rw [g.ct] at this; exact this
          refine js_then (js_app (i := 4) rfl (j_ixL (j_var rfl) ((j_dgetLT (n := 3) (z := letS x) rfl (j_var rfl) (letS_lt x)).dat (e := .int (cn x (o.take i) : Int)) ?_) (atI_nats hlt)) (by rw [List.length_map, List.length_take, ownL_len]; omega)) ?_
          · cases x
            · rw [if_pos L_is.symm]
            · rw [if_neg (fun z => by have := (letS_isL true).mp z; cases this)]
          · refine (js_daugLT (n := 3) (z := letS x) rfl (j_var rfl) j_int (letS_lt x)).imp fun Rs q => ⟨_, q ▸ ?_, rfl⟩
            rw [take_snoc (ownL_get (msL b) hx), List.map_append, take_succ hx, cn_snoc, cn_snoc]
            cases x
            · rw [if_pos L_is.symm, if_pos L_is.symm]
              exact (by repeat first | exact True.intro | refine And.intro (Or.inr rfl) ?_ | refine And.intro (Or.inl rfl) ?_)
            · have nz : ¬ letS true = "L" := fun z => by have := (letS_isL true).mp z; cases this
              rw [if_neg nz, if_neg nz]
              exact (by repeat first | exact True.intro | refine And.intro (Or.inr rfl) ?_ | refine And.intro (Or.inl rfl) ?_)
        · rw [hl, List.take_of_length_le (by rw [ownL_len]; omega)]
          rfl⟩
theorem frc_enum {fs : List Frc} {i : Nat} {d : PyData} (h : (prs (irng (fs.map fun f => PyData.list (frcD f)).length fun i => (i : Int)) (fs.map fun f => PyData.list (frcD f)))[i]? = some d) : ∃ f, fs[i]? = some f ∧ d = .tuple [.int (i : Int), .list (frcD f)] := by
  unfold prs at h
  rw [List.getElem?_map] at h
  cases e : ((irng (fs.map fun f => PyData.list (frcD f)).length fun i => (i : Int)).zip (fs.map fun f => PyData.list (frcD f)))[i]? with
  | none => rw [e] at h; cases h
  | some p =>
    rw [e] at h
    cases h
    obtain ⟨e1, e2⟩ := List.getElem?_zip_eq_some.mp e
    obtain ⟨hi, _⟩ := List.getElem?_eq_some_iff.mp e1
    rw [irng_len] at hi
    rw [irng_get hi] at e1
    rw [List.getElem?_map] at e2
    cases e3 : fs[i]? with
    | none => rw [e3] at e2; cases e2
    | some f =>
      rw [e3] at e2
      refine ⟨f, rfl, ?_⟩
      injection e1 with e1
      injection e2 with e2
      show PyData.tuple [p.1, p.2] = _
      rw [← e1, ← e2]
theorem frc_enum_len (fs : List Frc) : (prs (irng (fs.map fun f => PyData.list (frcD f)).length fun i => (i : Int)) (fs.map fun f => PyData.list (frcD f))).length = fs.length := by rw [prs_len, irng_len, List.length_map, Nat.min_self]
theorem frc_len {b : Bk} {L T G : Pr2} {o : Ord} (g : Good b o) (hb : b.2.length ≤ 7) {i : Nat} (hi : i < o.length) : ((frcs b L T G o).getD i []).length ≤ 78 := by
  have h1 := foldF_glen L T G o i (badC (prL b)) (baseF o) fun x hx => by rw [baseF_len]; exact (here_lt (L := L) (T := T) (G := G) g hx).1
  have h2 := badC_len (p := prL b) (by rw [prL_len]; omega)
  rw [baseF_get o hi, List.length_map] at h1
  have h3 := List.length_filter_le (fun s => decide (o[s]? = o[i]?)) (List.range i)
  rw [List.length_range] at h3
  have h4 := g.len
  show ((foldF L T G o (badC (prL b)) (baseF o)).getD i []).length ≤ 78
  omega
abbrev sp_least_moments (C : Addr) : Sp := PureSp (fun x : Bk × Pr2 × Pr2 × Pr2 × Ord => [isBk C x.1, da (p2D x.2.1), da (p2D x.2.2.1), da (p2D x.2.2.2.1), dS (ordS x.2.2.2.2)]) (fun x => x.1.2.length ≤ 7 ∧ goodB x.1 x.2.2.2.2 = true) (fun x => da (intsD (lmL x.1 x.2.1 x.2.2.1 x.2.2.2.1 x.2.2.2.2)))
theorem jc_least_moments {Ps : List Sl} {E : XK} {tr : TA} (x : Bk × Pr2 × Pr2 × Pr2 × Ord) (h : JA tr Ps ([isBk C x.1, da (p2D x.2.1), da (p2D x.2.2.1), da (p2D x.2.2.2.1), dS (ordS x.2.2.2.2)])) (hp : x.1.2.length ≤ 7 ∧ goodB x.1 x.2.2.2.2 = true) : JE (tCall (sp_least_moments C) [] E tr) Ps (da (intsD (lmL x.1 x.2.1 x.2.2.1 x.2.2.2.1 x.2.2.2.2))) := j_call x h hp
theorem cal_least_moments (D : Def1 K mg "least_moments" (topS 40)) (T : Top mg) (c_letter_moments : C8.Cal P w K mg base 2 "letter_moments" (sp_letter_moments C) []) (c_forces : C8.Cal P w K mg base 3 "forces" (sp_forces C) []) : C8.Cal P w K mg base 4 "least_moments" (sp_least_moments C) [] :=
  mkPure (N := ["book", "label", "till", "gap", "order", "found", "own", "at", "some", "spot", "by"]) (ps := ["book", "label", "till", "gap", "order"]) (n := 6) D (C8.fnScope_by (by decide +kernel)) (fun _ _ _ _ _ _ us hl => match us, hl with | [_, _, _, _, _], _ => rfl) (fun _ => rfl) rfl fun f cdv A outer s H E hr => by
    have nd : (["book", "label", "till", "gap", "order", "found", "own", "at", "some", "spot", "by"] : List Str).Nodup := by decide +kernel
    have hu : (XX P w K mg base ["book", "label", "till", "gap", "order", "found", "own", "at", "some", "spot", "by"] "least_moments" (topS 40) f cdv A outer s H E).A.units + 1 < cLine := by have := hr.un; omega
    exact ⟨_, (pss_cons (ps_asg (pe_tup (pa_cons (pe_lst pa_nil) (pa_cons (C8.pe_c c_letter_moments hr (by decide) (by rfl) (pa_cons (pv 0) (pa_cons (pv 4) pa_nil))) pa_nil))) (pg_tup (n := 2) (by rfl) (pgs_cons (pg_name (i := 5) nd rfl (.inr rfl)) (pgs_cons (pg_name (i := 6) nd rfl (.inl rfl)) pgs_nil)))) (pss_cons (ps_for PassesOwn.never rfl (pi_enum (by rfl) T.enumerate_ (pa_cons (C8.pe_c c_forces hr (by decide) (by rfl) (pa_cons (pv 0) (pa_cons (pv 1) (pa_cons (pv 2) (pa_cons (pv 3) (pa_cons (pv 4) pa_nil)))))) pa_nil)) (pg_tup (n := 2) (by rfl) (pgs_cons (pg_name (i := 7) nd rfl (.inl rfl)) (pgs_cons (pg_name (i := 8) nd rfl (.inl rfl)) pgs_nil))) (pss_one (ps_expr (pe_bm PySem.F.plainAttrs_list PySem.F.slot_list_append PySem.F.type_list_append mt_append (pv 5) (pa_cons (pe_callB (cr_max rfl) (by rfl) T.max_ (by decide +kernel) (pa_cons (pe_op op_cat (pe_lst (pa_cons (pe_ix ix_seq (pv 6) (pv 7) (fun _ _ => rfl)) pa_nil)) (pe_lc (own := [("spot", 9), ("by", 10)]) rfl nd (pi_list (pv 8)) (blkOk_by (N := ["book", "label", "till", "gap", "order", "found", "own", "at", "some", "spot", "by"]) (sc := defScope (topS 40)) (by decide +kernel)) (fun _ _ _ _ _ => (pg_tupB (n := 2) (by rfl) (pgs_cons (pg_name (i := 9) nd rfl (.inl rfl)) (pgs_cons (pg_name (i := 10) nd rfl (.inl rfl)) pgs_nil)))) (fun _ _ _ _ _ => pts_nil) (fun _ _ _ _ _ => (pe_op op_add (pe_ix ix_seqB (pv 5) (pv 9) (fun _ _ => rfl)) (pv 10))))) pa_nil)) pa_nil))))) (pss_one (ps_ret (pv 5))))),
      fun ⟨b, L, T, G, o⟩ ⟨hb, hg⟩ => by
        have hb : b.2.length ≤ 7 := hb
        have g : Good b o := good_iff.mp hg
        have ho : o.length ≤ 14 := by rw [g.len]; omega
        refine js_then (js_asgTN (is := [5, 6]) (ss := [.ol [], .pl (da (intsD (ownL (msL b) o)))]) (n := 2) (jax_cons jn_newL (jax_cons (jn_pl (jc_letter_moments (b, o) (ja_cons (j_var rfl) (ja_cons (j_var rfl) ja_nil)) ⟨hb, hg⟩)) jax_nil)) (by decide) rfl rfl (by decide)) ?_
        refine js_then (js_forI (jw_enum (ds := (frcs b L T G o).map fun f => .list (frcD f)) (jd_cons (jc_forces (b, L, T, G, o) (ja_cons (j_var rfl) (ja_cons (j_var rfl) (ja_cons (j_var rfl) (ja_cons (j_var rfl) (ja_cons (j_var rfl) ja_nil))))) ⟨hb, hg⟩) jd_nil)) (fun i => [.pl (isBk C b), .pl (da (p2D L)), .pl (da (p2D T)), .pl (da (p2D G)), .pl (dS (ordS o)), .ol ((lmGo (ownL (msL b) o) (frcs b L T G o) i).map .int), .pl (da (intsD (ownL (msL b) o))), .no, .no, .no, .no]) (by repeat first | exact True.intro | refine And.intro (Or.inr rfl) ?_ | refine And.intro (Or.inl rfl) ?_) fun i d hd => ?_) (js_freeze (i := 5) rfl ((js_ret (j_var rfl)).out ?_))
        · obtain ⟨f, hf, rfl⟩ := frc_enum hd
          have hi : i < o.length := by have := (List.getElem?_eq_some_iff.mp hf).1; rw [frcs_len] at this; exact this
          have hgd : (frcs b L T G o).getD i [] = f := by rw [List.getD_eq_getElem?_getD, hf]; rfl
          have hlt : ∀ p ∈ f, p.1 < i := fun p hp => frcs_lt g hi (by rw [hgd]; exact hp)
          have hfl : f.length ≤ 78 := by have := frc_len (L := L) (T := T) (G := G) g hb hi; rw [hgd] at this; exact this
          refine ⟨[7, 8], [.int (i : Int), .list (frcD f)], tg_2, ?_⟩
          refine (js_app (i := 5) (d := .int (maxL ((ownL (msL b) o).getD i 0) (f.map fun p => (lmGo (ownL (msL b) o) (frcs b L T G o) i).getD p.1 0 + p.2))) rfl (j_max (ns := (ownL (msL b) o).getD i 0 :: f.map fun p => (lmGo (ownL (msL b) o) (frcs b L T G o) i).getD p.1 0 + p.2) ((j_cat (ds := [.int ((ownL (msL b) o).getD i 0)]) (es := f.map fun p => .int ((lmGo (ownL (msL b) o) (frcs b L T G o) i).getD p.1 0 + p.2)) (j_lst (jd_cons (j_ixL (j_var rfl) (j_var rfl) (atI_nats (l := ownL (msL b) o) (n := i) (by rw [ownL_len]; exact hi))) jd_nil) (by show 1 ≤ 100000; decide)) (j_lcA (xs := f) (enc := fun p => .tuple [.int (p.1 : Int), .int p.2]) (v := fun p => .int ((lmGo (ownL (msL b) o) (frcs b L T G o) i).getD p.1 0 + p.2)) (jw_list (j_var rfl)) (by omega) fun p hp => ⟨[9, 10], [.int (p.1 : Int), .int p.2], tg_2, by simp, j_I0 (j_ixO (n := 5) rfl (j_var rfl) (atI_nats (l := lmGo (ownL (msL b) o) (frcs b L T G o) i) (n := p.1) (by rw [lmGo_len]; exact hlt p hp))) (j_var rfl)⟩) (by rw [List.length_map, List.length_singleton]; omega)).dat ?_) ?_ ?_) (by rw [List.length_map, lmGo_len]; omega)).imp fun Rs q => ⟨_, q ▸ ?_, rfl⟩
          · rw [List.map_cons, List.map_map]
            rfl
          · rcases maxL_mem (f.map fun p => (lmGo (ownL (msL b) o) (frcs b L T G o) i).getD p.1 0 + p.2) ((ownL (msL b) o).getD i 0) with z | z
            · rw [z]; exact List.mem_cons_self
            · exact List.mem_cons_of_mem _ z
          · intro y hy
            obtain ⟨z1, z2⟩ := maxL_ge (f.map fun p => (lmGo (ownL (msL b) o) (frcs b L T G o) i).getD p.1 0 + p.2) ((ownL (msL b) o).getD i 0)
            rcases List.mem_cons.mp hy with rfl | hy
            · exact z1
            · exact z2 y hy
          · have e : lmGo (ownL (msL b) o) (frcs b L T G o) (i + 1) = lmGo (ownL (msL b) o) (frcs b L T G o) i ++ [maxL ((ownL (msL b) o).getD i 0) (((frcs b L T G o).getD i []).map fun p => (lmGo (ownL (msL b) o) (frcs b L T G o) i).getD p.1 0 + p.2)] := rfl
            rw [e, hgd, List.map_append]
            exact (by repeat first | exact True.intro | refine And.intro (Or.inr rfl) ?_ | refine And.intro (Or.inl rfl) ?_)
        · rw [frc_enum_len, frcs_len]
          rfl⟩
def lcSc : Stmt → Scope
  | .Assign _ (.ListComp _ _ s _) _ => s
  | _ => ⟨.function, [], false, false, []⟩
theorem prs_zipS (o : Ord) (m : List Int) : prs ((ordS o).cps.toList.map sgn) (m.map .int) = (o.zip m).map fun p => .tuple [.str (letS p.1), .int p.2] := by
  unfold prs
  rw [ordS_cps, List.map_map, List.zip_map, List.map_map]
  rfl
abbrev sp_plan_of : Sp := PureSp (fun x : Ord × List Int => [dS (ordS x.1), da (intsD x.2)]) (fun x => x.2.length = x.1.length ∧ x.1.length ≤ 1000) (fun x => da (plnD (splitM x.1 x.2)))
theorem jc_plan_of {Ps : List Sl} {E : XK} {tr : TA} (x : Ord × List Int) (h : JA tr Ps ([dS (ordS x.1), da (intsD x.2)])) (hp : x.2.length = x.1.length ∧ x.1.length ≤ 1000) : JE (tCall sp_plan_of [] E tr) Ps (da (plnD (splitM x.1 x.2))) := j_call x h hp
theorem cal_plan_of (D : Def1 K mg "plan_of" (topS 41)) (T : Top mg) : C8.Cal P w K mg base 1 "plan_of" sp_plan_of [] :=
  mkPure (N := ["order", "moments", "told", "letter", "sign", "moment"]) (ps := ["order", "moments"]) (n := 4) D (C8.fnScope_by (by decide +kernel)) (fun _ _ _ _ _ _ us hl => match us, hl with | [_, _], _ => rfl) (fun _ => rfl) rfl fun f cdv A outer s H E hr => by
    have nd : (["order", "moments", "told", "letter", "sign", "moment"] : List Str).Nodup := by decide +kernel
    have hu : (XX P w K mg base ["order", "moments", "told", "letter", "sign", "moment"] "plan_of" (topS 41) f cdv A outer s H E).A.units + 1 < cLine := by have := hr.un; omega
    exact ⟨_, (pss_cons (ps_setLc (i := 2) (own := [("letter", 3)]) rfl nd rfl rfl (sw_true rfl rfl rfl (by decide +kernel)) (pi_str pe_str) (blkOk_by (N := ["order", "moments", "told", "letter", "sign", "moment"]) (sc := defScope (topS 41)) (by decide +kernel)) (fun _ _ _ _ _ => (pg_name (i := 3) nd rfl (.inr rfl))) (fun _ _ _ _ _ => pts_nil) (fun _ _ _ _ _ => (pe_lc (own := [("sign", 4), ("moment", 5)]) rfl nd (pi_zipSB (by rfl) T.zip_ (pa_cons (pv 0) (pa_cons (pv 1) pa_nil))) (blkOk_by (N := ["order", "moments", "told", "letter", "sign", "moment"]) (sc := relS (lcSc ((defBody (topS 41)).getD 0 (.Pass ⟨0, 0, 0, 0⟩))) (defScope (topS 41))) (by decide +kernel)) (fun _ _ _ _ _ => (pg_tupBB (n := 2) (by rfl) (pgs_cons (pg_name (i := 4) nd rfl (.inl rfl)) (pgs_cons (pg_name (i := 5) nd rfl (.inl rfl)) pgs_nil)))) (fun _ _ _ _ _ => pts_one (pt_cmpR op_eq (pv 4) (pv 3) (nomark _))) (fun _ _ _ _ _ => (pv 5))))) (pss_one (ps_ret (pe_tup (pa_cons (pe_ix ix_seq (pv 2) pe_int (fun _ _ => rfl)) (pa_cons (pe_ix ix_seq (pv 2) pe_int (fun _ _ => rfl)) pa_nil)))))),
      fun ⟨o, m⟩ ⟨hm, ho⟩ => by
        have hm : m.length = o.length := hm
        have ho : o.length ≤ 1000 := ho
        refine js_then (js_asg (j_lcA (xs := [false, true]) (enc := fun b => .str (letS b)) (v := fun b => intsD (side o m b)) ((jw_str (z := "LT") j_str).is rfl) (by show 2 ≤ 50000; decide) fun b _ => ⟨[3], [.str (letS b)], tg_name, by simp, (j_lc (xs := o.zip m) (enc := fun p => .tuple [.str (letS p.1), .int p.2]) (v := fun p => .int p.2) (f := fun p => decide (p.1 = b)) ((jw_zipS (j_var rfl) (j_var rfl) (by rw [List.length_map, ordS_size]; exact hm)).is (prs_zipS o m)) (by rw [List.length_zip]; omega) fun p _ => ⟨[4, 5], [.str (letS p.1), .int p.2], tg_2, by simp, (jt_test (j_eqS (j_var rfl) (j_var rfl))).is (decide_eq_decide.mpr letS_eq), fun _ => j_var rfl⟩).dat ?_⟩)) ?_
        · unfold intsD side
          rw [List.map_map]
          rfl
        · exact js_ret (j_tup (jd_cons (j_ixL (j_var rfl) j_int rfl) (jd_cons (j_ixL (j_var rfl) j_int rfl) jd_nil)) (by show 2 ≤ 100000; decide))⟩
abbrev sp_least_plan (C : Addr) : Sp := PureSp (fun x : Bk × Pr2 × Pr2 × Pr2 × Ord => [isBk C x.1, da (p2D x.2.1), da (p2D x.2.2.1), da (p2D x.2.2.2.1), dS (ordS x.2.2.2.2)]) (fun x => x.1.2.length ≤ 7 ∧ goodB x.1 x.2.2.2.2 = true) (fun x => da (plnD (leastP x.1 x.2.1 x.2.2.1 x.2.2.2.1 x.2.2.2.2)))
theorem jc_least_plan {Ps : List Sl} {E : XK} {tr : TA} (x : Bk × Pr2 × Pr2 × Pr2 × Ord) (h : JA tr Ps ([isBk C x.1, da (p2D x.2.1), da (p2D x.2.2.1), da (p2D x.2.2.2.1), dS (ordS x.2.2.2.2)])) (hp : x.1.2.length ≤ 7 ∧ goodB x.1 x.2.2.2.2 = true) : JE (tCall (sp_least_plan C) [] E tr) Ps (da (plnD (leastP x.1 x.2.1 x.2.2.1 x.2.2.2.1 x.2.2.2.2))) := j_call x h hp
theorem cal_least_plan (D : Def1 K mg "least_plan" (topS 42)) (c_need_good : C8.Cal P w K mg base 5 "need_good" (sp_need_good C) []) (c_plan_of : C8.Cal P w K mg base 1 "plan_of" sp_plan_of []) (c_least_moments : C8.Cal P w K mg base 4 "least_moments" (sp_least_moments C) []) : C8.Cal P w K mg base 6 "least_plan" (sp_least_plan C) [] :=
  mkPure (N := ["book", "label", "till", "gap", "order"]) (ps := ["book", "label", "till", "gap", "order"]) (n := 0) D (C8.fnScope_by (by decide +kernel)) (fun _ _ _ _ _ _ us hl => match us, hl with | [_, _, _, _, _], _ => rfl) (fun _ => rfl) rfl fun f cdv A outer s H E hr => by
    have nd : (["book", "label", "till", "gap", "order"] : List Str).Nodup := by decide +kernel
    have hu : (XX P w K mg base ["book", "label", "till", "gap", "order"] "least_plan" (topS 42) f cdv A outer s H E).A.units + 1 < cLine := by have := hr.un; omega
    exact ⟨_, (pss_cons (ps_expr (C8.pe_c c_need_good hr (by decide) (by rfl) (pa_cons (pv 0) (pa_cons (pv 4) pa_nil)))) (pss_one (ps_ret (C8.pe_c c_plan_of hr (by decide) (by rfl) (pa_cons (pv 4) (pa_cons (C8.pe_c c_least_moments hr (by decide) (by rfl) (pa_cons (pv 0) (pa_cons (pv 1) (pa_cons (pv 2) (pa_cons (pv 3) (pa_cons (pv 4) pa_nil)))))) pa_nil)))))),
      fun ⟨b, L, T, G, o⟩ ⟨hb, hg⟩ => by
        have hb : b.2.length ≤ 7 := hb
        have g : Good b o := good_iff.mp hg
        have ho : o.length ≤ 14 := by rw [g.len]; omega
        exact js_then (js_drop (jc_need_good (b, o) (ja_cons (j_var rfl) (ja_cons (j_var rfl) ja_nil)) ⟨hb, by show o.length ≤ 1000; omega, hg⟩)) (js_ret (jc_plan_of (o, lmL b L T G o) (ja_cons (j_var rfl) (ja_cons (jc_least_moments (b, L, T, G, o) (ja_cons (j_var rfl) (ja_cons (j_var rfl) (ja_cons (j_var rfl) (ja_cons (j_var rfl) (ja_cons (j_var rfl) ja_nil))))) ⟨hb, hg⟩) ja_nil)) ⟨lmL_len .., by show o.length ≤ 1000; omega⟩))⟩
abbrev sp_forced_by (C : Addr) : Sp := PureSp (fun x : Bk × Pr2 × Pr2 × Pr2 × Ord => [isBk C x.1, da (p2D x.2.1), da (p2D x.2.2.1), da (p2D x.2.2.2.1), dS (ordS x.2.2.2.2)]) (fun x => x.1.2.length ≤ 7 ∧ goodB x.1 x.2.2.2.2 = true) (fun x => da (.list ((fbL x.1 x.2.1 x.2.2.1 x.2.2.2.1 x.2.2.2.2).map optD)))
theorem jc_forced_by {Ps : List Sl} {E : XK} {tr : TA} (x : Bk × Pr2 × Pr2 × Pr2 × Ord) (h : JA tr Ps ([isBk C x.1, da (p2D x.2.1), da (p2D x.2.2.1), da (p2D x.2.2.2.1), dS (ordS x.2.2.2.2)])) (hp : x.1.2.length ≤ 7 ∧ goodB x.1 x.2.2.2.2 = true) : JE (tCall (sp_forced_by C) [] E tr) Ps (da (.list ((fbL x.1 x.2.1 x.2.2.1 x.2.2.2.1 x.2.2.2.2).map optD))) := j_call x h hp
theorem cal_forced_by (D : Def1 K mg "forced_by" (topS 43)) (T : Top mg) (c_need_good : C8.Cal P w K mg base 5 "need_good" (sp_need_good C) []) (c_letter_moments : C8.Cal P w K mg base 2 "letter_moments" (sp_letter_moments C) []) (c_least_moments : C8.Cal P w K mg base 4 "least_moments" (sp_least_moments C) []) (c_forces : C8.Cal P w K mg base 3 "forces" (sp_forces C) []) : C8.Cal P w K mg base 6 "forced_by" (sp_forced_by C) [] :=
  mkPure (N := ["book", "label", "till", "gap", "order", "moments", "own", "found", "at", "some", "spots", "spot", "by"]) (ps := ["book", "label", "till", "gap", "order"]) (n := 8) D (C8.fnScope_by (by decide +kernel)) (fun _ _ _ _ _ _ us hl => match us, hl with | [_, _, _, _, _], _ => rfl) (fun _ => rfl) rfl fun f cdv A outer s H E hr => by
    have nd : (["book", "label", "till", "gap", "order", "moments", "own", "found", "at", "some", "spots", "spot", "by"] : List Str).Nodup := by decide +kernel
    have hu : (XX P w K mg base ["book", "label", "till", "gap", "order", "moments", "own", "found", "at", "some", "spots", "spot", "by"] "forced_by" (topS 43) f cdv A outer s H E).A.units + 1 < cLine := by have := hr.un; omega
    exact ⟨_, (pss_cons (ps_expr (C8.pe_c c_need_good hr (by decide) (by rfl) (pa_cons (pv 0) (pa_cons (pv 4) pa_nil)))) (pss_cons (ps_asg (pe_tup (pa_cons (C8.pe_c c_least_moments hr (by decide) (by rfl) (pa_cons (pv 0) (pa_cons (pv 1) (pa_cons (pv 2) (pa_cons (pv 3) (pa_cons (pv 4) pa_nil)))))) (pa_cons (C8.pe_c c_letter_moments hr (by decide) (by rfl) (pa_cons (pv 0) (pa_cons (pv 4) pa_nil))) (pa_cons (pe_lst pa_nil) pa_nil)))) (pg_tup (n := 3) (by rfl) (pgs_cons (pg_name (i := 5) nd rfl (.inr rfl)) (pgs_cons (pg_name (i := 6) nd rfl (.inl rfl)) (pgs_cons (pg_name (i := 7) nd rfl (.inl rfl)) pgs_nil))))) (pss_cons (ps_for PassesOwn.never rfl (pi_enum (by rfl) T.enumerate_ (pa_cons (C8.pe_c c_forces hr (by decide) (by rfl) (pa_cons (pv 0) (pa_cons (pv 1) (pa_cons (pv 2) (pa_cons (pv 3) (pa_cons (pv 4) pa_nil)))))) pa_nil)) (pg_tup (n := 2) (by rfl) (pgs_cons (pg_name (i := 8) nd rfl (.inr rfl)) (pgs_cons (pg_name (i := 9) nd rfl (.inl rfl)) pgs_nil))) (pss_cons (ps_setLc (i := 10) (own := [("spot", 11), ("by", 12)]) rfl nd rfl rfl (sw_true rfl rfl rfl (by decide +kernel)) (pi_list (pv 9)) (blkOk_by (N := ["book", "label", "till", "gap", "order", "moments", "own", "found", "at", "some", "spots", "spot", "by"]) (sc := defScope (topS 43)) (by decide +kernel)) (fun _ _ _ _ _ => (pg_tupB (n := 2) (by rfl) (pgs_cons (pg_name (i := 11) nd rfl (.inl rfl)) (pgs_cons (pg_name (i := 12) nd rfl (.inl rfl)) pgs_nil)))) (fun _ _ _ _ _ => pts_one (pt_cmpR op_eq (pe_op op_add (pe_ix ix_seqB (pv 5) (pv 11) (fun _ _ => rfl)) (pv 12)) (pe_ix ix_seqB (pv 5) (pv 8) (fun _ _ => rfl)) (nomark _))) (fun _ _ _ _ _ => (pv 11))) (pss_one (ps_expr (pe_bm PySem.F.plainAttrs_list PySem.F.slot_list_append PySem.F.type_list_append mt_append (pv 7) (pa_cons (pe_ifExp (pt_cmpR op_eq (pe_ix ix_seq (pv 5) (pv 8) (fun _ _ => rfl)) (pe_ix ix_seq (pv 6) (pv 8) (fun _ _ => rfl)) (nomark _)) pe_non (pe_callB (cr_min rfl) (by rfl) T.min_ (by decide +kernel) (pa_cons (pv 10) pa_nil))) pa_nil)))))) (pss_one (ps_ret (pv 7)))))),
      fun ⟨b, L, T, G, o⟩ ⟨hb, hg⟩ => by
        have hb : b.2.length ≤ 7 := hb
        have g : Good b o := good_iff.mp hg
        have ho : o.length ≤ 14 := by rw [g.len]; omega
        have hll := lmL_len b L T G o
        have hol := ownL_len (msL b) o
        have hfl : (fbL b L T G o).length = o.length := by unfold fbL; rw [List.length_map, List.length_range]
        refine js_then (js_drop (jc_need_good (b, o) (ja_cons (j_var rfl) (ja_cons (j_var rfl) ja_nil)) ⟨hb, by show o.length ≤ 1000; omega, hg⟩)) ?_
        refine js_then (js_asgTN (is := [5, 6, 7]) (ss := [.pl (da (intsD (lmL b L T G o))), .pl (da (intsD (ownL (msL b) o))), .ol []]) (n := 3) (jax_cons (jn_pl (jc_least_moments (b, L, T, G, o) (ja_cons (j_var rfl) (ja_cons (j_var rfl) (ja_cons (j_var rfl) (ja_cons (j_var rfl) (ja_cons (j_var rfl) ja_nil))))) ⟨hb, hg⟩)) (jax_cons (jn_pl (jc_letter_moments (b, o) (ja_cons (j_var rfl) (ja_cons (j_var rfl) ja_nil)) ⟨hb, hg⟩)) (jax_cons jn_newL jax_nil))) (by decide) rfl rfl (by decide)) ?_
        refine js_then (js_forI (jw_enum (ds := (frcs b L T G o).map fun f => .list (frcD f)) (jd_cons (jc_forces (b, L, T, G, o) (ja_cons (j_var rfl) (ja_cons (j_var rfl) (ja_cons (j_var rfl) (ja_cons (j_var rfl) (ja_cons (j_var rfl) ja_nil))))) ⟨hb, hg⟩) jd_nil)) (fun i => [.pl (isBk C b), .pl (da (p2D L)), .pl (da (p2D T)), .pl (da (p2D G)), .pl (dS (ordS o)), .pl (da (intsD (lmL b L T G o))), .pl (da (intsD (ownL (msL b) o))), .ol (((fbL b L T G o).take i).map optD), .no, .no, .no, .no, .no]) (by repeat first | exact True.intro | refine And.intro (Or.inr rfl) ?_ | refine And.intro (Or.inl rfl) ?_) fun i d hd => ?_) (js_freeze (i := 7) rfl ((js_ret (j_var rfl)).out ?_))
        · obtain ⟨f, hf, rfl⟩ := frc_enum hd
          have hi : i < o.length := by have := (List.getElem?_eq_some_iff.mp hf).1; rw [frcs_len] at this; exact this
          have hgd : (frcs b L T G o).getD i [] = f := by rw [List.getD_eq_getElem?_getD, hf]; rfl
          have hlt : ∀ p ∈ f, p.1 < i := fun p hp => frcs_lt g hi (by rw [hgd]; exact hp)
          have hfl78 : f.length ≤ 78 := by have := frc_len (L := L) (T := T) (G := G) g hb hi; rw [hgd] at this; exact this
          have hfb : (fbL b L T G o)[i]? = some (fbAt (ownL (msL b) o) (lmL b L T G o) f i) := by
            unfold fbL
            rw [List.getElem?_map, List.getElem?_range hi]
            show some (fbAt (ownL (msL b) o) (lmL b L T G o) ((frcs b L T G o).getD i []) i) = _
            rw [hgd]
          refine ⟨[8, 9], [.int (i : Int), .list (frcD f)], tg_2, ?_⟩
          refine js_then (js_asg ((j_lc (xs := f) (enc := fun p => .tuple [.int (p.1 : Int), .int p.2]) (v := fun p => .int (p.1 : Int)) (f := fun p => decide ((lmL b L T G o).getD p.1 0 + p.2 = (lmL b L T G o).getD i 0)) (jw_list (j_var rfl)) (by omega) fun p hp => ⟨[11, 12], [.int (p.1 : Int), .int p.2], tg_2, by simp, jt_test (j_eqI (j_I0 (j_ixL (j_var rfl) (j_var rfl) (atI_nats (l := lmL b L T G o) (n := p.1) (by have := hlt p hp; omega))) (j_var rfl)) (j_ixL (j_var rfl) (j_var rfl) (atI_nats (l := lmL b L T G o) (n := i) (by omega)))), fun _ => j_var rfl⟩).dat (e := .list ((((f.filter fun p => decide ((lmL b L T G o).getD p.1 0 + p.2 = (lmL b L T G o).getD i 0)).map (·.1)).map fun n : Nat => (n : Int)).map .int)) (by rw [List.map_map, List.map_map]; rfl))) ?_
          refine (js_app (i := 7) (d := optD (fbAt (ownL (msL b) o) (lmL b L T G o) f i)) rfl (j_if (b := decide ((lmL b L T G o).getD i 0 = (ownL (msL b) o).getD i 0)) (jt_test (j_eqI (j_ixL (j_var rfl) (j_var rfl) (atI_nats (l := lmL b L T G o) (n := i) (by omega))) (j_ixL (j_var rfl) (j_var rfl) (atI_nats (l := ownL (msL b) o) (n := i) (by omega))))) (fun h => j_non.dat ?_) fun h => (j_min (ns := ((f.filter fun p => decide ((lmL b L T G o).getD p.1 0 + p.2 = (lmL b L T G o).getD i 0)).map (·.1)).map fun n : Nat => (n : Int)) (m := (minN ((f.filter fun p => decide ((lmL b L T G o).getD p.1 0 + p.2 = (lmL b L T G o).getD i 0)).map (·.1)) : Int)) (j_var rfl) ?_ ?_).dat ?_) (by rw [List.length_map, List.length_take]; omega)).imp fun Rs q => ⟨_, q ▸ ?_, rfl⟩
          · unfold fbAt
            rw [if_pos (of_decide_eq_true h)]
            rfl
          · have hne : ((f.filter fun p => decide ((lmL b L T G o).getD p.1 0 + p.2 = (lmL b L T G o).getD i 0)).map (·.1)) ≠ [] := by
              have h0 := of_decide_eq_false h
              have e := lmL_get (L := L) (T := T) (G := G) g hi
              rw [hgd] at e
              rcases maxL_mem (f.map fun p => (lmL b L T G o).getD p.1 0 + p.2) ((ownL (msL b) o).getD i 0) with z | z
              · exact absurd (e.trans z) h0
              · rw [← e] at z
                obtain ⟨p, hp, ep⟩ := List.mem_map.mp z
                intro z2
                have : p.1 ∈ ((f.filter fun p => decide ((lmL b L T G o).getD p.1 0 + p.2 = (lmL b L T G o).getD i 0)).map (·.1)) := List.mem_map.mpr ⟨p, List.mem_filter.mpr ⟨hp, decide_eq_true ep⟩, rfl⟩
                rw [z2] at this
                cases this
            exact List.mem_map.mpr ⟨_, (minN_spec hne).1, rfl⟩
          · intro y hy
            obtain ⟨n, hn, rfl⟩ := List.mem_map.mp hy
            have := (minN_spec (List.ne_nil_of_mem hn)).2 n hn
            omega
          · unfold fbAt
            rw [if_neg (of_decide_eq_false h)]
            rfl
          · rw [take_snoc hfb, List.map_append]
            exact (by repeat first | exact True.intro | refine And.intro (Or.inr rfl) ?_ | refine And.intro (Or.inl rfl) ?_)
        · rw [frc_enum_len, frcs_len, List.take_of_length_le (by omega)]⟩
end
end LK
/-! text K13 -/
namespace LK
open PySem PySem.Spec PyProof.Rows L2
/-! ### the bag, step by step -/
structure Bg (H : Hp) (b c : Addr) (x0 x1 x2 : Int) (ns : List Int) : Prop where
  hb : H b = some (.lst [.int x0, .int x1, .int x2, .ref c])
  hc : H c = some (.lst (ns.map V.int))
  ne : c ≠ b
/-- an expression that only looks -/
def Ev (te : TE) (σ : L2.St) (H : Hp) (v : V) : Prop := ∀ Q : VK, Q v H → te σ H Q
section
variable {K : PySem.W.Frag} {ta tb te : TE} {σ : L2.St} {H : Hp} {b c : Addr} {x0 x1 x2 i j : Int} {ns : List Int} {v : V} {t u : TS} {D : Ends} {k : Bool}
theorem Bg.upd (B : Bg H b c x0 x1 x2 ns) (y0 y1 y2 : Int) : Bg (upd H b (.lst [.int y0, .int y1, .int y2, .ref c])) b c y0 y1 y2 ns := ⟨upd_same, by rw [upd_ne B.ne]; exact B.hc, B.ne⟩
theorem ev_var {n : Nat} (h : σ[n]? = some (some v)) : Ev (tVar n) σ H v := fun Q q => ⟨v, h, q⟩
theorem ev_int : Ev (tC (.int i)) σ H (.int i) := fun Q q => q
theorem ev_rd0 (B : Bg H b c x0 x1 x2 ns) (h : σ[0]? = some (some (.ref b))) : Ev (tOp (rIx K) (tVar 0) (tC (.int 0))) σ H (.int x0) := fun Q q => ⟨_, h, .inl ⟨b, _, 0, _, rfl, rfl, SqL.of B.hb, rfl, q⟩⟩
theorem ev_rd1 (B : Bg H b c x0 x1 x2 ns) (h : σ[0]? = some (some (.ref b))) : Ev (tOp (rIx K) (tVar 0) (tC (.int 1))) σ H (.int x1) := fun Q q => ⟨_, h, .inl ⟨b, _, 1, _, rfl, rfl, SqL.of B.hb, rfl, q⟩⟩
theorem ev_rd2 (B : Bg H b c x0 x1 x2 ns) (h : σ[0]? = some (some (.ref b))) : Ev (tOp (rIx K) (tVar 0) (tC (.int 2))) σ H (.int x2) := fun Q q => ⟨_, h, .inl ⟨b, _, 2, _, rfl, rfl, SqL.of B.hb, rfl, q⟩⟩
theorem ev_rd3 (B : Bg H b c x0 x1 x2 ns) (h : σ[0]? = some (some (.ref b))) : Ev (tOp (rIx K) (tVar 0) (tC (.int 3))) σ H (.ref c) := fun Q q => ⟨_, h, .inl ⟨b, _, 3, _, rfl, rfl, SqL.of B.hb, rfl, q⟩⟩
theorem ev_I {C : Int → Int → Prop} {g : Int → Int → Int} (h1 : Ev ta σ H (.int i)) (h2 : Ev tb σ H (.int j)) (hc : C i j) : Ev (tOp (rI C fun i j => .int (g i j)) ta tb) σ H (.int (g i j)) := fun Q q => h1 _ (h2 _ ⟨i, j, rfl, rfl, hc, q⟩)
theorem ev_I0 {g : Int → Int → Int} (h1 : Ev ta σ H (.int i)) (h2 : Ev tb σ H (.int j)) : Ev (tOp (rI0 fun i j => .int (g i j)) ta tb) σ H (.int (g i j)) := fun Q q => h1 _ (h2 _ ⟨i, j, rfl, rfl, q⟩)
theorem ev_B0 {g : Int → Int → Bool} (h1 : Ev ta σ H (.int i)) (h2 : Ev tb σ H (.int j)) : Ev (tOp (rI0 fun i j => .bl (g i j)) ta tb) σ H (.bl (g i j)) := fun Q q => h1 _ (h2 _ ⟨i, j, rfl, rfl, q⟩)
theorem ev_eq (h1 : Ev ta σ H (.int i)) (h2 : Ev tb σ H (.int j)) : Ev (tOp rEq ta tb) σ H (.bl (decide (i = j))) := fun Q q => h1 _ (h2 _ ⟨rfl, by
  rw [show decide (V.int i = V.int j) = decide (i = j) by rw [dec_int, Bool.beq_eq_decide_eq]]
  exact q⟩)
theorem ev_toInt (h : Ev te σ H (.int i)) : Ev (tCB rIntX (tCons te tNil)) σ H (.int i) := fun Q q => h _ (.inl ⟨i, rfl, q⟩)
theorem ev_lenC (B : Bg H b c x0 x1 x2 ns) (h : Ev te σ H (.ref c)) : Ev (tCB (rLenX K) (tCons te tNil)) σ H (.int (ns.length : Int)) := fun Q q => h _ ⟨_, ns.length, rfl, .inl ⟨_, SqL.of B.hc, (List.length_map ..).symm⟩, q⟩
theorem ev_ixC (B : Bg H b c x0 x1 x2 ns) (h1 : Ev ta σ H (.ref c)) (h2 : Ev tb σ H (.int i)) {m : Int} (hm : atI (ns.map V.int) i = some (.int m)) : Ev (tOp (rIx K) ta tb) σ H (.int m) := fun Q q => h1 _ (h2 _ (.inl ⟨c, _, i, _, rfl, rfl, SqL.of B.hc, hm, q⟩))
theorem st_asg {n : Nat} (h : Ev te σ H v) (k : D.nx (σ.set n (some v)) H) : tAsg te (gName n) D σ H := h _ k
theorem st_set0 (B : Bg H b c x0 x1 x2 ns) (h : Ev te σ H (.int i)) (hs : σ[0]? = some (some (.ref b))) (k : D.nx σ (upd H b (.lst [.int i, .int x1, .int x2, .ref c]))) : tAsg te (gSub (tVar 0) (tC (.int 0)) rSetL) D σ H := h _ ⟨_, hs, b, _, 0, 0, rfl, rfl, B.hb, rfl, k⟩
theorem st_set1 (B : Bg H b c x0 x1 x2 ns) (h : Ev te σ H (.int i)) (hs : σ[0]? = some (some (.ref b))) (k : D.nx σ (upd H b (.lst [.int x0, .int i, .int x2, .ref c]))) : tAsg te (gSub (tVar 0) (tC (.int 1)) rSetL) D σ H := h _ ⟨_, hs, b, _, 1, 1, rfl, rfl, B.hb, rfl, k⟩
theorem st_aug2 (B : Bg H b c x0 x1 x2 ns) (h : Ev te σ H (.int i)) (hs : σ[0]? = some (some (.ref b))) (k : D.nx σ (upd H b (.lst [.int x0, .int x1, .int (x2 + i), .ref c]))) : tAugS (tVar 0) (tC (.int 2)) te (rGetX K) (ipI fun i j => i + j) rSetL D σ H :=
  ⟨_, hs, b, _, 2, _, rfl, rfl, by decide, SqL.of B.hb, rfl, h _ ⟨x2, i, rfl, rfl, b, _, 2, 2, rfl, rfl, B.hb, rfl, k⟩⟩
theorem st_if (h : Ev te σ H (.bl k)) (h1 : k = true → t D σ H) (h2 : k = false → u D σ H) : tIfS (tTest te) t u D σ H := h _ ⟨k, rfl, by
  cases k with
  | true => exact iteT (h1 rfl)
  | false => exact iteF (h2 rfl)⟩
theorem st_seq (h : t { D with nx := u D } σ H) : tSeq t u D σ H := h
theorem seq_both {t1 t2 : TS} (P : L2.St → Hp → Prop) (h1 : ∀ nx, (∀ σ' H', P σ' H' → nx σ' H') → t1 { D with nx := nx } σ H) (h2 : ∀ σ' H', P σ' H' → t2 D σ' H') : tSeq t1 t2 D σ H := h1 _ h2
theorem st_ret (h : Ev te σ H v) (k : D.rt v H) : tRet te D σ H := h _ k
end
/-- the end of a draw -/
def TakeK (H : Hp) (b c : Addr) (m : Int) (Q : VK) : Prop := ∀ r y0 y1 y2 : Int, 0 ≤ r → r < m → 0 ≤ y0 → 0 ≤ y1 → y1 < 2147483647 → 0 ≤ y2 → ∀ H', (∀ a, a ≠ b → H' a = H a) → H' b = some (.lst [.int y0, .int y1, .int y2, .ref c]) → Q (.int r) H'
theorem atI_ns {ns : List Int} {i : Int} (h0 : 0 ≤ i) (h1 : i < ns.length) : atI (ns.map V.int) i = some (.int (ns.getD i.toNat 0)) := by
  obtain ⟨n, rfl⟩ := Int.eq_ofNat_of_zero_le h0
  have hn : n < ns.length := by omega
  refine atI_get ?_
  rw [List.getElem?_map, List.getElem?_eq_getElem hn, List.getD_eq_getElem?_getD, Int.toNat_natCast, List.getElem?_eq_getElem hn]
  rfl
/-! ### values of which is told what they may be -/
def dIn (φ : Int → Prop) : DP := exP φ dI
section
variable {K : PySem.W.Frag} {Ps : List Sl} {ta tb te tc : TE} {tr : TA} {tt : TT} {P P1 P2 : DP} {i j k : Int} {ds es : List PyData} {φ ψ χ : Int → Prop} {c b : Bool} {N : NP} {t u : TS}
theorem j_in (h : JE te Ps (dI i)) (hi : φ i) : JE te Ps (dIn φ) := h.ex i hi
theorem j_opX {α β : Type} {φ : α → Prop} {ψ : β → Prop} {Pf : α → DP} {Pg : β → DP} {r : R2} (ha : JE ta Ps (exP φ Pf)) (hb : JE tb Ps (exP ψ Pg)) (hr : ∀ x y, φ x → ψ y → RVp r (Pf x) (Pg y) P) : JE (tOp r ta tb) Ps P :=
  j_op ha hb fun S B H v w c ⟨x, h1, h2⟩ ⟨y, h3, h4⟩ Q q => hr x y h1 h3 S B H v w c h2 h4 Q q
theorem j_addX (ha : JE ta Ps (dIn φ)) (hb : JE tb Ps (dIn ψ)) (h : ∀ x y, φ x → ψ y → χ (x + y)) : JE (tOp (rI0 fun i j => .int (i + j)) ta tb) Ps (dIn χ) :=
  j_opX ha hb fun x y h1 h2 S B H v w c p1 p2 Q q => rv_I0.p S B H v w c p1 p2 Q fun v' H' r' c' p' => q v' H' r' c' ⟨_, h x y h1 h2, p'⟩
theorem j_subX (ha : JE ta Ps (dIn φ)) (hb : JE tb Ps (dIn ψ)) (h : ∀ x y, φ x → ψ y → χ (x - y)) : JE (tOp (rI0 fun i j => .int (i - j)) ta tb) Ps (dIn χ) :=
  j_opX ha hb fun x y h1 h2 S B H v w c p1 p2 Q q => rv_I0.p S B H v w c p1 p2 Q fun v' H' r' c' p' => q v' H' r' c' ⟨_, h x y h1 h2, p'⟩
theorem j_mulX (ha : JE ta Ps (dIn φ)) (hb : JE tb Ps (dIn ψ)) (hc : ∀ x y, φ x → ψ y → CMul x y) (h : ∀ x y, φ x → ψ y → χ (x * y)) : JE (tOp (rI CMul fun i j => .int (i * j)) ta tb) Ps (dIn χ) :=
  j_opX ha hb fun x y h1 h2 S B H v w c p1 p2 Q q => (rv_I (hc x y h1 h2)).p S B H v w c p1 p2 Q fun v' H' r' c' p' => q v' H' r' c' ⟨_, h x y h1 h2, p'⟩
/-- an item, the place drawn -/
theorem j_ixX {ρ : PyData → Prop} (ha : JE ta Ps (da (.list ds))) (hb : JE tb Ps (dIn φ)) (h : ∀ x, φ x → ∃ d, atI ds x = some d ∧ ρ d) : JE (tOp (rIx K) ta tb) Ps (exP ρ da) :=
  j_op ha hb fun S B H v w c p1 ⟨x, h1, h2⟩ Q q => by
    obtain ⟨d, hd, hr⟩ := h x h1
    obtain ⟨a, xs, rfl, g1, g2⟩ := Da.list_inv p1
    obtain ⟨y, g3, g4⟩ := atI_da g2 hd
    cases (show Da _ w (.int x) from h2)
    exact .inl ⟨a, xs, x, y, rfl, rfl, SqL.of (sub_some g1).2, g3, q _ H (R.refl H) c ⟨d, hr, g4⟩⟩
/-- a test on what was drawn -/
theorem jtx_eq (ha : JE ta Ps (dIn φ)) (hb : JE tb Ps (dI j)) : JTx (tTest (tOp rEq ta tb)) Ps (fun b => ∃ x, φ x ∧ b = decide (x = j)) := fun S B H σ c s Q q =>
  ha S B H σ c s _ fun v H1 r1 c1 ⟨x, h1, h2⟩ => hb S B H1 σ c1 (s.step c r1) _ fun w H2 r2 c2 p2 => by
    cases (show Da _ v (.int x) from h2)
    cases (show Da _ w (.int j) from p2)
    refine ⟨rfl, _, rfl, ?_⟩
    rw [show decide (V.int x = V.int j) = decide (x = j) by rw [dec_int, Bool.beq_eq_decide_eq]]
    exact q _ H2 (r1.trans r2) c2 ⟨x, h1, rfl⟩
/-- either, by a test that may be either -/
theorem j_ifX {α : Bool → Prop} (h : JTx tt Ps α) (h1 : JE ta Ps P) (h2 : JE tb Ps P) : JE (tIf tt ta tb) Ps P := fun S B H σ cc s Q q => h S B H σ cc s _ fun b H1 r1 c1 _ => by
  cases b with
  | true => exact h1 S B H1 σ c1 (s.step cc r1) Q fun v H2 r2 c2 p2 => q v H2 (r1.trans r2) c2 p2
  | false => exact h2 S B H1 σ c1 (s.step cc r1) Q fun v H2 r2 c2 p2 => q v H2 (r1.trans r2) c2 p2
/-- lists of drawn things -/
def JDx (tr : TA) (Ps : List Sl) (ρ : List PyData → Prop) : Prop := ∀ (S : AS) (B : Option Addr) (H : Hp) (σ : L2.St), Cond S B H → Slots S B H σ Ps → ∀ Q : List V → Hp → Prop, (∀ vs ds H', R B H H' → Cond S B H' → ρ ds → DaAll (sub H' S) vs ds → Q vs H') → tr σ H Q
theorem jdx_nil : JDx tNil Ps (fun ds => ds = []) := fun S B H σ c s Q q => q [] [] H (R.refl H) c rfl .nil
theorem jdx_cons {ρ : List PyData → Prop} {α : PyData → Prop} (h : JE te Ps (exP α da)) (hr : JDx tr Ps ρ) : JDx (tCons te tr) Ps (fun ds => ∃ d es, ds = d :: es ∧ α d ∧ ρ es) := fun S B H σ c s Q q =>
  h S B H σ c s _ fun v H1 r1 c1 ⟨d, h1, p1⟩ => hr S B H1 σ c1 (s.step c r1) _ fun vs ds H2 r2 c2 h2 p2 => q _ (d :: ds) H2 (r1.trans r2) c2 ⟨d, ds, rfl, h1, h2⟩ (.cons (Da.mono (r2.sub c1) p1) p2)
theorem j_lstX {ρ : List PyData → Prop} (h : JDx tr Ps ρ) (hz : ∀ ds, ρ ds → ds.length ≤ 100000) : JE (tLst tr) Ps (exP ρ fun ds => da (.list ds)) := fun S B H σ c s Q q =>
  h S B H σ c s _ fun vs ds H1 r1 c1 h1 p1 => ⟨by rw [p1.len]; exact Nat.le_trans (hz ds h1) (by decide), fun p hp => by
    have e := same_upd (o := .lst vs) hp
    exact q _ _ (r1.trans (.of e)) (c1.same e) ⟨ds, h1, .lst (by rw [sub_in (c1.fresh hp), upd_same]) (p1.mono (sub_same e))⟩⟩
theorem j_tupX {ρ : List PyData → Prop} (h : JDx tr Ps ρ) (hz : ∀ ds, ρ ds → ds.length ≤ 100000) : JE (tTup tr) Ps (exP ρ fun ds => da (.tuple ds)) := fun S B H σ c s Q q =>
  h S B H σ c s _ fun vs ds H1 r1 c1 h1 p1 => ⟨by rw [p1.len]; exact Nat.le_trans (hz ds h1) (by decide), fun p hp => by
    have e := same_upd (o := .tup vs) hp
    exact q _ _ (r1.trans (.of e)) (c1.same e) ⟨ds, h1, .tup (by rw [sub_in (c1.fresh hp), upd_same]) (p1.mono (sub_same e))⟩⟩
/-- what was drawn goes on -/
theorem j_bind {α : Type} {φ : α → Prop} {Pf : α → DP} {P' : DP} (h : JE te Ps (exP φ Pf)) (w : ∀ x, φ x → ∀ H v, (Pf x).p H v → P'.p H v) : JE te Ps P' := h.weak fun H v ⟨x, h1, h2⟩ => w x h1 H v h2
/-- an argument that was drawn -/
theorem j_callX {α β : Type} {ins : α → List DP} {pre : α → Prop} {out : α → DP} {E : XK} {φ : β → Prop} {Pf : β → List DP} {P' : DP} (h : ∀ (S : AS) (B : Option Addr) (H : Hp) (σ : L2.St), Cond S B H → Slots S B H σ Ps → ∀ Q : List V → Hp → Prop, (∀ vs H' x, φ x → R B H H' → Cond S B H' → All2 (sub H' S) vs (Pf x) → Q vs H') → tr σ H Q)
    (hx : ∀ y, φ y → ∃ x, ins x = Pf y ∧ pre x ∧ ∀ H v, (out x).p H v → P'.p H v) : JE (tCall (PureSp ins pre out) [] E tr) Ps P' := fun S B H σ c s Q q =>
  h S B H σ c s _ fun vs H1 y hy r1 c1 p1 => by
    obtain ⟨x, e1, e2, e3⟩ := hx y hy
    exact ⟨S, x, c1.live, e2, by rw [List.append_nil, e1]; exact p1, fun v H2 s2 p2 => q v H2 (r1.trans (.of s2)) (c1.same s2) (e3 _ _ p2)⟩
/-- a slot of which is told what it may hold -/
theorem js_open {α : Type} {φ : α → Prop} {Pf : α → DP} {n : Nat} (hn : Ps[n]? = some (.pl (exP φ Pf))) (h : ∀ x, φ x → JS t (Ps.set n (.pl (Pf x))) N P) : JS t Ps N P := fun S0 B H0 G D σ H ⟨S, z⟩ nx r => by
  obtain ⟨v, h1, x, h2, h3⟩ := z.sl.get hn (by intro z; cases z)
  have hi : n < σ.length := (List.getElem?_eq_some_iff.mp h1).1
  have e : σ.set n (some v) = σ := by
    refine List.ext_getElem? fun j => ?_
    by_cases hj : n = j
    · subst hj; rw [List.getElem?_set_self hi, h1]
    · rw [List.getElem?_set_ne hj]
  have q := z.set n (P := Pf x) h3
  rw [e] at q
  exact h x h2 S0 B H0 G D σ H ⟨S, q⟩ nx r
theorem j_lcX {γ : Type} {xs : List γ} {enc : γ → PyData} {α : PyData → Prop} {wi : TI} {g : L2.TG} {te : TE} {vs : List Nat} (hw : JW wi Ps (xs.map enc)) (hz : xs.length ≤ 50000)
    (h : ∀ x ∈ xs, ∃ is es, TG g (enc x) is es ∧ (∀ i ∈ is, i ∈ vs) ∧ JE te (setS (wipeP Ps vs) is es) (exP α da)) :
    JE (tLc wi g tYes te vs) Ps (exP (fun ds => ds.length = xs.length ∧ ∀ d ∈ ds, α d) fun ds => da (.list ds)) := fun S B H σ c s Q q => by
  refine hw S B H σ c s _ fun J H1 Gd Y r1 c1 w hg hy => ?_
  have s1 := s.step c r1
  rw [List.length_map] at w hy
  intro D hD
  refine lc_it w (fun i H' => ∃ ds, ds.length = i ∧ (∀ d ∈ ds, α d) ∧ LcI S B H1 D H' ds) ⟨[], rfl, (fun _ h => nomatch h), .start c1 hD⟩ (fun i H' _ ⟨ds, _, _, I⟩ => hg H' ((I.ext c1 hD).same.trans sub_le)) ?_ ?_
  · rintro i x H' H'' hi ⟨ds, hl, hα, I⟩ hyv
    obtain ⟨sm, dd, hd, hda⟩ := hy i H' x H'' hi ((I.ext c1 hD).same.trans sub_le) hyv
    rw [List.getElem?_map, List.getElem?_eq_getElem hi] at hd
    cases hd
    obtain ⟨is, es, tg, hsub, he⟩ := h _ (List.getElem_mem hi)
    have c3 := I.c.same sm
    have I3 := I.step c1 hD (.of sm) c3
    have e3 := I3.ext c1 hD
    have dax := hda (fun a => S a ∨ a = D) I.c.live fun a z => z.imp id fun e => by rw [e]; exact hD
    refine tg (sub H'' fun a => S a ∨ a = D) H'' _ x sub_le dax _ fun vv hvv => ?_
    have sk := ((s1.ext e3).wipe vs).setAll (is := is) hvv
    refine ⟨by rw [wipe_setV hsub, wipe_idem], ?_⟩
    refine jt_yes _ B H'' _ c3 sk _ fun H4 r4 c4 => iteT ?_
    refine he _ B H4 _ c4 (sk.step c3 r4) _ fun y H5 r5 c5 ⟨d, hαd, p5⟩ => ?_
    have I5 := (I3.step c1 hD r4 c4).step c1 hD r5 c5
    obtain ⟨acc, a1, a2, a3⟩ := I5.push c1 hD p5 (by omega)
    refine ⟨acc, a1, a2, ds ++ [d], by rw [List.length_append, hl]; rfl, fun d' hd' => ?_, a3⟩
    rcases List.mem_append.mp hd' with z | z
    · exact hα d' z
    · rw [List.mem_singleton.mp z]; exact hαd
  · rintro H' ⟨ds, hl, hα, I⟩
    obtain ⟨acc, h1, h2⟩ := I.ex
    have e := I.ext c1 hD
    exact q _ H' (r1.trans I.r) e.low ⟨ds, ⟨hl, hα⟩, .lst (by rw [sub_in (c1.fresh hD)]; exact h1) (h2.mono (sub_mono e.up))⟩
/-- a walk, its length drawn -/
def JWx (wi : TI) (Ps : List Sl) (Δ : List PyData → Prop) : Prop := ∀ (S : AS) (B : Option Addr) (H : Hp) (σ : L2.St), Cond S B H → Slots S B H σ Ps → ∀ Rr : It → Hp → Prop,
  (∀ (ds : List PyData) (J : It) (H1 : Hp) (G : Hp → Prop) (Y : Nat → Hp → V → Hp → Prop), Δ ds → R B H H1 → Cond S B H1 → Walk J ds.length G Y → (∀ H', Same (sub H1 S) H' → G H') →
    (∀ i H' x H'', i < ds.length → Same (sub H1 S) H' → Y i H' x H'' → Same H' H'' ∧ ∃ d, ds[i]? = some d ∧ ∀ S' : AS, (∀ a, S' a → ∃ o, H' a = some o) → (∀ a, S' a → S a ∨ H1 a = none) → Da (sub H'' S') x d) → Rr J H1) → wi σ H Rr
theorem jwx_rng1 (h : JE te Ps (dIn φ)) (hj : ∀ j, φ j → -100000 ≤ j ∧ j ≤ 100000) : JWx (iRng1 (tCons te tNil)) Ps (fun ds => ∃ j, φ j ∧ ds = irng j.toNat fun i => (i : Int)) := fun S B H σ c s Rr q => h S B H σ c s _ fun v H1 r1 c1 ⟨j, hφ, hv⟩ => by
  cases (show Da _ v (.int j) from hv)
  have hb := hj j hφ
  refine ⟨j, rfl, by omega, by omega, jw_fn (f := fun i => (i : Int)) (S := S) ?_ fun G Y => q _ _ H1 G Y ⟨j, hφ, rfl⟩ r1 c1⟩
  have w := walk_range (lo := 0) (n := j.toNat)
  exact ⟨w.goes, w.stops, fun i H x H' hi g y => by
    obtain ⟨e1, e2⟩ := w.yields i H x H' hi g y
    exact ⟨e1, by rw [e2]; show V.int (0 + (i : Int)) = V.int (i : Int); rw [Int.zero_add]⟩⟩
theorem js_forX {wi : TI} {g : L2.TG} {tb : TS} {Δ : List PyData → Prop} (hw : JWx wi Ps Δ) (I : Nat → NP) (h0 : Wk (I 0) Ps) (hs : ∀ ds, Δ ds → ∀ (i : Nat) (d : PyData) (Qs : List Sl), ds[i]? = some d → I i Qs → ∃ is es, TG g d is es ∧ JS tb (setS Qs is es) (Wk (I (i + 1))) P) : JS (tFor wi g tb) Ps (fun Qs => ∃ ds, Δ ds ∧ I ds.length Qs) P := fun S0 B H0 G D σ H ⟨S, x⟩ n r => by
  refine hw S B H σ x.cond x.sl _ fun ds J H1 Gd Y hΔ r1 c1 w hg hy => ?_
  have x1 := x.step r1 c1
  have xk : AtS S0 B H0 (sub H1 S) S Ps σ H1 := { x1 with know := .refl _ }
  have kn : ∀ {Qs : List Sl} {σ' : L2.St} {H' : Hp}, At S0 B H0 (sub H1 S) Qs σ' H' → At S0 B H0 G Qs σ' H' := fun ⟨S', y⟩ => ⟨S', { y with know := x1.know.trans y.know }⟩
  refine for_it w (fun i σ' H' => ∃ S' Qs, AtS S0 B H0 (sub H1 S) S' Qs σ' H' ∧ (∀ a, S' a → S a ∨ H1 a = none) ∧ I i Qs) ?_ (fun i σ' H' _ ⟨S', Qs, y, _, _⟩ => hg H' (y.know.trans sub_le)) ?_ ?_
  · obtain ⟨Qs, w0, q0⟩ := h0
    exact ⟨S, Qs, xk.weak w0, fun a z => .inl z, q0⟩
  · rintro i v σ' H' H'' hi ⟨S', Qs, y, nw, q⟩ hv
    obtain ⟨sm, d, hd, hda⟩ := hy i H' v H'' hi (y.know.trans sub_le) hv
    obtain ⟨is, es, tg, body⟩ := hs ds hΔ i d Qs hd q
    have y2 : AtS S0 B H0 (sub H1 S) S' Qs σ' H'' := y.step (.of sm) (y.cond.same sm)
    have dd : Da (sub H'' S') v d := hda S' y.cond.live nw
    refine tg (sub H'' S') H'' σ' v sub_le dd _ fun vs hvs => ?_
    refine body S0 B H0 (sub H1 S) _ _ _ ⟨S', y2.setAll hvs⟩ (fun Rs σ3 H3 wk z => ?_) fun v3 H3 f => r v3 H3 f
    obtain ⟨Rs', w3, q3⟩ := wk
    obtain ⟨S3, z3⟩ := z
    refine ⟨S3, Rs', z3.weak w3, fun a ha => ?_, q3⟩
    by_cases hS : S a
    · exact .inl hS
    · refine .inr ?_
      cases q : H1 a with
      | none => rfl
      | some o =>
        have := z3.know a o (by rw [sub_in hS]; exact q)
        rw [sub_out ha] at this
        cases this
  · rintro σ' H' ⟨S', Qs, y, _, q⟩
    exact n Qs σ' H' ⟨ds, hΔ, q⟩ (kn ⟨S', y⟩)
end
end LK
/-! text W9 -/
namespace LK
open PySem PySem.Spec PyProof.Rows L2
section
variable {P : Program} {w : World} {K : PySem.W.Frag} {mg : Str → Option Value} {base : Heap} {C : Addr}
structure BkOk (m : Nat) (b : Bk) : Prop where
  first : 0 ≤ b.1
  price : ∀ p ∈ b.2, 0 ≤ p.2
  len : b.2.length ≤ m
  rise : ∀ i, i + 1 < b.2.length → ∀ p q, b.2[i]? = some p → b.2[i + 1]? = some q → p.1 < q.1
def mvB (b : Bk) (k : Int) : Bk := (b.1, b.2.map fun p => (p.1 + k, p.2))
theorem BkOk.mv {m : Nat} {b : Bk} (h : BkOk m b) (k : Int) : BkOk m (mvB b k) := by
  refine ⟨h.first, fun p hp => ?_, by unfold mvB; rw [List.length_map]; exact h.len, fun i hi p q hp hq => ?_⟩
  · obtain ⟨x, hx, rfl⟩ := List.mem_map.mp hp
    exact h.price x hx
  · unfold mvB at hi hp hq
    rw [List.length_map] at hi
    rw [List.getElem?_map] at hp hq
    rw [List.getElem?_eq_getElem (by omega)] at hp hq
    cases hp
    cases hq
    have := h.rise i hi _ _ (List.getElem?_eq_getElem (by omega)) (List.getElem?_eq_getElem hi)
    show _ + k < _ + k
    omega
theorem BkOk.init {m : Nat} {b : Bk} (h : BkOk m b) (hm : m ≤ 1000) : 0 ≤ b.1 ∧ (∀ p ∈ b.2, 0 ≤ p.2) ∧ b.2.length ≤ 1000 ∧ ∀ i, i + 1 < b.2.length → ∀ p q, b.2[i]? = some p → b.2[i + 1]? = some q → p.1 < q.1 := ⟨h.first, h.price, Nat.le_trans h.len hm, h.rise⟩
abbrev spm_moved (C : Addr) : Sp := PureSp (fun x : Bk × Int => [isBk C x.1, dI x.2]) (fun x => BkOk 7 x.1) (fun x => isBk C (mvB x.1 x.2))
theorem jm_moved {Ps : List Sl} {E : XK} {te : TE} {tr : TA} (x : Bk × Int) (h0 : JE te Ps (isBk C x.1)) (h : JA tr Ps ([dI x.2])) (hp : BkOk 7 x.1) : JE (tMeth C "moved" (spm_moved C) [] E te tr) Ps (isBk C (mvB x.1 x.2)) := j_meth x h0 (by decide) h rfl hp
theorem m_moved (D : Met1 K C "moved" "Book.moved" (inClass (topS 13) 10)) (mkBook : C8.Mak P w K mg base 4 "Book" C (InitSp C) []) (cC : Cls K C) (nC : NoAttr K C "its_changes") (nP : NoAttr K C "its_prices") : C8.Met P w K mg base 6 C "moved" (spm_moved C) [] :=
  mkMet (N := ["self", "by", "moment", "price"]) (ps := ["self", "by"]) (n := 2) D (C8.fnScope_by (by decide +kernel)) (fun _ _ _ _ _ _ us hl => match us, hl with | [_, _], _ => rfl) (fun _ => rfl) rfl fun f cdv A outer s H E hr => by
    have nd : (["self", "by", "moment", "price"] : List Str).Nodup := by decide +kernel
    have hu : (XX P w K mg base ["self", "by", "moment", "price"] "Book.moved" (inClass (topS 13) 10) f cdv A outer s H E).A.units + 1 < cLine := by have := hr.un; omega
    exact ⟨_, (pss_one (ps_ret (C8.pe_mk mkBook hr (by decide) (by rfl) (pa_cons (pe_ix ix_seq (pe_fld (pv 0) rfl) pe_int (fun _ _ => rfl)) (pa_cons (pe_lc (own := [("moment", 2), ("price", 3)]) rfl nd (pi_tup (pe_fld (pv 0) rfl)) (blkOk_by (N := ["self", "by", "moment", "price"]) (sc := defScope (inClass (topS 13) 10)) (by decide +kernel)) (fun _ _ _ _ _ => (pg_tupB (n := 2) (by rfl) (pgs_cons (pg_name (i := 2) nd rfl (.inl rfl)) (pgs_cons (pg_name (i := 3) nd rfl (.inl rfl)) pgs_nil)))) (fun _ _ _ _ _ => pts_nil) (fun _ _ _ _ _ => (pe_tup (pa_cons (pe_op op_add (pv 2) (pv 1)) (pa_cons (pv 3) pa_nil))))) pa_nil))))),
      fun ⟨b, k⟩ h => by
        have h : BkOk 7 b := h
        have hl := h.len
        refine js_ret (j_mk (bk := mvB b k) (j_ixT (j_fldP cC nP (j_var rfl)) j_int (atI_get (j := 0) rfl)) (JE.ex false trivial ((j_lcA (xs := b.2) (enc := chgD) (v := fun p => chgD (p.1 + k, p.2)) (jw_tup (j_fldC cC nC (j_var rfl))) (by omega) fun p _ => ⟨[2, 3], [.int p.1, .int p.2], tg_2, by simp, j_tup (jd_cons (j_I0 (j_var rfl) (j_var rfl)) (jd_cons (j_var rfl) jd_nil)) (by show 2 ≤ 100000; decide)⟩).dat ?_)) ((h.mv k).init (by decide)))
        show PyData.list _ = .list ((mvB b k).2.map chgD)
        unfold mvB
        rw [List.map_map]
        rfl⟩
/-- a list of ints, wherever it stands -/
def isSq (K : PySem.W.Frag) (ns : List Int) : DP := ⟨fun H v => ∃ a, v = .ref a ∧ SqL K H a (ns.map V.int), fun {H H' v} e ⟨a, h1, h2⟩ => ⟨a, h1, by
  rcases h2 with h2 | h2
  · rcases h2 with h2 | ⟨o, h2⟩
    · exact .inl (.inl (e _ _ h2))
    · exact .inl (.inr ⟨o, e _ _ h2⟩)
  · exact .inr h2⟩⟩
theorem j_slSq {Ps : List Sl} {n : Nat} {ns : List Int} {tl th : TO} {lo hi : Option Int} (hn : Ps[n]? = some (.pl (isSq K ns))) (h1 : JO tl Ps lo) (h2 : JO th Ps hi) : JE (tSl (rSlL K) (tVar n) tl th) Ps (da (.list (cutD (ns.map .int) lo hi))) := fun S B H σ c s Q q => by
  obtain ⟨v, g1, a, rfl, g2⟩ := s.get hn (by intro z; cases z)
  refine ⟨_, g1, h1 S B H σ c s _ fun H2 r2 c2 => h2 S B H2 σ c2 (s.step c r2) _ fun H3 r3 c3 => ?_⟩
  have s3 := (s.step c r2).step c2 r3
  obtain ⟨v', g1', a', e', g2'⟩ := s3.get hn (by intro z; cases z)
  rw [g1] at g1'
  cases g1'
  cases e'
  have g3 : SqL K H3 a (ns.map V.int) := ((isSq K ns).mono (sub_le (H := H3) (S := S)) ⟨a, rfl, g2'⟩).elim fun x h => by
    cases h.1
    exact h.2
  refine ⟨a, _, rfl, g3, fun p hp => ?_⟩
  have e := same_upd (o := .lst (cutV (ns.map V.int) lo hi)) hp
  refine q _ _ ((r2.trans r3).trans (.of e)) (c3.same e) (.lst (by rw [sub_in (c3.fresh hp), upd_same]) ?_)
  exact cutV_da (DaAll.of_ints ns) lo hi
def bagD (ns : List Int) : PyData := .list [.int 0, .int 1234567891, .int 0, intsD ns]
theorem cut_ints (ns : List Int) (lo hi : Option Int) : ∃ ms : List Int, cutD (ns.map PyData.int) lo hi = ms.map .int ∧ ms.length ≤ ns.length := by
  unfold cutD
  rw [List.length_map]
  refine ⟨(ns.drop (HT.sIx ns.length 0 lo)).take (HT.sIx ns.length ns.length hi - HT.sIx ns.length 0 lo), by rw [← List.map_drop, ← List.map_take], ?_⟩
  rw [List.length_take, List.length_drop]
  omega
abbrev sp_law_bag (K : PySem.W.Frag) : Sp := PureSp (fun x : List Int => [isSq K x]) (fun x => x.length ≤ 1000) (fun _ => exP (fun ns : List Int => ∀ n ∈ ns, 0 ≤ n) fun ns => da (bagD ns))
theorem cal_law_bag (D : Def1 K mg "_law_bag" (topS 45)) (T : Top mg) : C8.Cal P w K mg base 1 "_law_bag" (sp_law_bag K) [] :=
  mkPure (N := ["_law_script", "_law_cell"]) (ps := ["_law_script"]) (n := 1) D (C8.fnScope_by (by decide +kernel)) (fun _ _ _ _ _ _ us hl => match us, hl with | [_], _ => rfl) (fun _ => rfl) rfl fun f cdv A outer s H E hr => by
    have nd : (["_law_script", "_law_cell"] : List Str).Nodup := by decide +kernel
    exact ⟨_, (pss_one (ps_ret (pe_lst (pa_cons pe_int (pa_cons pe_int (pa_cons pe_int (pa_cons (pe_lc (own := [("_law_cell", 1)]) rfl nd (pi_list (pe_slice sl_list (pv 0) po_none (po_some pe_int))) (blkOk_by (N := ["_law_script", "_law_cell"]) (sc := defScope (topS 45)) (by decide +kernel)) (fun _ _ _ _ _ => (pg_name (i := 1) nd rfl (.inl rfl))) (fun _ _ _ _ _ => pts_nil) (fun _ _ _ _ _ => (pe_callB call_absX (by rfl) T.abs_ (by decide +kernel) (pa_cons (pv 1) pa_nil)))) pa_nil))))))),
      fun ns hl => by
        have hl : ns.length ≤ 1000 := hl
        obtain ⟨ms, e, hm⟩ := cut_ints ns none (some 63)
        refine (js_ret (j_lst (jd_cons j_int (jd_cons j_int (jd_cons j_int (jd_cons (j_lcA (xs := ms) (enc := .int) (v := fun i => .int (if i < 0 then -i else i)) ((jw_list (j_slSq rfl jo_none (jo_some j_int))).is e) (by omega) fun i _ => ⟨[1], [.int i], tg_name, by simp, j_abs (j_var rfl)⟩) jd_nil)))) (by show 4 ≤ 100000; decide))).outw fun H v p => ⟨ms.map fun i => if i < 0 then -i else i, fun n hn => ?_, ?_⟩
        · obtain ⟨i, _, rfl⟩ := List.mem_map.mp hn
          split <;> omega
        · have p' : Da H v (.list [.int 0, .int 1234567891, .int 0, .list (ms.map fun i => .int (if i < 0 then -i else i))]) := p
          show Da H v (bagD _)
          unfold bagD intsD
          rw [List.map_map]
          exact p'⟩
abbrev sp_law_take : Sp := DrawSp (fun x : Int => [dI x]) (fun x => 0 < x ∧ x < 1000000) (fun x => dIn fun r => 0 ≤ r ∧ r < x)
theorem jc_law_take {Ps : List Sl} {E : XK} {te : TE} {n : Nat} (x : Int) (hb : Ps[n]? = some .bag) (h : JE te Ps (dI x)) (hp : 0 < x ∧ x < 1000000) : JE (tCall sp_law_take [] E (tCons (tVar n) (tCons te tNil))) Ps (dIn fun r => 0 ≤ r ∧ r < x) := j_draw x hb (ja_cons h ja_nil) hp
theorem cal_law_take (D : Def1 K mg "_law_take" (topS 46)) (T : Top mg) : C8.Cal P w K mg base 1 "_law_take" sp_law_take [] := by
  obtain ⟨f, fd, F, hm⟩ := D.ex
  refine ⟨f, fd, ["_law_bag_here", "_law_many"], [], F.ok (N := ["_law_bag_here", "_law_many", "_law_cell", "_law_mixed", "_law_drawn", "_law_early", "_law_second"]) (k := 0) (C8.fnScope_by (by decide +kernel)) (fun vs H Q E h => ?_) (fun cdv A outer s H vs Q E hr hs => ?_), hm, F.kp, F.bindsN fun _ _ _ _ _ _ us hl => match us, hl with | [_, _], _ => rfl, .nil⟩
  · obtain ⟨S', b, y, us, rfl, _, _, a, _⟩ := h
    rw [List.length_cons, a.len]
    rfl
  · obtain ⟨S, b, m, us, rfl, cd, ⟨hm0, hm1⟩, al, q⟩ := hs
    obtain ⟨u, rfl, hu⟩ : ∃ u, us = [u] ∧ Da (sub H S) u (.int m) := by
      cases al with
      | cons h1 h2 => cases h2; exact ⟨_, rfl, h1⟩
    cases hu
    have nd : (["_law_bag_here", "_law_many", "_law_cell", "_law_mixed", "_law_drawn", "_law_early", "_law_second"] : List Str).Nodup := by decide +kernel
    suffices h : ∃ t, PSs (XX P w K mg base ["_law_bag_here", "_law_many", "_law_cell", "_law_mixed", "_law_drawn", "_law_early", "_law_second"] "_law_take" (topS 46) f cdv A outer s H E) (defBody (topS 46)) t ∧ t { nx := fun _ H' => Q .non H', rt := Q } (start ["_law_bag_here", "_law_many", "_law_cell", "_law_mixed", "_law_drawn", "_law_early", "_law_second"] [.ref b, .int m]) H by
      obtain ⟨t, h1, h2⟩ := h
      exact ⟨t, h1.nox, h2⟩
    refine ⟨_, (pss_cons (ps_if (pt_cmpR op_eq (pe_ix ix_seq (pv 0) pe_int (fun _ _ => rfl)) pe_int (nomark _)) (pss_cons (ps_set (i := 2) nd rfl (.inl rfl) pe_int) (pss_cons (ps_if (pt_cmpR op_lt (pe_ix ix_seq (pv 0) pe_int (fun _ _ => rfl)) (pe_callB call_lenX (by rfl) T.len_ (by decide +kernel) (pa_cons (pe_ix ix_seq (pv 0) pe_int (fun _ _ => rfl)) pa_nil)) (nomark _)) (pss_one (ps_set (i := 2) nd rfl (.inl rfl) (pe_ix ix_seq (pe_ix ix_seq (pv 0) pe_int (fun _ _ => rfl)) (pe_ix ix_seq (pv 0) pe_int (fun _ _ => rfl)) (fun _ _ => rfl)))) pss_nil) (pss_cons (ps_augS (pv 0) pe_int get_list pe_int ip_add set_list (fun _ _ _ => rfl)) (pss_cons (ps_if (pt_cmpR op_ge (pv 2) pe_int (nomark _)) (pss_one (ps_asg (pv 2) (pg_sub (pv 0) pe_int set_list))) pss_nil) (pss_cons (ps_set (i := 3) nd rfl (.inl rfl) (pe_op op_add (pe_op op_add (pe_op op_mul (pe_ix ix_seq (pv 0) pe_int (fun _ _ => rfl)) pe_int) (pe_op op_mod (pe_callTy call_intX (by rfl) T.int_ (by decide +kernel) (pa_cons (pv 2) pa_nil)) pe_int)) (pe_op op_mul pe_int (pe_ix ix_seq (pv 0) pe_int (fun _ _ => rfl))))) (pss_one (ps_asg (pe_op op_mod (pe_callTy call_intX (by rfl) T.int_ (by decide +kernel) (pa_cons (pv 3) pa_nil)) pe_int) (pg_sub (pv 0) pe_int set_list)))))))) pss_nil) (pss_cons (ps_if (pt_cmpR op_gt (pe_ix ix_seq (pv 0) pe_int (fun _ _ => rfl)) pe_int (nomark _)) (pss_cons (ps_set (i := 4) nd rfl (.inl rfl) (pe_op op_mod (pe_callTy call_intX (by rfl) T.int_ (by decide +kernel) (pa_cons (pe_ix ix_seq (pv 0) pe_int (fun _ _ => rfl)) pa_nil)) (pv 1))) (pss_cons (ps_asg (pe_op op_fdivN (pe_ix ix_seq (pv 0) pe_int (fun _ _ => rfl)) (pv 1)) (pg_sub (pv 0) pe_int set_list)) (pss_one (ps_ret (pv 4))))) pss_nil) (pss_cons (ps_set (i := 5) nd rfl (.inl rfl) (pe_op op_mod (pe_callTy call_intX (by rfl) T.int_ (by decide +kernel) (pa_cons (pe_op op_mul (pe_op op_add (pe_ix ix_seq (pv 0) pe_int (fun _ _ => rfl)) pe_int) pe_int) pa_nil)) pe_int)) (pss_cons (ps_set (i := 6) nd rfl (.inl rfl) (pe_op op_mod (pe_callTy call_intX (by rfl) T.int_ (by decide +kernel) (pa_cons (pe_op op_mul (pe_op op_mod (pe_callTy call_intX (by rfl) T.int_ (by decide +kernel) (pa_cons (pe_op op_mul (pv 5) (pv 5)) pa_nil)) pe_int) pe_int) pa_nil)) pe_int)) (pss_one (ps_ret (pe_op op_mod (pe_callTy call_intX (by rfl) T.int_ (by decide +kernel) (pa_cons (pe_op op_fdivN (pv 6) pe_int) pa_nil)) (pv 1)))))))), ?_⟩
    obtain ⟨hSb, x0, x1, x2, c, ns, g1, g2, g3, g4, g5, g6, g7, g8⟩ := cd.bag b rfl
    have ncb : c ≠ b := fun z => g6 (z ▸ hSb)
    have fin : TakeK H b c m Q := fun r y0 y1 y2 k1 k2 k3 k4 k5 k6 H' k7 k8 => q (.int r) H' (fun a o ha => ⟨fun na => by rw [k7 a fun z => na (by rw [z])]; exact ha, by
        by_cases ea : a = b
        · exact ⟨_, by rw [ea]; exact k8⟩
        · exact ⟨o, by rw [k7 a ea]; exact ha⟩⟩) ⟨fun a ha => by
        by_cases ea : a = b
        · exact ⟨_, by rw [ea]; exact k8⟩
        · rw [k7 a ea]; exact cd.live a ha, fun b' hb' => by
        cases hb'
        exact ⟨hSb, y0, y1, y2, c, ns, k8, k3, k4, k5, k6, g6, by rw [k7 c ncb]; exact g7, g8⟩⟩ ⟨r, ⟨k1, k2⟩, .int r⟩
    let Pm : L2.St → Hp → Prop := fun σ' H' => σ'[0]? = some (some (.ref b)) ∧ σ'[1]? = some (some (.int m)) ∧ σ'.length = 7 ∧ ∃ y0 y1 y2, Bg H' b c y0 y1 y2 ns ∧ (∀ a, a ≠ b → H' a = H a) ∧ 0 ≤ y0 ∧ 0 ≤ y1 ∧ y1 < 2147483647 ∧ 0 ≤ y2
    have B : Bg H b c x0 x1 x2 ns := ⟨g1, g7, ncb⟩
    refine seq_both Pm (fun nx hnx => ?_) fun σ' H' ⟨s0, s1, sl, y0, y1, y2, B', kH, k0, k1, k2, k3⟩ => ?_
    · refine st_if (ev_eq (ev_rd0 B rfl) ev_int) (fun h0 => ?_) fun h0 => hnx _ _ ⟨rfl, rfl, rfl, x0, x1, x2, B, fun a _ => rfl, g2, g3, g4, g5⟩
      refine st_seq (st_asg ev_int ?_)
      dsimp only
      let Pc : L2.St → Hp → Prop := fun σ' H' => σ'[0]? = some (some (.ref b)) ∧ σ'[1]? = some (some (.int m)) ∧ σ'.length = 7 ∧ H' = H ∧ ∃ w : Int, 0 ≤ w ∧ σ'[2]? = some (some (.int w))
      refine seq_both Pc (fun nx2 hnx2 => ?_) fun σ1 H1 ⟨s0, s1, sl, eH, cw, hw, s2⟩ => ?_
      · refine st_if (ev_B0 (ev_rd2 B rfl) (ev_lenC B (ev_rd3 B rfl))) (fun hlt => st_asg (ev_ixC B (ev_rd3 B rfl) (ev_rd2 B rfl) (atI_ns g5 (of_decide_eq_true hlt))) (hnx2 _ _ ⟨rfl, rfl, rfl, rfl, _, ?_, rfl⟩)) fun _ => hnx2 _ _ ⟨rfl, rfl, rfl, rfl, 0, by omega, rfl⟩
        have hlt := of_decide_eq_true hlt
        have : x2.toNat < ns.length := by omega
        rw [List.getD_eq_getElem?_getD, List.getElem?_eq_getElem this]
        exact g8 _ (List.getElem_mem this)
      · subst eH
        refine st_seq (st_aug2 B ev_int s0 ?_)
        dsimp only
        have B2 : Bg (upd H1 b (.lst [.int x0, .int x1, .int (x2 + 1), .ref c])) b c x0 x1 (x2 + 1) ns := B.upd _ _ _
        let Pd : L2.St → Hp → Prop := fun σ' H' => σ' = σ1 ∧ ∃ y0, 0 ≤ y0 ∧ Bg H' b c y0 x1 (x2 + 1) ns ∧ ∀ a, a ≠ b → H' a = H1 a
        refine seq_both Pd (fun nx3 hnx3 => st_if (ev_B0 (ev_var s2) ev_int) (fun _ => st_set0 B2 (ev_var s2) s0 (hnx3 _ _ ⟨rfl, cw, hw, B2.upd _ _ _, fun a ha => by rw [upd_ne ha, upd_ne ha]⟩)) fun _ => hnx3 _ _ ⟨rfl, x0, g2, B2, fun a ha => by rw [upd_ne ha]⟩) fun σ2 H2 ⟨e2, y0, hy0, B3, kH⟩ => ?_
        subst e2
        refine st_seq (st_asg (ev_I0 (ev_I0 (ev_I (ev_rd1 B3 s0) ev_int (by unfold CMul; omega)) (ev_I (ev_toInt (ev_var s2)) ev_int (by decide))) (ev_I ev_int (ev_rd2 B3 s0) (by unfold CMul; omega))) ?_)
        have s0' : ∀ v, (σ2.set 3 v)[0]? = some (some (.ref b)) := fun v => by rw [List.getElem?_set_ne (by decide)]; exact s0
        refine st_set1 B3 (ev_I (ev_toInt (ev_var (List.getElem?_set_self (by omega)))) ev_int (by decide)) (s0' _) (hnx _ _ ⟨s0' _, by rw [List.getElem?_set_ne (by decide)]; exact s1, by rw [List.length_set]; exact sl, y0, _, _, B3.upd _ _ _, fun a ha => by rw [upd_ne ha]; exact kH a ha, hy0, Int.emod_nonneg _ (by decide), Int.emod_lt_of_pos _ (by decide), by omega⟩)
    · refine seq_both (fun σ'' H'' => σ'' = σ' ∧ H'' = H') (fun nx hnx => st_if (ev_B0 (ev_rd0 B' s0) ev_int) (fun hp => ?_) fun _ => hnx _ _ ⟨rfl, rfl⟩) fun σ'' H'' ⟨e1, e2⟩ => ?_
      · have hp := of_decide_eq_true hp
        refine st_seq (st_asg (ev_I (ev_toInt (ev_rd0 B' s0)) (ev_var s1) hm0) ?_)
        have t0 : (σ'.set 4 (some (V.int (y0 % m))))[0]? = some (some (.ref b)) := by rw [List.getElem?_set_ne (by decide)]; exact s0
        have t1 : (σ'.set 4 (some (V.int (y0 % m))))[1]? = some (some (.int m)) := by rw [List.getElem?_set_ne (by decide)]; exact s1
        refine st_seq (st_set0 B' (ev_I (ev_rd0 B' t0) (ev_var t1) ⟨by omega, by omega⟩) t0 (st_ret (ev_var (List.getElem?_set_self (by omega))) ?_))
        refine fin (y0 % m) _ y1 y2 (Int.emod_nonneg _ (by omega)) (Int.emod_lt_of_pos _ hm0) ?_ k1 k2 k3 _ (fun a ha => by rw [upd_ne ha]; exact kH a ha) upd_same
        exact Int.fdiv_nonneg k0 (by omega)
      · subst e1
        subst e2
        refine st_seq (st_asg (ev_I (ev_toInt (ev_I (ev_I0 (ev_rd1 B' s0) ev_int) ev_int (by unfold CMul; omega))) ev_int (by decide)) ?_)
        have b1 := Int.emod_nonneg ((y1 + 1) * 39373) (show (1000000007 : Int) ≠ 0 by decide)
        have b2 := Int.emod_lt_of_pos ((y1 + 1) * 39373) (show (0 : Int) < 1000000007 by decide)
        generalize (y1 + 1) * 39373 % 1000000007 = ea at b1 b2 ⊢
        have u5 : (σ''.set 5 (some (V.int ea)))[5]? = some (some (.int ea)) := List.getElem?_set_self (by omega)
        refine st_seq (st_asg (ev_I (ev_toInt (ev_I (ev_I (ev_toInt (ev_I (ev_var u5) (ev_var u5) (by unfold CMul; omega))) ev_int (by decide)) ev_int (by unfold CMul; right; decide))) ev_int (by decide)) ?_)
        refine st_ret (ev_I (ev_toInt (ev_I (ev_var (List.getElem?_set_self (by rw [List.length_set]; omega))) ev_int (by unfold CDivN; decide))) (ev_var ?_) hm0) ?_
        · rw [List.getElem?_set_ne (by decide), List.getElem?_set_ne (by decide)]; exact s1
        · exact fin _ y0 y1 y2 (Int.emod_nonneg _ (by omega)) (Int.emod_lt_of_pos _ hm0) k0 k1 k2 k3 _ kH B'.hb
end
end LK
/-! text W10 -/
namespace LK
open PySem PySem.Spec PyProof.Rows L2
section
variable {P : Program} {w : World} {K : PySem.W.Frag} {mg : Str → Option Value} {base : Heap} {C : Addr}
/-- bag, then the rest -/
theorem jtx_lt {Ps : List Sl} {ta tb : TE} {φ : Int → Prop} {j : Int} (ha : JE ta Ps (dIn φ)) (hb : JE tb Ps (dI j)) : JTx (tTest (tOp (rI0 fun i j => .bl (decide (i < j))) ta tb)) Ps (fun b => ∃ x, φ x ∧ b = decide (x < j)) := fun S B H σ c s Q q =>
  ha S B H σ c s _ fun v H1 r1 c1 ⟨x, h1, h2⟩ => hb S B H1 σ c1 (s.step c r1) _ fun w H2 r2 c2 p2 => by
    cases (show Da _ v (.int x) from h2)
    cases (show Da _ w (.int j) from p2)
    exact ⟨x, j, rfl, rfl, _, rfl, q _ H2 (r1.trans r2) c2 ⟨x, h1, rfl⟩⟩
/-- the value known, of a drawn list's item -/
theorem ex_int {Ps : List Sl} {te : TE} {ρ : PyData → Prop} {φ : Int → Prop} (h : JE te Ps (exP ρ da)) (w : ∀ d, ρ d → ∃ i, d = .int i ∧ φ i) : JE te Ps (dIn φ) := h.weak fun H v ⟨d, h1, h2⟩ => by
  obtain ⟨i, rfl, hi⟩ := w d h1
  exact ⟨i, hi, h2⟩
theorem ex_da {Ps : List Sl} {te : TE} {φ : Int → Prop} (h : JE te Ps (dIn φ)) : JE te Ps (exP (fun d => ∃ i, d = .int i ∧ φ i) da) := h.weak fun H v ⟨i, h1, h2⟩ => ⟨.int i, ⟨i, rfl, h1⟩, h2⟩
theorem j_dIn {Ps : List Sl} {te : TE} {i : Int} (h : JE te Ps (dI i)) : JE te Ps (dIn (· = i)) := h.ex i rfl
abbrev sp_law_one : Sp := DrawSp (fun x : List PyData => [da (.list x)]) (fun x => 0 < x.length ∧ x.length < 100000) (fun x => exP (fun d => d ∈ x) da)
theorem jc_law_one {Ps : List Sl} {E : XK} {tr : TA} {n : Nat} (x : List PyData) (hb : Ps[n]? = some .bag) (h : JA tr Ps ([da (.list x)])) (hp : 0 < x.length ∧ x.length < 100000) : JE (tCall sp_law_one [] E (tCons (tVar n) tr)) Ps (exP (fun d => d ∈ x) da) := j_draw x hb h hp
theorem cal_law_one (D : Def1 K mg "_law_one" (topS 47)) (T : Top mg) (c_law_take : C8.Cal P w K mg base 1 "_law_take" sp_law_take []) : C8.Cal P w K mg base 2 "_law_one" sp_law_one [] :=
  mkDraw (N := ["_law_bag_here", "_law_things"]) (ps := ["_law_bag_here", "_law_things"]) (n := 0) D (C8.fnScope_by (by decide +kernel)) (fun _ _ _ _ _ _ us hl => match us, hl with | [_, _], _ => rfl) (fun _ => rfl) rfl fun f cdv A outer s H E hr => by
    have nd : (["_law_bag_here", "_law_things"] : List Str).Nodup := by decide +kernel
    have hu : (XX P w K mg base ["_law_bag_here", "_law_things"] "_law_one" (topS 47) f cdv A outer s H E).A.units + 1 < cLine := by have := hr.un; omega
    exact ⟨_, (pss_one (ps_ret (pe_ix ix_seq (pv 1) (C8.pe_c c_law_take hr (by decide) (by rfl) (pa_cons (pv 0) (pa_cons (pe_callB call_lenX (by rfl) T.len_ (by decide +kernel) (pa_cons (pv 1) pa_nil)) pa_nil))) (fun _ _ => rfl)))),
      fun ds ⟨h0, h1⟩ => by
        refine js_ret (j_ixX (ρ := fun d => d ∈ ds) (φ := fun r => 0 ≤ r ∧ r < (ds.length : Int)) (j_var rfl) (jc_law_take (ds.length : Int) (n := 0) rfl (j_lenL (j_var rfl)) ⟨by omega, by omega⟩) fun r ⟨h2, h3⟩ => ?_)
        obtain ⟨k, rfl⟩ := Int.eq_ofNat_of_zero_le h2
        have hr : k < ds.length := by omega
        exact ⟨ds[k], by rw [atI_nat hr, List.getElem?_eq_getElem hr], List.getElem_mem hr⟩⟩
abbrev sp_law_gap_of : Sp := DrawSp (fun x : Unit => []) (fun x => True) (fun x => dIn fun k => 1 ≤ k)
theorem jc_law_gap_of {Ps : List Sl} {E : XK} {tr : TA} {n : Nat} (x : Unit) (hb : Ps[n]? = some .bag) (h : JA tr Ps ([])) (hp : True) : JE (tCall sp_law_gap_of [] E (tCons (tVar n) tr)) Ps (dIn fun k => 1 ≤ k) := j_draw x hb h hp
theorem cal_law_gap_of (D : Def1 K mg "_law_gap_of" (topS 48)) (c_law_take : C8.Cal P w K mg base 1 "_law_take" sp_law_take []) : C8.Cal P w K mg base 2 "_law_gap_of" sp_law_gap_of [] :=
  mkDraw (N := ["_law_bag_here", "_law_way"]) (ps := ["_law_bag_here"]) (n := 1) D (C8.fnScope_by (by decide +kernel)) (fun _ _ _ _ _ _ us hl => match us, hl with | [_], _ => rfl) (fun _ => rfl) rfl fun f cdv A outer s H E hr => by
    have nd : (["_law_bag_here", "_law_way"] : List Str).Nodup := by decide +kernel
    have hu : (XX P w K mg base ["_law_bag_here", "_law_way"] "_law_gap_of" (topS 48) f cdv A outer s H E).A.units + 1 < cLine := by have := hr.un; omega
    exact ⟨_, (pss_cons (ps_set (i := 1) nd rfl (.inl rfl) (C8.pe_c c_law_take hr (by decide) (by rfl) (pa_cons (pv 0) (pa_cons pe_int pa_nil)))) (pss_cons (ps_if (pt_cmpR op_lt (pv 1) pe_int (nomark _)) (pss_one (ps_ret (pe_op op_add pe_int (C8.pe_c c_law_take hr (by decide) (by rfl) (pa_cons (pv 0) (pa_cons (pe_ix ix_seq (pe_lst (pa_cons pe_int (pa_cons pe_int (pa_cons pe_int (pa_cons pe_int (pa_cons pe_int (pa_cons pe_int pa_nil))))))) (pv 1) (fun _ _ => rfl)) pa_nil)))))) pss_nil) (pss_one (ps_ret (pe_op op_add (pe_ix ix_seq (pe_lst (pa_cons (pe_op op_pow pe_int pe_int) (pa_cons (pe_op op_pow pe_int pe_int) (pa_cons (pe_op op_pow pe_int pe_int) (pa_cons (pe_op op_pow pe_int pe_int) pa_nil))))) (C8.pe_c c_law_take hr (by decide) (by rfl) (pa_cons (pv 0) (pa_cons pe_int pa_nil))) (fun _ _ => rfl)) (C8.pe_c c_law_take hr (by decide) (by rfl) (pa_cons (pv 0) (pa_cons pe_int pa_nil)))))))),
      fun _ _ => by
        refine js_then (js_asg (jc_law_take 8 (n := 0) rfl j_int (by decide))) (js_open (n := 1) rfl fun w hw => ?_)
        have hw : 0 ≤ w ∧ w < 8 := hw
        refine js_guard (b := decide (w < 6)) (jt_test (j_B0 (j_var rfl) j_int)) (fun h => ?_) fun h => ?_
        · have h := of_decide_eq_true h
          obtain ⟨m, hm, hm2⟩ : ∃ m : Int, atI [PyData.int 1, .int 2, .int 3, .int 5, .int 9, .int 30] w = some (.int m) ∧ 0 < m ∧ m < 1000000 := by
            rcases (show w = 0 ∨ w = 1 ∨ w = 2 ∨ w = 3 ∨ w = 4 ∨ w = 5 by omega) with rfl | rfl | rfl | rfl | rfl | rfl <;> exact ⟨_, rfl, by decide, by decide⟩
          exact js_ret (j_addX (j_dIn j_int) (jc_law_take m (n := 0) rfl (j_ixL (j_lst (jd_cons j_int (jd_cons j_int (jd_cons j_int (jd_cons j_int (jd_cons j_int (jd_cons j_int jd_nil)))))) (by show 6 ≤ 100000; decide)) (j_var rfl) hm) hm2) fun x y h1 h2 => by omega)
        · refine js_ret (j_addX (φ := fun k => 1 ≤ k) (ex_int (j_ixX (ds := [.int (10 ^ 4), .int (10 ^ 9), .int (10 ^ 17), .int (10 ^ 28)]) (ρ := fun d => ∃ i, d = .int i ∧ 1 ≤ i) (j_lst (jd_cons (j_I j_int j_int (by unfold CPow; decide)) (jd_cons (j_I j_int j_int (by unfold CPow; decide)) (jd_cons (j_I j_int j_int (by unfold CPow; decide)) (jd_cons (j_I j_int j_int (by unfold CPow; decide)) jd_nil)))) (by show 4 ≤ 100000; decide)) (jc_law_take 4 (n := 0) rfl j_int (by decide)) fun r ⟨h1, h2⟩ => ?_) fun d hd => hd) (jc_law_take 5 (n := 0) rfl j_int (by decide)) fun x y h1 h2 => by omega)
          rcases (show r = 0 ∨ r = 1 ∨ r = 2 ∨ r = 3 by omega) with rfl | rfl | rfl | rfl <;> exact ⟨_, rfl, _, rfl, by decide⟩⟩
abbrev sp_law_price : Sp := DrawSp (fun x : Unit => []) (fun x => True) (fun x => dIn fun k => 0 ≤ k)
theorem jc_law_price {Ps : List Sl} {E : XK} {tr : TA} {n : Nat} (x : Unit) (hb : Ps[n]? = some .bag) (h : JA tr Ps ([])) (hp : True) : JE (tCall sp_law_price [] E (tCons (tVar n) tr)) Ps (dIn fun k => 0 ≤ k) := j_draw x hb h hp
theorem cal_law_price (D : Def1 K mg "_law_price" (topS 49)) (c_law_take : C8.Cal P w K mg base 1 "_law_take" sp_law_take []) : C8.Cal P w K mg base 2 "_law_price" sp_law_price [] :=
  mkDraw (N := ["_law_bag_here", "_law_way"]) (ps := ["_law_bag_here"]) (n := 1) D (C8.fnScope_by (by decide +kernel)) (fun _ _ _ _ _ _ us hl => match us, hl with | [_], _ => rfl) (fun _ => rfl) rfl fun f cdv A outer s H E hr => by
    have nd : (["_law_bag_here", "_law_way"] : List Str).Nodup := by decide +kernel
    have hu : (XX P w K mg base ["_law_bag_here", "_law_way"] "_law_price" (topS 49) f cdv A outer s H E).A.units + 1 < cLine := by have := hr.un; omega
    exact ⟨_, (pss_cons (ps_set (i := 1) nd rfl (.inl rfl) (C8.pe_c c_law_take hr (by decide) (by rfl) (pa_cons (pv 0) (pa_cons pe_int pa_nil)))) (pss_cons (ps_if (pt_cmpR op_lt (pv 1) pe_int (nomark _)) (pss_one (ps_ret (C8.pe_c c_law_take hr (by decide) (by rfl) (pa_cons (pv 0) (pa_cons (pe_ix ix_seq (pe_lst (pa_cons pe_int (pa_cons pe_int (pa_cons pe_int (pa_cons pe_int pa_nil))))) (pv 1) (fun _ _ => rfl)) pa_nil))))) pss_nil) (pss_one (ps_ret (pe_op op_add (pe_ix ix_seq (pe_lst (pa_cons (pe_op op_pow pe_int pe_int) (pa_cons (pe_op op_pow pe_int pe_int) pa_nil))) (pe_op op_sub (pv 1) pe_int) (fun _ _ => rfl)) (C8.pe_c c_law_take hr (by decide) (by rfl) (pa_cons (pv 0) (pa_cons pe_int pa_nil)))))))),
      fun _ _ => by
        refine js_then (js_asg (jc_law_take 6 (n := 0) rfl j_int (by decide))) (js_open (n := 1) rfl fun w hw => ?_)
        have hw : 0 ≤ w ∧ w < 6 := hw
        refine js_guard (b := decide (w < 4)) (jt_test (j_B0 (j_var rfl) j_int)) (fun h => ?_) fun h => ?_
        · have h := of_decide_eq_true h
          obtain ⟨m, hm, hm2⟩ : ∃ m : Int, atI [PyData.int 2, .int 4, .int 8, .int 100] w = some (.int m) ∧ 0 < m ∧ m < 1000000 := by
            rcases (show w = 0 ∨ w = 1 ∨ w = 2 ∨ w = 3 by omega) with rfl | rfl | rfl | rfl <;> exact ⟨_, rfl, by decide, by decide⟩
          exact js_ret ((jc_law_take m (n := 0) rfl (j_ixL (j_lst (jd_cons j_int (jd_cons j_int (jd_cons j_int (jd_cons j_int jd_nil)))) (by show 4 ≤ 100000; decide)) (j_var rfl) hm) hm2).weak fun H v ⟨x, h1, h2⟩ => ⟨x, h1.1, h2⟩)
        · have h := of_decide_eq_false h
          obtain ⟨m, hm, hm2⟩ : ∃ m : Int, atI [PyData.int (10 ^ 9), .int (10 ^ 29)] (w - 4) = some (.int m) ∧ 0 ≤ m := by
            rcases (show w = 4 ∨ w = 5 by omega) with rfl | rfl <;> exact ⟨_, rfl, by decide⟩
          exact js_ret (j_addX (j_dIn (j_ixL (j_lst (jd_cons (j_I j_int j_int (by unfold CPow; decide)) (jd_cons (j_I j_int j_int (by unfold CPow; decide)) jd_nil)) (by show 2 ≤ 100000; decide)) (j_I0 (j_var rfl) j_int) hm)) (jc_law_take 3 (n := 0) rfl j_int (by decide)) fun x y h1 h2 => by omega)⟩
def bkT (b : Bk) : PyData := .tuple [.int b.1, .list (b.2.map chgD)]
/-- a list of changes that may be made longer -/
structure ChOk (m : Int) (ch : List (Int × Int)) : Prop where
  price : ∀ p ∈ ch, 0 ≤ p.2
  lt : ∀ p ∈ ch, p.1 < m
  rise : ∀ i, i + 1 < ch.length → ∀ p q, ch[i]? = some p → ch[i + 1]? = some q → p.1 < q.1
theorem ChOk.snoc {m g p : Int} {ch : List (Int × Int)} (h : ChOk m ch) (hp : 0 ≤ p) (hg : 1 ≤ g) : ChOk (m + g) (ch ++ [(m, p)]) := by
  refine ⟨fun x hx => ?_, fun x hx => ?_, fun i hi x y hx hy => ?_⟩
  · rcases List.mem_append.mp hx with z | z
    · exact h.price x z
    · rw [List.mem_singleton.mp z]; exact hp
  · rcases List.mem_append.mp hx with z | z
    · have := h.lt x z; omega
    · rw [List.mem_singleton.mp z]; show m < m + g; omega
  · rw [List.length_append, List.length_singleton] at hi
    rw [List.getElem?_append_left (by omega)] at hx
    rcases Nat.lt_or_ge (i + 1) ch.length with z | z
    · rw [List.getElem?_append_left z] at hy
      exact h.rise i z x y hx hy
    · rw [List.getElem?_append_right z, show i + 1 - ch.length = 0 by omega] at hy
      cases hy
      exact h.lt x (List.mem_of_getElem? hx)
abbrev sp_law_book : Sp := DrawSp (fun x : Nat => [dI (x : Int)]) (fun x => x ≤ 7) (fun x => exP (BkOk x) fun b => da (bkT b))
theorem jc_law_book {Ps : List Sl} {E : XK} {tr : TA} {n : Nat} (x : Nat) (hb : Ps[n]? = some .bag) (h : JA tr Ps ([dI (x : Int)])) (hp : x ≤ 7) : JE (tCall sp_law_book [] E (tCons (tVar n) tr)) Ps (exP (BkOk x) fun b => da (bkT b)) := j_draw x hb h hp
theorem cal_law_book (D : Def1 K mg "_law_book" (topS 50)) (T : Top mg) (c_law_take : C8.Cal P w K mg base 1 "_law_take" sp_law_take []) (c_law_one : C8.Cal P w K mg base 2 "_law_one" sp_law_one []) (c_law_gap_of : C8.Cal P w K mg base 2 "_law_gap_of" sp_law_gap_of []) (c_law_price : C8.Cal P w K mg base 2 "_law_price" sp_law_price []) : C8.Cal P w K mg base 3 "_law_book" sp_law_book [] :=
  mkDraw (N := ["_law_bag_here", "_law_most", "_law_moment", "_law_menu", "_law_first", "_law_changes", "_law_k", "_law_price_here"]) (ps := ["_law_bag_here", "_law_most"]) (n := 6) D (C8.fnScope_by (by decide +kernel)) (fun _ _ _ _ _ _ us hl => match us, hl with | [_, _], _ => rfl) (fun _ => rfl) rfl fun f cdv A outer s H E hr => by
    have nd : (["_law_bag_here", "_law_most", "_law_moment", "_law_menu", "_law_first", "_law_changes", "_law_k", "_law_price_here"] : List Str).Nodup := by decide +kernel
    have hu : (XX P w K mg base ["_law_bag_here", "_law_most", "_law_moment", "_law_menu", "_law_first", "_law_changes", "_law_k", "_law_price_here"] "_law_book" (topS 50) f cdv A outer s H E).A.units + 1 < cLine := by have := hr.un; omega
    exact ⟨_, (pss_cons (ps_par (by rfl) nd (i := 2) (j := 3) rfl rfl (by decide) rfl rfl (pa_cons (pe_op op_sub (C8.pe_c c_law_take hr (by decide) (by rfl) (pa_cons (pv 0) (pa_cons pe_int pa_nil))) pe_int) (pa_cons (pe_lc (own := [("_law_k", 6)]) rfl nd (pi_range1 (by rfl) T.range_ (pa_cons pe_int pa_nil)) (blkOk_by (N := ["_law_bag_here", "_law_most", "_law_moment", "_law_menu", "_law_first", "_law_changes", "_law_k", "_law_price_here"]) (sc := defScope (topS 50)) (by decide +kernel)) (fun _ _ _ _ _ => (pg_name (i := 6) nd rfl (.inl rfl))) (fun _ _ _ _ _ => pts_nil) (fun _ _ _ _ _ => (C8.pe_c c_law_price hr (by decide) (by rfl) (pa_cons (pv 0) pa_nil)))) pa_nil)) (by rfl)) (pss_cons (ps_if (pt_cmpR op_eq (C8.pe_c c_law_take hr (by decide) (by rfl) (pa_cons (pv 0) (pa_cons pe_int pa_nil))) pe_int (nomark _)) (pss_one (ps_set (i := 2) nd rfl (.inl rfl) (pe_op op_sub (pv 2) (pe_op op_pow pe_int pe_int)))) pss_nil) (pss_cons (ps_par (by rfl) nd (i := 4) (j := 5) rfl rfl (by decide) rfl rfl (pa_cons (C8.pe_c c_law_one hr (by decide) (by rfl) (pa_cons (pv 0) (pa_cons (pv 3) pa_nil))) (pa_cons (pe_lst pa_nil) pa_nil)) (by rfl)) (pss_cons (ps_for PassesOwn.never rfl (pi_range1 (by rfl) T.range_ (pa_cons (C8.pe_c c_law_take hr (by decide) (by rfl) (pa_cons (pv 0) (pa_cons (pe_op op_add (pv 1) pe_int) pa_nil))) pa_nil)) (pg_name (i := 6) nd rfl (.inl rfl)) (pss_cons (ps_set (i := 7) nd rfl (.inl rfl) (pe_ifExp (pt_cmpR op_eq (C8.pe_c c_law_take hr (by decide) (by rfl) (pa_cons (pv 0) (pa_cons pe_int pa_nil))) pe_int (nomark _)) (C8.pe_c c_law_price hr (by decide) (by rfl) (pa_cons (pv 0) pa_nil)) (C8.pe_c c_law_one hr (by decide) (by rfl) (pa_cons (pv 0) (pa_cons (pv 3) pa_nil))))) (pss_cons (ps_expr (pe_bm PySem.F.plainAttrs_list PySem.F.slot_list_append PySem.F.type_list_append mt_append (pv 5) (pa_cons (pe_tup (pa_cons (pv 2) (pa_cons (pv 7) pa_nil))) pa_nil))) (pss_one (ps_set (i := 2) nd rfl (.inl rfl) (pe_op op_add (pv 2) (C8.pe_c c_law_gap_of hr (by decide) (by rfl) (pa_cons (pv 0) pa_nil)))))))) (pss_one (ps_ret (pe_tup (pa_cons (pv 4) (pa_cons (pv 5) pa_nil))))))))),
      fun n hn => by
        have hn : n ≤ 7 := hn
        have mp : ∀ d : PyData, (∃ i, d = .int i ∧ 0 ≤ i) → ∃ i, d = .int i ∧ 0 ≤ i := fun d h => h
        refine js_then (js_par (P1 := dIn fun _ => True) (P2 := exP (fun ds : List PyData => ds.length = 3 ∧ ∀ d ∈ ds, ∃ i, d = .int i ∧ 0 ≤ i) fun ds => da (.list ds)) (ja_cons (j_subX (jc_law_take 60 (n := 0) rfl j_int (by decide)) (j_dIn j_int) fun _ _ _ _ => trivial) (ja_cons ((j_lcX (xs := List.range 3) (enc := fun k : Nat => .int (k : Int)) ((jw_rng1 (j := 3) (jd_cons j_int jd_nil) (by decide)).is rfl) (by decide) fun k _ => ⟨[6], [.int (k : Int)], tg_name, by simp, ex_da (jc_law_price () (n := 0) rfl ja_nil trivial)⟩).weak fun H v ⟨ds, h1, h2⟩ => ⟨ds, ⟨by rw [h1.1, List.length_range], h1.2⟩, h2⟩) ja_nil))) (js_open (n := 2) rfl fun m _ => js_open (n := 3) rfl fun menu hmenu => ?_)
        obtain ⟨hm3, hmp⟩ := hmenu
        refine js_seq (N' := fun Qs => ∃ m : Int, Qs = [.bag, .pl (dI (n : Int)), .pl (dI m), .pl (da (.list menu)), .no, .no, .no, .no]) (js_ifx (jtx_eq (jc_law_take 7 (n := 0) rfl j_int (by decide)) j_int) (fun _ => (js_asg (j_I0 (j_var rfl) (j_I j_int j_int (by unfold CPow; decide)))).imp fun Qs q => ⟨_, q⟩) fun _ => js_next.imp fun Qs q => ⟨m, q⟩) fun Qs hQ => ?_
        obtain ⟨m, rfl⟩ := hQ
        refine js_then (js_parN (s1 := .pl (dIn fun k => 0 ≤ k)) (s2 := .ol []) (jax_cons (jn_pl (ex_int (jc_law_one menu (n := 0) rfl (ja_cons (j_var rfl) ja_nil) ⟨by omega, by omega⟩) fun d hd => hmp d hd)) (jax_cons jn_newL jax_nil)) (by decide)) (js_open (n := 4) rfl fun first hfirst => ?_)
        refine js_seq (js_forX (jwx_rng1 (φ := fun r => 0 ≤ r ∧ r < ((n + 1 : Nat) : Int)) (jc_law_take ((n + 1 : Nat) : Int) (n := 0) rfl ((j_I0 (j_var rfl) j_int).dat (by show PyData.int ((n : Int) + 1) = .int ((n + 1 : Nat) : Int); rw [Int.natCast_add]; rfl)) ⟨by omega, by omega⟩) fun j hj => by omega) (fun i Qs => ∃ (m : Int) (ch : List (Int × Int)), ch.length = i ∧ ChOk m ch ∧ Qs = [.bag, .pl (dI (n : Int)), .pl (dI m), .pl (da (.list menu)), .pl (dI first), .ol (ch.map chgD), .no, .no]) ⟨_, (by repeat first | exact True.intro | refine And.intro (Or.inr rfl) ?_ | refine And.intro (Or.inl rfl) ?_), m, [], rfl, ⟨fun _ h => (nomatch h), fun _ h => (nomatch h), fun i hi => by simp at hi⟩, rfl⟩ fun ds hds i d Qs hd hQ => ?_) fun Qs hQ => ?_
        · obtain ⟨m, ch, hl, hch, rfl⟩ := hQ
          obtain ⟨j, hj, rfl⟩ := hds
          have hi : i < 8 := by
            have := (List.getElem?_eq_some_iff.mp hd).1
            rw [irng_len] at this
            omega
          refine ⟨[6], [d], tg_name, ?_⟩
          refine js_then (js_asg (j_ifX (P := dIn fun k => 0 ≤ k) (jtx_eq (jc_law_take 3 (n := 0) rfl j_int (by decide)) j_int) (jc_law_price () (n := 0) rfl ja_nil trivial) (ex_int (jc_law_one menu (n := 0) rfl (ja_cons (j_var rfl) ja_nil) ⟨by omega, by omega⟩) fun d hd => hmp d hd))) (js_open (n := 7) rfl fun p hp => ?_)
          refine js_then (js_app (i := 5) (d := chgD (m, p)) rfl (j_tup (jd_cons (j_var rfl) (jd_cons (j_var rfl) jd_nil)) (by show 2 ≤ 100000; decide)) (by rw [List.length_map]; omega)) ?_
          refine (js_asgX (φ := fun k => ∃ g, 1 ≤ g ∧ k = m + g) (Pf := dI) (j_addX (χ := fun k => ∃ g, 1 ≤ g ∧ k = m + g) (j_dIn (j_var rfl)) (jc_law_gap_of () (n := 0) rfl ja_nil trivial) fun x y h1 h2 => ⟨y, h2, by rw [h1]⟩)).imp fun Rs hR => ?_
          obtain ⟨_, ⟨g, hg, rfl⟩, rfl⟩ := hR
          refine ⟨_, ?_, m + g, ch ++ [(m, p)], by rw [List.length_append, hl]; rfl, hch.snoc hp hg, rfl⟩
          rw [List.map_append]
          exact (by repeat first | exact True.intro | refine And.intro (Or.inr rfl) ?_ | refine And.intro (Or.inl rfl) ?_)
        · obtain ⟨ds, ⟨j, hj, rfl⟩, m, ch, hl, hch, rfl⟩ := hQ
          rw [irng_len] at hl
          refine js_freeze (i := 5) rfl ((js_ret (j_tup (jd_cons (j_var rfl) (jd_cons (j_var rfl) jd_nil)) (by show 2 ≤ 100000; decide))).outw fun H v p => ⟨(first, ch), ⟨hfirst, hch.price, by show ch.length ≤ n; omega, hch.rise⟩, p⟩)⟩
end
end LK
/-! text W11 -/
namespace LK
open PySem PySem.Spec PyProof.Rows L2
section
variable {P : Program} {w : World} {K : PySem.W.Frag} {mg : Str → Option Value} {base : Heap} {C : Addr}
theorem j_drawX {Ps : List Sl} {te : TE} {E : XK} {α β : Type} {ins : α → List DP} {pre : α → Prop} {out : α → DP} {φ : β → Prop} {Pf : β → DP} {P' : DP} {n : Nat} (hb : Ps[n]? = some .bag) (h : JE te Ps (exP φ Pf)) (hx : ∀ y, φ y → ∃ x, ins x = [Pf y] ∧ pre x ∧ ∀ H v, (out x).p H v → P'.p H v) : JE (tCall (DrawSp ins pre out) [] E (tCons (tVar n) (tCons te tNil))) Ps P' := fun S B H σ c s Q q => by
  obtain ⟨v, h1, a, rfl, rfl⟩ := s.get hb (by intro z; cases z)
  exact ⟨_, h1, h S _ H σ c s _ fun v H1 r1 c1 ⟨y, hy, p1⟩ => by
    obtain ⟨x, e1, e2, e3⟩ := hx y hy
    exact ⟨S, a, x, [v], rfl, c1, e2, by rw [e1]; exact .cons p1 .nil, fun v H2 r2 c2 p2 => q v H2 (r1.trans r2) c2 (e3 _ _ p2)⟩⟩
abbrev sp_law_board : Sp := DrawSp (fun x : Unit => []) (fun x => True) (fun x => exP (fun p : Pr2 => 0 ≤ p.1 ∧ p.1 ≤ p.2) fun p => da (p2D p))
theorem jc_law_board {Ps : List Sl} {E : XK} {tr : TA} {n : Nat} (x : Unit) (hb : Ps[n]? = some .bag) (h : JA tr Ps ([])) (hp : True) : JE (tCall sp_law_board [] E (tCons (tVar n) tr)) Ps (exP (fun p : Pr2 => 0 ≤ p.1 ∧ p.1 ≤ p.2) fun p => da (p2D p)) := j_draw x hb h hp
theorem cal_law_board (D : Def1 K mg "_law_board" (topS 51)) (c_law_take : C8.Cal P w K mg base 1 "_law_take" sp_law_take []) (c_law_one : C8.Cal P w K mg base 2 "_law_one" sp_law_one []) (c_law_gap_of : C8.Cal P w K mg base 2 "_law_gap_of" sp_law_gap_of []) : C8.Cal P w K mg base 3 "_law_board" sp_law_board [] :=
  mkDraw (N := ["_law_bag_here", "_law_way", "_law_least"]) (ps := ["_law_bag_here"]) (n := 2) D (C8.fnScope_by (by decide +kernel)) (fun _ _ _ _ _ _ us hl => match us, hl with | [_], _ => rfl) (fun _ => rfl) rfl fun f cdv A outer s H E hr => by
    have nd : (["_law_bag_here", "_law_way", "_law_least"] : List Str).Nodup := by decide +kernel
    have hu : (XX P w K mg base ["_law_bag_here", "_law_way", "_law_least"] "_law_board" (topS 51) f cdv A outer s H E).A.units + 1 < cLine := by have := hr.un; omega
    exact ⟨_, (pss_cons (ps_set (i := 1) nd rfl (.inl rfl) (C8.pe_c c_law_take hr (by decide) (by rfl) (pa_cons (pv 0) (pa_cons pe_int pa_nil)))) (pss_cons (ps_if (pt_cmpR op_eq (pv 1) pe_int (nomark _)) (pss_one (ps_ret (pe_tup (pa_cons pe_int (pa_cons pe_int pa_nil))))) pss_nil) (pss_cons (ps_set (i := 2) nd rfl (.inl rfl) (C8.pe_c c_law_take hr (by decide) (by rfl) (pa_cons (pv 0) (pa_cons pe_int pa_nil)))) (pss_cons (ps_if (pt_cmpR op_lt (pv 1) pe_int (nomark _)) (pss_one (ps_ret (pe_tup (pa_cons (pv 2) (pa_cons (pe_op op_add (pv 2) (C8.pe_c c_law_take hr (by decide) (by rfl) (pa_cons (pv 0) (pa_cons (pe_ix ix_seq (pe_lst (pa_cons pe_int (pa_cons pe_int (pa_cons pe_int pa_nil)))) (pe_op op_sub (pv 1) pe_int) (fun _ _ => rfl)) pa_nil)))) pa_nil))))) pss_nil) (pss_cons (ps_set (i := 2) nd rfl (.inl rfl) (C8.pe_c c_law_one hr (by decide) (by rfl) (pa_cons (pv 0) (pa_cons (pe_lst (pa_cons (pv 2) (pa_cons (pv 2) (pa_cons (C8.pe_c c_law_gap_of hr (by decide) (by rfl) (pa_cons (pv 0) pa_nil)) pa_nil)))) pa_nil)))) (pss_one (ps_ret (pe_tup (pa_cons (pv 2) (pa_cons (pe_op op_add (pv 2) (C8.pe_c c_law_gap_of hr (by decide) (by rfl) (pa_cons (pv 0) pa_nil))) pa_nil)))))))))),
      fun _ _ => by
        have pair : ∀ {Ps : List Sl} {te tf : TE} {l : Int} {φ : Int → Prop}, 0 ≤ l → JE te Ps (dI l) → JE tf Ps (dIn φ) → (∀ x, φ x → l ≤ x) → JE (tTup (tCons te (tCons tf tNil))) Ps (exP (fun p : Pr2 => 0 ≤ p.1 ∧ p.1 ≤ p.2) fun p => da (p2D p)) := fun {Ps te tf l φ} hl h1 h2 h3 =>
          (j_tupX (jdx_cons (ex_da (j_dIn h1)) (jdx_cons (ex_da h2) jdx_nil)) (fun ds h => by obtain ⟨d, es, rfl, _, d2, es2, rfl, _, rfl⟩ := h; show 2 ≤ 100000; decide)).weak fun H v ⟨ds, h, p⟩ => by
            obtain ⟨d, es, rfl, ⟨i, rfl, rfl⟩, d2, es2, rfl, ⟨j, rfl, hj⟩, rfl⟩ := h
            exact ⟨(i, j), ⟨hl, h3 j hj⟩, p⟩
        refine js_then (js_asg (jc_law_take 5 (n := 0) rfl j_int (by decide))) (js_open (n := 1) rfl fun w hw => ?_)
        have hw : 0 ≤ w ∧ w < 5 := hw
        refine js_guard (b := decide (w = 0)) (jt_test (j_eqI (j_var rfl) j_int)) (fun _ => (js_ret (j_tup (jd_cons j_int (jd_cons j_int jd_nil)) (by show 2 ≤ 100000; decide))).outw fun H v p => ⟨(0, 0), by decide, p⟩) fun h0 => ?_
        have h0 := of_decide_eq_false h0
        refine js_then (js_asg (jc_law_take 4 (n := 0) rfl j_int (by decide))) (js_open (n := 2) rfl fun l hl => ?_)
        have hl : 0 ≤ l ∧ l < 4 := hl
        refine js_guard (b := decide (w < 4)) (jt_test (j_B0 (j_var rfl) j_int)) (fun h => ?_) fun _ => ?_
        · have h := of_decide_eq_true h
          obtain ⟨m, hm, hm2⟩ : ∃ m : Int, atI [PyData.int 1, .int 3, .int 12] (w - 1) = some (.int m) ∧ 0 < m ∧ m < 1000000 := by
            rcases (show w = 1 ∨ w = 2 ∨ w = 3 by omega) with rfl | rfl | rfl <;> exact ⟨_, rfl, by decide, by decide⟩
          exact js_ret (pair hl.1 (j_var rfl) (j_addX (χ := fun k => l ≤ k) (j_dIn (j_var rfl)) (jc_law_take m (n := 0) rfl (j_ixL (j_lst (jd_cons j_int (jd_cons j_int (jd_cons j_int jd_nil))) (by show 3 ≤ 100000; decide)) (j_I0 (j_var rfl) j_int) hm) hm2) fun x y h1 h2 => by omega) fun x hx => hx)
        · have lst : ∀ ds : List PyData, (∃ d es, ds = d :: es ∧ (∃ i, d = .int i ∧ i = l) ∧ ∃ d es', es = d :: es' ∧ (∃ i, d = .int i ∧ i = l) ∧ ∃ d es'', es' = d :: es'' ∧ (∃ i, d = .int i ∧ 1 ≤ i) ∧ es'' = []) → ds.length = 3 ∧ ∀ d ∈ ds, ∃ i, d = .int i ∧ 0 ≤ i := by
            rintro ds ⟨_, _, rfl, ⟨i, rfl, rfl⟩, _, _, rfl, ⟨j, rfl, rfl⟩, _, _, rfl, ⟨k, rfl, hk⟩, rfl⟩
            refine ⟨rfl, fun d hd => ?_⟩
            rcases List.mem_cons.mp hd with rfl | hd
            · exact ⟨_, rfl, hl.1⟩
            · rcases List.mem_cons.mp hd with rfl | hd
              · exact ⟨_, rfl, hl.1⟩
              · rw [List.mem_singleton.mp hd]; exact ⟨_, rfl, by omega⟩
          refine js_then (js_asg (P1 := dIn fun k => 0 ≤ k) (j_drawX (n := 0) rfl (j_lstX (jdx_cons (ex_da (j_dIn (j_var rfl))) (jdx_cons (ex_da (j_dIn (j_var rfl))) (jdx_cons (ex_da (jc_law_gap_of () (n := 0) rfl ja_nil trivial)) jdx_nil))) fun ds h => by rw [(lst ds h).1]; decide) fun ds h => ⟨ds, rfl, by have := (lst ds h).1; show 0 < ds.length ∧ ds.length < 100000; omega, fun H v ⟨d, hd, p⟩ => by
            obtain ⟨i, rfl, hi⟩ := (lst ds h).2 d hd
            exact ⟨i, hi, p⟩⟩)) (js_open (n := 2) rfl fun l2 hl2 => ?_)
          exact js_ret (pair hl2 (j_var rfl) (j_addX (χ := fun k => l2 ≤ k) (j_dIn (j_var rfl)) (jc_law_gap_of () (n := 0) rfl ja_nil trivial) fun x y h1 h2 => by omega) fun x hx => hx)⟩
abbrev sp_law_prices : Sp := PureSp (fun x : Bk => [da (bkT x)]) (fun x => x.2.length ≤ 1000) (fun x => da (intsD (prL x)))
theorem jc_law_prices {Ps : List Sl} {E : XK} {tr : TA} (x : Bk) (h : JA tr Ps ([da (bkT x)])) (hp : x.2.length ≤ 1000) : JE (tCall sp_law_prices [] E tr) Ps (da (intsD (prL x))) := j_call x h hp
theorem cal_law_prices (D : Def1 K mg "_law_prices" (topS 52)) : C8.Cal P w K mg base 1 "_law_prices" sp_law_prices [] :=
  mkPure (N := ["_law_book_here", "_law_moment", "_law_price_here"]) (ps := ["_law_book_here"]) (n := 2) D (C8.fnScope_by (by decide +kernel)) (fun _ _ _ _ _ _ us hl => match us, hl with | [_], _ => rfl) (fun _ => rfl) rfl fun f cdv A outer s H E hr => by
    have nd : (["_law_book_here", "_law_moment", "_law_price_here"] : List Str).Nodup := by decide +kernel
    have hu : (XX P w K mg base ["_law_book_here", "_law_moment", "_law_price_here"] "_law_prices" (topS 52) f cdv A outer s H E).A.units + 1 < cLine := by have := hr.un; omega
    exact ⟨_, (pss_one (ps_ret (pe_op op_cat (pe_lst (pa_cons (pe_ix ix_seq (pv 0) pe_int (fun _ _ => rfl)) pa_nil)) (pe_lc (own := [("_law_moment", 1), ("_law_price_here", 2)]) rfl nd (pi_list (pe_ix ix_seq (pv 0) pe_int (fun _ _ => rfl))) (blkOk_by (N := ["_law_book_here", "_law_moment", "_law_price_here"]) (sc := defScope (topS 52)) (by decide +kernel)) (fun _ _ _ _ _ => (pg_tupB (n := 2) (by rfl) (pgs_cons (pg_name (i := 1) nd rfl (.inl rfl)) (pgs_cons (pg_name (i := 2) nd rfl (.inl rfl)) pgs_nil)))) (fun _ _ _ _ _ => pts_nil) (fun _ _ _ _ _ => (pv 2)))))),
      fun b hb => by
        have hb : b.2.length ≤ 1000 := hb
        refine (js_ret (j_cat (j_lst (jd_cons (j_ixT (j_var rfl) j_int rfl) jd_nil) (by show 1 ≤ 100000; decide)) (j_lcA (xs := b.2) (enc := chgD) (v := fun p => .int p.2) (jw_list (j_ixT (j_var rfl) j_int rfl)) (by omega) fun p _ => ⟨[1, 2], [.int p.1, .int p.2], tg_2, by simp, j_var rfl⟩) (by rw [List.length_map, List.length_singleton]; omega))).out ?_
        unfold intsD prL
        rw [List.map_cons, List.map_map]
        rfl⟩
abbrev sp_law_moments : Sp := PureSp (fun x : Bk => [da (bkT x)]) (fun x => x.2.length ≤ 1000) (fun x => da (intsD (msL x)))
theorem jc_law_moments {Ps : List Sl} {E : XK} {tr : TA} (x : Bk) (h : JA tr Ps ([da (bkT x)])) (hp : x.2.length ≤ 1000) : JE (tCall sp_law_moments [] E tr) Ps (da (intsD (msL x))) := j_call x h hp
theorem cal_law_moments (D : Def1 K mg "_law_moments" (topS 53)) : C8.Cal P w K mg base 1 "_law_moments" sp_law_moments [] :=
  mkPure (N := ["_law_book_here", "_law_moment", "_law_price_here"]) (ps := ["_law_book_here"]) (n := 2) D (C8.fnScope_by (by decide +kernel)) (fun _ _ _ _ _ _ us hl => match us, hl with | [_], _ => rfl) (fun _ => rfl) rfl fun f cdv A outer s H E hr => by
    have nd : (["_law_book_here", "_law_moment", "_law_price_here"] : List Str).Nodup := by decide +kernel
    have hu : (XX P w K mg base ["_law_book_here", "_law_moment", "_law_price_here"] "_law_moments" (topS 53) f cdv A outer s H E).A.units + 1 < cLine := by have := hr.un; omega
    exact ⟨_, (pss_one (ps_ret (pe_lc (own := [("_law_moment", 1), ("_law_price_here", 2)]) rfl nd (pi_list (pe_ix ix_seq (pv 0) pe_int (fun _ _ => rfl))) (blkOk_by (N := ["_law_book_here", "_law_moment", "_law_price_here"]) (sc := defScope (topS 53)) (by decide +kernel)) (fun _ _ _ _ _ => (pg_tupB (n := 2) (by rfl) (pgs_cons (pg_name (i := 1) nd rfl (.inl rfl)) (pgs_cons (pg_name (i := 2) nd rfl (.inl rfl)) pgs_nil)))) (fun _ _ _ _ _ => pts_nil) (fun _ _ _ _ _ => (pv 1))))),
      fun b hb => by
        have hb : b.2.length ≤ 1000 := hb
        refine (js_ret (j_lcA (xs := b.2) (enc := chgD) (v := fun p => .int p.1) (jw_list (j_ixT (j_var rfl) j_int rfl)) (by omega) fun p _ => ⟨[1, 2], [.int p.1, .int p.2], tg_2, by simp, j_var rfl⟩)).out ?_
        unfold intsD msL
        rw [List.map_map]
        rfl⟩
abbrev sp_law_made (C : Addr) : Sp := DrawSp (fun x : Bk => [da (bkT x)]) (fun x => BkOk 7 x) (fun x => isBk C x)
theorem jc_law_made {Ps : List Sl} {E : XK} {tr : TA} {n : Nat} (x : Bk) (hb : Ps[n]? = some .bag) (h : JA tr Ps ([da (bkT x)])) (hp : BkOk 7 x) : JE (tCall (sp_law_made C) [] E (tCons (tVar n) tr)) Ps (isBk C x) := j_draw x hb h hp
theorem cal_law_made (D : Def1 K mg "_law_made" (topS 54)) (T : Top mg) (mkBook : C8.Mak P w K mg base 4 "Book" C (InitSp C) []) (c_law_take : C8.Cal P w K mg base 1 "_law_take" sp_law_take []) : C8.Cal P w K mg base 6 "_law_made" (sp_law_made C) [] :=
  mkDraw (N := ["_law_bag_here", "_law_book_here"]) (ps := ["_law_bag_here", "_law_book_here"]) (n := 0) D (C8.fnScope_by (by decide +kernel)) (fun _ _ _ _ _ _ us hl => match us, hl with | [_, _], _ => rfl) (fun _ => rfl) rfl fun f cdv A outer s H E hr => by
    have nd : (["_law_bag_here", "_law_book_here"] : List Str).Nodup := by decide +kernel
    have hu : (XX P w K mg base ["_law_bag_here", "_law_book_here"] "_law_made" (topS 54) f cdv A outer s H E).A.units + 1 < cLine := by have := hr.un; omega
    exact ⟨_, (pss_one (ps_ret (C8.pe_mk mkBook hr (by decide) (by rfl) (pa_cons (pe_ix ix_seq (pv 1) pe_int (fun _ _ => rfl)) (pa_cons (pe_ifExp (pt_cmpR op_eq (C8.pe_c c_law_take hr (by decide) (by rfl) (pa_cons (pv 0) (pa_cons pe_int pa_nil))) pe_int (nomark _)) (pe_callTy call_listX (by rfl) T.list_ (by decide +kernel) (pa_cons (pe_ix ix_seq (pv 1) pe_int (fun _ _ => rfl)) pa_nil)) (pe_callTy call_tupX (by rfl) T.tuple_ (by decide +kernel) (pa_cons (pe_ix ix_seq (pv 1) pe_int (fun _ _ => rfl)) pa_nil))) pa_nil))))),
      fun b hb => js_ret (j_mk (bk := b) (j_ixT (j_var rfl) j_int rfl) (j_ifX (jtx_eq (jc_law_take 2 (n := 0) rfl j_int (by decide)) j_int) (JE.ex false trivial (j_listL (j_ixT (j_var rfl) j_int rfl))) (JE.ex true trivial (j_tupL (j_ixT (j_var rfl) j_int rfl)))) (BkOk.init hb (by decide)))⟩
abbrev sp_law_bad : Sp := PureSp (fun x : Bk => [da (bkT x)]) (fun x => x.2.length ≤ 7) (fun x => da (.list ((badC (prL x)).map celD)))
theorem jc_law_bad {Ps : List Sl} {E : XK} {tr : TA} (x : Bk) (h : JA tr Ps ([da (bkT x)])) (hp : x.2.length ≤ 7) : JE (tCall sp_law_bad [] E tr) Ps (da (.list ((badC (prL x)).map celD))) := j_call x h hp
theorem cal_law_bad (D : Def1 K mg "_law_bad" (topS 55)) (T : Top mg) (c_law_prices : C8.Cal P w K mg base 1 "_law_prices" sp_law_prices []) : C8.Cal P w K mg base 2 "_law_bad" sp_law_bad [] :=
  mkPure (N := ["_law_book_here", "_law_prices_here", "_law_found", "_law_one_here", "_law_other"]) (ps := ["_law_book_here"]) (n := 4) D (C8.fnScope_by (by decide +kernel)) (fun _ _ _ _ _ _ us hl => match us, hl with | [_], _ => rfl) (fun _ => rfl) rfl fun f cdv A outer s H E hr => by
    have nd : (["_law_book_here", "_law_prices_here", "_law_found", "_law_one_here", "_law_other"] : List Str).Nodup := by decide +kernel
    have hu : (XX P w K mg base ["_law_book_here", "_law_prices_here", "_law_found", "_law_one_here", "_law_other"] "_law_bad" (topS 55) f cdv A outer s H E).A.units + 1 < cLine := by have := hr.un; omega
    exact ⟨_, (pss_cons (ps_asg (pe_tup (pa_cons (C8.pe_c c_law_prices hr (by decide) (by rfl) (pa_cons (pv 0) pa_nil)) (pa_cons (pe_lst pa_nil) pa_nil))) (pg_tup (n := 2) (by rfl) (pgs_cons (pg_name (i := 1) nd rfl (.inr rfl)) (pgs_cons (pg_name (i := 2) nd rfl (.inl rfl)) pgs_nil)))) (pss_cons (ps_for PassesOwn.never rfl (pi_range1 (by rfl) T.range_ (pa_cons (pe_callB call_lenX (by rfl) T.len_ (by decide +kernel) (pa_cons (pv 1) pa_nil)) pa_nil)) (pg_name (i := 3) nd rfl (.inr rfl)) (pss_one (ps_set (i := 2) nd rfl (.inl rfl) (pe_op op_cat (pv 2) (pe_lc (own := [("_law_other", 4)]) rfl nd (pi_range1 (by rfl) T.range_ (pa_cons (pe_callB call_lenX (by rfl) T.len_ (by decide +kernel) (pa_cons (pv 1) pa_nil)) pa_nil)) (blkOk_by (N := ["_law_book_here", "_law_prices_here", "_law_found", "_law_one_here", "_law_other"]) (sc := defScope (topS 55)) (by decide +kernel)) (fun _ _ _ _ _ => (pg_name (i := 4) nd rfl (.inl rfl))) (fun _ _ _ _ _ => pts_one (pt_cmpR op_gt (pe_ix ix_seqB (pv 1) (pv 4) (fun _ _ => rfl)) (pe_ix ix_seqB (pv 1) (pv 3) (fun _ _ => rfl)) (nomark _))) (fun _ _ _ _ _ => (pe_tup (pa_cons (pv 3) (pa_cons (pv 4) pa_nil))))))))) (pss_one (ps_ret (pv 2))))),
      fun b hb => by
        have hb : b.2.length ≤ 7 := hb
        have hl := prL_len b
        let row : Nat → List PyData := fun i => ((List.range (prL b).length).filter fun j => decide ((prL b).getD i 0 < (prL b).getD j 0)).map fun j => celD (i, j)
        have hrow : ∀ i, (row i).length ≤ 8 := fun i => by
          show (((List.range (prL b).length).filter fun j => decide ((prL b).getD i 0 < (prL b).getD j 0)).map fun j => celD (i, j)).length ≤ 8
          rw [List.length_map]
          have := List.length_filter_le (fun j => decide ((prL b).getD i 0 < (prL b).getD j 0)) (List.range (prL b).length)
          rw [List.length_range] at this
          omega
        refine js_then (js_asgT (d := .tuple [intsD (prL b), .list []]) (j_tup (jd_cons (jc_law_prices b (ja_cons (j_var rfl) ja_nil) (by show b.2.length ≤ 1000; omega)) (jd_cons (j_lst jd_nil (by decide)) jd_nil)) (by show 2 ≤ 100000; decide)) tg_2) ?_
        have rg : ∀ {Ps : List Sl}, Ps[1]? = some (.pl (da (intsD (prL b)))) → JW (iRng1 (tCons (tCB (rLenX K) (tCons (tVar 1) tNil)) tNil)) Ps ((List.range (prL b).length).map fun i : Nat => PyData.int (i : Int)) := fun {Ps} h => (jw_rng1 (j := ((prL b).length : Int)) (jd_cons ((j_lenL (ds := (prL b).map .int) (j_var h)).eq (by rw [List.length_map])) jd_nil) (by omega)).is (by rw [Int.toNat_natCast]; rfl)
        refine js_then (js_forI (rg rfl) (fun i => [.pl (da (bkT b)), .pl (da (intsD (prL b))), .pl (da (.list ((List.range i).flatMap row))), .no, .no]) (by repeat first | exact True.intro | refine And.intro (Or.inr rfl) ?_ | refine And.intro (Or.inl rfl) ?_) fun i d hd => ?_) ((js_ret (j_var rfl)).out ?_)
        · have hi : i < (prL b).length := by
            have := (List.getElem?_eq_some_iff.mp hd).1
            rw [List.length_map, List.length_range] at this
            exact this
          rw [List.getElem?_map, List.getElem?_range hi] at hd
          cases hd
          refine ⟨[3], [.int (i : Int)], tg_name, ?_⟩
          refine (js_asg (j_cat (j_var rfl) (j_lc (xs := List.range (prL b).length) (enc := fun j : Nat => .int (j : Int)) (v := fun j => celD (i, j)) (f := fun j => decide ((prL b).getD i 0 < (prL b).getD j 0)) (rg rfl) (by rw [List.length_range]; omega) fun j hj => ⟨[4], [.int (j : Int)], tg_name, by simp, jt_test (j_B0 (j_ixL (j_var rfl) (j_var rfl) (atI_nats (l := prL b) (n := j) (List.mem_range.mp hj))) (j_ixL (j_var rfl) (j_var rfl) (atI_nats (l := prL b) (n := i) hi))), fun _ => j_tup (jd_cons (j_var rfl) (jd_cons (j_var rfl) jd_nil)) (by show 2 ≤ 100000; decide)⟩) ?_)).imp fun Rs q => ⟨_, q ▸ ?_, rfl⟩
          · have h1 := flat_len (List.range i) row 8 fun x _ => hrow x
            rw [List.length_range] at h1
            have h2 := hrow i
            show ((List.range i).flatMap row).length + (row i).length ≤ 100000
            omega
          · rw [List.range_succ, List.flatMap_append, List.flatMap_singleton]
            exact (by repeat first | exact True.intro | refine And.intro (Or.inr rfl) ?_ | refine And.intro (Or.inl rfl) ?_)
        · rw [List.length_map, List.length_range]
          unfold badC
          rw [List.map_flatMap]
          congr 3
          funext i
          rw [List.map_map]
          rfl⟩
abbrev sp_law_cells : Sp := PureSp (fun x : Ord => [dS (ordS x)]) (fun x => x.length ≤ 1000) (fun x => da (.list ((celsOf x).map celD)))
theorem jc_law_cells {Ps : List Sl} {E : XK} {tr : TA} (x : Ord) (h : JA tr Ps ([dS (ordS x)])) (hp : x.length ≤ 1000) : JE (tCall sp_law_cells [] E tr) Ps (da (.list ((celsOf x).map celD))) := j_call x h hp
theorem cal_law_cells (D : Def1 K mg "_law_cells" (topS 56)) (T : Top mg) : C8.Cal P w K mg base 1 "_law_cells" sp_law_cells [] :=
  mkPure (N := ["_law_order", "_law_found", "_law_k"]) (ps := ["_law_order"]) (n := 2) D (C8.fnScope_by (by decide +kernel)) (fun _ _ _ _ _ _ us hl => match us, hl with | [_], _ => rfl) (fun _ => rfl) rfl fun f cdv A outer s H E hr => by
    have nd : (["_law_order", "_law_found", "_law_k"] : List Str).Nodup := by decide +kernel
    have hu : (XX P w K mg base ["_law_order", "_law_found", "_law_k"] "_law_cells" (topS 56) f cdv A outer s H E).A.units + 1 < cLine := by have := hr.un; omega
    exact ⟨_, (pss_cons (ps_set (i := 1) nd rfl (.inl rfl) (pe_lst (pa_cons (pe_tup (pa_cons pe_int (pa_cons pe_int pa_nil))) pa_nil))) (pss_cons (ps_for PassesOwn.never rfl (pi_range2 (by rfl) T.range_ (pa_cons pe_int (pa_cons (pe_op op_add (pe_callB call_lenX (by rfl) T.len_ (by decide +kernel) (pa_cons (pv 0) pa_nil)) pe_int) pa_nil))) (pg_name (i := 2) nd rfl (.inl rfl)) (pss_one (ps_expr (pe_bm PySem.F.plainAttrs_list PySem.F.slot_list_append PySem.F.type_list_append mt_append (pv 1) (pa_cons (pe_tup (pa_cons (pe_countX (pe_slice C8.sl_txt (pv 0) po_none (po_some (pv 2))) pe_str) (pa_cons (pe_countX (pe_slice C8.sl_txt (pv 0) po_none (po_some (pv 2))) pe_str) pa_nil))) pa_nil))))) (pss_one (ps_ret (pv 1))))),
      fun o ho => by
        have ho : o.length ≤ 1000 := ho
        refine js_then (js_asgN (jn_lst (ds := [celD (0, 0)]) (jd_cons (j_tup (jd_cons j_int (jd_cons j_int jd_nil)) (by show 2 ≤ 100000; decide)) jd_nil) (by show 1 ≤ 100000; decide))) ?_
        have rg : irng ((o.length : Int) + 1 - 1).toNat (fun k => 1 + (k : Int)) = irng o.length fun k => 1 + (k : Int) := by rw [show ((o.length : Int) + 1 - 1).toNat = o.length by omega]
        refine js_then (js_forI ((jw_rng2 (i := 1) (j := (o.length : Int) + 1) (jd_cons j_int (jd_cons (j_I0 ((j_lenS (j_var rfl) (by rw [ordS_len]; omega)).eq (by rw [ordS_len])) j_int) jd_nil)) (by omega) (by omega)).is rg) (fun i => [.pl (dS (ordS o)), .ol ((List.range (i + 1)).map fun k => celD (celAt o k)), .no]) (by repeat first | exact True.intro | refine And.intro (Or.inr rfl) ?_ | refine And.intro (Or.inl rfl) ?_) fun i d hd => ⟨[2], [d], tg_name, ?_⟩) (js_freeze (i := 1) rfl ((js_ret (j_var rfl)).out ?_))
        · have hi : i < o.length := by
            have := (List.getElem?_eq_some_iff.mp hd).1
            rw [irng_len] at this
            exact this
          rw [irng_get hi] at hd
          cases hd
          have sl : ∀ {Ps : List Sl}, Ps[0]? = some (.pl (dS (ordS o))) → Ps[2]? = some (.pl (da (.int (1 + (i : Int))))) → JE (tSl C8.rSlX (tVar 0) tNoPart (tPart (tVar 2))) Ps (dS (ordS (o.take (i + 1)))) := fun {Ps} h0 h2 => (j_slS (j_var h0) jo_none (jo_some (j_var h2)) (by rw [ordS_len]; omega)).eq (by rw [show (1 : Int) + (i : Int) = ((i + 1 : Nat) : Int) by omega, take_ord])
          refine (js_app (i := 1) (d := celD (celAt o (i + 1))) rfl ((j_tup (jd_cons (j_count (sl rfl rfl) j_str) (jd_cons (j_count (sl rfl rfl) j_str) jd_nil)) (by show 2 ≤ 100000; decide)).dat ?_) (by rw [List.length_map, List.length_range]; omega)).imp fun Rs q => ⟨_, q ▸ ?_, rfl⟩
          · rw [show ("L" : Str) = letS false from L_is, show ("T" : Str) = letS true from T_is, count_ord, count_ord]
            rfl
          · rw [List.range_succ (n := i + 1), List.map_append]
            exact (by repeat first | exact True.intro | refine And.intro (Or.inr rfl) ?_ | refine And.intro (Or.inl rfl) ?_)
        · rw [irng_len]
          unfold celsOf
          rw [List.map_map]
          rfl⟩
def plainL (b : Bk) : List Ord := (List.range b.2.length).map fun k => if decide ((prL b).getD k 0 < (prL b).getD (k + 1) 0) then [false, true] else [true, false]
def plainO (b : Bk) : Ord := (plainL b).flatten
theorem join_nil : ∀ l : List (List Nat), TL.joinL [] l = l.flatten
  | [] => rfl
  | [x] => by show x = _; simp
  | x :: y :: l => by
    show x ++ ([] ++ TL.joinL [] (y :: l)) = _
    rw [join_nil (y :: l)]
    rfl
theorem join_ord (l : List Ord) : Txt.join "" (l.map ordS) = ordS l.flatten := by
  have e : l.map ordS = (l.map fun o => o.map code).map SX.S := by rw [List.map_map]; rfl
  have e0 : ("" : Str) = SX.S [] := rfl
  rw [e, e0, SX.join_S, join_nil]
  unfold ordS
  rw [List.map_flatten]
abbrev sp_law_plain : Sp := PureSp (fun x : Bk => [da (bkT x)]) (fun x => x.2.length ≤ 7) (fun x => dS (ordS (plainO x)))
theorem jc_law_plain {Ps : List Sl} {E : XK} {tr : TA} (x : Bk) (h : JA tr Ps ([da (bkT x)])) (hp : x.2.length ≤ 7) : JE (tCall sp_law_plain [] E tr) Ps (dS (ordS (plainO x))) := j_call x h hp
theorem cal_law_plain (D : Def1 K mg "_law_plain" (topS 57)) (T : Top mg) (c_law_prices : C8.Cal P w K mg base 1 "_law_prices" sp_law_prices []) : C8.Cal P w K mg base 2 "_law_plain" sp_law_plain [] :=
  mkPure (N := ["_law_book_here", "_law_prices_here", "_law_k"]) (ps := ["_law_book_here"]) (n := 2) D (C8.fnScope_by (by decide +kernel)) (fun _ _ _ _ _ _ us hl => match us, hl with | [_], _ => rfl) (fun _ => rfl) rfl fun f cdv A outer s H E hr => by
    have nd : (["_law_book_here", "_law_prices_here", "_law_k"] : List Str).Nodup := by decide +kernel
    have hu : (XX P w K mg base ["_law_book_here", "_law_prices_here", "_law_k"] "_law_plain" (topS 57) f cdv A outer s H E).A.units + 1 < cLine := by have := hr.un; omega
    exact ⟨_, (pss_cons (ps_set (i := 1) nd rfl (.inr rfl) (C8.pe_c c_law_prices hr (by decide) (by rfl) (pa_cons (pv 0) pa_nil))) (pss_one (ps_ret (pe_joinX pe_str (pe_lc (own := [("_law_k", 2)]) rfl nd (pi_range1 (by rfl) T.range_ (pa_cons (pe_op op_sub (pe_callB call_lenX (by rfl) T.len_ (by decide +kernel) (pa_cons (pv 1) pa_nil)) pe_int) pa_nil)) (blkOk_by (N := ["_law_book_here", "_law_prices_here", "_law_k"]) (sc := defScope (topS 57)) (by decide +kernel)) (fun _ _ _ _ _ => (pg_name (i := 2) nd rfl (.inl rfl))) (fun _ _ _ _ _ => pts_nil) (fun _ _ _ _ _ => (pe_ifExp (pt_cmpR op_gt (pe_ix ix_seqB (pv 1) (pe_op op_add (pv 2) pe_int) (fun _ _ => rfl)) (pe_ix ix_seqB (pv 1) (pv 2) (fun _ _ => rfl)) (nomark _)) pe_str pe_str))))))),
      fun b hb => by
        have hb : b.2.length ≤ 7 := hb
        have hl := prL_len b
        refine js_then (js_asg (jc_law_prices b (ja_cons (j_var rfl) ja_nil) (by show b.2.length ≤ 1000; omega))) ((js_ret (j_join (ys := (plainL b).map ordS) j_str ((j_lcA (xs := List.range b.2.length) (enc := fun k : Nat => .int (k : Int)) (v := fun k => .str (ordS (if decide ((prL b).getD k 0 < (prL b).getD (k + 1) 0) then [false, true] else [true, false]))) ((jw_rng1 (j := (b.2.length : Int)) (jd_cons ((j_I0 (j_lenL (j_var rfl)) j_int).dat ?_) jd_nil) (by omega)).is (by rw [Int.toNat_natCast]; rfl)) (by rw [List.length_range]; omega) fun k hk => ⟨[2], [.int (k : Int)], tg_name, by simp, ?_⟩).dat ?_) ?_)).out ?_)
        · rw [List.length_map, hl]
          show PyData.int (((b.2.length + 1 : Nat) : Int) - 1) = _
          rw [Int.natCast_add]
          show PyData.int ((b.2.length : Int) + 1 - 1) = _
          rw [Int.add_sub_cancel]
        · have hk := List.mem_range.mp hk
          refine j_if (b := decide ((prL b).getD k 0 < (prL b).getD (k + 1) 0)) (jt_test (j_B0 (j_ixL (j_var rfl) ((j_I0 (j_var rfl) j_int).dat (e := .int ((k + 1 : Nat) : Int)) (by rw [Int.natCast_add]; rfl)) (atI_nats (l := prL b) (n := k + 1) (by omega))) (j_ixL (j_var rfl) (j_var rfl) (atI_nats (l := prL b) (n := k) (by omega))))) (fun h => j_str.eq ?_) fun h => j_str.eq ?_
          · rw [h]; rfl
          · rw [h]; rfl
        · unfold plainL
          rw [List.map_map, List.map_map]
          rfl
        · have e0 : ("" : Str).length = 0 := rfl
          rw [e0, Nat.mul_zero, Nat.add_zero, List.map_map]
          have : ∀ l : List Ord, (∀ o ∈ l, o.length = 2) → (l.map ((·.length) ∘ ordS)).sum = 2 * l.length := by
            intro l h
            induction l with
            | nil => rfl
            | cons a l ih =>
              rw [List.map_cons, List.sum_cons, ih fun o ho => h o (List.mem_cons_of_mem _ ho), List.length_cons]
              show (ordS a).length + _ = _
              rw [ordS_len, h a List.mem_cons_self]
              omega
          rw [this _ fun o ho => by
            unfold plainL at ho
            obtain ⟨k, _, rfl⟩ := List.mem_map.mp ho
            split <;> rfl]
          unfold plainL
          rw [List.length_map, List.length_range]
          omega
        · rw [join_ord]
          rfl⟩
def lfE (o : Ord) (c : Cel) : Bool := decide (0 < ((celsOf o).filter fun d => decide (d.2 < c.2) && decide (c.1 < d.1)).length)
abbrev sp_law_label_first : Sp := PureSp (fun x : Ord × Cel => [dS (ordS x.1), da (celD x.2)]) (fun x => x.1.length ≤ 1000) (fun x => dB (lfE x.1 x.2))
theorem jc_law_label_first {Ps : List Sl} {E : XK} {tr : TA} (x : Ord × Cel) (h : JA tr Ps ([dS (ordS x.1), da (celD x.2)])) (hp : x.1.length ≤ 1000) : JE (tCall sp_law_label_first [] E tr) Ps (dB (lfE x.1 x.2)) := j_call x h hp
theorem cal_law_label_first (D : Def1 K mg "_law_label_first" (topS 60)) (T : Top mg) (c_law_cells : C8.Cal P w K mg base 1 "_law_cells" sp_law_cells []) : C8.Cal P w K mg base 2 "_law_label_first" sp_law_label_first [] :=
  mkPure (N := ["_law_order", "_law_cell", "_law_one_here", "_law_other"]) (ps := ["_law_order", "_law_cell"]) (n := 2) D (C8.fnScope_by (by decide +kernel)) (fun _ _ _ _ _ _ us hl => match us, hl with | [_, _], _ => rfl) (fun _ => rfl) rfl fun f cdv A outer s H E hr => by
    have nd : (["_law_order", "_law_cell", "_law_one_here", "_law_other"] : List Str).Nodup := by decide +kernel
    have hu : (XX P w K mg base ["_law_order", "_law_cell", "_law_one_here", "_law_other"] "_law_label_first" (topS 60) f cdv A outer s H E).A.units + 1 < cLine := by have := hr.un; omega
    exact ⟨_, (pss_one (ps_ret (pe_cmpR op_gt (pe_callB call_lenX (by rfl) T.len_ (by decide +kernel) (pa_cons (pe_lc (own := [("_law_one_here", 2), ("_law_other", 3)]) rfl nd (pi_list (C8.pe_c c_law_cells hr (by decide) (by rfl) (pa_cons (pv 0) pa_nil))) (blkOk_by (N := ["_law_order", "_law_cell", "_law_one_here", "_law_other"]) (sc := defScope (topS 60)) (by decide +kernel)) (fun _ _ _ _ _ => (pg_tupB (n := 2) (by rfl) (pgs_cons (pg_name (i := 2) nd rfl (.inl rfl)) (pgs_cons (pg_name (i := 3) nd rfl (.inl rfl)) pgs_nil)))) (fun _ _ _ _ _ => pts_one (PW.pt (pw_and (pt_cmpR op_lt (pv 3) (pe_ix ix_seqB (pv 1) pe_int (fun _ _ => rfl)) (nomark _)) (pw_and1 (pt_cmpR op_gt (pv 2) (pe_ix ix_seqB (pv 1) pe_int (fun _ _ => rfl)) (nomark _)))))) (fun _ _ _ _ _ => (pv 2))) pa_nil)) pe_int (nomark _)))),
      fun ⟨o, c⟩ ho => by
        have ho : o.length ≤ 1000 := ho
        refine (js_ret (j_B0 (j_lenL (j_lc (xs := celsOf o) (enc := celD) (v := fun d => .int (d.1 : Int)) (f := fun d => decide (d.2 < c.2) && decide (c.1 < d.1)) (jw_list (jc_law_cells o (ja_cons (j_var rfl) ja_nil) ho)) (by unfold celsOf; rw [List.length_map, List.length_range]; omega) fun d _ => ⟨[2, 3], [.int (d.1 : Int), .int (d.2 : Int)], tg_2, by simp, jt_and ((jt_test (j_B0 (j_var rfl) (j_ixT (ds := [.int (c.1 : Int), .int (c.2 : Int)]) (j_var rfl) j_int rfl))).is (decide_eq_decide.mpr Int.ofNat_lt)) fun _ => (jt_test (j_B0 (j_var rfl) (j_ixT (ds := [.int (c.1 : Int), .int (c.2 : Int)]) (j_var rfl) j_int rfl))).is (decide_eq_decide.mpr Int.ofNat_lt), fun _ => j_var rfl⟩)) j_int)).out (congrArg dB ?_)
        unfold lfE
        rw [List.length_map]
        exact decide_eq_decide.mpr Int.natCast_pos⟩
def notLess (a b : List Int) : Bool := (List.range a.length).all fun i => !decide (a.getD i 0 < b.getD i 0)
theorem eqv_nil : ∀ ds : List PyData, PyData.eqv (.list ds) (.list []) = ds.isEmpty
  | [] => rfl
  | _ :: _ => rfl
abbrev sp_law_all_not_less : Sp := PureSp (fun x : List Int × List Int => [da (intsD x.1), da (intsD x.2)]) (fun x => x.2.length = x.1.length ∧ x.1.length ≤ 1000) (fun x => dB (notLess x.1 x.2))
theorem jc_law_all_not_less {Ps : List Sl} {E : XK} {tr : TA} (x : List Int × List Int) (h : JA tr Ps ([da (intsD x.1), da (intsD x.2)])) (hp : x.2.length = x.1.length ∧ x.1.length ≤ 1000) : JE (tCall sp_law_all_not_less [] E tr) Ps (dB (notLess x.1 x.2)) := j_call x h hp
theorem cal_law_all_not_less (D : Def1 K mg "_law_all_not_less" (topS 63)) (T : Top mg) : C8.Cal P w K mg base 1 "_law_all_not_less" sp_law_all_not_less [] :=
  mkPure (N := ["_law_one_here", "_law_other", "_law_at"]) (ps := ["_law_one_here", "_law_other"]) (n := 1) D (C8.fnScope_by (by decide +kernel)) (fun _ _ _ _ _ _ us hl => match us, hl with | [_, _], _ => rfl) (fun _ => rfl) rfl fun f cdv A outer s H E hr => by
    have nd : (["_law_one_here", "_law_other", "_law_at"] : List Str).Nodup := by decide +kernel
    have hu : (XX P w K mg base ["_law_one_here", "_law_other", "_law_at"] "_law_all_not_less" (topS 63) f cdv A outer s H E).A.units + 1 < cLine := by have := hr.un; omega
    exact ⟨_, (pss_one (ps_ret (pe_cmpR (op_eqD hr.units) (pe_lc (own := [("_law_at", 2)]) rfl nd (pi_range1 (by rfl) T.range_ (pa_cons (pe_callB call_lenX (by rfl) T.len_ (by decide +kernel) (pa_cons (pv 0) pa_nil)) pa_nil)) (blkOk_by (N := ["_law_one_here", "_law_other", "_law_at"]) (sc := defScope (topS 63)) (by decide +kernel)) (fun _ _ _ _ _ => (pg_name (i := 2) nd rfl (.inl rfl))) (fun _ _ _ _ _ => pts_one (pt_cmpR op_lt (pe_ix ix_seqB (pv 0) (pv 2) (fun _ _ => rfl)) (pe_ix ix_seqB (pv 1) (pv 2) (fun _ _ => rfl)) (nomark _))) (fun _ _ _ _ _ => (pv 2))) (pe_lst pa_nil) (nomark _)))),
      fun ⟨a, b⟩ ⟨hl, ha⟩ => by
        have hl : b.length = a.length := hl
        have ha : a.length ≤ 1000 := ha
        refine (js_ret (j_eqD (j_lc (xs := List.range a.length) (enc := fun k : Nat => .int (k : Int)) (v := fun k => .int (k : Int)) (f := fun k => decide (a.getD k 0 < b.getD k 0)) ((jw_rng1 (j := (a.length : Int)) (jd_cons ((j_lenL (j_var rfl)).eq (by rw [List.length_map])) jd_nil) (by omega)).is (by rw [Int.toNat_natCast]; rfl)) (by rw [List.length_range]; omega) fun k hk => ⟨[2], [.int (k : Int)], tg_name, by simp, jt_test (j_B0 (j_ixL (j_var rfl) (j_var rfl) (atI_nats (l := a) (n := k) (List.mem_range.mp hk))) (j_ixL (j_var rfl) (j_var rfl) (atI_nats (l := b) (n := k) (by rw [hl]; exact List.mem_range.mp hk)))), fun _ => j_var rfl⟩) (j_lst jd_nil (by decide)) (shp_list fun d hd => ?_) rfl)).out (congrArg dB ?_)
        · obtain ⟨k, _, rfl⟩ := List.mem_map.mp hd
          exact ⟨rfl, by show 0 ≤ 60; decide⟩
        · rw [eqv_nil]
          unfold notLess
          rw [List.isEmpty_map]
          induction List.range a.length with
          | nil => rfl
          | cons k l ih =>
            rw [List.filter_cons, List.all_cons]
            cases decide (a.getD k 0 < b.getD k 0)
            · rw [if_neg (by decide), ih]; rfl
            · rw [if_pos rfl]; rfl⟩
end
end LK
/-! text M3 -/
namespace LK
open PySem PySem.Spec PyProof.Rows L2
/-! ### the plain order is good -/
theorem flat2 : ∀ (l : List Ord) (k : Nat), (∀ o ∈ l, o.length = 2) → l.flatten[2 * k]? = (l[k]?).bind (fun o => o[0]?) ∧ l.flatten[2 * k + 1]? = (l[k]?).bind (fun o => o[1]?)
  | [], k, _ => by simp
  | o :: l, 0, h => by
    have h2 := h o List.mem_cons_self
    match o, h2 with
    | [x, y], _ => exact ⟨rfl, rfl⟩
  | o :: l, k + 1, h => by
    have h2 := h o List.mem_cons_self
    have ih := flat2 l k fun x hx => h x (List.mem_cons_of_mem _ hx)
    rw [List.flatten_cons, List.getElem?_append_right (by omega), List.getElem?_append_right (by omega), h2, show 2 * (k + 1) - 2 = 2 * k by omega, show 2 * (k + 1) + 1 - 2 = 2 * k + 1 by omega]
    exact ih
theorem flat2_len : ∀ (l : List Ord), (∀ o ∈ l, o.length = 2) → l.flatten.length = 2 * l.length
  | [], _ => rfl
  | o :: l, h => by
    rw [List.flatten_cons, List.length_append, h o List.mem_cons_self, flat2_len l fun x hx => h x (List.mem_cons_of_mem _ hx), List.length_cons]
    omega
def upB (b : Bk) (k : Nat) : Bool := decide ((prL b).getD k 0 < (prL b).getD (k + 1) 0)
theorem plainL_mem {b : Bk} {o : Ord} (h : o ∈ plainL b) : o.length = 2 := by
  unfold plainL at h
  obtain ⟨k, _, rfl⟩ := List.mem_map.mp h
  split <;> rfl
theorem plain_len (b : Bk) : (plainO b).length = 2 * b.2.length := by
  unfold plainO
  rw [flat2_len _ fun o h => plainL_mem h]
  unfold plainL
  rw [List.length_map, List.length_range]
theorem plain_get {b : Bk} {k : Nat} (h : k < b.2.length) : (plainO b)[2 * k]? = some (!upB b k) ∧ (plainO b)[2 * k + 1]? = some (upB b k) := by
  unfold plainO
  obtain ⟨h1, h2⟩ := flat2 (plainL b) k fun o h => plainL_mem h
  have e : (plainL b)[k]? = some (if upB b k = true then [false, true] else [true, false]) := by
    unfold plainL
    rw [List.getElem?_map, List.getElem?_range h]
    rfl
  rw [h1, h2, e]
  cases upB b k <;> exact ⟨rfl, rfl⟩
theorem plain_cel {b : Bk} : ∀ {k : Nat}, k ≤ b.2.length → celAt (plainO b) (2 * k) = (k, k)
  | 0, _ => rfl
  | k + 1, h => by
    obtain ⟨h1, h2⟩ := plain_get (b := b) (k := k) (by omega)
    have ih := plain_cel (b := b) (k := k) (by omega)
    rw [show 2 * (k + 1) = 2 * k + 1 + 1 by omega, celAt_succ h2, celAt_succ h1, ih]
    cases upB b k <;> rfl
theorem plain_good (b : Bk) : Good b (plainO b) := by
  have hl := plain_len b
  have he := plain_cel (b := b) (Nat.le_refl _)
  have e0 : celAt (plainO b) (2 * b.2.length) = (cn false (plainO b), cn true (plainO b)) := by unfold celAt; rw [List.take_of_length_le (by omega)]
  rw [e0] at he
  injection he with e1 e2
  refine ⟨hl, e1, e2, fun k hk c hc e => ?_⟩
  have hb := (mem_badC.mp hc).2.2
  rcases Nat.mod_two_eq_zero_or_one k with z | z
  · have hk2 : k = 2 * (k / 2) := by omega
    rw [hk2, plain_cel (by omega)] at e
    rw [← e] at hb
    dsimp only at hb
    omega
  · have hk2 : k = 2 * (k / 2) + 1 := by omega
    have hlt : k / 2 < b.2.length := by omega
    obtain ⟨h1, _⟩ := plain_get hlt
    have hc1 := celAt_succ h1
    rw [plain_cel (by omega)] at hc1
    rw [hk2, hc1] at e
    cases hu : upB b (k / 2) with
    | true =>
      rw [hu] at e
      have : c = (k / 2 + 1, k / 2) := e.symm
      rw [this] at hb
      dsimp only at hb
      have := of_decide_eq_true hu
      omega
    | false =>
      rw [hu] at e
      have : c = (k / 2, k / 2 + 1) := e.symm
      rw [this] at hb
      dsimp only at hb
      have := of_decide_eq_false hu
      omega
end LK
/-! text W12 -/
namespace LK
open PySem PySem.Spec PyProof.Rows L2
section
variable {P : Program} {w : World} {K : PySem.W.Frag} {mg : Str → Option Value} {base : Heap} {C : Addr}
theorem set_same {σ : L2.St} {n : Nat} {v : V} (h1 : σ[n]? = some (some v)) : σ.set n (some v) = σ := by
  have hi : n < σ.length := (List.getElem?_eq_some_iff.mp h1).1
  refine List.ext_getElem? fun j => ?_
  by_cases hj : n = j
  · subst hj; rw [List.getElem?_set_self hi, h1]
  · rw [List.getElem?_set_ne hj]
theorem js_nextOd {Ps : List Sl} {P : DP} {n m m' : Nat} {f : Int → Int → Option V} (hi : Ps[n]? = some (.od m f)) (hm : m ≤ m') : JS tNext Ps (Is (Ps.set n (.od m' f))) P := fun S0 B H0 G D σ H ⟨S, x⟩ nx r => by
  obtain ⟨u, h1, a, kvs, rfl, h2, h3, h4, h5, h6⟩ := x.sl.get hi (by intro z; cases z)
  have q := x.put n (s := .od m' f) (v := .ref a) ⟨a, kvs, rfl, h2, h3, h4, Nat.le_trans h5 hm, h6⟩ fun c hc => ⟨x.own n _ _ c hi h1 hc, fun j t w nj e1 e2 => x.dist n j _ t _ w c (Ne.symm nj) hi e1 h1 e2 hc⟩
  rw [set_same h1] at q
  exact nx _ _ _ rfl ⟨S, q⟩
def barC (bad : List Cel) : Nat → Nat → Bool := fun x y => decide ((x, y) ∈ bad)
def ldF (bar : Nat → Nat → Bool) (n : Nat) (i j : Nat) : Int → Int → Option V := fun x y =>
  if (0 ≤ x ∧ x ≤ n ∧ 0 ≤ y ∧ y ≤ n ∧ ((n : Int) - x < i ∨ ((n : Int) - x = i ∧ (n : Int) - y < j))) ∧ 0 < wy bar n ((n : Int) - x).toNat ((n : Int) - y).toNat then some (.bl true) else none
theorem ldF_0 (bar : Nat → Nat → Bool) (n : Nat) : ldF bar n 0 0 = fun _ _ => none := by
  funext x y
  unfold ldF
  rw [if_neg (by rintro ⟨h, _⟩; omega)]
theorem ldF_row (bar : Nat → Nat → Bool) (n i : Nat) : ldF bar n i (n + 1) = ldF bar n (i + 1) 0 := by
  funext x y
  unfold ldF
  by_cases h : 0 ≤ x ∧ x ≤ n ∧ 0 ≤ y ∧ y ≤ n ∧ ((n : Int) - x < i ∨ ((n : Int) - x = i ∧ (n : Int) - y < ((n + 1 : Nat) : Int)))
  · have h' : 0 ≤ x ∧ x ≤ n ∧ 0 ≤ y ∧ y ≤ n ∧ ((n : Int) - x < ((i + 1 : Nat) : Int) ∨ ((n : Int) - x = ((i + 1 : Nat) : Int) ∧ (n : Int) - y < ((0 : Nat) : Int))) := by omega
    by_cases w : 0 < wy bar n ((n : Int) - x).toNat ((n : Int) - y).toNat
    · rw [if_pos ⟨h, w⟩, if_pos ⟨h', w⟩]
    · rw [if_neg fun z => w z.2, if_neg fun z => w z.2]
  · rw [if_neg fun z => h z.1, if_neg fun z => h (by have := z.1; omega)]
theorem ldF_step (bar : Nat → Nat → Bool) (n i j : Nat) (hi : i ≤ n) (hj : j ≤ n) (hw : 0 < wy bar n i j) : (fun a b : Int => if a = (n : Int) - (i : Int) ∧ b = (n : Int) - (j : Int) then some (V.bl true) else ldF bar n i j a b) = ldF bar n i (j + 1) := by
  funext x y
  show (if x = (n : Int) - (i : Int) ∧ y = (n : Int) - (j : Int) then some (V.bl true) else ldF bar n i j x y) = _
  by_cases e : x = (n : Int) - (i : Int) ∧ y = (n : Int) - (j : Int)
  · rw [if_pos e]
    unfold ldF
    rw [if_pos]
    rw [e.1, e.2, show ((n : Int) - ((n : Int) - (i : Int))).toNat = i by omega, show ((n : Int) - ((n : Int) - (j : Int))).toNat = j by omega]
    exact ⟨by omega, hw⟩
  · rw [if_neg e]
    unfold ldF
    by_cases w : 0 < wy bar n ((n : Int) - x).toNat ((n : Int) - y).toNat
    · by_cases h : 0 ≤ x ∧ x ≤ n ∧ 0 ≤ y ∧ y ≤ n ∧ ((n : Int) - x < i ∨ ((n : Int) - x = i ∧ (n : Int) - y < j))
      · rw [if_pos ⟨h, w⟩, if_pos ⟨by omega, w⟩]
      · rw [if_neg fun z => h z.1, if_neg fun z => h (by have := z.1; omega)]
    · rw [if_neg fun z => w z.2, if_neg fun z => w z.2]
theorem ldF_skip (bar : Nat → Nat → Bool) (n i j : Nat) (hi : i ≤ n) (hj : j ≤ n) (hw : wy bar n i j = 0) : ldF bar n i j = ldF bar n i (j + 1) := by
  funext x y
  unfold ldF
  by_cases e : x = (n : Int) - (i : Int) ∧ y = (n : Int) - (j : Int)
  · have w : ¬ 0 < wy bar n ((n : Int) - x).toNat ((n : Int) - y).toNat := by
      rw [e.1, e.2, show ((n : Int) - ((n : Int) - (i : Int))).toNat = i by omega, show ((n : Int) - ((n : Int) - (j : Int))).toNat = j by omega]
      omega
    rw [if_neg fun z => w z.2, if_neg fun z => w z.2]
  · by_cases w : 0 < wy bar n ((n : Int) - x).toNat ((n : Int) - y).toNat
    · by_cases h : 0 ≤ x ∧ x ≤ n ∧ 0 ≤ y ∧ y ≤ n ∧ ((n : Int) - x < i ∨ ((n : Int) - x = i ∧ (n : Int) - y < j))
      · rw [if_pos ⟨h, w⟩, if_pos ⟨by omega, w⟩]
      · rw [if_neg fun z => h z.1, if_neg fun z => h (by have := z.1; omega)]
    · rw [if_neg fun z => w z.2, if_neg fun z => w z.2]
theorem ldF_at (bar : Nat → Nat → Bool) (n i j : Nat) {a b : Nat} (ha : a ≤ n) (hb : b ≤ n) (h : a < i ∨ (a = i ∧ b < j)) : (ldF bar n i j ((n : Int) - (a : Int)) ((n : Int) - (b : Int))).isSome = decide (0 < wy bar n a b) := by
  unfold ldF
  rw [show ((n : Int) - ((n : Int) - (a : Int))).toNat = a by omega, show ((n : Int) - ((n : Int) - (b : Int))).toNat = b by omega]
  by_cases w : 0 < wy bar n a b
  · rw [if_pos ⟨by omega, w⟩, decide_eq_true w]
    rfl
  · rw [if_neg fun z => w z.2, decide_eq_false w]
    rfl
theorem ldF_out (bar : Nat → Nat → Bool) (n i j : Nat) {x y : Int} (h : n < x ∨ n < y) : (ldF bar n i j x y).isSome = false := by
  unfold ldF
  rw [if_neg fun z => by have := z.1; omega]
  rfl
theorem ldF_cel (bar : Nat → Nat → Bool) (n : Nat) (c : Cel) : (ldF bar n (n + 1) 0 (c.1 : Int) (c.2 : Int)).isSome = true ↔ posW bar n c := by
  unfold posW
  by_cases h : c.1 ≤ n ∧ c.2 ≤ n
  · have := ldF_at bar n (n + 1) 0 (a := n - c.1) (b := n - c.2) (by omega) (by omega) (.inl (by omega))
    rw [show (n : Int) - ((n - c.1 : Nat) : Int) = (c.1 : Int) by omega, show (n : Int) - ((n - c.2 : Nat) : Int) = (c.2 : Int) by omega] at this
    rw [this, decide_eq_true_eq]
    exact ⟨fun w => ⟨h.1, h.2, w⟩, fun w => w.2.2⟩
  · rw [ldF_out bar n (n + 1) 0 (by omega)]
    exact ⟨fun z => (nomatch z), fun z => absurd ⟨z.1, z.2.1⟩ h⟩
theorem on_iff {bar : Nat → Nat → Bool} {n i j : Nat} : ((decide (i = 0 ∧ j = 0) || (!decide (i = 0) && decide (0 < wy bar n (i - 1) j) || !decide (j = 0) && decide (0 < wy bar n i (j - 1)))) && !bar (n - i) (n - j)) = decide (0 < wy bar n i j) := by
  cases hb : bar (n - i) (n - j) with
  | true =>
    rw [wy_bar hb]
    simp
  | false =>
    by_cases h0 : i = 0 ∧ j = 0
    · obtain ⟨rfl, rfl⟩ := h0
      rw [wy_00 (by simpa using hb)]
      simp
    · rw [wy_else hb h0, decide_eq_false h0, Bool.false_or, Bool.not_false, Bool.and_true, Bool.eq_iff_iff]
      simp only [Bool.or_eq_true, Bool.and_eq_true, Bool.not_eq_true', decide_eq_true_eq, decide_eq_false_iff_not]
      by_cases hi : i = 0
      · by_cases hj : j = 0
        · exact absurd ⟨hi, hj⟩ h0
        · rw [if_pos hi, if_neg hj]
          constructor
          · rintro (h | h)
            · exact absurd hi h.1
            · omega
          · intro h; exact .inr ⟨hj, by omega⟩
      · by_cases hj : j = 0
        · rw [if_neg hi, if_pos hj]
          constructor
          · rintro (h | h)
            · omega
            · exact absurd hj h.1
          · intro h; exact .inl ⟨hi, by omega⟩
        · rw [if_neg hi, if_neg hj]
          constructor
          · rintro (h | h) <;> omega
          · intro h
            by_cases z : 0 < wy bar n (i - 1) j
            · exact .inl ⟨hi, z⟩
            · exact .inr ⟨hj, by omega⟩
abbrev sp_law_leading : Sp := PureSp (fun x : Nat × List Cel => [dI (x.1 : Int), da (.list (x.2.map celD))]) (fun x => x.1 ≤ 7) (fun x => isDT (ldF (barC x.2) x.1 (x.1 + 1) 0))
theorem jc_law_leading {Ps : List Sl} {E : XK} {tr : TA} (x : Nat × List Cel) (h : JA tr Ps ([dI (x.1 : Int), da (.list (x.2.map celD))])) (hp : x.1 ≤ 7) : JE (tCall sp_law_leading [] E tr) Ps (isDT (ldF (barC x.2) x.1 (x.1 + 1) 0)) := j_call x h hp
theorem cal_law_leading (D : Def1 K mg "_law_leading" (topS 59)) (T : Top mg) : C8.Cal P w K mg base 2 "_law_leading" sp_law_leading [] :=
  mkPure (N := ["_law_many", "_law_bad_here", "_law_found", "_law_one_here", "_law_other", "_law_on"]) (ps := ["_law_many", "_law_bad_here"]) (n := 4) D (C8.fnScope_by (by decide +kernel)) (fun _ _ _ _ _ _ us hl => match us, hl with | [_, _], _ => rfl) (fun _ => rfl) rfl fun f cdv A outer s H E hr => by
    have nd : (["_law_many", "_law_bad_here", "_law_found", "_law_one_here", "_law_other", "_law_on"] : List Str).Nodup := by decide +kernel
    have hu : (XX P w K mg base ["_law_many", "_law_bad_here", "_law_found", "_law_one_here", "_law_other", "_law_on"] "_law_leading" (topS 59) f cdv A outer s H E).A.units + 1 < cLine := by have := hr.un; omega
    exact ⟨_, (pss_cons (ps_set (i := 2) nd rfl (.inl rfl) pe_dnewT) (pss_cons (ps_for PassesOwn.never rfl (pi_range3 (by rfl) T.range_ (pa_cons (pv 0) (pa_cons (pe_un un_neg pe_int) (pa_cons (pe_un un_neg pe_int) pa_nil)))) (pg_name (i := 3) nd rfl (.inl rfl)) (pss_one (ps_for PassesOwn.never rfl (pi_range3 (by rfl) T.range_ (pa_cons (pv 0) (pa_cons (pe_un un_neg pe_int) (pa_cons (pe_un un_neg pe_int) pa_nil)))) (pg_name (i := 4) nd rfl (.inl rfl)) (pss_cons (ps_set (i := 5) nd rfl (.inl rfl) (pe_or (pe_cmpR (op_eqD hr.units) (pe_tup (pa_cons (pv 3) (pa_cons (pv 4) pa_nil))) (pe_tup (pa_cons (pv 0) (pa_cons (pv 0) pa_nil))) (nomark _)) (pe_or (pe_cmp (pc_din hu (pe_tup (pa_cons (pe_op op_add (pv 3) pe_int) (pa_cons (pv 4) pa_nil))) (pv 2)) (by rfl)) (pe_one (pe_cmp (pc_din hu (pe_tup (pa_cons (pv 3) (pa_cons (pe_op op_add (pv 4) pe_int) pa_nil))) (pv 2)) (by rfl)))))) (pss_one (ps_if (PW.pt (pw_and (pt_val (pv 5)) (pw_and1 (pt_cmpR (op_notInD (hu65 hr)) (pe_tup (pa_cons (pv 3) (pa_cons (pv 4) pa_nil))) (pv 1) (by rfl))))) (pss_one (ps_dput hu (pv 2) (pe_tup (pa_cons (pv 3) (pa_cons (pv 4) pa_nil))) pe_bl rfl)) pss_nil)))))) (pss_one (ps_ret (pv 2))))),
      fun ⟨n, bad⟩ hn => by
        have hn : n ≤ 7 := hn
        have r0 : irng ((n : Int) - (-1)).toNat (fun k => (n : Int) - (k : Int)) = irng (n + 1) fun k => (n : Int) - (k : Int) := by rw [show ((n : Int) - (-1)).toNat = n + 1 by omega]
        have rl : (irng (n + 1) fun k => (n : Int) - (k : Int)).length = n + 1 := irng_len _ _
        refine js_then js_newD ?_
        refine js_then (js_forI (jw_rng3 (i := (n : Int)) (j := -1) (jd_cons (j_var rfl) (jd_cons (j_neg j_int) (jd_cons (j_neg j_int) jd_nil))) (by omega) (by omega)) (fun i => [.pl (dI (n : Int)), .pl (da (.list (bad.map celD))), .od ((n + 1) * i) (ldF (barC bad) n i 0), .no, .no, .no]) (by rw [Nat.mul_zero, ldF_0]; exact (by repeat first | exact True.intro | refine And.intro (Or.inr rfl) ?_ | refine And.intro (Or.inl rfl) ?_)) fun i d hd => ?_) ?_
        · rw [r0] at hd
          obtain ⟨hi, _⟩ := List.getElem?_eq_some_iff.mp hd
          rw [rl] at hi
          rw [irng_get hi] at hd
          cases hd
          refine ⟨[3], [_], tg_name, ?_⟩
          refine JS.imp (js_forI (jw_rng3 (i := (n : Int)) (j := -1) (jd_cons (j_var rfl) (jd_cons (j_neg j_int) (jd_cons (j_neg j_int) jd_nil))) (by omega) (by omega)) (fun j => [.pl (dI (n : Int)), .pl (da (.list (bad.map celD))), .od ((n + 1) * i + j) (ldF (barC bad) n i j), .pl (dI ((n : Int) - (i : Int))), .no, .no]) (by repeat first | exact True.intro | refine And.intro (Or.inr rfl) ?_ | refine And.intro (Or.inl rfl) ?_) fun j d hd => ?_) fun Qs q => ?_
          · rw [r0] at hd
            obtain ⟨hj, _⟩ := List.getElem?_eq_some_iff.mp hd
            rw [rl] at hj
            rw [irng_get hj] at hd
            cases hd
            refine ⟨[4], [_], tg_name, ?_⟩
            have hz : (n + 1) * i + j < 100000 := by
              have := Nat.mul_le_mul (show n + 1 ≤ 8 by omega) (show i ≤ 8 by omega)
              omega
            have t2 : ∀ {Ps : List Sl} {ta tb : TE} {x y : Int}, JE ta Ps (dI x) → JE tb Ps (dI y) → JE (tTup (tCons ta (tCons tb tNil))) Ps (da (.tuple [.int x, .int y])) := fun h1 h2 => j_tup (jd_cons h1 (jd_cons h2 jd_nil)) (by show 2 ≤ 100000; decide)
            let A : Bool := decide (i = 0 ∧ j = 0)
            let B1 : Bool := !decide (i = 0) && decide (0 < wy (barC bad) n (i - 1) j)
            let B2 : Bool := !decide (j = 0) && decide (0 < wy (barC bad) n i (j - 1))
            refine js_then (js_asg (P1 := dB (A || (B1 || B2))) (j_orV ((j_eqD (t2 (j_var rfl) (j_var rfl)) (t2 (j_var rfl) (j_var rfl)) rfl rfl).eq (P' := dB A) ?_) fun _ => j_orV ((j_din (n := 2) (f := ldF (barC bad) n i j) (t2 (j_I0 (j_var rfl) j_int) (j_var rfl)) (.inr ⟨_, rfl⟩)).eq (P' := dB B1) ?_) fun _ => (j_din (n := 2) (f := ldF (barC bad) n i j) (t2 (j_var rfl) (j_I0 (j_var rfl) j_int)) (.inr ⟨_, rfl⟩)).eq (P' := dB B2) ?_)) ?_
            · refine congrArg dB ?_
              show ((((n : Int) - (i : Int)) == (n : Int)) && ((((n : Int) - (j : Int)) == (n : Int)) && true)) = _
              rw [Bool.and_true]
              show _ = decide (i = 0 ∧ j = 0)
              cases hd : decide (i = 0 ∧ j = 0)
              · have hd := of_decide_eq_false hd
                rw [Bool.and_eq_false_iff]
                by_cases hi0 : i = 0
                · exact .inr (by rw [beq_eq_false_iff_ne]; omega)
                · exact .inl (by rw [beq_eq_false_iff_ne]; omega)
              · have hd := of_decide_eq_true hd
                rw [hd.1, hd.2]
                simp
            · refine congrArg dB ?_
              show _ = (!decide (i = 0) && decide (0 < wy (barC bad) n (i - 1) j))
              by_cases hi0 : i = 0
              · rw [decide_eq_true hi0]
                exact ldF_out _ _ _ _ (.inl (by omega))
              · rw [decide_eq_false hi0, show (n : Int) - (i : Int) + 1 = (n : Int) - ((i - 1 : Nat) : Int) by omega, ldF_at _ _ _ _ (by omega) (by omega) (.inl (by omega))]
                rfl
            · refine congrArg dB ?_
              show _ = (!decide (j = 0) && decide (0 < wy (barC bad) n i (j - 1)))
              by_cases hj0 : j = 0
              · rw [decide_eq_true hj0]
                exact ldF_out _ _ _ _ (.inr (by omega))
              · rw [decide_eq_false hj0, show (n : Int) - (j : Int) + 1 = (n : Int) - ((j - 1 : Nat) : Int) by omega, ldF_at _ _ _ _ (by omega) (by omega) (.inr ⟨rfl, by omega⟩)]
                rfl
            · refine js_if (b := decide (0 < wy (barC bad) n i j)) ((jt_and (jt_test (j_var rfl)) fun _ => jt_test ((j_notInD (d := celD (n - i, n - j)) ((t2 (j_var rfl) (j_var rfl)).dat ?_) (j_var rfl) (shp_cel _) (shp_cels _)).eq (P' := dB (!barC bad (n - i) (n - j))) (by rw [any_cel]; rfl))).is on_iff) (fun h => ?_) fun h => (js_nextOd (n := 2) (m' := (n + 1) * i + (j + 1)) rfl (by omega)).imp fun Qs q => ?_
              · show PyData.tuple [.int ((n : Int) - (i : Int)), .int ((n : Int) - (j : Int))] = .tuple [.int ((n - i : Nat) : Int), .int ((n - j : Nat) : Int)]
                rw [show ((n - i : Nat) : Int) = (n : Int) - (i : Int) by omega, show ((n - j : Nat) : Int) = (n : Int) - (j : Int) by omega]
              · refine (js_dput (n := 2) (w := .bl true) rfl (t2 (j_var rfl) (j_var rfl)) j_bl (fun H v h => by cases (show Da H v (.bool true) from h); rfl) hz).imp fun Qs q => ?_
                rw [ldF_step _ n i j (by omega) (by omega) (of_decide_eq_true h)] at q
                exact ⟨_, q ▸ (by repeat first | exact True.intro | refine And.intro (Or.inr rfl) ?_ | refine And.intro (Or.inl rfl) ?_), rfl⟩
              · have := of_decide_eq_false h
                rw [ldF_skip _ n i j (by omega) (by omega) (by omega)] at q
                exact ⟨_, q ▸ (by repeat first | exact True.intro | refine And.intro (Or.inr rfl) ?_ | refine And.intro (Or.inl rfl) ?_), rfl⟩
          · rw [r0, rl, ldF_row] at q
            have q : Qs = _ := q
            exact ⟨[.pl (dI (n : Int)), .pl (da (.list (bad.map celD))), .od ((n + 1) * (i + 1)) (ldF (barC bad) n (i + 1) 0), .no, .no, .no], q ▸ (by repeat first | exact True.intro | refine And.intro (Or.inr rfl) ?_ | refine And.intro (Or.inl rfl) ?_), rfl⟩
        · rw [r0, rl]
          exact js_freezeD (n := 2) rfl (js_ret (j_var rfl))⟩
end
end LK
/-! text W13 -/
namespace LK
open PySem PySem.Spec PyProof.Rows L2
section
variable {P : Program} {w : World} {K : PySem.W.Frag} {mg : Str → Option Value} {base : Heap} {C : Addr}
theorem start_pos (b : Bk) : posW (barC (badC (prL b))) b.2.length (0, 0) := by
  have g := plain_good b
  exact pos_of_good g (fun k hk => by
    unfold barC
    exact decide_eq_false fun z => g.av k hk _ z rfl) 0 (Nat.zero_le _)
abbrev sp_law_drawn_order : Sp := DrawSp (fun x : Bk => [da (bkT x)]) (fun x => x.2.length ≤ 7) (fun x => exP (fun o : Ord => goodB x o = true) fun o => dS (ordS o))
theorem jc_law_drawn_order {Ps : List Sl} {E : XK} {tr : TA} {n : Nat} (x : Bk) (hb : Ps[n]? = some .bag) (h : JA tr Ps ([da (bkT x)])) (hp : x.2.length ≤ 7) : JE (tCall sp_law_drawn_order [] E (tCons (tVar n) tr)) Ps (exP (fun o : Ord => goodB x o = true) fun o => dS (ordS o)) := j_draw x hb h hp
theorem cal_law_drawn_order (D : Def1 K mg "_law_drawn_order" (topS 58)) (T : Top mg) (c_law_take : C8.Cal P w K mg base 1 "_law_take" sp_law_take []) (c_law_one : C8.Cal P w K mg base 2 "_law_one" sp_law_one []) (c_law_bad : C8.Cal P w K mg base 2 "_law_bad" sp_law_bad []) (c_law_plain : C8.Cal P w K mg base 2 "_law_plain" sp_law_plain []) (c_law_leading : C8.Cal P w K mg base 2 "_law_leading" sp_law_leading []) : C8.Cal P w K mg base 3 "_law_drawn_order" sp_law_drawn_order [] :=
  mkDraw (N := ["_law_bag_here", "_law_book_here", "_law_many", "_law_bad_here", "_law_order", "_law_cell", "_law_good", "_law_k", "_law_there", "_law_letter", "_law_sign"]) (ps := ["_law_bag_here", "_law_book_here"]) (n := 9) D (C8.fnScope_by (by decide +kernel)) (fun _ _ _ _ _ _ us hl => match us, hl with | [_, _], _ => rfl) (fun _ => rfl) rfl fun f cdv A outer s H E hr => by
    have nd : (["_law_bag_here", "_law_book_here", "_law_many", "_law_bad_here", "_law_order", "_law_cell", "_law_good", "_law_k", "_law_there", "_law_letter", "_law_sign"] : List Str).Nodup := by decide +kernel
    have hu : (XX P w K mg base ["_law_bag_here", "_law_book_here", "_law_many", "_law_bad_here", "_law_order", "_law_cell", "_law_good", "_law_k", "_law_there", "_law_letter", "_law_sign"] "_law_drawn_order" (topS 58) f cdv A outer s H E).A.units + 1 < cLine := by have := hr.un; omega
    exact ⟨_, (pss_cons (ps_asg (pe_tup (pa_cons (pe_callB call_lenX (by rfl) T.len_ (by decide +kernel) (pa_cons (pe_ix ix_seq (pv 1) pe_int (fun _ _ => rfl)) pa_nil)) (pa_cons (C8.pe_c c_law_bad hr (by decide) (by rfl) (pa_cons (pv 1) pa_nil)) (pa_cons pe_str (pa_cons (pe_tup (pa_cons pe_int (pa_cons pe_int pa_nil))) pa_nil))))) (pg_tup (n := 4) (by rfl) (pgs_cons (pg_name (i := 2) nd rfl (.inl rfl)) (pgs_cons (pg_name (i := 3) nd rfl (.inl rfl)) (pgs_cons (pg_name (i := 4) nd rfl (.inl rfl)) (pgs_cons (pg_name (i := 5) nd rfl (.inl rfl)) pgs_nil)))))) (pss_cons (ps_if (pt_cmpR op_eq (C8.pe_c c_law_take hr (by decide) (by rfl) (pa_cons (pv 0) (pa_cons pe_int pa_nil))) pe_int (nomark _)) (pss_one (ps_ret (C8.pe_c c_law_plain hr (by decide) (by rfl) (pa_cons (pv 1) pa_nil)))) pss_nil) (pss_cons (ps_set (i := 6) nd rfl (.inr rfl) (C8.pe_c c_law_leading hr (by decide) (by rfl) (pa_cons (pv 2) (pa_cons (pv 3) pa_nil)))) (pss_cons (ps_for PassesOwn.never rfl (pi_range1 (by rfl) T.range_ (pa_cons (pe_op op_mul pe_int (pv 2)) pa_nil)) (pg_name (i := 7) nd rfl (.inl rfl)) (pss_cons (ps_set (i := 8) nd rfl (.inr rfl) (pe_disp (pps_cons pe_str (pe_tup (pa_cons (pe_op op_add (pe_ix ix_seq (pv 5) pe_int (fun _ _ => rfl)) pe_int) (pa_cons (pe_ix ix_seq (pv 5) pe_int (fun _ _ => rfl)) pa_nil))) (pps_cons pe_str (pe_tup (pa_cons (pe_ix ix_seq (pv 5) pe_int (fun _ _ => rfl)) (pa_cons (pe_op op_add (pe_ix ix_seq (pv 5) pe_int (fun _ _ => rfl)) pe_int) pa_nil))) pps_nil)) (by rfl) (by rfl) (fun z => by cases z) (by decide))) (pss_cons (ps_set (i := 9) nd rfl (.inl rfl) (C8.pe_c c_law_one hr (by decide) (by rfl) (pa_cons (pv 0) (pa_cons (pe_lc (own := [("_law_sign", 10)]) rfl nd (pi_tup (pe_tup (pa_cons pe_str (pa_cons pe_str pa_nil)))) (blkOk_by (N := ["_law_bag_here", "_law_book_here", "_law_many", "_law_bad_here", "_law_order", "_law_cell", "_law_good", "_law_k", "_law_there", "_law_letter", "_law_sign"]) (sc := defScope (topS 58)) (by decide +kernel)) (fun _ _ _ _ _ => (pg_name (i := 10) nd rfl (.inl rfl))) (fun _ _ _ _ _ => pts_one (pt_cmp (pc_din hu (pe_dget hu (pv 8) (pv 10) (fun _ _ => rfl)) (pv 6)) (by rfl))) (fun _ _ _ _ _ => (pv 10))) pa_nil)))) (pss_one (ps_par (by rfl) nd (i := 4) (j := 5) rfl rfl (by decide) rfl rfl (pa_cons (pe_op op_add_str (pv 4) (pv 9)) (pa_cons (pe_dget hu (pv 8) (pv 9) (fun _ _ => rfl)) pa_nil)) (by rfl)))))) (pss_one (ps_ret (pv 4))))))),
      fun b hb => by
        have hb : b.2.length ≤ 7 := hb
        let bar := barC (badC (prL b))
        refine js_then (js_asgT (d := .tuple [.int (b.2.length : Int), .list ((badC (prL b)).map celD), .str (ordS []), celD (0, 0)]) (j_tup (jd_cons ((j_lenL (j_ixT (j_var rfl) j_int rfl)).eq (by rw [List.length_map])) (jd_cons (jc_law_bad b (ja_cons (j_var rfl) ja_nil) hb) (jd_cons (j_str.eq (by rw [ordS_nil])) (jd_cons (j_tup (jd_cons j_int (jd_cons j_int jd_nil)) (by show 2 ≤ 100000; decide)) jd_nil)))) (by show 4 ≤ 100000; decide)) (tg_tup (tgs_name (tgs_name (tgs_name (tgs_name tgs_nil)))) rfl)) ?_
        refine js_seq (N' := Is [.bag, .pl (da (bkT b)), .pl (dI (b.2.length : Int)), .pl (da (.list ((badC (prL b)).map celD))), .pl (dS (ordS [])), .pl (da (celD (0, 0))), .no, .no, .no, .no, .no]) (js_ifx (jtx_eq (jc_law_take 4 (n := 0) rfl j_int (by decide)) j_int) (fun _ => (js_ret (jc_law_plain b (ja_cons (j_var rfl) ja_nil) hb)).outw fun H v p => ⟨plainO b, good_iff.mpr (plain_good b), p⟩) fun _ => js_next) fun Qs q => ?_
        cases q
        refine js_then (js_asg (jc_law_leading (b.2.length, badC (prL b)) (ja_cons (j_var rfl) (ja_cons (j_var rfl) ja_nil)) hb)) ?_
        refine js_seq (js_for (jw_rng1 (j := 2 * (b.2.length : Int)) (jd_cons (j_I j_int (j_var rfl) (by unfold CMul; omega)) jd_nil) (by omega)) (fun i Qs => ∃ o : Ord, o.length = i ∧ (∀ k ≤ i, posW bar b.2.length (celAt o k)) ∧ Qs = [.bag, .pl (da (bkT b)), .pl (dI (b.2.length : Int)), .pl (da (.list ((badC (prL b)).map celD))), .pl (dS (ordS o)), .pl (da (celD (celAt o i))), .pl (isDT (ldF bar b.2.length (b.2.length + 1) 0)), .no, .no, .no, .no]) ⟨_, (by repeat first | exact True.intro | refine And.intro (Or.inr rfl) ?_ | refine And.intro (Or.inl rfl) ?_), [], rfl, fun k hk => (show k = 0 by omega) ▸ start_pos b, rfl⟩ fun i d Qs hd hQ => ?_) fun Qs hQ => ?_
        · obtain ⟨o, hl, hp, rfl⟩ := hQ
          have hi : i < 2 * b.2.length := by
            have := (List.getElem?_eq_some_iff.mp hd).1
            rw [irng_len] at this
            omega
          refine ⟨[7], [d], tg_name, ?_⟩
          have hc := hp i (Nat.le_refl _)
          have hsum : (celAt o i).1 + (celAt o i).2 < 2 * b.2.length := by
            have := cn_total o i (by omega)
            show cn false (o.take i) + cn true (o.take i) < _
            omega
          have hnx := posW_next hc hsum
          generalize hcc : celAt o i = c at hc hnx hsum ⊢
          have mvD : ∀ x : Bool, celD (movC c x) = .tuple [.int ((movC c x).1 : Int), .int ((movC c x).2 : Int)] := fun x => rfl
          refine js_then (js_asgN (s := .ok (celD (movC c false)) (celD (movC c true))) (jn_disp ((j_tup (jd_cons (j_I0 (j_ixT (ds := [.int (c.1 : Int), .int (c.2 : Int)]) (j_var rfl) j_int rfl) j_int) (jd_cons (j_ixT (ds := [.int (c.1 : Int), .int (c.2 : Int)]) (j_var rfl) j_int rfl) jd_nil)) (by show 2 ≤ 100000; decide)).dat (by rw [celD_mov]; rfl)) ((j_tup (jd_cons (j_ixT (ds := [.int (c.1 : Int), .int (c.2 : Int)]) (j_var rfl) j_int rfl) (jd_cons (j_I0 (j_ixT (ds := [.int (c.1 : Int), .int (c.2 : Int)]) (j_var rfl) j_int rfl) j_int) jd_nil)) (by show 2 ≤ 100000; decide)).dat (by rw [celD_mov]; rfl)))) ?_
          have dget : ∀ x : Bool, (if letS x = "L" then celD (movC c false) else celD (movC c true)) = celD (movC c x) := fun x => by
            cases x
            · rw [if_pos ((letS_isL false).mpr rfl)]
            · rw [if_neg fun z => by have := (letS_isL true).mp z; cases this]
          let ff : Bool → Bool := fun x => (ldF bar b.2.length (b.2.length + 1) 0 ((movC c x).1 : Int) ((movC c x).2 : Int)).isSome
          have hne : 0 < (([false, true].filter ff).map fun x => PyData.str (letS x)).length := by
            rw [List.length_map, List.length_pos_iff_exists_mem]
            rcases hnx with h | h
            · exact ⟨false, List.mem_filter.mpr ⟨by simp, (ldF_cel _ _ _).mpr h⟩⟩
            · exact ⟨true, List.mem_filter.mpr ⟨by simp, (ldF_cel _ _ _).mpr h⟩⟩
          have hle : (([false, true].filter ff).map fun x => PyData.str (letS x)).length < 100000 := by
            rw [List.length_map]
            exact Nat.lt_of_le_of_lt (List.length_filter_le _ _) (by decide)
          refine js_then (js_asg (P1 := exP (fun x : Bool => posW bar b.2.length (movC c x)) fun x => dS (letS x)) ((jc_law_one (([false, true].filter ff).map fun x => PyData.str (letS x)) (n := 0) rfl (ja_cons (j_lc (xs := [false, true]) (enc := fun x => .str (letS x)) (v := fun x => .str (letS x)) (f := ff) ((jw_tup (j_tup (jd_cons j_str (jd_cons j_str jd_nil)) (by show 2 ≤ 100000; decide))).is (by rw [L_is, T_is]; rfl)) (by show 2 ≤ 50000; decide) fun x _ => ⟨[10], [.str (letS x)], tg_name, by simp, jt_test (j_din (n := 6) (i := ((movC c x).1 : Int)) (j := ((movC c x).2 : Int)) (f := ldF bar b.2.length (b.2.length + 1) 0) ((j_dgetLT (n := 8) (z := letS x) rfl (j_var rfl) (letS_lt x)).dat ((dget x).trans (mvD x))) (.inl rfl)), fun _ => j_var rfl⟩) ja_nil) ⟨hne, hle⟩).weak fun H v ⟨d, hd, p⟩ => ?_)) (js_open (n := 9) rfl fun x hx => ?_)
          · obtain ⟨x, hx, rfl⟩ := List.mem_map.mp hd
            exact ⟨x, (ldF_cel _ _ _).mp (List.mem_filter.mp hx).2, p⟩
          · have ex : (o ++ [x])[i]? = some x := by rw [List.getElem?_append_right (by omega), hl, Nat.sub_self]; rfl
            have pre : ∀ k ≤ i, celAt (o ++ [x]) k = celAt o k := fun k hk => by unfold celAt; rw [List.take_append_of_le_length (by omega)]
            have nx : celAt (o ++ [x]) (i + 1) = movC c x := by rw [celAt_succ ex, pre i (Nat.le_refl _), hcc]
            refine (js_par (P1 := dS (ordS (o ++ [x]))) (P2 := da (celD (celAt (o ++ [x]) (i + 1)))) (ja_cons ((j_catS (j_var rfl) (j_var rfl) ?_).eq ?_) (ja_cons ((j_dgetLT (n := 8) (z := letS x) rfl (j_var rfl) (letS_lt x)).dat (by rw [dget, nx])) ja_nil))).imp fun Rs q => ⟨_, q ▸ (by repeat first | exact True.intro | refine And.intro (Or.inr rfl) ?_ | refine And.intro (Or.inl rfl) ?_), o ++ [x], by rw [List.length_append, hl]; rfl, fun k hk => ?_, rfl⟩
            · rw [ordS_len]
              show o.length + 1 ≤ 100000
              omega
            · rw [letS_ord, cat_ord]
            · rcases Nat.lt_or_ge k (i + 1) with z | z
              · rw [pre k (by omega)]; exact hp k (by omega)
              · have : k = i + 1 := by omega
                subst this
                rw [nx]; exact hx
        · obtain ⟨o, hl, hp, rfl⟩ := hQ
          rw [irng_len, show (2 * (b.2.length : Int)).toNat = 2 * b.2.length by omega] at hl hp
          refine (js_ret (j_var rfl)).outw fun H v p => ⟨o, good_iff.mpr (good_of_pos hl (fun c hc => decide_eq_true hc) fun k hk => hp k (by omega)), p⟩⟩
end
end LK
/-! text W14 -/
namespace LK
open PySem PySem.Spec PyProof.Rows L2
section
variable {P : Program} {w : World} {K : PySem.W.Frag} {mg : Str → Option Value} {base : Heap} {C : Addr}
def sd (x : Bool) : Nat := if x then 1 else 0
/-- a plan, one moment another -/
def bump (P : Pln) (x : Bool) (k : Nat) (d : Int) : Pln := if x then (P.1, P.2.set k (P.2.getD k 0 + d)) else (P.1.set k (P.1.getD k 0 + d), P.2)
def sideL (P : Pln) (x : Bool) : List Int := if x then P.2 else P.1
theorem bump_len (P : Pln) (x : Bool) (k : Nat) (d : Int) : (bump P x k d).1.length = P.1.length ∧ (bump P x k d).2.length = P.2.length := by
  unfold bump
  cases x <;> simp
theorem jn_listL {Ps : List Sl} {te : TE} {ds : List PyData} (h : JE te Ps (da (.list ds))) : JN (tCB (rListX K) (tCons te tNil)) Ps (.ol ds) := fun S B H σ c s Q q => h S B H σ c s _ fun v H1 r1 c1 p1 => by
  obtain ⟨a, xs, rfl, h1, h2⟩ := Da.list_inv p1
  refine ⟨a, xs, rfl, .inl (SqL.of (sub_some h1).2), fun l hl => ?_⟩
  have e5 : Ext S B H1 _ (upd H1 l (.lst xs)) := .new c1 hl
  exact q _ _ _ ((Ext.of c r1 c1).trans e5) ⟨l, xs, rfl, .inr rfl, c1.nb hl, upd_same, h2.mono e5.same⟩ fun a z => by cases z; exact r1.none hl
def dssP (P : Pln) : List (List PyData) := [P.1.map .int, P.2.map .int]
theorem dssP_get (P : Pln) (x : Bool) : (dssP P)[sd x]? = some ((sideL P x).map .int) := by cases x <;> rfl
theorem dssP_set (P : Pln) (x : Bool) (k : Nat) (d : Int) : (dssP P).set (sd x) (((sideL P x).map PyData.int).set k (.int ((sideL P x).getD k 0 + d))) = dssP (bump P x k d) := by
  unfold dssP bump sideL sd
  cases x
  · show [((P.1.map PyData.int).set k (.int (P.1.getD k 0 + d))), P.2.map .int] = _
    rw [← List.map_set]
    rfl
  · show [P.1.map .int, ((P.2.map PyData.int).set k (.int (P.2.getD k 0 + d)))] = _
    rw [← List.map_set]
    rfl
abbrev sp_law_no_less (C : Addr) : Sp := PureSp (fun x : Bk × Pr2 × Pr2 × Pr2 × Pln × Ord => [isBk C x.1, da (p2D x.2.1), da (p2D x.2.2.1), da (p2D x.2.2.2.1), da (plnD x.2.2.2.2.1), dS (ordS x.2.2.2.2.2)]) (fun x => x.1.2.length ≤ 7 ∧ x.2.2.2.2.1.1.length = x.1.2.length ∧ x.2.2.2.2.1.2.length = x.1.2.length ∧ goodB x.1 x.2.2.2.2.2 = true ∧ ∀ (y : Bool) (k : Nat), k < x.1.2.length → (planB (msL x.1) (bump x.2.2.2.2.1 y k (-1)) && folB x.1 x.2.1 x.2.2.1 x.2.2.2.1 (bump x.2.2.2.2.1 y k (-1)) x.2.2.2.2.2) = false) (fun x => dB true)
theorem jc_law_no_less {Ps : List Sl} {E : XK} {tr : TA} (x : Bk × Pr2 × Pr2 × Pr2 × Pln × Ord) (h : JA tr Ps ([isBk C x.1, da (p2D x.2.1), da (p2D x.2.2.1), da (p2D x.2.2.2.1), da (plnD x.2.2.2.2.1), dS (ordS x.2.2.2.2.2)])) (hp : x.1.2.length ≤ 7 ∧ x.2.2.2.2.1.1.length = x.1.2.length ∧ x.2.2.2.2.1.2.length = x.1.2.length ∧ goodB x.1 x.2.2.2.2.2 = true ∧ ∀ (y : Bool) (k : Nat), k < x.1.2.length → (planB (msL x.1) (bump x.2.2.2.2.1 y k (-1)) && folB x.1 x.2.1 x.2.2.1 x.2.2.2.1 (bump x.2.2.2.2.1 y k (-1)) x.2.2.2.2.2) = false) : JE (tCall (sp_law_no_less C) [] E tr) Ps (dB true) := j_call x h hp
theorem cal_law_no_less (D : Def1 K mg "_law_no_less" (topS 61)) (T : Top mg) (c_is_plan : C8.Cal P w K mg base 4 "is_plan" (sp_is_plan C) []) (c_follows : C8.Cal P w K mg base 6 "follows" (sp_follows C) []) : C8.Cal P w K mg base 7 "_law_no_less" (sp_law_no_less C) [] :=
  mkPure (N := ["_law_book_here", "_law_label", "_law_till", "_law_gap", "_law_plan", "_law_order", "_law_side", "_law_at", "_law_sides", "_law_less"]) (ps := ["_law_book_here", "_law_label", "_law_till", "_law_gap", "_law_plan", "_law_order"]) (n := 4) D (C8.fnScope_by (by decide +kernel)) (fun _ _ _ _ _ _ us hl => match us, hl with | [_, _, _, _, _, _], _ => rfl) (fun _ => rfl) rfl fun f cdv A outer s H E hr => by
    have nd : (["_law_book_here", "_law_label", "_law_till", "_law_gap", "_law_plan", "_law_order", "_law_side", "_law_at", "_law_sides", "_law_less"] : List Str).Nodup := by decide +kernel
    have hu : (XX P w K mg base ["_law_book_here", "_law_label", "_law_till", "_law_gap", "_law_plan", "_law_order", "_law_side", "_law_at", "_law_sides", "_law_less"] "_law_no_less" (topS 61) f cdv A outer s H E).A.units + 1 < cLine := by have := hr.un; omega
    exact ⟨_, (pss_cons (ps_for PassesOwn.never rfl (pi_tup (pe_tup (pa_cons pe_int (pa_cons pe_int pa_nil)))) (pg_name (i := 6) nd rfl (.inl rfl)) (pss_one (ps_for PassesOwn.never rfl (pi_range1 (by rfl) T.range_ (pa_cons (pe_callB call_lenX (by rfl) T.len_ (by decide +kernel) (pa_cons (pe_ix ix_seq (pv 4) (pv 6) (fun _ _ => rfl)) pa_nil)) pa_nil)) (pg_name (i := 7) nd rfl (.inl rfl)) (pss_cons (ps_set (i := 8) nd rfl (.inl rfl) (pe_lst (pa_cons (pe_callTy call_listX (by rfl) T.list_ (by decide +kernel) (pa_cons (pe_ix ix_seq (pv 4) pe_int (fun _ _ => rfl)) pa_nil)) (pa_cons (pe_callTy call_listX (by rfl) T.list_ (by decide +kernel) (pa_cons (pe_ix ix_seq (pv 4) pe_int (fun _ _ => rfl)) pa_nil)) pa_nil)))) (pss_cons (ps_asg (pe_op op_sub (pe_ix ix_seq (pe_ix ix_seq (pv 8) (pv 6) (fun _ _ => rfl)) (pv 7) (fun _ _ => rfl)) pe_int) (pg_sub (pe_ix ix_seq (pv 8) (pv 6) (fun _ _ => rfl)) (pv 7) set_list)) (pss_cons (ps_set (i := 9) nd rfl (.inl rfl) (pe_tup (pa_cons (pe_ix ix_seq (pv 8) pe_int (fun _ _ => rfl)) (pa_cons (pe_ix ix_seq (pv 8) pe_int (fun _ _ => rfl)) pa_nil)))) (pss_one (ps_if (PW.pt (pw_and (pt_val (C8.pe_c c_is_plan hr (by decide) (by rfl) (pa_cons (pv 0) (pa_cons (pv 9) pa_nil)))) (pw_and1 (pt_val (C8.pe_c c_follows hr (by decide) (by rfl) (pa_cons (pv 0) (pa_cons (pv 1) (pa_cons (pv 2) (pa_cons (pv 3) (pa_cons (pv 9) (pa_cons (pv 5) pa_nil))))))))))) (pss_one (ps_ret pe_bl)) pss_nil)))))))) (pss_one (ps_ret pe_bl))),
      fun ⟨b, L, T, G, Q, o⟩ ⟨hb, h1, h2, hg, hH⟩ => by
        have hb : b.2.length ≤ 7 := hb
        have h1 : Q.1.length = b.2.length := h1
        have h2 : Q.2.length = b.2.length := h2
        have hH : ∀ (y : Bool) (k : Nat), k < b.2.length → (planB (msL b) (bump Q y k (-1)) && folB b L T G (bump Q y k (-1)) o) = false := hH
        have hsl : ∀ y, (sideL Q y).length = b.2.length := fun y => by cases y <;> assumption
        have hix : ∀ {Ps : List Sl} {tb : TE} (y : Bool), Ps[4]? = some (.pl (da (plnD Q))) → JE tb Ps (dI (sd y : Int)) → JE (tOp (rIx K) (tVar 4) tb) Ps (da (intsD (sideL Q y))) := fun {Ps tb} y hp hy => j_ixT (ds := [intsD Q.1, intsD Q.2]) (j_var hp) hy (by cases y <;> rfl)
        refine js_then (js_forI (ds := [.int 0, .int 1]) (jw_tup (j_tup (jd_cons j_int (jd_cons j_int jd_nil)) (by show 2 ≤ 100000; decide))) (fun _ => [.pl (isBk C b), .pl (da (p2D L)), .pl (da (p2D T)), .pl (da (p2D G)), .pl (da (plnD Q)), .pl (dS (ordS o)), .no, .no, .no, .no]) (by repeat first | exact True.intro | refine And.intro (Or.inr rfl) ?_ | refine And.intro (Or.inl rfl) ?_) fun i d hd => ?_) (js_ret j_bl)
        obtain ⟨y, rfl⟩ : ∃ y : Bool, d = .int (sd y : Int) := by
          match i, hd with
          | 0, hd => exact ⟨false, by cases hd; rfl⟩
          | 1, hd => exact ⟨true, by cases hd; rfl⟩
          | i + 2, hd => simp at hd
        refine ⟨[6], [_], tg_name, ?_⟩
        refine JS.imp (js_forI (jw_rng1 (j := (b.2.length : Int)) (jd_cons ((j_lenL (hix y rfl (j_var rfl))).eq (by rw [List.length_map, hsl])) jd_nil) (by omega)) (fun _ => [.pl (isBk C b), .pl (da (p2D L)), .pl (da (p2D T)), .pl (da (p2D G)), .pl (da (plnD Q)), .pl (dS (ordS o)), .pl (dI (sd y : Int)), .no, .no, .no]) (by repeat first | exact True.intro | refine And.intro (Or.inr rfl) ?_ | refine And.intro (Or.inl rfl) ?_) fun k d hd => ?_) fun Qs q => ⟨_, q ▸ (by repeat first | exact True.intro | refine And.intro (Or.inr rfl) ?_ | refine And.intro (Or.inl rfl) ?_), rfl⟩
        have hk : k < b.2.length := by
          have := (List.getElem?_eq_some_iff.mp hd).1
          rw [irng_len] at this
          omega
        rw [Int.toNat_natCast, irng_get hk] at hd
        cases hd
        refine ⟨[7], [.int (k : Int)], tg_name, ?_⟩
        refine js_seq (js_newLs (i := 8) (dss := dssP Q) (jax_cons (jn_listL (j_ixT (ds := [intsD Q.1, intsD Q.2]) (j_var rfl) j_int rfl)) (jax_cons (jn_listL (j_ixT (ds := [intsD Q.1, intsD Q.2]) (j_var rfl) j_int rfl)) jax_nil)) (by show 2 ≤ 100000; decide)) fun Qs hQ => ?_
        obtain ⟨as, hl, hn, rfl⟩ := hQ
        have hks : k < (sideL Q y).length := by rw [hsl]; exact hk
        refine js_then (js_setIn (m := 8) (j := sd y) (k := k) (d := .int ((sideL Q y).getD k 0 + (-1))) rfl ((j_I0 (j_ixIn (m := 8) (j := sd y) (x := (k : Int)) rfl (j_var rfl) (j_var rfl) (dssP_get Q y) (atI_nats hks)) j_int).dat (by rw [Int.sub_eq_add_neg])) (j_var rfl) (j_var rfl) (dssP_get Q y) (by rw [List.length_map]; exact hks)) ?_
        rw [dssP_set]
        refine js_freezeLL (i := 8) rfl (js_then (js_asg ((j_tup (jd_cons (j_ixL (ds := [intsD (bump Q y k (-1)).1, intsD (bump Q y k (-1)).2]) (j_var rfl) j_int rfl) (jd_cons (j_ixL (ds := [intsD (bump Q y k (-1)).1, intsD (bump Q y k (-1)).2]) (j_var rfl) j_int rfl) jd_nil)) (by show 2 ≤ 100000; decide)).dat (e := plnD (bump Q y k (-1))) rfl)) ?_)
        obtain ⟨l1, l2⟩ := bump_len Q y k (-1)
        refine js_if (b := false) ((jt_and (jt_test (jc_is_plan (b, bump Q y k (-1)) (ja_cons (j_var rfl) (ja_cons (j_var rfl) ja_nil)) ⟨hb, by show (bump Q y k (-1)).1.length ≤ 1000; omega, by show (bump Q y k (-1)).2.length ≤ 1000; omega⟩)) fun _ => jt_test (jc_follows (b, L, T, G, bump Q y k (-1), o) (ja_cons (j_var rfl) (ja_cons (j_var rfl) (ja_cons (j_var rfl) (ja_cons (j_var rfl) (ja_cons (j_var rfl) (ja_cons (j_var rfl) ja_nil)))))) ⟨hb, by show (bump Q y k (-1)).1.length = b.2.length; omega, by show (bump Q y k (-1)).2.length = b.2.length; omega, hg⟩)).is (hH y k hk)) (fun z => nomatch z) fun _ => js_next.imp fun Rs q => ⟨_, q ▸ (by repeat first | exact True.intro | refine And.intro (Or.inr rfl) ?_ | refine And.intro (Or.inl rfl) ?_), rfl⟩⟩
abbrev sp_law_forced_go_up (C : Addr) : Sp := PureSp (fun x : Bk × Pr2 × Pr2 × Pr2 × Pln × Ord => [isBk C x.1, da (p2D x.2.1), da (p2D x.2.2.1), da (p2D x.2.2.2.1), da (plnD x.2.2.2.2.1), dS (ordS x.2.2.2.2.2)]) (fun x => x.1.2.length ≤ 7 ∧ x.2.2.2.2.1.1.length = x.1.2.length ∧ x.2.2.2.2.1.2.length = x.1.2.length ∧ goodB x.1 x.2.2.2.2.2 = true ∧ (∀ (k s : Nat) (y : Bool), (fbL x.1 x.2.1 x.2.2.1 x.2.2.2.1 x.2.2.2.2.2)[k]? = some (some s) → x.2.2.2.2.2[s]? = some y → (planB (msL x.1) (bump x.2.2.2.2.1 y (cn y (x.2.2.2.2.2.take s)) 1) && folB x.1 x.2.1 x.2.2.1 x.2.2.2.1 (bump x.2.2.2.2.1 y (cn y (x.2.2.2.2.2.take s)) 1) x.2.2.2.2.2) = false) ∧ ∀ (k s : Nat), (fbL x.1 x.2.1 x.2.2.1 x.2.2.2.1 x.2.2.2.2.2)[k]? = some (some s) → s < x.2.2.2.2.2.length) (fun x => dB true)
theorem jc_law_forced_go_up {Ps : List Sl} {E : XK} {tr : TA} (x : Bk × Pr2 × Pr2 × Pr2 × Pln × Ord) (h : JA tr Ps ([isBk C x.1, da (p2D x.2.1), da (p2D x.2.2.1), da (p2D x.2.2.2.1), da (plnD x.2.2.2.2.1), dS (ordS x.2.2.2.2.2)])) (hp : x.1.2.length ≤ 7 ∧ x.2.2.2.2.1.1.length = x.1.2.length ∧ x.2.2.2.2.1.2.length = x.1.2.length ∧ goodB x.1 x.2.2.2.2.2 = true ∧ (∀ (k s : Nat) (y : Bool), (fbL x.1 x.2.1 x.2.2.1 x.2.2.2.1 x.2.2.2.2.2)[k]? = some (some s) → x.2.2.2.2.2[s]? = some y → (planB (msL x.1) (bump x.2.2.2.2.1 y (cn y (x.2.2.2.2.2.take s)) 1) && folB x.1 x.2.1 x.2.2.1 x.2.2.2.1 (bump x.2.2.2.2.1 y (cn y (x.2.2.2.2.2.take s)) 1) x.2.2.2.2.2) = false) ∧ ∀ (k s : Nat), (fbL x.1 x.2.1 x.2.2.1 x.2.2.2.1 x.2.2.2.2.2)[k]? = some (some s) → s < x.2.2.2.2.2.length) : JE (tCall (sp_law_forced_go_up C) [] E tr) Ps (dB true) := j_call x h hp
theorem cal_law_forced_go_up (D : Def1 K mg "_law_forced_go_up" (topS 64)) (T : Top mg) (c_is_plan : C8.Cal P w K mg base 4 "is_plan" (sp_is_plan C) []) (c_follows : C8.Cal P w K mg base 6 "follows" (sp_follows C) []) (c_forced_by : C8.Cal P w K mg base 6 "forced_by" (sp_forced_by C) []) : C8.Cal P w K mg base 7 "_law_forced_go_up" (sp_law_forced_go_up C) [] :=
  mkPure (N := ["_law_book_here", "_law_label", "_law_till", "_law_gap", "_law_plan", "_law_order", "_law_spot", "_law_sides", "_law_at", "_law_side", "_law_late"]) (ps := ["_law_book_here", "_law_label", "_law_till", "_law_gap", "_law_plan", "_law_order"]) (n := 5) D (C8.fnScope_by (by decide +kernel)) (fun _ _ _ _ _ _ us hl => match us, hl with | [_, _, _, _, _, _], _ => rfl) (fun _ => rfl) rfl fun f cdv A outer s H E hr => by
    have nd : (["_law_book_here", "_law_label", "_law_till", "_law_gap", "_law_plan", "_law_order", "_law_spot", "_law_sides", "_law_at", "_law_side", "_law_late"] : List Str).Nodup := by decide +kernel
    have hu : (XX P w K mg base ["_law_book_here", "_law_label", "_law_till", "_law_gap", "_law_plan", "_law_order", "_law_spot", "_law_sides", "_law_at", "_law_side", "_law_late"] "_law_forced_go_up" (topS 64) f cdv A outer s H E).A.units + 1 < cLine := by have := hr.un; omega
    exact ⟨_, (pss_cons (ps_for PassesOwn.never rfl (pi_list (C8.pe_c c_forced_by hr (by decide) (by rfl) (pa_cons (pv 0) (pa_cons (pv 1) (pa_cons (pv 2) (pa_cons (pv 3) (pa_cons (pv 5) pa_nil))))))) (pg_name (i := 6) nd rfl (.inl rfl)) (pss_one (ps_if (pt_cmp (pc_notN (pv 6)) (by rfl)) (pss_cons (ps_set (i := 7) nd rfl (.inl rfl) (pe_lst (pa_cons (pe_callTy call_listX (by rfl) T.list_ (by decide +kernel) (pa_cons (pe_ix ix_seq (pv 4) pe_int (fun _ _ => rfl)) pa_nil)) (pa_cons (pe_callTy call_listX (by rfl) T.list_ (by decide +kernel) (pa_cons (pe_ix ix_seq (pv 4) pe_int (fun _ _ => rfl)) pa_nil)) pa_nil)))) (pss_cons (ps_set (i := 8) nd rfl (.inl rfl) (pe_countX (pe_slice C8.sl_txt (pv 5) po_none (po_some (pv 6))) (pe_ix ix_seq (pv 5) (pv 6) (fun _ _ => rfl)))) (pss_cons (ps_set (i := 9) nd rfl (.inl rfl) (pe_callTy call_intX (by rfl) T.int_ (by decide +kernel) (pa_cons (pe_cmpR op_eq (pe_ix ix_seq (pv 5) (pv 6) (fun _ _ => rfl)) pe_str (nomark _)) pa_nil))) (pss_cons (ps_asg (pe_op op_add (pe_ix ix_seq (pe_ix ix_seq (pv 7) (pv 9) (fun _ _ => rfl)) (pv 8) (fun _ _ => rfl)) pe_int) (pg_sub (pe_ix ix_seq (pv 7) (pv 9) (fun _ _ => rfl)) (pv 8) set_list)) (pss_cons (ps_set (i := 10) nd rfl (.inl rfl) (pe_tup (pa_cons (pe_ix ix_seq (pv 7) pe_int (fun _ _ => rfl)) (pa_cons (pe_ix ix_seq (pv 7) pe_int (fun _ _ => rfl)) pa_nil)))) (pss_one (ps_if (PW.pt (pw_and (pt_val (C8.pe_c c_is_plan hr (by decide) (by rfl) (pa_cons (pv 0) (pa_cons (pv 10) pa_nil)))) (pw_and1 (pt_val (C8.pe_c c_follows hr (by decide) (by rfl) (pa_cons (pv 0) (pa_cons (pv 1) (pa_cons (pv 2) (pa_cons (pv 3) (pa_cons (pv 10) (pa_cons (pv 5) pa_nil))))))))))) (pss_one (ps_ret pe_bl)) pss_nil))))))) pss_nil))) (pss_one (ps_ret pe_bl))),
      fun ⟨b, L, T, G, Q, o⟩ ⟨hb, h1, h2, hg, hH, hS⟩ => by
        have hb : b.2.length ≤ 7 := hb
        have h1 : Q.1.length = b.2.length := h1
        have h2 : Q.2.length = b.2.length := h2
        have g : Good b o := good_iff.mp hg
        have ho : o.length ≤ 14 := by rw [g.len]; omega
        have hsl : ∀ y, (sideL Q y).length = b.2.length := fun y => by cases y <;> assumption
        refine js_then (js_forI (jw_list (jc_forced_by (b, L, T, G, o) (ja_cons (j_var rfl) (ja_cons (j_var rfl) (ja_cons (j_var rfl) (ja_cons (j_var rfl) (ja_cons (j_var rfl) ja_nil))))) ⟨hb, hg⟩)) (fun _ => [.pl (isBk C b), .pl (da (p2D L)), .pl (da (p2D T)), .pl (da (p2D G)), .pl (da (plnD Q)), .pl (dS (ordS o)), .no, .no, .no, .no, .no]) (by repeat first | exact True.intro | refine And.intro (Or.inr rfl) ?_ | refine And.intro (Or.inl rfl) ?_) fun i d hd => ?_) (js_ret j_bl)
        rw [List.getElem?_map] at hd
        cases ef : (fbL b L T G o)[i]? with
        | none => rw [ef] at hd; cases hd
        | some z =>
          rw [ef] at hd
          cases hd
          refine ⟨[6], [optD z], tg_name, ?_⟩
          cases z with
          | none => exact js_if (b := false) (jt_test (j_notN (d := optD none) (j_var rfl))) (fun z => nomatch z) fun _ => js_next.imp fun Rs q => ⟨_, q ▸ (by repeat first | exact True.intro | refine And.intro (Or.inr rfl) ?_ | refine And.intro (Or.inl rfl) ?_), rfl⟩
          | some s =>
            refine js_if (b := true) (jt_test (j_notN (d := optD (some s)) (j_var rfl))) (fun _ => ?_) fun z => nomatch z
            have hs : s < o.length := hS i s ef
            have es : o[s]? = some o[s] := List.getElem?_eq_getElem hs
            generalize hy : o[s] = y at es
            have hf : (planB (msL b) (bump Q y (cn y (o.take s)) 1) && folB b L T G (bump Q y (cn y (o.take s)) 1) o) = false := hH i s y ef es
            have hos : ∀ {Ps : List Sl}, Ps[5]? = some (.pl (dS (ordS o))) → Ps[6]? = some (.pl (da (optD (some s)))) → JE (tOp (rIx K) (tVar 5) (tVar 6)) Ps (dS (letS y)) := fun {Ps} hp hq => (j_ixS (z := ordS o) (i := (s : Int)) (u := code y) (j_var hp) (j_var hq) (atI_code es) (by rw [ordS_len]; omega)).eq rfl
            refine js_seq (js_newLs (i := 7) (dss := dssP Q) (jax_cons (jn_listL (j_ixT (ds := [intsD Q.1, intsD Q.2]) (j_var rfl) j_int rfl)) (jax_cons (jn_listL (j_ixT (ds := [intsD Q.1, intsD Q.2]) (j_var rfl) j_int rfl)) jax_nil)) (by show 2 ≤ 100000; decide)) fun Qs hQ => ?_
            obtain ⟨as, hl, hn, rfl⟩ := hQ
            let k := cn y (o.take s)
            have hk : k < b.2.length := by
              have := cn_lt es
              show cn y (o.take s) < _
              cases y
              · rw [g.cl] at this; exact this
              · rw [g.ct] at this; exact this
            have hks : k < (sideL Q y).length := by rw [hsl]; exact hk
            refine js_then (js_asg (P1 := dI (k : Int)) ((j_count ((j_slS (z := ordS o) (hi := some (s : Int)) (j_var rfl) jo_none (jo_some (j_var rfl)) (by rw [ordS_len]; omega)).eq (P' := dS (ordS (o.take s))) (by rw [take_ord])) (hos rfl rfl)).eq (by rw [count_ord]))) ?_
            refine js_then (js_asg (P1 := dI (sd y : Int)) ((j_intB (j_eqS (hos rfl rfl) j_str)).eq ?_)) ?_
            · rw [show ("T" : Str) = letS true from T_is]
              cases y <;> rfl
            refine js_then (js_setIn (m := 7) (j := sd y) (k := k) (d := .int ((sideL Q y).getD k 0 + 1)) rfl (j_I0 (j_ixIn (m := 7) (j := sd y) (x := (k : Int)) rfl (j_var rfl) (j_var rfl) (dssP_get Q y) (atI_nats hks)) j_int) (j_var rfl) (j_var rfl) (dssP_get Q y) (by rw [List.length_map]; exact hks)) ?_
            rw [dssP_set]
            refine js_freezeLL (i := 7) rfl (js_then (js_asg ((j_tup (jd_cons (j_ixL (ds := [intsD (bump Q y k 1).1, intsD (bump Q y k 1).2]) (j_var rfl) j_int rfl) (jd_cons (j_ixL (ds := [intsD (bump Q y k 1).1, intsD (bump Q y k 1).2]) (j_var rfl) j_int rfl) jd_nil)) (by show 2 ≤ 100000; decide)).dat (e := plnD (bump Q y k 1)) rfl)) ?_)
            obtain ⟨l1, l2⟩ := bump_len Q y k 1
            refine js_if (b := false) ((jt_and (jt_test (jc_is_plan (b, bump Q y k 1) (ja_cons (j_var rfl) (ja_cons (j_var rfl) ja_nil)) ⟨hb, by show (bump Q y k 1).1.length ≤ 1000; omega, by show (bump Q y k 1).2.length ≤ 1000; omega⟩)) fun _ => jt_test (jc_follows (b, L, T, G, bump Q y k 1, o) (ja_cons (j_var rfl) (ja_cons (j_var rfl) (ja_cons (j_var rfl) (ja_cons (j_var rfl) (ja_cons (j_var rfl) (ja_cons (j_var rfl) ja_nil)))))) ⟨hb, by show (bump Q y k 1).1.length = b.2.length; omega, by show (bump Q y k 1).2.length = b.2.length; omega, hg⟩)).is hf) (fun z => nomatch z) fun _ => js_next.imp fun Rs q => ⟨_, q ▸ (by repeat first | exact True.intro | refine And.intro (Or.inr rfl) ?_ | refine And.intro (Or.inl rfl) ?_), rfl⟩⟩
end
end LK
/-! text W15 -/
namespace LK
open PySem PySem.Spec PyProof.Rows L2
section
variable {P : Program} {w : World} {K : PySem.W.Frag} {mg : Str → Option Value} {base : Heap} {C : Addr}
/-! ### moments in their order, and by sides -/
theorem side_cons (b x : Bool) (v : Int) (o : Ord) (m : List Int) : side (b :: o) (v :: m) x = (if b = x then [v] else []) ++ side o m x := by
  unfold side
  rw [List.zip_cons_cons, List.filter_cons]
  by_cases h : b = x
  · rw [if_pos (by simp [h]), if_pos h]; rfl
  · rw [if_neg (by simpa using h), if_neg h]; rfl
theorem side_snoc (b x : Bool) (v : Int) : ∀ (o : Ord) (m : List Int), m.length = o.length → side (o ++ [b]) (m ++ [v]) x = side o m x ++ if b = x then [v] else []
  | [], [], _ => by
    show side [b] [v] x = _
    rw [side_cons]
    show _ ++ [] = [] ++ _
    rw [List.append_nil]; rfl
  | [], _ :: _, h => by simp at h
  | _ :: _, [], h => by simp at h
  | y :: o, u :: m, h => by
    rw [List.cons_append, List.cons_append, side_cons, side_cons, side_snoc b x v o m (by simpa using h), List.append_assoc]
theorem side_len (x : Bool) : ∀ (o : Ord) (m : List Int), m.length = o.length → (side o m x).length = cn x o
  | [], [], _ => rfl
  | [], _ :: _, h => by simp at h
  | _ :: _, [], h => by simp at h
  | y :: o, u :: m, h => by
    rw [side_cons, List.length_append, side_len x o m (by simpa using h)]
    unfold cn
    rw [List.count_cons]
    by_cases e : y = x
    · subst e; simp; omega
    · rw [if_neg e, if_neg (by simpa using e)]; simp
theorem side_get {x : Bool} : ∀ {o : Ord} {m : List Int} {i : Nat}, m.length = o.length → o[i]? = some x → (side o m x).getD (cn x (o.take i)) 0 = m.getD i 0
  | [], _, i, _, h => by simp at h
  | _ :: _, [], _, h, _ => by simp at h
  | y :: o, u :: m, 0, _, h => by
    have : y = x := by simpa using h
    subst this
    rw [side_cons, if_pos rfl]
    rfl
  | y :: o, u :: m, i + 1, hm, h => by
    have ih := side_get (o := o) (m := m) (i := i) (by simpa using hm) (by simpa using h)
    rw [side_cons, List.take_succ_cons]
    unfold cn at ih ⊢
    rw [List.count_cons]
    by_cases e : y = x
    · subst e
      rw [if_pos rfl, if_pos (by simp)]
      show (u :: side o m y).getD (_ + 1) 0 = (u :: m).getD (i + 1) 0
      rw [List.getD_cons_succ, List.getD_cons_succ]
      exact ih
    · rw [if_neg e, if_neg (by simpa using e), List.nil_append, Nat.add_zero, List.getD_cons_succ]
      exact ih
/-- what a run's first moments keep -/
def SolK (b : Bk) (L T G : Pr2) (o : Ord) (k : Nat) (m : List Int) : Prop := m.length = k ∧ ∀ i < k, (ownL (msL b) o).getD i 0 ≤ m.getD i 0 ∧ ∀ p ∈ (frcs b L T G o).getD i [], m.getD p.1 0 + p.2 ≤ m.getD i 0
theorem jn_cat {Ps : List Sl} {ta tb : TE} {ds es : List PyData} (ha : JE ta Ps (da (.list ds))) (hb : JE tb Ps (da (.list es))) (hz : ds.length + es.length ≤ 100000) : JN (tOp rCat ta tb) Ps (.ol (ds ++ es)) := fun S B H σ c s Q q =>
  ha S B H σ c s _ fun v H1 r1 c1 p1 => hb S B H1 σ c1 (s.step c r1) _ fun w H2 r2 c2 p2 => by
    obtain ⟨a, xs, rfl, h1, h2⟩ := Da.list_inv (Da.mono (r2.sub c1) p1)
    obtain ⟨b', ys, rfl, h3, h4⟩ := Da.list_inv p2
    refine ⟨a, b', xs, ys, rfl, rfl, (sub_some h1).2, (sub_some h3).2, ?_, fun p hp => ?_⟩
    · rw [h2.len, h4.len]
      exact Nat.le_trans hz (by decide)
    · have e5 : Ext S B H2 _ (upd H2 p (.lst (xs ++ ys))) := .new c2 hp
      exact q _ _ _ ((Ext.of c (r1.trans r2) c2).trans e5) ⟨p, xs ++ ys, rfl, .inr rfl, c2.nb hp, upd_same, (h2.append h4).mono e5.same⟩ fun a z => by cases z; exact (r1.trans r2).none hp
theorem cut_last (ns : List Int) : cutD (ns.map PyData.int) (some (-1)) none = (ns.drop (ns.length - 1)).map .int := by
  unfold cutD
  rw [List.length_map]
  have e1 : HT.sIx ns.length 0 (some (-1)) = ns.length - 1 := by unfold HT.sIx; simp <;> omega
  have e2 : HT.sIx ns.length ns.length none = ns.length := rfl
  rw [e1, e2, List.take_of_length_le (by rw [List.length_drop, List.length_map]; omega), List.map_drop]
theorem mem_last {ns : List Int} {i : Nat} (h : i + 1 = ns.length) : ns.getD i 0 ∈ ns.drop (ns.length - 1) := by
  have e : ns.length - 1 = i := by omega
  rw [e, List.getD_eq_getElem?_getD, List.getElem?_eq_getElem (by omega)]
  have : ns.drop i = ns[i]'(by omega) :: ns.drop (i + 1) := List.drop_eq_getElem_cons (by omega)
  rw [this]
  exact List.mem_cons_self
theorem js_appAlX {Ps : List Sl} {P : DP} {te : TE} {n m j : Nat} {b : Bool} {as : List Addr} {dss : List (List PyData)} {ds : List PyData} {a : Addr} {φ : Int → Prop} (hn : Ps[n]? = some (.pl (cst (.ref a)))) (hm : Ps[m]? = some (.ll b as dss)) (ha : as[j]? = some a) (hj : dss[j]? = some ds) (h : JE te Ps (dIn φ)) (hz : ds.length < 100000) : JS (tDrop (tBM K "list" rAppend (tVar n) (tCons te tNil))) Ps (fun Qs => ∃ v, φ v ∧ Qs = Ps.set m (.ll b as (dss.set j (ds ++ [.int v])))) P := fun S0 B H0 G D σ H ⟨S, x⟩ nx r => by
  obtain ⟨v, g1, e⟩ := x.sl.get hn (by intro z; cases z)
  cases (show v = .ref a from e)
  obtain ⟨v, g1', p, rfl, g2, g3, g4, g5, g6, g7⟩ := x.sl.get hm (by intro z; cases z)
  obtain ⟨xs, e2, e3, e4, e5⟩ := ll_get g7 ha hj
  refine ⟨_, g1, .inl ⟨rfl, xs, SqL.of e4⟩, h S B H σ x.cond x.sl _ fun y H1 r1 c1 ⟨w, hw, p1⟩ => ⟨a, xs, y, rfl, rfl, (r1 _ _ e4).1 e3, by rw [e5.len]; exact Nat.lt_of_lt_of_le hz (by decide), nx _ _ _ ⟨w, hw, rfl⟩ ⟨S, (x.step r1 c1).wrIn hm ha ((e5.mono (r1.sub x.cond)).append (.cons p1 .nil))⟩⟩⟩
theorem cn_const {x : Bool} {o : Ord} {s : Nat} : ∀ n, (∀ s', s ≤ s' → s' < s + n → o[s']? ≠ some x) → cn x (o.take (s + n)) = cn x (o.take s)
  | 0, _ => rfl
  | n + 1, h => by
    have ih := cn_const (x := x) (o := o) (s := s) n fun s' h1 h2 => h s' h1 (by omega)
    rw [← ih]
    show cn x (o.take (s + n + 1)) = _
    cases e : o[s + n]? with
    | none =>
      have : o.length ≤ s + n := List.getElem?_eq_none_iff.mp e
      rw [List.take_of_length_le (by omega), List.take_of_length_le this]
    | some y =>
      rw [take_succ e, cn_snoc, if_neg fun z => h (s + n) (by omega) (by omega) (by rw [e, z])]
      rfl
theorem exists_max : ∀ {ns : List Int}, ns ≠ [] → ∃ m ∈ ns, ∀ y ∈ ns, y ≤ m
  | [], h => absurd rfl h
  | a :: l, _ => by
    refine ⟨maxL a l, ?_, fun y hy => ?_⟩
    · rcases maxL_mem l a with h | h
      · rw [h]; exact List.mem_cons_self
      · exact List.mem_cons_of_mem _ h
    · obtain ⟨h1, h2⟩ := maxL_ge l a
      rcases List.mem_cons.mp hy with rfl | hy
      · exact h1
      · exact h2 y hy
theorem getD_app_lt {l : List Int} {v : Int} {i : Nat} (h : i < l.length) : (l ++ [v]).getD i 0 = l.getD i 0 := by
  rw [List.getD_eq_getElem?_getD, List.getElem?_append_left h, ← List.getD_eq_getElem?_getD]
theorem getD_app_eq {l : List Int} {v : Int} : (l ++ [v]).getD l.length 0 = v := by
  rw [List.getD_eq_getElem?_getD, List.getElem?_append_right (Nat.le_refl _), Nat.sub_self]
  rfl
/-- the next moment, no less than what it must be -/
theorem SolK.snoc {b : Bk} {L T G : Pr2} {o : Ord} {k : Nat} {m : List Int} {v : Int} (g : Good b o) (h : SolK b L T G o k m) (hk : k < o.length) (h1 : (ownL (msL b) o).getD k 0 ≤ v)
    (h2 : ∀ s, s < k → o[s]? = o[k]? → (∀ s', s < s' → s' < k → o[s']? ≠ o[k]?) → m.getD s 0 ≤ v) (h3 : ∀ c ∈ badC (prL b), hereF o c = k → m.getD (thereF L T G o c).1 0 + (thereF L T G o c).2 ≤ v) : SolK b L T G o (k + 1) (m ++ [v]) := by
  obtain ⟨hl, hs⟩ := h
  refine ⟨by rw [List.length_append, hl]; rfl, fun i hi => ?_⟩
  rcases Nat.lt_or_ge i k with z | z
  · obtain ⟨s1, s2⟩ := hs i z
    rw [getD_app_lt (by omega)]
    refine ⟨s1, fun p hp => ?_⟩
    have := frcs_lt g (by omega : i < o.length) hp
    rw [getD_app_lt (by omega)]
    exact s2 p hp
  · have : i = k := by omega
    subst this
    have ev : (m ++ [v]).getD i 0 = v := by rw [← hl]; exact getD_app_eq
    rw [ev]
    refine ⟨h1, fun p hp => ?_⟩
    have hlt := frcs_lt g hk hp
    rw [getD_app_lt (by omega)]
    rcases (frcs_mem g hk).mp hp with ⟨q1, q2, q3⟩ | ⟨c, hc, q1, q2⟩
    · rw [q3, Int.add_zero]
      -- the last of the same letter
      have key : ∀ n s, s + n + 1 = i → o[s]? = o[i]? → m.getD s 0 ≤ v := by
        intro n
        induction n using Nat.strongRecOn with
        | ind n ih =>
          intro s e es
          by_cases hx : ∃ s', s < s' ∧ s' < i ∧ o[s']? = o[i]?
          · obtain ⟨s', e1, e2, e3⟩ := hx
            have h5 := ih (i - s' - 1) (by omega) s' (by omega) e3
            have h6 := (hs s' (by omega)).2 (s, 0) ((frcs_mem g (by omega)).mpr (.inl ⟨e1, by rw [es, e3], rfl⟩))
            have h6 : m.getD s 0 + 0 ≤ m.getD s' 0 := h6
            omega
          · exact h2 s (by omega) es fun s' e1 e2 e3 => hx ⟨s', e1, e2, e3⟩
      exact key (i - p.1 - 1) p.1 (by omega) q2
    · rw [← q2]
      exact h3 c hc q1
abbrev sp_law_later : Sp := DrawSp (fun x : Bk × Pr2 × Pr2 × Pr2 × Ord => [da (bkT x.1), da (p2D x.2.1), da (p2D x.2.2.1), da (p2D x.2.2.2.1), dS (ordS x.2.2.2.2)]) (fun x => x.1.2.length ≤ 7 ∧ goodB x.1 x.2.2.2.2 = true) (fun x => exP (SolK x.1 x.2.1 x.2.2.1 x.2.2.2.1 x.2.2.2.2 x.2.2.2.2.length) fun m => da (plnD (splitM x.2.2.2.2 m)))
theorem jc_law_later {Ps : List Sl} {E : XK} {tr : TA} {n : Nat} (x : Bk × Pr2 × Pr2 × Pr2 × Ord) (hb : Ps[n]? = some .bag) (h : JA tr Ps ([da (bkT x.1), da (p2D x.2.1), da (p2D x.2.2.1), da (p2D x.2.2.2.1), dS (ordS x.2.2.2.2)])) (hp : x.1.2.length ≤ 7 ∧ goodB x.1 x.2.2.2.2 = true) : JE (tCall sp_law_later [] E (tCons (tVar n) tr)) Ps (exP (SolK x.1 x.2.1 x.2.2.1 x.2.2.2.1 x.2.2.2.2 x.2.2.2.2.length) fun m => da (plnD (splitM x.2.2.2.2 m))) := j_draw x hb h hp
theorem cal_law_later (D : Def1 K mg "_law_later" (topS 62)) (T : Top mg) (c_law_take : C8.Cal P w K mg base 1 "_law_take" sp_law_take []) (c_law_moments : C8.Cal P w K mg base 1 "_law_moments" sp_law_moments []) (c_law_bad : C8.Cal P w K mg base 2 "_law_bad" sp_law_bad []) (c_law_label_first : C8.Cal P w K mg base 2 "_law_label_first" sp_law_label_first []) : C8.Cal P w K mg base 3 "_law_later" sp_law_later [] :=
  mkDraw (N := ["_law_bag_here", "_law_book_here", "_law_label", "_law_till", "_law_gap", "_law_order", "_law_plan", "_law_k", "_law_mine", "_law_at", "_law_some", "_law_one_here", "_law_other"]) (ps := ["_law_bag_here", "_law_book_here", "_law_label", "_law_till", "_law_gap", "_law_order"]) (n := 7) D (C8.fnScope_by (by decide +kernel)) (fun _ _ _ _ _ _ us hl => match us, hl with | [_, _, _, _, _, _], _ => rfl) (fun _ => rfl) rfl fun f cdv A outer s H E hr => by
    have nd : (["_law_bag_here", "_law_book_here", "_law_label", "_law_till", "_law_gap", "_law_order", "_law_plan", "_law_k", "_law_mine", "_law_at", "_law_some", "_law_one_here", "_law_other"] : List Str).Nodup := by decide +kernel
    have hu : (XX P w K mg base ["_law_bag_here", "_law_book_here", "_law_label", "_law_till", "_law_gap", "_law_order", "_law_plan", "_law_k", "_law_mine", "_law_at", "_law_some", "_law_one_here", "_law_other"] "_law_later" (topS 62) f cdv A outer s H E).A.units + 1 < cLine := by have := hr.un; omega
    exact ⟨_, (pss_cons (ps_set (i := 6) nd rfl (.inl rfl) (pe_tup (pa_cons (pe_lst pa_nil) (pa_cons (pe_lst pa_nil) pa_nil)))) (pss_cons (ps_for PassesOwn.never rfl (pi_range1 (by rfl) T.range_ (pa_cons (pe_callB call_lenX (by rfl) T.len_ (by decide +kernel) (pa_cons (pv 5) pa_nil)) pa_nil)) (pg_name (i := 7) nd rfl (.inl rfl)) (pss_cons (ps_set (i := 8) nd rfl (.inl rfl) (pe_ix ix_seq (pv 6) (pe_callTy call_intX (by rfl) T.int_ (by decide +kernel) (pa_cons (pe_cmpR op_eq (pe_ix ix_seq (pv 5) (pv 7) (fun _ _ => rfl)) pe_str (nomark _)) pa_nil)) (fun _ _ => rfl))) (pss_cons (ps_set (i := 9) nd rfl (.inl rfl) (pe_callB call_lenX (by rfl) T.len_ (by decide +kernel) (pa_cons (pv 8) pa_nil))) (pss_cons (ps_set (i := 10) nd rfl (.inl rfl) (pe_op op_cat (pe_lst (pa_cons (pe_ix ix_seq (C8.pe_c c_law_moments hr (by decide) (by rfl) (pa_cons (pv 1) pa_nil)) (pv 9) (fun _ _ => rfl)) pa_nil)) (pe_slice sl_list (pv 8) (po_some (pe_un un_neg pe_int)) po_none))) (pss_cons (ps_for PassesOwn.never rfl (pi_list (C8.pe_c c_law_bad hr (by decide) (by rfl) (pa_cons (pv 1) pa_nil))) (pg_tup (n := 2) (by rfl) (pgs_cons (pg_name (i := 11) nd rfl (.inl rfl)) (pgs_cons (pg_name (i := 12) nd rfl (.inl rfl)) pgs_nil))) (pss_cons (ps_if (PW.pt (pw_and (pt_cmpR op_eq (pe_ix ix_seq (pv 5) (pv 7) (fun _ _ => rfl)) pe_str (nomark _)) (pw_and (pt_cmpR op_eq (pv 12) (pe_op op_add (pv 9) pe_int) (nomark _)) (pw_and1 (pt_val (C8.pe_c c_law_label_first hr (by decide) (by rfl) (pa_cons (pv 5) (pa_cons (pe_tup (pa_cons (pv 11) (pa_cons (pv 12) pa_nil))) pa_nil)))))))) (pss_one (ps_expr (pe_bm PySem.F.plainAttrs_list PySem.F.slot_list_append PySem.F.type_list_append mt_append (pv 10) (pa_cons (pe_op op_add (pe_op op_sub (pe_op op_add (pe_op op_add (pe_ix ix_seq (pe_ix ix_seq (pv 6) pe_int (fun _ _ => rfl)) (pv 11) (fun _ _ => rfl)) (pe_ix ix_seq (pv 2) pe_int (fun _ _ => rfl))) (pe_ix ix_seq (pv 4) pe_int (fun _ _ => rfl))) (pe_ix ix_seq (pv 3) pe_int (fun _ _ => rfl))) pe_int) pa_nil)))) pss_nil) (pss_one (ps_if (PW.pt (pw_and (pt_cmpR op_eq (pe_ix ix_seq (pv 5) (pv 7) (fun _ _ => rfl)) pe_str (nomark _)) (pw_and (pt_cmpR op_eq (pv 11) (pe_op op_add (pv 9) pe_int) (nomark _)) (pw_and1 (pt_not (pt_val (C8.pe_c c_law_label_first hr (by decide) (by rfl) (pa_cons (pv 5) (pa_cons (pe_tup (pa_cons (pv 11) (pa_cons (pv 12) pa_nil))) pa_nil))))))))) (pss_one (ps_expr (pe_bm PySem.F.plainAttrs_list PySem.F.slot_list_append PySem.F.type_list_append mt_append (pv 10) (pa_cons (pe_op op_add (pe_op op_sub (pe_op op_sub (pe_op op_add (pe_ix ix_seq (pe_ix ix_seq (pv 6) pe_int (fun _ _ => rfl)) (pv 12) (fun _ _ => rfl)) (pe_ix ix_seq (pv 3) pe_int (fun _ _ => rfl))) (pe_ix ix_seq (pv 2) pe_int (fun _ _ => rfl))) (pe_ix ix_seq (pv 4) pe_int (fun _ _ => rfl))) pe_int) pa_nil)))) pss_nil)))) (pss_one (ps_expr (pe_bm PySem.F.plainAttrs_list PySem.F.slot_list_append PySem.F.type_list_append mt_append (pv 8) (pa_cons (pe_op op_add (pe_callB (cr_max rfl) (by rfl) T.max_ (by decide +kernel) (pa_cons (pv 10) pa_nil)) (pe_op op_mul (C8.pe_c c_law_take hr (by decide) (by rfl) (pa_cons (pv 0) (pa_cons pe_int pa_nil))) (C8.pe_c c_law_take hr (by decide) (by rfl) (pa_cons (pv 0) (pa_cons pe_int pa_nil))))) pa_nil))))))))) (pss_one (ps_ret (pv 6))))),
      fun ⟨b, L, T, G, o⟩ ⟨hb, hg⟩ => by
        have hb : b.2.length ≤ 7 := hb
        have g : Good b o := good_iff.mp hg
        have ho : o.length ≤ 14 := by rw [g.len]; omega
        have hml : (msL b).length = b.2.length := by unfold msL; rw [List.length_map]
        refine js_seq (js_newTs (i := 6) (dss := [[], []]) (jax_cons jn_newL (jax_cons jn_newL jax_nil)) (by show 2 ≤ 100000; decide)) fun Qs hQ => ?_
        obtain ⟨as, hal, han, rfl⟩ := hQ
        have hal : as.length = 2 := hal
        let PL : Nat → List Int → List (List PyData) := fun k m => [(side (o.take k) m false).map .int, (side (o.take k) m true).map .int]
        have plg : ∀ k m x, (PL k m)[sd x]? = some ((side (o.take k) m x).map .int) := fun k m x => by cases x <;> rfl
        refine js_seq (js_for (jw_rng1 (j := (o.length : Int)) (jd_cons ((j_lenS (z := ordS o) (j_var rfl) (by rw [ordS_len]; omega)).eq (by rw [ordS_len])) jd_nil) (by omega)) (fun k Qs => ∃ m : List Int, SolK b L T G o k m ∧ Qs = [.bag, .pl (da (bkT b)), .pl (da (p2D L)), .pl (da (p2D T)), .pl (da (p2D G)), .pl (dS (ordS o)), .ll true as (PL k m), .no, .no, .no, .no, .no, .no]) ⟨_, (by repeat first | exact True.intro | refine And.intro (Or.inr rfl) ?_ | refine And.intro (Or.inl rfl) ?_), [], ⟨rfl, fun i hi => by omega⟩, rfl⟩ fun k d Qs hd hQ => ?_) fun Qs hQ => ?_
        · obtain ⟨m, hm, rfl⟩ := hQ
          have hk : k < o.length := by
            have := (List.getElem?_eq_some_iff.mp hd).1
            rw [irng_len] at this
            omega
          rw [Int.toNat_natCast, irng_get hk] at hd
          cases hd
          have ek : o[k]? = some o[k] := List.getElem?_eq_getElem hk
          generalize hx : o[k] = x at ek
          have hmt : m.length = (o.take k).length := by rw [hm.1, List.length_take]; omega
          have hsl : ∀ y, (side (o.take k) m y).length = cn y (o.take k) := fun y => side_len y _ _ hmt
          obtain ⟨a, ha⟩ : ∃ a, as[sd x]? = some a := ⟨as[sd x]'(by cases x <;> (show _ < as.length; rw [hal]; decide)), List.getElem?_eq_getElem _⟩
          have hok : ∀ {Ps : List Sl}, Ps[5]? = some (.pl (dS (ordS o))) → Ps[7]? = some (.pl (da (.int (k : Int)))) → JE (tOp (rIx K) (tVar 5) (tVar 7)) Ps (dS (letS x)) := fun {Ps} hp hq => (j_ixS (z := ordS o) (i := (k : Int)) (u := code x) (j_var hp) (j_var hq) (atI_code ek) (by rw [ordS_len]; omega)).eq rfl
          refine ⟨[7], [.int (k : Int)], tg_name, ?_⟩
          refine js_then (js_asg (j_ixAl (m := 6) (j := sd x) (a := a) rfl ((j_intB (j_eqS (hok rfl rfl) j_str)).eq (P' := dI (sd x : Int)) (by rw [show ("T" : Str) = letS true from T_is]; cases x <;> rfl)) ha)) ?_
          refine js_then (js_asg (P1 := dI (cn x (o.take k) : Int)) ((j_lenAl (n := 8) (m := 6) (j := sd x) rfl rfl ha (plg k m x)).eq (by rw [List.length_map, hsl]))) ?_
          have hcx : cn x (o.take k) < (msL b).length := by
            have := cn_lt ek
            rw [hml]
            cases x
            · rw [g.cl] at this; exact this
            · rw [g.ct] at this; exact this
          have hown : (ownL (msL b) o).getD k 0 = (msL b).getD (cn x (o.take k)) 0 := by rw [List.getD_eq_getElem?_getD, ownL_get (msL b) ek]; rfl
          let lst : List Int := (side (o.take k) m x).drop ((side (o.take k) m x).length - 1)
          have hlst : lst.length ≤ 1 := by show ((side (o.take k) m x).drop _).length ≤ 1; rw [List.length_drop]; omega
          refine js_then (js_asgN (s := .ol (((ownL (msL b) o).getD k 0 :: lst).map .int)) (fun S B H σ c s Q q => (jn_cat (ds := [.int ((ownL (msL b) o).getD k 0)]) (es := lst.map .int) (j_lst (jd_cons ((j_ixL (jc_law_moments b (ja_cons (j_var rfl) ja_nil) (by show b.2.length ≤ 1000; omega)) (j_var rfl) (atI_nats (l := msL b) (n := cn x (o.take k)) hcx)).dat (by rw [hown])) jd_nil) (by show 1 ≤ 100000; decide)) ((j_slAl (n := 8) (m := 6) (j := sd x) rfl rfl ha (plg k m x) (jo_some (j_neg j_int)) jo_none).dat (by rw [cut_last])) (by rw [List.length_map, List.length_singleton]; omega)) S B H σ c s Q q)) ?_
          let mine : Sl := .pl (cst (.ref a))
          have base : [.bag, .pl (da (bkT b)), .pl (da (p2D L)), .pl (da (p2D T)), .pl (da (p2D G)), .pl (dS (ordS o)), .ll true as (PL k m), .pl (da (.int (k : Int))), .pl (cst (.ref a)), .pl (dI (cn x (o.take k) : Int)), .ol (((ownL (msL b) o).getD k 0 :: lst).map .int), .no, .no] = [.bag, .pl (da (bkT b)), .pl (da (p2D L)), .pl (da (p2D T)), .pl (da (p2D G)), .pl (dS (ordS o)), .ll true as (PL k m), .pl (da (.int (k : Int))), mine, .pl (dI (cn x (o.take k) : Int)), .ol (((ownL (msL b) o).getD k 0 :: lst).map .int), .no, .no] := rfl
          refine js_seq (js_for (jw_list (jc_law_bad b (ja_cons (j_var rfl) ja_nil) hb)) (fun i Qs => ∃ ns : List Int, ns.length ≤ 2 + i ∧ (ownL (msL b) o).getD k 0 ∈ ns ∧ (∀ y ∈ lst, y ∈ ns) ∧ (∀ j < i, ∀ c, (badC (prL b))[j]? = some c → hereF o c = k → m.getD (thereF L T G o c).1 0 + (thereF L T G o c).2 ∈ ns) ∧ Qs = [.bag, .pl (da (bkT b)), .pl (da (p2D L)), .pl (da (p2D T)), .pl (da (p2D G)), .pl (dS (ordS o)), .ll true as (PL k m), .pl (da (.int (k : Int))), mine, .pl (dI (cn x (o.take k) : Int)), .ol (ns.map .int), .no, .no]) ⟨_, (by repeat first | exact True.intro | refine And.intro (Or.inr rfl) ?_ | refine And.intro (Or.inl rfl) ?_), (ownL (msL b) o).getD k 0 :: lst, by rw [List.length_cons]; omega, List.mem_cons_self, fun y hy => List.mem_cons_of_mem _ hy, fun j hj => by omega, rfl⟩ fun i d Qs hd hQ => ?_) fun Qs hQ => ?_
          · obtain ⟨ns, hnl, hn1, hn2, hn3, rfl⟩ := hQ
            rw [List.getElem?_map] at hd
            cases e : (badC (prL b))[i]? with
            | none => rw [e] at hd; cases hd
            | some c =>
              rw [e] at hd
              cases hd
              have hc := List.mem_of_getElem? e
              have hil : i < 64 := Nat.lt_of_lt_of_le (List.getElem?_eq_some_iff.mp e).1 (badC_len (p := prL b) (by rw [prL_len]; omega))
              refine ⟨[11, 12], [.int (c.1 : Int), .int (c.2 : Int)], tg_2, ?_⟩
              have lfx : ∀ {Ps : List Sl}, Ps[5]? = some (.pl (dS (ordS o))) → Ps[11]? = some (.pl (da (.int (c.1 : Int)))) → Ps[12]? = some (.pl (da (.int (c.2 : Int)))) → JE (tCall sp_law_label_first [] C8.E0 (tCons (tVar 5) (tCons (tTup (tCons (tVar 11) (tCons (tVar 12) tNil))) tNil))) Ps (dB (lfB o c)) := fun {Ps} p1 p2 p3 => (jc_law_label_first (o, c) (ja_cons (j_var p1) (ja_cons (j_tup (jd_cons (j_var p2) (jd_cons (j_var p3) jd_nil)) (by show 2 ≤ 100000; decide)) ja_nil)) (by show o.length ≤ 1000; omega)).eq (congrArg dB (lfE_eq g hc))
              let b1 : Bool := decide (x = true) && (decide (c.2 = cn x (o.take k) + 1) && lfB o c)
              let b2 : Bool := decide (x = false) && (decide (c.1 = cn x (o.take k) + 1) && !lfB o c)
              have h1 : b1 = true → hereF o c = k ∧ thereF L T G o c = (place o false (c.1 + 1), L.2 + G.2 - T.1 + 1) ∧ c.1 < cn false (o.take k) ∧ (side (o.take k) m false).getD c.1 0 = m.getD (place o false (c.1 + 1)) 0 := by
                intro hb1
                have hb1 : (decide (x = true) && (decide (c.2 = cn x (o.take k) + 1) && lfB o c)) = true := hb1
                rw [Bool.and_eq_true, Bool.and_eq_true, decide_eq_true_eq, decide_eq_true_eq] at hb1
                obtain ⟨e1, e2, e3⟩ := hb1
                subst e1
                obtain ⟨q1, q2, q3, q4⟩ := lf_pos g hc e3
                have hp : place o true c.2 = k := by rw [e2]; exact place_is ek
                obtain ⟨r1, r2⟩ := place_lt (o := o) (b := false) (k := c.1 + 1) (by omega) (by rw [g.cl]; exact q3)
                have r3 := place_cn (o := o) (b := false) (k := c.1 + 1) (by omega) (by rw [g.cl]; exact q3)
                have r4 := cn_at r2
                have r5 := cn_mono false o (show place o false (c.1 + 1) + 1 ≤ k by omega)
                refine ⟨by unfold hereF; rw [if_pos e3, hp], by unfold thereF; rw [if_pos e3], by omega, ?_⟩
                have hget : (o.take k)[place o false (c.1 + 1)]? = some false := by rw [List.getElem?_take_of_lt (by omega)]; exact r2
                have := side_get (x := false) (i := place o false (c.1 + 1)) hmt hget
                rw [List.take_take, Nat.min_eq_left (by omega), r3] at this
                exact this
              have h2 : b2 = true → hereF o c = k ∧ thereF L T G o c = (place o true (c.2 + 1), T.2 - L.1 - G.1 + 1) ∧ c.2 < cn true (o.take k) ∧ (side (o.take k) m true).getD c.2 0 = m.getD (place o true (c.2 + 1)) 0 := by
                intro hb2
                have hb2 : (decide (x = false) && (decide (c.1 = cn x (o.take k) + 1) && !lfB o c)) = true := hb2
                rw [Bool.and_eq_true, Bool.and_eq_true, decide_eq_true_eq, decide_eq_true_eq, Bool.not_eq_true'] at hb2
                obtain ⟨e1, e2, e3⟩ := hb2
                subst e1
                obtain ⟨q1, q2, q3, q4⟩ := tf_pos g hc e3
                have hp : place o false c.1 = k := by rw [e2]; exact place_is ek
                obtain ⟨r1, r2⟩ := place_lt (o := o) (b := true) (k := c.2 + 1) (by omega) (by rw [g.ct]; exact q3)
                have r3 := place_cn (o := o) (b := true) (k := c.2 + 1) (by omega) (by rw [g.ct]; exact q3)
                have r4 := cn_at r2
                have r5 := cn_mono true o (show place o true (c.2 + 1) + 1 ≤ k by omega)
                refine ⟨by unfold hereF; rw [if_neg (by rw [e3]; decide), hp], by unfold thereF; rw [if_neg (by rw [e3]; decide)], by omega, ?_⟩
                have hget : (o.take k)[place o true (c.2 + 1)]? = some true := by rw [List.getElem?_take_of_lt (by omega)]; exact r2
                have := side_get (x := true) (i := place o true (c.2 + 1)) hmt hget
                rw [List.take_take, Nat.min_eq_left (by omega), r3] at this
                exact this
              have h12 : hereF o c = k → b1 = true ∨ b2 = true := by
                intro hh
                show (decide (x = true) && (decide (c.2 = cn x (o.take k) + 1) && lfB o c)) = true ∨ (decide (x = false) && (decide (c.1 = cn x (o.take k) + 1) && !lfB o c)) = true
                cases hlf : lfB o c with
                | true =>
                  obtain ⟨q1, q2, q3, q4⟩ := lf_pos g hc hlf
                  have hp : place o true c.2 = k := by unfold hereF at hh; rw [if_pos hlf] at hh; exact hh
                  obtain ⟨r1, r2⟩ := place_lt (o := o) (b := true) q1 (by rw [g.ct]; exact q2)
                  have r3 := place_cn (o := o) (b := true) q1 (by rw [g.ct]; exact q2)
                  rw [hp] at r2 r3
                  rw [ek] at r2
                  cases r2
                  left
                  rw [r3, decide_eq_true (show c.2 = c.2 - 1 + 1 by omega)]
                  rfl
                | false =>
                  obtain ⟨q1, q2, q3, q4⟩ := tf_pos g hc hlf
                  have hp : place o false c.1 = k := by unfold hereF at hh; rw [if_neg (by rw [hlf]; decide)] at hh; exact hh
                  obtain ⟨r1, r2⟩ := place_lt (o := o) (b := false) q1 (by rw [g.cl]; exact q2)
                  have r3 := place_cn (o := o) (b := false) q1 (by rw [g.cl]; exact q2)
                  rw [hp] at r2 r3
                  rw [ek] at r2
                  cases r2
                  right
                  rw [r3, decide_eq_true (show c.1 = c.1 - 1 + 1 by omega)]
                  rfl
              have tx : ∀ y : Bool, decide (letS x = letS y) = decide (x = y) := fun y => decide_eq_decide.mpr letS_eq
              refine js_seq (N' := fun Qs => ∃ ns' : List Int, ns'.length ≤ 3 + i ∧ (∀ y ∈ ns, y ∈ ns') ∧ (b1 = true → m.getD (thereF L T G o c).1 0 + (thereF L T G o c).2 ∈ ns') ∧ (b1 = true → ns'.length ≤ 3 + i) ∧ (b1 = false → ns' = ns) ∧ Qs = [.bag, .pl (da (bkT b)), .pl (da (p2D L)), .pl (da (p2D T)), .pl (da (p2D G)), .pl (dS (ordS o)), .ll true as (PL k m), .pl (da (.int (k : Int))), mine, .pl (dI (cn x (o.take k) : Int)), .ol (ns'.map .int), .pl (da (.int (c.1 : Int))), .pl (da (.int (c.2 : Int)))]) (js_if (b := b1) (jt_and ((jt_test (j_eqS (hok rfl rfl) j_str)).is (by rw [show ("T" : Str) = letS true from T_is, tx])) fun _ => jt_and ((jt_test (j_eqI (j_var rfl) (j_I0 (j_var rfl) j_int))).is (decide_eq_decide.mpr (by show (c.2 : Int) = (cn x (o.take k) : Int) + 1 ↔ _; omega))) fun _ => jt_test (lfx rfl rfl rfl)) (fun hb1 => ?_) fun hb1 => js_next.imp fun Qs q => ⟨ns, by omega, fun y hy => hy, fun z => (by rw [hb1] at z; cases z), fun _ => by omega, fun _ => rfl, q⟩) fun Qs hQ => ?_
              · obtain ⟨q1, q2, q3, q4⟩ := h1 hb1
                refine (js_app (i := 10) (d := .int (m.getD (thereF L T G o c).1 0 + (thereF L T G o c).2)) rfl ((j_I0 (j_I0 (j_I0 (j_I0 (j_ixIn (m := 6) (j := 0) (x := (c.1 : Int)) rfl j_int (j_var rfl) (plg k m false) (atI_nats (l := side (o.take k) m false) (n := c.1) (by rw [hsl]; exact q3))) (j_ixT (j_var rfl) j_int rfl)) (j_ixT (j_var rfl) j_int rfl)) (j_ixT (j_var rfl) j_int rfl)) j_int).dat ?_) (by rw [List.length_map]; omega)).imp fun Rs q => ⟨ns ++ [m.getD (thereF L T G o c).1 0 + (thereF L T G o c).2], by rw [List.length_append, List.length_singleton]; omega, fun y hy => List.mem_append_left _ hy, fun _ => List.mem_append_right _ (List.mem_singleton.mpr rfl), fun _ => by rw [List.length_append, List.length_singleton]; omega, fun z => (by rw [hb1] at z; cases z), ?_⟩
                · rw [q2, q4]
                  congr 1
                  show _ = m.getD (place o false (c.1 + 1)) 0 + (L.2 + G.2 - T.1 + 1)
                  omega
                · rw [List.map_append]
                  exact q
              · obtain ⟨ns', hl', hs', hf', _, hf0, rfl⟩ := hQ
                have nb : b1 = true → b2 = false := by
                  intro hb1
                  have hb1 : (decide (x = true) && (decide (c.2 = cn x (o.take k) + 1) && lfB o c)) = true := hb1
                  rw [Bool.and_eq_true, decide_eq_true_eq] at hb1
                  show (decide (x = false) && _) = false
                  rw [hb1.1]
                  rfl
                refine js_if (b := b2) (jt_and ((jt_test (j_eqS (hok rfl rfl) j_str)).is (by rw [show ("L" : Str) = letS false from L_is, tx])) fun _ => jt_and ((jt_test (j_eqI (j_var rfl) (j_I0 (j_var rfl) j_int))).is (decide_eq_decide.mpr (by show (c.1 : Int) = (cn x (o.take k) : Int) + 1 ↔ _; omega))) fun _ => jt_not (jt_test (lfx rfl rfl rfl))) (fun hb2 => ?_) fun hb2 => js_next.imp fun Qs q => ⟨_, q ▸ (by repeat first | exact True.intro | refine And.intro (Or.inr rfl) ?_ | refine And.intro (Or.inl rfl) ?_), ns', by omega, hs' _ hn1, fun y hy => hs' y (hn2 y hy), fun j hj c' e' hh => ?_, rfl⟩
                · obtain ⟨q1, q2, q3, q4⟩ := h2 hb2
                  have hb1 : b1 = false := by
                    cases hz : b1 with
                    | false => rfl
                    | true => rw [nb hz] at hb2; cases hb2
                  have ens := hf0 hb1
                  subst ens
                  refine (js_app (i := 10) (d := .int (m.getD (thereF L T G o c).1 0 + (thereF L T G o c).2)) rfl ((j_I0 (j_I0 (j_I0 (j_I0 (j_ixIn (m := 6) (j := 1) (x := (c.2 : Int)) rfl j_int (j_var rfl) (plg k m true) (atI_nats (l := side (o.take k) m true) (n := c.2) (by rw [hsl]; exact q3))) (j_ixT (j_var rfl) j_int rfl)) (j_ixT (j_var rfl) j_int rfl)) (j_ixT (j_var rfl) j_int rfl)) j_int).dat ?_) (by rw [List.length_map]; omega)).imp fun Rs q => ⟨_, q ▸ ?_, ns' ++ [m.getD (thereF L T G o c).1 0 + (thereF L T G o c).2], by rw [List.length_append, List.length_singleton]; omega, List.mem_append_left _ hn1, fun y hy => List.mem_append_left _ (hn2 y hy), fun j hj c' e' hh => ?_, rfl⟩
                  · rw [q2, q4]
                    congr 1
                    show _ = m.getD (place o true (c.2 + 1)) 0 + (T.2 - L.1 - G.1 + 1)
                    omega
                  · by_cases hji : j = i
                    · subst hji
                      rw [e] at e'
                      cases e'
                      exact List.mem_append_right _ (List.mem_singleton.mpr rfl)
                    · exact List.mem_append_left _ (hn3 j (by omega) c' e' hh)
                  · rw [List.map_append]
                    exact (by repeat first | exact True.intro | refine And.intro (Or.inr rfl) ?_ | refine And.intro (Or.inl rfl) ?_)
                · by_cases hji : j = i
                  · subst hji
                    rw [e] at e'
                    cases e'
                    rcases h12 hh with z | z
                    · exact hf' z
                    · rw [hb2] at z; cases z
                  · exact hs' _ (hn3 j (by omega) c' e' hh)
          · obtain ⟨ns, hnl, hn1, hn2, hn3, rfl⟩ := hQ
            rw [List.length_map] at hn3
            have hbl : (badC (prL b)).length ≤ 64 := badC_len (p := prL b) (by rw [prL_len]; omega)
            obtain ⟨mx, hmx, hmxle⟩ := exists_max (List.ne_nil_of_mem hn1)
            refine js_freeze (i := 10) rfl ?_
            refine (js_appAlX (φ := fun v => mx ≤ v) (n := 8) (m := 6) (j := sd x) rfl rfl ha (plg k m x) (j_addX (ψ := fun d => 0 ≤ d) (j_dIn (j_max (ns := ns) (m := mx) (j_var rfl) hmx hmxle)) (j_mulX (jc_law_take 4 (n := 0) rfl j_int (by decide)) (jc_law_take 3 (n := 0) rfl j_int (by decide)) (fun u v h1 h2 => by unfold CMul; omega) fun u v h1 h2 => Int.mul_nonneg h1.1 h2.1) fun u v h1 h2 => by omega) (by rw [List.length_map, hsl]; have := cn_total o k (by omega); have h9 : cn x (o.take k) ≤ k := (by cases x <;> omega); omega)).imp fun Rs hR => ?_
            obtain ⟨v, hv, rfl⟩ := hR
            have hpl : (PL k m).set (sd x) ((side (o.take k) m x).map PyData.int ++ [.int v]) = PL (k + 1) (m ++ [v]) := by
              show _ = [(side (o.take (k + 1)) (m ++ [v]) false).map PyData.int, (side (o.take (k + 1)) (m ++ [v]) true).map .int]
              rw [take_succ ek, side_snoc x false v _ _ hmt, side_snoc x true v _ _ hmt]
              cases x
              · rw [if_pos rfl, if_neg (by decide), List.append_nil, List.map_append]
                rfl
              · rw [if_neg (by decide), if_pos rfl, List.append_nil, List.map_append]
                rfl
            rw [hpl]
            refine ⟨_, (by repeat first | exact True.intro | refine And.intro (Or.inr rfl) ?_ | refine And.intro (Or.inl rfl) ?_), m ++ [v], hm.snoc g hk (Int.le_trans (hmxle _ hn1) hv) (fun s hs es hno => ?_) fun c hc hh => ?_, rfl⟩
            · rw [ek] at es
              have hcn : cn x (o.take s) + 1 = (side (o.take k) m x).length := by
                rw [hsl, ← cn_at es]
                have := cn_const (x := x) (o := o) (s := s + 1) (k - (s + 1)) fun s' h1 h2 e => hno s' (by omega) (by omega) (by rw [e, ek])
                rw [show s + 1 + (k - (s + 1)) = k by omega] at this
                exact this.symm
              have hget : (o.take k)[s]? = some x := by rw [List.getElem?_take_of_lt hs]; exact es
              have hsg := side_get (x := x) (i := s) hmt hget
              rw [List.take_take, Nat.min_eq_left (by omega)] at hsg
              have hml := mem_last hcn
              rw [hsg] at hml
              exact Int.le_trans (hmxle _ (hn2 _ hml)) hv
            · obtain ⟨j, hj, ej⟩ := List.getElem_of_mem hc
              exact Int.le_trans (hmxle _ (hn3 j hj c (by rw [List.getElem?_eq_getElem hj, ej]) hh)) hv
        · obtain ⟨m, hm, rfl⟩ := hQ
          rw [irng_len, Int.toNat_natCast] at hm ⊢
          refine js_freezeLL (i := 6) rfl ((js_ret (j_var rfl)).outw fun H v p => ⟨m, hm, ?_⟩)
          have p' : Da H v (.tuple ((PL o.length m).map .list)) := p
          have e : PyData.tuple ((PL o.length m).map .list) = plnD (splitM o m) := by
            show PyData.tuple [.list ((side (o.take o.length) m false).map .int), .list ((side (o.take o.length) m true).map .int)] = _
            rw [List.take_length]
            rfl
          rw [e] at p'
          exact p'
⟩
end
end LK
/-! text M4 -/
namespace LK
open PySem PySem.Spec PyProof.Rows L2
/-! ### plans and what they must keep -/
theorem all_zip {l1 l2 : List Int} {f : Int × Int → Bool} : (l1.zip l2).all f = true ↔ ∀ i, i < l1.length → i < l2.length → f (l1.getD i 0, l2.getD i 0) = true := by
  rw [List.all_eq_true]
  constructor
  · intro h i h1 h2
    refine h _ ?_
    rw [List.getD_eq_getElem?_getD, List.getD_eq_getElem?_getD, List.getElem?_eq_getElem h1, List.getElem?_eq_getElem h2]
    exact List.mem_of_getElem? (List.getElem?_zip_eq_some.mpr ⟨List.getElem?_eq_getElem h1, List.getElem?_eq_getElem h2⟩)
  · intro h p hp
    obtain ⟨i, hi, e⟩ := List.getElem_of_mem hp
    have e' : (l1.zip l2)[i]? = some p := by rw [List.getElem?_eq_getElem hi, e]
    obtain ⟨e1, e2⟩ := List.getElem?_zip_eq_some.mp e'
    have h1 := (List.getElem?_eq_some_iff.mp e1).1
    have h2 := (List.getElem?_eq_some_iff.mp e2).1
    have := h i h1 h2
    rw [List.getD_eq_getElem?_getD, List.getD_eq_getElem?_getD, e1, e2] at this
    exact this
theorem getD_drop1 (l : List Int) (i : Nat) : (l.drop 1).getD i 0 = l.getD (i + 1) 0 := by
  rw [List.getD_eq_getElem?_getD, List.getD_eq_getElem?_getD, List.getElem?_drop, Nat.add_comm]
structure Sent (ms xs : List Int) : Prop where
  len : xs.length = ms.length
  own : ∀ i, i < ms.length → ms.getD i 0 ≤ xs.getD i 0
  up : ∀ i, i + 1 < xs.length → xs.getD i 0 ≤ xs.getD (i + 1) 0
theorem sent_iff {ms xs : List Int} : sentB ms xs = true ↔ Sent ms xs := by
  unfold sentB
  rw [Bool.and_eq_true, Bool.and_eq_true, decide_eq_true_eq, all_zip, all_zip]
  constructor
  · rintro ⟨⟨h1, h2⟩, h3⟩
    refine ⟨h1, fun i hi => of_decide_eq_true (h2 i hi (by omega)), fun i hi => ?_⟩
    have := of_decide_eq_true (h3 i (by omega) (by rw [List.length_drop]; omega))
    rw [getD_drop1] at this
    exact this
  · rintro ⟨h1, h2, h3⟩
    refine ⟨⟨h1, fun i hi _ => decide_eq_true (h2 i hi)⟩, fun i hi hd => decide_eq_true ?_⟩
    rw [List.length_drop] at hd
    rw [getD_drop1]
    exact h3 i (by omega)
theorem Sent.le {ms xs : List Int} (h : Sent ms xs) : ∀ {j i : Nat}, i ≤ j → j < xs.length → xs.getD i 0 ≤ xs.getD j 0
  | 0, i, hi, _ => by
    have : i = 0 := by omega
    subst this
    exact Int.le_refl _
  | j + 1, i, hi, hj => by
    rcases Nat.lt_or_ge i (j + 1) with z | z
    · exact Int.le_trans (h.le (j := j) (by omega) (by omega)) (h.up j hj)
    · have : i = j + 1 := by omega
      subst this
      exact Int.le_refl _
def mom (P : Pln) (o : Ord) (k : Nat) : Int := (sideL P (o.getD k false)).getD (cn (o.getD k false) (o.take k)) 0
theorem mom_at {P : Pln} {o : Ord} {k : Nat} {x : Bool} (h : o[k]? = some x) : mom P o k = (sideL P x).getD (cn x (o.take k)) 0 := by
  unfold mom
  rw [List.getD_eq_getElem?_getD (l := o), h]
  rfl
theorem mom_place {P : Pln} {o : Ord} {x : Bool} {j : Nat} (h0 : 1 ≤ j) (h1 : j ≤ cn x o) : mom P o (place o x j) = (sideL P x).getD (j - 1) 0 := by rw [mom_at (place_lt h0 h1).2, place_cn h0 h1]
theorem own_at {b : Bk} {o : Ord} {k : Nat} {x : Bool} (h : o[k]? = some x) : (ownL (msL b) o).getD k 0 = (msL b).getD (cn x (o.take k)) 0 := by rw [List.getD_eq_getElem?_getD, ownL_get (msL b) h]; rfl
def SolP (b : Bk) (L T G : Pr2) (P : Pln) (o : Ord) : Prop := ∀ k < o.length, (ownL (msL b) o).getD k 0 ≤ mom P o k ∧ ∀ p ∈ (frcs b L T G o).getD k [], mom P o p.1 + p.2 ≤ mom P o k
section
variable {b : Bk} {L T G : Pr2} {P : Pln} {o : Ord}
theorem Good.cn (g : Good b o) (x : Bool) : LK.cn x o = b.2.length := by cases x; exact g.cl; exact g.ct
theorem msL_len (b : Bk) : (msL b).length = b.2.length := by unfold msL; rw [List.length_map]
theorem sol_iff (g : Good b o) (h1 : P.1.length = b.2.length) (h2 : P.2.length = b.2.length) : (planB (msL b) P && folB b L T G P o) = true ↔ SolP b L T G P o := by
  have hs : ∀ x, (sideL P x).length = b.2.length := fun x => by cases x <;> assumption
  unfold planB folB
  rw [Bool.and_eq_true, Bool.and_eq_true, sent_iff, sent_iff, List.all_eq_true]
  constructor
  · rintro ⟨⟨s1, s2⟩, hf⟩ k hk
    have ss : ∀ x, Sent (msL b) (sideL P x) := fun x => by cases x; exact s1; exact s2
    have ek : o[k]? = some o[k] := List.getElem?_eq_getElem hk
    generalize o[k] = x at ek
    have hc := cn_lt ek
    rw [g.cn] at hc
    rw [own_at ek, mom_at ek]
    refine ⟨(ss x).own _ (by rw [msL_len]; exact hc), fun p hp => ?_⟩
    rcases (frcs_mem g hk).mp hp with ⟨q1, q2, q3⟩ | ⟨c, hc', q1, q2⟩
    · rw [ek] at q2
      rw [q3, Int.add_zero, mom_at q2]
      have := cn_mono x o (show p.1 + 1 ≤ k by omega)
      rw [cn_at q2] at this
      exact (ss x).le (by omega) (by rw [hs]; exact hc)
    · have hfc := hf c hc'
      cases hlf : lfB o c with
      | true =>
        obtain ⟨l1, l2, l3, l4⟩ := lf_pos g hc' hlf
        rw [hlf, if_pos rfl] at hfc
        have e1 : place o true c.2 = k := by unfold hereF at q1; rw [if_pos hlf] at q1; exact q1
        have e2 : p = (place o false (c.1 + 1), L.2 + G.2 - T.1 + 1) := by unfold thereF at q2; rw [if_pos hlf] at q2; exact q2.symm
        have e3 := (place_lt (o := o) (b := true) l1 (by rw [g.ct]; exact l2)).2
        have e4 := place_cn (o := o) (b := true) l1 (by rw [g.ct]; exact l2)
        rw [e1] at e3 e4
        rw [ek] at e3
        cases e3
        rw [e2, mom_place (by omega) (by rw [g.cl]; exact l3), e4, Nat.add_sub_cancel]
        unfold llB at hfc
        rw [Bool.and_eq_true, decide_eq_true_eq] at hfc
        have := hfc.2
        show P.1.getD c.1 0 + (L.2 + G.2 - T.1 + 1) ≤ P.2.getD (c.2 - 1) 0
        omega
      | false =>
        obtain ⟨l1, l2, l3, l4⟩ := tf_pos g hc' hlf
        rw [hlf, if_neg (by decide)] at hfc
        have e1 : place o false c.1 = k := by unfold hereF at q1; rw [if_neg (by rw [hlf]; decide)] at q1; exact q1
        have e2 : p = (place o true (c.2 + 1), T.2 - L.1 - G.1 + 1) := by unfold thereF at q2; rw [if_neg (by rw [hlf]; decide)] at q2; exact q2.symm
        have e3 := (place_lt (o := o) (b := false) l1 (by rw [g.cl]; exact l2)).2
        have e4 := place_cn (o := o) (b := false) l1 (by rw [g.cl]; exact l2)
        rw [e1] at e3 e4
        rw [ek] at e3
        cases e3
        rw [e2, mom_place (by omega) (by rw [g.ct]; exact l3), e4, Nat.add_sub_cancel]
        unfold tlB at hfc
        rw [Bool.and_eq_true, decide_eq_true_eq] at hfc
        have := hfc.2
        show P.2.getD c.2 0 + (T.2 - L.1 - G.1 + 1) ≤ P.1.getD (c.1 - 1) 0
        omega
  · intro hS
    have ss : ∀ x, Sent (msL b) (sideL P x) := fun x => by
      refine ⟨by rw [hs, msL_len], fun i hi => ?_, fun i hi => ?_⟩
      · rw [msL_len] at hi
        have hq : i + 1 ≤ cn x o := by rw [g.cn]; exact hi
        obtain ⟨l1, l2⟩ := place_lt (show 1 ≤ i + 1 by omega) hq
        have l3 := place_cn (show 1 ≤ i + 1 by omega) hq
        have := (hS _ l1).1
        rw [own_at l2, mom_at l2, l3, Nat.add_sub_cancel] at this
        exact this
      · rw [hs] at hi
        have hq : i + 2 ≤ cn x o := by rw [g.cn]; omega
        obtain ⟨l1, l2⟩ := place_lt (show 1 ≤ i + 2 by omega) hq
        have l3 := place_cn (show 1 ≤ i + 2 by omega) hq
        obtain ⟨k1, k2⟩ := place_lt (o := o) (b := x) (show 1 ≤ i + 1 by omega) (by omega)
        have k3 := place_cn (o := o) (b := x) (show 1 ≤ i + 1 by omega) (by omega)
        have hlt : place o x (i + 1) < place o x (i + 2) := lt_of_cn (x := x) (by rw [k3, l3]; omega)
        have := (hS _ l1).2 (place o x (i + 1), 0) ((frcs_mem g l1).mpr (.inl ⟨hlt, by rw [l2, k2], rfl⟩))
        have this : mom P o (place o x (i + 1)) + 0 ≤ mom P o (place o x (i + 2)) := this
        rw [mom_at l2, mom_at k2, l3, k3] at this
        show (sideL P x).getD (i + 1 - 1) 0 ≤ (sideL P x).getD (i + 2 - 1) 0
        omega
    refine ⟨⟨ss false, ss true⟩, fun c hc => ?_⟩
    have hh := here_lt (L := L) (T := T) (G := G) g hc
    have hmem := (hS _ hh.1).2 (thereF L T G o c) ((frcs_mem g hh.1).mpr (.inr ⟨c, hc, rfl, rfl⟩))
    cases hlf : lfB o c with
    | true =>
      obtain ⟨l1, l2, l3, l4⟩ := lf_pos g hc hlf
      rw [if_pos rfl]
      unfold hereF thereF at hmem
      rw [if_pos hlf, if_pos hlf] at hmem
      have hmem : mom P o (place o false (c.1 + 1)) + (L.2 + G.2 - T.1 + 1) ≤ mom P o (place o true c.2) := hmem
      rw [mom_place (by omega) (by rw [g.cl]; exact l3), mom_place l1 (by rw [g.ct]; exact l2), Nat.add_sub_cancel] at hmem
      have hmem : P.1.getD c.1 0 + (L.2 + G.2 - T.1 + 1) ≤ P.2.getD (c.2 - 1) 0 := hmem
      unfold llB
      rw [decide_eq_false (show ¬ P.1.length ≤ c.1 by omega), decide_eq_false (show ¬ c.2 = 0 by omega)]
      exact decide_eq_true (by omega)
    | false =>
      obtain ⟨l1, l2, l3, l4⟩ := tf_pos g hc hlf
      rw [if_neg (by decide)]
      unfold hereF thereF at hmem
      rw [if_neg (by rw [hlf]; decide), if_neg (by rw [hlf]; decide)] at hmem
      have hmem : mom P o (place o true (c.2 + 1)) + (T.2 - L.1 - G.1 + 1) ≤ mom P o (place o false c.1) := hmem
      rw [mom_place (by omega) (by rw [g.ct]; exact l3), mom_place l1 (by rw [g.cl]; exact l2), Nat.add_sub_cancel] at hmem
      have hmem : P.2.getD c.2 0 + (T.2 - L.1 - G.1 + 1) ≤ P.1.getD (c.1 - 1) 0 := hmem
      unfold tlB
      rw [decide_eq_false (show ¬ c.1 = 0 by omega), decide_eq_false (show ¬ P.2.length ≤ c.2 by omega)]
      exact decide_eq_true (by omega)
/-! the least one -/
theorem mom_split {m : List Int} (hm : m.length = o.length) {k : Nat} (hk : k < o.length) : mom (splitM o m) o k = m.getD k 0 := by
  have ek : o[k]? = some o[k] := List.getElem?_eq_getElem hk
  rw [mom_at ek, ← side_get hm ek]
  cases o[k] <;> rfl
theorem split_len (g : Good b o) {m : List Int} (hm : m.length = o.length) : (splitM o m).1.length = b.2.length ∧ (splitM o m).2.length = b.2.length := ⟨by rw [← g.cl]; exact side_len false o m hm, by rw [← g.ct]; exact side_len true o m hm⟩
theorem sol_split (g : Good b o) {m : List Int} (h : SolK b L T G o o.length m) : SolP b L T G (splitM o m) o := fun k hk => by
  obtain ⟨hm, hs⟩ := h
  obtain ⟨h1, h2⟩ := hs k hk
  rw [mom_split hm hk]
  refine ⟨h1, fun p hp => ?_⟩
  have := frcs_lt g hk hp
  rw [mom_split hm (by omega)]
  exact h2 p hp
theorem least_solK (g : Good b o) : SolK b L T G o o.length (lmL b L T G o) := ⟨lmL_len .., fun k hk => by
  obtain ⟨h1, h2⟩ := maxL_ge (((frcs b L T G o).getD k []).map fun p => (lmL b L T G o).getD p.1 0 + p.2) ((ownL (msL b) o).getD k 0)
  rw [← lmL_get g hk] at h1 h2
  exact ⟨h1, fun p hp => h2 _ (List.mem_map.mpr ⟨p, hp, rfl⟩)⟩⟩
theorem least_le (g : Good b o) (h : SolP b L T G P o) : ∀ k, k < o.length → (lmL b L T G o).getD k 0 ≤ mom P o k := by
  intro k
  induction k using Nat.strongRecOn with
  | ind k ih =>
    intro hk
    obtain ⟨h1, h2⟩ := h k hk
    rcases maxL_mem (((frcs b L T G o).getD k []).map fun p => (lmL b L T G o).getD p.1 0 + p.2) ((ownL (msL b) o).getD k 0) with z | z
    · rw [lmL_get g hk, z]; exact h1
    · rw [← lmL_get g hk] at z
      obtain ⟨p, hp, e⟩ := List.mem_map.mp z
      have hlt := frcs_lt g hk hp
      have := ih p.1 hlt (by omega)
      have := h2 p hp
      omega
theorem least_mom (g : Good b o) {k : Nat} (hk : k < o.length) : mom (leastP b L T G o) o k = (lmL b L T G o).getD k 0 := mom_split (lmL_len ..) hk
theorem least_len (g : Good b o) : (leastP b L T G o).1.length = b.2.length ∧ (leastP b L T G o).2.length = b.2.length := split_len g (lmL_len ..)
theorem least_ok (g : Good b o) : (planB (msL b) (leastP b L T G o) && folB b L T G (leastP b L T G o) o) = true := (sol_iff g (least_len g).1 (least_len g).2).mpr (sol_split g (least_solK g))
theorem bump_mom (y : Bool) (j : Nat) (d : Int) (hj : j < (sideL P y).length) {k : Nat} {x : Bool} (hk : o[k]? = some x) : mom (bump P y j d) o k = mom P o k + if x = y ∧ cn y (o.take k) = j then d else 0 := by
  rw [mom_at hk, mom_at hk]
  have same : ∀ z, z ≠ y → sideL (bump P y j d) z = sideL P z := fun z hz => by
    cases y <;> cases z <;> first | rfl | exact absurd rfl hz
  have self : sideL (bump P y j d) y = (sideL P y).set j ((sideL P y).getD j 0 + d) := by cases y <;> rfl
  by_cases hxy : x = y
  · subst hxy
    rw [self, List.getD_eq_getElem?_getD]
    by_cases hc : cn x (o.take k) = j
    · rw [if_pos ⟨rfl, hc⟩, hc, List.getElem?_set_self hj]
      rfl
    · rw [if_neg fun z => hc z.2, List.getElem?_set_ne (Ne.symm hc), ← List.getD_eq_getElem?_getD, Int.add_zero]
  · rw [if_neg fun z => hxy z.1, same x hxy, Int.add_zero]
theorem no_less (g : Good b o) (y : Bool) (j : Nat) (hj : j < b.2.length) : (planB (msL b) (bump (leastP b L T G o) y j (-1)) && folB b L T G (bump (leastP b L T G o) y j (-1)) o) = false := by
  rw [Bool.eq_false_iff]
  intro h
  obtain ⟨l1, l2⟩ := least_len (L := L) (T := T) (G := G) g
  obtain ⟨b1, b2⟩ := bump_len (leastP b L T G o) y j (-1)
  have hS := (sol_iff g (b1.trans l1) (b2.trans l2)).mp h
  have hq : j + 1 ≤ cn y o := by rw [g.cn]; exact hj
  obtain ⟨q1, q2⟩ := place_lt (show 1 ≤ j + 1 by omega) hq
  have q3 := place_cn (show 1 ≤ j + 1 by omega) hq
  have hle := least_le g hS _ q1
  have hsl : (sideL (leastP b L T G o) y).length = b.2.length := by cases y <;> assumption
  rw [bump_mom y j (-1) (by omega) q2, if_pos ⟨rfl, by rw [q3]; rfl⟩, least_mom g q1] at hle
  omega
theorem fb_spec (g : Good b o) {k s : Nat} (h : (fbL b L T G o)[k]? = some (some s)) : k < o.length ∧ ∃ p ∈ (frcs b L T G o).getD k [], p.1 = s ∧ (lmL b L T G o).getD s 0 + p.2 = (lmL b L T G o).getD k 0 := by
  have hk : k < o.length := by
    have := (List.getElem?_eq_some_iff.mp h).1
    unfold fbL at this
    rw [List.length_map, List.length_range] at this
    exact this
  refine ⟨hk, ?_⟩
  unfold fbL at h
  rw [List.getElem?_map, List.getElem?_range hk] at h
  have h : fbAt (ownL (msL b) o) (lmL b L T G o) ((frcs b L T G o).getD k []) k = some s := Option.some.inj h
  unfold fbAt at h
  split at h
  · cases h
  · rename_i hne
    have hs := Option.some.inj h
    have hnn : (((frcs b L T G o).getD k []).filter fun p => decide ((lmL b L T G o).getD p.1 0 + p.2 = (lmL b L T G o).getD k 0)).map (·.1) ≠ [] := by
      rcases maxL_mem (((frcs b L T G o).getD k []).map fun p => (lmL b L T G o).getD p.1 0 + p.2) ((ownL (msL b) o).getD k 0) with z | z
      · exact absurd ((lmL_get g hk).trans z) hne
      · rw [← lmL_get g hk] at z
        obtain ⟨p, hp, ep⟩ := List.mem_map.mp z
        exact List.ne_nil_of_mem (List.mem_map.mpr ⟨p, List.mem_filter.mpr ⟨hp, decide_eq_true ep⟩, rfl⟩)
    have := (minN_spec hnn).1
    rw [hs] at this
    obtain ⟨p, hp, e⟩ := List.mem_map.mp this
    obtain ⟨p1, p2⟩ := List.mem_filter.mp hp
    have e : p.1 = s := e
    exact ⟨p, p1, e, by rw [← e]; exact of_decide_eq_true p2⟩
theorem forced_up (g : Good b o) {k s : Nat} {y : Bool} (h : (fbL b L T G o)[k]? = some (some s)) (hy : o[s]? = some y) : (planB (msL b) (bump (leastP b L T G o) y (cn y (o.take s)) 1) && folB b L T G (bump (leastP b L T G o) y (cn y (o.take s)) 1) o) = false := by
  rw [Bool.eq_false_iff]
  intro hh
  obtain ⟨hk, p, hp, e1, e2⟩ := fb_spec g h
  obtain ⟨l1, l2⟩ := least_len (L := L) (T := T) (G := G) g
  obtain ⟨b1, b2⟩ := bump_len (leastP b L T G o) y (cn y (o.take s)) 1
  have hS := (sol_iff g (b1.trans l1) (b2.trans l2)).mp hh
  have hlt := frcs_lt g hk hp
  rw [e1] at hlt
  have hsl : (sideL (leastP b L T G o) y).length = b.2.length := by cases y <;> assumption
  have hj : cn y (o.take s) < (sideL (leastP b L T G o) y).length := by rw [hsl, ← g.cn y]; exact cn_lt hy
  have ek : o[k]? = some o[k] := List.getElem?_eq_getElem hk
  have := (hS k hk).2 p hp
  rw [e1, bump_mom y _ 1 hj hy, if_pos ⟨rfl, rfl⟩, bump_mom y _ 1 hj ek, if_neg, least_mom g (by omega), least_mom g hk] at this
  · omega
  · rintro ⟨z1, z2⟩
    have := cn_mono y o (show s + 1 ≤ k by omega)
    rw [cn_at hy] at this
    omega
theorem forced_lt (g : Good b o) {k s : Nat} (h : (fbL b L T G o)[k]? = some (some s)) : s < o.length := by
  obtain ⟨hk, p, hp, e1, _⟩ := fb_spec g h
  have := frcs_lt g hk hp
  omega
theorem not_less (g : Good b o) {m : List Int} (h : SolK b L T G o o.length m) (x : Bool) : notLess (sideL (splitM o m) x) (sideL (leastP b L T G o) x) = true := by
  unfold notLess
  rw [List.all_eq_true]
  intro i hi
  have hi := List.mem_range.mp hi
  have hl : (sideL (splitM o m) x).length = b.2.length := by
    obtain ⟨h1, h2⟩ := split_len g h.1
    cases x <;> assumption
  have hq : i + 1 ≤ cn x o := by rw [g.cn]; omega
  obtain ⟨q1, q2⟩ := place_lt (show 1 ≤ i + 1 by omega) hq
  have := least_le g (sol_split g h) _ q1
  rw [← least_mom g q1, mom_place (by omega) hq, mom_place (by omega) hq, Nat.add_sub_cancel] at this
  simp only [Bool.not_eq_true', decide_eq_false_iff_not]
  omega
theorem safe_of (h : folB b L T G P o = true) : ∀ c ∈ badC (prL b), (!llB L T G P c && !tlB L T G P c) = false := fun c hc => by
  unfold folB at h
  have := List.all_eq_true.mp h c hc
  cases hlf : lfB o c with
  | true => rw [hlf, if_pos rfl] at this; rw [this]; rfl
  | false => rw [hlf, if_neg (by decide)] at this; rw [this]; simp
end
end LK
/-! text M5 -/
namespace LK
open PySem PySem.Spec PyProof.Rows L2
section
variable {b : Bk} {L T G : Pr2} {P : Pln} {o : Ord}
/-! ### the order that is found is good -/
theorem gro_take (pos : Cel → Bool) : ∀ {n k : Nat}, k ≤ n → (gro pos n).take k = gro pos k
  | 0, k, h => by
    have : k = 0 := by omega
    subst this
    rfl
  | n + 1, k, h => by
    rcases Nat.lt_or_ge k (n + 1) with z | z
    · show (gro pos n ++ [_]).take k = _
      rw [List.take_append_of_le_length (by rw [gro_len]; omega)]
      exact gro_take pos (by omega)
    · have : k = n + 1 := by omega
      subst this
      rw [List.take_of_length_le (by rw [gro_len]; omega)]
theorem wpos_iff {c : Cel} : wpos b L T G P c = true ↔ posW (barL L T G P b.2.length (badC (prL b))) b.2.length c := by
  unfold wpos posW
  rw [Bool.and_eq_true, decide_eq_true_eq, decide_eq_true_eq]
  exact ⟨fun h => ⟨h.1.1, h.1.2, h.2⟩, fun h => ⟨⟨h.1, h.2.1⟩, h.2.2⟩⟩
theorem gro_pos (h0 : posW (barL L T G P b.2.length (badC (prL b))) b.2.length (0, 0)) : ∀ k, k ≤ 2 * b.2.length → posW (barL L T G P b.2.length (badC (prL b))) b.2.length (groC (wpos b L T G P) k)
  | 0, _ => h0
  | k + 1, h => by
    have ih := gro_pos h0 k (by omega)
    have hs := groC_sum (wpos b L T G P) k
    rw [groC_succ]
    cases hp : wpos b L T G P (movC (groC (wpos b L T G P) k) false) with
    | true => exact wpos_iff.mp hp
    | false =>
      rcases posW_next ih (by omega) with z | z
      · rw [wpos_iff.mpr z] at hp
        cases hp
      · exact z
theorem excl (h1 : P.1.length = b.2.length) (h2 : P.2.length = b.2.length) (hp : planB (msL b) P = true) (hL : L.1 ≤ L.2) (hT : T.1 ≤ T.2) (hG : G.1 ≤ G.2) {c : Cel} (ht : tlB L T G P c = true) : llB L T G P c = false := by
  cases hl : llB L T G P c with
  | false => rfl
  | true =>
    exfalso
    unfold planB at hp
    rw [Bool.and_eq_true, sent_iff, sent_iff] at hp
    obtain ⟨s1, s2⟩ := hp
    unfold llB at hl
    unfold tlB at ht
    rw [Bool.and_eq_true, Bool.not_eq_true', Bool.or_eq_false_iff, decide_eq_false_iff_not, decide_eq_false_iff_not, decide_eq_true_eq] at hl ht
    obtain ⟨⟨a1, a2⟩, a3⟩ := hl
    obtain ⟨⟨b1, b2⟩, b3⟩ := ht
    have u1 := s1.le (show c.1 - 1 ≤ c.1 by omega) (by omega)
    have u2 := s2.le (show c.2 - 1 ≤ c.2 by omega) (by omega)
    omega
theorem free_path (g : Good b o) (h1 : P.1.length = b.2.length) (h2 : P.2.length = b.2.length) (hp : planB (msL b) P = true) (hf : folB b L T G P o = true) (hL : L.1 ≤ L.2) (hT : T.1 ≤ T.2) (hG : G.1 ≤ G.2) : ∀ k ≤ o.length, barL L T G P b.2.length (badC (prL b)) (celAt o k).1 (celAt o k).2 = false := by
  intro k hk
  unfold barL
  rw [Bool.eq_false_iff]
  intro hh
  obtain ⟨d, hd, hin⟩ := List.any_eq_true.mp hh
  unfold folB at hf
  have hfd := List.all_eq_true.mp hf d hd
  have hdl := bad_le hd
  unfold inBar at hin
  cases hlf : lfB o d with
  | true =>
    rw [hlf, if_pos rfl] at hfd
    rw [hfd, if_pos rfl, decide_eq_true_eq] at hin
    obtain ⟨q1, q2, _⟩ := hin
    obtain ⟨l0, l1⟩ := lf_iff.mp hlf
    have hq : d.2 ≤ cn true o := by rw [g.ct]; exact hdl.2
    have l2 := place_cn (show 1 ≤ d.2 from l0) hq
    have q2 : d.2 ≤ cn true (o.take k) := q2
    have q1 : cn false (o.take k) ≤ d.1 := q1
    have : place o true d.2 < k := lt_of_cn (x := true) (o := o) (by omega)
    have := cn_mono false o (Nat.le_of_lt this)
    omega
  | false =>
    rw [hlf, if_neg (by decide)] at hfd
    rw [excl h1 h2 hp hL hT hG hfd, if_neg (by decide), decide_eq_true_eq] at hin
    obtain ⟨q1, _, q2⟩ := hin
    obtain ⟨l1, l2, l3, l4⟩ := tf_pos g hd hlf
    have q1 : d.1 ≤ cn false (o.take k) := q1
    have q2 : cn true (o.take k) ≤ d.2 := q2
    have r1 := place_cn (o := o) (b := false) l1 (by rw [g.cl]; exact l2)
    have : place o false d.1 < k := lt_of_cn (x := false) (o := o) (by omega)
    obtain ⟨k1, k2⟩ := place_lt (o := o) (b := true) (k := d.2 + 1) (by omega) (by rw [g.ct]; exact l3)
    have k3 := place_cn (o := o) (b := true) (k := d.2 + 1) (by omega) (by rw [g.ct]; exact l3)
    have k4 := cn_at k2
    have := cn_mono true o (show place o true (d.2 + 1) + 1 ≤ k by omega)
    omega
theorem found_good (g : Good b o) (h1 : P.1.length = b.2.length) (h2 : P.2.length = b.2.length) (hp : planB (msL b) P = true) (hf : folB b L T G P o = true) (hL : L.1 ≤ L.2) (hT : T.1 ≤ T.2) (hG : G.1 ≤ G.2) : Good b (foundO b L T G P) := by
  have h0 := pos_of_good g (free_path g h1 h2 hp hf hL hT hG) 0 (Nat.zero_le _)
  have hlen : (foundO b L T G P).length = 2 * b.2.length := gro_len _ _
  refine good_of_pos (bar := barL L T G P b.2.length (badC (prL b))) hlen (fun c hc => ?_) fun k hk => ?_
  · unfold barL
    refine List.any_eq_true.mpr ⟨c, hc, ?_⟩
    have := bad_le hc
    unfold inBar
    split
    · exact decide_eq_true ⟨Nat.le_refl _, Nat.le_refl _, this.2⟩
    · exact decide_eq_true ⟨Nat.le_refl _, this.1, Nat.le_refl _⟩
  · have e : celAt (foundO b L T G P) k = groC (wpos b L T G P) k := by
      unfold celAt foundO
      rw [gro_take _ (by omega)]
      rfl
    rw [e]
    exact gro_pos h0 k (by omega)
/-! ### moved books -/
variable {k : Int}
theorem mv_pr (b : Bk) (k : Int) : prL (mvB b k) = prL b := by
  unfold prL mvB
  rw [List.map_map]
  rfl
theorem mv_ms (b : Bk) (k : Int) : msL (mvB b k) = (msL b).map (· + k) := by
  unfold msL mvB
  rw [List.map_map, List.map_map]
  rfl
theorem mv_n (b : Bk) (k : Int) : (mvB b k).2.length = b.2.length := by unfold mvB; rw [List.length_map]
theorem Good.mv (g : Good b o) (k : Int) : Good (mvB b k) o := ⟨by rw [mv_n]; exact g.len, by rw [mv_n]; exact g.cl, by rw [mv_n]; exact g.ct, by rw [mv_pr]; exact g.av⟩
theorem mv_frcs (b : Bk) (k : Int) : frcs (mvB b k) L T G o = frcs b L T G o := by unfold frcs; rw [mv_pr]
theorem mv_own (g : Good b o) {i : Nat} (hi : i < o.length) : (ownL (msL (mvB b k)) o).getD i 0 = (ownL (msL b) o).getD i 0 + k := by
  have ei : o[i]? = some o[i] := List.getElem?_eq_getElem hi
  have hc := cn_lt ei
  rw [g.cn] at hc
  rw [own_at ei, own_at ei, mv_ms, List.getD_eq_getElem?_getD, List.getElem?_map, List.getD_eq_getElem?_getD, List.getElem?_eq_getElem (by rw [msL_len]; exact hc)]
  rfl
theorem maxL_add (k : Int) : ∀ (l : List Int) (x : Int), maxL (x + k) (l.map (· + k)) = maxL x l + k
  | [], x => rfl
  | a :: l, x => by
    show maxL (max (x + k) (a + k)) (l.map (· + k)) = maxL (max x a) l + k
    rw [show max (x + k) (a + k) = max x a + k by omega]
    exact maxL_add k l _
theorem mv_lm (g : Good b o) : ∀ i, i < o.length → (lmL (mvB b k) L T G o).getD i 0 = (lmL b L T G o).getD i 0 + k := by
  intro i
  induction i using Nat.strongRecOn with
  | ind i ih =>
    intro hi
    rw [lmL_get (g.mv k) hi, lmL_get g hi, mv_own g hi, mv_frcs, ← maxL_add, List.map_map]
    congr 1
    refine List.map_congr_left fun p hp => ?_
    have := frcs_lt g hi hp
    rw [ih p.1 this (by omega)]
    show _ + k + p.2 = _ + p.2 + k
    omega
theorem mv_lmL (g : Good b o) : lmL (mvB b k) L T G o = (lmL b L T G o).map (· + k) := by
  have h1 := lmL_len (mvB b k) L T G o
  have h2 := lmL_len b L T G o
  refine List.ext_getElem? fun i => ?_
  rcases Nat.lt_or_ge i o.length with z | z
  · have := mv_lm (L := L) (T := T) (G := G) (k := k) g i z
    rw [List.getD_eq_getElem?_getD, List.getD_eq_getElem?_getD, List.getElem?_eq_getElem (by omega), List.getElem?_eq_getElem (by omega)] at this
    rw [List.getElem?_map, List.getElem?_eq_getElem (by omega), List.getElem?_eq_getElem (by omega)]
    exact congrArg some this
  · rw [List.getElem?_eq_none (by omega), List.getElem?_eq_none (by rw [List.length_map]; omega)]
theorem side_map (o : Ord) (m : List Int) (k : Int) (x : Bool) : side o (m.map (· + k)) x = (side o m x).map (· + k) := by
  unfold side
  rw [List.zip_map_right, List.filter_map, List.map_map, List.map_map]
  rfl
theorem mv_least (g : Good b o) : leastP (mvB b k) L T G o = ((leastP b L T G o).1.map (· + k), (leastP b L T G o).2.map (· + k)) := by
  unfold leastP splitM
  rw [mv_lmL g, side_map, side_map]
theorem mv_fb (g : Good b o) : fbL (mvB b k) L T G o = fbL b L T G o := by
  unfold fbL
  refine List.map_congr_left fun i hi => ?_
  have hi := List.mem_range.mp hi
  unfold fbAt
  rw [mv_lm g i hi, mv_own g hi, mv_frcs]
  have e : (((frcs b L T G o).getD i []).filter fun p => decide ((lmL (mvB b k) L T G o).getD p.1 0 + p.2 = (lmL b L T G o).getD i 0 + k)) = ((frcs b L T G o).getD i []).filter fun p => decide ((lmL b L T G o).getD p.1 0 + p.2 = (lmL b L T G o).getD i 0) := by
    refine List.filter_congr fun p hp => ?_
    have := frcs_lt g hi hp
    rw [mv_lm g p.1 (by omega)]
    exact decide_eq_decide.mpr (by omega)
  rw [e]
  by_cases h : (lmL b L T G o).getD i 0 = (ownL (msL b) o).getD i 0
  · rw [if_pos h, if_pos (by omega)]
  · rw [if_neg h, if_neg (by omega)]
/-- the plan, later as a whole, still follows -/
theorem later_follows (g : Good b o) (hk : 0 < k) : (planB (msL b) (leastP (mvB b k) L T G o) && folB b L T G (leastP (mvB b k) L T G o) o) = true := by
  obtain ⟨l1, l2⟩ := least_len (L := L) (T := T) (G := G) (g.mv k)
  rw [mv_n] at l1 l2
  refine (sol_iff g l1 l2).mpr fun i hi => ?_
  have hm := sol_split (g.mv k) (least_solK (L := L) (T := T) (G := G) (g.mv k)) i hi
  rw [mv_frcs, mv_own g hi] at hm
  refine ⟨?_, hm.2⟩
  have h1 := hm.1
  have e : mom (splitM o (lmL (mvB b k) L T G o)) o i = mom (leastP (mvB b k) L T G o) o i := rfl
  rw [e] at h1
  omega
end
end LK
/-! text W16 -/
namespace LK
open PySem PySem.Spec PyProof.Rows L2
section
variable {P : Program} {w : World} {K : PySem.W.Frag} {mg : Str → Option Value} {base : Heap} {C : Addr}
theorem js_run {t : TS} {Ps : List Sl} {N : NP} {P1 : DP} {S0 : AS} {B : Option Addr} {H0 G : Hp} {D : Ends} {σ : L2.St} {H : Hp} (a : At S0 B H0 G Ps σ H) (h : JS t Ps N P1) (n : ∀ Qs σ' H', N Qs → At S0 B H0 G Qs σ' H' → D.nx σ' H') (r : ∀ v H', Fin S0 B H0 P1 v H' → D.rt v H') : t D σ H := h S0 B H0 G D σ H a n r
theorem js_ps {t : TS} {Ps Ps' : List Sl} {N : NP} {P1 : DP} (e : Ps = Ps') (h : JS t Ps' N P1) : JS t Ps N P1 := e ▸ h
theorem eqvAll_self : ∀ {ds : List PyData}, (∀ d ∈ ds, PyData.eqv d d = true) → PyData.eqvAll ds ds = true
  | [], _ => rfl
  | d :: ds, h => by
    show (PyData.eqv d d && PyData.eqvAll ds ds) = true
    rw [h d List.mem_cons_self, eqvAll_self fun x hx => h x (List.mem_cons_of_mem _ hx)]
    rfl
theorem eqv_ints (l : List Int) : PyData.eqv (intsD l) (intsD l) = true := eqvAll_self fun d hd => by
  obtain ⟨i, _, rfl⟩ := List.mem_map.mp hd
  show (i == i) = true
  simp
theorem lay_ints (l : List Int) : (intsD l).canLay0 = true ∧ (intsD l).depth ≤ 60 := by
  obtain ⟨h1, h2⟩ := lay_all (ds := l.map PyData.int) fun d hd => by
    obtain ⟨i, _, rfl⟩ := List.mem_map.mp hd
    exact ⟨rfl, by show 0 ≤ 60; decide⟩
  refine ⟨h1, ?_⟩
  have h3 : PyData.depthAll (l.map PyData.int) = 0 := by
    clear h1 h2
    induction l with
    | nil => rfl
    | cons a l ih =>
      show max 0 (PyData.depthAll (l.map PyData.int)) = 0
      rw [ih]
      rfl
  show PyData.depthAll (l.map PyData.int) + 1 ≤ 60
  rw [h3]
  decide
theorem dep_ints (l : List Int) : (intsD l).depth = 1 := by
  show PyData.depthAll (l.map PyData.int) + 1 = 1
  have : PyData.depthAll (l.map PyData.int) = 0 := by
    induction l with
    | nil => rfl
    | cons a l ih =>
      show max 0 (PyData.depthAll (l.map PyData.int)) = 0
      rw [ih]
      rfl
  rw [this]
theorem shp_pln (P : Pln) : SeqAt.shaped (plnD P) = true := by
  have h1 := (lay_ints P.1).1
  have h2 := (lay_ints P.2).1
  have d1 := dep_ints P.1
  have d2 := dep_ints P.2
  show ((((intsD P.1).canLay0 && ((intsD P.2).canLay0 && true))) && decide (max (intsD P.1).depth (max (intsD P.2).depth 0) + 1 ≤ 64)) = true
  rw [h1, h2, d1, d2]
  rfl
theorem eqv_pln (P : Pln) : PyData.eqv (plnD P) (plnD P) = true := by
  show (PyData.eqv (intsD P.1) (intsD P.1) && (PyData.eqv (intsD P.2) (intsD P.2) && true)) = true
  rw [eqv_ints, eqv_ints]
  rfl
theorem shp_opt (l : List (Option Nat)) : SeqAt.shaped (.list (l.map optD)) = true := shp_list fun d hd => by
  obtain ⟨z, _, rfl⟩ := List.mem_map.mp hd
  cases z
  · exact ⟨rfl, by show 0 ≤ 60; decide⟩
  · exact ⟨rfl, by show 0 ≤ 60; decide⟩
theorem eqv_opt (l : List (Option Nat)) : PyData.eqv (.list (l.map optD)) (.list (l.map optD)) = true := eqvAll_self fun d hd => by
  obtain ⟨z, _, rfl⟩ := List.mem_map.mp hd
  cases z with
  | none => rfl
  | some n =>
    show ((n : Int) == (n : Int)) = true
    simp
/-- what the law's def gets and gives -/
def spLaw (K : PySem.W.Frag) : Sp := fun vs H Q _ => ∃ (a : Addr) (ns : List Int), vs = [.ref a] ∧ ns.length ≤ 63 ∧ SqL K H a (ns.map V.int) ∧ ∀ H', Q (.bl true) H'
theorem ok_law {f : Addr} {fd : FuncData} (F : FunD K "law" "law" (defArgs (topS 65)) (defBody (topS 65)) (defScope (topS 65)) [] [] f fd) (T : Top mg) (c_law_bag : C8.Cal P w K mg base 1 "_law_bag" (sp_law_bag K) []) (c_law_take : C8.Cal P w K mg base 1 "_law_take" sp_law_take []) (c_law_one : C8.Cal P w K mg base 2 "_law_one" sp_law_one []) (c_law_book : C8.Cal P w K mg base 3 "_law_book" sp_law_book []) (c_law_board : C8.Cal P w K mg base 3 "_law_board" sp_law_board []) (c_law_made : C8.Cal P w K mg base 6 "_law_made" (sp_law_made C) []) (c_law_drawn_order : C8.Cal P w K mg base 3 "_law_drawn_order" sp_law_drawn_order []) (c_least_plan : C8.Cal P w K mg base 6 "least_plan" (sp_least_plan C) []) (c_is_plan : C8.Cal P w K mg base 4 "is_plan" (sp_is_plan C) []) (c_is_safe : C8.Cal P w K mg base 4 "is_safe" (sp_is_safe C) []) (c_follows : C8.Cal P w K mg base 6 "follows" (sp_follows C) []) (c_law_no_less : C8.Cal P w K mg base 7 "_law_no_less" (sp_law_no_less C) []) (c_is_good : C8.Cal P w K mg base 4 "is_good" (sp_is_good C) []) (c_order_followed : C8.Cal P w K mg base 4 "order_followed" (sp_order_followed C) []) (c_law_later : C8.Cal P w K mg base 3 "_law_later" sp_law_later []) (c_law_all_not_less : C8.Cal P w K mg base 1 "_law_all_not_less" sp_law_all_not_less []) (c_law_forced_go_up : C8.Cal P w K mg base 7 "_law_forced_go_up" (sp_law_forced_go_up C) []) (m_moved : C8.Met P w K mg base 6 C "moved" (spm_moved C) []) (c_forced_by : C8.Cal P w K mg base 6 "forced_by" (sp_forced_by C) []) : FnOk P w K mg base C8.CX0 8 f fd ["_law_script"] (spLaw K) := by
  refine F.ok (N := ["_law_script", "_law_bag_here", "_law_turn", "_law_drawn", "_law_label", "_law_till", "_law_gap", "_law_book_here", "_law_order", "_law_plan", "_law_later_here", "_law_by", "_law_moved", "_law_one_here"]) (k := 7) (C8.fnScope_by (by decide +kernel)) (fun vs H Q E h => ?_) (fun cdv A outer s H vs Q E hr hs => ?_)
  · obtain ⟨a, ns, rfl, _⟩ := h
    rfl
  · obtain ⟨a, ns, rfl, hl, hsq, q⟩ := hs
    have nd : (["_law_script", "_law_bag_here", "_law_turn", "_law_drawn", "_law_label", "_law_till", "_law_gap", "_law_book_here", "_law_order", "_law_plan", "_law_later_here", "_law_by", "_law_moved", "_law_one_here"] : List Str).Nodup := by decide +kernel
    have hr : Room 7 (XX P w K mg base ["_law_script", "_law_bag_here", "_law_turn", "_law_drawn", "_law_label", "_law_till", "_law_gap", "_law_book_here", "_law_order", "_law_plan", "_law_later_here", "_law_by", "_law_moved", "_law_one_here"] "law" (topS 65) f cdv A outer s H E).A := hr
    have hu : (XX P w K mg base ["_law_script", "_law_bag_here", "_law_turn", "_law_drawn", "_law_label", "_law_till", "_law_gap", "_law_book_here", "_law_order", "_law_plan", "_law_later_here", "_law_by", "_law_moved", "_law_one_here"] "law" (topS 65) f cdv A outer s H E).A.units + 1 < cLine := by have := hr.un; omega
    suffices h : ∃ t, PSs (XX P w K mg base ["_law_script", "_law_bag_here", "_law_turn", "_law_drawn", "_law_label", "_law_till", "_law_gap", "_law_book_here", "_law_order", "_law_plan", "_law_later_here", "_law_by", "_law_moved", "_law_one_here"] "law" (topS 65) f cdv A outer s H E) (defBody (topS 65)) t ∧ t { nx := fun _ H' => Q .non H', rt := Q } (start ["_law_script", "_law_bag_here", "_law_turn", "_law_drawn", "_law_label", "_law_till", "_law_gap", "_law_book_here", "_law_order", "_law_plan", "_law_later_here", "_law_by", "_law_moved", "_law_one_here"] [.ref a]) H by
      obtain ⟨t, h1, h2⟩ := h
      exact ⟨t, h1.nox, h2⟩
    refine ⟨_, (pss_cons (ps_set (i := 1) nd rfl (.inl rfl) (C8.pe_c c_law_bag hr (by decide) (by rfl) (pa_cons (pv 0) pa_nil))) (pss_cons (ps_for PassesOwn.never rfl (pi_range1 (by rfl) T.range_ (pa_cons pe_int pa_nil)) (pg_name (i := 2) nd rfl (.inl rfl)) (pss_cons (ps_asg (pe_tup (pa_cons (C8.pe_c c_law_book hr (by decide) (by rfl) (pa_cons (pv 1) (pa_cons pe_int pa_nil))) (pa_cons (C8.pe_c c_law_board hr (by decide) (by rfl) (pa_cons (pv 1) pa_nil)) (pa_cons (C8.pe_c c_law_board hr (by decide) (by rfl) (pa_cons (pv 1) pa_nil)) (pa_cons (C8.pe_c c_law_board hr (by decide) (by rfl) (pa_cons (pv 1) pa_nil)) pa_nil))))) (pg_tup (n := 4) (by rfl) (pgs_cons (pg_name (i := 3) nd rfl (.inl rfl)) (pgs_cons (pg_name (i := 4) nd rfl (.inl rfl)) (pgs_cons (pg_name (i := 5) nd rfl (.inl rfl)) (pgs_cons (pg_name (i := 6) nd rfl (.inl rfl)) pgs_nil)))))) (pss_cons (ps_par (by rfl) nd (i := 7) (j := 8) rfl rfl (by decide) rfl rfl (pa_cons (C8.pe_c c_law_made hr (by decide) (by rfl) (pa_cons (pv 1) (pa_cons (pv 3) pa_nil))) (pa_cons (C8.pe_c c_law_drawn_order hr (by decide) (by rfl) (pa_cons (pv 1) (pa_cons (pv 3) pa_nil))) pa_nil)) (by rfl)) (pss_cons (ps_set (i := 9) nd rfl (.inl rfl) (C8.pe_c c_least_plan hr (by decide) (by rfl) (pa_cons (pv 7) (pa_cons (pv 4) (pa_cons (pv 5) (pa_cons (pv 6) (pa_cons (pv 8) pa_nil))))))) (pss_cons (ps_if (PW.pt (pw_or (pt_not (pt_val (C8.pe_c c_is_plan hr (by decide) (by rfl) (pa_cons (pv 7) (pa_cons (pv 9) pa_nil))))) (pw_or1 (pt_not (pt_val (C8.pe_c c_is_safe hr (by decide) (by rfl) (pa_cons (pv 7) (pa_cons (pv 4) (pa_cons (pv 5) (pa_cons (pv 6) (pa_cons (pv 9) pa_nil))))))))))) (pss_one (ps_ret pe_bl)) pss_nil) (pss_cons (ps_if (pt_not (pt_val (C8.pe_c c_follows hr (by decide) (by rfl) (pa_cons (pv 7) (pa_cons (pv 4) (pa_cons (pv 5) (pa_cons (pv 6) (pa_cons (pv 9) (pa_cons (pv 8) pa_nil))))))))) (pss_one (ps_ret pe_bl)) pss_nil) (pss_cons (ps_if (pt_not (pt_val (C8.pe_c c_law_no_less hr (by decide) (by rfl) (pa_cons (pv 7) (pa_cons (pv 4) (pa_cons (pv 5) (pa_cons (pv 6) (pa_cons (pv 9) (pa_cons (pv 8) pa_nil))))))))) (pss_one (ps_ret pe_bl)) pss_nil) (pss_cons (ps_if (pt_not (pt_val (C8.pe_c c_is_good hr (by decide) (by rfl) (pa_cons (pv 7) (pa_cons (C8.pe_c c_order_followed hr (by decide) (by rfl) (pa_cons (pv 7) (pa_cons (pv 4) (pa_cons (pv 5) (pa_cons (pv 6) (pa_cons (pv 9) pa_nil)))))) pa_nil))))) (pss_one (ps_ret pe_bl)) pss_nil) (pss_cons (ps_set (i := 10) nd rfl (.inl rfl) (C8.pe_c c_law_later hr (by decide) (by rfl) (pa_cons (pv 1) (pa_cons (pv 3) (pa_cons (pv 4) (pa_cons (pv 5) (pa_cons (pv 6) (pa_cons (pv 8) pa_nil)))))))) (pss_cons (ps_if (PW.pt (pw_or (pt_not (pt_val (C8.pe_c c_follows hr (by decide) (by rfl) (pa_cons (pv 7) (pa_cons (pv 4) (pa_cons (pv 5) (pa_cons (pv 6) (pa_cons (pv 10) (pa_cons (pv 8) pa_nil))))))))) (pw_or1 (pt_not (pt_val (C8.pe_c c_is_safe hr (by decide) (by rfl) (pa_cons (pv 7) (pa_cons (pv 4) (pa_cons (pv 5) (pa_cons (pv 6) (pa_cons (pv 10) pa_nil))))))))))) (pss_one (ps_ret pe_bl)) pss_nil) (pss_cons (ps_if (PW.pt (pw_or (pt_not (pt_val (C8.pe_c c_law_all_not_less hr (by decide) (by rfl) (pa_cons (pe_ix ix_seq (pv 10) pe_int (fun _ _ => rfl)) (pa_cons (pe_ix ix_seq (pv 9) pe_int (fun _ _ => rfl)) pa_nil))))) (pw_or1 (pt_not (pt_val (C8.pe_c c_law_all_not_less hr (by decide) (by rfl) (pa_cons (pe_ix ix_seq (pv 10) pe_int (fun _ _ => rfl)) (pa_cons (pe_ix ix_seq (pv 9) pe_int (fun _ _ => rfl)) pa_nil)))))))) (pss_one (ps_ret pe_bl)) pss_nil) (pss_cons (ps_if (pt_not (pt_val (C8.pe_c c_law_forced_go_up hr (by decide) (by rfl) (pa_cons (pv 7) (pa_cons (pv 4) (pa_cons (pv 5) (pa_cons (pv 6) (pa_cons (pv 9) (pa_cons (pv 8) pa_nil))))))))) (pss_one (ps_ret pe_bl)) pss_nil) (pss_cons (ps_set (i := 11) nd rfl (.inr rfl) (C8.pe_c c_law_one hr (by decide) (by rfl) (pa_cons (pv 1) (pa_cons (pe_lst (pa_cons (pe_op op_add pe_int (C8.pe_c c_law_take hr (by decide) (by rfl) (pa_cons (pv 1) (pa_cons pe_int pa_nil)))) (pa_cons (pe_un un_neg pe_int) (pa_cons (pe_op op_pow pe_int pe_int) pa_nil)))) pa_nil)))) (pss_cons (ps_set (i := 12) nd rfl (.inl rfl) (C8.pe_c c_least_plan hr (by decide) (by rfl) (pa_cons (C8.pe_mt m_moved hr (by decide) (pv 7) (pa_cons (pv 11) pa_nil)) (pa_cons (pv 4) (pa_cons (pv 5) (pa_cons (pv 6) (pa_cons (pv 8) pa_nil))))))) (pss_cons (ps_if (pt_cmpR (op_neD hr.units) (pv 12) (pe_tup (pa_cons (pe_lc (own := [("_law_one_here", 13)]) rfl nd (pi_list (pe_ix ix_seq (pv 9) pe_int (fun _ _ => rfl))) (blkOk_by (N := ["_law_script", "_law_bag_here", "_law_turn", "_law_drawn", "_law_label", "_law_till", "_law_gap", "_law_book_here", "_law_order", "_law_plan", "_law_later_here", "_law_by", "_law_moved", "_law_one_here"]) (sc := defScope (topS 65)) (by decide +kernel)) (fun _ _ _ _ _ => (pg_name (i := 13) nd rfl (.inl rfl))) (fun _ _ _ _ _ => pts_nil) (fun _ _ _ _ _ => (pe_op op_add (pv 13) (pv 11)))) (pa_cons (pe_lc (own := [("_law_one_here", 13)]) rfl nd (pi_list (pe_ix ix_seq (pv 9) pe_int (fun _ _ => rfl))) (blkOk_by (N := ["_law_script", "_law_bag_here", "_law_turn", "_law_drawn", "_law_label", "_law_till", "_law_gap", "_law_book_here", "_law_order", "_law_plan", "_law_later_here", "_law_by", "_law_moved", "_law_one_here"]) (sc := defScope (topS 65)) (by decide +kernel)) (fun _ _ _ _ _ => (pg_name (i := 13) nd rfl (.inl rfl))) (fun _ _ _ _ _ => pts_nil) (fun _ _ _ _ _ => (pe_op op_add (pv 13) (pv 11)))) pa_nil))) (nomark _)) (pss_one (ps_ret pe_bl)) pss_nil) (pss_cons (ps_if (pt_cmpR (op_neD hr.units) (C8.pe_c c_forced_by hr (by decide) (by rfl) (pa_cons (C8.pe_mt m_moved hr (by decide) (pv 7) (pa_cons (pv 11) pa_nil)) (pa_cons (pv 4) (pa_cons (pv 5) (pa_cons (pv 6) (pa_cons (pv 8) pa_nil)))))) (C8.pe_c c_forced_by hr (by decide) (by rfl) (pa_cons (pv 7) (pa_cons (pv 4) (pa_cons (pv 5) (pa_cons (pv 6) (pa_cons (pv 8) pa_nil)))))) (nomark _)) (pss_one (ps_ret pe_bl)) pss_nil) (pss_cons (ps_if (pt_not (pt_val (C8.pe_c c_follows hr (by decide) (by rfl) (pa_cons (C8.pe_mt m_moved hr (by decide) (pv 7) (pa_cons (pv 11) pa_nil)) (pa_cons (pv 4) (pa_cons (pv 5) (pa_cons (pv 6) (pa_cons (pv 12) (pa_cons (pv 8) pa_nil))))))))) (pss_one (ps_ret pe_bl)) pss_nil) (pss_one (ps_if (PW.pt (pw_and (pt_cmpR op_gt (pv 11) pe_int (nomark _)) (pw_and1 (pt_not (pt_val (C8.pe_c c_follows hr (by decide) (by rfl) (pa_cons (pv 7) (pa_cons (pv 4) (pa_cons (pv 5) (pa_cons (pv 6) (pa_cons (pv 12) (pa_cons (pv 8) pa_nil)))))))))))) (pss_one (ps_ret pe_bl)) pss_nil))))))))))))))))))) (pss_one (ps_ret pe_bl)))), ?_⟩
    have e0 : sub H (fun _ => False) = H := by
      funext x
      exact sub_in fun z => z
    have c0 : Cond (fun _ => False) none H := ⟨fun _ h => h.elim, fun _ h => (nomatch h)⟩
    have sl0 : Slots (fun _ => False) none H (start ["_law_script", "_law_bag_here", "_law_turn", "_law_drawn", "_law_label", "_law_till", "_law_gap", "_law_book_here", "_law_order", "_law_plan", "_law_later_here", "_law_by", "_law_moved", "_law_one_here"] [.ref a]) (slotsOf [isSq K ns] 13) := slots_start (.cons ⟨a, rfl, by rw [e0]; exact hsq⟩ .nil) rfl
    have je : JE (tCall (sp_law_bag K) [] C8.E0 (tCons (tVar 0) tNil)) (slotsOf [isSq K ns] 13) (exP (fun ns : List Int => ∀ n ∈ ns, 0 ≤ n) fun ns => da (bagD ns)) := j_call ns (ja_cons (j_var rfl) ja_nil) (by show ns.length ≤ 1000; omega)
    refine je _ none H _ c0 sl0 _ fun v H1 r1 c1 ⟨ms, hms, pv⟩ => ?_
    dsimp only [gName]
    obtain ⟨b, xs, rfl, hb0, hx⟩ := Da.list_inv pv
    have e1 : sub H1 (fun _ => False) = H1 := by
      funext x
      exact sub_in fun z => z
    rw [e1] at hb0 hx
    obtain ⟨cc, hxs, hcc⟩ : ∃ cc, xs = [.int 0, .int 1234567891, .int 0, .ref cc] ∧ H1 cc = some (.lst (ms.map V.int)) := by
      cases hx with
      | cons g1 hx =>
        cases hx with
        | cons g2 hx =>
          cases hx with
          | cons g3 hx =>
            cases hx with
            | cons g4 hx =>
              cases hx
              cases g1
              cases g2
              cases g3
              obtain ⟨cc, ys, rfl, k1, k2⟩ := Da.list_inv g4
              rw [k2.ints] at k1
              exact ⟨cc, rfl, k1⟩
    subst hxs
    have ncb : cc ≠ b := fun z => by
      rw [z, hb0] at hcc
      have hcc := Option.some.inj hcc
      injection hcc with hcc
      match ms, hcc with
      | [], hcc => cases hcc
      | [_], hcc => cases hcc
      | [_, _], hcc => cases hcc
      | [_, _, _], hcc => cases hcc
      | _ :: _ :: _ :: _ :: _, hcc => injection hcc with _ hcc; injection hcc with _ hcc; injection hcc with _ hcc; injection hcc with hcc _; cases hcc
    have cb : Cond (fun x => x = b) (some b) H1 := ⟨fun x hx => ⟨HO.lst [.int 0, .int 1234567891, .int 0, .ref cc], by rw [hx]; exact hb0⟩, fun b' hb' => by
      cases hb'
      exact ⟨rfl, 0, 1234567891, 0, cc, ms, hb0, by decide, by decide, by decide, by decide, ncb, hcc, hms⟩⟩
    let Ps0 : List Sl := [.no, .bag, .no, .no, .no, .no, .no, .no, .no, .no, .no, .no, .no, .no]
    have nown : ∀ (i : Nat) (s : Sl) (v : V) (x : Addr), Ps0[i]? = some s → ¬ owned s v x := fun i s v x h => by
      have := List.mem_of_getElem? h
      simp only [Ps0, List.mem_cons, List.not_mem_nil, or_false] at this
      rcases this with rfl | rfl | rfl | rfl | rfl | rfl | rfl | rfl | rfl | rfl | rfl | rfl | rfl | rfl <;> exact id
    have hat : At (fun x => x = b) (some b) H1 (sub H1 fun x => x = b) Ps0 ((start ["_law_script", "_law_bag_here", "_law_turn", "_law_drawn", "_law_label", "_law_till", "_law_gap", "_law_book_here", "_law_order", "_law_plan", "_law_later_here", "_law_by", "_law_moved", "_law_one_here"] [.ref a]).set 1 (some (.ref b))) H1 := ⟨fun x => x = b, fun _ z => z, fun b' hb' => by cases hb'; rfl, fun _ z => .inl z, cb, .refl _, ⟨rfl, fun i s hi => by
      match i, hi with
      | 0, hi => exact .inl (by cases hi; rfl)
      | 1, hi => exact .inr ⟨.ref b, rfl, by cases hi; exact ⟨b, rfl, rfl⟩⟩
      | i + 2, hi =>
        have := List.mem_of_getElem? hi
        left
        have hm : s ∈ ([.no, .no, .no, .no, .no, .no, .no, .no, .no, .no, .no, .no] : List Sl) := List.mem_of_getElem? (i := i) hi
        simp only [List.mem_cons, List.not_mem_nil, or_false, or_self] at hm
        exact hm⟩, fun i s v x h1 _ h3 => (nown i s v x h1 h3).elim, fun i j s t v w x _ h1 _ _ _ h5 => (nown i s v x h1 h5).elim, .refl _⟩
    refine js_run (P1 := dB true) (N := Nev) hat ?_ (fun Qs σ' H' z => z.elim) fun v H' f => by
      have p := f.p
      cases (show Da _ v (.bool true) from p)
      exact q H'
    refine js_then (js_forI (jw_rng1 (j := 3) (jd_cons j_int jd_nil) (by decide)) (fun _ => Ps0) (PsLe.refl _) fun i d hd => ⟨[2], [d], tg_name, ?_⟩) (js_ret j_bl)
    let brd : DP := exP (fun p : Pr2 => 0 ≤ p.1 ∧ p.1 ≤ p.2) fun p => da (p2D p)
    refine js_then (js_asgTN (is := [3, 4, 5, 6]) (ss := [.pl (exP (BkOk 7) fun b => da (bkT b)), .pl brd, .pl brd, .pl brd]) (n := 4) (jax_cons (jn_pl (jc_law_book 7 (n := 1) rfl (ja_cons j_int ja_nil) (by decide))) (jax_cons (jn_pl (jc_law_board () (n := 1) rfl ja_nil trivial)) (jax_cons (jn_pl (jc_law_board () (n := 1) rfl ja_nil trivial)) (jax_cons (jn_pl (jc_law_board () (n := 1) rfl ja_nil trivial)) jax_nil)))) (by decide) rfl rfl (by decide)) ?_
    refine js_open (n := 3) rfl fun bk hbk => js_open (n := 4) rfl fun L hL => js_open (n := 5) rfl fun T0 hT => js_open (n := 6) rfl fun G hG => ?_
    refine js_ps (Ps' := [.no, .bag, _, .pl (da (bkT bk)), .pl (da (p2D L)), .pl (da (p2D T0)), .pl (da (p2D G)), .no, .no, .no, .no, .no, .no, .no]) rfl ?_
    have hb : bk.2.length ≤ 7 := hbk.len
    refine js_then (js_par (P1 := isBk C bk) (P2 := exP (fun o : Ord => goodB bk o = true) fun o => dS (ordS o)) (ja_cons (jc_law_made bk (n := 1) rfl (ja_cons (j_var rfl) ja_nil) hbk) (ja_cons (jc_law_drawn_order bk (n := 1) rfl (ja_cons (j_var rfl) ja_nil) hb) ja_nil))) (js_open (n := 8) rfl fun o hgo => ?_)
    refine js_ps (Ps' := [.no, .bag, _, .pl (da (bkT bk)), .pl (da (p2D L)), .pl (da (p2D T0)), .pl (da (p2D G)), .pl (isBk C bk), .pl (dS (ordS o)), .no, .no, .no, .no, .no]) rfl ?_
    have hgo : goodB bk o = true := hgo
    have g : Good bk o := good_iff.mp hgo
    have ho : o.length ≤ 14 := by rw [g.len]; omega
    obtain ⟨l1, l2⟩ := least_len (L := L) (T := T0) (G := G) g
    have hok := least_ok (L := L) (T := T0) (G := G) g
    rw [Bool.and_eq_true] at hok
    obtain ⟨hpl, hfo⟩ := hok
    generalize hPeq : leastP bk L T0 G o = Q at l1 l2 hpl hfo
    refine js_then (js_asg (P1 := da (plnD Q)) ((jc_least_plan (bk, L, T0, G, o) (ja_cons (j_var rfl) (ja_cons (j_var rfl) (ja_cons (j_var rfl) (ja_cons (j_var rfl) (ja_cons (j_var rfl) ja_nil))))) ⟨hb, hgo⟩).eq (by rw [hPeq]))) ?_
    refine js_ps (Ps' := [.no, .bag, _, .pl (da (bkT bk)), .pl (da (p2D L)), .pl (da (p2D T0)), .pl (da (p2D G)), .pl (isBk C bk), .pl (dS (ordS o)), .pl (da (plnD Q)), .no, .no, .no, .no]) rfl ?_
    have pre5 : ∀ Q' : Pln, Q'.1.length = bk.2.length → Q'.2.length = bk.2.length → folB bk L T0 G Q' o = true → bk.2.length ≤ 7 ∧ Q'.1.length = bk.2.length ∧ Q'.2.length = bk.2.length ∧ ∀ c ∈ badC (prL bk), (!llB L T0 G Q' c && !tlB L T0 G Q' c) = false := fun Q' a1 a2 a3 => ⟨hb, a1, a2, safe_of a3⟩
    refine js_guard (b := false) ((jt_or (jt_not (jt_test (jc_is_plan (bk, Q) (ja_cons (j_var rfl) (ja_cons (j_var rfl) ja_nil)) ⟨hb, by show Q.1.length ≤ 1000; omega, by show Q.2.length ≤ 1000; omega⟩))) fun _ => jt_not (jt_test (jc_is_safe (bk, L, T0, G, Q) (ja_cons (j_var rfl) (ja_cons (j_var rfl) (ja_cons (j_var rfl) (ja_cons (j_var rfl) (ja_cons (j_var rfl) ja_nil))))) (pre5 Q l1 l2 hfo)))).is (by rw [hpl]; rfl)) (fun z => nomatch z) fun _ => ?_
    refine js_guard (b := false) ((jt_not (jt_test (jc_follows (bk, L, T0, G, Q, o) (ja_cons (j_var rfl) (ja_cons (j_var rfl) (ja_cons (j_var rfl) (ja_cons (j_var rfl) (ja_cons (j_var rfl) (ja_cons (j_var rfl) ja_nil)))))) ⟨hb, l1, l2, hgo⟩))).is (by rw [hfo]; rfl)) (fun z => nomatch z) fun _ => ?_
    refine js_guard (b := false) ((jt_not (jt_test (jc_law_no_less (bk, L, T0, G, Q, o) (ja_cons (j_var rfl) (ja_cons (j_var rfl) (ja_cons (j_var rfl) (ja_cons (j_var rfl) (ja_cons (j_var rfl) (ja_cons (j_var rfl) ja_nil)))))) ⟨hb, l1, l2, hgo, fun y k hk => by have := no_less (L := L) (T := T0) (G := G) g y k hk; rw [hPeq] at this; exact this⟩))).is rfl) (fun z => nomatch z) fun _ => ?_
    have hfg : Good bk (foundO bk L T0 G Q) := found_good g l1 l2 hpl hfo hL.2 hT.2 hG.2
    refine js_guard (b := false) ((jt_not (jt_test (jc_is_good (bk, foundO bk L T0 G Q) (ja_cons (j_var rfl) (ja_cons (jc_order_followed (bk, L, T0, G, Q) (ja_cons (j_var rfl) (ja_cons (j_var rfl) (ja_cons (j_var rfl) (ja_cons (j_var rfl) (ja_cons (j_var rfl) ja_nil))))) (pre5 Q l1 l2 hfo)) ja_nil)) ⟨hb, by show (foundO bk L T0 G Q).length ≤ 1000; rw [hfg.len]; omega⟩))).is (by rw [good_iff.mpr hfg]; rfl)) (fun z => nomatch z) fun _ => ?_
    refine js_then (js_asg (jc_law_later (bk, L, T0, G, o) (n := 1) rfl (ja_cons (j_var rfl) (ja_cons (j_var rfl) (ja_cons (j_var rfl) (ja_cons (j_var rfl) (ja_cons (j_var rfl) ja_nil))))) ⟨hb, hgo⟩)) (js_open (n := 10) rfl fun m hm => ?_)
    refine js_ps (Ps' := [.no, .bag, _, .pl (da (bkT bk)), .pl (da (p2D L)), .pl (da (p2D T0)), .pl (da (p2D G)), .pl (isBk C bk), .pl (dS (ordS o)), .pl (da (plnD Q)), .pl (da (plnD (splitM o m))), .no, .no, .no]) rfl ?_
    have hm : SolK bk L T0 G o o.length m := hm
    obtain ⟨m1, m2⟩ := split_len g hm.1
    have hmf : (planB (msL bk) (splitM o m) && folB bk L T0 G (splitM o m) o) = true := (sol_iff g m1 m2).mpr (sol_split g hm)
    rw [Bool.and_eq_true] at hmf
    obtain ⟨_, hmf⟩ := hmf
    refine js_guard (b := false) ((jt_or (jt_not (jt_test (jc_follows (bk, L, T0, G, splitM o m, o) (ja_cons (j_var rfl) (ja_cons (j_var rfl) (ja_cons (j_var rfl) (ja_cons (j_var rfl) (ja_cons (j_var rfl) (ja_cons (j_var rfl) ja_nil)))))) ⟨hb, m1, m2, hgo⟩))) fun _ => jt_not (jt_test (jc_is_safe (bk, L, T0, G, splitM o m) (ja_cons (j_var rfl) (ja_cons (j_var rfl) (ja_cons (j_var rfl) (ja_cons (j_var rfl) (ja_cons (j_var rfl) ja_nil))))) (pre5 _ m1 m2 hmf)))).is (by rw [hmf]; rfl)) (fun z => nomatch z) fun _ => ?_
    have n1 := not_less (L := L) (T := T0) (G := G) g hm false
    have n2 := not_less (L := L) (T := T0) (G := G) g hm true
    rw [hPeq] at n1 n2
    refine js_guard (b := false) ((jt_or (jt_not (jt_test (jc_law_all_not_less ((splitM o m).1, Q.1) (ja_cons (j_ixT (ds := [intsD (splitM o m).1, intsD (splitM o m).2]) (j_var rfl) j_int rfl) (ja_cons (j_ixT (ds := [intsD Q.1, intsD Q.2]) (j_var rfl) j_int rfl) ja_nil)) ⟨by show Q.1.length = (splitM o m).1.length; omega, by show (splitM o m).1.length ≤ 1000; omega⟩))) fun _ => jt_not (jt_test (jc_law_all_not_less ((splitM o m).2, Q.2) (ja_cons (j_ixT (ds := [intsD (splitM o m).1, intsD (splitM o m).2]) (j_var rfl) j_int rfl) (ja_cons (j_ixT (ds := [intsD Q.1, intsD Q.2]) (j_var rfl) j_int rfl) ja_nil)) ⟨by show Q.2.length = (splitM o m).2.length; omega, by show (splitM o m).2.length ≤ 1000; omega⟩))).is ?_) (fun z => nomatch z) fun _ => ?_
    · have n1 : notLess (splitM o m).1 Q.1 = true := n1
      have n2 : notLess (splitM o m).2 Q.2 = true := n2
      rw [n1, n2]
      rfl
    refine js_guard (b := false) ((jt_not (jt_test (jc_law_forced_go_up (bk, L, T0, G, Q, o) (ja_cons (j_var rfl) (ja_cons (j_var rfl) (ja_cons (j_var rfl) (ja_cons (j_var rfl) (ja_cons (j_var rfl) (ja_cons (j_var rfl) ja_nil)))))) ⟨hb, l1, l2, hgo, fun k s y h1 h2 => by have := forced_up (L := L) (T := T0) (G := G) g h1 h2; rw [hPeq] at this; exact this, fun k s h1 => forced_lt g h1⟩))).is rfl) (fun z => nomatch z) fun _ => ?_
    refine js_then (js_asg (P1 := dIn fun _ => True) (j_drawX (n := 1) (φ := fun ds : List PyData => ds.length = 3 ∧ ∀ d ∈ ds, ∃ i, d = .int i) (Pf := fun ds => da (.list ds)) rfl ((j_lstX (jdx_cons (ex_da (j_addX (χ := fun _ => True) (j_dIn j_int) (jc_law_take 9 (n := 1) rfl j_int (by decide)) fun _ _ _ _ => trivial)) (jdx_cons (ex_da (j_dIn (j_neg j_int))) (jdx_cons (ex_da (j_dIn (j_I j_int j_int (by unfold CPow; decide)))) jdx_nil))) fun ds h => by obtain ⟨_, _, rfl, _, _, _, rfl, _, _, _, rfl, _, rfl⟩ := h; show 3 ≤ 100000; decide).weak fun H v ⟨ds, h, p⟩ => ⟨ds, by
      obtain ⟨_, _, rfl, ⟨i1, rfl, _⟩, _, _, rfl, ⟨i2, rfl, _⟩, _, _, rfl, ⟨i3, rfl, _⟩, rfl⟩ := h
      refine ⟨rfl, fun d hd => ?_⟩
      simp only [List.mem_cons, List.not_mem_nil, or_false] at hd
      rcases hd with rfl | rfl | rfl
      · exact ⟨_, rfl⟩
      · exact ⟨_, rfl⟩
      · exact ⟨_, rfl⟩, p⟩) fun ds h => ⟨ds, rfl, by have := h.1; show 0 < ds.length ∧ ds.length < 100000; omega, fun H v ⟨d, hd, p⟩ => by
      obtain ⟨i, rfl⟩ := h.2 d hd
      exact ⟨i, trivial, p⟩⟩)) (js_open (n := 11) rfl fun k _ => ?_)
    refine js_ps (Ps' := [.no, .bag, _, .pl (da (bkT bk)), .pl (da (p2D L)), .pl (da (p2D T0)), .pl (da (p2D G)), .pl (isBk C bk), .pl (dS (ordS o)), .pl (da (plnD Q)), .pl (da (plnD (splitM o m))), .pl (dI k), .no, .no]) rfl ?_
    have gm := g.mv k
    have hgm : goodB (mvB bk k) o = true := good_iff.mpr gm
    have hbm : (mvB bk k).2.length ≤ 7 := by rw [mv_n]; exact hb
    have hml := mv_least (L := L) (T := T0) (G := G) (k := k) g
    rw [hPeq] at hml
    have hbkm : ∀ {Ps : List Sl}, Ps[7]? = some (.pl (isBk C bk)) → Ps[11]? = some (.pl (dI k)) → JE (tMeth C "moved" (spm_moved C) [] C8.E0 (tVar 7) (tCons (tVar 11) tNil)) Ps (isBk C (mvB bk k)) := fun {Ps} p1 p2 => jm_moved (bk, k) (j_var p1) (ja_cons (j_var p2) ja_nil) hbk
    let Qm : Pln := leastP (mvB bk k) L T0 G o
    refine js_then (js_asg (P1 := da (plnD Qm)) (jc_least_plan (mvB bk k, L, T0, G, o) (ja_cons (hbkm rfl rfl) (ja_cons (j_var rfl) (ja_cons (j_var rfl) (ja_cons (j_var rfl) (ja_cons (j_var rfl) ja_nil))))) ⟨hbm, hgm⟩)) ?_
    refine js_ps (Ps' := [.no, .bag, _, .pl (da (bkT bk)), .pl (da (p2D L)), .pl (da (p2D T0)), .pl (da (p2D G)), .pl (isBk C bk), .pl (dS (ordS o)), .pl (da (plnD Q)), .pl (da (plnD (splitM o m))), .pl (dI k), .pl (da (plnD Qm)), .no]) rfl ?_
    refine js_guard (b := false) ((jt_test (j_neD (j_var rfl) ((j_tup (jd_cons (j_lcA (xs := Q.1) (enc := .int) (v := fun i => .int (i + k)) (jw_list (j_ixT (ds := [intsD Q.1, intsD Q.2]) (j_var rfl) j_int rfl)) (by omega) fun i _ => ⟨[13], [.int i], tg_name, by simp, j_I0 (j_var rfl) (j_var rfl)⟩) (jd_cons (j_lcA (xs := Q.2) (enc := .int) (v := fun i => .int (i + k)) (jw_list (j_ixT (ds := [intsD Q.1, intsD Q.2]) (j_var rfl) j_int rfl)) (by omega) fun i _ => ⟨[13], [.int i], tg_name, by simp, j_I0 (j_var rfl) (j_var rfl)⟩) jd_nil)) (by show 2 ≤ 100000; decide)).dat (e := plnD Qm) ?_) (shp_pln _) (shp_pln _))).is (by rw [eqv_pln]; rfl)) (fun z => nomatch z) fun _ => ?_
    · show _ = plnD (leastP (mvB bk k) L T0 G o)
      rw [hml]
      unfold plnD intsD
      rw [List.map_map, List.map_map]
      rfl
    refine js_guard (b := false) ((jt_test (j_neD ((jc_forced_by (mvB bk k, L, T0, G, o) (ja_cons (hbkm rfl rfl) (ja_cons (j_var rfl) (ja_cons (j_var rfl) (ja_cons (j_var rfl) (ja_cons (j_var rfl) ja_nil))))) ⟨hbm, hgm⟩).dat (by rw [mv_fb g])) (jc_forced_by (bk, L, T0, G, o) (ja_cons (j_var rfl) (ja_cons (j_var rfl) (ja_cons (j_var rfl) (ja_cons (j_var rfl) (ja_cons (j_var rfl) ja_nil))))) ⟨hb, hgo⟩) (shp_opt _) (shp_opt _))).is (by rw [eqv_opt]; rfl)) (fun z => nomatch z) fun _ => ?_
    obtain ⟨k1, k2⟩ := least_len (L := L) (T := T0) (G := G) gm
    have hokm := least_ok (L := L) (T := T0) (G := G) gm
    rw [Bool.and_eq_true] at hokm
    refine js_guard (b := false) ((jt_not (jt_test (jc_follows (mvB bk k, L, T0, G, Qm, o) (ja_cons (hbkm rfl rfl) (ja_cons (j_var rfl) (ja_cons (j_var rfl) (ja_cons (j_var rfl) (ja_cons (j_var rfl) (ja_cons (j_var rfl) ja_nil)))))) ⟨hbm, k1, k2, hgm⟩))).is (by show (!folB (mvB bk k) L T0 G (leastP (mvB bk k) L T0 G o) o) = false; rw [hokm.2]; rfl)) (fun z => nomatch z) fun _ => ?_
    rw [mv_n] at k1 k2
    refine js_if (b := false) ((jt_and (jt_test (j_B0 (j_var rfl) j_int)) fun _ => jt_not (jt_test (jc_follows (bk, L, T0, G, Qm, o) (ja_cons (j_var rfl) (ja_cons (j_var rfl) (ja_cons (j_var rfl) (ja_cons (j_var rfl) (ja_cons (j_var rfl) (ja_cons (j_var rfl) ja_nil)))))) ⟨hb, k1, k2, hgo⟩))).is ?_) (fun z => nomatch z) fun _ => js_next.imp fun Qs q => ⟨_, q ▸ (by repeat first | exact True.intro | refine And.intro (Or.inr rfl) ?_ | refine And.intro (Or.inl rfl) ?_), rfl⟩
    show (decide (0 < k) && !folB bk L T0 G (leastP (mvB bk k) L T0 G o) o) = false
    by_cases hk : 0 < k
    · have := later_follows (L := L) (T := T0) (G := G) g hk
      rw [Bool.and_eq_true] at this
      rw [this.2]
      simp
    · rw [decide_eq_false hk]
      rfl
end
end LK
/-! text Head -/
namespace LH
open PySem PySem.Spec PyProof.Rows L2
def topS (i : Nat) : Stmt := PySem.Challenge.pw_labeltill_k48_whole_least_plans.main.body.getD i (.Pass ⟨0, 0, 0, 0⟩)

def d_is_integer : He.DefD := ⟨("is_integer", none), "is_integer", "is_integer", defArgs (topS 8), defBody (topS 8), defScope (topS 8), [], []⟩
def d_is_price : He.DefD := ⟨("is_price", none), "is_price", "is_price", defArgs (topS 9), defBody (topS 9), defScope (topS 9), [], []⟩
def d_is_change : He.DefD := ⟨("is_change", none), "is_change", "is_change", defArgs (topS 10), defBody (topS 10), defScope (topS 10), [], []⟩
def d_is_index : He.DefD := ⟨("is_index", none), "is_index", "is_index", defArgs (topS 11), defBody (topS 11), defScope (topS 11), [], []⟩
def d_are_moments : He.DefD := ⟨("are_moments", none), "are_moments", "are_moments", defArgs (topS 15), defBody (topS 15), defScope (topS 15), [], []⟩
def d_is_plan : He.DefD := ⟨("is_plan", none), "is_plan", "is_plan", defArgs (topS 17), defBody (topS 17), defScope (topS 17), [], []⟩
def d_are_sent : He.DefD := ⟨("are_sent", none), "are_sent", "are_sent", defArgs (topS 18), defBody (topS 18), defScope (topS 18), [], []⟩
def d_bad_cells : He.DefD := ⟨("bad_cells", none), "bad_cells", "bad_cells", defArgs (topS 19), defBody (topS 19), defScope (topS 19), [], []⟩
def d_label_leaves : He.DefD := ⟨("label_leaves", none), "label_leaves", "label_leaves", defArgs (topS 20), defBody (topS 20), defScope (topS 20), [], []⟩
def d_till_leaves : He.DefD := ⟨("till_leaves", none), "till_leaves", "till_leaves", defArgs (topS 21), defBody (topS 21), defScope (topS 21), [], []⟩
def d_can_meet : He.DefD := ⟨("can_meet", none), "can_meet", "can_meet", defArgs (topS 22), defBody (topS 22), defScope (topS 22), [], []⟩
def d_is_safe : He.DefD := ⟨("is_safe", none), "is_safe", "is_safe", defArgs (topS 23), defBody (topS 23), defScope (topS 23), [], []⟩
def d_harm : He.DefD := ⟨("harm", none), "harm", "harm", defArgs (topS 24), defBody (topS 24), defScope (topS 24), [], []⟩
def d_moved_on : He.DefD := ⟨("moved_on", none), "moved_on", "moved_on", defArgs (topS 27), defBody (topS 27), defScope (topS 27), [], []⟩
def d_is_order : He.DefD := ⟨("is_order", none), "is_order", "is_order", defArgs (topS 28), defBody (topS 28), defScope (topS 28), [], []⟩
def d_cells_of : He.DefD := ⟨("cells_of", none), "cells_of", "cells_of", defArgs (topS 29), defBody (topS 29), defScope (topS 29), [], []⟩
def d_is_good : He.DefD := ⟨("is_good", none), "is_good", "is_good", defArgs (topS 30), defBody (topS 30), defScope (topS 30), [], []⟩
def d_need_good : He.DefD := ⟨("need_good", none), "need_good", "need_good", defArgs (topS 31), defBody (topS 31), defScope (topS 31), [], []⟩
def d_ways_on : He.DefD := ⟨("ways_on", none), "ways_on", "ways_on", defArgs (topS 32), defBody (topS 32), defScope (topS 32), [], []⟩
def d_label_first : He.DefD := ⟨("label_first", none), "label_first", "label_first", defArgs (topS 33), defBody (topS 33), defScope (topS 33), [], []⟩
def d_place_of : He.DefD := ⟨("place_of", none), "place_of", "place_of", defArgs (topS 34), defBody (topS 34), defScope (topS 34), [], []⟩
def d_follows : He.DefD := ⟨("follows", none), "follows", "follows", defArgs (topS 35), defBody (topS 35), defScope (topS 35), [], []⟩
def d_order_followed : He.DefD := ⟨("order_followed", none), "order_followed", "order_followed", defArgs (topS 36), defBody (topS 36), defScope (topS 36), [], []⟩
def d_forces : He.DefD := ⟨("forces", none), "forces", "forces", defArgs (topS 38), defBody (topS 38), defScope (topS 38), [], []⟩
def d_letter_moments : He.DefD := ⟨("letter_moments", none), "letter_moments", "letter_moments", defArgs (topS 39), defBody (topS 39), defScope (topS 39), [], []⟩
def d_least_moments : He.DefD := ⟨("least_moments", none), "least_moments", "least_moments", defArgs (topS 40), defBody (topS 40), defScope (topS 40), [], []⟩
def d_plan_of : He.DefD := ⟨("plan_of", none), "plan_of", "plan_of", defArgs (topS 41), defBody (topS 41), defScope (topS 41), [], []⟩
def d_least_plan : He.DefD := ⟨("least_plan", none), "least_plan", "least_plan", defArgs (topS 42), defBody (topS 42), defScope (topS 42), [], []⟩
def d_forced_by : He.DefD := ⟨("forced_by", none), "forced_by", "forced_by", defArgs (topS 43), defBody (topS 43), defScope (topS 43), [], []⟩
def d_law_bag : He.DefD := ⟨("_law_bag", none), "_law_bag", "_law_bag", defArgs (topS 45), defBody (topS 45), defScope (topS 45), [], []⟩
def d_law_take : He.DefD := ⟨("_law_take", none), "_law_take", "_law_take", defArgs (topS 46), defBody (topS 46), defScope (topS 46), [], []⟩
def d_law_one : He.DefD := ⟨("_law_one", none), "_law_one", "_law_one", defArgs (topS 47), defBody (topS 47), defScope (topS 47), [], []⟩
def d_law_gap_of : He.DefD := ⟨("_law_gap_of", none), "_law_gap_of", "_law_gap_of", defArgs (topS 48), defBody (topS 48), defScope (topS 48), [], []⟩
def d_law_price : He.DefD := ⟨("_law_price", none), "_law_price", "_law_price", defArgs (topS 49), defBody (topS 49), defScope (topS 49), [], []⟩
def d_law_book : He.DefD := ⟨("_law_book", none), "_law_book", "_law_book", defArgs (topS 50), defBody (topS 50), defScope (topS 50), [], []⟩
def d_law_board : He.DefD := ⟨("_law_board", none), "_law_board", "_law_board", defArgs (topS 51), defBody (topS 51), defScope (topS 51), [], []⟩
def d_law_prices : He.DefD := ⟨("_law_prices", none), "_law_prices", "_law_prices", defArgs (topS 52), defBody (topS 52), defScope (topS 52), [], []⟩
def d_law_moments : He.DefD := ⟨("_law_moments", none), "_law_moments", "_law_moments", defArgs (topS 53), defBody (topS 53), defScope (topS 53), [], []⟩
def d_law_made : He.DefD := ⟨("_law_made", none), "_law_made", "_law_made", defArgs (topS 54), defBody (topS 54), defScope (topS 54), [], []⟩
def d_law_bad : He.DefD := ⟨("_law_bad", none), "_law_bad", "_law_bad", defArgs (topS 55), defBody (topS 55), defScope (topS 55), [], []⟩
def d_law_cells : He.DefD := ⟨("_law_cells", none), "_law_cells", "_law_cells", defArgs (topS 56), defBody (topS 56), defScope (topS 56), [], []⟩
def d_law_plain : He.DefD := ⟨("_law_plain", none), "_law_plain", "_law_plain", defArgs (topS 57), defBody (topS 57), defScope (topS 57), [], []⟩
def d_law_drawn_order : He.DefD := ⟨("_law_drawn_order", none), "_law_drawn_order", "_law_drawn_order", defArgs (topS 58), defBody (topS 58), defScope (topS 58), [], []⟩
def d_law_leading : He.DefD := ⟨("_law_leading", none), "_law_leading", "_law_leading", defArgs (topS 59), defBody (topS 59), defScope (topS 59), [], []⟩
def d_law_label_first : He.DefD := ⟨("_law_label_first", none), "_law_label_first", "_law_label_first", defArgs (topS 60), defBody (topS 60), defScope (topS 60), [], []⟩
def d_law_no_less : He.DefD := ⟨("_law_no_less", none), "_law_no_less", "_law_no_less", defArgs (topS 61), defBody (topS 61), defScope (topS 61), [], []⟩
def d_law_later : He.DefD := ⟨("_law_later", none), "_law_later", "_law_later", defArgs (topS 62), defBody (topS 62), defScope (topS 62), [], []⟩
def d_law_all_not_less : He.DefD := ⟨("_law_all_not_less", none), "_law_all_not_less", "_law_all_not_less", defArgs (topS 63), defBody (topS 63), defScope (topS 63), [], []⟩
def d_law_forced_go_up : He.DefD := ⟨("_law_forced_go_up", none), "_law_forced_go_up", "_law_forced_go_up", defArgs (topS 64), defBody (topS 64), defScope (topS 64), [], []⟩
def d_law : He.DefD := ⟨("law", none), "law", "law", defArgs (topS 65), defBody (topS 65), defScope (topS 65), [], []⟩
def dB_init : He.DefD := ⟨("Book", some "__init__"), "__init__", "Book.__init__", defArgs (inClass (topS 13) 0), defBody (inClass (topS 13) 0), defScope (inClass (topS 13) 0), [.adr (He.dflAt ("Book", some "__init__") 0)], []⟩
def dB_len : He.DefD := ⟨("Book", some "__len__"), "__len__", "Book.__len__", defArgs (inClass (topS 13) 1), defBody (inClass (topS 13) 1), defScope (inClass (topS 13) 1), [], []⟩
def dB_moments : He.DefD := ⟨("Book", some "moments"), "moments", "Book.moments", defArgs (inClass (topS 13) 6), defBody (inClass (topS 13) 6), defScope (inClass (topS 13) 6), [], []⟩
def dB_prices : He.DefD := ⟨("Book", some "prices"), "prices", "Book.prices", defArgs (inClass (topS 13) 7), defBody (inClass (topS 13) 7), defScope (inClass (topS 13) 7), [], []⟩
def dB_moved : He.DefD := ⟨("Book", some "moved"), "moved", "Book.moved", defArgs (inClass (topS 13) 10), defBody (inClass (topS 13) 10), defScope (inClass (topS 13) 10), [], []⟩
def fn : List He.DefD := [d_is_integer, d_is_price, d_is_change, d_is_index, d_are_moments, d_is_plan, d_are_sent, d_bad_cells, d_label_leaves, d_till_leaves, d_can_meet, d_is_safe, d_harm, d_moved_on, d_is_order, d_cells_of, d_is_good, d_need_good, d_ways_on, d_label_first, d_place_of, d_follows, d_order_followed, d_forces, d_letter_moments] ++ [d_least_moments, d_plan_of, d_least_plan, d_forced_by, d_law_bag, d_law_take, d_law_one, d_law_gap_of, d_law_price, d_law_book, d_law_board, d_law_prices, d_law_moments, d_law_made, d_law_bad, d_law_cells, d_law_plain, d_law_drawn_order, d_law_leading, d_law_label_first, d_law_no_less, d_law_later, d_law_all_not_less, d_law_forced_go_up, d_law, dB_init, dB_len, dB_moments, dB_prices, dB_moved]
def fa : List He.Fa := [.glo "is_integer", .glo "is_price", .glo "is_change", .glo "is_index", .glo "are_moments", .glo "is_plan", .glo "are_sent", .glo "bad_cells", .glo "label_leaves", .glo "till_leaves", .glo "can_meet", .glo "is_safe", .glo "harm", .glo "moved_on", .glo "is_order", .glo "cells_of", .glo "is_good", .glo "need_good", .glo "ways_on", .glo "label_first", .glo "place_of", .glo "follows", .glo "order_followed", .glo "forces", .glo "letter_moments", .glo "least_moments", .glo "plan_of", .glo "least_plan", .glo "forced_by", .glo "_law_bag"] ++ [.glo "_law_take", .glo "_law_one", .glo "_law_gap_of", .glo "_law_price", .glo "_law_book", .glo "_law_board", .glo "_law_prices", .glo "_law_moments", .glo "_law_made", .glo "_law_bad", .glo "_law_cells", .glo "_law_plain", .glo "_law_drawn_order", .glo "_law_leading", .glo "_law_label_first", .glo "_law_no_less", .glo "_law_later", .glo "_law_all_not_less", .glo "_law_forced_go_up", .glo "law", .glo "Book", .cls "Book", .mkr "Book", .meth "Book" "__len__", .meth "Book" "moments", .meth "Book" "prices", .meth "Book" "moved", .noat "Book" "its_changes", .noat "Book" "its_prices", .free "isinstance", .free "int", .free "bool", .free "tuple", .free "list", .free "all", .free "len", .free "range", .free "max", .free "min", .free "enumerate", .free "zip", .free "abs", .free "str"]
def names : List PySem.Str := (["_wall", "LabelError", "Wrong", "NotLater", "NoNumber", "NoOrder", "is_integer", "is_price", "is_change", "is_index", "Book", "are_moments", "is_plan", "are_sent", "bad_cells", "label_leaves", "till_leaves", "can_meet", "is_safe", "harm", "moments_at", "moved_on", "is_order", "cells_of", "is_good", "need_good", "ways_on", "label_first"] : List PySem.Str) ++ (["place_of", "follows", "order_followed", "forces", "letter_moments", "least_moments", "plan_of", "least_plan", "forced_by", "_law_bag", "_law_take", "_law_one", "_law_gap_of", "_law_price", "_law_book", "_law_board", "_law_prices", "_law_moments", "_law_made", "_law_bad", "_law_cells", "_law_plain", "_law_drawn_order", "_law_leading", "_law_label_first", "_law_no_less", "_law_later", "_law_all_not_less", "_law_forced_go_up"] : List PySem.Str)
abbrev R : PySem.W.OpenRow := PySem.W.OpenLaw.row PySem.Challenge.rw_labeltill_k48_whole_least_plans
abbrev hk : PySem.W.Hook := He.hookD 5 fa fn
def ob (s : PySem.W.SharedT) : He.AlD := He.obsDG 5 fa fn (HandSHeadRun.getT s)
theorem ob_eq (s : PySem.W.SharedT) : ob s = hk.obs s.abs := He.obsDG_eq (HandSHeadRun.getT_eq s)
theorem run (w : World) : HandSHeadRun.RunEq R (PySem.W.view R.prog [65]) hk ob 4000 names w := by
  intro os
  kernel_rfl
end LH
/-! text End -/
namespace LK
open PySem PySem.Spec PyProof.Rows L2
theorem top_of {K : PySem.W.Frag} {h : Heap} {mg : Str → Option Value} (X : K.In h) (G : h.Ns mainGlobals mg) (c : He.SaysD LH.fa LH.fn K) : Top mg where
  isinstance_ := He.free_ok X G (c.fact 59 (f := .free "isinstance") rfl)
  int_ := He.free_ok X G (c.fact 60 (f := .free "int") rfl)
  bool_ := He.free_ok X G (c.fact 61 (f := .free "bool") rfl)
  tuple_ := He.free_ok X G (c.fact 62 (f := .free "tuple") rfl)
  list_ := He.free_ok X G (c.fact 63 (f := .free "list") rfl)
  str_ := He.free_ok X G (c.fact 72 (f := .free "str") rfl)
  all_ := He.free_ok X G (c.fact 64 (f := .free "all") rfl)
  len_ := He.free_ok X G (c.fact 65 (f := .free "len") rfl)
  range_ := He.free_ok X G (c.fact 66 (f := .free "range") rfl)
  max_ := He.free_ok X G (c.fact 67 (f := .free "max") rfl)
  min_ := He.free_ok X G (c.fact 68 (f := .free "min") rfl)
  enumerate_ := He.free_ok X G (c.fact 69 (f := .free "enumerate") rfl)
  zip_ := He.free_ok X G (c.fact 70 (f := .free "zip") rfl)
  abs_ := He.free_ok X G (c.fact 71 (f := .free "abs") rfl)
theorem def_is_integer {K : PySem.W.Frag} {h : Heap} {mg : Str → Option Value} (X : K.In h) (G : h.Ns mainGlobals mg) (c : He.SaysD LH.fa LH.fn K) : Def1 K mg "is_integer" (topS 8) := by
  obtain ⟨fd, F⟩ := c.def_ 0 (d := LH.d_is_integer) rfl
  exact ⟨_, fd, F, He.glo_ok X G (c.fact 0 (f := .glo "is_integer") rfl)⟩
theorem def_is_price {K : PySem.W.Frag} {h : Heap} {mg : Str → Option Value} (X : K.In h) (G : h.Ns mainGlobals mg) (c : He.SaysD LH.fa LH.fn K) : Def1 K mg "is_price" (topS 9) := by
  obtain ⟨fd, F⟩ := c.def_ 1 (d := LH.d_is_price) rfl
  exact ⟨_, fd, F, He.glo_ok X G (c.fact 1 (f := .glo "is_price") rfl)⟩
theorem def_is_change {K : PySem.W.Frag} {h : Heap} {mg : Str → Option Value} (X : K.In h) (G : h.Ns mainGlobals mg) (c : He.SaysD LH.fa LH.fn K) : Def1 K mg "is_change" (topS 10) := by
  obtain ⟨fd, F⟩ := c.def_ 2 (d := LH.d_is_change) rfl
  exact ⟨_, fd, F, He.glo_ok X G (c.fact 2 (f := .glo "is_change") rfl)⟩
theorem def_is_index {K : PySem.W.Frag} {h : Heap} {mg : Str → Option Value} (X : K.In h) (G : h.Ns mainGlobals mg) (c : He.SaysD LH.fa LH.fn K) : Def1 K mg "is_index" (topS 11) := by
  obtain ⟨fd, F⟩ := c.def_ 3 (d := LH.d_is_index) rfl
  exact ⟨_, fd, F, He.glo_ok X G (c.fact 3 (f := .glo "is_index") rfl)⟩
theorem def_are_moments {K : PySem.W.Frag} {h : Heap} {mg : Str → Option Value} (X : K.In h) (G : h.Ns mainGlobals mg) (c : He.SaysD LH.fa LH.fn K) : Def1 K mg "are_moments" (topS 15) := by
  obtain ⟨fd, F⟩ := c.def_ 4 (d := LH.d_are_moments) rfl
  exact ⟨_, fd, F, He.glo_ok X G (c.fact 4 (f := .glo "are_moments") rfl)⟩
theorem def_is_plan {K : PySem.W.Frag} {h : Heap} {mg : Str → Option Value} (X : K.In h) (G : h.Ns mainGlobals mg) (c : He.SaysD LH.fa LH.fn K) : Def1 K mg "is_plan" (topS 17) := by
  obtain ⟨fd, F⟩ := c.def_ 5 (d := LH.d_is_plan) rfl
  exact ⟨_, fd, F, He.glo_ok X G (c.fact 5 (f := .glo "is_plan") rfl)⟩
theorem def_are_sent {K : PySem.W.Frag} {h : Heap} {mg : Str → Option Value} (X : K.In h) (G : h.Ns mainGlobals mg) (c : He.SaysD LH.fa LH.fn K) : Def1 K mg "are_sent" (topS 18) := by
  obtain ⟨fd, F⟩ := c.def_ 6 (d := LH.d_are_sent) rfl
  exact ⟨_, fd, F, He.glo_ok X G (c.fact 6 (f := .glo "are_sent") rfl)⟩
theorem def_bad_cells {K : PySem.W.Frag} {h : Heap} {mg : Str → Option Value} (X : K.In h) (G : h.Ns mainGlobals mg) (c : He.SaysD LH.fa LH.fn K) : Def1 K mg "bad_cells" (topS 19) := by
  obtain ⟨fd, F⟩ := c.def_ 7 (d := LH.d_bad_cells) rfl
  exact ⟨_, fd, F, He.glo_ok X G (c.fact 7 (f := .glo "bad_cells") rfl)⟩
theorem def_label_leaves {K : PySem.W.Frag} {h : Heap} {mg : Str → Option Value} (X : K.In h) (G : h.Ns mainGlobals mg) (c : He.SaysD LH.fa LH.fn K) : Def1 K mg "label_leaves" (topS 20) := by
  obtain ⟨fd, F⟩ := c.def_ 8 (d := LH.d_label_leaves) rfl
  exact ⟨_, fd, F, He.glo_ok X G (c.fact 8 (f := .glo "label_leaves") rfl)⟩
theorem def_till_leaves {K : PySem.W.Frag} {h : Heap} {mg : Str → Option Value} (X : K.In h) (G : h.Ns mainGlobals mg) (c : He.SaysD LH.fa LH.fn K) : Def1 K mg "till_leaves" (topS 21) := by
  obtain ⟨fd, F⟩ := c.def_ 9 (d := LH.d_till_leaves) rfl
  exact ⟨_, fd, F, He.glo_ok X G (c.fact 9 (f := .glo "till_leaves") rfl)⟩
theorem def_can_meet {K : PySem.W.Frag} {h : Heap} {mg : Str → Option Value} (X : K.In h) (G : h.Ns mainGlobals mg) (c : He.SaysD LH.fa LH.fn K) : Def1 K mg "can_meet" (topS 22) := by
  obtain ⟨fd, F⟩ := c.def_ 10 (d := LH.d_can_meet) rfl
  exact ⟨_, fd, F, He.glo_ok X G (c.fact 10 (f := .glo "can_meet") rfl)⟩
theorem def_is_safe {K : PySem.W.Frag} {h : Heap} {mg : Str → Option Value} (X : K.In h) (G : h.Ns mainGlobals mg) (c : He.SaysD LH.fa LH.fn K) : Def1 K mg "is_safe" (topS 23) := by
  obtain ⟨fd, F⟩ := c.def_ 11 (d := LH.d_is_safe) rfl
  exact ⟨_, fd, F, He.glo_ok X G (c.fact 11 (f := .glo "is_safe") rfl)⟩
theorem def_harm {K : PySem.W.Frag} {h : Heap} {mg : Str → Option Value} (X : K.In h) (G : h.Ns mainGlobals mg) (c : He.SaysD LH.fa LH.fn K) : Def1 K mg "harm" (topS 24) := by
  obtain ⟨fd, F⟩ := c.def_ 12 (d := LH.d_harm) rfl
  exact ⟨_, fd, F, He.glo_ok X G (c.fact 12 (f := .glo "harm") rfl)⟩
theorem def_moved_on {K : PySem.W.Frag} {h : Heap} {mg : Str → Option Value} (X : K.In h) (G : h.Ns mainGlobals mg) (c : He.SaysD LH.fa LH.fn K) : Def1 K mg "moved_on" (topS 27) := by
  obtain ⟨fd, F⟩ := c.def_ 13 (d := LH.d_moved_on) rfl
  exact ⟨_, fd, F, He.glo_ok X G (c.fact 13 (f := .glo "moved_on") rfl)⟩
theorem def_is_order {K : PySem.W.Frag} {h : Heap} {mg : Str → Option Value} (X : K.In h) (G : h.Ns mainGlobals mg) (c : He.SaysD LH.fa LH.fn K) : Def1 K mg "is_order" (topS 28) := by
  obtain ⟨fd, F⟩ := c.def_ 14 (d := LH.d_is_order) rfl
  exact ⟨_, fd, F, He.glo_ok X G (c.fact 14 (f := .glo "is_order") rfl)⟩
theorem def_cells_of {K : PySem.W.Frag} {h : Heap} {mg : Str → Option Value} (X : K.In h) (G : h.Ns mainGlobals mg) (c : He.SaysD LH.fa LH.fn K) : Def1 K mg "cells_of" (topS 29) := by
  obtain ⟨fd, F⟩ := c.def_ 15 (d := LH.d_cells_of) rfl
  exact ⟨_, fd, F, He.glo_ok X G (c.fact 15 (f := .glo "cells_of") rfl)⟩
theorem def_is_good {K : PySem.W.Frag} {h : Heap} {mg : Str → Option Value} (X : K.In h) (G : h.Ns mainGlobals mg) (c : He.SaysD LH.fa LH.fn K) : Def1 K mg "is_good" (topS 30) := by
  obtain ⟨fd, F⟩ := c.def_ 16 (d := LH.d_is_good) rfl
  exact ⟨_, fd, F, He.glo_ok X G (c.fact 16 (f := .glo "is_good") rfl)⟩
theorem def_need_good {K : PySem.W.Frag} {h : Heap} {mg : Str → Option Value} (X : K.In h) (G : h.Ns mainGlobals mg) (c : He.SaysD LH.fa LH.fn K) : Def1 K mg "need_good" (topS 31) := by
  obtain ⟨fd, F⟩ := c.def_ 17 (d := LH.d_need_good) rfl
  exact ⟨_, fd, F, He.glo_ok X G (c.fact 17 (f := .glo "need_good") rfl)⟩
theorem def_ways_on {K : PySem.W.Frag} {h : Heap} {mg : Str → Option Value} (X : K.In h) (G : h.Ns mainGlobals mg) (c : He.SaysD LH.fa LH.fn K) : Def1 K mg "ways_on" (topS 32) := by
  obtain ⟨fd, F⟩ := c.def_ 18 (d := LH.d_ways_on) rfl
  exact ⟨_, fd, F, He.glo_ok X G (c.fact 18 (f := .glo "ways_on") rfl)⟩
theorem def_label_first {K : PySem.W.Frag} {h : Heap} {mg : Str → Option Value} (X : K.In h) (G : h.Ns mainGlobals mg) (c : He.SaysD LH.fa LH.fn K) : Def1 K mg "label_first" (topS 33) := by
  obtain ⟨fd, F⟩ := c.def_ 19 (d := LH.d_label_first) rfl
  exact ⟨_, fd, F, He.glo_ok X G (c.fact 19 (f := .glo "label_first") rfl)⟩
theorem def_place_of {K : PySem.W.Frag} {h : Heap} {mg : Str → Option Value} (X : K.In h) (G : h.Ns mainGlobals mg) (c : He.SaysD LH.fa LH.fn K) : Def1 K mg "place_of" (topS 34) := by
  obtain ⟨fd, F⟩ := c.def_ 20 (d := LH.d_place_of) rfl
  exact ⟨_, fd, F, He.glo_ok X G (c.fact 20 (f := .glo "place_of") rfl)⟩
theorem def_follows {K : PySem.W.Frag} {h : Heap} {mg : Str → Option Value} (X : K.In h) (G : h.Ns mainGlobals mg) (c : He.SaysD LH.fa LH.fn K) : Def1 K mg "follows" (topS 35) := by
  obtain ⟨fd, F⟩ := c.def_ 21 (d := LH.d_follows) rfl
  exact ⟨_, fd, F, He.glo_ok X G (c.fact 21 (f := .glo "follows") rfl)⟩
theorem def_order_followed {K : PySem.W.Frag} {h : Heap} {mg : Str → Option Value} (X : K.In h) (G : h.Ns mainGlobals mg) (c : He.SaysD LH.fa LH.fn K) : Def1 K mg "order_followed" (topS 36) := by
  obtain ⟨fd, F⟩ := c.def_ 22 (d := LH.d_order_followed) rfl
  exact ⟨_, fd, F, He.glo_ok X G (c.fact 22 (f := .glo "order_followed") rfl)⟩
theorem def_forces {K : PySem.W.Frag} {h : Heap} {mg : Str → Option Value} (X : K.In h) (G : h.Ns mainGlobals mg) (c : He.SaysD LH.fa LH.fn K) : Def1 K mg "forces" (topS 38) := by
  obtain ⟨fd, F⟩ := c.def_ 23 (d := LH.d_forces) rfl
  exact ⟨_, fd, F, He.glo_ok X G (c.fact 23 (f := .glo "forces") rfl)⟩
theorem def_letter_moments {K : PySem.W.Frag} {h : Heap} {mg : Str → Option Value} (X : K.In h) (G : h.Ns mainGlobals mg) (c : He.SaysD LH.fa LH.fn K) : Def1 K mg "letter_moments" (topS 39) := by
  obtain ⟨fd, F⟩ := c.def_ 24 (d := LH.d_letter_moments) rfl
  exact ⟨_, fd, F, He.glo_ok X G (c.fact 24 (f := .glo "letter_moments") rfl)⟩
theorem def_least_moments {K : PySem.W.Frag} {h : Heap} {mg : Str → Option Value} (X : K.In h) (G : h.Ns mainGlobals mg) (c : He.SaysD LH.fa LH.fn K) : Def1 K mg "least_moments" (topS 40) := by
  obtain ⟨fd, F⟩ := c.def_ 25 (d := LH.d_least_moments) rfl
  exact ⟨_, fd, F, He.glo_ok X G (c.fact 25 (f := .glo "least_moments") rfl)⟩
theorem def_plan_of {K : PySem.W.Frag} {h : Heap} {mg : Str → Option Value} (X : K.In h) (G : h.Ns mainGlobals mg) (c : He.SaysD LH.fa LH.fn K) : Def1 K mg "plan_of" (topS 41) := by
  obtain ⟨fd, F⟩ := c.def_ 26 (d := LH.d_plan_of) rfl
  exact ⟨_, fd, F, He.glo_ok X G (c.fact 26 (f := .glo "plan_of") rfl)⟩
theorem def_least_plan {K : PySem.W.Frag} {h : Heap} {mg : Str → Option Value} (X : K.In h) (G : h.Ns mainGlobals mg) (c : He.SaysD LH.fa LH.fn K) : Def1 K mg "least_plan" (topS 42) := by
  obtain ⟨fd, F⟩ := c.def_ 27 (d := LH.d_least_plan) rfl
  exact ⟨_, fd, F, He.glo_ok X G (c.fact 27 (f := .glo "least_plan") rfl)⟩
theorem def_forced_by {K : PySem.W.Frag} {h : Heap} {mg : Str → Option Value} (X : K.In h) (G : h.Ns mainGlobals mg) (c : He.SaysD LH.fa LH.fn K) : Def1 K mg "forced_by" (topS 43) := by
  obtain ⟨fd, F⟩ := c.def_ 28 (d := LH.d_forced_by) rfl
  exact ⟨_, fd, F, He.glo_ok X G (c.fact 28 (f := .glo "forced_by") rfl)⟩
theorem def_law_bag {K : PySem.W.Frag} {h : Heap} {mg : Str → Option Value} (X : K.In h) (G : h.Ns mainGlobals mg) (c : He.SaysD LH.fa LH.fn K) : Def1 K mg "_law_bag" (topS 45) := by
  obtain ⟨fd, F⟩ := c.def_ 29 (d := LH.d_law_bag) rfl
  exact ⟨_, fd, F, He.glo_ok X G (c.fact 29 (f := .glo "_law_bag") rfl)⟩
theorem def_law_take {K : PySem.W.Frag} {h : Heap} {mg : Str → Option Value} (X : K.In h) (G : h.Ns mainGlobals mg) (c : He.SaysD LH.fa LH.fn K) : Def1 K mg "_law_take" (topS 46) := by
  obtain ⟨fd, F⟩ := c.def_ 30 (d := LH.d_law_take) rfl
  exact ⟨_, fd, F, He.glo_ok X G (c.fact 30 (f := .glo "_law_take") rfl)⟩
theorem def_law_one {K : PySem.W.Frag} {h : Heap} {mg : Str → Option Value} (X : K.In h) (G : h.Ns mainGlobals mg) (c : He.SaysD LH.fa LH.fn K) : Def1 K mg "_law_one" (topS 47) := by
  obtain ⟨fd, F⟩ := c.def_ 31 (d := LH.d_law_one) rfl
  exact ⟨_, fd, F, He.glo_ok X G (c.fact 31 (f := .glo "_law_one") rfl)⟩
theorem def_law_gap_of {K : PySem.W.Frag} {h : Heap} {mg : Str → Option Value} (X : K.In h) (G : h.Ns mainGlobals mg) (c : He.SaysD LH.fa LH.fn K) : Def1 K mg "_law_gap_of" (topS 48) := by
  obtain ⟨fd, F⟩ := c.def_ 32 (d := LH.d_law_gap_of) rfl
  exact ⟨_, fd, F, He.glo_ok X G (c.fact 32 (f := .glo "_law_gap_of") rfl)⟩
theorem def_law_price {K : PySem.W.Frag} {h : Heap} {mg : Str → Option Value} (X : K.In h) (G : h.Ns mainGlobals mg) (c : He.SaysD LH.fa LH.fn K) : Def1 K mg "_law_price" (topS 49) := by
  obtain ⟨fd, F⟩ := c.def_ 33 (d := LH.d_law_price) rfl
  exact ⟨_, fd, F, He.glo_ok X G (c.fact 33 (f := .glo "_law_price") rfl)⟩
theorem def_law_book {K : PySem.W.Frag} {h : Heap} {mg : Str → Option Value} (X : K.In h) (G : h.Ns mainGlobals mg) (c : He.SaysD LH.fa LH.fn K) : Def1 K mg "_law_book" (topS 50) := by
  obtain ⟨fd, F⟩ := c.def_ 34 (d := LH.d_law_book) rfl
  exact ⟨_, fd, F, He.glo_ok X G (c.fact 34 (f := .glo "_law_book") rfl)⟩
theorem def_law_board {K : PySem.W.Frag} {h : Heap} {mg : Str → Option Value} (X : K.In h) (G : h.Ns mainGlobals mg) (c : He.SaysD LH.fa LH.fn K) : Def1 K mg "_law_board" (topS 51) := by
  obtain ⟨fd, F⟩ := c.def_ 35 (d := LH.d_law_board) rfl
  exact ⟨_, fd, F, He.glo_ok X G (c.fact 35 (f := .glo "_law_board") rfl)⟩
theorem def_law_prices {K : PySem.W.Frag} {h : Heap} {mg : Str → Option Value} (X : K.In h) (G : h.Ns mainGlobals mg) (c : He.SaysD LH.fa LH.fn K) : Def1 K mg "_law_prices" (topS 52) := by
  obtain ⟨fd, F⟩ := c.def_ 36 (d := LH.d_law_prices) rfl
  exact ⟨_, fd, F, He.glo_ok X G (c.fact 36 (f := .glo "_law_prices") rfl)⟩
theorem def_law_moments {K : PySem.W.Frag} {h : Heap} {mg : Str → Option Value} (X : K.In h) (G : h.Ns mainGlobals mg) (c : He.SaysD LH.fa LH.fn K) : Def1 K mg "_law_moments" (topS 53) := by
  obtain ⟨fd, F⟩ := c.def_ 37 (d := LH.d_law_moments) rfl
  exact ⟨_, fd, F, He.glo_ok X G (c.fact 37 (f := .glo "_law_moments") rfl)⟩
theorem def_law_made {K : PySem.W.Frag} {h : Heap} {mg : Str → Option Value} (X : K.In h) (G : h.Ns mainGlobals mg) (c : He.SaysD LH.fa LH.fn K) : Def1 K mg "_law_made" (topS 54) := by
  obtain ⟨fd, F⟩ := c.def_ 38 (d := LH.d_law_made) rfl
  exact ⟨_, fd, F, He.glo_ok X G (c.fact 38 (f := .glo "_law_made") rfl)⟩
theorem def_law_bad {K : PySem.W.Frag} {h : Heap} {mg : Str → Option Value} (X : K.In h) (G : h.Ns mainGlobals mg) (c : He.SaysD LH.fa LH.fn K) : Def1 K mg "_law_bad" (topS 55) := by
  obtain ⟨fd, F⟩ := c.def_ 39 (d := LH.d_law_bad) rfl
  exact ⟨_, fd, F, He.glo_ok X G (c.fact 39 (f := .glo "_law_bad") rfl)⟩
theorem def_law_cells {K : PySem.W.Frag} {h : Heap} {mg : Str → Option Value} (X : K.In h) (G : h.Ns mainGlobals mg) (c : He.SaysD LH.fa LH.fn K) : Def1 K mg "_law_cells" (topS 56) := by
  obtain ⟨fd, F⟩ := c.def_ 40 (d := LH.d_law_cells) rfl
  exact ⟨_, fd, F, He.glo_ok X G (c.fact 40 (f := .glo "_law_cells") rfl)⟩
theorem def_law_plain {K : PySem.W.Frag} {h : Heap} {mg : Str → Option Value} (X : K.In h) (G : h.Ns mainGlobals mg) (c : He.SaysD LH.fa LH.fn K) : Def1 K mg "_law_plain" (topS 57) := by
  obtain ⟨fd, F⟩ := c.def_ 41 (d := LH.d_law_plain) rfl
  exact ⟨_, fd, F, He.glo_ok X G (c.fact 41 (f := .glo "_law_plain") rfl)⟩
theorem def_law_drawn_order {K : PySem.W.Frag} {h : Heap} {mg : Str → Option Value} (X : K.In h) (G : h.Ns mainGlobals mg) (c : He.SaysD LH.fa LH.fn K) : Def1 K mg "_law_drawn_order" (topS 58) := by
  obtain ⟨fd, F⟩ := c.def_ 42 (d := LH.d_law_drawn_order) rfl
  exact ⟨_, fd, F, He.glo_ok X G (c.fact 42 (f := .glo "_law_drawn_order") rfl)⟩
theorem def_law_leading {K : PySem.W.Frag} {h : Heap} {mg : Str → Option Value} (X : K.In h) (G : h.Ns mainGlobals mg) (c : He.SaysD LH.fa LH.fn K) : Def1 K mg "_law_leading" (topS 59) := by
  obtain ⟨fd, F⟩ := c.def_ 43 (d := LH.d_law_leading) rfl
  exact ⟨_, fd, F, He.glo_ok X G (c.fact 43 (f := .glo "_law_leading") rfl)⟩
theorem def_law_label_first {K : PySem.W.Frag} {h : Heap} {mg : Str → Option Value} (X : K.In h) (G : h.Ns mainGlobals mg) (c : He.SaysD LH.fa LH.fn K) : Def1 K mg "_law_label_first" (topS 60) := by
  obtain ⟨fd, F⟩ := c.def_ 44 (d := LH.d_law_label_first) rfl
  exact ⟨_, fd, F, He.glo_ok X G (c.fact 44 (f := .glo "_law_label_first") rfl)⟩
theorem def_law_no_less {K : PySem.W.Frag} {h : Heap} {mg : Str → Option Value} (X : K.In h) (G : h.Ns mainGlobals mg) (c : He.SaysD LH.fa LH.fn K) : Def1 K mg "_law_no_less" (topS 61) := by
  obtain ⟨fd, F⟩ := c.def_ 45 (d := LH.d_law_no_less) rfl
  exact ⟨_, fd, F, He.glo_ok X G (c.fact 45 (f := .glo "_law_no_less") rfl)⟩
theorem def_law_later {K : PySem.W.Frag} {h : Heap} {mg : Str → Option Value} (X : K.In h) (G : h.Ns mainGlobals mg) (c : He.SaysD LH.fa LH.fn K) : Def1 K mg "_law_later" (topS 62) := by
  obtain ⟨fd, F⟩ := c.def_ 46 (d := LH.d_law_later) rfl
  exact ⟨_, fd, F, He.glo_ok X G (c.fact 46 (f := .glo "_law_later") rfl)⟩
theorem def_law_all_not_less {K : PySem.W.Frag} {h : Heap} {mg : Str → Option Value} (X : K.In h) (G : h.Ns mainGlobals mg) (c : He.SaysD LH.fa LH.fn K) : Def1 K mg "_law_all_not_less" (topS 63) := by
  obtain ⟨fd, F⟩ := c.def_ 47 (d := LH.d_law_all_not_less) rfl
  exact ⟨_, fd, F, He.glo_ok X G (c.fact 47 (f := .glo "_law_all_not_less") rfl)⟩
theorem def_law_forced_go_up {K : PySem.W.Frag} {h : Heap} {mg : Str → Option Value} (X : K.In h) (G : h.Ns mainGlobals mg) (c : He.SaysD LH.fa LH.fn K) : Def1 K mg "_law_forced_go_up" (topS 64) := by
  obtain ⟨fd, F⟩ := c.def_ 48 (d := LH.d_law_forced_go_up) rfl
  exact ⟨_, fd, F, He.glo_ok X G (c.fact 48 (f := .glo "_law_forced_go_up") rfl)⟩
theorem met_len {K : PySem.W.Frag} (c : He.SaysD LH.fa LH.fn K) : Met1 K (He.ga K "Book") "__len__" "Book.__len__" (inClass (topS 13) 1) := by
  obtain ⟨fd, F⟩ := c.def_ 51 (d := LH.dB_len) rfl
  exact ⟨_, fd, He.cls_ok (c.fact 51 (f := .cls "Book") rfl), He.meth_ok (c.fact 53 (f := .meth "Book" "__len__") rfl), F⟩
theorem met_moments {K : PySem.W.Frag} (c : He.SaysD LH.fa LH.fn K) : Met1 K (He.ga K "Book") "moments" "Book.moments" (inClass (topS 13) 6) := by
  obtain ⟨fd, F⟩ := c.def_ 52 (d := LH.dB_moments) rfl
  exact ⟨_, fd, He.cls_ok (c.fact 51 (f := .cls "Book") rfl), He.meth_ok (c.fact 54 (f := .meth "Book" "moments") rfl), F⟩
theorem met_prices {K : PySem.W.Frag} (c : He.SaysD LH.fa LH.fn K) : Met1 K (He.ga K "Book") "prices" "Book.prices" (inClass (topS 13) 7) := by
  obtain ⟨fd, F⟩ := c.def_ 53 (d := LH.dB_prices) rfl
  exact ⟨_, fd, He.cls_ok (c.fact 51 (f := .cls "Book") rfl), He.meth_ok (c.fact 55 (f := .meth "Book" "prices") rfl), F⟩
theorem met_moved {K : PySem.W.Frag} (c : He.SaysD LH.fa LH.fn K) : Met1 K (He.ga K "Book") "moved" "Book.moved" (inClass (topS 13) 10) := by
  obtain ⟨fd, F⟩ := c.def_ 54 (d := LH.dB_moved) rfl
  exact ⟨_, fd, He.cls_ok (c.fact 51 (f := .cls "Book") rfl), He.meth_ok (c.fact 56 (f := .meth "Book" "moved") rfl), F⟩
theorem init_book {K : PySem.W.Frag} {h : Heap} {mg : Str → Option Value} (X : K.In h) (G : h.Ns mainGlobals mg) (c : He.SaysD LH.fa LH.fn K) : Init1 K mg (He.ga K "Book") (inClass (topS 13) 0) := by
  obtain ⟨fd, F⟩ := c.def_ 50 (d := LH.dB_init) rfl
  exact ⟨_, fd, _, He.mkr_ok (c.fact 52 (f := .mkr "Book") rfl), He.glo_ok X G (c.fact 50 (f := .glo "Book") rfl), F⟩
theorem facts {P : Program} {w : World} {K : PySem.W.Frag} {h : Heap} {mg : Str → Option Value} {f : Addr} (X : K.In h) (G : h.Ns mainGlobals mg) (hfa : mg ("law" : Str) = some (.ref f)) (c : He.SaysD LH.fa LH.fn K) :
    ∃ fd : FuncData, (∀ (s : Shared) (v : Value), BindsTo s fd ⟨[v], []⟩ [("_law_script", v)]) ∧ ∀ base : Heap, K.In base → base.Ns mainGlobals mg → FnOk P w K mg base C8.CX0 8 f fd ["_law_script"] (spLaw K) := by
  obtain ⟨fd, F⟩ := c.def_ 49 (d := LH.d_law) rfl
  have e := hfa.symm.trans (He.glo_ok X G (c.fact 49 (f := .glo "law") rfl))
  cases e
  have b := FunD.bindsA (ps := ["_law_script"]) F fun _ _ _ _ _ _ us hl => match us, hl with | [_], _ => rfl
  refine ⟨fd, fun s v => b s [v] rfl, fun base _ _ => ?_⟩
  have T := top_of X G c
  have cC : Cls K (He.ga K "Book") := He.cls_ok (c.fact 51 (f := .cls "Book") rfl)
  have nC : NoAttr K (He.ga K "Book") "its_changes" := He.noat_ok (c.fact 57 (f := .noat "Book" "its_changes") rfl)
  have nP : NoAttr K (He.ga K "Book") "its_prices" := He.noat_ok (c.fact 58 (f := .noat "Book" "its_prices") rfl)
  have c_is_integer := cal_is_integer (P := P) (w := w) (mg := mg) (base := base) T (def_is_integer X G c)
  have c_is_price := cal_is_price (P := P) (w := w) (mg := mg) (base := base) (def_is_price X G c) c_is_integer
  have c_is_change := cal_is_change (P := P) (w := w) (mg := mg) (base := base) (def_is_change X G c) T c_is_integer c_is_price
  have m_moments := m_moments (P := P) (w := w) (mg := mg) (base := base) (met_moments c) cC nC nP
  have m_prices := m_prices (P := P) (w := w) (mg := mg) (base := base) (met_prices c) T cC nC nP
  have m_len := m_len (P := P) (w := w) (mg := mg) (base := base) (met_len c) T cC nC nP
  have mkBook := mkBook (P := P) (w := w) (mg := mg) (base := base) (init_book X G c) T c_is_price c_is_change cC nC nP
  have c_are_moments := cal_are_moments (P := P) (w := w) (mg := mg) (base := base) (def_are_moments X G c) T c_is_integer
  have c_are_sent := cal_are_sent (P := P) (w := w) (mg := mg) (base := base) (def_are_sent X G c) T c_are_moments m_moments
  have c_is_plan := cal_is_plan (P := P) (w := w) (mg := mg) (base := base) (def_is_plan X G c) T c_are_sent
  have c_bad_cells := cal_bad_cells (P := P) (w := w) (mg := mg) (base := base) (def_bad_cells X G c) T m_prices
  have c_label_leaves := cal_label_leaves (P := P) (w := w) (mg := mg) (base := base) (def_label_leaves X G c) T
  have c_till_leaves := cal_till_leaves (P := P) (w := w) (mg := mg) (base := base) (def_till_leaves X G c) T
  have c_can_meet := cal_can_meet (P := P) (w := w) (mg := mg) (base := base) (def_can_meet X G c) c_label_leaves c_till_leaves
  have c_harm := cal_harm (P := P) (w := w) (mg := mg) (base := base) (def_harm X G c) c_bad_cells c_can_meet
  have c_is_safe := cal_is_safe (P := P) (w := w) (mg := mg) (base := base) (def_is_safe X G c) c_harm
  have c_moved_on := cal_moved_on (P := P) (w := w) (mg := mg) (base := base) (def_moved_on X G c)
  have c_is_order := cal_is_order (P := P) (w := w) (mg := mg) (base := base) (def_is_order X G c) T m_len
  have c_cells_of := cal_cells_of (P := P) (w := w) (mg := mg) (base := base) (def_cells_of X G c) c_moved_on
  have c_is_good := cal_is_good (P := P) (w := w) (mg := mg) (base := base) (def_is_good X G c) T c_is_order c_bad_cells c_cells_of
  have c_need_good := cal_need_good (P := P) (w := w) (mg := mg) (base := base) (def_need_good X G c) c_is_good
  have c_place_of := cal_place_of (P := P) (w := w) (mg := mg) (base := base) (def_place_of X G c) T
  have c_label_first := cal_label_first (P := P) (w := w) (mg := mg) (base := base) (def_label_first X G c) c_place_of
  have c_follows := cal_follows (P := P) (w := w) (mg := mg) (base := base) (def_follows X G c) c_need_good c_bad_cells c_label_first c_label_leaves c_till_leaves
  have c_ways_on := cal_ways_on (P := P) (w := w) (mg := mg) (base := base) (def_ways_on X G c) T m_len
  have c_order_followed := cal_order_followed (P := P) (w := w) (mg := mg) (base := base) (def_order_followed X G c) T m_len c_bad_cells c_label_leaves c_till_leaves c_ways_on c_moved_on
  have c_forces := cal_forces (P := P) (w := w) (mg := mg) (base := base) (def_forces X G c) T c_bad_cells c_label_first c_place_of
  have c_letter_moments := cal_letter_moments (P := P) (w := w) (mg := mg) (base := base) (def_letter_moments X G c) T m_moments
  have c_least_moments := cal_least_moments (P := P) (w := w) (mg := mg) (base := base) (def_least_moments X G c) T c_letter_moments c_forces
  have c_plan_of := cal_plan_of (P := P) (w := w) (mg := mg) (base := base) (def_plan_of X G c) T
  have c_least_plan := cal_least_plan (P := P) (w := w) (mg := mg) (base := base) (def_least_plan X G c) c_need_good c_plan_of c_least_moments
  have c_forced_by := cal_forced_by (P := P) (w := w) (mg := mg) (base := base) (def_forced_by X G c) T c_need_good c_letter_moments c_least_moments c_forces
  have m_moved := m_moved (P := P) (w := w) (mg := mg) (base := base) (met_moved c) mkBook cC nC nP
  have c_law_bag := cal_law_bag (P := P) (w := w) (mg := mg) (base := base) (def_law_bag X G c) T
  have c_law_take := cal_law_take (P := P) (w := w) (mg := mg) (base := base) (def_law_take X G c) T
  have c_law_one := cal_law_one (P := P) (w := w) (mg := mg) (base := base) (def_law_one X G c) T c_law_take
  have c_law_gap_of := cal_law_gap_of (P := P) (w := w) (mg := mg) (base := base) (def_law_gap_of X G c) c_law_take
  have c_law_price := cal_law_price (P := P) (w := w) (mg := mg) (base := base) (def_law_price X G c) c_law_take
  have c_law_book := cal_law_book (P := P) (w := w) (mg := mg) (base := base) (def_law_book X G c) T c_law_take c_law_one c_law_gap_of c_law_price
  have c_law_board := cal_law_board (P := P) (w := w) (mg := mg) (base := base) (def_law_board X G c) c_law_take c_law_one c_law_gap_of
  have c_law_prices := cal_law_prices (P := P) (w := w) (mg := mg) (base := base) (def_law_prices X G c)
  have c_law_moments := cal_law_moments (P := P) (w := w) (mg := mg) (base := base) (def_law_moments X G c)
  have c_law_made := cal_law_made (P := P) (w := w) (mg := mg) (base := base) (def_law_made X G c) T mkBook c_law_take
  have c_law_bad := cal_law_bad (P := P) (w := w) (mg := mg) (base := base) (def_law_bad X G c) T c_law_prices
  have c_law_cells := cal_law_cells (P := P) (w := w) (mg := mg) (base := base) (def_law_cells X G c) T
  have c_law_plain := cal_law_plain (P := P) (w := w) (mg := mg) (base := base) (def_law_plain X G c) T c_law_prices
  have c_law_label_first := cal_law_label_first (P := P) (w := w) (mg := mg) (base := base) (def_law_label_first X G c) T c_law_cells
  have c_law_all_not_less := cal_law_all_not_less (P := P) (w := w) (mg := mg) (base := base) (def_law_all_not_less X G c) T
  have c_law_leading := cal_law_leading (P := P) (w := w) (mg := mg) (base := base) (def_law_leading X G c) T
  have c_law_drawn_order := cal_law_drawn_order (P := P) (w := w) (mg := mg) (base := base) (def_law_drawn_order X G c) T c_law_take c_law_one c_law_bad c_law_plain c_law_leading
  have c_law_no_less := cal_law_no_less (P := P) (w := w) (mg := mg) (base := base) (def_law_no_less X G c) T c_is_plan c_follows
  have c_law_forced_go_up := cal_law_forced_go_up (P := P) (w := w) (mg := mg) (base := base) (def_law_forced_go_up X G c) T c_is_plan c_follows c_forced_by
  have c_law_later := cal_law_later (P := P) (w := w) (mg := mg) (base := base) (def_law_later X G c) T c_law_take c_law_moments c_law_bad c_law_label_first
  exact ok_law F T c_law_bag c_law_take c_law_one c_law_book c_law_board c_law_made c_law_drawn_order c_least_plan c_is_plan c_is_safe c_follows c_law_no_less c_is_good c_order_followed c_law_later c_law_all_not_less c_law_forced_go_up m_moved c_forced_by
end LK
open PySem PySem.W PySem.Calls PyProof.Rows
theorem PySem.Challenge.cw_labeltill_k48_whole_least_plans_holds : PySem.Challenge.rw_labeltill_k48_whole_least_plans.Holds := by
  w_on; o_law
  refine HandSHeadRun.head_any (r := OpenLaw.row PySem.Challenge.rw_labeltill_k48_whole_least_plans) (q := view (OpenLaw.row PySem.Challenge.rw_labeltill_k48_whole_least_plans).prog [65]) (H := LH.hk) (ob := LH.ob) (M := 4000) (loose := LH.names) (d := HandSHeadRun.topDef (OpenLaw.row PySem.Challenge.rw_labeltill_k48_whole_least_plans).prog 65) (kwd := []) LH.ob_eq
    (by kernel_rfl) (fun s => by kernel_rfl) LH.run (by kernel_rfl) (by kernel_rfl) (by kernel_rfl) (by rfl) (by first | assumption | decide +kernel) (by decide +kernel) ⟨rfl, rfl, rfl, rfl, rfl, by decide +kernel⟩ ?hw ?hc
  case hw => w_witness2
  case hc =>
    refine L2.walk_ofE (l := PySem.Challenge.rw_labeltill_k48_whole_least_plans) (n := 63) (k := 8) (x := "_law_script") (CX := C8.CX0) rfl (by decide) (by kernel_rfl) ⟨rfl, by decide, by decide⟩ ?F (fun _ _ _ _ z => z)
    intro w mg fa h Y G hmg0
    obtain ⟨K, KX, c⟩ := Y
    have hmg : mg ("law" : PySem.Str) = some (.ref fa) := by
      have e : (HandSHeadRun.topDef (OpenLaw.row PySem.Challenge.rw_labeltill_k48_whole_least_plans).prog 65).name = ("law" : PySem.Str) := by kernel_rfl
      rw [← e]
      exact hmg0
    obtain ⟨fd, hb, hF⟩ := LK.facts (P := (PySem.Challenge.rw_labeltill_k48_whole_least_plans).prog) (w := w) KX G hmg c
    exact ⟨K, fd, LK.spLaw K, KX, hb, fun H a ns hl _ hS => ⟨a, ns, rfl, hl, hS, fun _ => rfl⟩, hF⟩
